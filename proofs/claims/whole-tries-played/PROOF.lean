import PyProof.Rows.All
import Wide.All
import OpenK.AllK
import Wide.FinOn
import HandS.ForMost
import KE.KeyNested
import HandS.TupAny
import HandS.Deep
import HandS.IsInst
import PyProof.DictRoadsH
import KE.KDictKeyed
import KE.KDictWalk
import HandS.Zip
import HandS.Iter
import KE.GoesEnum
import KE.KDictZip
import PyProof.EnumMake
import KE.KDictPairs
import KE.KDictCopyH
import HandS.Keys
import HandS.Style
import HandS.FStrTup
import KE.LtSeq
import KE.KSortTup
import HandS.Sort
import HandS.RaiseMore
import HandS.DictTup
import HandS.SortKw
import KE.SortCalls
import KE.KSortTupAny
import KE.KSortKey
import PySem.Challenge.RW_onlyhigher_k60_whole_tries_played
set_option Elab.async false
set_option linter.all false
set_option maxRecDepth 100000
set_option maxHeartbeats 4000000
set_option autoImplicit false
/-! ## L3A -/
namespace L3
open PySem PySem.Spec L2
open PyProof.Rows hiding St

abbrev NK := NestedKey

/-- what a slot or an item is: fixed data, a truth value, a place in the store, a builtin class, the script -/
inductive D where
  | k (x : NK) | bl (b : Bool) | ref (a : Addr) | ty (n : String) | sq (ns : List Int) | pr (x : NK) (b : Bool) | own (a : Addr) (x : NK) | wy (a : Addr) (ks : List NK)

abbrev Dn (i : Int) : D := .k (.num i)
abbrev Dt (ks : List NK) : D := .k (.tup ks)
abbrev Dz : D := .k .none

mutual
def KDen (H : Hp) : NK → V → Prop
  | .none, v => v = .non
  | .num i, v => v = .int i
  | .text x, v => v = .str x
  | .tup ks, v => ∃ a xs, v = .ref a ∧ H a = some (.tup xs) ∧ KDens H ks xs
def KDens (H : Hp) : List NK → List V → Prop
  | [], vs => vs = []
  | k :: ks, vs => ∃ v r, vs = v :: r ∧ KDen H k v ∧ KDens H ks r
end

def Den (K : PySem.W.Frag) (H : Hp) : D → V → Prop
  | .k x, v => KDen H x v
  | .bl b, v => v = .bl b
  | .ref a, v => v = .ref a
  | .ty n, v => v = .ty n
  | .sq ns, v => ∃ a, v = .ref a ∧ ((∃ o, H a = some (.frz o (.lst (ns.map V.int)))) ∨ ∀ H', SqL K H' a (ns.map V.int))
  | .pr x b, v => ∃ a u, v = .ref a ∧ H a = some (.tup [u, .bl b]) ∧ KDen H x u
  | .own a x, v => v = .ref a ∧ KDen H x v
  | .wy a ks, v => ∃ b xs, v = .ref b ∧ H b = some (.tup (.ref a :: xs)) ∧ KDens H ks (.ref a :: xs)

abbrev Dens (K : PySem.W.Frag) (H : Hp) : List D → List V → Prop := Paired (Den K H)

/-- an entry of a dict: its key, the key's and the item's own values -/
abbrev Row := NK × Value × Value
/-- a dict that is walked stands still: its object and its entries -/
abbrev Lk := Option (Obj × List Row)
/-- the store: what may change -/
inductive MO where
  | lst (xs : List D) | dic (lk : Lk) (kvs : List (NK × D)) | ins (C : Addr) (fs : List (Str × D))

abbrev Sto := Addr → Option MO
def put (S : Sto) (a : Addr) (o : MO) : Sto := fun b => if b = a then some o else S b
theorem put_same {S : Sto} {a : Addr} {o : MO} : put S a o a = some o := if_pos rfl
theorem put_ne {S : Sto} {a b : Addr} {o : MO} (h : b ≠ a) : put S a o b = S b := if_neg h

def rowE (w : World) (x : Row) : DictEntry := ⟨x.1.hash w, x.2.1, x.2.2⟩
def dictAt (w : World) (a : Addr) (xs : List Row) (h : Heap) : Prop := ∃ o ep, h.get? a = some o ∧ o.ExactDict ∧ o.data = .dict (xs.map (rowE w)).toArray ep

def Ent (K : PySem.W.Frag) (H : Hp) (p : NK × D) (x : Row) : Prop :=
  p.1 = x.1 ∧ (∃ v, RelV v x.2.1 ∧ KDen H p.1 v) ∧ ∃ v, RelV v x.2.2 ∧ Den K H p.2 v

structure DicOk (K : PySem.W.Frag) (H : Hp) (a : Addr) (kvs : List (NK × D)) (xs : List Row) : Prop where
  len : kvs.length ≤ sizeLine
  sys : (a == sysModules) = false
  nod : (kvs.map (·.1)).Nodup
  dep : ∀ p ∈ kvs, p.1.depth ≤ 8
  ent : Paired (Ent K H) kvs xs

def Rep (K : PySem.W.Frag) (w : World) (H : Hp) (a : Addr) : MO → Prop
  | .lst xs => ∃ vs, H a = some (.lst vs) ∧ Dens K H xs vs
  | .dic lk kvs => ∃ xs, DicOk K H a kvs xs ∧ (match lk with | none => H a = some (.ext (dictAt w a xs)) | some l => l.2 = xs ∧ H a = some (.frz l.1 (.ext (dictAt w a xs))))
  | .ins C fs => ∃ dx vs, H a = some (.ins C dx vs) ∧ Paired (fun (p : Str × D) (q : Str × V) => p.1 = q.1 ∧ Den K H p.2 q.2) fs vs

def AbsS (K : PySem.W.Frag) (w : World) (H : Hp) (S : Sto) : Prop := ∀ a o, S a = some o → Rep K w H a o

abbrev Sd := List (Option D)
abbrev Sl := List (Option V)
structure AbsV (K : PySem.W.Frag) (H : Hp) (σ : Sl) (σd : Sd) : Prop where
  len : List.length σ = List.length σd
  get : ∀ (i : Nat) (d : D), σd[i]? = some (some d) → ∃ v, σ[i]? = some (some v) ∧ Den K H d v

/-- what is fixed stays -/
structure Keeps (H H' : Hp) : Prop where
  tup : ∀ a xs, H a = some (.tup xs) → H' a = some (.tup xs)
  frz : ∀ a o xs, H a = some (.frz o (.lst xs)) → H' a = some (.frz o (.lst xs))

/-- what the store does not tell of stays -/
def Ext (S : Sto) (H : Hp) (S' : Sto) (H' : Hp) : Prop := ∀ a o, H a = some o → S a = none → H' a = some o ∧ S' a = none

theorem Ext.refl (S : Sto) (H : Hp) : Ext S H S H := fun _ _ h n => ⟨h, n⟩
theorem Ext.trans {S S1 S2 : Sto} {H H1 H2 : Hp} (a : Ext S H S1 H1) (b : Ext S1 H1 S2 H2) : Ext S H S2 H2 := fun c o h n => b c o (a c o h n).1 (a c o h n).2

section
variable {K : PySem.W.Frag} {w : World} {H H' : Hp} {S S' : Sto}
mutual
theorem KDen.keep (k : Keeps H H') : ∀ (x : NK) (v : V), KDen H x v → KDen H' x v
  | .none, _, h => h
  | .num _, _, h => h
  | .text _, _, h => h
  | .tup ks, v, h => by
    obtain ⟨a, xs, e, ha, hs⟩ := h
    exact ⟨a, xs, e, k.tup a xs ha, KDens.keep k ks xs hs⟩
theorem KDens.keep (k : Keeps H H') : ∀ (ks : List NK) (vs : List V), KDens H ks vs → KDens H' ks vs
  | [], _, h => h
  | x :: ks, vs, h => by
    obtain ⟨v, r, e, hv, hr⟩ := h
    exact ⟨v, r, e, KDen.keep k x v hv, KDens.keep k ks r hr⟩
end
theorem Den.keep (k : Keeps H H') {d : D} {v : V} (h : Den K H d v) : Den K H' d v := by
  cases d with
  | k x => exact KDen.keep k x v h
  | bl _ => exact h
  | ref _ => exact h
  | ty _ => exact h
  | sq ns =>
    obtain ⟨a, e, h⟩ := h
    exact ⟨a, e, h.imp (fun ⟨o, q⟩ => ⟨o, k.frz a o _ q⟩) id⟩
  | pr x b =>
    obtain ⟨a, u, e, h, q⟩ := h
    exact ⟨a, u, e, k.tup a _ h, KDen.keep k x u q⟩
  | own a x => exact ⟨h.1, KDen.keep k x v h.2⟩
  | wy a ks =>
    obtain ⟨b, xs, e, h, q⟩ := h
    exact ⟨b, xs, e, k.tup b _ h, KDens.keep k ks _ q⟩
theorem Dens.keep (k : Keeps H H') {ds : List D} {vs : List V} (h : Dens K H ds vs) : Dens K H' ds vs := Paired.mapP h fun _ _ q => q.keep k
theorem AbsV.keep (k : Keeps H H') {σ : Sl} {σd : Sd} (h : AbsV K H σ σd) : AbsV K H' σ σd := ⟨h.len, fun i d e => let ⟨v, e1, q⟩ := h.get i d e; ⟨v, e1, q.keep k⟩⟩
theorem Ent.keep (k : Keeps H H') {p : NK × D} {x : Row} (h : Ent K H p x) : Ent K H' p x :=
  let ⟨h1, ⟨v, r, q⟩, ⟨u, r', q'⟩⟩ := h; ⟨h1, ⟨v, r, KDen.keep k _ _ q⟩, ⟨u, r', q'.keep k⟩⟩
theorem DicOk.keep (k : Keeps H H') {a : Addr} {kvs : List (NK × D)} {xs : List Row} (h : DicOk K H a kvs xs) : DicOk K H' a kvs xs :=
  ⟨h.len, h.sys, h.nod, h.dep, Paired.mapP h.ent fun _ _ q => q.keep k⟩
theorem Rep.keep (k : Keeps H H') {a : Addr} {o : MO} (e : H' a = H a) (h : Rep K w H a o) : Rep K w H' a o := by
  cases o with
  | lst xs => obtain ⟨vs, h1, h2⟩ := h; exact ⟨vs, e.trans h1, h2.keep k⟩
  | dic lk kvs => obtain ⟨es, h1, h2⟩ := h; exact ⟨es, h1.keep k, by rw [e]; exact h2⟩
  | ins C fs => obtain ⟨dx, vs, h1, h2⟩ := h; exact ⟨dx, vs, e.trans h1, Paired.mapP h2 fun _ _ q => ⟨q.1, q.2.keep k⟩⟩
theorem Rep.ntup {a : Addr} {o : MO} (h : Rep K w H a o) (xs : List V) : H a ≠ some (.tup xs) := by
  intro e
  cases o with
  | lst _ => obtain ⟨vs, h1, _⟩ := h; rw [e] at h1; cases h1
  | dic lk kvs =>
    obtain ⟨es, _, h2⟩ := h
    cases lk with
    | none => rw [e] at h2; cases h2
    | some l => obtain ⟨_, h2⟩ := h2; rw [e] at h2; cases h2
  | ins C fs => obtain ⟨dx, vs, h1, _⟩ := h; rw [e] at h1; cases h1
theorem Rep.nfrz {a : Addr} {o : MO} (h : Rep K w H a o) (u : Obj) (xs : List V) : H a ≠ some (.frz u (.lst xs)) := by
  intro e
  cases o with
  | lst _ => obtain ⟨vs, h1, _⟩ := h; rw [e] at h1; cases h1
  | dic lk kvs =>
    obtain ⟨es, _, h2⟩ := h
    cases lk with
    | none => rw [e] at h2; cases h2
    | some l => obtain ⟨_, h2⟩ := h2; rw [e] at h2; cases h2
  | ins C fs => obtain ⟨dx, vs, h1, _⟩ := h; rw [e] at h1; cases h1
theorem AbsS.off (h : AbsS K w H S) {a : Addr} {u : HO} (e : H a = some u) (n : ∀ o, ¬ Rep K w H a o) : S a = none := by
  cases q : S a with
  | none => rfl
  | some o => exact absurd (h a o q) (n o)
theorem Ext.keeps (x : Ext S H S' H') (h : AbsS K w H S) : Keeps H H' where
  tup := fun a xs e => (x a _ e (h.off e fun o q => q.ntup xs e)).1
  frz := fun a o xs e => (x a _ e (h.off e fun _ q => q.nfrz o xs e)).1
theorem Rep.some {a : Addr} {o : MO} (h : Rep K w H a o) : ∃ u, H a = some u := by
  cases o with
  | lst _ => obtain ⟨vs, h1, _⟩ := h; exact ⟨_, h1⟩
  | dic lk kvs =>
    obtain ⟨es, _, h2⟩ := h
    cases lk with
    | none => exact ⟨_, h2⟩
    | some l => exact ⟨_, h2.2⟩
  | ins C fs => obtain ⟨dx, vs, h1, _⟩ := h; exact ⟨_, h1⟩
theorem AbsS.free (h : AbsS K w H S) {a : Addr} (n : H a = none) : S a = none := by
  cases q : S a with
  | none => rfl
  | some o => obtain ⟨u, e⟩ := (h a o q).some; rw [n] at e; cases e
/-- a new object that the store does not tell of -/
theorem AbsS.hide (h : AbsS K w H S) {p : Addr} {u : HO} (n : H p = none) : AbsS K w (upd H p u) S ∧ Ext S H S (upd H p u) ∧ Keeps H (upd H p u) := by
  have hk : Keeps H (upd H p u) := ⟨fun a xs e => by rw [upd_ne (ne_of_none e n)]; exact e, fun a o xs e => by rw [upd_ne (ne_of_none e n)]; exact e⟩
  refine ⟨fun a o e => (h a o e).keep hk ?_, fun a o e q => ⟨by rw [upd_ne (ne_of_none e n)]; exact e, q⟩, hk⟩
  have ha : a ≠ p := fun z => by rw [z, h.free n] at e; cases e
  exact upd_ne ha
/-- the store at p says o, the heap u -/
theorem AbsS.lay (h : AbsS K w H S) {p : Addr} {u : HO} {o : MO} (n : H p = none) (r : Rep K w (upd H p u) p o) : AbsS K w (upd H p u) (put S p o) ∧ Ext S H (put S p o) (upd H p u) ∧ Keeps H (upd H p u) := by
  obtain ⟨h1, h2, hk⟩ := h.hide (u := u) n
  refine ⟨fun a v e => ?_, fun a v e q => ⟨(h2 a v e q).1, ?_⟩, hk⟩
  · by_cases ha : a = p
    · subst ha; rw [put_same] at e; cases e; exact r
    · rw [put_ne ha] at e; exact h1 a v e
  · rw [put_ne (ne_of_none e n)]; exact q
/-- what the store tells of is changed -/
theorem AbsS.change (h : AbsS K w H S) {p : Addr} {u : HO} {o o' : MO} (n : S p = some o) (r : Keeps H (upd H p u) → Rep K w (upd H p u) p o') : AbsS K w (upd H p u) (put S p o') ∧ Ext S H (put S p o') (upd H p u) ∧ Keeps H (upd H p u) := by
  have hk : Keeps H (upd H p u) := ⟨fun a xs e => by rw [upd_ne (fun z => (h p o n).ntup xs (by rw [← z]; exact e))]; exact e, fun a v xs e => by rw [upd_ne (fun z => (h p o n).nfrz v xs (by rw [← z]; exact e))]; exact e⟩
  refine ⟨fun a v e => ?_, fun a v e q => ?_, hk⟩
  · by_cases ha : a = p
    · subst ha; rw [put_same] at e; cases e; exact r hk
    · rw [put_ne ha] at e; exact (h a v e).keep hk (upd_ne ha)
  · have ha : a ≠ p := fun z => by rw [z, n] at q; cases q
    exact ⟨by rw [upd_ne ha]; exact e, by rw [put_ne ha]; exact q⟩
theorem Dens.length {ds : List D} {vs : List V} (h : Dens K H ds vs) : ds.length = vs.length := Paired.length h
theorem Dens.append : ∀ {ds es : List D} {vs us : List V}, Dens K H ds vs → Dens K H es us → Dens K H (ds ++ es) (vs ++ us)
  | _, _, _, _, .nil, s => s
  | _, _, _, _, .cons r t, s => .cons r (Dens.append t s)
theorem Dens.get : ∀ {ds : List D} {vs : List V} {i : Nat} {d : D}, Dens K H ds vs → ds[i]? = some d → ∃ v, vs[i]? = some v ∧ Den K H d v
  | _, _, _, _, .nil, e => by simp at e
  | _, _, 0, _, .cons r _, e => by simp at e; subst e; exact ⟨_, rfl, r⟩
  | _, _, i + 1, _, .cons _ t, e => by
    obtain ⟨u, h1, h2⟩ := Dens.get (i := i) t (by simpa using e)
    exact ⟨u, by simpa using h1, h2⟩
theorem KDens.paired : ∀ {ks : List NK} {vs : List V}, KDens H ks vs → Paired (KDen H) ks vs
  | [], _, h => by rw [KDens] at h; subst h; exact .nil
  | k :: ks, _, h => by
    rw [KDens] at h
    obtain ⟨v, r, rfl, h1, h2⟩ := h
    exact .cons h1 (KDens.paired h2)
theorem KDens.of : ∀ {ks : List NK} {vs : List V}, Paired (KDen H) ks vs → KDens H ks vs
  | _, _, .nil => by rw [KDens]
  | _, _, .cons r t => by rw [KDens]; exact ⟨_, _, rfl, r, KDens.of t⟩
theorem AbsV.set {σ : Sl} {σd : Sd} (h : AbsV K H σ σd) (i : Nat) {d : D} {v : V} (q : Den K H d v) : AbsV K H (σ.set i (some v)) (σd.set i (some d)) := by
  refine ⟨by simp [h.len], fun j e ej => ?_⟩
  by_cases hj : i = j
  · subst hj
    by_cases hi : i < σd.length
    · rw [List.getElem?_set_self hi] at ej
      cases ej
      exact ⟨v, by rw [List.getElem?_set_self (by rw [h.len]; exact hi)], q⟩
    · rw [List.getElem?_eq_none (by simpa using hi)] at ej; cases ej
  · rw [List.getElem?_set_ne hj] at ej
    obtain ⟨u, e1, q1⟩ := h.get j e ej
    exact ⟨u, by rw [List.getElem?_set_ne hj]; exact e1, q1⟩
theorem AbsV.set0 {σ : Sl} {σd : Sd} (h : AbsV K H σ σd) (i : Nat) : AbsV K H (σ.set i none) (σd.set i none) := by
  refine ⟨by simp [h.len], fun j e ej => ?_⟩
  by_cases hj : i = j
  · subst hj
    by_cases hi : i < σd.length
    · rw [List.getElem?_set_self hi] at ej; cases ej
    · rw [List.getElem?_eq_none (by simpa using hi)] at ej; cases ej
  · rw [List.getElem?_set_ne hj] at ej
    obtain ⟨u, e1, q1⟩ := h.get j e ej
    exact ⟨u, by rw [List.getElem?_set_ne hj]; exact e1, q1⟩
end

/-! ### the readings -/
abbrev VK3 := D → Sto → Prop
abbrev TE3 := Sd → Sto → VK3 → Prop
abbrev TT3 := Sd → Sto → (Bool → Sto → Prop) → Prop
abbrev TA3 := Sd → Sto → (List D → Sto → Prop) → Prop
structure Ends3 where
  nx : Sd → Sto → Prop
  rt : VK3
  bk : Sd → Sto → Prop := fun _ _ => False
  ct : Sd → Sto → Prop := fun _ _ => False
abbrev TS3 := Ends3 → Sd → Sto → Prop

section
variable (K : PySem.W.Frag) (w : World)
def up (t : TE3) : TE := fun σ H Q => ∃ σd S R, AbsV K H σ σd ∧ AbsS K w H S ∧ t σd S R ∧ ∀ v H' d S', Ext S H S' H' → AbsS K w H' S' → Den K H' d v → R d S' → Q v H'
def upT (t : TT3) : TT := fun σ H Q => ∃ σd S R, AbsV K H σ σd ∧ AbsS K w H S ∧ t σd S R ∧ ∀ b H' S', Ext S H S' H' → AbsS K w H' S' → R b S' → Q b H'
def upA (t : TA3) : TA := fun σ H Q => ∃ σd S R, AbsV K H σ σd ∧ AbsS K w H S ∧ t σd S R ∧ ∀ vs H' ds S', Ext S H S' H' → AbsS K w H' S' → Dens K H' ds vs → R ds S' → Q vs H'
structure UpE (H : Hp) (S : Sto) (D3 : Ends3) (D : Ends) : Prop where
  nx : ∀ σ' H' σd' S', Ext S H S' H' → AbsV K H' σ' σd' → AbsS K w H' S' → D3.nx σd' S' → D.nx σ' H'
  rt : ∀ v H' d S', Ext S H S' H' → AbsS K w H' S' → Den K H' d v → D3.rt d S' → D.rt v H'
  bk : ∀ σ' H' σd' S', Ext S H S' H' → AbsV K H' σ' σd' → AbsS K w H' S' → D3.bk σd' S' → D.bk σ' H'
  ct : ∀ σ' H' σd' S', Ext S H S' H' → AbsV K H' σ' σd' → AbsS K w H' S' → D3.ct σd' S' → D.ct σ' H'
def upS (t : TS3) : TS := fun D σ H => ∃ σd S D3, AbsV K H σ σd ∧ AbsS K w H S ∧ t D3 σd S ∧ UpE K w H S D3 D
def up1 (r : D → Sto → VK3 → Prop) : V → Hp → VK → Prop := fun x H Q => ∃ d S R, AbsS K w H S ∧ Den K H d x ∧ r d S R ∧ ∀ v H' d' S', Ext S H S' H' → AbsS K w H' S' → Den K H' d' v → R d' S' → Q v H'
def up2 (r : D → D → Sto → VK3 → Prop) : R2 := fun x y H Q => ∃ d e S R, AbsS K w H S ∧ Den K H d x ∧ Den K H e y ∧ r d e S R ∧ ∀ v H' d' S', Ext S H S' H' → AbsS K w H' S' → Den K H' d' v → R d' S' → Q v H'
def upL (r : List D → Sto → VK3 → Prop) : List V → Hp → VK → Prop := fun xs H Q => ∃ ds S R, AbsS K w H S ∧ Dens K H ds xs ∧ r ds S R ∧ ∀ v H' d' S', Ext S H S' H' → AbsS K w H' S' → Den K H' d' v → R d' S' → Q v H'
end
section
variable {K : PySem.W.Frag} {w : World}
theorem UpE.step {H H' : Hp} {S S' : Sto} {D3 : Ends3} {D : Ends} (x : Ext S H S' H') (u : UpE K w H S D3 D) : UpE K w H' S' D3 D :=
  ⟨fun _ _ _ _ e => u.nx _ _ _ _ (x.trans e), fun _ _ _ _ e => u.rt _ _ _ _ (x.trans e), fun _ _ _ _ e => u.bk _ _ _ _ (x.trans e), fun _ _ _ _ e => u.ct _ _ _ _ (x.trans e)⟩
theorem seqE {t : TE3} {σ : Sl} {σd : Sd} {H : Hp} {S : Sto} {R : VK3} {Q : VK} (av : AbsV K H σ σd) (as : AbsS K w H S) (h : t σd S R)
    (q : ∀ v H' d S', Ext S H S' H' → Keeps H H' → AbsV K H' σ σd → AbsS K w H' S' → Den K H' d v → R d S' → Q v H') : up K w t σ H Q :=
  ⟨σd, S, R, av, as, h, fun v H' d S' x as' dn hr => q v H' d S' x (x.keeps as) (av.keep (x.keeps as)) as' dn hr⟩
theorem seqT {t : TT3} {σ : Sl} {σd : Sd} {H : Hp} {S : Sto} {R : Bool → Sto → Prop} {Q : Bool → Hp → Prop} (av : AbsV K H σ σd) (as : AbsS K w H S) (h : t σd S R)
    (q : ∀ b H' S', Ext S H S' H' → Keeps H H' → AbsV K H' σ σd → AbsS K w H' S' → R b S' → Q b H') : upT K w t σ H Q :=
  ⟨σd, S, R, av, as, h, fun b H' S' x as' hr => q b H' S' x (x.keeps as) (av.keep (x.keeps as)) as' hr⟩
theorem seqA {t : TA3} {σ : Sl} {σd : Sd} {H : Hp} {S : Sto} {R : List D → Sto → Prop} {Q : List V → Hp → Prop} (av : AbsV K H σ σd) (as : AbsS K w H S) (h : t σd S R)
    (q : ∀ vs H' ds S', Ext S H S' H' → Keeps H H' → AbsV K H' σ σd → AbsS K w H' S' → Dens K H' ds vs → R ds S' → Q vs H') : upA K w t σ H Q :=
  ⟨σd, S, R, av, as, h, fun v H' d S' x as' dn hr => q v H' d S' x (x.keeps as) (av.keep (x.keeps as)) as' dn hr⟩
theorem seqS {t : TS3} {σ : Sl} {σd : Sd} {H : Hp} {S : Sto} {D3 : Ends3} {D : Ends} (av : AbsV K H σ σd) (as : AbsS K w H S) (h : t D3 σd S) (u : UpE K w H S D3 D) : upS K w t D σ H := ⟨σd, S, D3, av, as, h, u⟩
end

abbrev PE3 (X : Cx) (e : Expr) (t : TE3) : Prop := PE X e (up X.K X.w t)
abbrev PT3 (X : Cx) (e : Expr) (t : TT3) : Prop := PT X e (upT X.K X.w t)
abbrev PW3 (X : Cx) (e : Expr) (t : TT3) : Prop := PW X e (upT X.K X.w t)
abbrev PA3 (X : Cx) (es : List Expr) (t : TA3) : Prop := PA X es (upA X.K X.w t)
abbrev PS3 (X : Cx) (s : Stmt) (t : TS3) : Prop := PS X s (upS X.K X.w t)
abbrev PSs3 (X : Cx) (s : List Stmt) (t : TS3) : Prop := PSs X s (upS X.K X.w t)
abbrev OpR3 (X : Cx) (f : Value → Value → Sem Value) (r : D → D → Sto → VK3 → Prop) : Prop := OpR X f (up2 X.K X.w r)
abbrev UnR3 (X : Cx) (f : Value → Sem Value) (r : D → Sto → VK3 → Prop) : Prop := UnR X f (up1 X.K X.w r)
abbrev CallR3 (X : Cx) (f : Value) (r : List D → Sto → VK3 → Prop) : Prop := CallR X f (upL X.K X.w r)

theorem PE.imp {X : Cx} {e : Expr} {t t' : TE} (h : PE X e t) (i : ∀ σ H Q, t' σ H Q → t σ H Q) : PE X e t' := ⟨fun pins s σ H Q I q => h.run pins s σ H Q I (i σ H Q q)⟩
theorem PT.imp {X : Cx} {e : Expr} {t t' : TT} (h : PT X e t) (i : ∀ σ H Q, t' σ H Q → t σ H Q) : PT X e t' := ⟨fun pins s σ H Q I q => h.run pins s σ H Q I (i σ H Q q)⟩
theorem PW.imp {X : Cx} {e : Expr} {t t' : TT} (h : PW X e t) (i : ∀ σ H Q, t' σ H Q → t σ H Q) : PW X e t' := ⟨fun wh pins s σ H Q I q => h.run wh pins s σ H Q I (i σ H Q q)⟩
theorem PA.imp {X : Cx} {e : List Expr} {t t' : TA} (h : PA X e t) (i : ∀ σ H Q, t' σ H Q → t σ H Q) : PA X e t' := ⟨fun pos pins s σ H Q I q => h.run pos pins s σ H Q I (i σ H Q q)⟩
theorem PS.imp {X : Cx} {e : Stmt} {t t' : TS} (h : PS X e t) (i : ∀ D σ H, t' D σ H → t D σ H) : PS X e t' := ⟨fun pins s σ H D I q => h.run pins s σ H D I (i D σ H q)⟩
theorem PSs.imp {X : Cx} {e : List Stmt} {t t' : TS} (h : PSs X e t) (i : ∀ D σ H, t' D σ H → t D σ H) : PSs X e t' := ⟨fun pins s σ H D I q => h.run pins s σ H D I (i D σ H q)⟩
end L3
/-! ## L3B -/
namespace L3
open PySem PySem.Spec L2
open PyProof.Rows hiding St

/-! ### names, constants, displays -/
def rdS (σ : Sd) (i : Nat) (Q : D → Prop) : Prop := match σ[i]? with
  | some (some d) => Q d
  | _ => False
def tV (i : Nat) : TE3 := fun σ S Q => rdS σ i fun d => Q d S
def tK (d : D) : TE3 := fun _ S Q => Q d S
def asB (d : D) (Q : Bool → Prop) : Prop := match d with
  | .bl b => Q b
  | _ => False
def asI (d : D) (Q : Int → Prop) : Prop := match d with
  | .k (.num i) => Q i
  | _ => False
def nks : List D → Option (List NK)
  | [] => some []
  | .k x :: r => (nks r).map (x :: ·)
  | _ :: _ => none
section
variable {X : Cx} {e a b c : Expr} {es : List Expr} {ta tb tc : TE3} {tA tB' : TT3} {t : TA3} {pos : Pos}

theorem rdS_some {σ : Sd} {i : Nat} {Q : D → Prop} (h : rdS σ i Q) : ∃ d, σ[i]? = some (some d) ∧ Q d := by
  unfold rdS at h
  split at h
  · exact ⟨_, by assumption, h⟩
  · exact h.elim
theorem pv3 (i : Nat) {x : Str} {pos : Pos} (hN : X.N[i]? = some x := by rfl) (hv : Vis X.env.scope x := by first | exact Or.inl rfl | exact Or.inr (Or.inl rfl) | exact Or.inr (Or.inr rfl)) (hd : (x == ("__debug__" : Str)) = false := by decide)
    (hcd : (x == ("__classdict__" : Str)) = false := by decide) : PE3 X (.Name x pos) (tV i) := PE.imp (pe_var hN hv hd hcd) fun σ H Q ⟨σd, S, R, av, as, h, q⟩ => by
  obtain ⟨d, e, h⟩ := rdS_some h
  obtain ⟨v, e1, dn⟩ := av.get i d e
  exact ⟨v, e1, q v H d S (.refl _ _) as dn h⟩
theorem pc3 {e : Expr} {v : V} {d : D} (h : PE X e (tC v)) (dn : ∀ H, Den X.K H d v) : PE3 X e (tK d) := PE.imp h fun σ H Q ⟨σd, S, R, av, as, h, q⟩ => q v H d S (.refl _ _) as (dn H) h
theorem pint3 {i j pos} : PE3 X (.Constant (.int i) j pos) (tK (Dn i)) := pc3 pe_int fun _ => rfl
theorem pbl3 {b j pos} : PE3 X (.Constant (.bool b) j pos) (tK (.bl b)) := pc3 pe_bl fun _ => rfl
theorem pnon3 {j pos} : PE3 X (.Constant .none j pos) (tK Dz) := pc3 pe_non fun _ => rfl
theorem pstr3 {x j pos} : PE3 X (.Constant (.str x) j pos) (tK (.k (.text x))) := pc3 pe_str fun _ => rfl

def tNil3 : TA3 := fun _ S Q => Q [] S
def tCons3 (ta : TE3) (tr : TA3) : TA3 := fun σ S Q => ta σ S fun x S1 => tr σ S1 fun xs S2 => Q (x :: xs) S2
theorem pan3 : PA3 X [] tNil3 := PA.imp pa_nil fun σ H Q ⟨σd, S, R, av, as, h, q⟩ => q [] H [] S (.refl _ _) as .nil h
theorem pac3 (ha : PE3 X e ta) (hr : PA3 X es t) (hs : starEach (e :: es) X.env = (false, eval e X.env) :: starEach es X.env := by rfl) : PA3 X (e :: es) (tCons3 ta t) :=
  PA.imp (pa_cons ha hr hs) fun σ H Q ⟨σd, S, R, av, as, h, q⟩ =>
    seqE av as h fun v H1 d S1 x1 k1 av1 as1 dn1 h1 => seqA av1 as1 h1 fun vs H2 ds S2 x2 k2 av2 as2 dn2 h2 => q (v :: vs) H2 (d :: ds) S2 (x1.trans x2) as2 (.cons (dn1.keep k2) dn2) h2

theorem nks_den {K : PySem.W.Frag} {H : Hp} : ∀ {ds : List D} {vs : List V} {ks : List NK}, Dens K H ds vs → nks ds = some ks → KDens H ks vs
  | _, _, _, .nil, e => by
    simp only [nks, Option.some.injEq] at e
    subst e
    rw [KDens]
  | .k x :: ds, _, ks, .cons r t, e => by
    simp only [nks, Option.map_eq_some_iff] at e
    obtain ⟨ks', e1, rfl⟩ := e
    rw [KDens]
    exact ⟨_, _, rfl, r, nks_den t e1⟩
  | .bl _ :: _, _, _, _, e => by simp [nks] at e
  | .ref _ :: _, _, _, _, e => by simp [nks] at e
  | .ty _ :: _, _, _, _, e => by simp [nks] at e
  | .sq _ :: _, _, _, _, e => by simp [nks] at e
  | .pr _ _ :: _, _, _, _, e => by simp [nks] at e
  | .own _ _ :: _, _, _, _, e => by simp [nks] at e
  | .wy _ _ :: _, _, _, _, e => by simp [nks] at e
/-- a tuple, of fixed data -/
def asT (ds : List D) (Q : D → Prop) : Prop := match nks ds with
  | some ks => Q (Dt ks)
  | none => match ds with
    | [.k x, .bl b] => Q (.pr x b)
    | _ => False
def tTup3 (t : TA3) : TE3 := fun σ S Q => t σ S fun ds S1 => ds.length ≤ 1000 ∧ asT ds fun d => Q d S1
def tLst3 (t : TA3) : TE3 := fun σ S Q => t σ S fun ds S1 => ds.length ≤ 1000 ∧ ∀ p, S1 p = none → Q (.ref p) (put S1 p (.lst ds))
theorem le1000 {n : Nat} (h : n ≤ 1000) : n ≤ sizeLine := Nat.le_of_lt (small1000 h)
theorem ptup3 {x1} (h : PA3 X es t) : PE3 X (.Tuple es x1 pos) (tTup3 t) := PE.imp (pe_tup h) fun σ H Q ⟨σd, S, R, av, as, h, q⟩ =>
  seqA av as h fun vs H1 ds S1 x1 k1 av1 as1 dn1 ⟨z, h1⟩ => by
    refine ⟨by rw [← dn1.length]; exact le1000 z, fun p n => ?_⟩
    unfold asT at h1
    split at h1
    · rename_i ks e
      obtain ⟨as2, x2, k2⟩ := as1.hide (u := .tup vs) n
      refine q _ _ _ S1 (x1.trans x2) as2 ?_ h1
      show KDen _ (.tup ks) _
      rw [KDen]
      exact ⟨p, vs, rfl, upd_same, nks_den (dn1.keep k2) e⟩
    · split at h1
      · rename_i x b _ _
        obtain ⟨as2, x2, k2⟩ := as1.hide (u := .tup vs) n
        refine q _ _ _ S1 (x1.trans x2) as2 ?_ h1
        cases dn1 with
        | cons r t =>
          cases t with
          | cons r' t =>
            cases t
            have r'' : _ = V.bl b := r'
            subst r''
            exact ⟨p, _, rfl, upd_same, KDen.keep k2 _ _ r⟩
      · exact h1.elim
theorem plst3 (h : PA3 X es t) : PE3 X (.List es pos) (tLst3 t) := PE.imp (pe_lst h) fun σ H Q ⟨σd, S, R, av, as, h, q⟩ =>
  seqA av as h fun vs H1 ds S1 x1 k1 av1 as1 dn1 ⟨z, h1⟩ => by
    refine ⟨by rw [← dn1.length]; exact le1000 z, fun p n => ?_⟩
    obtain ⟨as2, x2, k2⟩ := as1.lay (u := .lst vs) (o := .lst ds) n ⟨vs, upd_same, dn1.keep (as1.hide n).2.2⟩
    exact q (.ref p) _ (.ref p) _ (x1.trans x2) as2 rfl (h1 p (as1.free n))

/-! ### operators, comparisons, tests -/
abbrev RO3 := D → D → Sto → VK3 → Prop
def tOp3 (r : RO3) (ta tb : TE3) : TE3 := fun σ S Q => ta σ S fun x S1 => tb σ S1 fun y S2 => r x y S2 Q
theorem op_aux {K : PySem.W.Frag} {w : World} {r : RO3} {σ : Sl} {H : Hp} {Q : VK} (h : up K w (tOp3 r ta tb) σ H Q) : tOp (up2 K w r) (up K w ta) (up K w tb) σ H Q := by
  obtain ⟨σd, S, R, av, as, h, q⟩ := h
  refine seqE av as h fun v H1 d S1 x1 k1 av1 as1 dn1 h1 => seqE av1 as1 h1 fun u H2 e S2 x2 k2 av2 as2 dn2 h2 => ?_
  exact ⟨d, e, S2, R, as2, dn1.keep k2, dn2, h2, fun v' H' d' S' x3 as3 dn3 h3 => q v' H' d' S' ((x1.trans x2).trans x3) as3 dn3 h3⟩
theorem pop3 {op : Operator} {r : RO3} (ho : OpR3 X (binaryOp op) r) (ha : PE3 X a ta) (hb : PE3 X b tb) : PE3 X (.BinOp a op b pos) (tOp3 r ta tb) := PE.imp (pe_op ho ha hb) fun σ H Q h => op_aux h
theorem pcmp3 {op : CmpOp} {r : RO3} (ho : OpR3 X (compareOp op) r) (ha : PE3 X a ta) (hb : PE3 X b tb) (hm : behindInMarks op b = false := by first | exact nobehind _ (by decide) (by decide) | rfl) : PE3 X (.Compare a [op] [b] pos) (tOp3 r ta tb) := PE.imp (pe_cmpR ho ha hb hm) fun σ H Q h => op_aux h
def tUn3 (r : D → Sto → VK3 → Prop) (ta : TE3) : TE3 := fun σ S Q => ta σ S fun x S1 => r x S1 Q
theorem pun3 {op : UnaryOp} {r : D → Sto → VK3 → Prop} (ho : UnR3 X (unaryOp op) r) (ha : PE3 X a ta) : PE3 X (.UnaryOp op a pos) (tUn3 r ta) := PE.imp (pe_un ho ha) fun σ H Q ⟨σd, S, R, av, as, h, q⟩ =>
  seqE av as h fun v H1 d S1 x1 k1 av1 as1 dn1 h1 => ⟨d, S1, R, as1, dn1, h1, fun v' H' d' S' x3 as3 dn3 h3 => q v' H' d' S' (x1.trans x3) as3 dn3 h3⟩
def tChain3 (r r' : RO3) (ta tb tc : TE3) : TE3 := fun σ S Q => ta σ S fun x S1 => tb σ S1 fun y S2 => r x y S2 fun z S3 => asB z fun k => if k = true then tc σ S3 fun w' S4 => r' y w' S4 Q else Q (.bl false) S3
def tT (t : TE3) : TT3 := fun σ S Q => t σ S fun d S1 => asB d fun b => Q b S1
theorem asB_some {d : D} {Q : Bool → Prop} (h : asB d Q) : ∃ b, d = .bl b ∧ Q b := by
  cases d <;> first | exact ⟨_, rfl, h⟩ | exact h.elim
theorem asI_some {d : D} {Q : Int → Prop} (h : asI d Q) : ∃ i, d = Dn i ∧ Q i := by
  cases d with
  | k x => cases x <;> first | exact ⟨_, rfl, h⟩ | exact h.elim
  | _ => exact h.elim
theorem aux_T {K : PySem.W.Frag} {w : World} {t : TE3} {σ : Sl} {H : Hp} {Q : Bool → Hp → Prop} (h : upT K w (tT t) σ H Q) : tB (up K w t) σ H Q := by
  obtain ⟨σd, S, R, av, as, h, q⟩ := h
  refine seqE av as h fun v H1 d S1 x1 k1 av1 as1 dn1 h1 => ?_
  obtain ⟨b, rfl, h1⟩ := asB_some h1
  exact ⟨b, dn1, q b H1 S1 x1 as1 h1⟩
/-- a comparison as a test -/
theorem ptc3 {op : CmpOp} {r : RO3} (ho : OpR3 X (compareOp op) r) (ha : PE3 X a ta) (hb : PE3 X b tb) (hm : behindInMarks op b = false := by first | exact nobehind _ (by decide) (by decide) | rfl) : PT3 X (.Compare a [op] [b] pos) (tT (tOp3 r ta tb)) :=
  PT.imp (pt_cmpR ho ha hb hm) fun σ H Q ⟨σd, S, R, av, as, h, q⟩ =>
    seqE av as h fun v H1 d S1 x1 k1 av1 as1 dn1 h1 => seqE av1 as1 h1 fun u H2 e S2 x2 k2 av2 as2 dn2 h2 => by
      refine ⟨d, e, S2, _, as2, dn1.keep k2, dn2, h2, fun v' H' d' S' x3 as3 dn3 h3 => ?_⟩
      obtain ⟨b, rfl, h3⟩ := asB_some h3
      exact ⟨b, dn3, q b H' S' ((x1.trans x2).trans x3) as3 h3⟩
/-- an expression that gives a truth value, as a test -/
theorem ptv3 {e : Expr} {t : TE3} (h : PE3 X e t) (he : ∀ whole, isTrue e X.env whole = (do let v ← whole; standAt e.pos; holding [v] (truthy v)) := by intro _; rfl) : PT3 X e (tT t) := PT.imp (pt_val h he) fun σ H Q h => aux_T h
def tAnd3 (t u : TT3) : TT3 := fun σ S Q => t σ S fun c S1 => if c = true then u σ S1 Q else Q false S1
def tOr3 (t u : TT3) : TT3 := fun σ S Q => t σ S fun c S1 => if c = true then Q true S1 else u σ S1 Q
def tNot3 (t : TT3) : TT3 := fun σ S Q => t σ S fun c S1 => Q (!c) S1
variable {rest : List Expr}
theorem pwa1 (ha : PT3 X a tA) : PW3 X (.BoolOp .And [a] pos) tA := pw_and1 ha
theorem pwo1 (ha : PT3 X a tA) : PW3 X (.BoolOp .Or [a] pos) tA := pw_or1 ha
theorem pwa (ha : PT3 X a tA) (hb : PW3 X (.BoolOp .And (b :: rest) pos) tB') : PW3 X (.BoolOp .And (a :: b :: rest) pos) (tAnd3 tA tB') := PW.imp (pw_and ha hb) fun σ H Q ⟨σd, S, R, av, as, h, q⟩ =>
  seqT av as h fun c H1 S1 x1 k1 av1 as1 h1 => by
    cases c with
    | true => rw [if_pos rfl] at h1 ⊢; exact seqT av1 as1 h1 fun c H2 S2 x2 k2 av2 as2 h2 => q c H2 S2 (x1.trans x2) as2 h2
    | false => rw [if_neg Bool.false_ne_true] at h1 ⊢; exact q false H1 S1 x1 as1 h1
theorem pwo (ha : PT3 X a tA) (hb : PW3 X (.BoolOp .Or (b :: rest) pos) tB') : PW3 X (.BoolOp .Or (a :: b :: rest) pos) (tOr3 tA tB') := PW.imp (pw_or ha hb) fun σ H Q ⟨σd, S, R, av, as, h, q⟩ =>
  seqT av as h fun c H1 S1 x1 k1 av1 as1 h1 => by
    cases c with
    | true => rw [if_pos rfl] at h1 ⊢; exact q true H1 S1 x1 as1 h1
    | false => rw [if_neg Bool.false_ne_true] at h1 ⊢; exact seqT av1 as1 h1 fun c H2 S2 x2 k2 av2 as2 h2 => q c H2 S2 (x1.trans x2) as2 h2
theorem pwt {e : Expr} {t : TT3} (h : PW3 X e t) : PT3 X e t := PW.pt h
theorem ptn3 (ha : PT3 X a tA) : PT3 X (.UnaryOp .Not a pos) (tNot3 tA) := PT.imp (pt_not ha) fun σ H Q ⟨σd, S, R, av, as, h, q⟩ =>
  seqT av as h fun c H1 S1 x1 k1 av1 as1 h1 => q (!c) H1 S1 x1 as1 h1
def tAndV3 (ta tb : TE3) : TE3 := fun σ S Q => ta σ S fun x S1 => asB x fun c => if c = true then tb σ S1 Q else Q (.bl false) S1
def tOrV3 (ta tb : TE3) : TE3 := fun σ S Q => ta σ S fun x S1 => asB x fun c => if c = true then Q (.bl true) S1 else tb σ S1 Q
def tNotV3 (ta : TE3) : TE3 := fun σ S Q => ta σ S fun x S1 => asB x fun c => Q (.bl (!c)) S1
theorem pone3 {op} (h : PE3 X a ta) : PE3 X (.BoolOp op [a] pos) ta := pe_one h
theorem pand3 (ha : PE3 X a ta) (hb : PE3 X (.BoolOp .And (b :: rest) pos) tb) : PE3 X (.BoolOp .And (a :: b :: rest) pos) (tAndV3 ta tb) := PE.imp (pe_and ha hb) fun σ H Q ⟨σd, S, R, av, as, h, q⟩ =>
  seqE av as h fun v H1 d S1 x1 k1 av1 as1 dn1 h1 => by
    obtain ⟨c, rfl, h2⟩ := asB_some h1
    clear h1
    refine ⟨c, dn1, ?_⟩
    cases c with
    | true => rw [if_pos rfl] at h2 ⊢; exact seqE av1 as1 h2 fun v H2 d S2 x2 k2 av2 as2 dn2 h2 => q v H2 d S2 (x1.trans x2) as2 dn2 h2
    | false => rw [if_neg Bool.false_ne_true] at h2 ⊢; exact q (.bl false) H1 (.bl false) S1 x1 as1 rfl h2
theorem por3 (ha : PE3 X a ta) (hb : PE3 X (.BoolOp .Or (b :: rest) pos) tb) : PE3 X (.BoolOp .Or (a :: b :: rest) pos) (tOrV3 ta tb) := PE.imp (pe_or ha hb) fun σ H Q ⟨σd, S, R, av, as, h, q⟩ =>
  seqE av as h fun v H1 d S1 x1 k1 av1 as1 dn1 h1 => by
    obtain ⟨c, rfl, h2⟩ := asB_some h1
    clear h1
    refine ⟨c, dn1, ?_⟩
    cases c with
    | true => rw [if_pos rfl] at h2 ⊢; exact q (.bl true) H1 (.bl true) S1 x1 as1 rfl h2
    | false => rw [if_neg Bool.false_ne_true] at h2 ⊢; exact seqE av1 as1 h2 fun v H2 d S2 x2 k2 av2 as2 dn2 h2 => q v H2 d S2 (x1.trans x2) as2 dn2 h2
theorem pnot3 (ha : PE3 X a ta) : PE3 X (.UnaryOp .Not a pos) (tNotV3 ta) := PE.imp (pe_not ha) fun σ H Q ⟨σd, S, R, av, as, h, q⟩ =>
  seqE av as h fun v H1 d S1 x1 k1 av1 as1 dn1 h1 => by
    obtain ⟨c, rfl, h1⟩ := asB_some h1
    exact ⟨c, dn1, q (.bl (!c)) H1 (.bl (!c)) S1 x1 as1 rfl h1⟩
def tIf3 (t : TT3) (ta tb : TE3) : TE3 := fun σ S Q => t σ S fun c S1 => if c = true then ta σ S1 Q else tb σ S1 Q
theorem pif3 (hc : PT3 X c tA) (ha : PE3 X a ta) (hb : PE3 X b tb) : PE3 X (.IfExp c a b pos) (tIf3 tA ta tb) := PE.imp (pe_ifExp hc ha hb) fun σ H Q ⟨σd, S, R, av, as, h, q⟩ =>
  seqT av as h fun c H1 S1 x1 k1 av1 as1 h1 => by
    cases c with
    | true => rw [if_pos rfl] at h1 ⊢; exact seqE av1 as1 h1 fun v H2 d S2 x2 k2 av2 as2 dn2 h2 => q v H2 d S2 (x1.trans x2) as2 dn2 h2
    | false => rw [if_neg Bool.false_ne_true] at h1 ⊢; exact seqE av1 as1 h1 fun v H2 d S2 x2 k2 av2 as2 dn2 h2 => q v H2 d S2 (x1.trans x2) as2 dn2 h2
end

/-! ### statements -/
section
variable {X : Cx} {st : Stmt} {rest : List Stmt} {t u : TS3} {e : Expr} {te : TE3} {pos : Pos}
def tNext3 : TS3 := fun D σ S => D.nx σ S
def tSeq3 (t u : TS3) : TS3 := fun D σ S => t { D with nx := u D } σ S
theorem psn3 : PSs3 X [] tNext3 := PSs.imp pss_nil fun D σ H ⟨σd, S, D3, av, as, h, q⟩ => q.nx σ H σd S (.refl _ _) av as h
theorem psc3 (h1 : PS3 X st t) (h2 : PSs3 X rest u) : PSs3 X (st :: rest) (tSeq3 t u) := PSs.imp (pss_cons h1 h2) fun D σ H ⟨σd, S, D3, av, as, h, q⟩ =>
  seqS av as h ⟨fun σ' H' σd' S' x av' as' h' => seqS av' as' h' (q.step x), q.rt, q.bk, q.ct⟩
theorem ps13 (h1 : PS3 X st t) : PSs3 X [st] t := pss_one h1
def tBreak3 : TS3 := fun D σ S => D.bk σ S
theorem psbrk3 : PS3 X (.Break pos) tBreak3 := PS.imp ps_break fun D σ H ⟨σd, S, D3, av, as, h, q⟩ => q.bk σ H σd S (.refl _ _) av as h
def tDrop3 (te : TE3) : TS3 := fun D σ S => te σ S fun _ S1 => D.nx σ S1
theorem psx3 (he : PE3 X e te) (hs : swapsWith e none pos.line X.env = pure false := by rfl) : PS3 X (.Expr e pos) (tDrop3 te) := PS.imp (ps_expr he hs) fun D σ H ⟨σd, S, D3, av, as, h, q⟩ =>
  seqE av as h fun v H1 d S1 x1 k1 av1 as1 dn1 h1 => q.nx σ H1 σd S1 x1 av1 as1 h1
def tRet3 (te : TE3) : TS3 := fun D σ S => te σ S D.rt
theorem psr3 (he : PE3 X e te) : PS3 X (.Return (some e) pos) (tRet3 te) := PS.imp (ps_ret he) fun D σ H ⟨σd, S, D3, av, as, h, q⟩ =>
  seqE av as h fun v H1 d S1 x1 k1 av1 as1 dn1 h1 => q.rt v H1 d S1 x1 as1 dn1 h1
def tIfS3 (c : TT3) (t u : TS3) : TS3 := fun D σ S => c σ S fun b S1 => if b = true then t D σ S1 else u D σ S1
theorem psif3 {c : Expr} {a b : List Stmt} {tc : TT3} (hc : PT3 X c tc) (ha : PSs3 X a t) (hb : PSs3 X b u) : PS3 X (.If c a b pos) (tIfS3 tc t u) := PS.imp (ps_if hc ha hb) fun D σ H ⟨σd, S, D3, av, as, h, q⟩ =>
  seqT av as h fun c H1 S1 x1 k1 av1 as1 h1 => by
    cases c with
    | true => rw [if_pos rfl] at h1 ⊢; exact seqS av1 as1 h1 (q.step x1)
    | false => rw [if_neg Bool.false_ne_true] at h1 ⊢; exact seqS av1 as1 h1 (q.step x1)
def tNever3 : TS3 := fun _ _ _ => False
theorem psnev3 : PS3 X st tNever3 := PS.imp ps_never fun D σ H ⟨σd, S, D3, av, as, h, q⟩ => h.elim
def tSet3 (i : Nat) (te : TE3) : TS3 := fun D σ S => te σ S fun d S1 => D.nx (σ.set i (some d)) S1
theorem pset3 {i : Nat} {x : Str} {pos' : Pos} (hN : X.N.Nodup) (hi : X.N[i]? = some x) (hx : Loc X.env.scope x) (he : PE3 X e te) (hs : swapsWith e (some (.Name x pos')) pos.line X.env = pure false := by rfl) (hf : X.fn x = true ∨ X.env.scope.names.lookup x = some .local := by first | exact .inl rfl | exact .inr rfl | assumption) :
    PS3 X (.Assign [.Name x pos'] e pos) (tSet3 i te) := PS.imp (ps_set hN hi hx he hs hf) fun D σ H ⟨σd, S, D3, av, as, h, q⟩ =>
  seqE av as h fun v H1 d S1 x1 k1 av1 as1 dn1 h1 => q.nx _ H1 _ S1 x1 (av1.set i dn1) as1 h1
/-- a, b = e, f for plain names -/
def two (ds : List D) (Q : D → D → Prop) : Prop := match ds with
  | [a, b] => Q a b
  | _ => False
def tPar3 (i j : Nat) (ta : TA3) : TS3 := fun D σ S => ta σ S fun ds S1 => two ds fun a b => D.nx ((σ.set i (some a)).set j (some b)) S1
theorem two_some {ds : List D} {Q : D → D → Prop} (h : two ds Q) : ∃ a b, ds = [a, b] ∧ Q a b := by
  unfold two at h
  split at h
  · exact ⟨_, _, rfl, h⟩
  · exact h.elim
theorem ppar3 {i j : Nat} {x y : Str} {a b : Expr} {ta : TA3} {px py pt : Pos} {kt k2 pt2} (hc : X.calm = true) (hN : X.N.Nodup) (hi : X.N[i]? = some x) (hj : X.N[j]? = some y) (hij : i ≠ j)
    (hx : X.env.scope.names.lookup x = some .local) (hy : X.env.scope.names.lookup y = some .local) (ha : PA3 X [a, b] ta)
    (hw : swappedStores [.Tuple [.Name x px, .Name y py] kt pt] (.Tuple [a, b] k2 pt2) X.env = pure (some [x, y]))
    (hs : swapsWithSole [.Tuple [.Name x px, .Name y py] kt pt] (.Tuple [a, b] k2 pt2) pos.line X.env = pure false := by rfl) :
    PS3 X (.Assign [.Tuple [.Name x px, .Name y py] kt pt] (.Tuple [a, b] k2 pt2) pos) (tPar3 i j ta) := PS.imp (ps_par hc hN hi hj hij hx hy ha hw hs) fun D σ H ⟨σd, S, D3, av, as, h, q⟩ =>
  seqA av as h fun vs H1 ds S1 x1 k1 av1 as1 dn1 h1 => by
    obtain ⟨d, e, rfl, h1⟩ := two_some h1
    cases dn1 with
    | cons p p' =>
      cases p' with
      | cons p' z =>
        cases z
        exact ⟨_, _, rfl, q.nx _ H1 _ S1 x1 ((av1.set i p).set j p') as1 h1⟩
end
end L3
/-! ## L3C -/
namespace L3
open PySem PySem.Spec L2
open PyProof.Rows hiding St

/-! ### fixed data as the library's data -/
/-- what == and keys may be asked of -/
def okK (k : NK) : Bool := k.data.canLay0 && decide (k.depth ≤ 8)
mutual
theorem depth_data : ∀ k : NK, k.data.depth = k.depth
  | .none => by simp [NestedKey.data, NestedKey.depth, PyData.depth]
  | .num _ => by simp [NestedKey.data, NestedKey.depth, PyData.depth]
  | .text _ => by simp [NestedKey.data, NestedKey.depth, PyData.depth]
  | .tup ks => by
    rw [NestedKey.data, NestedKey.depth, PyData.depth, depths_data ks]
theorem depths_data : ∀ ks : List NK, PyData.depthAll (NestedKey.datas ks) = NestedKey.depthAll ks
  | [] => by simp [NestedKey.datas, NestedKey.depthAll, PyData.depthAll]
  | k :: ks => by
    rw [NestedKey.datas, NestedKey.depthAll, PyData.depthAll, depth_data k, depths_data ks]
end
theorem okK_dep {k : NK} (h : okK k = true) : k.depth ≤ 8 := of_decide_eq_true (Bool.and_eq_true_iff.mp h).2
theorem okK_shaped {k : NK} (h : okK k = true) : SeqAt.shaped k.data = true := by
  have h1 := (Bool.and_eq_true_iff.mp h).1
  have h2 := okK_dep h
  unfold SeqAt.shaped
  rw [Bool.and_eq_true, depth_data]
  exact ⟨h1, decide_eq_true (by omega)⟩
theorem canAll_of : ∀ {ks : List NK}, (∀ k ∈ ks, okK k = true) → PyData.canLayAll0 (NestedKey.datas ks) = true ∧ NestedKey.depthAll ks ≤ 8
  | [], _ => by simp [NestedKey.datas, NestedKey.depthAll, PyData.canLayAll0]
  | k :: ks, h => by
    have h1 := h k List.mem_cons_self
    have h2 := canAll_of fun x hx => h x (List.mem_cons_of_mem _ hx)
    have h3 := (Bool.and_eq_true_iff.mp h1).1
    have h4 := okK_dep h1
    rw [NestedKey.datas, NestedKey.depthAll, PyData.canLayAll0, h3, h2.1]
    exact ⟨rfl, by omega⟩
theorem okL_shaped {ks : List NK} (h : ∀ k ∈ ks, okK k = true) : SeqAt.shaped (.list (NestedKey.datas ks)) = true := by
  obtain ⟨h1, h2⟩ := canAll_of h
  unfold SeqAt.shaped
  rw [Bool.and_eq_true]
  refine ⟨by rw [PyData.canLay0]; exact h1, decide_eq_true ?_⟩
  rw [PyData.depth, depths_data]
  omega
theorem okK_num (i : Int) : okK (.num i) = true := by
  have h : (NestedKey.num i).data.canLay0 = true := by rw [NestedKey.data, PyData.canLay0]
  unfold okK
  rw [h, NestedKey.depth]
  rfl
theorem okK_none : okK .none = true := by decide
theorem okK_tup {ks : List NK} (h : ∀ k ∈ ks, okK k = true) (hd : NestedKey.depthAll ks ≤ 7) : okK (.tup ks) = true := by
  have h1 := (canAll_of h).1
  unfold okK
  rw [NestedKey.data, PyData.canLay0, h1, NestedKey.depth, Bool.true_and]
  exact decide_eq_true (by omega)
mutual
theorem eqv_data : ∀ a b : NK, PyData.eqv a.data b.data = NestedKey.beq a b
  | .none, .none | .none, .num _ | .none, .text _ | .none, .tup _ => by simp [NestedKey.data, NestedKey.beq, PyData.eqv]
  | .num _, .none | .num _, .text _ | .num _, .tup _ => by simp [NestedKey.data, NestedKey.beq, PyData.eqv]
  | .num a, .num b => by
    simp only [NestedKey.data, NestedKey.beq, PyData.eqv]
    by_cases h : a = b <;> simp [h]
  | .text _, .none | .text _, .num _ | .text _, .tup _ => by simp [NestedKey.data, NestedKey.beq, PyData.eqv]
  | .text a, .text b => by
    simp only [NestedKey.data, NestedKey.beq, PyData.eqv]
    by_cases h : a = b <;> simp [h]
  | .tup _, .none | .tup _, .num _ | .tup _, .text _ => by simp [NestedKey.data, NestedKey.beq, PyData.eqv]
  | .tup a, .tup b => by
    rw [NestedKey.data, NestedKey.data, NestedKey.beq, PyData.eqv]
    exact eqvs_data a b
theorem eqvs_data : ∀ a b : List NK, PyData.eqvAll (NestedKey.datas a) (NestedKey.datas b) = NestedKey.beqAll a b
  | [], [] => by simp [NestedKey.datas, NestedKey.beqAll, PyData.eqvAll]
  | [], _ :: _ => by simp [NestedKey.datas, NestedKey.beqAll, PyData.eqvAll]
  | _ :: _, [] => by simp [NestedKey.datas, NestedKey.beqAll, PyData.eqvAll]
  | a :: as, b :: bs => by
    rw [NestedKey.datas, NestedKey.datas, NestedKey.beqAll, PyData.eqvAll, eqv_data a b, eqvs_data as bs]
end
section
variable {K : PySem.W.Frag} {H : Hp}
mutual
theorem KDen.dp : ∀ (k : NK) (v : V), KDen H k v → Dp K H v k.data
  | .none, _, h => by rw [KDen] at h; subst h; exact .non
  | .num i, _, h => by rw [KDen] at h; subst h; exact .int i
  | .text x, _, h => by rw [KDen] at h; subst h; exact .str x
  | .tup ks, _, h => by
    rw [KDen] at h
    obtain ⟨a, xs, rfl, ha, hs⟩ := h
    exact .tup (.of ha) (KDens.dp ks xs hs)
theorem KDens.dp : ∀ (ks : List NK) (vs : List V), KDens H ks vs → DpAll K H vs (NestedKey.datas ks)
  | [], _, h => by rw [KDens] at h; subst h; exact .nil
  | k :: ks, _, h => by
    rw [KDens] at h
    obtain ⟨v, r, rfl, h1, h2⟩ := h
    exact .cons (KDen.dp k v h1) (KDens.dp ks r h2)
end
theorem nks_dens {ds : List D} {vs : List V} {ks : List NK} (h : Dens K H ds vs) (e : nks ds = some ks) : KDens H ks vs := nks_den h e
theorem nks_map : ∀ ks : List NK, nks (ks.map D.k) = some ks
  | [] => rfl
  | k :: ks => by simp [nks, nks_map ks]
theorem nks_eq : ∀ {ds : List D} {ks : List NK}, nks ds = some ks → ds = ks.map D.k
  | [], ks, e => by simp only [nks, Option.some.injEq] at e; subst e; rfl
  | .k x :: ds, ks, e => by
    simp only [nks, Option.map_eq_some_iff] at e
    obtain ⟨ks', e1, rfl⟩ := e
    rw [nks_eq e1]; rfl
  | .bl _ :: _, _, e => by simp [nks] at e
  | .ref _ :: _, _, e => by simp [nks] at e
  | .ty _ :: _, _, e => by simp [nks] at e
  | .sq _ :: _, _, e => by simp [nks] at e
  | .pr _ _ :: _, _, e => by simp [nks] at e
  | .own _ _ :: _, _, e => by simp [nks] at e
  | .wy _ _ :: _, _, e => by simp [nks] at e
end

/-! ### arithmetic -/
def rI3 (C : Int → Int → Prop) (g : Int → Int → D) : RO3 := fun x y S Q => asI x fun i => asI y fun j => C i j ∧ Q (g i j) S
def rI03 (g : Int → Int → D) : RO3 := fun x y S Q => asI x fun i => asI y fun j => Q (g i j) S
section
variable {X : Cx}
theorem opI3 {f : Value → Value → Sem Value} {C : Int → Int → Prop} {g : Int → Int → Int} (h : OpR X f (rI C fun i j => .int (g i j))) : OpR3 X f (rI3 C fun i j => Dn (g i j)) := by
  intro pins s σ H x y v u Q I rx ry ⟨d, e, S, R, as, dx, dy, hr, q⟩
  obtain ⟨i, rfl, h1⟩ := asI_some hr
  obtain ⟨j, rfl, hc, h2⟩ := asI_some h1
  exact h pins s σ H x y v u Q I rx ry ⟨i, j, dx, dy, hc, q (.int (g i j)) H (Dn (g i j)) S (.refl _ _) as rfl h2⟩
theorem opI03 {f : Value → Value → Sem Value} {g : Int → Int → Int} (h : OpR X f (rI0 fun i j => .int (g i j))) : OpR3 X f (rI03 fun i j => Dn (g i j)) := by
  intro pins s σ H x y v u Q I rx ry ⟨d, e, S, R, as, dx, dy, hr, q⟩
  obtain ⟨i, rfl, h1⟩ := asI_some hr
  obtain ⟨j, rfl, h2⟩ := asI_some h1
  exact h pins s σ H x y v u Q I rx ry ⟨i, j, dx, dy, q (.int (g i j)) H (Dn (g i j)) S (.refl _ _) as rfl h2⟩
theorem opB03 {f : Value → Value → Sem Value} {g : Int → Int → Bool} (h : OpR X f (rI0 fun i j => .bl (g i j))) : OpR3 X f (rI03 fun i j => .bl (g i j)) := by
  intro pins s σ H x y v u Q I rx ry ⟨d, e, S, R, as, dx, dy, hr, q⟩
  obtain ⟨i, rfl, h1⟩ := asI_some hr
  obtain ⟨j, rfl, h2⟩ := asI_some h1
  exact h pins s σ H x y v u Q I rx ry ⟨i, j, dx, dy, q (.bl (g i j)) H (.bl (g i j)) S (.refl _ _) as rfl h2⟩
theorem o_sub : OpR3 X (binaryOp .Sub) (rI03 fun i j => Dn (i - j)) := opI03 op_sub
theorem o_mul : OpR3 X (binaryOp .Mult) (rI3 IntMulOk fun i j => Dn (i * j)) := opI3 (opI fun _ _ _ _ _ _ _ hc q => mul_int q hc)
theorem o_fdiv : OpR3 X (binaryOp .FloorDiv) (rI3 CDiv fun i j => Dn (i / j)) := opI3 op_fdiv
theorem o_mod : OpR3 X (binaryOp .Mod) (rI3 (fun _ j => 0 < j) fun i j => Dn (i % j)) := opI3 op_mod
theorem o_pow : OpR3 X (binaryOp .Pow) (rI3 CPow fun i j => Dn (i ^ j.toNat)) := opI3 op_pow
theorem o_lt : OpR3 X (compareOp .Lt) (rI03 fun i j => .bl (decide (i < j))) := opB03 op_lt
theorem o_le : OpR3 X (compareOp .LtE) (rI03 fun i j => .bl (decide (i ≤ j))) := opB03 op_le
theorem o_gt : OpR3 X (compareOp .Gt) (rI03 fun i j => .bl (decide (j < i))) := opB03 op_gt
theorem o_ge : OpR3 X (compareOp .GtE) (rI03 fun i j => .bl (decide (j ≤ i))) := opB03 op_ge
def rNeg3 : D → Sto → VK3 → Prop := fun x S Q => asI x fun i => Q (Dn (-i)) S
theorem u_neg : UnR3 X (unaryOp .USub) rNeg3 := by
  intro pins s σ H x v Q I rx ⟨d, S, R, as, dx, hr, q⟩
  obtain ⟨i, rfl, h1⟩ := asI_some hr
  exact un_neg pins s σ H x v Q I rx ⟨i, dx, q (.int (-i)) H (Dn (-i)) S (.refl _ _) as rfl h1⟩

/-! ### + -/
def rAdd3 : RO3 := fun x y S Q => match x, y with
  | .k (.num i), .k (.num j) => Q (Dn (i + j)) S
  | .k (.tup a), .k (.tup b) => a.length + b.length ≤ 1000 ∧ Q (Dt (a ++ b)) S
  | .ref a, .ref b => ∃ xs ys, S a = some (.lst xs) ∧ S b = some (.lst ys) ∧ xs.length + ys.length ≤ 1000000 ∧ ∀ p, S p = none → Q (.ref p) (put S p (.lst (xs ++ ys)))
  | _, _ => False
theorem KDens.length {H : Hp} {ks : List NK} {vs : List V} (h : KDens H ks vs) : ks.length = vs.length := Paired.length (KDens.paired h)
theorem KDens.append {H : Hp} : ∀ {a b : List NK} {u v : List V}, KDens H a u → KDens H b v → KDens H (a ++ b) (u ++ v)
  | [], b, u, v, h, g => by rw [KDens] at h; subst h; exact g
  | k :: a, b, u, v, h, g => by
    rw [KDens] at h
    obtain ⟨x, r, rfl, h1, h2⟩ := h
    rw [List.cons_append, List.cons_append, KDens]
    exact ⟨_, _, rfl, h1, h2.append g⟩
theorem o_add : OpR3 X (binaryOp .Add) rAdd3 := by
  intro pins s σ H x y v u Q I rx ry ⟨d, e, S, R, as, dx, dy, hr, q⟩
  unfold rAdd3 at hr
  split at hr
  · exact op_add pins s σ H x y v u Q I rx ry ⟨_, _, dx, dy, q (.int _) H (Dn _) S (.refl _ _) as rfl hr⟩
  · rename_i ka kb
    obtain ⟨hz, hr⟩ := hr
    have dx' : KDen H (.tup ka) x := dx
    have dy' : KDen H (.tup kb) y := dy
    rw [KDen] at dx' dy'
    obtain ⟨a, xs, rfl, ha, hxs⟩ := dx'
    obtain ⟨b, ys, rfl, hb, hys⟩ := dy'
    have la := hxs.length
    have lb := hys.length
    refine op_catA pins s σ H _ _ v u Q I rx ry ⟨a, b, xs, ys, rfl, rfl, .of ha, .of hb, ?_, fun z => ?_, fun _ z => ?_, fun _ _ p n => ?_⟩
    · exact le1000 (by omega)
    · subst z
      have : ka = [] := List.length_eq_zero_iff.mp (by rw [la]; rfl)
      subst this
      exact q (.ref b) H (Dt kb) S (.refl _ _) as dy hr
    · subst z
      have : kb = [] := List.length_eq_zero_iff.mp (by rw [lb]; rfl)
      subst this
      rw [List.append_nil] at hr
      exact q (.ref a) H (Dt ka) S (.refl _ _) as dx hr
    · obtain ⟨as2, x2, k2⟩ := as.hide (u := .tup (xs ++ ys)) n
      refine q (.ref p) _ (Dt (ka ++ kb)) S x2 as2 ?_ hr
      show KDen _ (.tup (ka ++ kb)) _
      rw [KDen]
      exact ⟨p, _, rfl, upd_same, (KDens.keep k2 _ _ hxs).append (KDens.keep k2 _ _ hys)⟩
  · rename_i a b
    obtain ⟨xs, ys, ha, hb, hz, hr⟩ := hr
    obtain ⟨us, h1, d1⟩ := as a _ ha
    obtain ⟨ws, h2, d2⟩ := as b _ hb
    have dx' : x = V.ref a := dx
    have dy' : y = V.ref b := dy
    subst dx' dy'
    have l1 := d1.length
    have l2 := d2.length
    refine op_cat pins s σ H _ _ v u Q I rx ry ⟨a, b, us, ws, rfl, rfl, h1, h2, ?_, fun p n => ?_⟩
    · have : 1000000 ≤ sizeLine := by decide
      omega
    · have kk := (as.hide (u := .lst (us ++ ws)) n).2.2
      obtain ⟨as2, x2, k2⟩ := as.lay (u := .lst (us ++ ws)) (o := .lst (xs ++ ys)) n ⟨_, upd_same, (d1.keep kk).append (d2.keep kk)⟩
      exact q (.ref p) _ (.ref p) _ x2 as2 rfl (hr p (as.free n))
  · exact hr.elim

/-! ### ==, !=, is -/
def eqOk (a b : NK) : Bool := match a, b with
  | .num _, .num _ => true
  | .text _, .text _ => true
  | a, b => okK a && okK b
def rEq3 (f : Bool → Bool) : RO3 := fun x y S Q => match x, y with
  | .k a, .k b => eqOk a b = true ∧ Q (.bl (f (decide (a = b)))) S
  | .bl a, .bl b => Q (.bl (f (decide (a = b)))) S
  | .ref a, .ref b => ∃ ks ls, S a = some (.lst (List.map D.k ks)) ∧ S b = some (.lst (List.map D.k ls)) ∧ (∀ k ∈ ks, okK k = true) ∧ (∀ k ∈ ls, okK k = true) ∧ Q (.bl (f (decide (ks = ls)))) S
  | _, _ => False
theorem beqAll_decide (a b : List NK) : NestedKey.beqAll a b = decide (a = b) := by
  have h := NestedKey.decide_eq (.tup a) (.tup b)
  rw [NestedKey.beq] at h
  rw [← h]
  simp
theorem eq_core (f : Bool → Bool) {F : Value → Value → Sem Value} (r1 : OpR X F (fun x y H Q => scal x y = true ∧ Q (.bl (f (decide (x = y)))) H))
    (r2 : OpR X F (fun x y H Q => ∃ d e, Dp X.K H x d ∧ Dp X.K H y e ∧ SeqAt.shaped d = true ∧ SeqAt.shaped e = true ∧ Q (.bl (f (PyData.eqv d e))) H)) : OpR3 X F (rEq3 f) := by
  intro pins s σ H x y v u Q I rx ry ⟨d, e, S, R, as, dx, dy, hr, q⟩
  unfold rEq3 at hr
  split at hr
  · rename_i a b
    obtain ⟨ho, hr⟩ := hr
    unfold eqOk at ho
    split at ho
    · rename_i i j
      have dx' : x = V.int i := dx
      have dy' : y = V.int j := dy
      subst dx' dy'
      refine r1 pins s σ H _ _ v u Q I rx ry ⟨rfl, q _ H (.bl _) S (.refl _ _) as ?_ hr⟩
      show V.bl _ = V.bl _
      congr 2
      simp
    · rename_i i j
      have dx' : x = V.str i := dx
      have dy' : y = V.str j := dy
      subst dx' dy'
      refine r1 pins s σ H _ _ v u Q I rx ry ⟨rfl, q _ H (.bl _) S (.refl _ _) as ?_ hr⟩
      show V.bl _ = V.bl _
      congr 2
      simp
    · rw [Bool.and_eq_true] at ho
      refine r2 pins s σ H _ _ v u Q I rx ry ⟨_, _, KDen.dp a x dx, KDen.dp b y dy, okK_shaped ho.1, okK_shaped ho.2, q _ H (.bl _) S (.refl _ _) as ?_ hr⟩
      show V.bl _ = V.bl _
      rw [eqv_data, NestedKey.decide_eq]
  · rename_i a b
    have dx' : x = V.bl a := dx
    have dy' : y = V.bl b := dy
    subst dx' dy'
    refine r1 pins s σ H _ _ v u Q I rx ry ⟨rfl, q _ H (.bl _) S (.refl _ _) as ?_ hr⟩
    show V.bl _ = V.bl _
    congr 2
    simp
  · rename_i a b
    obtain ⟨ks, ls, ha, hb, o1, o2, hr⟩ := hr
    obtain ⟨us, h1, d1⟩ := as a _ ha
    obtain ⟨ws, h2, d2⟩ := as b _ hb
    have dx' : x = V.ref a := dx
    have dy' : y = V.ref b := dy
    subst dx' dy'
    refine r2 pins s σ H _ _ v u Q I rx ry ⟨_, _, .lst (.of h1) (KDens.dp ks us (nks_den d1 (nks_map ks))), .lst (.of h2) (KDens.dp ls ws (nks_den d2 (nks_map ls))), okL_shaped o1, okL_shaped o2, q _ H (.bl _) S (.refl _ _) as ?_ hr⟩
    show V.bl _ = V.bl _
    rw [PyData.eqv, eqvs_data, beqAll_decide]
  · exact hr.elim
theorem o_eq (hu : X.A.units + 64 < cLine) : OpR3 X (compareOp .Eq) (rEq3 id) := eq_core id op_eq (op_eqD hu)
theorem o_ne (hu : X.A.units + 64 < cLine) : OpR3 X (compareOp .NotEq) (rEq3 (!·)) := eq_core (!·) op_ne (op_neD hu)
def isN : D → Bool
  | .k .none => true
  | _ => false
def rIs3 (f : Bool → Bool) : RO3 := fun x y S Q => isN y = true ∧ Q (.bl (f (isN x))) S
theorem isN_den {K : PySem.W.Frag} {H : Hp} {d : D} {v : V} (h : Den K H d v) : isN d = decide (v = .non) := by
  cases d with
  | k x =>
    cases x with
    | none => have : v = .non := h; subst this; rfl
    | num i => have : v = .int i := h; subst this; rfl
    | text i => have : v = .str i := h; subst this; rfl
    | tup i =>
      have h' : KDen H (.tup i) v := h
      rw [KDen] at h'
      obtain ⟨a, xs, rfl, _⟩ := h'
      rfl
  | bl b => have : v = .bl b := h; subst this; rfl
  | ref b => have : v = .ref b := h; subst this; rfl
  | ty b => have : v = .ty b := h; subst this; rfl
  | sq b => obtain ⟨a, rfl, _⟩ := h; rfl
  | pr x b => obtain ⟨a, u, rfl, _⟩ := h; rfl
  | own a x => obtain ⟨rfl, _⟩ := h; rfl
  | wy a ks => obtain ⟨b, xs, rfl, _⟩ := h; rfl
theorem isN_none {K : PySem.W.Frag} {H : Hp} {d : D} {v : V} (h : Den K H d v) (e : isN d = true) : v = .non := by
  rw [isN_den h] at e
  exact of_decide_eq_true e
theorem o_is : OpR3 X (compareOp .Is) (rIs3 id) := by
  intro pins s σ H x y v u Q I rx ry ⟨d, e, S, R, as, dx, dy, ⟨hn, hr⟩, q⟩
  refine op_isN pins s σ H x y v u Q I rx ry ⟨isN_none dy hn, q _ H (.bl _) S (.refl _ _) as ?_ hr⟩
  show V.bl _ = V.bl _
  rw [isN_den dx]; rfl
theorem o_isnot : OpR3 X (compareOp .IsNot) (rIs3 (!·)) := by
  intro pins s σ H x y v u Q I rx ry ⟨d, e, S, R, as, dx, dy, ⟨hn, hr⟩, q⟩
  refine op_notN pins s σ H x y v u Q I rx ry ⟨isN_none dy hn, q _ H (.bl _) S (.refl _ _) as ?_ hr⟩
  show V.bl _ = V.bl _
  rw [isN_den dx]
end
end L3
/-! ## L3D -/
/-! dicts whose keys are numbers, texts, None and tuples of such, in any mix -/
namespace L3
open PySem PySem.Spec L2
open PyProof.Rows hiding St

structure Tab (w : World) (h : Heap) (d : Addr) (xs : List Row) (ep : Nat) (o : Obj) : Prop where
  get : h.get? d = some o
  exact : o.ExactDict
  dat : o.data = .dict (xs.map (rowE w)).toArray ep
  is : ∀ x ∈ xs, NestedIs h x.1 x.2.1
  dep : ∀ x ∈ xs, x.1.depth ≤ 8
  nod : (xs.map (·.1)).Nodup

section
variable {P : Program} {w : World} {A : Around} {E : Value → Shared → Prop} {s : Shared} {d : Addr} {xs : List Row} {ep : Nat} {o : Obj} {k : NK} {key : Value}

theorem row_at (j : Nat) : (xs.map (rowE w)).toArray[j]? = (xs[j]?).map (rowE w) := by simp
theorem row_uniq (hn : (xs.map (·.1)).Nodup) {i j : Nat} {p q : Value × Value} (hi : xs[i]? = some (k, p)) (hj : xs[j]? = some (k, q)) : i = j := by
  have a : (xs.map (·.1))[i]? = some k := by rw [List.getElem?_map, hi]; rfl
  have b : (xs.map (·.1))[j]? = some k := by rw [List.getElem?_map, hj]; rfl
  exact (List.getElem?_inj (List.getElem?_eq_some_iff.mp a).1 hn).mp (a.trans b.symm)
/-- what a search for k ends with -/
def Finds (xs : List Row) (k : NK) (r : Option Nat) : Prop := match r with
  | none => ∀ (j : Nat) (p : Value × Value), xs[j]? ≠ some (k, p)
  | some j => ∃ p : Value × Value, xs[j]? = some (k, p)
theorem eqk (T : Tab w s.heap d xs ep o) (hu : A.units + 8 < cLine) (hk : NestedIs s.heap k key) (hd : k.depth ≤ 8) {x : Row} (hx : x ∈ xs) {Q : Bool → Shared → Prop} (h : Q (decide (x.1 = k)) s) :
    wpAny (model P w) A (eqBool x.2.1 key) Q E s := by
  have := T.dep x hx
  exact eqAt_key x.1 k A s x.2.1 key (T.is x hx) hk (by omega) P w E Q (by rw [← NestedKey.decide_eq]; exact h)
theorem quietK {v : Value} (hk : NestedIs s.heap k v) (hd : k.depth ≤ 8) {Q : Bool → Shared → Prop} (h : Q true s) : wpAny (model P w) A (eqIsQuiet 8 v) Q E s := quiet_key k v 8 s hk hd A E Q h

/-- the places of one hash, from place i on -/
abbrev From (w : World) (xs : List Row) (k : NK) (i : Nat) : List Nat := (List.range' i (xs.length - i)).filter fun j => ((xs.map (rowE w)).toArray[j]?.map (·.hash)) == some (k.hash w)
theorem from_skip {i : Nat} (h : From w xs k i = []) : ∀ j p, i ≤ j → xs[j]? ≠ some (k, p) := fun j p hij e => by
  have hl : j < xs.length := (List.getElem?_eq_some_iff.mp e).1
  have q := List.filter_eq_nil_iff.mp h j (List.mem_range'_1.mpr ⟨hij, by omega⟩)
  rw [row_at, e] at q
  simp [rowE] at q
theorem from_cons {i x : Nat} {r : List Nat} (h : From w xs k i = x :: r) : i ≤ x ∧ x < xs.length ∧ r = From w xs k (x + 1) ∧ ∀ j p, i ≤ j → j < x → xs[j]? ≠ some (k, p) := by
  obtain ⟨h1, h2, h3, h4, h5⟩ := filter_range'_cons _ _ _ _ _ h
  refine ⟨h1, by omega, ?_, fun j p a b e => ?_⟩
  · rw [h5]
    have : i + (xs.length - i) - (x + 1) = xs.length - (x + 1) := by omega
    rw [this]
  · have q := h4 j a b
    rw [row_at, e] at q
    simp [rowE] at q
theorem tells_not (T : Tab w s.heap d xs ep o) (hk : NestedIs s.heap k key) (hd : k.depth ≤ 8) {st : List Value} (hst : ∀ v ∈ st, ∃ x ∈ xs, v = x.2.1) {Q : Bool → Shared → Prop} (h : Q false s) :
    wpAny (model P w) A (tableMayTell key st) Q E s := by
  unfold tableMayTell
  split
  · exact wpAny_pure h
  refine wpAny_bind (quietK hk hd ?_)
  rw [if_neg (by decide)]
  refine wpAny_bind (wpAny_forIn_list _ (fun r b t => t = s ∧ b = (none, ()) ∧ ∀ v ∈ r, ∃ x ∈ xs, v = x.2.1) _ ?_ ?_ _ _ ⟨rfl, rfl, hst⟩)
  · rintro v r b t ⟨rfl, rfl, hr⟩
    obtain ⟨x, hx, rfl⟩ := hr v List.mem_cons_self
    refine wpAny_bind (quietK (T.is x hx) (T.dep x hx) ?_)
    rw [if_neg (by decide)]
    exact wpAny_pure ⟨rfl, rfl, fun u hu => hr u (List.mem_cons_of_mem _ hu)⟩
  · rintro b t ⟨rfl, rfl, _⟩
    exact wpAny_pure h

theorem wp_ite {α : Type} {M : Model} {c : Prop} [Decidable c] {a b : Sem α} {Q : α → Shared → Prop} (h1 : c → wpAny M A a Q E s) (h2 : ¬ c → wpAny M A b Q E s) : wpAny M A (if c then a else b) Q E s := by
  by_cases h : c
  · rw [if_pos h]; exact h1 h
  · rw [if_neg h]; exact h2 h
/-- the loop over the places of one hash, where objects are among the keys: by one turn -/
theorem dloop (T : Tab w s.heap d xs ep o) {f : Nat → Option (Option Nat) × Option Nat → Sem (ForInStep (Option (Option Nat) × Option Nat))} {g : Option (Option Nat) × Option Nat → Sem (Option Nat)} {Q : Option Nat → Shared → Prop}
    (hf : ∀ (x : Nat) (y : Row) (hit : Option Nat) (R : ForInStep (Option (Option Nat) × Option Nat) → Shared → Prop), xs[x]? = some y → y ∈ xs → (y.1 = k → hit = none) →
      (¬ y.1 = k → R (.yield (none, hit)) s) → (y.1 = k → R (.done (some (some x), none)) s ∧ R (.yield (none, some x)) s) → wpAny (model P w) A (f x (none, hit)) R E s)
    (h1 : ∀ r, Finds xs k r → wpAny (model P w) A (g (some r, none)) Q E s) (h2 : ∀ r, Finds xs k r → wpAny (model P w) A (g (none, r)) Q E s) :
    wpAny (model P w) A (forIn (From w xs k 0) (none, none) f >>= g) Q E s := by
  refine wpAny_bind (wpAny_forIn_list _ (fun r b t => t = s ∧ ∃ i hit, b = (none, hit) ∧ r = From w xs k i ∧
    match hit with
    | none => ∀ j p, j < i → xs[j]? ≠ some (k, p)
    | some j => j < i ∧ ∃ p, xs[j]? = some (k, p)) _ ?_ ?_ _ _ ⟨rfl, 0, none, rfl, rfl, fun _ _ z => absurd z (Nat.not_lt_zero _)⟩)
  · rintro x r b t ⟨rfl, i, hit, rfl, hr, no⟩
    obtain ⟨a1, a2, a3, a4⟩ := from_cons hr.symm
    obtain ⟨y, hy⟩ : ∃ y, xs[x]? = some y := ⟨xs[x], List.getElem?_eq_getElem a2⟩
    refine hf x y hit _ hy (List.mem_of_getElem? hy) (fun e => ?_) (fun ne => ⟨rfl, x + 1, hit, rfl, a3, ?_⟩) (fun e => ?_)
    · cases hit with
      | none => rfl
      | some j =>
        obtain ⟨p, hp⟩ := no.2
        have hy' : xs[x]? = some (k, y.2) := by rw [hy, ← e]
        have := row_uniq T.nod hp hy'
        have := no.1
        omega
    · cases hit with
      | some j => exact ⟨by have := no.1; omega, no.2⟩
      | none =>
        intro j p hj e
        rcases Nat.lt_or_ge j x with z | z
        · exact (Nat.lt_or_ge j i).elim (fun q => no j p q e) fun q => a4 j p q z e
        · have : j = x := by omega
          subst this
          rw [hy] at e
          exact ne (congrArg Prod.fst (Option.some.inj e))
    · have hy' : xs[x]? = some (k, y.2) := by rw [hy, ← e]
      exact ⟨h1 (some x) ⟨_, hy'⟩, rfl, x + 1, some x, rfl, a3, Nat.lt_succ_self x, _, hy'⟩
  · rintro b t ⟨rfl, i, hit, rfl, hr, no⟩
    cases hit with
    | none => exact h2 none fun j p => (Nat.lt_or_ge j i).elim (no j p) fun z => from_skip hr.symm j p z
    | some j => exact h2 (some j) no.2

set_option hygiene false
local macro_rules | `(tactic| walk_at "l3 tail") => `(tactic| (
    refine wp_ite (fun _ => ?_) (fun _ => ?_) <;> (first | refine wpAny_bind (wpAny_pure ?_) | refine wpAny_bind (tells_not T hk hd stored ?_)) <;> (
      rw [if_neg (by simp)]
      refine turn (fun x y hit R hy hm hh n1 n2 => ?_) (fun _ => rfl) (fun _ => rfl)
      simp only [row_at, hy, Option.map_some]
      by_cases hq : ((rowE w y).hash == k.hash w) = true
      · rw [if_pos hq]
        refine wpAny_bind (wpAny_dictEpoch T.get T.dat (body hy hm (fun e => wpAny_bind (wpAny_dictEpoch T.get T.dat ?_)) (fun ne => wpAny_bind (wpAny_dictEpoch T.get T.dat ?_))))
        · rw [if_neg (by simp), if_pos rfl]
          have e0 := hh e
          subst e0
          rw [if_neg (by simp)]
          refine wpAny_bind (wpAny_rule ?_)
          split
          · exact wpAny_pure (n2 e).1
          · exact wpAny_pure (n2 e).2
        · rw [if_neg (by simp), if_neg Bool.false_ne_true]
          refine wpAny_bind (wpAny_rule ?_)
          rw [if_neg (by simp)]
          exact wpAny_pure (n1 ne)
      · rw [if_neg hq]
        refine wpAny_pure (n1 fun e => hq ?_)
        show (NestedKey.hash w y.1 == NestedKey.hash w k) = true
        rw [e]
        exact beq_self_eq_true _)))
set_option hygiene true
theorem dfind (T : Tab w s.heap d xs ep o) (hu : A.units + 8 < cLine) (hk : NestedIs s.heap k key) (hd : k.depth ≤ 8) {Q : Option Nat → Shared → Prop} (h : ∀ r, Finds xs k r → Q r s) :
    wpAny (model P w) A (dictFind d key (k.hash w)) Q E s := by
  have start : placesWithHash (xs.map (rowE w)).toArray.size (fun i => (xs.map (rowE w)).toArray[i]?.map (·.hash)) (k.hash w) = From w xs k 0 := by
    unfold placesWithHash From
    rw [List.range_eq_range']
    simp
  have mem : ∀ e ∈ (xs.map (rowE w)).toArray, ∃ x ∈ xs, e = rowE w x := fun e he => by
    obtain ⟨x, hx, rfl⟩ := List.mem_map.mp (show e ∈ xs.map (rowE w) by simpa using he)
    exact ⟨x, hx, rfl⟩
  have stored : ∀ v ∈ (From w xs k 0).filterMap (fun i => (xs.map (rowE w)).toArray[i]?.map (·.key)), ∃ x ∈ xs, v = x.2.1 := fun v hv => by
    obtain ⟨i, _, hi⟩ := List.mem_filterMap.mp hv
    rw [row_at] at hi
    cases q : xs[i]? with
    | none => rw [q] at hi; cases hi
    | some x => rw [q] at hi; exact ⟨x, List.mem_of_getElem? q, (Option.some.inj hi).symm⟩
  have odd : ¬ ((xs.map (rowE w)).toArray.any fun e => e.key == key && e.hash != k.hash w) = true := by
    rw [← Array.any_toList, List.any_eq_true]
    rintro ⟨e, he, hc⟩
    obtain ⟨x, hx, rfl⟩ := mem e (Array.mem_toList_iff.mp he)
    have hc : (x.2.1 == key && NestedKey.hash w x.1 != NestedKey.hash w k) = true := hc
    rw [Bool.and_eq_true] at hc
    have e1 : x.2.1 = key := eq_of_beq hc.1
    have e2 := NestedIs.inj x.1 k key (e1 ▸ T.is x hx) hk
    have h2 := hc.2
    rw [e2] at h2
    simp at h2
  -- a hash's places one behind another, plain
  have plain : wpAny (model P w) A (dictWalkPlain d key (k.hash w) (xs.map (rowE w)).toArray (From w xs k 0)) Q E s := by
    refine wpAny_bind (wpAny_forIn_list _ (fun r b t => t = s ∧ b = (none, ()) ∧ ∃ i, r = From w xs k i ∧ ∀ j p, j < i → xs[j]? ≠ some (k, p)) _ ?_ ?_ _ _ ⟨rfl, rfl, 0, rfl, fun _ _ z => absurd z (Nat.not_lt_zero _)⟩)
    · rintro x r b t ⟨rfl, rfl, i, hr, no⟩
      obtain ⟨h1, h2, h3, h4⟩ := from_cons hr.symm
      have no' : ∀ j p, j < x → xs[j]? ≠ some (k, p) := fun j p hj => (Nat.lt_or_ge j i).elim (no j p) fun z => h4 j p z hj
      obtain ⟨y, hy⟩ : ∃ y, xs[x]? = some y := ⟨xs[x], List.getElem?_eq_getElem h2⟩
      have hm := List.mem_of_getElem? hy
      rw [row_at, hy]
      dsimp only [Option.map_some]
      have go : ¬ y.1 = k → ∃ i, r = From w xs k i ∧ ∀ j p, j < i → xs[j]? ≠ some (k, p) := fun ne => ⟨x + 1, h3, fun j p hj e => by
        rcases Nat.lt_or_ge j x with z | z
        · exact no' j p z e
        · have : j = x := by omega
          subst this
          rw [hy] at e
          exact ne (congrArg Prod.fst (Option.some.inj e))⟩
      by_cases hh : ((rowE w y).hash == k.hash w) = true
      · rw [if_pos hh]
        refine wpAny_bind (wpAny_dictEpoch T.get T.dat (wpAny_bind (eqk T hu hk hd hm (wpAny_bind (wpAny_dictEpoch T.get T.dat ?_)))))
        rw [if_neg (by simp)]
        by_cases e : y.1 = k
        · rw [decide_eq_true e]
          refine wpAny_bind (wpAny_rule (wpAny_pure (wpAny_pure (h (some x) ⟨y.2, ?_⟩))))
          rw [hy, ← e]
        · rw [decide_eq_false e]
          exact wpAny_bind (wpAny_rule (wpAny_pure ⟨rfl, rfl, go e⟩))
      · rw [if_neg hh]
        refine wpAny_pure ⟨rfl, rfl, go fun e => hh ?_⟩
        show (NestedKey.hash w y.1 == NestedKey.hash w k) = true
        rw [e]
        exact beq_self_eq_true _
    · rintro b t ⟨rfl, rfl, i, hr, no⟩
      exact wpAny_pure (h none fun j p => (Nat.lt_or_ge j i).elim (no j p) fun z => from_skip hr.symm j p z)
  unfold dictFind
  try with_reducible refine wpAny_holding ?_
  refine wpAny_bind (wpAny_dictEntries T.get T.dat ?_)
  dsimp only
  rw [start]
  have turn : ∀ {f : Nat → Option (Option Nat) × Option Nat → Sem (ForInStep (Option (Option Nat) × Option Nat))} {g : Option (Option Nat) × Option Nat → Sem (Option Nat)}, (∀ (x : Nat) (y : Row) (hit : Option Nat) (R : ForInStep (Option (Option Nat) × Option Nat) → Shared → Prop), xs[x]? = some y → y ∈ xs → (y.1 = k → hit = none) →
      (¬ y.1 = k → R (.yield (none, hit)) s) → (y.1 = k → R (.done (some (some x), none)) s ∧ R (.yield (none, some x)) s) → wpAny (model P w) A (f x (none, hit)) R E s) → (∀ r, g (some r, none) = pure r) → (∀ r, g (none, r) = pure r) →
      wpAny (model P w) A (forIn (From w xs k 0) (none, none) f >>= g) Q E s := fun hf g1 g2 => dloop T hf (fun r q => by rw [g1]; exact wpAny_pure (h r q)) fun r q => by rw [g2]; exact wpAny_pure (h r q)
  have body : ∀ {α : Type} {x : Nat} {y : Row} {R : α → Shared → Prop} {F : Bool → Sem α}, xs[x]? = some y → y ∈ xs →
      (y.1 = k → wpAny (model P w) A (F true) R E s) → (¬ y.1 = k → wpAny (model P w) A (F false) R E s) → wpAny (model P w) A (eqBool (rowE w y).key key >>= F) R E s := fun hy hm h1 h2 => wpAny_bind (eqk T hu hk hd hm (by
        rename_i y _ _
        by_cases e : y.1 = k
        · rw [decide_eq_true e]; exact h1 e
        · rw [decide_eq_false e]; exact h2 e))
  have found : ∀ x t, key = .str x t → ((xs.map (rowE w)).toArray.all fun e => isExactStrKey e.key) = true → wpAny (model P w) A (foundByValue d key (xs.map (rowE w)).toArray x) Q E s := by
    rintro x t rfl -
    have ek : k = .text x := by cases hk; rfl
    subst ek
    have hq : ∀ y : Row, y ∈ xs → ((rowE w y).key.isStr x = true ↔ y.1 = .text x) := fun y hy => by
      have h1 := T.is y hy
      obtain ⟨a, b, c⟩ := y
      show b.isStr x = true ↔ a = _
      have h1 : NestedIs s.heap a b := h1
      cases h1 <;> simp [Value.isStr]
    unfold foundByValue
    cases hf : (xs.map (rowE w)).toArray.findIdx? (fun e => e.key.isStr x) with
    | none =>
      refine wpAny_pure (h none fun j p e => ?_)
      have h3 := Array.findIdx?_eq_none_iff.mp hf (rowE w (.text x, p)) (by simpa using ⟨_, _, _, List.mem_of_getElem? e, rfl⟩)
      rw [(hq _ (List.mem_of_getElem? e)).mpr rfl] at h3
      cases h3
    | some j =>
      obtain ⟨h1, h2, _⟩ := Array.findIdx?_eq_some_iff_getElem.mp hf
      have hl : j < xs.length := by simpa using h1
      obtain ⟨y, hy⟩ : ∃ y, xs[j]? = some y := ⟨xs[j], List.getElem?_eq_getElem hl⟩
      have hm := List.mem_of_getElem? hy
      have e : y.1 = .text x := (hq y hm).mp (by
        have e2 : (xs.map (rowE w)).toArray[j] = rowE w y := Option.some.inj (by rw [← Array.getElem?_eq_getElem h1, row_at, hy]; rfl)
        rw [← e2]; exact h2)
      simp only [row_at, hy, Option.map_some]
      refine wpAny_bind (wpAny_dictEpoch T.get T.dat (body hy hm (fun _ => wpAny_bind (wpAny_dictEpoch T.get T.dat ?_)) fun n => absurd e n))
      rw [if_neg (by simp), if_pos rfl]
      refine wpAny_bind (wpAny_rule (wpAny_pure (h (some j) ⟨y.2, ?_⟩)))
      rw [hy, ← e]
  split
  · rename_i x t
    refine wp_ite (fun hs => found x t rfl hs) fun _ => wp_ite (fun _ => plain) fun _ => ?_
    walk_at "l3 tail"
  · refine wp_ite (fun _ => plain) fun _ => ?_
    cases key with
    | ref a =>
      refine wp_ite (fun z => absurd z odd) fun _ => ?_
      walk_at "l3 tail"
    | _ => walk_at "l3 tail"
end
end L3
/-! ## L3E -/
/-! dicts: look-up, store, in, get -/
namespace L3
open PySem PySem.Spec L2
open PyProof.Rows hiding St

def dlook {α : Type} (kvs : List (NK × α)) (k : NK) : Option α := (kvs.find? fun p => decide (p.1 = k)).map (·.2)
def dput {α : Type} (kvs : List (NK × α)) (k : NK) (v : α) : List (NK × α) := if (kvs.any fun p => decide (p.1 = k)) = true then kvs.map fun p => if p.1 = k then (p.1, v) else p else kvs ++ [(k, v)]
abbrev rput (xs : List Row) (k : NK) (key v : Value) : List Row := if (xs.any fun p => decide (p.1 = k)) = true then xs.map fun p => if p.1 = k then (p.1, p.2.1, v) else p else xs ++ [(k, key, v)]

section
variable {P : Program} {w : World} {A : Around} {E : Value → Shared → Prop} {s : Shared} {d : Addr} {xs : List Row} {ep : Nat} {o : Obj} {k : NK} {key : Value}
theorem finds_none (h : Finds xs k none) : xs.find? (fun p => decide (p.1 = k)) = none := by
  rw [List.find?_eq_none]
  intro x hx e
  obtain ⟨j, hj⟩ := List.mem_iff_getElem?.mp hx
  exact h j x.2 (by rw [hj, ← of_decide_eq_true e])
theorem finds_some (hn : (xs.map (·.1)).Nodup) {j : Nat} {p : Value × Value} (h : xs[j]? = some (k, p)) : xs.find? (fun p => decide (p.1 = k)) = some (k, p) := by
  cases q : xs.find? (fun p => decide (p.1 = k)) with
  | none => exact absurd (List.find?_eq_none.mp q (k, p) (List.mem_of_getElem? h)) (by simp)
  | some y =>
    have h1 : y.1 = k := by simpa using List.find?_some q
    obtain ⟨i, hi⟩ := List.mem_iff_getElem?.mp (List.mem_of_find?_eq_some q)
    have hi' : xs[i]? = some (k, y.2) := by rw [hi, ← h1]
    have := row_uniq hn h hi'
    subst this
    rw [h] at hi
    exact congrArg some (Option.some.inj hi).symm
theorem ofType (T : Tab w s.heap d xs ep o) : s.TypeIs (.ref d) "dict" := ⟨o, T.get, T.exact.1⟩
theorem Tab.toks (T : Tab w s.heap d xs ep o) (t : Nat) : Tab w { s with toks := t }.heap d xs ep o := T
theorem dget3 (T : Tab w s.heap d xs ep o) (hu : A.units + 8 < cLine) (hk : NestedIs s.heap k key) (hd : k.depth ≤ 8) {Q : Option Value → Shared → Prop}
    (h : Q ((xs.find? fun p => decide (p.1 = k)).map (·.2.2)) { s with toks := s.toks + k.draws }) : wpAny (model P w) A (dictGet d key) Q E s := by
  unfold dictGet
  try with_reducible refine wpAny_holding ?_
  refine wpAny_bind (pyHash_key k key A s _ hk (by omega) (wpAny_bind (dfind (s := { s with toks := s.toks + k.draws }) (T.toks _) hu hk hd fun r hr => ?_)))
  cases r with
  | none =>
    rw [finds_none hr] at h
    exact wpAny_pure h
  | some j =>
    obtain ⟨p, hp⟩ := hr
    rw [finds_some T.nod hp] at h
    refine wpAny_bind (wpAny_dictEntries (s := { s with toks := s.toks + k.draws }) T.get T.dat ?_)
    rw [row_at, hp]
    exact wpAny_pure h
theorem dgetItem (T : Tab w s.heap d xs ep o) (hu : A.units + 9 < cLine) (hk : NestedIs s.heap k key) (hd : k.depth ≤ 8) {r : Row} (hr : xs.find? (fun p => decide (p.1 = k)) = some r) {Q : Value → Shared → Prop}
    (h : Q r.2.2 { s with toks := s.toks + k.draws }) : wpAny (model P w) A (getItem (.ref d) key) Q E s := by
  unfold getItem
  try with_reducible refine wpAny_holding ?_
  refine wpAny_bind (wpAny_sequenceKey (ofType T) (by decide) (wpAny_bind (wpAny_callSpecial?_slot (name := Str.ofString "__getitem__") (ofType T) slot_dict_getitem ?_)))
  refine wpAny_call_entry slot_dict_getitem (ofType T) entry_dict_getitem ?_ (args_dict_getitem _ _)
  show wpAny _ _ (dictGet d key >>= _) _ _ s
  refine wpAny_bind (dget3 T (by show A.units + 1 + 8 < _; omega) hk hd ?_)
  rw [hr]
  exact wpAny_pure ⟨_, rfl, wpAny_pure h⟩
theorem dcontains (T : Tab w s.heap d xs ep o) (hs : (d == sysModules) = false) (hu : A.units + 9 < cLine) (hk : NestedIs s.heap k key) (hd : k.depth ≤ 8) {Q : Bool → Shared → Prop}
    (h : Q (xs.find? fun p => decide (p.1 = k)).isSome { s with toks := s.toks + k.draws }) : wpAny (model P w) A (contains (.ref d) key) Q E s := by
  refine wpAny_contains_slot (ofType T) F.slot_dict_contains ?_
  refine wpAny_call_entry F.slot_dict_contains (ofType T) F.entry_dict_contains ?_ (F.args_dict_contains_2 _ _)
  show wpAny _ _ (dictGet d key >>= _) _ _ _
  refine wpAny_bind (dget3 T (by show A.units + 1 + 8 < _; omega) hk hd ?_)
  cases q : xs.find? (fun p => decide (p.1 = k)) with
  | some p =>
    rw [q] at h
    exact wpAny_pure ⟨_, rfl, wpAny_truthy_bool h⟩
  | none =>
    rw [q] at h
    exact wpAny_bind (wpAny_pendingKey_other hs (wpAny_pure ⟨_, rfl, wpAny_truthy_bool h⟩))

/-- a store keeps all else, and gives the new table -/
theorem dset3 (T : Tab w s.heap d xs ep o) (hu : A.units + 8 < cLine) (hk : NestedIs s.heap k key) (hd : k.depth ≤ 8) (hz : xs.length ≤ sizeLine) {v : Value} {Q : Unit → Shared → Prop}
    (h : ∀ h' ep' o', Tab w h' d (rput xs k key v) ep' o' → Heap.SameBut d s.heap h' → Q () { s with heap := h', toks := s.toks + k.draws }) : wpAny (model P w) A (dictSet d key v) Q E s := by
  have seqs : ∀ {h' : Heap}, Heap.SameBut d s.heap h' → ∀ a ob vs n, s.heap.get? a = some ob → ob.data = .seq vs n → h'.get? a = some ob := fun {h'} sb a ob vs n ha hb => by
    refine (sb.2 a fun z => ?_).trans ha
    subst z
    rw [T.get] at ha
    cases ha
    rw [T.dat] at hb
    cases hb
  unfold dictSet
  try with_reducible refine wpAny_holding ?_
  refine wpAny_bind (pyHash_key k key A s _ hk (by omega) ?_)
  unfold dictSetHashed
  try with_reducible refine wpAny_holding ?_
  refine wpAny_bind (dfind (s := { s with toks := s.toks + k.draws }) (T.toks _) hu hk hd fun r hr => ?_)
  cases r with
  | none =>
    have nokey : ∀ x ∈ xs, ¬ x.1 = k := fun x hx e => by
      obtain ⟨j, hj⟩ := List.mem_iff_getElem?.mp hx
      exact hr j x.2 (by rw [hj, ← e])
    have noany : ¬ (xs.any fun p => decide (p.1 = k)) = true := by
      rw [List.any_eq_true]
      rintro ⟨x, hx, e⟩
      exact nokey x hx (of_decide_eq_true e)
    refine wpAny_bind (wpAny_rule (wpAny_updateDictKeys (s := { s with toks := s.toks + k.draws }) T.get T.dat (h _ (ep + 1) (Obj.mapDictKeys (·.push ⟨k.hash w, key, v⟩) o) ?_ (Heap.SameBut.update ..)) (by simpa using hz)))
    have sb : Heap.SameBut d s.heap (s.heap.update d (Obj.mapDictKeys (·.push ⟨k.hash w, key, v⟩))) := Heap.SameBut.update ..
    have e : rput xs k key v = xs ++ [(k, key, v)] := if_neg noany
    rw [e]
    refine ⟨Heap.get?_update_self _ T.get (Obj.isFreed_of_dict (Obj.data_mapDictKeys T.dat _)), T.exact.mapDictKeys _, ?_, fun x hx => ?_, fun x hx => ?_, ?_⟩
    · rw [Obj.data_mapDictKeys T.dat]
      simp [rowE]
    · rcases List.mem_append.mp hx with hx | hx
      · exact NestedIs.at (seqs sb) _ _ (T.is x hx)
      · cases List.mem_singleton.mp hx
        exact NestedIs.at (seqs sb) _ _ hk
    · rcases List.mem_append.mp hx with hx | hx
      · exact T.dep x hx
      · cases List.mem_singleton.mp hx
        exact hd
    · rw [List.map_append, List.nodup_append]
      refine ⟨T.nod, by simp, fun x hx y hy => ?_⟩
      simp only [List.map_cons, List.map_nil, List.mem_singleton] at hy
      subst hy
      obtain ⟨z, hz, rfl⟩ := List.mem_map.mp hx
      exact nokey z hz
  | some j =>
    obtain ⟨p, hp⟩ := hr
    have any : (xs.any fun p => decide (p.1 = k)) = true := List.any_eq_true.mpr ⟨_, List.mem_of_getElem? hp, decide_eq_true rfl⟩
    refine wpAny_bind (wpAny_rule (wpAny_bind (wpAny_updateDict (s := { s with toks := s.toks + k.draws }) T.get T.dat (wpAny_point (h _ ep (Obj.mapDict (·.modify j fun e => { e with val := v }) o) ?_ (Heap.SameBut.update ..))))))
    have sb : Heap.SameBut d s.heap (s.heap.update d (Obj.mapDict (·.modify j fun e => { e with val := v }))) := Heap.SameBut.update ..
    have e : rput xs k key v = xs.map fun p => if p.1 = k then (p.1, p.2.1, v) else p := if_pos any
    have keys : (xs.map fun p => if p.1 = k then (p.1, p.2.1, v) else p).map (·.1) = xs.map (·.1) := by
      rw [List.map_map]
      refine List.map_congr_left fun x _ => ?_
      show (if x.1 = k then (x.1, x.2.1, v) else x).1 = x.1
      split <;> rfl
    have ofs : ∀ y ∈ (xs.map fun p => if p.1 = k then (p.1, p.2.1, v) else p), ∃ x ∈ xs, y.1 = x.1 ∧ y.2.1 = x.2.1 := fun y hy => by
      obtain ⟨x, hx, rfl⟩ := List.mem_map.mp hy
      refine ⟨x, hx, ?_⟩
      split <;> exact ⟨rfl, rfl⟩
    rw [e]
    refine ⟨Heap.get?_update_self _ T.get (Obj.isFreed_of_dict (Obj.data_mapDict T.dat _)), T.exact.mapDict _, ?_, fun y hy => ?_, fun y hy => ?_, by rw [keys]; exact T.nod⟩
    · rw [Obj.data_mapDict T.dat]
      congr 1
      refine Array.ext_getElem? fun i => ?_
      rw [Array.getElem?_modify, row_at, row_at, List.getElem?_map]
      cases q : xs[i]? with
      | none => simp
      | some x =>
        by_cases hi : j = i
        · subst hi
          rw [hp] at q
          cases q
          simp [rowE]
        · have ne : ¬ x.1 = k := fun z => hi (row_uniq T.nod hp (show xs[i]? = some (k, x.2) by rw [q, ← z]))
          simp [hi, ne]
    · obtain ⟨x, hx, e1, e2⟩ := ofs y hy
      rw [e1, e2]
      exact NestedIs.at (seqs sb) _ _ (T.is x hx)
    · obtain ⟨x, hx, e1, _⟩ := ofs y hy
      rw [e1]
      exact T.dep x hx
theorem dsetItem (T : Tab w s.heap d xs ep o) (hu : A.units + 9 < cLine) (hk : NestedIs s.heap k key) (hd : k.depth ≤ 8) (hz : xs.length ≤ sizeLine) {v : Value} {Q : Unit → Shared → Prop}
    (h : ∀ h' ep' o', Tab w h' d (rput xs k key v) ep' o' → Heap.SameBut d s.heap h' → Q () { s with heap := h', toks := s.toks + k.draws }) : wpAny (model P w) A (setItem (.ref d) key v) Q E s := by
  unfold setItem
  try with_reducible refine wpAny_holding ?_
  refine wpAny_bind (wpAny_sequenceKey (ofType T) (by decide) (wpAny_bind (wpAny_callSpecial?_slot (name := Str.ofString "__setitem__") (ofType T) slot_dict_setitem ?_)))
  refine wpAny_call_entry slot_dict_setitem (ofType T) entry_dict_setitem ?_ (args_dict_setitem _ _ _)
  show wpAny _ _ (Builtin.Dict.notOrdered "__setitem__" ⟨[.ref d, key, v], []⟩ >>= _) _ _ s
  refine wpAny_bind (wpAny_notOrdered_dict (ofType T) ?_)
  show wpAny _ _ (dictSet d key v >>= _) _ _ s
  exact wpAny_bind (dset3 T (by show A.units + 1 + 8 < _; omega) hk hd hz fun h' ep' o' T' sb => wpAny_pure ⟨.none, rfl, wpAny_pure (h h' ep' o' T' sb)⟩)
end
end L3
/-! ## L3F -/
/-! in, subscripts, slices, fields -/
namespace L3
open PySem PySem.Spec L2
open PyProof.Rows hiding St

section
variable {P : Program} {w : World} {H : Hp} {h : Heap}
mutual
theorem KDen.nested (ok : HOk P w H h) : ∀ (k : NK) (v : V) (u : Value), KDen H k v → RelV v u → NestedIs h k u
  | .none, _, _, e, r => by rw [KDen] at e; subst e; cases r; exact .none
  | .num i, _, _, e, r => by rw [KDen] at e; subst e; obtain ⟨t, rfl⟩ := r; exact .int i t
  | .text x, _, _, e, r => by rw [KDen] at e; subst e; obtain ⟨t, rfl⟩ := r; exact .text x t
  | .tup ks, _, _, e, r => by
    rw [KDen] at e
    obtain ⟨a, xs, rfl, ha, hs⟩ := e
    cases r
    obtain ⟨_, its, rv, o, ho, hc, n, hd⟩ := ok a _ ha
    exact .tup ho hc hd (by simpa using KDens.nested ok ks xs its hs rv)
theorem KDens.nested (ok : HOk P w H h) : ∀ (ks : List NK) (vs : List V) (us : List Value), KDens H ks vs → Vals vs us → NestedAll h ks us
  | [], _, _, e, r => by rw [KDens] at e; subst e; cases r; exact .nil
  | k :: ks, _, _, e, r => by
    rw [KDens] at e
    obtain ⟨v, t, rfl, h1, h2⟩ := e
    cases r with
    | cons r1 r2 => exact .cons (KDen.nested ok k v _ h1 r1) (KDens.nested ok ks t _ h2 r2)
end
end

section
variable {X : Cx} {pins : List (Addr × Obj)} {s : Shared} {σ : Sl} {H : Hp} {S : Sto}
theorem Ent.rows {K : PySem.W.Frag} {H : Hp} : ∀ {kvs : List (NK × D)} {xs : List Row}, Paired (Ent K H) kvs xs → xs.map (·.1) = kvs.map (·.1)
  | _, _, .nil => rfl
  | _, _, .cons r t => by rw [List.map_cons, List.map_cons, r.1, Ent.rows t]
theorem Ent.mem {K : PySem.W.Frag} {H : Hp} : ∀ {kvs : List (NK × D)} {xs : List Row}, Paired (Ent K H) kvs xs → ∀ x ∈ xs, ∃ p ∈ kvs, Ent K H p x
  | _, _, .nil => fun _ h => by cases h
  | _, _, .cons r t => fun x h => by
    rcases List.mem_cons.mp h with rfl | h
    · exact ⟨_, List.mem_cons_self, r⟩
    · obtain ⟨p, hp, e⟩ := Ent.mem t x h
      exact ⟨p, List.mem_cons_of_mem _ hp, e⟩
/-- the table that stands where the store tells of a dict -/
theorem dicTab (I : Inv X pins σ H s) (as : AbsS X.K X.w H S) {a : Addr} {lk : Lk} {kvs : List (NK × D)} (h : S a = some (.dic lk kvs)) :
    ∃ xs ep o, Tab X.w s.heap a xs ep o ∧ DicOk X.K H a kvs xs ∧ (lk = none → H a = some (.ext (dictAt X.w a xs))) := by
  obtain ⟨xs, ok, hl⟩ := as a _ h
  have at_ : dictAt X.w a xs s.heap := by
    cases lk with
    | none =>
      obtain ⟨q, _⟩ := I.hok a _ hl
      exact q
    | some l =>
      obtain ⟨_, q, _⟩ := I.hok a _ hl.2
      exact q
  obtain ⟨o, ep, h1, h2, h3⟩ := at_
  refine ⟨xs, ep, o, ⟨h1, h2, h3, fun x hx => ?_, fun x hx => ?_, ?_⟩, ok, fun e => ?_⟩
  · obtain ⟨p, hp, e, ⟨v, r, q⟩, _⟩ := Ent.mem ok.ent x hx
    rw [← e]
    exact KDen.nested I.hok _ _ _ q r
  · obtain ⟨p, hp, e, _⟩ := Ent.mem ok.ent x hx
    rw [← e]
    exact ok.dep p hp
  · rw [Ent.rows ok.ent]; exact ok.nod
  · subst e
    exact hl
theorem look_rows {K : PySem.W.Frag} {H : Hp} {k : NK} : ∀ {kvs : List (NK × D)} {xs : List Row}, Paired (Ent K H) kvs xs →
    (dlook kvs k = none ∧ xs.find? (fun p => decide (p.1 = k)) = none) ∨ ∃ d r, dlook kvs k = some d ∧ xs.find? (fun p => decide (p.1 = k)) = some r ∧ ∃ v, RelV v r.2.2 ∧ Den K H d v
  | _, _, .nil => .inl ⟨rfl, rfl⟩
  | p :: kvs, x :: xs, .cons r t => by
    by_cases e : x.1 = k
    · refine .inr ⟨p.2, x, ?_, ?_, r.2.2⟩
      · unfold dlook; rw [List.find?_cons_of_pos (by simp [r.1, e])]; rfl
      · rw [List.find?_cons_of_pos (by simp [e])]
    · rcases look_rows (k := k) t with ⟨h1, h2⟩ | ⟨d, y, h1, h2, h3⟩
      · refine .inl ⟨?_, ?_⟩
        · unfold dlook at h1 ⊢; rw [List.find?_cons_of_neg (by simp [r.1, e])]; exact h1
        · rw [List.find?_cons_of_neg (by simp [e])]; exact h2
      · refine .inr ⟨d, y, ?_, ?_, h3⟩
        · unfold dlook at h1 ⊢; rw [List.find?_cons_of_neg (by simp [r.1, e])]; exact h1
        · rw [List.find?_cons_of_neg (by simp [e])]; exact h2

/-! ### in, not in -/
/-- a text in a text -/
def inTx (c z : Str) : Bool := !(Builtin.Str.occurrences z c 0 z.length 1).isEmpty
def rIn3 (f : Bool → Bool) : RO3 := fun x y S Q => match x, y with
  | .k a, .k (.tup ks) => a.depth ≤ 8 ∧ Q (.bl (f (decide (a ∈ ks)))) S
  | .k (.text c), .k (.text z) => Q (.bl (f (inTx c z))) S
  | .k a, .ref b => a.depth ≤ 8 ∧ ((∃ ks, S b = some (.lst (List.map D.k ks)) ∧ Q (.bl (f (decide (a ∈ ks)))) S) ∨ ∃ lk kvs, S b = some (.dic lk kvs) ∧ Q (.bl (f (dlook kvs a).isSome)) S)
  | _, _ => False
/-- whether a value is the key k, as a Bool -/
noncomputable def isKey (h : Heap) (k : NK) (u : Value) : Bool := @decide (NestedIs h k u) (Classical.propDecidable _)
theorem isKey_of {h : Heap} {k k' : NK} {u : Value} (q : NestedIs h k' u) : isKey h k u = NestedKey.beq k' k := by
  unfold isKey
  by_cases e : k' = k
  · subst e
    rw [NestedKey.beq_self]
    exact @decide_eq_true _ (Classical.propDecidable _) q
  · have : NestedKey.beq k' k = false := by rw [← NestedKey.decide_eq]; exact decide_eq_false e
    rw [this]
    exact @decide_eq_false _ (Classical.propDecidable _) fun z => e (NestedIs.inj _ _ _ q z)
theorem any_isKey {h : Heap} {k : NK} : ∀ {ks : List NK} {us : List Value}, NestedAll h ks us → us.any (isKey h k) = decide (k ∈ ks)
  | [], _, r => by cases r; simp
  | x :: ks, _, r => by
    cases r with
    | cons r1 r2 =>
      rw [List.any_cons, isKey_of r1, any_isKey r2, ← NestedKey.decide_eq]
      by_cases e : x = k
      · subst e; simp
      · have e' : ¬ k = x := fun z => e z.symm
        simp [e, e']
theorem all_eqAt {A : Around} {k : NK} {key : Value} (hk : NestedIs s.heap k key) (hu : A.units + 8 < cLine) (hd : k.depth ≤ 8) : ∀ {ks : List NK} {us : List Value}, NestedAll s.heap ks us → ∀ u ∈ us, SeqAt.EqAt A s u key (isKey s.heap k u)
  | [], _, r => fun u hu => by cases r; cases hu
  | x :: ks, _, r => fun u hu' => by
    cases r with
    | cons r1 r2 =>
      rcases List.mem_cons.mp hu' with rfl | hu'
      · rw [isKey_of r1]
        exact eqAt_key x k A s _ _ r1 hk (by omega)
      · exact all_eqAt hk hu hd r2 u hu'
theorem in_core (hu : X.A.units + 64 < cLine) (f : Bool → Bool) {op : CmpOp} (hop : (op = .In ∧ ∀ b, f b = b) ∨ (op = .NotIn ∧ ∀ b, f b = !b)) : OpR3 X (compareOp op) (rIn3 f) := by
  intro pins s σ H x y v u Q I rx ry ⟨d, e, S, R, as, dx, dy, hr, q⟩
  have hu8 : X.A.in1.units + 8 < cLine := by show X.A.units + 1 + 8 < cLine; omega
  have by_contains : ∀ b : Bool, R (.bl (f b)) S → (∀ (Q' : Bool → Shared → Prop), (∀ tk, Q' b { s with toks := tk }) → wpAny (model X.prog X.w) X.A (contains u v) Q' X.xe s) → wpAny (model X.prog X.w) X.A (compareOp op v u) (EP X pins σ Q) X.xe s := fun b hb hc => by
    rcases hop with ⟨rfl, hf⟩ | ⟨rfl, hf⟩
    · show wpAny _ _ (contains u v >>= fun b => pure (Value.bool b)) _ _ _
      exact wpAny_bind (hc _ fun tk => wpAny_pure ⟨.bl b, H, I.tok tk, rfl, q (.bl b) H (.bl b) S (.refl _ _) as rfl (hf b ▸ hb)⟩)
    · show wpAny _ _ (contains u v >>= fun b => pure (Value.bool (!b))) _ _ _
      exact wpAny_bind (hc _ fun tk => wpAny_pure ⟨.bl (!b), H, I.tok tk, rfl, q (.bl (!b)) H (.bl (!b)) S (.refl _ _) as rfl (hf b ▸ hb)⟩)
  have fin : ∀ b : Bool, R (.bl (f b)) S → EP X pins σ Q (.bool (f b)) s := fun b hb => ⟨.bl (f b), H, I, rfl, q _ H (.bl (f b)) S (.refl _ _) as rfl hb⟩
  unfold rIn3 at hr
  split at hr
  · rename_i k ks
    obtain ⟨hd, hr⟩ := hr
    have dy' : KDen H (.tup ks) y := dy
    rw [KDen] at dy'
    obtain ⟨a, xs, rfl, ha, hxs⟩ := dy'
    cases ry
    have hk := KDen.nested I.hok k x v dx rx
    obtain ⟨its, rv, pl, hz⟩ := I.tuple (SqT.of ha)
    have hall := KDens.nested I.hok ks xs its hxs rv
    have e1 : its.toArray.any (isKey s.heap k) = decide (k ∈ ks) := by rw [← any_isKey hall]; simp
    rcases hop with ⟨rfl, hf⟩ | ⟨rfl, hf⟩
    · refine SeqAt.in_tupleAt (isKey s.heap k) pl (fun z hz => all_eqAt hk hu8 hd hall z (by simpa using hz)) ?_
      have z := fin _ hr; rw [hf] at z; rw [e1]; exact z
    · refine SeqAt.notIn_tupleAt (isKey s.heap k) pl (fun z hz => all_eqAt hk hu8 hd hall z (by simpa using hz)) ?_
      have z := fin _ hr; rw [hf] at z; rw [e1]; exact z
  · rename_i c z
    have dx' : x = V.str c := dx
    have dy' : y = V.str z := dy
    subst dx' dy'
    rcases hop with ⟨rfl, hf⟩ | ⟨rfl, hf⟩
    · refine op_in_str pins s σ H _ _ v u Q I rx ry ⟨c, z, rfl, rfl, ?_⟩
      rw [hf] at hr
      exact q _ H (.bl (inTx c z)) S (.refl _ _) as rfl hr
    · refine op_notIn_str pins s σ H _ _ v u Q I rx ry ⟨c, z, rfl, rfl, ?_⟩
      rw [hf] at hr
      exact q _ H (.bl (!inTx c z)) S (.refl _ _) as rfl hr
  · rename_i k b
    obtain ⟨hd, hr⟩ := hr
    have dy' : y = V.ref b := dy
    subst dy'
    cases ry
    have hk := KDen.nested I.hok k x v dx rx
    rcases hr with ⟨ks, hb, hr⟩ | ⟨lk, kvs, hb, hr⟩
    · obtain ⟨us, h1, d1⟩ := as b _ hb
      obtain ⟨its, rv, pl, hz⟩ := I.list (SqL.of h1)
      have hall := KDens.nested I.hok ks us its (nks_den d1 (nks_map ks)) rv
      have e1 : its.toArray.any (isKey s.heap k) = decide (k ∈ ks) := by rw [← any_isKey hall]; simp
      rcases hop with ⟨rfl, hf⟩ | ⟨rfl, hf⟩
      · refine SeqAt.in_listAt (isKey s.heap k) pl.isList (fun z hz => all_eqAt hk hu8 hd hall z (by simpa using hz)) ?_
        have z := fin _ hr; rw [hf] at z; rw [e1]; exact z
      · refine SeqAt.notIn_listAt (isKey s.heap k) pl.isList (fun z hz => all_eqAt hk hu8 hd hall z (by simpa using hz)) ?_
        have z := fin _ hr; rw [hf] at z; rw [e1]; exact z
    · obtain ⟨xs, ep, o, T, ok, _⟩ := dicTab I as hb
      refine by_contains _ hr fun Q' hq => dcontains T ok.sys (by omega) hk hd ?_
      have e1 : (xs.find? fun p => decide (p.1 = k)).isSome = (dlook kvs k).isSome := by
        rcases look_rows (k := k) ok.ent with ⟨h1, h2⟩ | ⟨d, r, h1, h2, _⟩ <;> rw [h1, h2] <;> rfl
      rw [e1]
      exact hq _
  · exact hr.elim
theorem o_in (hu : X.A.units + 64 < cLine) : OpR3 X (compareOp .In) (rIn3 id) := in_core hu id (.inl ⟨rfl, fun _ => rfl⟩)
theorem o_notin (hu : X.A.units + 64 < cLine) : OpR3 X (compareOp .NotIn) (rIn3 (!·)) := in_core hu (!·) (.inr ⟨rfl, fun _ => rfl⟩)

/-! ### subscripts -/
def rIx3 : RO3 := fun x y S Q => match x, y with
  | .k (.tup ks), .k (.num i) => ∃ k, atI ks i = some k ∧ Q (.k k) S
  | .ref a, .k k => (∃ xs i d, S a = some (.lst xs) ∧ k = .num i ∧ atI xs i = some d ∧ Q d S) ∨ ∃ lk kvs d, S a = some (.dic lk kvs) ∧ k.depth ≤ 8 ∧ dlook kvs k = some d ∧ Q d S
  | _, _ => False
theorem atI_paired {α β : Type} {F : α → β → Prop} {xs : List α} {ys : List β} (h : Paired F xs ys) {i : Int} {x : α} (e : atI xs i = some x) : ∃ y, atI ys i = some y ∧ F x y := by
  have hl := Paired.length h
  unfold atI at e ⊢
  rw [← hl]
  cases q : ixN xs.length i with
  | none => rw [q] at e; cases e
  | some j =>
    rw [q] at e
    show ∃ y, ys[j]? = some y ∧ _
    change xs[j]? = some x at e
    clear q hl
    induction h generalizing j with
    | nil => simp at e
    | cons r t ih =>
      cases j with
      | zero => simp at e; subst e; exact ⟨_, rfl, r⟩
      | succ j => simpa using ih j (by simpa using e)
theorem o_ix (hu : X.A.units + 64 < cLine) : IxR X (up2 X.K X.w rIx3) := by
  intro value slice pins s σ H x y v u Q I rx ry ⟨d, e, S, R, as, dx, dy, hr, q⟩ hs
  unfold rIx3 at hr
  split at hr
  · rename_i ks i
    obtain ⟨k, he, hr⟩ := hr
    have dx' : KDen H (.tup ks) x := dx
    rw [KDen] at dx'
    obtain ⟨a, xs, rfl, ha, hxs⟩ := dx'
    obtain ⟨z, ez, dz⟩ := atI_paired (KDens.paired hxs) he
    exact ix_tup value slice pins s σ H _ _ v u Q I rx ry ⟨a, xs, i, z, rfl, dy, .of ha, ez, q z H (.k k) S (.refl _ _) as dz hr⟩ hs
  · rename_i a k
    have dx' : x = V.ref a := dx
    subst dx'
    rcases hr with ⟨xs, i, d, ha, rfl, he, hr⟩ | ⟨lk, kvs, d, ha, hd, he, hr⟩
    · obtain ⟨us, h1, d1⟩ := as a _ ha
      obtain ⟨z, ez, dz⟩ := atI_paired d1 he
      exact ix_list value slice pins s σ H _ _ v u Q I rx ry ⟨a, us, i, z, rfl, dy, .of h1, ez, q z H d S (.refl _ _) as dz hr⟩ hs
    · obtain ⟨xs, ep, o, T, ok, _⟩ := dicTab I as ha
      cases rx
      have hk := KDen.nested I.hok k y u dy ry
      rcases look_rows (k := k) ok.ent with ⟨h1, _⟩ | ⟨d', r, h1, h2, z, rz, dz⟩
      · rw [h1] at he; cases he
      · rw [h1] at he
        cases he
        exact subscriptTail_builtinR (x := r.2.2) (ofType T) slot_dict_getitem.lookup (dgetItem T (by omega) hk hd h2 ⟨rfl, z, H, I.tok _, rz, q z H _ S (.refl _ _) as dz hr⟩) hs
  · exact hr.elim
variable {a b : Expr} {ta tb : TE3} {pos p2 : Pos}
theorem pix3 (hu : X.A.units + 64 < cLine) (ha : PE3 X a ta) (hb : PE3 X b tb) (hs : PlainIx b := by exact fun _ _ => rfl) : PE3 X (.Subscript a b pos) (tOp3 rIx3 ta tb) := PE.imp (pe_ix (o_ix hu) ha hb hs) fun σ H Q h => op_aux h

/-! ### slices -/
def cut {α : Type} (xs : List α) (lo hi : Option Int) : List α := (xs.drop (HT.sIx xs.length 0 lo)).take (HT.sIx xs.length xs.length hi - HT.sIx xs.length 0 lo)
abbrev TO3 := Sd → Sto → (Option Int → Sto → Prop) → Prop
def upO (K : PySem.W.Frag) (w : World) (t : TO3) : TO := fun σ H Q => ∃ σd S R, AbsV K H σ σd ∧ AbsS K w H S ∧ t σd S R ∧ ∀ o H' S', Ext S H S' H' → AbsS K w H' S' → R o S' → Q o H'
def tNo3 : TO3 := fun _ S Q => Q none S
def tSm3 (t : TE3) : TO3 := fun σ S Q => t σ S fun d S1 => asI d fun i => Q (some i) S1
theorem PO.imp {X : Cx} {e : Option Expr} {t t' : TO} (h : PO X e t) (i : ∀ σ H Q, t' σ H Q → t σ H Q) : PO X e t' := ⟨fun pins s σ H Q I q => h.run pins s σ H Q I (i σ H Q q)⟩
abbrev PO3 (X : Cx) (e : Option Expr) (t : TO3) : Prop := PO X e (upO X.K X.w t)
theorem pon3 : PO3 X none tNo3 := PO.imp po_none fun σ H Q ⟨σd, S, R, av, as, h, q⟩ => q none H S (.refl _ _) as h
theorem pos3 (h : PE3 X a ta) : PO3 X (some a) (tSm3 ta) := PO.imp (po_some h) fun σ H Q ⟨σd, S, R, av, as, h, q⟩ =>
  seqE av as h fun v H1 d S1 x1 k1 av1 as1 dn1 h1 => by
    obtain ⟨i, rfl, h2⟩ := asI_some h1
    exact ⟨i, dn1, q (some i) H1 S1 x1 as1 h2⟩
def rSl3 : D → Option Int → Option Int → Sto → VK3 → Prop := fun x lo hi S Q => match x with
  | .k (.tup ks) => Q (Dt (cut ks lo hi)) S
  | .ref a => ∃ xs, S a = some (.lst xs) ∧ ∀ p, S p = none → Q (.ref p) (put S p (.lst (cut xs lo hi)))
  | .sq ns => ∀ p, S p = none → Q (.ref p) (put S p (.lst (cut (ns.map Dn) lo hi)))
  | _ => False
def tSl3 (te : TE3) (tl th : TO3) : TE3 := fun σ S Q => te σ S fun x S1 => tl σ S1 fun l S2 => th σ S2 fun u S3 => rSl3 x l u S3 Q
theorem Paired.drop {α β : Type} {F : α → β → Prop} : ∀ {xs : List α} {ys : List β} (n : Nat), Paired F xs ys → Paired F (xs.drop n) (ys.drop n)
  | _, _, 0, r => r
  | _, _, _ + 1, .nil => .nil
  | _, _, n + 1, .cons _ t => Paired.drop n t
theorem Paired.take {α β : Type} {F : α → β → Prop} : ∀ {xs : List α} {ys : List β} (n : Nat), Paired F xs ys → Paired F (xs.take n) (ys.take n)
  | _, _, 0, _ => .nil
  | _, _, _ + 1, .nil => .nil
  | _, _, n + 1, .cons r t => .cons r (Paired.take n t)
theorem cut_paired {α : Type} {F : α → V → Prop} {xs : List α} {ys : List V} (h : Paired F xs ys) (lo hi : Option Int) : Paired F (cut xs lo hi) (cutV ys lo hi) := by
  unfold cut cutV
  rw [Paired.length h]
  exact Paired.take _ (Paired.drop _ h)
theorem cut_whole {α : Type} {xs : List α} {lo hi : Option Int} (h : HT.sIx xs.length 0 lo = 0 ∧ HT.sIx xs.length xs.length hi = xs.length) : cut xs lo hi = xs := by
  unfold cut
  rw [h.1, h.2]
  simp
theorem dens_ints {K : PySem.W.Frag} {H : Hp} : ∀ ns : List Int, Dens K H (ns.map Dn) (ns.map V.int)
  | [] => .nil
  | n :: ns => .cons rfl (dens_ints ns)
theorem sl_core : SlR X (fun x lo hi H Q => ∃ d S R, AbsS X.K X.w H S ∧ Den X.K H d x ∧ rSl3 d lo hi S R ∧ ∀ v H' d' S', Ext S H S' H' → AbsS X.K X.w H' S' → Den X.K H' d' v → R d' S' → Q v H') := by
  intro pins s σ H x v vl vu lo hi sl Q I rx hs pl pu ⟨d, S, R, as, dx, hr, q⟩
  unfold rSl3 at hr
  split at hr
  · rename_i ks
    have dx' : KDen H (.tup ks) x := dx
    rw [KDen] at dx'
    obtain ⟨a, xs, rfl, ha, hxs⟩ := dx'
    have hl := hxs.length
    refine sl_tupA pins s σ H _ v vl vu lo hi sl Q I rx hs pl pu ⟨a, xs, rfl, .of ha, fun hw => ?_, fun _ p n => ?_⟩
    · rw [cut_whole (by rw [hl]; exact hw)] at hr
      exact q _ H (Dt ks) S (.refl _ _) as dx hr
    · obtain ⟨as2, x2, k2⟩ := as.hide (u := .tup (cutV xs lo hi)) n
      refine q _ _ (Dt (cut ks lo hi)) S x2 as2 ?_ hr
      show KDen _ (.tup _) _
      rw [KDen]
      exact ⟨p, _, rfl, upd_same, KDens.of (cut_paired (KDens.paired (KDens.keep k2 _ _ hxs)) lo hi)⟩
  · rename_i a
    obtain ⟨xs, ha, hr⟩ := hr
    obtain ⟨us, h1, d1⟩ := as a _ ha
    have dx' : x = V.ref a := dx
    subst dx'
    refine sl_list pins s σ H _ v vl vu lo hi sl Q I rx hs pl pu ⟨a, us, rfl, .of h1, fun p n => ?_⟩
    obtain ⟨as2, x2, k2⟩ := as.lay (u := .lst (cutV us lo hi)) (o := .lst (cut xs lo hi)) n ⟨_, upd_same, cut_paired (d1.keep (as.hide n).2.2) lo hi⟩
    exact q (.ref p) _ (.ref p) _ x2 as2 rfl (hr p (as.free n))
  · rename_i ns
    obtain ⟨a, rfl, hq⟩ := dx
    have hq' : SqL X.K H a (ns.map V.int) := hq.elim (fun ⟨o, z⟩ => .inl (.inr ⟨o, z⟩)) fun z => z H
    refine sl_list pins s σ H _ v vl vu lo hi sl Q I rx hs pl pu ⟨a, _, rfl, hq', fun p n => ?_⟩
    obtain ⟨as2, x2, k2⟩ := as.lay (u := .lst (cutV (ns.map V.int) lo hi)) (o := .lst (cut (ns.map Dn) lo hi)) n ⟨_, upd_same, cut_paired (dens_ints ns) lo hi⟩
    exact q (.ref p) _ (.ref p) _ x2 as2 rfl (hr p (as.free n))
  · exact hr.elim
theorem psl3 {lo hi : Option Expr} {tl th : TO3} (he : PE3 X a ta) (hl : PO3 X lo tl) (hh : PO3 X hi th) : PE3 X (.Subscript a (.Slice lo hi none p2) pos) (tSl3 ta tl th) := PE.imp (pe_slice sl_core he hl hh) fun σ H Q ⟨σd, S, R, av, as, h, q⟩ =>
  seqE av as h fun v H1 d S1 x1 k1 av1 as1 dn1 h1 => ⟨σd, S1, _, av1, as1, h1, fun l H2 S2 x2 as2 h2 =>
    ⟨σd, S2, _, av1.keep (x2.keeps as1), as2, h2, fun u H3 S3 x3 as3 h3 => ⟨d, S3, R, as3, (dn1.keep (x2.keeps as1)).keep (x3.keeps as2), h3, fun v' H' d' S' x4 as4 dn4 h4 => q v' H' d' S' (((x1.trans x2).trans x3).trans x4) as4 dn4 h4⟩⟩⟩

/-! ### stores into lists and dicts -/
def rSet3 : D → D → D → Sto → (Sto → Prop) → Prop := fun o i v S Q => match o, i with
  | .ref a, .k k => (∃ xs j n, S a = some (.lst xs) ∧ k = .num j ∧ ixN xs.length j = some n ∧ Q (put S a (.lst (xs.set n v)))) ∨ ∃ kvs, S a = some (.dic none kvs) ∧ k.depth ≤ 8 ∧ kvs.length < 1000000 ∧ Q (put S a (.dic none (dput kvs k v)))
  | _, _ => False
theorem Dens.set {K : PySem.W.Frag} {H : Hp} {d : D} {v : V} (r : Den K H d v) : ∀ {ds : List D} {vs : List V} (i : Nat), Dens K H ds vs → Dens K H (ds.set i d) (vs.set i v)
  | _, _, _, .nil => .nil
  | _, _, 0, .cons _ t => .cons r t
  | _, _, i + 1, .cons q t => .cons q (Dens.set r i t)
theorem Paired.snoc {α β : Type} {F : α → β → Prop} {x : α} {y : β} (r : F x y) : ∀ {xs : List α} {ys : List β}, Paired F xs ys → Paired F (xs ++ [x]) (ys ++ [y])
  | _, _, .nil => .cons r .nil
  | _, _, .cons q t => .cons q (Paired.snoc r t)
theorem map_put {K : PySem.W.Frag} {H : Hp} (k : NK) {d : D} {u : Value} (hv : ∃ v, RelV v u ∧ Den K H d v) : ∀ {kvs : List (NK × D)} {xs : List Row}, Paired (Ent K H) kvs xs →
    Paired (Ent K H) (kvs.map fun p => if p.1 = k then (p.1, d) else p) (xs.map fun p => if p.1 = k then (p.1, p.2.1, u) else p)
  | _, _, .nil => .nil
  | p :: kvs, x :: xs, .cons r t => by
    rw [List.map_cons, List.map_cons]
    refine .cons ?_ (map_put k hv t)
    by_cases e : x.1 = k
    · rw [if_pos e, if_pos (r.1.trans e)]
      exact ⟨r.1, r.2.1, hv⟩
    · rw [if_neg e, if_neg (by rw [r.1]; exact e)]
      exact r
theorem ent_put {K : PySem.W.Frag} {H : Hp} {k : NK} {d : D} {key u : Value} (hk : ∃ v, RelV v key ∧ KDen H k v) (hv : ∃ v, RelV v u ∧ Den K H d v) {kvs : List (NK × D)} {xs : List Row} (h : Paired (Ent K H) kvs xs) : Paired (Ent K H) (dput kvs k d) (rput xs k key u) := by
  have any : (kvs.any fun p => decide (p.1 = k)) = (xs.any fun p => decide (p.1 = k)) := by
    induction h with
    | nil => rfl
    | cons r t ih => rw [List.any_cons, List.any_cons, ih, r.1]
  unfold dput rput
  rw [any]
  split
  · exact map_put k hv h
  · exact Paired.snoc ⟨rfl, hk, hv⟩ h
end
end L3
/-! ## L3G -/
/-! stores, fields, calls of defs -/
namespace L3
open PySem PySem.Spec L2
open PyProof.Rows hiding St

section
variable {X : Cx}
theorem rput_len (xs : List Row) (k : NK) (key u : Value) : (rput xs k key u).length ≤ xs.length + 1 := by
  unfold rput
  split <;> simp
theorem dput_keys {α : Type} (kvs : List (NK × α)) (k : NK) (v : α) : ∀ q ∈ dput kvs k v, q.1 = k ∨ ∃ p ∈ kvs, q.1 = p.1 := fun q hq => by
  unfold dput at hq
  split at hq
  · obtain ⟨p, hp, rfl⟩ := List.mem_map.mp hq
    refine .inr ⟨p, hp, ?_⟩
    split <;> rfl
  · rcases List.mem_append.mp hq with h | h
    · exact .inr ⟨q, h, rfl⟩
    · exact .inl (by rw [List.mem_singleton.mp h])
theorem ext_mut {w : World} {a : Addr} {xs : List Row} {H : Hp} (e : H a = some (.ext (dictAt w a xs))) : Mut (H a) := by rw [e]; trivial
/-- the abstract heap behind a change of a dict -/
theorem dict_write {pins : List (Addr × Obj)} {s : Shared} {σ : Sl} {H : Hp} {a : Addr} {xs ys : List Row} {ep : Nat} {o : Obj} {h' : Heap} {tk : Nat} (I : Inv X pins σ H s) (e : H a = some (.ext (dictAt X.w a xs))) (T : Tab X.w h' a ys ep o) (sb : Heap.SameBut a s.heap h') :
    Inv X pins σ (upd H a (.ext (dictAt X.w a ys))) { s with heap := h', toks := tk } := by
  refine I.write (ext_mut e) (.inl rfl) (fun b u hb hg => (sb.2 b hb).trans hg) ⟨o, T.get⟩ ⟨⟨o, ep, T.get, T.exact, T.dat⟩, ⟨o, T.get⟩, ?_⟩
  rintro h1 h2 ⟨o1, ep1, g1, x1, d1⟩ hk
  exact ⟨o1, ep1, hk o1 g1, x1, d1⟩
theorem set_core (hu : X.A.units + 64 < cLine) : PSet X (fun o i v H Q => ∃ d e f S R, AbsS X.K X.w H S ∧ Den X.K H d o ∧ Den X.K H e i ∧ Den X.K H f v ∧ rSet3 d e f S R ∧ ∀ H' S', Ext S H S' H' → AbsS X.K X.w H' S' → R S' → Q H') := by
  intro pins s σ H o i v ov iv u Q I ro ri rv ⟨d, e, f, S, R, as, d1, d2, d3, hr, q⟩
  unfold rSet3 at hr
  split at hr
  · rename_i a k
    have d1' : o = V.ref a := d1
    subst d1'
    rcases hr with ⟨xs, j, n, ha, rfl, hn, hr⟩ | ⟨kvs, ha, hd, hz, hr⟩
    · obtain ⟨us, h1, ds⟩ := as a _ ha
      refine set_list pins s σ H _ i v ov iv u Q I ro ri rv ⟨a, us, j, n, rfl, d2, h1, by rw [← ds.length]; exact hn, ?_⟩
      obtain ⟨as2, x2, k2⟩ := as.change (u := .lst (us.set n v)) (o' := .lst (xs.set n f)) ha fun kk => ⟨_, upd_same, Dens.set (d3.keep kk) n (ds.keep kk)⟩
      exact q _ _ x2 as2 hr
    · obtain ⟨xs, ep, ob, T, ok, hl⟩ := dicTab I as ha
      cases ro
      have hk := KDen.nested I.hok k i iv d2 ri
      have lxs : xs.length = kvs.length := (Paired.length ok.ent).symm
      refine dsetItem T (by omega) hk hd (by rw [lxs]; exact ok.len) fun h' ep' o' T' sb => ?_
      have I' := dict_write (tk := s.toks + k.draws) I (hl rfl) T' sb
      have big : 1000000 + 1 ≤ sizeLine := by decide
      obtain ⟨as2, x2, k2⟩ := as.change (u := .ext (dictAt X.w a (rput xs k iv u))) (o' := .dic none (dput kvs k f)) ha fun kk => by
        have hp := ent_put (k := k) ⟨i, ri, KDen.keep kk _ _ d2⟩ ⟨v, rv, d3.keep kk⟩ (Paired.mapP ok.ent fun _ _ z => z.keep kk)
        refine ⟨_, ⟨?_, ok.sys, ?_, fun z hz => ?_, hp⟩, upd_same⟩
        · rw [Paired.length hp]
          have := rput_len xs k iv u
          omega
        · rw [← Ent.rows hp]; exact T'.nod
        · rcases dput_keys kvs k f z hz with e | ⟨y, hy, e⟩
          · rw [e]; exact hd
          · rw [e]; exact ok.dep y hy
      exact ⟨_, I', q _ _ x2 as2 hr⟩
  · exact hr.elim
variable {e o i : Expr} {te to ti : TE3} {pos p2 : Pos}
def tSub3 (te to ti : TE3) : TS3 := fun D σ S => te σ S fun v S1 => to σ S1 fun o S2 => ti σ S2 fun i S3 => rSet3 o i v S3 fun S4 => D.nx σ S4
theorem psub3 (hu : X.A.units + 64 < cLine) (he : PE3 X e te) (ho : PE3 X o to) (hi : PE3 X i ti) (hs : swapsWithSole [.Subscript o i p2] e pos.line X.env = pure false := by rfl) (hw : swappedStores [.Subscript o i p2] e X.env = pure none := by rfl)
    (h1 : (assignEach [.Subscript o i p2] X.env).map (·.2) = [assign (.Subscript o i p2) X.env] := by rfl)
    (ha : ∀ v, assign (.Subscript o i p2) X.env v = (do
      let ov ← holding [v] (eval o X.env)
      let iv ← holding [v, ov] (eval i X.env)
      standAt p2
      holding [v, ov, iv] (setItem ov iv v)
      release [v, ov, iv] []) := by intro _; rfl) : PS3 X (.Assign [.Subscript o i p2] e pos) (tSub3 te to ti) := PS.imp (ps_asg he (pg_sub ho hi (set_core hu) ha) hs hw h1) fun D σ H ⟨σd, S, D3, av, as, h, q⟩ =>
  seqE av as h fun v H1 d S1 x1 k1 av1 as1 dn1 h1 => seqE av1 as1 h1 fun u H2 f S2 x2 k2 av2 as2 dn2 h2 => seqE av2 as2 h2 fun y H3 g S3 x3 k3 av3 as3 dn3 h3 =>
    ⟨f, g, d, S3, _, as3, dn2.keep k3, dn3, (dn1.keep k2).keep k3, h3, fun H' S' x4 as4 h4 => q.nx σ H' σd S' (((x1.trans x2).trans x3).trans x4) (av3.keep (x4.keeps as3)) as4 h4⟩

/-! ### fields -/
def asR (d : D) (Q : Addr → Prop) : Prop := match d with
  | .ref a => Q a
  | _ => False
theorem asR_some {d : D} {Q : Addr → Prop} (h : asR d Q) : ∃ a, d = .ref a ∧ Q a := by
  cases d <;> first | exact ⟨_, rfl, h⟩ | exact h.elim
def fput (f : Str) (v : D) : List (Str × D) → List (Str × D)
  | [] => [(f, v)]
  | (g, x) :: r => if g = f then (g, v) :: r else (g, x) :: fput f v r
abbrev Flds (K : PySem.W.Frag) (H : Hp) : List (Str × D) → List (Str × V) → Prop := Paired fun (p : Str × D) (q : Str × V) => p.1 = q.1 ∧ Den K H p.2 q.2
theorem flds_look {K : PySem.W.Frag} {H : Hp} {f : Str} : ∀ {fs : List (Str × D)} {vs : List (Str × V)} {d : D}, Flds K H fs vs → fs.lookup f = some d → ∃ v, vs.lookup f = some v ∧ Den K H d v
  | _, _, _, .nil, e => by cases e
  | (g, x) :: fs, (g', y) :: vs, d, .cons r t, e => by
    obtain ⟨r1, r2⟩ := r
    have r1 : g = g' := r1
    subst r1
    rw [List.lookup_cons] at e ⊢
    cases q : f == g with
    | true => rw [q] at e; cases e; exact ⟨y, rfl, r2⟩
    | false => rw [q] at e; exact flds_look t e
theorem flds_none {K : PySem.W.Frag} {H : Hp} {f : Str} : ∀ {fs : List (Str × D)} {vs : List (Str × V)}, Flds K H fs vs → fs.lookup f = none → vs.lookup f = none
  | _, _, .nil, _ => rfl
  | (g, x) :: fs, (g', y) :: vs, .cons r t, e => by
    have r1 : g = g' := r.1
    subst r1
    rw [List.lookup_cons] at e ⊢
    cases q : f == g with
    | true => rw [q] at e; cases e
    | false => rw [q] at e; exact flds_none t e
theorem flds_put {K : PySem.W.Frag} {H : Hp} {f : Str} {d : D} {v : V} (r : Den K H d v) : ∀ {fs : List (Str × D)} {vs : List (Str × V)}, Flds K H fs vs → Flds K H (fput f d fs) (putF f v vs)
  | _, _, .nil => .cons ⟨rfl, r⟩ .nil
  | (g, x) :: fs, (g', y) :: vs, .cons q t => by
    have r1 : g = g' := q.1
    subst r1
    unfold fput putF
    by_cases e : g = f
    · rw [if_pos e, if_pos e]; exact .cons ⟨rfl, r⟩ t
    · rw [if_neg e, if_neg e]; exact .cons q (flds_put r t)
def tFld3 (C : Addr) (to : TE3) (f : Str) : TE3 := fun σ S Q => to σ S fun x S1 => asR x fun a => ∃ fs d, S1 a = some (.ins C fs) ∧ fs.lookup f = some d ∧ Q d S1
theorem pfld3 {C : Addr} {f : Str} (c : Cls X.K C) (n : NoAttr X.K C f) (ho : PE3 X o to) (hb : attributeBase o f X.env (eval o X.env) = eval o X.env := by rfl) : PE3 X (.Attribute o f pos) (tFld3 C to f) := PE.imp (pe_fld ho hb) fun σ H Q ⟨σd, S, R, av, as, h, q⟩ =>
  seqE av as h fun v H1 d S1 x1 k1 av1 as1 dn1 h1 => by
    obtain ⟨a, rfl, fs, d, ha, hf, h2⟩ := asR_some h1
    obtain ⟨dx, vs, e1, e2⟩ := as1 a _ ha
    obtain ⟨u, e3, du⟩ := flds_look e2 hf
    exact ⟨a, C, dx, vs, u, dn1, e1, c, n, e3, q u H1 d S1 x1 as1 du h2⟩
def tSFld3 (C : Addr) (te to : TE3) (f : Str) : TS3 := fun D σ S => te σ S fun v S1 => to σ S1 fun x S2 => asR x fun a => ∃ fs, S2 a = some (.ins C fs) ∧ fs.length ≤ 100 ∧ D.nx σ (put S2 a (.ins C (fput f v fs)))
theorem psfld3 {C : Addr} {f : Str} (c : Cls X.K C) (n : NoAttr X.K C f) (he : PE3 X e te) (ho : PE3 X o to) (hs : swapsWith e (some (.Attribute o f p2)) pos.line X.env = pure false := by rfl) : PS3 X (.Assign [.Attribute o f p2] e pos) (tSFld3 C te to f) := PS.imp (ps_fld ho he hs) fun D σ H ⟨σd, S, D3, av, as, h, q⟩ =>
  seqE av as h fun v H1 d S1 x1 k1 av1 as1 dn1 h1 => seqE av1 as1 h1 fun u H2 g S2 x2 k2 av2 as2 dn2 h2 => by
    obtain ⟨a, rfl, fs, ha, hz, h3⟩ := asR_some h2
    obtain ⟨dx, vs, e1, e2⟩ := as2 a _ ha
    refine ⟨a, C, dx, vs, dn2, e1, c, n, by rw [← Paired.length e2]; omega, ?_⟩
    obtain ⟨as3, x3, k3⟩ := as2.change (u := .ins C dx (putF f v vs)) (o' := .ins C (fput f d fs)) ha fun kk => ⟨dx, _, upd_same, flds_put ((dn1.keep k2).keep kk) (Paired.mapP e2 fun _ _ z => ⟨z.1, z.2.keep kk⟩)⟩
    exact q.nx σ _ σd _ ((x1.trans x2).trans x3) (av2.keep k3) as3 h3
end

/-! ### defs -/
/-- what a def promises: the arguments, the store, the wish -/
abbrev Sp3 := List D → Sto → VK3 → Prop
def upSp (K : PySem.W.Frag) (w : World) (n : Nat) (sp : Sp3) : Sp := fun vs H Q _ => vs.length = n ∧ ∃ ds S R, AbsS K w H S ∧ Dens K H ds vs ∧ sp ds S R ∧ ∀ v H' d S', Ext S H S' H' → AbsS K w H' S' → Den K H' d v → R d S' → Q v H'
abbrev Fn3 (P : Program) (w : World) (K : PySem.W.Frag) (mg : Str → Option Value) (base : Heap) (k : Nat) (f : Addr) (fd : FuncData) (ps : List Str) (sp : Sp3) : Prop := FnOk P w K mg base CX0 k f fd ps (upSp K w ps.length sp)
def start3 (N : List Str) (ds : List D) : Sd := ds.map some ++ List.replicate (N.length - ds.length) none
section
variable {P : Program} {w : World} {K : PySem.W.Frag} {mg : Str → Option Value} {base : Heap}
theorem start_abs {H : Hp} {N : List Str} {ds : List D} {vs : List V} (h : Dens K H ds vs) : AbsV K H (start N vs) (start3 N ds) := by
  have hl := h.length
  have e : start N vs = vs.map some ++ List.replicate (N.length - vs.length) none := rfl
  rw [e]
  unfold start3
  refine ⟨by simp [hl], fun i d hi => ?_⟩
  by_cases z : i < ds.length
  · rw [List.getElem?_append_left (by simpa using z), List.getElem?_map] at hi
    cases q : ds[i]? with
    | none => rw [q] at hi; cases hi
    | some x =>
      rw [q] at hi
      cases hi
      obtain ⟨v, e1, r⟩ := h.get q
      exact ⟨v, by rw [List.getElem?_append_left (by simpa using (hl ▸ z)), List.getElem?_map, e1]; rfl, r⟩
  · rw [List.getElem?_append_right (by simpa using z), List.getElem?_replicate] at hi
    split at hi <;> cases hi
/-- a def's promise by its body -/
theorem Fn3.of {x qual : Str} {st : Stmt} {f : Addr} {fd : FuncData} {N ps : List Str} {k : Nat} {sp : Sp3} (F : Fun K x qual st f fd) (Sc : FnScope N ps (defScope st))
    (hbody : ∀ (X : Cx) (cdv : Value) (A : Around) (outer : List Env) (s : Shared) (H : Hp) (E : XK), X = (cxOf CX0 P w K mg base N qual (defScope st) f cdv A outer s H E).nox → Room k X.A → X.A.units + 64 < cLine →
      ∃ t : TS3, PSs3 X (defBody st) t ∧ ∀ ds S R, ds.length = ps.length → sp ds S R → t { nx := fun _ S' => R Dz S', rt := R } (start3 N ds) S) : Fn3 P w K mg base (k + 1) f fd ps sp := by
  refine F.ok Sc (fun vs H Q E h => h.1) fun cdv A outer s H vs Q E hr h => ?_
  obtain ⟨hl, ds, S, R, as, dn, hsp, q⟩ := h
  obtain ⟨t, ht, hq⟩ := hbody _ cdv A outer s H E rfl hr hr.units
  refine ⟨_, ht, start3 N ds, S, { nx := fun _ S' => R Dz S', rt := R }, start_abs dn, as, hq ds S R (by rw [dn.length, hl]) hsp, ?_, ?_, ?_, ?_⟩
  · exact fun σ' H' σd' S' x _ as' h' => q .non H' Dz S' x as' rfl h'
  · exact fun v H' d S' x as' dn' h' => q v H' d S' x as' dn' h'
  · exact fun _ _ _ _ _ _ _ z => z.elim
  · exact fun _ _ _ _ _ _ _ z => z.elim
end
section
variable {X : Cx} {k : Nat} {f C : Addr} {fd : FuncData} {ps : List Str} {sp : Sp3} {x m : Str} {p pos apos : Pos} {e o : Expr} {es : List Expr} {to : TE3} {t : TA3}
def tCall3 (n : Nat) (sp : Sp3) (t : TA3) : TE3 := fun σ S Q => t σ S fun ds S1 => ds.length = n ∧ sp ds S1 Q
theorem pcall3 (F : Fn3 X.prog X.w X.K X.mg X.base k f fd ps sp) (hr : Room k X.A) (hg : Gl X x) (hm : X.mg x = some (.ref f)) (hk : PySem.W.keepIn X.K (.ref f) = true) (hb : Binds X.K fd ps [])
    (ha : PA3 X (e :: es) t) (hdb : (x == ("__debug__" : Str)) = false := by decide) (he : starEach (e :: es) X.env = (false, eval e X.env) :: starEach es X.env := by rfl) (hpl : (backTo pos (starEach es X.env)).any (·.1) = false := by rfl) :
    PE3 X (.Call (.Name x p) (e :: es) [] pos) (tCall3 ps.length sp t) := PE.imp (pe_call (E := E0) F hr hg hm hk hb .nil pass0 ha hdb he hpl) fun σ H Q ⟨σd, S, R, av, as, h, q⟩ =>
  seqA av as h fun vs H1 ds S1 x1 k1 av1 as1 dn1 ⟨hl, h1⟩ => by
    rw [List.append_nil]
    exact ⟨by rw [← dn1.length, hl], ds, S1, R, as1, dn1, h1, fun v H' d S' x2 as2 dn2 h2 => q v H' d S' (x1.trans x2) as2 dn2 h2⟩
def tMeth3 (C : Addr) (m : Str) (n : Nat) (sp : Sp3) (to : TE3) (t : TA3) : TE3 := fun σ S Q => to σ S fun x S1 => asR x fun a => ∃ fs, S1 a = some (.ins C fs) ∧ fs.lookup m = none ∧ t σ S1 fun ds S2 => ds.length + 1 = n ∧ sp (.ref a :: ds) S2 Q
theorem pmeth3 {pl : Sem Bool} (c : Cls X.K C) (hm : Meth X.K C m f) (F : Fn3 X.prog X.w X.K X.mg X.base k f fd ps sp) (hr : Room k X.A) (hb : Binds X.K fd ps []) (ho : PE3 X o to) (ha : PA3 X (e :: es) t)
    (hst : starEach (e :: es) X.env = (false, eval e X.env) :: starEach es X.env := by rfl) (hpl : (backTo pos (starEach es X.env)).any (·.1) = false := by rfl)
    (ht : eval (.Call (.Attribute o m apos) (e :: es) [] pos) X.env = (do
      let ov ← eval o X.env
      standAt apos.atName
      let (f, first) ← holding [ov] (getMethod ov m pl)
      callWith pos f first (backTo pos (starEach (e :: es) X.env)) (backToKw pos (keywordEach [] X.env))) := by rfl) :
    PE3 X (.Call (.Attribute o m apos) (e :: es) [] pos) (tMeth3 C m ps.length sp to t) := PE.imp (pe_meth (E := E0) (dvs := []) ho c hm F hr hb .nil pass0 ha hst hpl ht) fun σ H Q ⟨σd, S, R, av, as, h, q⟩ =>
  seqE av as h fun v H1 d S1 x1 k1 av1 as1 dn1 h1 => by
    obtain ⟨a, rfl, fs, hs, hn, h2⟩ := asR_some h1
    obtain ⟨dx, vs, e1, e2⟩ := as1 a _ hs
    have dn1' : v = V.ref a := dn1
    subst dn1'
    refine ⟨a, dx, vs, rfl, e1, flds_none e2 hn, seqA av1 as1 h2 fun us H2 ds S2 x2 k2 av2 as2 dn2 ⟨hl, h3⟩ => ?_⟩
    rw [List.append_nil]
    exact ⟨by rw [List.length_cons, ← dn2.length, hl], .ref a :: ds, S2, R, as2, .cons rfl dn2, h3, fun v H' d S' x3 as3 dn3 h4 => q v H' d S' ((x1.trans x2).trans x3) as3 dn3 h4⟩
def tMake3 (C : Addr) (n : Nat) (sp : Sp3) (t : TA3) : TE3 := fun σ S Q => t σ S fun ds S1 => ds.length + 1 = n ∧ ∀ a, S1 a = none → sp (.ref a :: ds) (put S1 a (.ins C [])) fun d S2 => isN d = true ∧ Q (.ref a) S2
theorem pmake3 (M : Mk X.K C f) (F : Fn3 X.prog X.w X.K X.mg X.base k f fd ps sp) (hr : Room (k + 1) X.A) (hg : Gl X x) (hm : X.mg x = some (.ref C)) (hb : Binds X.K fd ps [])
    (ha : PA3 X (e :: es) t) (hdb : (x == ("__debug__" : Str)) = false := by decide) (he : starEach (e :: es) X.env = (false, eval e X.env) :: starEach es X.env := by rfl) (hpl : (backTo pos (starEach es X.env)).any (·.1) = false := by rfl) :
    PE3 X (.Call (.Name x p) (e :: es) [] pos) (tMake3 C ps.length sp t) := PE.imp (pe_make (E := E0) (dvs := []) M F hr hg hm hb .nil pass0 ha hdb he hpl) fun σ H Q ⟨σd, S, R, av, as, h, q⟩ =>
  seqA av as h fun vs H1 ds S1 x1 k1 av1 as1 dn1 ⟨hl, h1⟩ => by
    intro a dx na ndx ne
    obtain ⟨as2, x2, k2⟩ := as1.hide (u := .own a) ndx
    have na2 : upd H1 dx (.own a) a = none := by rw [upd_ne (Ne.symm ne)]; exact na
    obtain ⟨as3, x3, k3⟩ := as2.lay (u := .ins C dx []) (o := .ins C []) na2 ⟨dx, [], upd_same, .nil⟩
    rw [List.append_nil]
    refine ⟨by rw [List.length_cons, ← dn1.length, hl], .ref a :: ds, _, _, as3, .cons rfl ((dn1.keep k2).keep k3), h1 a (as1.free na), fun v H' d S' x4 as4 dn4 ⟨h5, h6⟩ => ⟨isN_none dn4 h5, ?_⟩⟩
    exact q (.ref a) H' (.ref a) S' (((x1.trans x2).trans x3).trans x4) as4 rfl h6
end
end L3
/-! ## L3H -/
/-! targets, for, while, comprehensions -/
namespace L3
open PySem PySem.Spec L2
open PyProof.Rows hiding St

abbrev TG3 := D → Sd → Sto → (Sd → Sto → Prop) → Prop
abbrev TI3 := Sd → Sto → (List D → (Sto → Prop) → Sto → Prop) → Prop
/-- what an iterator yields while the store stands still in some way -/
def ItOk (K : PySem.W.Frag) (w : World) (J : It) (H1 : Hp) (items : List D) (still : Sto → Prop) : Prop := ∀ H2 S2, Keeps H1 H2 → AbsS K w H2 S2 → still S2 → ∀ i,
  (items.length = i → J.stop i H2) ∧ ∀ d, items[i]? = some d → J.go i H2 ∧ ∀ x H3, J.yld i H2 x H3 → Ext S2 H2 S2 H3 ∧ AbsS K w H3 S2 ∧ Den K H3 d x
section
variable (K : PySem.W.Frag) (w : World)
def upG (g : TG3) : TG := fun v σ H Q => ∃ σd S d R, AbsV K H σ σd ∧ AbsS K w H S ∧ Den K H d v ∧ g d σd S R ∧ ∀ σ' H' σd' S', Ext S H S' H' → AbsV K H' σ' σd' → AbsS K w H' S' → R σd' S' → Q σ' H'
def upI (t : TI3) : TI := fun σ H Q => ∃ σd S R, AbsV K H σ σd ∧ AbsS K w H S ∧ t σd S R ∧ ∀ J H1 S1 items still, Ext S H S1 H1 → AbsS K w H1 S1 → ItOk K w J H1 items still → R items still S1 → Q J H1
end
abbrev PG3 (X : Cx) (tg : Expr) (g : TG3) : Prop := PG X tg (upG X.K X.w g)
abbrev PI3 (X : Cx) (tg iter : Expr) (t : TI3) : Prop := PI X tg iter (upI X.K X.w t)
theorem PG.imp {X : Cx} {e : Expr} {t t' : TG} (h : PG X e t) (i : ∀ v σ H Q, t' v σ H Q → t v σ H Q) : PG X e t' := ⟨fun pins s σ H v u Q I r q => h.run pins s σ H v u Q I r (i v σ H Q q)⟩
theorem PI.imp {X : Cx} {tg e : Expr} {t t' : TI} (h : PI X tg e t) (i : ∀ σ H Q, t' σ H Q → t σ H Q) : PI X tg e t' := ⟨fun pins s σ H R I q => h.run pins s σ H R I (i σ H R q)⟩

section
variable {X : Cx} {pos : Pos}
def gN (i : Nat) : TG3 := fun d σ S Q => Q (σ.set i (some d)) S
theorem pgn3 {i : Nat} {x : Str} (hN : X.N.Nodup) (hi : X.N[i]? = some x) (hx : Loc X.env.scope x) (hf : X.fn x = true ∨ X.env.scope.names.lookup x = some .local := by first | exact .inl rfl | exact .inr rfl | assumption) : PG3 X (.Name x pos) (gN i) :=
  PG.imp (pg_name hN hi hx hf) fun v σ H Q ⟨σd, S, d, R, av, as, dn, h, q⟩ => q _ H _ S (.refl _ _) (av.set i dn) as h
/-- a pair's two names -/
def asP (d : D) (Q : NK → NK → Prop) : Prop := match d with
  | .k (.tup [a, b]) => Q a b
  | _ => False
theorem asP_some {d : D} {Q : NK → NK → Prop} (h : asP d Q) : ∃ a b, d = Dt [a, b] ∧ Q a b := by
  unfold asP at h
  split at h
  · exact ⟨_, _, rfl, h⟩
  · exact h.elim
def gP (i j : Nat) : TG3 := fun d σ S Q => asP d fun a b => Q ((σ.set i (some (.k a))).set j (some (.k b))) S
theorem pair_den {K : PySem.W.Frag} {H : Hp} {a b : NK} {v : V} (h : Den K H (Dt [a, b]) v) : ∃ p x y, v = .ref p ∧ H p = some (.tup [x, y]) ∧ KDen H a x ∧ KDen H b y := by
  have h' : KDen H (.tup [a, b]) v := h
  rw [KDen] at h'
  obtain ⟨p, xs, rfl, hp, h1⟩ := h'
  rw [KDens] at h1
  obtain ⟨x, r, rfl, hx, h2⟩ := h1
  rw [KDens] at h2
  obtain ⟨y, r', rfl, hy, h3⟩ := h2
  rw [KDens] at h3
  subst h3
  exact ⟨p, x, y, rfl, hp, hx, hy⟩
theorem pgp3 {i j : Nat} {x y : Str} {px py : Pos} {kt : Nat} (hc : X.calm = true) (hN : X.N.Nodup) (hi : X.N[i]? = some x) (hx : Loc X.env.scope x) (hj : X.N[j]? = some y) (hy : Loc X.env.scope y)
    (hf : X.fn x = true ∨ X.env.scope.names.lookup x = some .local := by first | exact .inl rfl | exact .inr rfl | assumption) (hf' : X.fn y = true ∨ X.env.scope.names.lookup y = some .local := by first | exact .inl rfl | exact .inr rfl | assumption)
    (h1 : (assignEach [.Name x px, .Name y py] X.env).map (·.2) = assign (.Name x px) X.env :: (assignEach [.Name y py] X.env).map (·.2) := by rfl) (h2 : (assignEach [.Name y py] X.env).map (·.2) = assign (.Name y py) X.env :: (assignEach [] X.env).map (·.2) := by rfl)
    (hn : (assignEach [.Name x px, .Name y py] X.env).length = 2 := by rfl) (hst : (assignEach [.Name x px, .Name y py] X.env).findIdx? (·.1) = none := by rfl) : PG3 X (.Tuple [.Name x px, .Name y py] kt pos) (gP i j) :=
  PG.imp (pg_tup (n := 2) hc (pgs_cons (pg_name hN hi hx hf) (pgs_cons (pg_name hN hj hy hf') pgs_nil h2) h1) hn hst) fun v σ H Q ⟨σd, S, d, R, av, as, dn, h, q⟩ => by
    obtain ⟨a, b, rfl, h⟩ := asP_some h
    obtain ⟨p, u, z, rfl, hp, du, dz⟩ := pair_den dn
    exact ⟨p, _, rfl, .of hp, rfl, u, [z], rfl, z, [], rfl, rfl, q _ H _ S (.refl _ _) ((av.set i (d := .k a) du).set j (d := .k b) dz) as h⟩
variable {e tg iter : Expr} {te : TE3} {body : List Stmt} {ti : TI3} {g : TG3} {tb : TS3} {tc : TT3}
def tAsg3 (te : TE3) (g : TG3) : TS3 := fun D σ S => te σ S fun d S1 => g d σ S1 D.nx
theorem pasg3 (he : PE3 X e te) (hg : PG3 X tg g) (hs : swapsWithSole [tg] e pos.line X.env = pure false := by rfl) (hw : swappedStores [tg] e X.env = pure none := by rfl)
    (h1 : (assignEach [tg] X.env).map (·.2) = [assign tg X.env] := by rfl) : PS3 X (.Assign [tg] e pos) (tAsg3 te g) := PS.imp (ps_asg he hg hs hw h1) fun D σ H ⟨σd, S, D3, av, as, h, q⟩ =>
  seqE av as h fun v H1 d S1 x1 k1 av1 as1 dn1 h1 => ⟨σd, S1, d, D3.nx, av1, as1, dn1, h1, fun σ' H' σd' S' x2 av2 as2 h2 => q.nx σ' H' σd' S' (x1.trans x2) av2 as2 h2⟩

/-! ### for -/
def for3 (g : TG3) (tb : TS3) (still : Sto → Prop) (D : Ends3) : List L3.D → Sd → Sto → Prop
  | [], σ, S => still S ∧ D.nx σ S
  | d :: r, σ, S => still S ∧ g d σ S fun σ1 S1 => tb { D with nx := for3 g tb still D r, ct := for3 g tb still D r, bk := D.nx } σ1 S1
def tFor3 (ti : TI3) (g : TG3) (tb : TS3) : TS3 := fun D σ S => ti σ S fun items still S1 => for3 g tb still D items σ S1
theorem drop_at {α : Type} {l : List α} {i : Nat} {d : α} (h : l[i]? = some d) : l.drop i = d :: l.drop (i + 1) := by
  obtain ⟨h1, rfl⟩ := List.getElem?_eq_some_iff.mp h
  exact List.drop_eq_getElem_cons h1
theorem pfor3 (hp : PassesOwn (model X.prog X.w) X.A X.env X.xe) (hc : X.calm = true) (hi : PI3 X tg iter ti) (hg : PG3 X tg g) (hb : PSs3 X body tb)
    (hs : ∀ x, foldedSetIterable iter X.env x = pure x := by intro _; rfl) : PS3 X (.For tg iter body [] pos) (tFor3 ti g tb) := PS.imp (ps_for hp hc hi hg hb hs) fun D σ H ⟨σd, S, D3, av, as, h, q⟩ => by
  refine ⟨σd, S, _, av, as, h, fun J H1 S1 items still x1 as1 ok h1 => ?_⟩
  have kk1 := x1.keeps as
  refine ⟨fun i m σ' H' => ∃ σd' S', m = items.length - i ∧ i ≤ items.length ∧ Ext S1 H1 S' H' ∧ AbsV X.K H' σ' σd' ∧ AbsS X.K X.w H' S' ∧ for3 g tb still D3 (items.drop i) σd' S',
    ⟨items.length, σd, S1, rfl, Nat.zero_le _, .refl _ _, av.keep kk1, as1, h1⟩, ?_⟩
  rintro i m σ2 H2 ⟨σd2, S2, rfl, hle, x2, av2, as2, h2⟩
  cases hit : items[i]? with
  | none =>
    have hl : items.length ≤ i := List.getElem?_eq_none_iff.mp hit
    rw [List.drop_eq_nil_of_le hl] at h2
    exact .inl ⟨((ok H2 S2 (x2.keeps as1) as2 h2.1) i).1 (Nat.le_antisymm hl hle), q.nx σ2 H2 σd2 S2 (x1.trans x2) av2 as2 h2.2⟩
  | some d =>
    have hlt : i < items.length := (List.getElem?_eq_some_iff.mp hit).1
    rw [drop_at hit] at h2
    obtain ⟨st, h2⟩ := h2
    obtain ⟨go, yl⟩ := ((ok H2 S2 (x2.keeps as1) as2 st) i).2 d hit
    refine .inr ⟨go, fun σ' H' => ∃ σd' S', i + 1 ≤ items.length ∧ Ext S1 H1 S' H' ∧ AbsV X.K H' σ' σd' ∧ AbsS X.K X.w H' S' ∧ for3 g tb still D3 (items.drop (i + 1)) σd' S', ?_, fun x H3 y => ?_⟩
    · rintro σ' H' ⟨σd', S', a1, a2, a3, a4, a5⟩
      exact ⟨items.length - (i + 1), by omega, σd', S', rfl, a1, a2, a3, a4, a5⟩
    · obtain ⟨x3, as3, dn3⟩ := yl x H3 y
      refine ⟨σd2, S2, d, _, av2.keep (x3.keeps as2), as3, dn3, h2, fun σ4 H4 σd4 S4 x4 av4 as4 h4 => ?_⟩
      have xx := (x2.trans x3).trans x4
      refine seqS av4 as4 h4 ⟨fun σ' H' σd' S' x5 av5 as5 h5 => ?_, fun v H' d' S' x5 as5 dn5 h5 => ?_, fun σ' H' σd' S' x5 av5 as5 h5 => ?_, fun σ' H' σd' S' x5 av5 as5 h5 => ?_⟩
      · exact ⟨σd', S', hlt, xx.trans x5, av5, as5, h5⟩
      · exact q.rt v H' d' S' ((x1.trans xx).trans x5) as5 dn5 h5
      · exact q.nx σ' H' σd' S' ((x1.trans xx).trans x5) av5 as5 h5
      · exact ⟨σd', S', hlt, xx.trans x5, av5, as5, h5⟩
def tWhile3 (c : TT3) (tb : TS3) : TS3 := fun D σ S => ∃ W : Nat → Sd → Sto → Prop, (∃ m, W m σ S) ∧ ∀ m σ S, W m σ S →
  c σ S fun b S1 => if b = true then tb { D with nx := fun σ' S' => ∃ m', m' < m ∧ W m' σ' S', ct := fun σ' S' => ∃ m', m' < m ∧ W m' σ' S', bk := D.nx } σ S1 else D.nx σ S1
theorem pwhile3 {c : Expr} (hp : PassesOwn (model X.prog X.w) X.A X.env X.xe) (hc : PT3 X c tc) (hb : PSs3 X body tb) : PS3 X (.While c body [] pos) (tWhile3 tc tb) := PS.imp (ps_while hp hc hb) fun D σ H ⟨σd, S, D3, av, as, ⟨W, ⟨m0, w0⟩, turn⟩, q⟩ => by
  refine ⟨fun m σ' H' => ∃ σd' S', Ext S H S' H' ∧ AbsV X.K H' σ' σd' ∧ AbsS X.K X.w H' S' ∧ W m σd' S', ⟨m0, σd, S, .refl _ _, av, as, w0⟩, ?_⟩
  rintro m σ1 H1 ⟨σd1, S1, x1, av1, as1, w1⟩
  refine seqT av1 as1 (turn m σd1 S1 w1) fun b H2 S2 x2 k2 av2 as2 h2 => ?_
  cases b with
  | true =>
    rw [if_pos rfl] at h2 ⊢
    refine ⟨fun σ' H' => ∃ m', m' < m ∧ ∃ σd' S', Ext S H S' H' ∧ AbsV X.K H' σ' σd' ∧ AbsS X.K X.w H' S' ∧ W m' σd' S', fun σ' H' z => z, ?_⟩
    have xx := x1.trans x2
    refine seqS av2 as2 h2 ⟨fun σ' H' σd' S' x5 av5 as5 ⟨m', hm, h5⟩ => ⟨m', hm, σd', S', xx.trans x5, av5, as5, h5⟩, fun v H' d' S' x5 as5 dn5 h5 => q.rt v H' d' S' (xx.trans x5) as5 dn5 h5,
      fun σ' H' σd' S' x5 av5 as5 h5 => q.nx σ' H' σd' S' (xx.trans x5) av5 as5 h5, fun σ' H' σd' S' x5 av5 as5 ⟨m', hm, h5⟩ => ⟨m', hm, σd', S', xx.trans x5, av5, as5, h5⟩⟩
  | false =>
    rw [if_neg Bool.false_ne_true] at h2 ⊢
    exact q.nx σ1 H2 σd1 S2 (x1.trans x2) av2 as2 h2

/-! ### comprehensions -/
def lc3 (gs : L3.D → (Sd → Prop) → Prop) (tt : TT3) (te : TE3) (still : Sto → Prop) (Q : List L3.D → Sto → Prop) : List L3.D → List L3.D → Sto → Prop
  | [], acc, S => still S ∧ Q acc S
  | d :: r, acc, S => still S ∧ gs d fun σ1 => tt σ1 S fun b S2 => if b = true then te σ1 S2 fun v S3 => acc.length < 1000000 ∧ lc3 gs tt te still Q r (acc ++ [v]) S3 else lc3 gs tt te still Q r acc S2
def tLc3 (ti : TI3) (gs : Sd → L3.D → (Sd → Prop) → Prop) (tt : TT3) (te : TE3) : TE3 := fun σ S Q => ti σ S fun items still S1 => lc3 (gs σ) tt te still (fun acc S2 => ∀ p, S2 p = none → Q (.ref p) (put S2 p (.lst acc))) items [] S1
/-- one name; a pair of names -/
def cN (i : Nat) (σ : Sd) : L3.D → (Sd → Prop) → Prop := fun d Q => Q (σ.set i (some d))
def cP (i j : Nat) (σ : Sd) : L3.D → (Sd → Prop) → Prop := fun d Q => asP d fun a b => Q ((σ.set i (some (.k a))).set j (some (.k b)))
/-- what a target of a comprehension does -/
structure CG (K : PySem.W.Frag) (vs : List Nat) (g : TG) (gs : Sd → L3.D → (Sd → Prop) → Prop) : Prop where
  run : ∀ (σ : Sl) (σd : Sd) (H : Hp) (d : L3.D) (x : V) (R : Sd → Prop) (Q : Sl → Hp → Prop), AbsV K H σ σd → Den K H d x → gs σd d R → (∀ σ2 σd2, AbsV K H σ2 σd2 → wipe σ2 vs = wipe σ vs → R σd2 → Q σ2 H) → g x (wipe σ vs) H Q
theorem AbsV.unset {K : PySem.W.Frag} {H : Hp} {σ : Sl} {σd : Sd} (h : AbsV K H σ σd) (i : Nat) (d : L3.D) (v : V) (q : Den K H d v) : AbsV K H ((σ.set i none).set i (some v)) (σd.set i (some d)) := by
  rw [List.set_set]
  exact h.set i q
theorem cg_name {K : PySem.W.Frag} (i : Nat) : CG K [i] (gName i) (cN i) := ⟨fun σ σd H d x R Q av dn h q => by
  refine q _ _ (av.unset i d x dn) ?_ h
  show ((σ.set i none).set i (some x)).set i none = σ.set i none
  rw [List.set_set, List.set_set]⟩
theorem cg_pair {K : PySem.W.Frag} {i j : Nat} (hij : i ≠ j) : CG K [i, j] (gTup K 2 (gCons (gName i) (gCons (gName j) gNil))) (cP i j) := ⟨fun σ σd H d x R Q av dn h q => by
  obtain ⟨a, b, rfl, h⟩ := asP_some h
  obtain ⟨p, u, z, rfl, hp, du, dz⟩ := pair_den dn
  refine ⟨p, _, rfl, .of hp, rfl, u, [z], rfl, z, [], rfl, rfl, q _ _ ?_ ?_ h⟩
  · show AbsV K H ((((σ.set j none).set i none).set i (some u)).set j (some z)) _
    rw [List.set_set, List.set_comm _ _ hij, List.set_set, List.set_comm _ _ (Ne.symm hij)]
    exact (av.set i (d := .k a) du).set j (d := .k b) dz
  · show (((((σ.set j none).set i none).set i (some u)).set j (some z)).set j none).set i none = (σ.set j none).set i none
    refine List.ext_getElem? fun n => ?_
    simp only [List.getElem?_set, List.length_set]
    by_cases h1 : i = n <;> by_cases h2 : j = n <;> simp [h1, h2]⟩
abbrev PTs3 (X : Cx) (ifs : List Expr) (t : TT3) : Prop := PTs X ifs (upT X.K X.w t)
theorem PTs.imp {X : Cx} {e : List Expr} {t t' : TT} (h : PTs X e t) (i : ∀ σ H Q, t' σ H Q → t σ H Q) : PTs X e t' := ⟨fun pins s σ H Q I q => h.run pins s σ H Q I (i σ H Q q)⟩
def tYes3 : TT3 := fun _ S Q => Q true S
theorem ptsn3 : PTs3 X [] tYes3 := PTs.imp pts_nil fun σ H Q ⟨σd, S, R, av, as, h, q⟩ => q true H S (.refl _ _) as h
theorem pts13 {c : Expr} {t : TT3} (h : PT3 X c t) : PTs3 X [c] t := pts_one h
theorem lc_aux {K : PySem.W.Frag} {w : World} {vs : List Nat} {g : TG} {gs : Sd → L3.D → (Sd → Prop) → Prop} {tt : TT3} (C : CG K vs g gs) {σ : Sl} {H : Hp} {Q : VK} (h : up K w (tLc3 ti gs tt te) σ H Q) : tLc (upI K w ti) g (upT K w tt) (up K w te) vs σ H Q := by
  obtain ⟨σd, S, R, av, as, h, q⟩ := h
  refine ⟨σd, S, _, av, as, h, fun J H1 S1 items still x1 as1 ok h1 Dl hD => ?_⟩
  have kk1 := x1.keeps as
  obtain ⟨as0, x0, k0⟩ := as1.hide (u := .lst []) hD
  have sD : S1 Dl = none := as1.free hD
  refine ⟨fun i m H' => ∃ acc us S', m = items.length - i ∧ i ≤ items.length ∧ H' Dl = some (.lst us) ∧ Dens K H' acc us ∧ S' Dl = none ∧ Ext S1 H1 S' H' ∧ AbsS K w H' S' ∧ lc3 (gs σd) tt te still (fun acc S2 => ∀ p, S2 p = none → R (.ref p) (put S2 p (.lst acc))) (items.drop i) acc S',
    ⟨items.length, [], [], S1, rfl, Nat.zero_le _, upd_same, .nil, sD, x0, as0, h1⟩, ?_⟩
  rintro i m H2 ⟨acc, us, S2, rfl, hle, hl, dl, nD, x2, as2, h2⟩
  have k2 := x2.keeps as1
  cases hit : items[i]? with
  | none =>
    have hlen : items.length ≤ i := List.getElem?_eq_none_iff.mp hit
    rw [List.drop_eq_nil_of_le hlen] at h2
    refine .inl ⟨((ok H2 S2 k2 as2 h2.1) i).1 (Nat.le_antisymm hlen hle), ?_⟩
    refine q (.ref Dl) H2 (.ref Dl) _ (fun a o e n => ?_) (fun a o e => ?_) rfl (h2.2 Dl nD)
    · have e1 := x1 a o e n
      have ne : a ≠ Dl := fun z => by rw [z, hD] at e1; cases e1.1
      have e2 := x2 a o e1.1 e1.2
      exact ⟨e2.1, by rw [put_ne ne]; exact e2.2⟩
    · by_cases z : a = Dl
      · subst z
        rw [put_same] at e
        cases e
        exact ⟨us, hl, dl⟩
      · rw [put_ne z] at e
        exact as2 a o e
  | some d =>
    have hlt : i < items.length := (List.getElem?_eq_some_iff.mp hit).1
    rw [drop_at hit] at h2
    obtain ⟨st, h2⟩ := h2
    obtain ⟨go, yl⟩ := ((ok H2 S2 k2 as2 st) i).2 d hit
    refine .inr ⟨go, fun H' => ∃ acc us S', i + 1 ≤ items.length ∧ H' Dl = some (.lst us) ∧ Dens K H' acc us ∧ S' Dl = none ∧ Ext S1 H1 S' H' ∧ AbsS K w H' S' ∧ lc3 (gs σd) tt te still (fun acc S2 => ∀ p, S2 p = none → R (.ref p) (put S2 p (.lst acc))) (items.drop (i + 1)) acc S', ?_, fun x H3 y => ?_⟩
    · rintro H' ⟨acc, us, S', a1, a2, a3, a4, a5, a6, a7⟩
      exact ⟨items.length - (i + 1), by omega, acc, us, S', rfl, a1, a2, a3, a4, a5, a6, a7⟩
    · obtain ⟨x3, as3, dn3⟩ := yl x H3 y
      have k3 := x3.keeps as2
      have av3 := ((av.keep kk1).keep k2).keep k3
      obtain ⟨l3, n3⟩ := x3 Dl _ hl nD
      refine C.run σ σd H3 d x _ _ av3 dn3 h2 fun σ4 σd4 av4 hw h4 => ⟨hw, seqT av4 as3 h4 fun b H5 S5 x5 k5 av5 as5 h5 => ?_⟩
      obtain ⟨l5, n5⟩ := x5 Dl _ l3 n3
      cases b with
      | true =>
        rw [if_pos rfl] at h5 ⊢
        refine seqE av5 as5 h5 fun v H6 f S6 x6 k6 av6 as6 dn6 h6 => ?_
        obtain ⟨l6, n6⟩ := x6 Dl _ l5 n5
        obtain ⟨hz, h6⟩ := h6
        have hlen := dl.length
        have big : 1000000 ≤ sizeLine := by decide
        have kk : Keeps H6 (upd H6 Dl (.lst (us ++ [v]))) := ⟨fun a xs e => by rw [upd_ne fun z => by rw [z, l6] at e; cases e]; exact e, fun a o xs e => by rw [upd_ne fun z => by rw [z, l6] at e; cases e]; exact e⟩
        refine ⟨us, l6, by omega, acc ++ [f], us ++ [v], S6, hlt, upd_same, ?_, n6, fun a o e n => ?_, fun a o e => ?_, h6⟩
        · exact ((((dl.keep k3).keep k5).keep k6).keep kk).append (.cons (dn6.keep kk) .nil)
        · have e2 := ((x2.trans x3).trans x5).trans x6 a o e n
          have ne : a ≠ Dl := fun z => by rw [z, hD] at e; cases e
          exact ⟨by rw [upd_ne ne]; exact e2.1, e2.2⟩
        · have ne : a ≠ Dl := fun z => by rw [z, n6] at e; cases e
          exact (as6 a o e).keep kk (upd_ne ne)
      | false =>
        rw [if_neg Bool.false_ne_true] at h5 ⊢
        exact ⟨acc, us, S5, hlt, l5, (dl.keep k3).keep k5, n5, ((x2.trans x3).trans x5), as5, h5⟩
variable {elt : Expr} {ifs : List Expr} {scope : Scope} {own : List (Str × Nat)} {g' : TG} {gs : Sd → L3.D → (Sd → Prop) → Prop} {tt : TT3}
theorem plc3 (C : CG X.K (own.map (·.2)) g' gs) (hc : X.calm = true) (hN : X.N.Nodup) (hi : PI3 X tg iter ti) (ok : BlkOk X.N X.env.scope scope own)
    (hg : ∀ (s : Shared) (H : Hp) (C : Addr) (cl : List (Str × Addr)) (fp : List Addr), PG (X.blk s H scope (compEnvC scope cl C X.env) fp) tg g')
    (ht : ∀ (s : Shared) (H : Hp) (C : Addr) (cl : List (Str × Addr)) (fp : List Addr), PTs3 (X.blk s H scope (compEnvC scope cl C X.env) fp) ifs tt)
    (he : ∀ (s : Shared) (H : Hp) (C : Addr) (cl : List (Str × Addr)) (fp : List Addr), PE3 (X.blk s H scope (compEnvC scope cl C X.env) fp) elt te) (hs : ∀ x, foldedSetIterable iter X.env x = pure x := by intro _; rfl) :
    PE3 X (.ListComp elt [⟨tg, iter, ifs, 0⟩] scope pos) (tLc3 ti gs tt te) := PE.imp (pe_lc hc hN hi ok hg ht he hs) fun σ H Q h => lc_aux C h
/-- y = [..] on one line -/
theorem psetLc3 {i : Nat} {y : Str} {py spos : Pos} (C : CG X.K (own.map (·.2)) g' gs) (hc : X.calm = true) (hN : X.N.Nodup) (hy : X.N[i]? = some y) (hyl : X.env.scope.names.lookup y = some .local)
    (hsw : swapsWith (.ListComp elt [⟨tg, iter, ifs, 0⟩] scope pos) (some (.Name y py)) spos.line X.env = pure true) (hi : PI3 X tg iter ti) (ok : BlkOk X.N X.env.scope scope own)
    (hg : ∀ (s : Shared) (H : Hp) (C : Addr) (cl : List (Str × Addr)) (fp : List Addr), PG (X.blk s H scope (compEnvC scope cl C X.env) fp) tg g')
    (ht : ∀ (s : Shared) (H : Hp) (C : Addr) (cl : List (Str × Addr)) (fp : List Addr), PTs3 (X.blk s H scope (compEnvC scope cl C X.env) fp) ifs tt)
    (he : ∀ (s : Shared) (H : Hp) (C : Addr) (cl : List (Str × Addr)) (fp : List Addr), PE3 (X.blk s H scope (compEnvC scope cl C X.env) fp) elt te) (hs : ∀ x, foldedSetIterable iter X.env x = pure x := by intro _; rfl) :
    PS3 X (.Assign [.Name y py] (.ListComp elt [⟨tg, iter, ifs, 0⟩] scope pos) spos) (tSet3 i (tLc3 ti gs tt te)) := PS.imp (ps_setLc hc hN hy hyl hsw hi ok hg ht he hs) fun D σ H ⟨σd, S, D3, av, as, h, q⟩ =>
  lc_aux C ⟨σd, S, _, av, as, h, fun v H' d S' x as' dn h' => q.nx _ H' _ S' x ((av.keep (x.keeps as)).set i dn) as' h'⟩

/-! ### what is walked: lists, tuples, ranges -/
def iL3 (te : TE3) : TI3 := fun σ S R => te σ S fun d S1 => match d with
  | .ref a => ∃ xs, S1 a = some (.lst xs) ∧ R xs (fun S => S a = some (.lst xs)) S1
  | _ => False
def iT3 (te : TE3) : TI3 := fun σ S R => te σ S fun d S1 => match d with
  | .k (.tup ks) => R (ks.map .k) (fun _ => True) S1
  | _ => False
theorem paired_at {α β : Type} {F : α → β → Prop} {xs : List α} {ys : List β} (h : Paired F xs ys) {i : Nat} {x : α} (e : xs[i]? = some x) : ∃ y, ys[i]? = some y ∧ F x y := by
  induction h generalizing i with
  | nil => simp at e
  | cons r t ih =>
    cases i with
    | zero => simp at e; subst e; exact ⟨_, rfl, r⟩
    | succ i => simpa using ih (by simpa using e)
theorem pil3 (he : PE3 X e te) : PI3 X tg e (iL3 te) := PI.imp (pi_list he) fun σ H Q ⟨σd, S, R, av, as, h, q⟩ =>
  seqE av as h fun v H1 d S1 x1 k1 av1 as1 dn1 h1 => by
    split at h1
    · rename_i a
      obtain ⟨xs, ha, h2⟩ := h1
      obtain ⟨us, h3, ds⟩ := as1 a _ ha
      refine ⟨a, dn1, ⟨us, .of h3⟩, q _ H1 S1 xs _ x1 as1 (fun H2 S2 k2 as2 st i => ?_) h2⟩
      obtain ⟨ws, h4, ds2⟩ := as2 a _ st
      refine ⟨fun hl => ⟨ws, .of h4, by rw [← ds2.length]; exact Nat.le_of_eq hl⟩, fun d hd => ?_⟩
      obtain ⟨u, e1, r⟩ := ds2.get hd
      refine ⟨⟨ws, u, .of h4, e1⟩, fun x H3 y => ?_⟩
      obtain ⟨rfl, y⟩ := y
      have e2 := y ws (.of h4)
      rw [e1] at e2
      cases e2
      exact ⟨.refl _ _, as2, r⟩
    · exact h1.elim
theorem pit3 (he : PE3 X e te) : PI3 X tg e (iT3 te) := PI.imp (pi_tup he) fun σ H Q ⟨σd, S, R, av, as, h, q⟩ =>
  seqE av as h fun v H1 d S1 x1 k1 av1 as1 dn1 h1 => by
    split at h1
    · rename_i ks
      have dn' : KDen H1 (.tup ks) v := dn1
      rw [KDen] at dn'
      obtain ⟨a, us, rfl, ha, hus⟩ := dn'
      refine ⟨a, rfl, ⟨us, .of ha⟩, q _ H1 S1 _ _ x1 as1 (fun H2 S2 k2 as2 st i => ?_) h1⟩
      have h4 := k2.tup a us ha
      have ds2 := KDens.paired (KDens.keep k2 _ _ hus)
      refine ⟨fun hl => ⟨us, .of h4, by rw [← Paired.length ds2]; simpa using Nat.le_of_eq hl⟩, fun d hd => ?_⟩
      rw [List.getElem?_map] at hd
      cases hk : ks[i]? with
      | none => rw [hk] at hd; cases hd
      | some k =>
        rw [hk] at hd
        cases hd
        obtain ⟨u, e1, r⟩ := paired_at ds2 hk
        refine ⟨⟨us, u, .of h4, e1⟩, fun x H3 y => ?_⟩
        obtain ⟨rfl, y⟩ := y
        have e2 := y us (.of h4)
        rw [e1] at e2
        cases e2
        exact ⟨.refl _ _, as2, r⟩
    · exact h1.elim
/-- a list or a tuple, by what comes -/
def rangeD (n : Nat) : List L3.D := (List.range n).map fun (i : Nat) => Dn (i : Int)
def iR3 (ta : TA3) : TI3 := fun σ S R => ta σ S fun ds S1 => match ds with
  | [.k (.num j)] => -(2 ^ 62) ≤ j ∧ j < 2 ^ 62 ∧ R (rangeD j.toNat) (fun _ => True) S1
  | _ => False
theorem pir3 {a : Expr} {ta : TA3} {p : Pos} (hg : Gl X "range") (hm : X.mg "range" = none) (ha : PA3 X [a] ta) (hs : starEach [a] X.env = [(false, eval a X.env)] := by rfl) : PI3 X tg (.Call (.Name "range" p) [a] [] pos) (iR3 ta) := PI.imp (pi_range1 hg hm ha hs) fun σ H Q ⟨σd, S, R, av, as, h, q⟩ =>
  seqA av as h fun vs H1 ds S1 x1 k1 av1 as1 dn1 h1 => by
    split at h1
    · rename_i j
      obtain ⟨b1, b2, h2⟩ := h1
      cases dn1 with
      | cons r t =>
        cases t
        refine ⟨j, by rw [show _ = V.int j from r], b1, b2, q _ H1 S1 _ _ x1 as1 (fun H2 S2 k2 as2 st i => ?_) h2⟩
        unfold rangeD
        refine ⟨fun hl => (show j.toNat ≤ i by simpa only [List.length_map, List.length_range] using Nat.le_of_eq hl), fun d hd => ?_⟩
        have hlt : i < j.toNat := by
          have z := (List.getElem?_eq_some_iff.mp hd).1
          simpa only [List.length_map, List.length_range] using z
        rw [List.getElem?_map, List.getElem?_range hlt] at hd
        cases hd
        refine ⟨hlt, fun x H3 y => ?_⟩
        obtain ⟨rfl, rfl⟩ := y
        exact ⟨.refl _ _, as2, by show V.int _ = V.int _; rw [Int.zero_add]⟩
    · exact h1.elim
end
end L3
/-! ## L3I -/
/-! built-ins by name, methods of lists and dicts -/
namespace L3
open PySem PySem.Spec L2
open PyProof.Rows hiding St

section
variable {X : Cx} {x m : Str} {p pos apos : Pos} {e o : Expr} {es : List Expr} {to : TE3} {t : TA3} {nm T : String} {r : List D → Sto → VK3 → Prop}
def tB3 (r : List D → Sto → VK3 → Prop) (t : TA3) : TE3 := fun σ S Q => t σ S fun ds S1 => r ds S1 Q
theorem aux_B {K : PySem.W.Frag} {w : World} {σ : Sl} {H : Hp} {Q : VK} (h : up K w (tB3 r t) σ H Q) : tCB (upL K w r) (upA K w t) σ H Q := by
  obtain ⟨σd, S, R, av, as, h, q⟩ := h
  exact seqA av as h fun vs H1 ds S1 x1 k1 av1 as1 dn1 h1 => ⟨ds, S1, R, as1, dn1, h1, fun v H' d S' x2 as2 dn2 h2 => q v H' d S' (x1.trans x2) as2 dn2 h2⟩
theorem pB3 (hc : CallR3 X (.builtin nm) r) (hv : bootBuiltins x = some (.builtin nm)) (hg : Gl X x) (hm : X.mg x = none) (ha : PA3 X (e :: es) t) (hn : x ≠ "__name__" := by decide) (hdb : (x == ("__debug__" : Str)) = false := by decide)
    (he : starEach (e :: es) X.env = (false, eval e X.env) :: starEach es X.env := by rfl) (hpl : (backTo pos (starEach es X.env)).any (·.1) = false := by rfl) : PE3 X (.Call (.Name x p) (e :: es) [] pos) (tB3 r t) :=
  PE.imp (pe_callB hc hg hm hv ha hn hdb he hpl) fun σ H Q h => aux_B h
theorem pT3 (hc : CallR3 X (.type T) r) (hv : bootBuiltins x = some (.type T)) (hg : Gl X x) (hm : X.mg x = none) (ha : PA3 X (e :: es) t) (hn : x ≠ "__name__" := by decide) (hdb : (x == ("__debug__" : Str)) = false := by decide)
    (he : starEach (e :: es) X.env = (false, eval e X.env) :: starEach es X.env := by rfl) (hpl : (backTo pos (starEach es X.env)).any (·.1) = false := by rfl) : PE3 X (.Call (.Name x p) (e :: es) [] pos) (tB3 r t) :=
  PE.imp (pe_callTy hc hg hm hv ha hn hdb he hpl) fun σ H Q h => aux_B h
/-- one argument, two arguments -/
def a1 (ds : List D) (Q : D → Prop) : Prop := match ds with
  | [d] => Q d
  | _ => False
def a2 (ds : List D) (Q : D → D → Prop) : Prop := match ds with
  | [d, e] => Q d e
  | _ => False
theorem a1_some {ds : List D} {Q : D → Prop} (h : a1 ds Q) : ∃ d, ds = [d] ∧ Q d := by
  unfold a1 at h; split at h
  · exact ⟨_, rfl, h⟩
  · exact h.elim
theorem a2_some {ds : List D} {Q : D → D → Prop} (h : a2 ds Q) : ∃ d e, ds = [d, e] ∧ Q d e := by
  unfold a2 at h; split at h
  · exact ⟨_, _, rfl, h⟩
  · exact h.elim
theorem dens1 {K : PySem.W.Frag} {H : Hp} {d : D} {vs : List V} (h : Dens K H [d] vs) : ∃ v, vs = [v] ∧ Den K H d v := by
  cases h with
  | cons r t => cases t; exact ⟨_, rfl, r⟩
theorem dens2 {K : PySem.W.Frag} {H : Hp} {d e : D} {vs : List V} (h : Dens K H [d, e] vs) : ∃ v u, vs = [v, u] ∧ Den K H d v ∧ Den K H e u := by
  cases h with
  | cons r t =>
    cases t with
    | cons r' t => cases t; exact ⟨_, _, rfl, r, r'⟩

/-! ### len -/
def rLen3 : List D → Sto → VK3 → Prop := fun ds S Q => a1 ds fun d => match d with
  | .k (.tup ks) => Q (Dn ks.length) S
  | .k (.text z) => z.length ≤ 1000 ∧ Q (Dn z.length) S
  | .ref a => (∃ xs, S a = some (.lst xs) ∧ Q (Dn xs.length) S) ∨ ∃ lk kvs, S a = some (.dic lk kvs) ∧ Q (Dn kvs.length) S
  | _ => False
theorem c_len : CallR3 X (.builtin "len") rLen3 := by
  intro pins s σ H vs us Q I r ⟨ds, S, R, as, dn, hr, q⟩
  obtain ⟨d, rfl, hr1⟩ := a1_some hr
  clear hr
  obtain ⟨v, rfl, dv⟩ := dens1 dn
  have fin : ∀ n : Nat, R (Dn n) S → Q (.int n) H := fun n h => q (.int n) H (Dn n) S (.refl _ _) as rfl h
  have hr := hr1
  clear hr1
  split at hr
  · rename_i ks
    have dv' : KDen H (.tup ks) v := dv
    rw [KDen] at dv'
    obtain ⟨a, xs, rfl, ha, hx⟩ := dv'
    refine call_len_seq pins s σ H _ us Q I r ⟨a, xs, rfl, .inr (.of ha), ?_⟩
    rw [← hx.length]
    exact fin _ hr
  · rename_i z
    have dv' : v = V.str z := dv
    subst dv'
    exact call_len_str pins s σ H _ us Q I r ⟨z, rfl, le1000 hr.1, fin _ hr.2⟩
  · rename_i a
    have dv' : v = V.ref a := dv
    subst dv'
    rcases hr with ⟨xs, ha, hr⟩ | ⟨lk, kvs, ha, hr⟩
    · obtain ⟨ws, h1, d1⟩ := as a _ ha
      refine call_len_seq pins s σ H _ us Q I r ⟨a, ws, rfl, .inl (.of h1), ?_⟩
      rw [← d1.length]
      exact fin _ hr
    · obtain ⟨xs, ep, ob, T, ok, _⟩ := dicTab I as ha
      obtain ⟨u, rfl, rx⟩ := vals1 r
      cases rx
      have lz : xs.length = kvs.length := (Paired.length ok.ent).symm
      have hz : kvs.length ≤ sizeLine := ok.len
      have line := line63
      have es := sizeLine_eq
      refine PyProof.Rows.call_len_slot (n := kvs.length) (ofType T) F.slot_dict_len (fun Q' hq => ?_) (by omega) (by omega) ⟨.int kvs.length, H, I.tok _, ⟨_, rfl⟩, fin _ hr⟩
      refine call_len_raw ok.sys ⟨ob, T.get, T.exact, T.dat⟩ ?_
      have e : ((xs.map (rowE X.w)).toArray.size : Int) = (kvs.length : Int) := by simp [lz]
      rw [e]
      exact hq
  · exact hr.elim

/-! ### ints, truth values -/
def rInt3 : List D → Sto → VK3 → Prop := fun ds S Q => a1 ds fun d => asI d fun i => Q (Dn i) S
theorem c_int : CallR3 X (.type "int") rInt3 := by
  intro pins s σ H vs us Q I r ⟨ds, S, R, as, dn, hr, q⟩
  obtain ⟨d, rfl, h1⟩ := a1_some hr
  obtain ⟨i, rfl, h2⟩ := asI_some h1
  obtain ⟨v, rfl, dv⟩ := dens1 dn
  have dv' : v = V.int i := dv
  subst dv'
  exact call_int1 pins s σ H _ us Q I r (.inl ⟨i, rfl, q (.int i) H (Dn i) S (.refl _ _) as rfl h2⟩)
def rAbs3 : List D → Sto → VK3 → Prop := fun ds S Q => a1 ds fun d => asI d fun i => Q (Dn (if i < 0 then -i else i)) S
theorem c_abs : CallR3 X (.builtin "abs") rAbs3 := by
  intro pins s σ H vs us Q I r ⟨ds, S, R, as, dn, hr, q⟩
  obtain ⟨d, rfl, h1⟩ := a1_some hr
  obtain ⟨i, rfl, h2⟩ := asI_some h1
  obtain ⟨v, rfl, dv⟩ := dens1 dn
  have dv' : v = V.int i := dv
  subst dv'
  exact call_abs pins s σ H _ us Q I r ⟨i, rfl, q (.int _) H (Dn _) S (.refl _ _) as rfl h2⟩
def rMin23 : List D → Sto → VK3 → Prop := fun ds S Q => a2 ds fun d e => asI d fun i => asI e fun j => Q (Dn (if j < i then j else i)) S
def rMinL3 : List D → Sto → VK3 → Prop := fun ds S Q => a1 ds fun d => match d with
  | .ref a => ∃ ns, S a = some (.lst (List.map Dn ns)) ∧ 0 < ns.length ∧ ∀ m, m ∈ ns → (∀ y, y ∈ ns → m ≤ y) → Q (Dn m) S
  | _ => False
def rMaxL3 : List D → Sto → VK3 → Prop := fun ds S Q => a1 ds fun d => match d with
  | .ref a => ∃ ns, S a = some (.lst (List.map Dn ns)) ∧ 0 < ns.length ∧ ∀ m, m ∈ ns → (∀ y, y ∈ ns → y ≤ m) → Q (Dn m) S
  | _ => False
def rSum3 : List D → Sto → VK3 → Prop := fun ds S Q => a1 ds fun d => match d with
  | .ref a => ∃ ns, S a = some (.lst (List.map Dn ns)) ∧ Q (Dn ns.sum) S
  | _ => False
def rAll3 : List D → Sto → VK3 → Prop := fun ds S Q => a1 ds fun d => match d with
  | .ref a => ∃ bs, S a = some (.lst (List.map D.bl bs)) ∧ Q (.bl (bs.all id)) S
  | _ => False
theorem dens_map_int {K : PySem.W.Frag} {H : Hp} : ∀ {ns : List Int} {vs : List V}, Dens K H (ns.map Dn) vs → vs = ns.map V.int
  | [], _, h => by cases h; rfl
  | n :: ns, _, h => by
    cases h with
    | cons r t => rw [List.map_cons, ← dens_map_int t]; exact congrArg (· :: _) r
theorem dens_map_bl {K : PySem.W.Frag} {H : Hp} : ∀ {ns : List Bool} {vs : List V}, Dens K H (ns.map D.bl) vs → vs = ns.map V.bl
  | [], _, h => by cases h; rfl
  | n :: ns, _, h => by
    cases h with
    | cons r t => rw [List.map_cons, ← dens_map_bl t]; exact congrArg (· :: _) r
theorem c_min2 (hc : X.calm = true) : CallR3 X (.builtin "min") rMin23 := by
  intro pins s σ H vs us Q I r ⟨ds, S, R, as, dn, hr, q⟩
  obtain ⟨d, e, rfl, h1⟩ := a2_some hr
  obtain ⟨i, rfl, h2⟩ := asI_some h1
  obtain ⟨j, rfl, h3⟩ := asI_some h2
  obtain ⟨v, u, rfl, dv, du⟩ := dens2 dn
  have dv' : v = V.int i := dv
  have du' : u = V.int j := du
  subst dv' du'
  exact call_min2 hc pins s σ H _ us Q I r ⟨i, j, rfl, q (.int _) H (Dn _) S (.refl _ _) as rfl h3⟩
theorem c_minL (hc : X.calm = true) : CallR3 X (.builtin "min") rMinL3 := by
  intro pins s σ H vs us Q I r ⟨ds, S, R, as, dn, hr, q⟩
  obtain ⟨d, rfl, h1⟩ := a1_some hr
  obtain ⟨v, rfl, dv⟩ := dens1 dn
  split at h1
  · rename_i a
    obtain ⟨ns, ha, hp, h2⟩ := h1
    have dv' : v = V.ref a := dv
    subst dv'
    obtain ⟨ws, e1, d1⟩ := as a _ ha
    rw [dens_map_int d1] at e1
    exact cr_min hc pins s σ H _ us Q I r ⟨a, ns, rfl, .of e1, hp, fun m hm hy => q (.int m) H (Dn m) S (.refl _ _) as rfl (h2 m hm hy)⟩
  · exact h1.elim
theorem c_maxL (hc : X.calm = true) : CallR3 X (.builtin "max") rMaxL3 := by
  intro pins s σ H vs us Q I r ⟨ds, S, R, as, dn, hr, q⟩
  obtain ⟨d, rfl, h1⟩ := a1_some hr
  obtain ⟨v, rfl, dv⟩ := dens1 dn
  split at h1
  · rename_i a
    obtain ⟨ns, ha, hp, h2⟩ := h1
    have dv' : v = V.ref a := dv
    subst dv'
    obtain ⟨ws, e1, d1⟩ := as a _ ha
    rw [dens_map_int d1] at e1
    exact cr_max hc pins s σ H _ us Q I r ⟨a, ns, rfl, .of e1, hp, fun m hm hy => q (.int m) H (Dn m) S (.refl _ _) as rfl (h2 m hm hy)⟩
  · exact h1.elim
theorem c_sum (hc : X.calm = true) : CallR3 X (.builtin "sum") rSum3 := by
  intro pins s σ H vs us Q I r ⟨ds, S, R, as, dn, hr, q⟩
  obtain ⟨d, rfl, h1⟩ := a1_some hr
  obtain ⟨v, rfl, dv⟩ := dens1 dn
  split at h1
  · rename_i a
    obtain ⟨ns, ha, h2⟩ := h1
    have dv' : v = V.ref a := dv
    subst dv'
    obtain ⟨ws, e1, d1⟩ := as a _ ha
    rw [dens_map_int d1] at e1
    exact cr_sum hc pins s σ H _ us Q I r ⟨a, ns, rfl, .of e1, q (.int _) H (Dn _) S (.refl _ _) as rfl h2⟩
  · exact h1.elim
theorem c_all (hc : X.calm = true) : CallR3 X (.builtin "all") rAll3 := by
  intro pins s σ H vs us Q I r ⟨ds, S, R, as, dn, hr, q⟩
  obtain ⟨d, rfl, h1⟩ := a1_some hr
  obtain ⟨v, rfl, dv⟩ := dens1 dn
  split at h1
  · rename_i a
    obtain ⟨bs, ha, h2⟩ := h1
    have dv' : v = V.ref a := dv
    subst dv'
    obtain ⟨ws, e1, d1⟩ := as a _ ha
    rw [dens_map_bl d1] at e1
    exact cr_all hc pins s σ H _ us Q I r ⟨a, bs, rfl, .of e1, q (.bl _) H (.bl _) S (.refl _ _) as rfl h2⟩
  · exact h1.elim

/-! ### list(..), tuple(..) of a list or a tuple -/
def rList3 : List D → Sto → VK3 → Prop := fun ds S Q => a1 ds fun d => match d with
  | .ref a => ∃ xs, S a = some (.lst xs) ∧ ∀ p, S p = none → Q (.ref p) (put S p (.lst xs))
  | .k (.tup ks) => ∀ p, S p = none → Q (.ref p) (put S p (.lst (List.map D.k ks)))
  | _ => False
def rTuple3 : List D → Sto → VK3 → Prop := fun ds S Q => a1 ds fun d => match d with
  | .ref a => ∃ ks, S a = some (.lst (List.map D.k ks)) ∧ Q (Dt ks) S
  | _ => False
theorem kdens_dens {K : PySem.W.Frag} {H : Hp} : ∀ {ks : List NK} {vs : List V}, KDens H ks vs → Dens K H (ks.map D.k) vs
  | [], _, h => by rw [KDens] at h; subst h; exact .nil
  | k :: ks, _, h => by
    rw [KDens] at h
    obtain ⟨v, r, rfl, h1, h2⟩ := h
    exact .cons h1 (kdens_dens h2)
theorem c_list : CallR3 X (.type "list") rList3 := by
  intro pins s σ H vs us Q I r ⟨ds, S, R, as, dn, hr, q⟩
  obtain ⟨d, rfl, h1⟩ := a1_some hr
  obtain ⟨v, rfl, dv⟩ := dens1 dn
  split at h1
  · rename_i a
    obtain ⟨xs, ha, h2⟩ := h1
    have dv' : v = V.ref a := dv
    subst dv'
    obtain ⟨ws, e1, d1⟩ := as a _ ha
    refine call_list_of pins s σ H _ us Q I r ⟨a, ws, rfl, .inl (.of e1), fun l n => ?_⟩
    obtain ⟨as2, x2, k2⟩ := as.lay (u := .lst ws) (o := .lst xs) n ⟨_, upd_same, d1.keep (as.hide n).2.2⟩
    exact q (.ref l) _ (.ref l) _ x2 as2 rfl (h2 l (as.free n))
  · rename_i ks
    have dv' : KDen H (.tup ks) v := dv
    rw [KDen] at dv'
    obtain ⟨a, xs, rfl, ha, hx⟩ := dv'
    refine call_list_of pins s σ H _ us Q I r ⟨a, xs, rfl, .inr (.of ha), fun l n => ?_⟩
    obtain ⟨as2, x2, k2⟩ := as.lay (u := .lst xs) (o := .lst (ks.map D.k)) n ⟨_, upd_same, kdens_dens (KDens.keep (as.hide n).2.2 _ _ hx)⟩
    exact q (.ref l) _ (.ref l) _ x2 as2 rfl (h1 l (as.free n))
  · exact h1.elim
theorem c_tuple : CallR3 X (.type "tuple") rTuple3 := by
  intro pins s σ H vs us Q I r ⟨ds, S, R, as, dn, hr, q⟩
  obtain ⟨d, rfl, h1⟩ := a1_some hr
  obtain ⟨v, rfl, dv⟩ := dens1 dn
  split at h1
  · rename_i a
    obtain ⟨ks, ha, h2⟩ := h1
    have dv' : v = V.ref a := dv
    subst dv'
    obtain ⟨ws, e1, d1⟩ := as a _ ha
    refine call_tuple_of pins s σ H _ us Q I r ⟨a, ws, rfl, .inl ⟨.of e1, fun l n => ?_⟩⟩
    obtain ⟨as2, x2, k2⟩ := as.hide (u := .tup ws) n
    refine q (.ref l) _ (Dt ks) S x2 as2 ?_ h2
    show KDen _ (.tup ks) _
    rw [KDen]
    exact ⟨l, ws, rfl, upd_same, nks_den (d1.keep k2) (nks_map ks)⟩
  · exact h1.elim

/-! ### isinstance -/
def kindOf : D → String
  | .k .none => "NoneType"
  | .k (.num _) => "int"
  | .k (.text _) => "str"
  | .k (.tup _) => "tuple"
  | .bl _ => "bool"
  | _ => "list"
def isA (d : D) (n : String) : Bool := kindOf d == n || (kindOf d == "bool" && n == "int")
def rIsi3 : List D → Sto → VK3 → Prop := fun ds S Q => a2 ds fun d e => match d, e with
  | .k _, .ty n => (n = "int" ∨ n = "bool" ∨ n = "str" ∨ n = "tuple") ∧ Q (.bl (isA d n)) S
  | .bl _, .ty n => (n = "int" ∨ n = "bool" ∨ n = "str" ∨ n = "tuple") ∧ Q (.bl (isA d n)) S
  | _, _ => False
theorem c_isi : CallR3 X (.builtin "isinstance") rIsi3 := by
  intro pins s σ H vs us Q I r ⟨ds, S, R, as, dn, hr, q⟩
  obtain ⟨d, e, rfl, h1⟩ := a2_some hr
  obtain ⟨v, u, rfl, dv, du⟩ := dens2 dn
  have core : ∀ n, (n = "int" ∨ n = "bool" ∨ n = "str" ∨ n = "tuple") → u = .ty n → R (.bl (isA d n)) S → (∃ t, TyX X.K H v (.type t) ∧ t = kindOf d ∧ (t = "NoneType" ∨ t = "int" ∨ t = "str" ∨ t = "tuple" ∨ t = "bool")) → wpAny (model X.prog X.w) X.A (call (.builtin "isinstance") us) (EP X pins σ Q) X.xe s := fun n hn hu hq ⟨t, ty, et, ht⟩ => by
    subst hu
    refine call_isi pins s σ H _ us Q I r ⟨v, .ty n, _, _, isA d n, rfl, .ty n, ty, ?_, q (.bl _) H (.bl _) S (.refl _ _) as rfl hq⟩
    unfold isA
    rw [← et]
    rcases ht with rfl | rfl | rfl | rfl | rfl <;> rcases hn with rfl | rfl | rfl | rfl <;> exact kit_ty (by decide +kernel)
  split at h1
  · rename_i k n
    refine core n h1.1 du h1.2 ?_
    cases k with
    | none => exact ⟨_, .base (by have e : v = V.non := dv; rw [e]; exact .non), rfl, .inl rfl⟩
    | num i => exact ⟨_, .base (by have e : v = V.int i := dv; rw [e]; exact .int i), rfl, .inr (.inl rfl)⟩
    | text z => exact ⟨_, .base (by have e : v = V.str z := dv; rw [e]; exact .str z), rfl, .inr (.inr (.inl rfl))⟩
    | tup ks =>
      have dv' : KDen H (.tup ks) v := dv
      rw [KDen] at dv'
      obtain ⟨a, xs, rfl, ha, hx⟩ := dv'
      exact ⟨_, .base (.tup ha), rfl, .inr (.inr (.inr (.inl rfl)))⟩
  · rename_i b n
    refine core n h1.1 du h1.2 ⟨_, .base (by have e : v = V.bl b := dv; rw [e]; exact .bl b), rfl, .inr (.inr (.inr (.inr rfl)))⟩
  · exact h1.elim

/-! ### methods of lists -/
def tM0 (r : D → List D → Sto → VK3 → Prop) (to : TE3) : TE3 := fun σ S Q => to σ S fun d S1 => r d [] S1 Q
def tM1 (r : D → List D → Sto → VK3 → Prop) (to : TE3) (t : TA3) : TE3 := fun σ S Q => to σ S fun d S1 => (asR d fun a => ∃ xs, S1 a = some (.lst xs)) ∧ t σ S1 fun ds S2 => r d ds S2 Q
def upM (K : PySem.W.Frag) (w : World) (r : D → List D → Sto → VK3 → Prop) : V → List V → Hp → VK → Prop := fun x vs H Q => ∃ d ds S R, AbsS K w H S ∧ Den K H d x ∧ Dens K H ds vs ∧ r d ds S R ∧ ∀ v H' d' S', Ext S H S' H' → AbsS K w H' S' → Den K H' d' v → R d' S' → Q v H'
abbrev MtR3 (X : Cx) (nm : String) (r : D → List D → Sto → VK3 → Prop) : Prop := MtR X nm (upM X.K X.w r)
def rApp3 : D → List D → Sto → VK3 → Prop := fun x ds S Q => asR x fun a => a1 ds fun d => ∃ xs, S a = some (.lst xs) ∧ xs.length < 1000000 ∧ Q Dz (put S a (.lst (xs ++ [d])))
def rExt3 : D → List D → Sto → VK3 → Prop := fun x ds S Q => asR x fun a => a1 ds fun d => asR d fun b => ∃ xs ys, S a = some (.lst xs) ∧ S b = some (.lst ys) ∧ xs.length + ys.length ≤ 1000000 ∧ Q Dz (put S a (.lst (xs ++ ys)))
def rPop3 : D → List D → Sto → VK3 → Prop := fun x ds S Q => asR x fun a => ds = [] ∧ ∃ xs d, S a = some (.lst xs) ∧ xs[xs.length - 1]? = some d ∧ Q d (put S a (.lst xs.dropLast))
def rPopAt3 : D → List D → Sto → VK3 → Prop := fun x ds S Q => asR x fun a => a1 ds fun d => asI d fun i => ∃ xs e, S a = some (.lst xs) ∧ 0 ≤ i ∧ i < 1000000 ∧ xs[i.toNat]? = some e ∧ Q e (put S a (.lst (xs.eraseIdx i.toNat)))
theorem Dens.dropLast {K : PySem.W.Frag} {H : Hp} : ∀ {ds : List D} {vs : List V}, Dens K H ds vs → Dens K H ds.dropLast vs.dropLast
  | _, _, .nil => .nil
  | [_], _, .cons _ t => by cases t; exact .nil
  | _ :: _ :: _, _, .cons r t => by
    cases t with
    | cons r' t' => exact .cons r (Dens.dropLast (.cons r' t'))
theorem Dens.erase {K : PySem.W.Frag} {H : Hp} : ∀ {ds : List D} {vs : List V} (i : Nat), Dens K H ds vs → Dens K H (ds.eraseIdx i) (vs.eraseIdx i)
  | _, _, _, .nil => .nil
  | _, _, 0, .cons _ t => t
  | _, _, i + 1, .cons r t => .cons r (Dens.erase i t)
theorem m_app : MtR3 X "list.append" rApp3 := by
  intro pins s σ H x vs v us Q I rx rv ⟨d, ds, S, R, as, dx, dn, hr, q⟩
  obtain ⟨a, rfl, h1⟩ := asR_some hr
  obtain ⟨e, rfl, xs, ha, hz, h2⟩ := a1_some h1
  obtain ⟨y, rfl, dy⟩ := dens1 dn
  obtain ⟨ws, e1, d1⟩ := as a _ ha
  have dx' : x = V.ref a := dx
  subst dx'
  have big : 1000000 ≤ sizeLine := by decide
  refine mt_append pins s σ H _ _ v us Q I rx rv ⟨a, ws, y, rfl, rfl, e1, by rw [← d1.length]; omega, ?_⟩
  obtain ⟨as2, x2, k2⟩ := as.change (u := .lst (ws ++ [y])) (o' := .lst (xs ++ [e])) ha fun kk => ⟨_, upd_same, (d1.keep kk).append (.cons (dy.keep kk) .nil)⟩
  exact q .non _ Dz _ x2 as2 rfl h2
theorem m_ext : MtR3 X "list.extend" rExt3 := by
  intro pins s σ H x vs v us Q I rx rv ⟨d, ds, S, R, as, dx, dn, hr, q⟩
  obtain ⟨a, rfl, h1⟩ := asR_some hr
  obtain ⟨e, rfl, h2⟩ := a1_some h1
  obtain ⟨b, rfl, xs, ys, ha, hb, hz, h3⟩ := asR_some h2
  obtain ⟨y, rfl, dy⟩ := dens1 dn
  obtain ⟨ws, e1, d1⟩ := as a _ ha
  obtain ⟨zs, e2, d2⟩ := as b _ hb
  have dx' : x = V.ref a := dx
  have dy' : y = V.ref b := dy
  subst dx' dy'
  have big : 1000000 ≤ sizeLine := by decide
  have l1 := d1.length
  have l2 := d2.length
  refine mt_extend pins s σ H _ _ v us Q I rx rv ⟨a, b, ws, zs, rfl, rfl, e1, e2, by omega, ?_⟩
  obtain ⟨as2, x2, k2⟩ := as.change (u := .lst (ws ++ zs)) (o' := .lst (xs ++ ys)) ha fun kk => ⟨_, upd_same, (d1.keep kk).append (d2.keep kk)⟩
  exact q .non _ Dz _ x2 as2 rfl h3
theorem m_pop : MtR3 X "list.pop" rPop3 := by
  intro pins s σ H x vs v us Q I rx rv ⟨d, ds, S, R, as, dx, dn, hr, q⟩
  obtain ⟨a, rfl, rfl, xs, e, ha, he, h2⟩ := asR_some hr
  cases dn
  obtain ⟨ws, e1, d1⟩ := as a _ ha
  have dx' : x = V.ref a := dx
  subst dx'
  obtain ⟨y, e2, dy⟩ := d1.get he
  refine mt_pop pins s σ H _ _ v us Q I rx rv ⟨a, ws, y, rfl, rfl, e1, by rw [← d1.length]; exact e2, ?_⟩
  obtain ⟨as2, x2, k2⟩ := as.change (u := .lst ws.dropLast) (o' := .lst xs.dropLast) ha fun kk => ⟨_, upd_same, (d1.keep kk).dropLast⟩
  exact q y _ e _ x2 as2 (dy.keep k2) h2
theorem m_popAt : MtR3 X "list.pop" rPopAt3 := by
  intro pins s σ H x vs v us Q I rx rv ⟨d, ds, S, R, as, dx, dn, hr, q⟩
  obtain ⟨a, rfl, h1⟩ := asR_some hr
  obtain ⟨c, rfl, h2⟩ := a1_some h1
  obtain ⟨i, rfl, xs, e, ha, h0, hi, he, h3⟩ := asI_some h2
  obtain ⟨y, rfl, dy⟩ := dens1 dn
  obtain ⟨ws, e1, d1⟩ := as a _ ha
  have dx' : x = V.ref a := dx
  have dy' : y = V.int i := dy
  subst dx' dy'
  obtain ⟨z, e2, dz⟩ := d1.get he
  have hl : i.toNat < ws.length := (List.getElem?_eq_some_iff.mp e2).1
  refine mt_popAt pins s σ H _ _ v us Q I rx rv ⟨a, ws, i, i.toNat, z, rfl, rfl, e1, by omega, by omega, seqIndex_of h0 (by omega), e2, ?_⟩
  obtain ⟨as2, x2, k2⟩ := as.change (u := .lst (ws.eraseIdx i.toNat)) (o' := .lst (xs.eraseIdx i.toNat)) ha fun kk => ⟨_, upd_same, (d1.keep kk).erase _⟩
  exact q z _ e _ x2 as2 (dz.keep k2) h3
variable {rm : D → List D → Sto → VK3 → Prop}
theorem pM0 (slot : Slot "list" m nm) (hty : typeOf (.builtin nm) = pure (.type "method_descriptor")) (hm : MtR3 X nm rm) (ho : PE3 X o to) (hs : ∀ d ds S Q, rm d ds S Q → asR d fun a => ∃ xs, S a = some (.lst xs))
    (hbase : attributeBase o m X.env (eval o X.env) = eval o X.env := by rfl) (hline : (apos.endLine == pos.line) = true := by rfl) : PE3 X (.Call (.Attribute o m apos) [] [] pos) (tM0 rm to) :=
  PE.imp (pe_bm0 PySem.F.plainAttrs_list slot hty hm ho hbase hline) fun σ H Q ⟨σd, S, R, av, as, h, q⟩ =>
    seqE av as h fun v H1 d S1 x1 k1 av1 as1 dn1 h1 => by
      obtain ⟨a, rfl, xs, ha⟩ := asR_some (hs _ _ _ _ h1)
      obtain ⟨ws, e1, d1⟩ := as1 a _ ha
      have dn' : v = V.ref a := dn1
      subst dn'
      exact ⟨.inl ⟨rfl, _, .of e1⟩, _, [], S1, R, as1, dn1, .nil, h1, fun v' H' d' S' x2 as2 dn2 h2 => q v' H' d' S' (x1.trans x2) as2 dn2 h2⟩
theorem pM1 (slot : Slot "list" m nm) (hty : typeOf (.builtin nm) = pure (.type "method_descriptor")) (hm : MtR3 X nm rm) (ho : PE3 X o to) (ha : PA3 X (e :: es) t)
    (hbase : attributeBase o m X.env (eval o X.env) = eval o X.env := by rfl)
    (hfew : ((backTo pos (starEach (e :: es) X.env)).all (fun x => !x.1) && (backToKw pos (keywordEach [] X.env)).all (fun x => x.1.isSome)
      && decide ((e :: es).length + ([] : List Keyword).length + (if ([] : List Keyword).isEmpty then 0 else 1) < 30)) = true := by rfl)
    (hline : (apos.endLine == pos.line) = true := by rfl) (hs : starEach (e :: es) X.env = (false, eval e X.env) :: starEach es X.env := by rfl) (hplain : (backTo pos (starEach es X.env)).any (·.1) = false := by rfl) :
    PE3 X (.Call (.Attribute o m apos) (e :: es) [] pos) (tM1 rm to t) :=
  PE.imp (pe_bm PySem.F.plainAttrs_list slot hty hm ho ha hbase hfew hline hs hplain) fun σ H Q ⟨σd, S, R, av, as, h, q⟩ =>
    seqE av as h fun v H1 d S1 x1 k1 av1 as1 dn1 ⟨hl, h1⟩ => by
      obtain ⟨a, rfl, xs, ha⟩ := asR_some hl
      obtain ⟨ws, e1, d1⟩ := as1 a _ ha
      have dn' : v = V.ref a := dn1
      subst dn'
      exact ⟨.inl ⟨rfl, _, .of e1⟩, seqA av1 as1 h1 fun us H2 ds S2 x2 k2 av2 as2 dn2 h2 => ⟨_, ds, S2, R, as2, dn1.keep k2, dn2, h2, fun v' H' d' S' x3 as3 dn3 h3 => q v' H' d' S' ((x1.trans x2).trans x3) as3 dn3 h3⟩⟩
end
end L3
/-! ## L3J -/
/-! zip over a tuple and a list, enumerate over a tuple, texts walked -/
namespace L3
open PySem PySem.Spec L2
open PyProof.Rows hiding St
open RZ (ItzT turn_zipT call_zipT)

/-- a tuple at a, a list at b, step by step -/
def ItzM (K : PySem.W.Frag) (a b : Addr) : It :=
  ⟨fun i H => ∃ (xs ys : List V) (x y : V), SqT K H a xs ∧ SqL K H b ys ∧ xs[i]? = some x ∧ ys[i]? = some y,
    fun i H v H' => ∃ N x y, v = .ref N ∧ H N = none ∧ H' = upd H N (.tup [x, y]) ∧ (∀ xs, SqT K H a xs → xs[i]? = some x) ∧ ∀ ys, SqL K H b ys → ys[i]? = some y,
    fun i H => ∃ xs ys : List V, SqT K H a xs ∧ SqL K H b ys ∧ (xs.length = i ∨ ys.length = i) ∧ i ≤ xs.length ∧ i ≤ ys.length⟩
section
variable {P : Program} {w : World} {K : PySem.W.Frag} {elts : List Expr} {kk : Nat} {tpos : Pos} {a b zp ta tb ja jb : Addr}
theorem turn_zipM (Z : ZipSep2 zp ta tb ja jb [ja, a] [jb, b]) (na : a ≠ ja) (nb : b ≠ jb) :
    Turn P w K (.Tuple elts kk tpos) (ItzM K a b) [zp, ta, tb, ja, jb] zp (fun i h => IsZip h zp ta tb .none ∧ IsTupOf2 h ta (.ref ja) (.ref jb) ∧ (∃ x y, IsTupOf2 h tb x y) ∧ h.IsTupleIter ja a i ∧ h.IsListIter jb b i) where
  mem := by simp
  obj := fun i h ⟨h0, h1, ⟨x, y, h2⟩, ⟨o1, e1, _, d1⟩, ⟨o2, e2, _, d2⟩⟩ c hc => by
    simp only [List.mem_cons, List.not_mem_nil, or_false] at hc
    rcases hc with rfl | rfl | rfl | rfl | rfl
    · exact ⟨_, h0, fun v q => nomatch q⟩
    · exact ⟨_, h1, fun v q => nomatch q⟩
    · exact ⟨_, h2, fun v q => nomatch q⟩
    · exact ⟨o1, e1, fun v q => by rw [d1] at q; cases q⟩
    · exact ⟨o2, e2, fun v q => by rw [d2] at q; cases q⟩
  keep := fun i h h' ⟨h0, h1, ⟨x, y, h2⟩, h3, h4⟩ kp =>
    ⟨kp zp (by simp) _ h0, kp ta (by simp) _ h1, ⟨x, y, kp tb (by simp) _ h2⟩, h3.at fun o q => kp ja (by simp) o q, h4.at fun o q => kp jb (by simp) o q⟩
  item := by
    rintro X rfl rfl rfl hc i pins s σ H E I hf ⟨h0, h1, ⟨x0, y0, h2⟩, h3, h4⟩ ⟨xs, ys, x, y, qx, qy, ex, ey⟩
    obtain ⟨us, rv, pl, _⟩ := I.tuple qx
    obtain ⟨vs, rv2, pl2, _⟩ := I.list qy
    obtain ⟨u, hu, ru⟩ := rv.get ex
    obtain ⟨v, hv, rv'⟩ := rv2.get ey
    have hh := I.ok.hd hc
    have lu : i < us.toArray.size := by simpa using (List.getElem?_eq_some_iff.mp hu).1
    have lv : i < vs.toArray.size := by simpa using (List.getElem?_eq_some_iff.mp hv).1
    have zl : zp < s.heap.objs.size := Heap.lt_size h0
    refine wpAny_pyNext_zipD2_item Z (Draws.tuple (A := X.A.in1) hh ja a na us.toArray) (Draws.list (A := X.A.in1) hh jb b nb vs.toArray) h0 h1 h2 ⟨h3, pl⟩ ⟨h4, pl2.isList⟩ lu lv fun p q h' tk e1 e2 k0 k1 k3 k4 kT hsz kp => ?_
    have ep : p = u := by
      rw [show us.toArray[i]? = us[i]? by simp, hu] at e1
      exact (Option.some.inj e1).symm
    have eq' : q = v := by
      rw [show vs.toArray[i]? = vs[i]? by simp, hv] at e2
      exact (Option.some.inj e2).symm
    subst ep eq'
    refine ⟨_, rfl, wpAny_letOwnedTupleGo_zip (s := { s with heap := h', toks := tk }) k0 fun h'' k0' sb => ?_⟩
    have kT' : h''.get? s.heap.objs.size = some { cls := .type "tuple", data := .seq #[p, q] } := (sb.2 _ (Nat.ne_of_gt zl)).trans kT
    have new : ObjOk X.prog X.w (upd H s.heap.objs.size (.tup [x, y])) h'' s.heap.objs.size (.tup [x, y]) :=
      ⟨by show 2 ≤ sizeLine; decide, [p, q], .cons ru (.cons rv' .nil), ⟨_, kT', rfl, _, rfl⟩⟩
    have I1 : Inv X pins σ (upd H s.heap.objs.size (.tup [x, y])) { s with heap := h'', toks := tk } :=
      I.turnedNew (ch := [zp, ta, tb, ja, jb]) (fun c o hb z => (sb.2 c (fun z' => hb (by simp [z']))).trans (kp c o (fun z' => hb (by simp [z'])) (fun z' => hb (by simp [z'])) (fun z' => hb (by simp [z'])) (fun z' => hb (by simp [z'])) z)) hf (Nat.le_refl _) new
    refine ⟨.ref s.heap.objs.size, _, I1, rfl, ⟨_, x, y, rfl, I.hok.fresh (Nat.le_refl _), rfl, fun l hl => by rw [I.tuple_inj hl qx]; exact ex, fun l hl => by rw [I.list_inj hl qy]; exact ey⟩, ⟨k0', ?_, ⟨p, q, ?_⟩, ?_, ?_⟩, fun c hcm => ?_⟩
    · exact (sb.2 _ Z.TIz).trans (kp _ _ Z.TIz Z.TITO Z.TIi1 Z.TIi2 h1)
    · exact (sb.2 _ Z.TOz).trans k1
    · exact k3.1.at fun o z => (sb.2 _ (Ne.symm Z.zi1)).trans z
    · exact k4.1.at fun o z => (sb.2 _ (Ne.symm Z.zi2)).trans z
    · have hlt : c < s.heap.objs.size := by
        have hm := hcm
        simp only [List.mem_cons, List.not_mem_nil, or_false] at hm
        rcases hm with rfl | rfl | rfl | rfl | rfl
        · exact zl
        · exact Heap.lt_size h1
        · exact Heap.lt_size h2
        · obtain ⟨_, e1, _⟩ := h3; exact Heap.lt_size e1
        · obtain ⟨_, e2, _⟩ := h4; exact Heap.lt_size e2
      rw [upd_ne (Nat.ne_of_lt hlt)]
      exact (hf c hcm).1
  done := by
    rintro X rfl rfl rfl hc i pins s σ H E I hf ⟨h0, h1, ⟨x0, y0, h2⟩, h3, h4⟩ ⟨xs, ys, qx, qy, hend, le1, le2⟩
    obtain ⟨us, rv, pl, _⟩ := I.tuple qx
    obtain ⟨vs, rv2, pl2, _⟩ := I.list qy
    have hh := I.ok.hd hc
    have l1 := rv.length
    have l2 := rv2.length
    refine wpAny_pyNext_zipD2_end Z (Draws.tuple (A := X.A.in1) hh ja a na us.toArray) (Draws.list (A := X.A.in1) hh jb b nb vs.toArray) h0 h1 h2 ⟨h3, pl⟩ ⟨h4, pl2.isList⟩ (by simp; omega) (by simp; omega) (by simp; omega) fun h' tk kp => ?_
    exact ⟨rfl, I.turnedL (ch := [zp, ta, tb, ja, jb]) (fun c o hb z => kp c o (fun z' => hb (by simp [z'])) (fun z' => hb (by simp [z'])) (fun z' => hb (by simp [z'])) (fun z' => hb (by simp [z'])) z) hf⟩
  self := fun A i s Q E st h => wpAny_pyIter_zip st.1 h
end

def zipD (ks ls : List NK) : List D := (ks.zip ls).map fun p => Dt [p.1, p.2]
def iZ3 (t : TA3) : TI3 := fun σ S R => t σ S fun ds S1 => a2 ds fun d e => match d, e with
  | .k (.tup ks), .k (.tup ls) => R (zipD ks ls) (fun _ => True) S1
  | .k (.tup ks), .ref b => ∃ ls, S1 b = some (.lst (List.map D.k ls)) ∧ R (zipD ks ls) (fun S => S b = some (.lst (List.map D.k ls))) S1
  | _, _ => False
theorem zipD_len (ks ls : List NK) : (zipD ks ls).length = min ks.length ls.length := by simp [zipD]
theorem zipD_at {ks ls : List NK} {i : Nat} {d : D} (h : (zipD ks ls)[i]? = some d) : ∃ k l, ks[i]? = some k ∧ ls[i]? = some l ∧ d = Dt [k, l] := by
  unfold zipD at h
  rw [List.getElem?_map, Option.map_eq_some_iff] at h
  obtain ⟨⟨k, l⟩, h1, rfl⟩ := h
  have h2 := List.getElem?_zip_eq_some.mp h1
  exact ⟨k, l, h2.1, h2.2, rfl⟩
/-- a new pair of fixed data -/
theorem pair_new {K : PySem.W.Frag} {w : World} {H : Hp} {S : Sto} (as : AbsS K w H S) {p : Addr} {x y : V} {k l : NK} (n : H p = none) (dx : KDen H k x) (dy : KDen H l y) : Ext S H S (upd H p (.tup [x, y])) ∧ AbsS K w (upd H p (.tup [x, y])) S ∧ Den K (upd H p (.tup [x, y])) (Dt [k, l]) (.ref p) := by
  obtain ⟨as2, x2, k2⟩ := as.hide (u := .tup [x, y]) n
  refine ⟨x2, as2, ?_⟩
  show KDen _ (.tup [k, l]) _
  rw [KDen]
  refine ⟨p, _, rfl, upd_same, KDens.of (.cons (KDen.keep k2 _ _ dx) (.cons (KDen.keep k2 _ _ dy) .nil))⟩
section
variable {X : Cx} {e e2 : Expr} {t : TA3} {te : TE3} {p pos tpos : Pos} {elts : List Expr} {kk : Nat}
def iZipM (K : PySem.W.Frag) (ta : TA) : TI := fun σ H R => ta σ H fun vs H1 => ∃ a b xs ys, vs = [.ref a, .ref b] ∧ SqT K H1 a xs ∧ SqL K H1 b ys ∧ R (ItzM K a b) H1
theorem zip_starts {pins : List (Addr × Obj)} {σ : Sl} {H : Hp} {s : Shared} {a b : Addr} {xs ys : List V} {R : It → Hp → Prop} (I : Inv X pins σ H s) (qx : SqT X.K H a xs) (qy : SqL X.K H b ys) (q : R (ItzM X.K a b) H) :
    wpAny (model X.prog X.w) X.A (call (.type "zip") [.ref a, .ref b]) (fun v s1 => wpAny (model X.prog X.w) X.A (pyIter v) (PIE X pins σ (.Tuple elts kk tpos) R) X.xe s1) X.xe s := by
  obtain ⟨us, rv, pl, _⟩ := I.tuple qx
  obtain ⟨vs, rv2, pl2, _⟩ := I.list qy
  obtain ⟨o1, g1, _⟩ := id pl
  have la : a < s.heap.objs.size := Heap.lt_size g1
  have lb : b < s.heap.objs.size := pl2.lt
  refine zip_begins2 (begins_tuple a us.toArray) (begins_list b vs.toArray) pl pl2.isList fun h' h0 h1 h2 h3 h4 hsz kp => wpAny_pyIter_zip h0 ?_
  have I2 : Inv X pins σ H { s with heap := h' } := I.kept (t' := s.toks) kp
  have Z := zip_sep2 (N := s.heap.objs.size) (fp1 := [a]) (fp2 := [b]) (fun c hc => by rw [List.mem_singleton.mp hc]; exact la) fun c hc => by rw [List.mem_singleton.mp hc]; exact lb
  refine ⟨s.heap.objs.size + 4, [s.heap.objs.size + 4, s.heap.objs.size + 2, s.heap.objs.size + 3, s.heap.objs.size, s.heap.objs.size + 1], _, _, H, rfl, I2, turn_zipM Z (Nat.ne_of_lt la) (Nat.ne_of_lt (Nat.lt_succ_of_lt lb)), ⟨h0, h1, ⟨_, _, h2⟩, ⟨_, h3, rfl, rfl⟩, ⟨_, h4, rfl, rfl⟩⟩, fun c hc => ?_, q⟩
  have hle : s.heap.objs.size ≤ c := by
    simp only [List.mem_cons, List.not_mem_nil, or_false] at hc
    rcases hc with rfl | rfl | rfl | rfl | rfl <;> first | exact Nat.le_refl _ | exact Nat.le_add_right _ _
  exact I.fpOk hle (I.hok.fresh hle)
theorem pi_zipM (hg : Gl X "zip") (hm : X.mg "zip" = none) {ta : TA} (ha : PA X [e, e2] ta)
    (hs : starEach [e, e2] X.env = (false, eval e X.env) :: starEach [e2] X.env := by rfl) (hpl : (backTo pos (starEach [e2] X.env)).any (·.1) = false := by rfl) :
    PI X (.Tuple elts kk tpos) (.Call (.Name "zip" p) [e, e2] [] pos) (iZipM X.K ta) := by
  refine ⟨fun pins s σ H R I h => ?_⟩
  refine Call_ (ld_blt I hg hm PyProof.Rows.boot_zip (PyProof.Rows.callWith_type1 (thn (ha.run pos pins s σ H _ I h) fun us s1 ⟨vs, H1, I1, r1, a, b, xs, ys, ev, qx, qy, q⟩ => ?_) hs hpl))
  subst ev
  obtain ⟨u1, u2, rfl, ra, rb⟩ := vals2 r1
  cases ra
  cases rb
  exact zip_starts I1 qx qy q
theorem piz3 (hg : Gl X "zip") (hm : X.mg "zip" = none) (ha : PA3 X [e, e2] t)
    (hs : starEach [e, e2] X.env = (false, eval e X.env) :: starEach [e2] X.env := by rfl) (hpl : (backTo pos (starEach [e2] X.env)).any (·.1) = false := by rfl) :
    PI3 X (.Tuple elts kk tpos) (.Call (.Name "zip" p) [e, e2] [] pos) (iZ3 t) := by
  have both : PI X (.Tuple elts kk tpos) (.Call (.Name "zip" p) [e, e2] [] pos) (fun σ H R => upA X.K X.w t σ H fun vs H1 => ∃ a b xs ys, vs = [.ref a, .ref b] ∧ SqT X.K H1 a xs ∧ ((SqT X.K H1 b ys ∧ R (ItzT X.K a b) H1) ∨ (SqL X.K H1 b ys ∧ R (ItzM X.K a b) H1))) := by
    refine ⟨fun pins s σ H R I h => ?_⟩
    refine Call_ (ld_blt I hg hm PyProof.Rows.boot_zip (PyProof.Rows.callWith_type1 (thn (ha.run pos pins s σ H _ I h) fun us s1 ⟨vs, H1, I1, r1, a, b, xs, ys, ev, qx, q⟩ => ?_) hs hpl))
    subst ev
    obtain ⟨u1, u2, rfl, ra, rb⟩ := vals2 r1
    cases ra
    cases rb
    rcases q with ⟨qy, q⟩ | ⟨qy, q⟩
    · obtain ⟨us, rv, pl, _⟩ := I1.tuple qx
      obtain ⟨vs, rv2, pl2, _⟩ := I1.tuple qy
      obtain ⟨o1, g1, _⟩ := id pl
      obtain ⟨o2, g2, _⟩ := id pl2
      refine call_zipT (show s1.heap.IsTuple a us.toArray from pl) (show s1.heap.IsTuple b vs.toArray from pl2) fun h' h0 h1 h2 h3 h4 hsz kp => wpAny_pyIter_zip h0 ?_
      refine ⟨s1.heap.objs.size + 4, [s1.heap.objs.size + 4, s1.heap.objs.size + 2, s1.heap.objs.size + 3, s1.heap.objs.size, s1.heap.objs.size + 1], _, _, H1, rfl, I1.kept (t' := s1.toks) kp, turn_zipT (PySem.W.ktu_apart s1.heap.objs.size a b (Heap.lt_size g1) (Heap.lt_size g2)), ⟨h0, h1, ⟨_, _, h2⟩, h3, h4⟩, fun c hc => ?_, q⟩
      have hle : s1.heap.objs.size ≤ c := by
        simp only [List.mem_cons, List.not_mem_nil, or_false] at hc
        rcases hc with rfl | rfl | rfl | rfl | rfl <;> first | exact Nat.le_refl _ | exact Nat.le_add_right _ _
      exact I1.fpOk hle (I1.hok.fresh hle)
    · exact zip_starts I1 qx qy q
  refine PI.imp both fun σ H Q ⟨σd, S, R, av, as, h, q⟩ => seqA av as h fun vs H1 ds S1 x1 k1 av1 as1 dn1 h1 => ?_
  obtain ⟨d, e, rfl, h2⟩ := a2_some h1
  obtain ⟨v, u, rfl, dv, du⟩ := dens2 dn1
  split at h2
  · rename_i ks ls
    have dv' : KDen H1 (.tup ks) v := dv
    have du' : KDen H1 (.tup ls) u := du
    rw [KDen] at dv' du'
    obtain ⟨a, xs, rfl, ha', hx⟩ := dv'
    obtain ⟨b, ys, rfl, hb', hy⟩ := du'
    refine ⟨a, b, xs, ys, rfl, .of ha', .inl ⟨.of hb', q _ H1 S1 _ _ x1 as1 (fun H2 S2 k2 as2 st i => ?_) h2⟩⟩
    have ga := k2.tup a xs ha'
    have gb := k2.tup b ys hb'
    have px := KDens.paired (KDens.keep k2 _ _ hx)
    have py := KDens.paired (KDens.keep k2 _ _ hy)
    refine ⟨fun hl => ⟨xs, ys, .of ga, .of gb, ?_⟩, fun d hd => ?_⟩
    · rw [zipD_len] at hl
      rw [← Paired.length px, ← Paired.length py]
      omega
    · obtain ⟨k, l, e1, e2, rfl⟩ := zipD_at hd
      obtain ⟨x, f1, r1⟩ := paired_at px e1
      obtain ⟨y, f2, r2⟩ := paired_at py e2
      refine ⟨⟨xs, ys, x, y, .of ga, .of gb, f1, f2⟩, fun z H3 ⟨N, x', y', ez, n, e3, c1, c2⟩ => ?_⟩
      have g1 := c1 xs (.of ga)
      have g2 := c2 ys (.of gb)
      rw [f1] at g1
      rw [f2] at g2
      cases g1
      cases g2
      subst ez e3
      exact pair_new as2 n r1 r2
  · rename_i ks b
    obtain ⟨ls, hb', h3⟩ := h2
    have dv' : KDen H1 (.tup ks) v := dv
    rw [KDen] at dv'
    obtain ⟨a, xs, rfl, ha', hx⟩ := dv'
    have du' : u = V.ref b := du
    subst du'
    obtain ⟨ys, gb1, d1⟩ := as1 b _ hb'
    refine ⟨a, b, xs, ys, rfl, .of ha', .inr ⟨.of gb1, q _ H1 S1 _ _ x1 as1 (fun H2 S2 k2 as2 st i => ?_) h3⟩⟩
    have ga := k2.tup a xs ha'
    obtain ⟨ws, gb, d2⟩ := as2 b _ st
    have px := KDens.paired (KDens.keep k2 _ _ hx)
    have py := KDens.paired (nks_den d2 (nks_map ls))
    refine ⟨fun hl => ⟨xs, ws, .of ga, .of gb, ?_⟩, fun d hd => ?_⟩
    · rw [zipD_len] at hl
      rw [← Paired.length px, ← Paired.length py]
      omega
    · obtain ⟨k, l, e1, e2, rfl⟩ := zipD_at hd
      obtain ⟨x, f1, r1⟩ := paired_at px e1
      obtain ⟨y, f2, r2⟩ := paired_at py e2
      refine ⟨⟨xs, ws, x, y, .of ga, .of gb, f1, f2⟩, fun z H3 ⟨N, x', y', ez, n, e3, c1, c2⟩ => ?_⟩
      have g1 := c1 xs (.of ga)
      have g2 := c2 ws (.of gb)
      rw [f1] at g1
      rw [f2] at g2
      cases g1
      cases g2
      subst ez e3
      exact pair_new as2 n r1 r2
  · exact h2.elim
end
end L3
/-! ## L3K -/
/-! enumerate over a tuple, texts walked, a tuple backwards, three names at once -/
namespace PySem
open Sem (wp)
theorem l3_enum_new (a : Addr) (items : Array Value) :
    Meets (Builtin.«enumerate.__new__» ⟨[.type "enumerate", .ref a], []⟩) (fun _ R s => s.heap.IsTuple a items ∧
      R (.ok (.ret (.ref (s.heap.push { cls := .type "tuple_iterator", data := .fields #[.ref a, .int 0 0] }).objs.size)))
        { s with heap := (s.heap.push { cls := .type "tuple_iterator", data := .fields #[.ref a, .int 0 0] }).push { cls := .type "enumerate", data := .fields #[.none, .bool false, .ref s.heap.objs.size, rawInt 0, .none, .none] } }) :=
  .of_wp fun prog w A R s hw => by
    obtain ⟨hp, g, d, tk, os⟩ := s
    obtain ⟨ht, hw⟩ := hw
    have hsub := sub_enumerate
    have go : ∀ {A' : Around} {E : Value → Shared → Prop} {Q : Value → Shared → Prop}, Q (.ref hp.objs.size) ⟨hp.push { cls := .type "tuple_iterator", data := .fields #[.ref a, .int 0 0] }, g, d, tk, os⟩ → wpAny (model prog w) A' (pyIter (.ref a)) Q E ⟨hp, g, d, tk, os⟩ :=
      fun q => wpAny_pyIter_tuple ht q
    wp_walk using go
    refine wpAny_stack_any fun st => wpAny_pure ?_
    split
    · rename_i c _ _ _ _ _
      cases (c == Value.type "enumerate") <;> (
        wp_walk using go
        exact ⟨_, rfl, hw⟩)
    · wp_walk using go
      exact ⟨_, rfl, hw⟩
end PySem
namespace L3
open PySem PySem.Spec L2
open PyProof.Rows hiding St
section
variable {prog : Program} {w : World} {A : Around} {E : Value → Shared → Prop} {s : Shared}
theorem enum_tuple {a : Addr} {items : Array Value} {Q : Value → Shared → Prop} (ht : s.heap.IsTuple a items)
    (h : ∀ h', IsEnum h' (s.heap.objs.size + 1) s.heap.objs.size 0 .none → h'.IsTupleIter s.heap.objs.size a 0 → (∀ b o, s.heap.get? b = some o → h'.get? b = some o) → Q (.ref (s.heap.objs.size + 1)) { s with heap := h' }) :
    wpAny (model prog w) A (call (.type "enumerate") [.ref a]) Q E s := by
  refine callType_new F.called_enumerate (by decide) (F.typeCall_enumerate_1 _) (F.newCall_enumerate_1 _) (fun obj => F.args_object_init_2 obj _) F.entry_enumerate_new (l3_enum_new a items) ⟨ht, ?_⟩
  have z1 : (s.heap.push { cls := .type "tuple_iterator", data := .fields #[.ref a, .int 0 0] }).objs.size = s.heap.objs.size + 1 := Heap.size_push ..
  show _ ∧ _
  rw [z1]
  have he : IsEnum ((s.heap.push { cls := .type "tuple_iterator", data := .fields #[.ref a, .int 0 0] }).push { cls := .type "enumerate", data := .fields #[.none, .bool false, .ref s.heap.objs.size, rawInt 0, .none, .none] }) (s.heap.objs.size + 1) s.heap.objs.size 0 .none := by
    rw [← z1]
    exact Heap.get?_push_size _ rfl
  exact ⟨⟨_, he, rfl⟩, h _ he ⟨_, Heap.get?_push_of_some _ (Heap.get?_push_size _ rfl), rfl, rfl⟩ fun b o z => Heap.get?_push_of_some _ (Heap.get?_push_of_some _ z)⟩
end
/-- a tuple's items with their places -/
def IteT (K : PySem.W.Frag) (a : Addr) : It :=
  ⟨fun i H => ∃ (xs : List V) (x : V), SqT K H a xs ∧ xs[i]? = some x, fun i H v H' => ∃ N x, v = .ref N ∧ H N = none ∧ H' = upd H N (.tup [.int (i : Nat), x]) ∧ ∀ xs, SqT K H a xs → xs[i]? = some x, fun i H => ∃ xs : List V, SqT K H a xs ∧ xs.length = i⟩
theorem turn_enumT {P : Program} {w : World} {K : PySem.W.Frag} {elts : List Expr} {kk : Nat} {tpos : Pos} (a e it : Addr) (ne : e ≠ it) (na : a ≠ it) (nea : e ≠ a) :
    Turn P w K (.Tuple elts kk tpos) (IteT K a) [e, it] e (fun i h => (∃ old, IsEnum h e it ((i : Nat) : Int) old) ∧ h.IsTupleIter it a i) where
  mem := by simp
  obj := fun i h ⟨⟨old, h0⟩, o, h1, _, h2⟩ b hb => by
    simp only [List.mem_cons, List.not_mem_nil, or_false] at hb
    rcases hb with rfl | rfl
    · exact ⟨_, h0, fun v q => nomatch q⟩
    · exact ⟨o, h1, fun v q => by rw [h2] at q; cases q⟩
  keep := fun i h h' ⟨⟨old, h0⟩, h1⟩ kp => ⟨⟨old, kp e (by simp) _ h0⟩, h1.at fun o q => kp it (by simp) o q⟩
  item := by
    rintro X rfl rfl rfl hc i pins s σ H E I hf ⟨⟨old, h0⟩, h1⟩ ⟨xs, x, qx, ex⟩
    obtain ⟨us, rv, pl, _⟩ := I.tuple qx
    obtain ⟨u, hu, ru⟩ := rv.get ex
    have hh := I.ok.hd hc
    have lu : i < us.toArray.size := by simpa using (List.getElem?_eq_some_iff.mp hu).1
    have el : e < s.heap.objs.size := Heap.lt_size h0
    refine wpAny_pyNext_enum_itemD (Draws.tuple (A := X.A.in1) hh it a na us.toArray) h0 ⟨h1, pl⟩ lu ne (by simp only [List.mem_cons, List.not_mem_nil, or_false, not_or]; exact ⟨ne, nea⟩) fun y h' tk e1 k0 k1 kT hsz kp => ?_
    have ey : y = u := by
      rw [show us.toArray[i]? = us[i]? by simp, hu] at e1
      exact (Option.some.inj e1).symm
    subst ey
    refine ⟨_, rfl, wpAny_letOwnedTupleGo_enum (s := { s with heap := h', toks := tk + 1 }) k0 fun h'' k0' sb => ?_⟩
    have kT' : h''.get? s.heap.objs.size = some { cls := .type "tuple", data := .seq #[.int i tk, y] } := (sb.2 _ (Nat.ne_of_gt el)).trans kT
    have new : ObjOk X.prog X.w (upd H s.heap.objs.size (.tup [.int (i : Nat), x])) h'' s.heap.objs.size (.tup [.int (i : Nat), x]) :=
      ⟨by show 2 ≤ sizeLine; decide, [.int i tk, y], .cons ⟨_, rfl⟩ (.cons ru .nil), ⟨_, kT', rfl, _, rfl⟩⟩
    have I1 : Inv X pins σ (upd H s.heap.objs.size (.tup [.int (i : Nat), x])) { s with heap := h'', toks := tk + 1 } :=
      I.turnedNew (ch := [e, it]) (fun b ob hb z => (sb.2 b (fun z' => hb (by simp [z']))).trans (kp b ob (fun z' => hb (by simp [z'])) (fun z' => hb (by simp [z'])) z)) hf (Nat.le_refl _) new
    refine ⟨.ref s.heap.objs.size, _, I1, rfl, ⟨_, x, rfl, I.hok.fresh (Nat.le_refl _), rfl, fun l hl => by rw [I.tuple_inj hl qx]; exact ex⟩, ⟨⟨y, ?_⟩, k1.1.at fun o z => (sb.2 it (Ne.symm ne)).trans z⟩, fun b hb => ?_⟩
    · have e1 : ((i + 1 : Nat) : Int) = (i : Int) + 1 := by omega
      rw [e1]; exact k0'
    · have hlt : b < s.heap.objs.size := by
        have hm := hb
        simp only [List.mem_cons, List.not_mem_nil, or_false] at hm
        rcases hm with rfl | rfl
        · exact el
        · obtain ⟨_, e1, _⟩ := h1; exact Heap.lt_size e1
      rw [upd_ne (Nat.ne_of_lt hlt)]
      exact (hf b hb).1
  done := by
    rintro X rfl rfl rfl hc i pins s σ H E I hf ⟨⟨old, h0⟩, h1⟩ ⟨xs, qx, hl⟩
    obtain ⟨us, rv, pl, _⟩ := I.tuple qx
    have hh := I.ok.hd hc
    have l1 := rv.length
    have el : us.toArray.size = i := by simp; omega
    subst el
    obtain ⟨f0, f1, f2, f3, f4, f5⟩ := hf it (by simp)
    exact wpAny_pyNext_enum_endD (Draws.tuple (A := X.A.in1) hh it a na us.toArray) h0 ⟨h1, pl⟩ fun h' eb => ⟨rfl, I.turned (t' := s.toks) (fun b o hb z => eb b o hb z) f0 f1 f3 f4 f5⟩
  self := fun A i s Q E st h => let ⟨⟨_, h0⟩, _⟩ := st; wpAny_pyIter_enum h0 h

def enumD (ks : List NK) : List D := ks.zipIdx.map fun p => Dt [.num (p.2 : Int), p.1]
def iE3 (t : TA3) : TI3 := fun σ S R => t σ S fun ds S1 => a1 ds fun d => match d with
  | .k (.tup ks) => R (enumD ks) (fun _ => True) S1
  | _ => False
def iS3 (te : TE3) : TI3 := fun σ S R => te σ S fun d S1 => match d with
  | .k (.text z) => R (z.cps.toList.map fun c => .k (.text ⟨#[c]⟩)) (fun _ => True) S1
  | _ => False
section
variable {X : Cx} {e tg : Expr} {t : TA3} {te : TE3} {p pos tpos : Pos} {elts : List Expr} {kk : Nat}
theorem enumD_at {ks : List NK} {i : Nat} {d : D} (h : (enumD ks)[i]? = some d) : ∃ k, ks[i]? = some k ∧ d = Dt [.num (i : Int), k] := by
  unfold enumD at h
  rw [List.getElem?_map, List.getElem?_zipIdx] at h
  cases q : ks[i]? with
  | none => rw [q] at h; cases h
  | some k =>
    rw [q] at h
    cases h
    exact ⟨k, rfl, by simp⟩
theorem pie3 (hg : Gl X "enumerate") (hm : X.mg "enumerate" = none) (ha : PA3 X [e] t) (hs : starEach [e] X.env = [(false, eval e X.env)] := by rfl) : PI3 X (.Tuple elts kk tpos) (.Call (.Name "enumerate" p) [e] [] pos) (iE3 t) := by
  have raw : PI X (.Tuple elts kk tpos) (.Call (.Name "enumerate" p) [e] [] pos) (fun σ H R => upA X.K X.w t σ H fun vs H1 => ∃ a xs, vs = [.ref a] ∧ SqT X.K H1 a xs ∧ R (IteT X.K a) H1) := by
    refine ⟨fun pins s σ H R I h => ?_⟩
    refine Call_ (ld_blt I hg hm boot_enumerate (PyProof.Rows.callWith_type1 (thn (ha.run pos pins s σ H _ I h) fun us s1 ⟨vs, H1, I1, r1, a, xs, ev, qx, q⟩ => ?_) hs rfl))
    subst ev
    obtain ⟨u1, rfl, ra⟩ := vals1 r1
    cases ra
    obtain ⟨its, rv, pl, _⟩ := I1.tuple qx
    obtain ⟨o1, g1, _⟩ := id pl
    have la : a < s1.heap.objs.size := Heap.lt_size g1
    refine enum_tuple (show s1.heap.IsTuple a its.toArray from pl) fun h' h0 h1 kp => wpAny_pyIter_enum h0 ?_
    refine ⟨s1.heap.objs.size + 1, [s1.heap.objs.size + 1, s1.heap.objs.size], _, _, H1, rfl, I1.kept (t' := s1.toks) kp, turn_enumT a (s1.heap.objs.size + 1) s1.heap.objs.size (Nat.succ_ne_self _) (Nat.ne_of_lt la) (Nat.ne_of_gt (Nat.lt_succ_of_lt la)), ⟨⟨.none, h0⟩, h1⟩, fun b hb => ?_, q⟩
    have hle : s1.heap.objs.size ≤ b := by
      simp only [List.mem_cons, List.not_mem_nil, or_false] at hb
      rcases hb with rfl | rfl <;> first | exact Nat.le_refl _ | exact Nat.le_add_right _ _
    exact I1.fpOk hle (I1.hok.fresh hle)
  refine PI.imp raw fun σ H Q ⟨σd, S, R, av, as, h, q⟩ => seqA av as h fun vs H1 ds S1 x1 k1 av1 as1 dn1 h1 => ?_
  obtain ⟨d, rfl, h2⟩ := a1_some h1
  obtain ⟨v, rfl, dv⟩ := dens1 dn1
  split at h2
  · rename_i ks
    have dv' : KDen H1 (.tup ks) v := dv
    rw [KDen] at dv'
    obtain ⟨a, xs, rfl, ha', hx⟩ := dv'
    refine ⟨a, xs, rfl, .of ha', q _ H1 S1 _ _ x1 as1 (fun H2 S2 k2 as2 st i => ?_) h2⟩
    have ga := k2.tup a xs ha'
    have px := KDens.paired (KDens.keep k2 _ _ hx)
    refine ⟨fun hl => ⟨xs, .of ga, ?_⟩, fun d hd => ?_⟩
    · rw [← Paired.length px]
      simpa [enumD] using hl
    · obtain ⟨k, e1, rfl⟩ := enumD_at hd
      obtain ⟨x, f1, r1⟩ := paired_at px e1
      refine ⟨⟨xs, x, .of ga, f1⟩, fun z H3 ⟨N, x', ez, n, e3, c1⟩ => ?_⟩
      have g1 := c1 xs (.of ga)
      rw [f1] at g1
      cases g1
      subst ez e3
      exact pair_new as2 n (show KDen H2 (.num (i : Int)) (.int (i : Nat)) by rw [KDen]) r1
  · exact h2.elim
theorem pis3 (he : PE3 X e te) : PI3 X tg e (iS3 te) := PI.imp (pi_str he) fun σ H Q ⟨σd, S, R, av, as, h, q⟩ =>
  seqE av as h fun v H1 d S1 x1 k1 av1 as1 dn1 h1 => by
    split at h1
    · rename_i z
      refine ⟨z, dn1, q _ H1 S1 _ _ x1 as1 (fun H2 S2 k2 as2 st i => ⟨fun hl => ?_, fun d hd => ?_⟩) h1⟩
      · show z.cps.size ≤ i
        simpa using Nat.le_of_eq hl
      · rw [List.getElem?_map, Option.map_eq_some_iff] at hd
        obtain ⟨c, e1, rfl⟩ := hd
        have e2 : z.cps[i]? = some c := by rw [← Array.getElem?_toList]; exact e1
        refine ⟨(Array.getElem?_eq_some_iff.mp e2).1, fun x H3 ⟨e3, c', e4, e5⟩ => ?_⟩
        rw [e2] at e4
        cases e4
        subst e3 e5
        exact ⟨.refl _ _, as2, (show KDen H3 (.text ⟨#[c]⟩) (.str ⟨#[c]⟩) by rw [KDen])⟩
    · exact h1.elim
end
end L3
/-! ## L3L -/
/-! displays of dicts, dict(list of pairs) -/
namespace L3
open PySem PySem.Spec L2
open PyProof.Rows hiding St

def dputs {α : Type} (kvs ps : List (NK × α)) : List (NK × α) := ps.foldl (fun acc p => dput acc p.1 p.2) kvs
def rputs (xs rs : List Row) : List Row := rs.foldl (fun acc r => rput acc r.1 r.2.1 r.2.2) xs
theorem ents_put {K : PySem.W.Frag} {H : Hp} {ps : List (NK × D)} {rs : List Row} (r : Paired (Ent K H) ps rs) : ∀ {kvs : List (NK × D)} {xs : List Row}, Paired (Ent K H) kvs xs → Paired (Ent K H) (dputs kvs ps) (rputs xs rs) := by
  induction r with
  | nil => exact fun q => q
  | @cons p x ps rs h t ih =>
    intro kvs xs q
    obtain ⟨e, hk, hv⟩ := h
    refine ih ?_
    show Paired (Ent K H) (dput kvs p.1 p.2) (rput xs x.1 x.2.1 x.2.2)
    rw [← e]
    exact ent_put hk hv q
theorem rputs_len (rs : List Row) : ∀ xs : List Row, (rputs xs rs).length ≤ xs.length + rs.length := by
  induction rs with
  | nil => exact fun _ => Nat.le_refl _
  | cons r rs ih =>
    intro xs
    have h1 := ih (rput xs r.1 r.2.1 r.2.2)
    have h2 := rput_len xs r.1 r.2.1 r.2.2
    rw [List.length_cons]
    exact Nat.le_trans h1 (by omega)
theorem rput_mem {xs : List Row} {k : NK} {key v : Value} : ∀ y ∈ rput xs k key v, (y.1 = k ∧ y.2.1 = key) ∨ ∃ x ∈ xs, y.1 = x.1 ∧ y.2.1 = x.2.1 := fun y hy => by
  unfold rput at hy
  split at hy
  · obtain ⟨x, hx, rfl⟩ := List.mem_map.mp hy
    refine .inr ⟨x, hx, ?_⟩
    split <;> exact ⟨rfl, rfl⟩
  · rcases List.mem_append.mp hy with h | h
    · exact .inr ⟨y, h, rfl, rfl⟩
    · cases List.mem_singleton.mp h
      exact .inl ⟨rfl, rfl⟩
theorem rputs_mem (rs : List Row) : ∀ xs : List Row, ∀ y ∈ rputs xs rs, ∃ x, (x ∈ xs ∨ x ∈ rs) ∧ y.1 = x.1 ∧ y.2.1 = x.2.1 := by
  induction rs with
  | nil => exact fun xs y hy => ⟨y, .inl hy, rfl, rfl⟩
  | cons r rs ih =>
    intro xs y hy
    obtain ⟨x, hx, e1, e2⟩ := ih (rput xs r.1 r.2.1 r.2.2) y hy
    rcases hx with hx | hx
    · rcases rput_mem x hx with ⟨f1, f2⟩ | ⟨z, hz, f1, f2⟩
      · exact ⟨r, .inr List.mem_cons_self, e1.trans f1, e2.trans f2⟩
      · exact ⟨z, .inl hz, e1.trans f1, e2.trans f2⟩
    · exact ⟨x, .inr (List.mem_cons_of_mem _ hx), e1, e2⟩
theorem DicOk.ofTab {K : PySem.W.Frag} {w : World} {H : Hp} {h : Heap} {a : Addr} {kvs : List (NK × D)} {xs : List Row} {ep : Nat} {o : Obj} (T : Tab w h a xs ep o) (hs : (a == sysModules) = false) (r : Paired (Ent K H) kvs xs) (hl : xs.length ≤ sizeLine) : DicOk K H a kvs xs where
  len := by rw [Paired.length r]; exact hl
  sys := hs
  nod := by rw [← Ent.rows r]; exact T.nod
  dep := fun p hp => by
    have : p.1 ∈ xs.map (·.1) := by rw [Ent.rows r]; exact List.mem_map_of_mem hp
    obtain ⟨x, hx, e⟩ := List.mem_map.mp this
    rw [← e]
    exact T.dep x hx
  ent := r
theorem Tab.seqs {w : World} {h h' : Heap} {d : Addr} {xs : List Row} {ep : Nat} {o : Obj} (T : Tab w h d xs ep o) (sb : Heap.SameBut d h h') : ∀ a ob vs n, h.get? a = some ob → ob.data = .seq vs n → h'.get? a = some ob := fun a ob vs n ha hb => by
  refine (sb.2 a fun z => ?_).trans ha
  subst z
  rw [T.get] at ha
  cases ha
  rw [T.dat] at hb
  cases hb
theorem store3 {P : Program} {w : World} {A : Around} {E : Value → Shared → Prop} {d : Addr} (hu : A.units + 8 < cLine) : ∀ (rs : List Row) (s : Shared) (xs : List Row) (ep : Nat) (o : Obj) (Q : PUnit → Shared → Prop), Tab w s.heap d xs ep o →
    (∀ r ∈ rs, NestedIs s.heap r.1 r.2.1 ∧ r.1.depth ≤ 8) → xs.length + rs.length ≤ sizeLine →
    (∀ h' ep' o' tk, Tab w h' d (rputs xs rs) ep' o' → Heap.SameBut d s.heap h' → Q PUnit.unit { s with heap := h', toks := tk }) →
    wpAny (model P w) A (forIn (rs.map (·.2)) PUnit.unit fun (x : Value × Value) (_ : PUnit) => (do dictSet d x.1 x.2; pure (ForInStep.yield PUnit.unit) : Sem (ForInStep PUnit))) Q E s
  | [], s, xs, ep, o, Q, T, hr, hz, hq => by
    rw [List.map_nil, List.forIn_nil]
    exact wpAny_pure (hq s.heap ep o s.toks T (Heap.SameBut.refl _ _))
  | r :: rs, s, xs, ep, o, Q, T, hr, hz, hq => by
    rw [List.length_cons] at hz
    rw [List.map_cons, List.forIn_cons]
    obtain ⟨hk, hd⟩ := hr r List.mem_cons_self
    refine wpAny_bind (wpAny_bind (dset3 T hu hk hd (by omega) fun h1 ep1 o1 T1 sb => wpAny_pure ?_))
    refine store3 hu rs _ (rput xs r.1 r.2.1 r.2.2) ep1 o1 Q T1 (fun x hx => ⟨NestedIs.at (T.seqs sb) _ _ (hr x (List.mem_cons_of_mem _ hx)).1, (hr x (List.mem_cons_of_mem _ hx)).2⟩) (by have := rput_len xs r.1 r.2.1 r.2.2; omega) fun h' ep' o' tk T' sb' => ?_
    exact hq h' ep' o' tk T' (sb.trans sb')
/-- the empty dict, new -/
theorem tab_new {w : World} (h : Heap) : Tab w (h.push { cls := .type "dict", data := .dict #[] }) h.objs.size [] 0 { cls := .type "dict", data := .dict #[] } :=
  ⟨Heap.get?_push_size _ rfl, ⟨rfl, rfl, rfl⟩, rfl, (fun x hx => nomatch hx), (fun x hx => nomatch hx), List.nodup_nil⟩
theorem ext_ok {P : Program} {w : World} {H : Hp} {h : Heap} {a : Addr} {xs : List Row} {ep : Nat} {o : Obj} (T : Tab w h a xs ep o) : ObjOk P w H h a (.ext (dictAt w a xs)) := by
  refine ⟨⟨o, ep, T.get, T.exact, T.dat⟩, ⟨o, T.get⟩, ?_⟩
  rintro h1 h2 ⟨o1, ep1, g1, x1, d1⟩ hk
  exact ⟨o1, ep1, hk o1 g1, x1, d1⟩
section
variable {K : PySem.W.Frag} {w : World} {H H0 : Hp} {S S0 : Sto}
/-- the store begins to tell of an object -/
theorem AbsS.tell (h : AbsS K w H S) {p : Addr} {u : HO} {o : MO} (n : S p = none) (nt : ∀ xs, H p ≠ some (.tup xs)) (nf : ∀ v xs, H p ≠ some (.frz v (.lst xs))) (r : Keeps H (upd H p u) → Rep K w (upd H p u) p o) :
    AbsS K w (upd H p u) (put S p o) ∧ Keeps H (upd H p u) := by
  have hk : Keeps H (upd H p u) := ⟨fun a xs e => by rw [upd_ne (fun z => nt xs (by rw [← z]; exact e))]; exact e, fun a v xs e => by rw [upd_ne (fun z => nf v xs (by rw [← z]; exact e))]; exact e⟩
  refine ⟨fun a v e => ?_, hk⟩
  by_cases ha : a = p
  · subst ha; rw [put_same] at e; cases e; exact r hk
  · rw [put_ne ha] at e; exact (h a v e).keep hk (upd_ne ha)
theorem Ext.tell (x : Ext S0 H0 S H) {p : Addr} {u : HO} {o : MO} (n : H0 p = none) : Ext S0 H0 (put S p o) (upd H p u) := fun a v e q => by
  have ne := ne_of_none e n
  exact ⟨by rw [upd_ne ne]; exact (x a v e q).1, by rw [put_ne ne]; exact (x a v e q).2⟩
end

/-! ### displays -/
def asK (d : D) (Q : NK → Prop) : Prop := match d with
  | .k x => Q x
  | _ => False
theorem asK_some {d : D} {Q : NK → Prop} (h : asK d Q) : ∃ k, d = .k k ∧ Q k := by
  cases d <;> first | exact ⟨_, rfl, h⟩ | exact h.elim
def tPairs3 : List (TE3 × TE3) → Sd → Sto → (List (NK × D) → Sto → Prop) → Prop
  | [], _, S, Q => Q [] S
  | (tk, tv) :: r, σ, S, Q => tk σ S fun x S1 => tv σ S1 fun y S2 => tPairs3 r σ S2 fun ps S3 => asK x fun k => k.depth ≤ 8 ∧ Q ((k, y) :: ps) S3
def ups (K : PySem.W.Frag) (w : World) (trs : List (TE3 × TE3)) : List (TE × TE) := trs.map fun p => (up K w p.1, up K w p.2)
abbrev Prs (K : PySem.W.Frag) (H : Hp) : List (NK × D) → List (V × V) → Prop := Paired fun p q => KDen H p.1 q.1 ∧ Den K H p.2 q.2 ∧ p.1.depth ≤ 8
theorem pairs_aux {K : PySem.W.Frag} {w : World} : ∀ {trs : List (TE3 × TE3)} {σ : Sl} {σd : Sd} {H : Hp} {S : Sto} {R : List (NK × D) → Sto → Prop} {Q : List (V × V) → Hp → Prop}, AbsV K H σ σd → AbsS K w H S → tPairs3 trs σd S R →
    (∀ ps H' qs S', Ext S H S' H' → AbsS K w H' S' → Prs K H' ps qs → R ps S' → Q qs H') → tPairs (ups K w trs) σ H Q
  | [], σ, σd, H, S, R, Q, av, as, h, q => q [] H [] S (.refl _ _) as .nil h
  | (tk, tv) :: trs, σ, σd, H, S, R, Q, av, as, h, q =>
    seqE av as h fun v H1 d S1 x1 k1 av1 as1 dn1 h1 => seqE av1 as1 h1 fun u H2 e S2 x2 k2 av2 as2 dn2 h2 =>
      pairs_aux av2 as2 h2 fun ps H3 qs S3 x3 as3 pr h3 => by
        obtain ⟨k, rfl, hd, h4⟩ := asK_some h3
        have k3 := x3.keeps as2
        exact q ((k, e) :: ps) H3 ((v, u) :: qs) S3 ((x1.trans x2).trans x3) as3 (.cons ⟨KDen.keep k3 _ _ (KDen.keep k2 _ _ dn1), dn2.keep k3, hd⟩ pr) h4
theorem ppn3 {X : Cx} {pos : Pos} : PPs X pos [] [] (ups X.K X.w []) := pps_nil
theorem ppc3 {X : Cx} {pos : Pos} {k v : Expr} {ks : List (Option Expr)} {vs : List Expr} {tk tv : TE3} {trs : List (TE3 × TE3)} (hk : PE3 X k tk) (hv : PE3 X v tv) (hr : PPs X pos ks vs (ups X.K X.w trs)) : PPs X pos (some k :: ks) (v :: vs) (ups X.K X.w ((tk, tv) :: trs)) := pps_cons hk hv hr
theorem rows_of {K : PySem.W.Frag} {H : Hp} : ∀ {ps : List (NK × D)} {qs : List (V × V)} {vs : List (Value × Value)}, Prs K H ps qs → VV qs vs → ∃ rs : List Row, vs = rs.map (·.2) ∧ Paired (Ent K H) ps rs ∧ ∀ r ∈ rs, r.1.depth ≤ 8
  | _, _, _, .nil, r => by cases r; exact ⟨[], rfl, .nil, fun _ h => by cases h⟩
  | p :: ps, q :: qs, _, .cons h t, r => by
    cases r with
    | @cons _ x _ vs' r r' =>
      obtain ⟨rs, e, pr, hd⟩ := rows_of t r'
      refine ⟨(p.1, x) :: rs, by rw [e]; rfl, .cons ⟨rfl, ⟨q.1, r.1, h.1⟩, q.2, r.2, h.2.1⟩ pr, fun y hy => ?_⟩
      rcases List.mem_cons.mp hy with rfl | hy
      · exact h.2.2
      · exact hd y hy
theorem rows_nested {P : Program} {w : World} {K : PySem.W.Frag} {H : Hp} {h : Heap} (ok : HOk P w H h) {ps : List (NK × D)} {rs : List Row} (pr : Paired (Ent K H) ps rs) : ∀ r ∈ rs, NestedIs h r.1 r.2.1 := fun r hr => by
  obtain ⟨p, hp, e, ⟨v, rv, kd⟩, _⟩ := Ent.mem pr r hr
  rw [← e]
  exact KDen.nested ok _ _ _ kd rv
theorem sys_ne {X : Cx} {pins : List (Addr × Obj)} {σ : Sl} {H : Hp} {s : Shared} (I : Inv X pins σ H s) : (s.heap.objs.size == sysModules) = false := beq_eq_false_iff_ne.mpr (Nat.ne_of_gt I.big)
def tDisp3 (trs : List (TE3 × TE3)) : TE3 := fun σ S Q => tPairs3 trs σ S fun ps S1 => ps.length ≤ 15 ∧ ∀ p, S1 p = none → Q (.ref p) (put S1 p (.dic none (dputs [] ps)))
section
variable {X : Cx} {pos : Pos} {keys : List (Option Expr)} {values : List Expr} {trs : List (TE3 × TE3)}
def tDict0 : TE3 := fun _ S Q => ∀ p, S p = none → Q (.ref p) (put S p (.dic none []))
theorem rep_dic {K : PySem.W.Frag} {w : World} {H : Hp} {p : Addr} {kvs : List (NK × D)} {xs : List Row} (ok : DicOk K H p kvs xs) (e : H p = some (.ext (dictAt w p xs))) : Rep K w H p (.dic none kvs) := ⟨xs, ok, e⟩
theorem pd03 : PE3 X (.Dict [] [] pos) tDict0 := ⟨fun pins s σ H Q I ⟨σd, S, R, av, as, h, q⟩ => by
  have n := I.hok.fresh (Nat.le_refl s.heap.objs.size)
  have I1 := I.laid (a := s.heap.objs.size) (o := .ext (dictAt X.w s.heap.objs.size [])) (h' := s.heap.push { cls := .type "dict", data := .dict #[] }) (t' := s.toks) (fun _ _ q => Heap.get?_push_of_some _ q) (Nat.le_refl _) (ext_ok (tab_new s.heap))
  obtain ⟨as2, x2, k2⟩ := as.lay (u := .ext (dictAt X.w s.heap.objs.size [])) (o := .dic none []) n (rep_dic (DicOk.ofTab (tab_new (w := X.w) s.heap) (sys_ne I) .nil (Nat.zero_le _)) upd_same)
  exact wpAny_Dict_empty ⟨.ref s.heap.objs.size, _, I1, rfl, q _ _ (.ref _) _ x2 as2 rfl (h _ (as.free n))⟩⟩
theorem pdisp3 (hu : X.A.units + 64 < cLine) (h : PPs X pos keys values (ups X.K X.w trs)) (hall : keys.all (·.isSome) = true := by rfl) (hl : keys.length = values.length := by rfl) (h0 : keys ≠ [] := by exact fun h => nomatch h) (h15 : keys.length ≤ 15 := by decide) : PE3 X (.Dict keys values pos) (tDisp3 trs) := ⟨fun pins s σ H Q I ⟨σd, S, R, av, as, h1, q⟩ => by
  have n := I.hok.fresh (Nat.le_refl s.heap.objs.size)
  have I1 := I.laid (a := s.heap.objs.size) (o := .ext (dictAt X.w s.heap.objs.size [])) (h' := s.heap.push { cls := .type "dict", data := .dict #[] }) (t' := s.toks) (fun _ _ q => Heap.get?_push_of_some _ q) (Nat.le_refl _) (ext_ok (tab_new s.heap))
  obtain ⟨as1, x1, k1⟩ := as.hide (u := .ext (dictAt X.w s.heap.objs.size [])) n
  have ln := pairTrees_length keys values X.env pos hall hl
  have hs := sys_ne I
  rw [arm_eval_Dict, zip_pairTrees keys values X.env pos hall hl, dictDisplay_pairs (pairTrees keys values X.env pos) (fun e => h0 (List.length_eq_zero_iff.mp (by rw [← ln, e]; rfl))) (by omega)]
  refine wpAny_bind (wpAny_standAt (wpAny_bind ?_))
  unfold subDict
  refine wpAny_bind (wpAny_alloc ?_)
  refine wpAny_bind (wpAny_holding ?_)
  rw [if_pos (by omega)]
  have sp : S s.heap.objs.size = none := as.free n
  refine wpAny_bind (thn (h.run pins _ σ _ (fun qs H' => ∃ ps S', Ext S (upd H s.heap.objs.size (.ext (dictAt X.w s.heap.objs.size []))) S' H' ∧ AbsS X.K X.w H' S' ∧ Prs X.K H' ps qs ∧ ps.length ≤ 15 ∧ ∀ p, S' p = none → R (.ref p) (put S' p (.dic none (dputs [] ps)))) I1 (pairs_aux (av.keep k1) as1 h1 fun ps H' qs S' x as' pr z => ⟨ps, S', x, as', pr, z⟩)) fun vs s2 ⟨qs, H2, I2, rel, ps, S2, x2, as2, pr, lp, h2⟩ => ?_)
  obtain ⟨rs, rfl, en, hd⟩ := rows_of pr rel
  obtain ⟨e2, n2⟩ := x2 s.heap.objs.size _ upd_same sp
  obtain ⟨⟨o, ep, g1, g2, g3⟩, _, _⟩ := I2.hok _ _ e2
  have T : Tab X.w s2.heap s.heap.objs.size [] ep o := ⟨g1, g2, g3, (fun x hx => nomatch hx), (fun x hx => nomatch hx), List.nodup_nil⟩
  have lr : rs.length ≤ 15 := by rw [← Paired.length en]; exact lp
  have sz : 15 ≤ sizeLine := by decide
  refine wpAny_holding (wpAny_bind (store3 (by omega) rs s2 [] ep o _ T (fun r hr => ⟨rows_nested I2.hok en r hr, hd r hr⟩) (by rw [List.length_nil]; omega) fun h' ep' o' tk T' sb => wpAny_pure (wpAny_pure ?_)))
  have I3 := dict_write (tk := tk) I2 e2 T' sb
  obtain ⟨as3, k3⟩ := as2.tell (u := .ext (dictAt X.w s.heap.objs.size (rputs [] rs))) (o := .dic none (dputs [] ps)) n2 (fun xs => by rw [e2]; exact fun z => nomatch z) (fun v xs => by rw [e2]; exact fun z => nomatch z)
    fun kk => rep_dic (DicOk.ofTab T' hs (ents_put (Paired.mapP en fun _ _ q => q.keep kk) .nil) (by have := rputs_len rs []; rw [List.length_nil] at this; omega)) upd_same
  exact wpAny_pure ⟨.ref s.heap.objs.size, _, I3, rfl, q _ _ (.ref _) _ ((x1.trans x2).tell n) as3 rfl (h2 _ n2)⟩⟩
end
end L3
/-! ## L3M -/
/-! dict(list of pairs) -/
namespace L3
open PySem PySem.Spec L2
open PyProof.Rows hiding St

theorem rput_nodup {xs : List Row} (h : (xs.map (·.1)).Nodup) (k : NK) (key v : Value) : ((rput xs k key v).map (·.1)).Nodup := by
  unfold rput
  split
  · have e : (xs.map fun p => if p.1 = k then (p.1, p.2.1, v) else p).map (·.1) = xs.map (·.1) := by
      rw [List.map_map]
      refine List.map_congr_left fun x _ => ?_
      show (if x.1 = k then (x.1, x.2.1, v) else x).1 = x.1
      split <;> rfl
    rw [e]; exact h
  · rename_i hn
    rw [List.map_append, List.nodup_append]
    refine ⟨h, by simp, fun x hx y hy => ?_⟩
    simp only [List.map_cons, List.map_nil, List.mem_singleton] at hy
    subst hy
    obtain ⟨z, hz, rfl⟩ := List.mem_map.mp hx
    intro e
    exact hn (List.any_eq_true.mpr ⟨z, hz, decide_eq_true e⟩)
theorem rputs_nodup (rs : List Row) : ∀ xs : List Row, (xs.map (·.1)).Nodup → ((rputs xs rs).map (·.1)).Nodup := by
  induction rs with
  | nil => exact fun _ h => h
  | cons r rs ih => exact fun xs h => ih _ (rput_nodup h _ _ _)
theorem rputs_take {rs : List Row} {i : Nat} {r : Row} (h : rs[i]? = some r) (xs : List Row) : rputs xs (rs.take (i + 1)) = rput (rputs xs (rs.take i)) r.1 r.2.1 r.2.2 := by
  unfold rputs
  rw [List.take_add_one, h, List.foldl_append]
  rfl
section
variable {prog : Program} {w : World} {A : Around} {E : Value → Shared → Prop} {s : Shared} {T : String} {a : Addr} {fp wr : List Addr} {n : Nat} {Rel : Nat → Value → Value → Prop} {OK : Heap → Prop}
abbrev KeptBut (wr : List Addr) (h h' : Heap) : Prop := ∀ b o, b ∉ wr → h.get? b = some o → h'.get? b = some o
theorem dict_arg (P : PairArg prog w T a fp wr n Rel OK) (hh : A.handled = none) (hu : A.units + 64 < cLine) (ok : OK s.heap) (rs : List Row) (hn : rs.length = n) (hrel : ∀ i k v, Rel i k v → ∃ r, rs[i]? = some r ∧ k = r.2.1 ∧ v = r.2.2)
    (hnest : ∀ r ∈ rs, r.1.depth ≤ 8 ∧ ∀ h', KeptBut wr s.heap h' → NestedIs h' r.1 r.2.1) (hz : n ≤ sizeLine) {Q : Value → Shared → Prop}
    (h : ∀ h' tk ep o, Tab w h' s.heap.objs.size (rputs [] rs) ep o → KeptBut wr s.heap h' → Q (.ref s.heap.objs.size) { s with heap := h', toks := tk }) :
    wpAny (model prog w) A (call (.type "dict") [.ref a]) Q E s := by
  refine call_dict_arg P ok fun s1 hs1 hdf ok1 => ?_
  subst hs1
  have toTab : ∀ i h1, (∃ ep o, h1.get? s.heap.objs.size = some o ∧ o.ExactDict ∧ o.data = .dict ((rputs [] (rs.take i)).map (rowE w)).toArray ep) → KeptBut wr s.heap h1 → ∃ ep o, Tab w h1 s.heap.objs.size (rputs [] (rs.take i)) ep o := fun i h1 ⟨ep, o, g1, g2, g3⟩ hk => by
    have mem : ∀ x ∈ rputs [] (rs.take i), ∃ r ∈ rs, x.1 = r.1 ∧ x.2.1 = r.2.1 := fun x hx => by
      obtain ⟨r, hr, e1, e2⟩ := rputs_mem _ _ x hx
      rcases hr with hr | hr
      · cases hr
      · exact ⟨r, List.mem_of_mem_take hr, e1, e2⟩
    refine ⟨ep, o, g1, g2, g3, fun x hx => ?_, fun x hx => ?_, rputs_nodup _ _ List.nodup_nil⟩
    · obtain ⟨r, hr, e1, e2⟩ := mem x hx
      rw [e1, e2]
      exact (hnest r hr).2 h1 hk
    · obtain ⟨r, hr, e1, _⟩ := mem x hx
      rw [e1]
      exact (hnest r hr).1
  refine updateFrom_arg (A := A.in1) (s := { s with heap := s.heap.push { cls := .type "dict", data := .dict #[] } }) (Tab := fun i h1 => (∃ ep o, h1.get? s.heap.objs.size = some o ∧ o.ExactDict ∧ o.data = .dict ((rputs [] (rs.take i)).map (rowE w)).toArray ep) ∧ KeptBut wr s.heap h1) P .none hh ok1 hdf ⟨⟨0, _, Heap.get?_push_size _ rfl, ⟨rfl, rfl, rfl⟩, rfl⟩, fun b o _ e => Heap.get?_push_of_some _ e⟩ (fun i h1 ⟨⟨ep, o, g, _⟩, _⟩ => Heap.lt_size g) ?_ ?_ ?_
  · rintro i h1 h2 wr' hd hw ⟨⟨ep, o, g1, g2, g3⟩, hk⟩ hk'
    refine ⟨⟨ep, o, hk' _ _ hd g1, g2, g3⟩, fun b ob hb e => hk' b ob (fun hm => ?_) (hk b ob hb e)⟩
    rcases hw b hm with q | q
    · exact hb q
    · rw [Heap.get?_push_of_some _ e] at q; cases q
  · intro i key v s2 Q2 E2 hi hr ⟨tb, hk⟩ _ hQ
    obtain ⟨r, er, rfl, rfl⟩ := hrel i key v hr
    obtain ⟨ep, o, T1⟩ := toTab i s2.heap tb hk
    have hm := List.mem_of_getElem? er
    have ln := rputs_len (rs.take i) []
    rw [List.length_take, List.length_nil] at ln
    refine dset3 T1 (by show A.units + 1 + 1 + 8 < _; omega) ((hnest r hm).2 s2.heap hk) (hnest r hm).1 (by omega) fun h' ep' o' T2 sb => ?_
    refine hQ h' _ ⟨⟨ep', o', T2.get, T2.exact, by rw [rputs_take er]; exact T2.dat⟩, fun b ob hb e => ?_⟩ sb
    exact (sb.2 b (Nat.ne_of_lt (Heap.lt_size e))).trans (hk b ob hb e)
  · rintro h' tk ⟨tb, hk⟩ _
    obtain ⟨ep, o, T1⟩ := toTab n h' tb hk
    rw [← hn, List.take_length] at T1
    exact ⟨rfl, h h' tk ep o T1 hk⟩
end
/-- a list of pairs, as a dict takes them -/
def asPairs : List D → Option (List (NK × D))
  | [] => some []
  | .k (.tup [x, y]) :: r => (asPairs r).map ((x, .k y) :: ·)
  | .pr x b :: r => (asPairs r).map ((x, .bl b) :: ·)
  | _ :: _ => none
def rDictP3 : List D → Sto → VK3 → Prop := fun ds S Q => a1 ds fun d => asR d fun a => ∃ xs ps, S a = some (.lst xs) ∧ asPairs xs = some ps ∧ (∀ p ∈ ps, p.1.depth ≤ 8) ∧ ∀ p, S p = none → Q (.ref p) (put S p (.dic none (dputs [] ps)))
section
variable {X : Cx} {pins : List (Addr × Obj)} {σ : Sl} {H : Hp} {s : Shared}
theorem pair_at (I : Inv X pins σ H s) {a : Addr} {x y : V} (e : H a = some (.tup [x, y])) : ∃ u v, L2.RelV x u ∧ L2.RelV y v ∧ s.heap.IsTuple a #[u, v] := by
  obtain ⟨us, rv, pl, _⟩ := I.tuple (.of e)
  obtain ⟨u, v, rfl, ru, rw'⟩ := vals2 rv
  exact ⟨u, v, ru, rw', pl⟩
theorem pair_rows (I : Inv X pins σ H s) : ∀ {xs : List D} {ps : List (NK × D)} {vs : List V} {us : List Value}, asPairs xs = some ps → Dens X.K H xs vs → Vals vs us → (∀ p ∈ ps, p.1.depth ≤ 8) →
    ∃ rs : List Row, Paired (Ent X.K H) ps rs ∧ rs.length = us.length ∧ (∀ r ∈ rs, r.1.depth ≤ 8) ∧ ∀ (j : Nat) (r : Row), rs[j]? = some r → ∃ b, us[j]? = some (.ref b) ∧ s.heap.IsTuple b #[r.2.1, r.2.2]
  | [], ps, _, _, e, dn, rv, hd => by
    cases dn
    cases rv
    cases e
    exact ⟨[], .nil, rfl, fun _ h => (nomatch h), fun j r h => by simp at h⟩
  | x :: xs, ps, v :: vs, us, e, .cons dx dn, rv, hd => by
    have step : ∀ (k : NK) (d : D) (ps' : List (NK × D)) (a : Addr) (y z : V), asPairs xs = some ps' → ps = (k, d) :: ps' → v = .ref a → H a = some (.tup [y, z]) → KDen H k y → Den X.K H d z →
        ∃ rs : List Row, Paired (Ent X.K H) ps rs ∧ rs.length = us.length ∧ (∀ r ∈ rs, r.1.depth ≤ 8) ∧ ∀ (j : Nat) (r : Row), rs[j]? = some r → ∃ b, us[j]? = some (.ref b) ∧ s.heap.IsTuple b #[r.2.1, r.2.2] := by
      intro k d ps' a y z ep eps ev ha hk hz
      subst eps ev
      cases rv with
      | @cons _ u _ us' ru rv' =>
        have ru' : u = Value.ref a := ru
        subst ru'
        obtain ⟨rs, pr, hl, hdep, hat⟩ := pair_rows I ep dn rv' fun p hp => hd p (List.mem_cons_of_mem _ hp)
        obtain ⟨u1, u2, r1, r2, it⟩ := pair_at I ha
        refine ⟨(k, u1, u2) :: rs, .cons ⟨rfl, ⟨y, r1, hk⟩, z, r2, hz⟩ pr, by rw [List.length_cons, List.length_cons, hl], fun r hr => ?_, fun j r hj => ?_⟩
        · rcases List.mem_cons.mp hr with rfl | hr
          · exact hd (k, d) List.mem_cons_self
          · exact hdep r hr
        · cases j with
          | zero =>
            cases hj
            exact ⟨a, rfl, it⟩
          | succ j =>
            obtain ⟨b, e1, e2⟩ := hat j r (by simpa using hj)
            exact ⟨b, by simpa using e1, e2⟩
    unfold asPairs at e
    split at e
    · cases ‹_ :: _ = []›
    · rename_i k y r h
      obtain ⟨ps', e1, rfl⟩ := Option.map_eq_some_iff.mp e
      cases h
      obtain ⟨a, x1, y1, ev, ha, h1, h2⟩ := pair_den dx
      exact step k (.k y) ps' a x1 y1 e1 rfl ev ha h1 h2
    · rename_i k b r h
      obtain ⟨ps', e1, rfl⟩ := Option.map_eq_some_iff.mp e
      cases h
      obtain ⟨a, u, ev, ha, h1⟩ := dx
      exact step k (.bl b) ps' a u (.bl b) e1 rfl ev ha h1 rfl
    · cases e
end
section
variable {X : Cx}
theorem c_dictP (hc : X.calm = true) (hu : X.A.units + 64 < cLine) : CallR3 X (.type "dict") rDictP3 := by
  intro pins s σ H vs us Q I r ⟨ds, S, R, as, dn, hr, q⟩
  obtain ⟨d, rfl, h1⟩ := a1_some hr
  obtain ⟨v, rfl, dv⟩ := dens1 dn
  obtain ⟨a, rfl, xs, ps, ha, ep, hd, h2⟩ := asR_some h1
  have dv' : v = V.ref a := dv
  subst dv'
  obtain ⟨u, rfl, ru⟩ := vals1 r
  have ru' : u = Value.ref a := ru
  subst ru'
  obtain ⟨ws, e1, d1⟩ := as a _ ha
  obtain ⟨its, rv, pl, hz⟩ := I.list (.of e1)
  obtain ⟨rs, pr, hl, hdep, hat⟩ := pair_rows I ep d1 rv hd
  obtain ⟨o, n, ho, hcl, hdd, hdat⟩ := pl
  have lw : its.length = ws.length := (Paired.length rv).symm
  refine dict_arg (rs := rs) (PairArg.list (prog := X.prog) (w := X.w) a its.toArray (fun j => match its[j]? with | some (.ref b) => b | _ => 0) (rs.map (·.2))) (I.ok.hd hc) hu ⟨⟨o, n, ho, hcl, hdd, hdat⟩, by simp [hl], fun j k v hj => ?_⟩ (by simp) (fun i k v hr => ?_) (fun r hr => ⟨hdep r hr, fun h' hk => ?_⟩) (by rw [List.length_map, hl, lw]; exact hz) fun h' tk ep' o' T hk => ?_
  · rw [List.getElem?_map, Option.map_eq_some_iff] at hj
    obtain ⟨r, hj, e⟩ := hj
    obtain ⟨b, e1, e2⟩ := hat j r hj
    have e3 : r.2.1 = k ∧ r.2.2 = v := by rw [e]; exact ⟨rfl, rfl⟩
    rw [← e3.1, ← e3.2]
    simp only [e1]
    exact ⟨by simp [e1], .inl e2⟩
  · have hr' : (rs.map (·.2))[i]? = some (k, v) := hr
    rw [List.getElem?_map, Option.map_eq_some_iff] at hr'
    obtain ⟨r, hj, e⟩ := hr'
    exact ⟨r, hj, by rw [e], by rw [e]⟩
  · exact NestedIs.at (fun b ob vs n hb _ => hk b ob (fun h => nomatch h) hb) _ _ (rows_nested I.hok pr r hr)
  · have kept : ∀ b ob, s.heap.get? b = some ob → h'.get? b = some ob := fun b ob e => hk b ob (fun h => nomatch h) e
    have n0 := I.hok.fresh (Nat.le_refl s.heap.objs.size)
    have I3 := I.laid (a := s.heap.objs.size) (o := .ext (dictAt X.w s.heap.objs.size (rputs [] rs))) (t' := tk) kept (Nat.le_refl _) (ext_ok T)
    have lr := rputs_len rs []
    rw [List.length_nil] at lr
    obtain ⟨as2, x2, k2⟩ := as.lay (u := .ext (dictAt X.w s.heap.objs.size (rputs [] rs))) (o := .dic none (dputs [] ps)) n0 (rep_dic (DicOk.ofTab T (sys_ne I) (ents_put (Paired.mapP pr fun _ _ q => q.keep (as.hide n0).2.2) .nil) (by omega)) upd_same)
    exact ⟨.ref s.heap.objs.size, _, I3, rfl, q _ _ (.ref _) _ x2 as2 rfl (h2 _ (as.free n0))⟩
end
end L3
/-! ## L3N -/
/-! zip over any two iterators, collected by dict() or list() -/
namespace L3
open PySem PySem.Spec L2
open PyProof.Rows hiding St

section
variable {prog : Program} {w : World} {A : Around} {E : Value → Shared → Prop} {s : Shared} {z TI TO i1 i2 T : Addr} {f : Bool} {oT : Obj} {fp1 fp2 : List Addr} {n1 n2 i : Nat} {P1 P2 : Nat → Value → Prop} {St1 St2 : Nat → Heap → Prop}
/-- 'next' of a zip whose last tuple is still out -/
theorem held_item {Q : Option Value → Shared → Prop} (S : ZipSep2 z TI TO i1 i2 fp1 fp2) (D1 : Draws prog w A.in1 i1 fp1 n1 P1 St1) (D2 : Draws prog w A.in1 i2 fp2 n2 P2 St2)
    (hz : IsZipHeld s.heap z TI TO T f) (hT : s.heap.get? T = some oT) (hTI : IsTupOf2 s.heap TI (.ref i1) (.ref i2)) (st1 : St1 i s.heap) (st2 : St2 i s.heap) (l1 : i < n1) (l2 : i < n2)
    (hQ : ∀ x1 x2 h' tk, P1 i x1 → P2 i x2 → IsZipHeld h' z TI TO T true → St1 (i + 1) h' → St2 (i + 1) h' → IsTupOf2 h' s.heap.objs.size x1 x2 → h'.objs.size = s.heap.objs.size + 1 →
      (∀ c o, c ≠ z → c ≠ i1 → c ≠ i2 → s.heap.get? c = some o → h'.get? c = some o) → Q (some (.ref s.heap.objs.size)) { s with heap := h', toks := tk }) :
    wpAny (model prog w) A (pyNext (.ref z)) Q E s := by
  obtain ⟨hp, g, d, tk0, os⟩ := s
  have ty : Shared.TypeIs (⟨hp, g, d, tk0, os⟩ : Shared) (.ref z) "zip" := ⟨_, hz, rfl⟩
  unfold pyNext
  refine wpAny_bind (wpAny_attempt (wpAny_callSpecial?_slot (name := Str.ofString "__next__") ty F.slot_zip_next (wpAny_call_entry F.slot_zip_next ty F.entry_zip_next ?_ (F.args_zip_next_1 _))))
  show wpAny _ _ (field (.ref z) 2 >>= _) _ _ _
  refine wpAny_bind (wpAny_field hz rfl (x := .bool false) rfl ?_)
  show wpAny _ _ (field (.ref z) 3 >>= _) _ _ _
  refine wpAny_bind (wpAny_field hz rfl (x := .ref TI) rfl ?_)
  refine wpAny_bind (wpAny_seqItems hTI rfl ?_)
  show wpAny _ _ (Builtin.SmallTypes.ownedTupleIsFree (.ref z) >>= _) _ _ _
  refine wpAny_bind (wpAny_tupleHeld_zip hz hT fun g0 hz0 hs0 => ?_)
  replace hz0 : IsZipHeld g0 z TI TO T true := hz0
  replace hs0 : Heap.SameBut z hp g0 := hs0
  simp only [Bool.false_eq_true, if_false]
  refine wpAny_bind ?_
  rw [← Array.forIn_toList]
  simp only [List.forIn_cons, List.forIn_nil]
  refine wpAny_bind (wpAny_bind (wpAny_holding ?_))
  show wpAny _ _ (Builtin.SmallTypes.nextOf (.ref i1) >>= _) _ _ ⟨g0, g, d, tk0, os⟩
  refine wpAny_bind (D1.item i _ _ _ l1 (D1.over st1 hs0 S.zf1) fun x1 p1 tk1 hx1 sn1 hp1 => wpAny_pure ?_)
  replace hp1 : Heap.SameBut i1 g0 p1 := hp1
  refine wpAny_pure ?_
  refine wpAny_bind (wpAny_bind (wpAny_holding ?_))
  show wpAny _ _ (Builtin.SmallTypes.nextOf (.ref i2) >>= _) _ _ ⟨p1, g, d, tk1, os⟩
  refine wpAny_bind (D2.item i _ _ _ l2 (D2.over (D2.over st2 hs0 S.zf2) hp1 S.sep1_2) fun x2 p2 tk2 hx2 sn2 hp2 => wpAny_pure ?_)
  replace hp2 : Heap.SameBut i2 p1 p2 := hp2
  refine wpAny_pure (wpAny_pure ?_)
  show wpAny _ _ (newTuple [x1, x2] >>= _) _ _ ⟨p2, g, d, tk2, os⟩
  refine wpAny_bind (wpAny_newTuple ?_)
  have sz : p2.objs.size = hp.objs.size := by rw [hp2.1, hp1.1, hs0.1]
  have zz : IsZipHeld p2 z TI TO T true := hp2.extBut _ _ S.zi2 (hp1.extBut _ _ S.zi1 hz0)
  have kk : ∀ c o, c ≠ z → c ≠ i1 → c ≠ i2 → hp.get? c = some o → p2.get? c = some o := fun c o c1 c2 c3 e => hp2.extBut _ _ c3 (hp1.extBut _ _ c2 (hs0.extBut _ _ c1 e))
  have j1 : St1 (i + 1) p2 := D1.over sn1 hp2 S.sep2_1
  refine wpAny_pure ⟨_, rfl, wpAny_pure ?_⟩
  have hp' : IsTupOf2 (p2.push { cls := .type "tuple", data := .seq #[x1, x2] }) p2.objs.size x1 x2 := Heap.get?_push_size _ rfl
  have sz' : (p2.push { cls := .type "tuple", data := .seq #[x1, x2] }).objs.size = p2.objs.size + 1 := Heap.size_push ..
  show Q (some (.ref p2.objs.size)) _
  rw [sz] at hp' sz' ⊢
  exact hQ x1 x2 _ tk2 hx1 hx2 (Heap.get?_push_of_some _ zz) (D1.frame _ _ _ j1 fun b _ o e => Heap.get?_push_of_some _ e) (D2.frame _ _ _ sn2 fun b _ o e => Heap.get?_push_of_some _ e) hp' sz' fun c o c1 c2 c3 e => Heap.get?_push_of_some _ (kk c o c1 c2 c3 e)
theorem held_end {Q : Option Value → Shared → Prop} (S : ZipSep2 z TI TO i1 i2 fp1 fp2) (D1 : Draws prog w A.in1 i1 fp1 n1 P1 St1) (D2 : Draws prog w A.in1 i2 fp2 n2 P2 St2)
    (hz : IsZipHeld s.heap z TI TO T f) (hT : s.heap.get? T = some oT) (hTI : IsTupOf2 s.heap TI (.ref i1) (.ref i2)) (st1 : St1 i s.heap) (st2 : St2 i s.heap) (l1 : i ≤ n1) (l2 : i ≤ n2) (he : i = n1 ∨ i = n2)
    (hQ : ∀ h' tk, (∀ c o, c ≠ z → c ≠ i1 → c ≠ i2 → s.heap.get? c = some o → h'.get? c = some o) → Q none { s with heap := h', toks := tk }) :
    wpAny (model prog w) A (pyNext (.ref z)) Q E s := by
  obtain ⟨hp, g, d, tk0, os⟩ := s
  have ty : Shared.TypeIs (⟨hp, g, d, tk0, os⟩ : Shared) (.ref z) "zip" := ⟨_, hz, rfl⟩
  unfold pyNext
  refine wpAny_bind (wpAny_attempt (wpAny_callSpecial?_slot (name := Str.ofString "__next__") ty F.slot_zip_next (wpAny_call_entry F.slot_zip_next ty F.entry_zip_next ?_ (F.args_zip_next_1 _))))
  show wpAny _ _ (field (.ref z) 2 >>= _) _ _ _
  refine wpAny_bind (wpAny_field hz rfl (x := .bool false) rfl ?_)
  show wpAny _ _ (field (.ref z) 3 >>= _) _ _ _
  refine wpAny_bind (wpAny_field hz rfl (x := .ref TI) rfl ?_)
  refine wpAny_bind (wpAny_seqItems hTI rfl ?_)
  show wpAny _ _ (Builtin.SmallTypes.ownedTupleIsFree (.ref z) >>= _) _ _ _
  refine wpAny_bind (wpAny_tupleHeld_zip hz hT fun g0 hz0 hs0 => ?_)
  replace hs0 : Heap.SameBut z hp g0 := hs0
  simp only [Bool.false_eq_true, if_false]
  refine wpAny_bind ?_
  rw [← Array.forIn_toList]
  simp only [List.forIn_cons, List.forIn_nil]
  refine wpAny_bind (wpAny_bind (wpAny_holding ?_))
  show wpAny _ _ (Builtin.SmallTypes.nextOf (.ref i1) >>= _) _ _ ⟨g0, g, d, tk0, os⟩
  by_cases c1 : i < n1
  · refine wpAny_bind (D1.item i _ _ _ c1 (D1.over st1 hs0 S.zf1) fun x1 p1 tk1 hx1 sn1 hp1 => wpAny_pure ?_)
    replace hp1 : Heap.SameBut i1 g0 p1 := hp1
    refine wpAny_pure ?_
    refine wpAny_bind (wpAny_bind (wpAny_holding ?_))
    show wpAny _ _ (Builtin.SmallTypes.nextOf (.ref i2) >>= _) _ _ ⟨p1, g, d, tk1, os⟩
    have e2 : i = n2 := by omega
    refine wpAny_bind (D2.done ⟨p1, g, d, tk1, os⟩ _ _ (by rw [← e2]; exact D2.over (D2.over st2 hs0 S.zf2) hp1 S.sep1_2) fun p2 e hp2 ⟨o, ho, hc⟩ => ?_)
    replace hp2 : Heap.ExtBut i2 p1 p2 := hp2
    refine wpAny_bind (wpAny_isInstance (T := "StopIteration") (b := true) ⟨o, ho, hc⟩ isSubtype_stop (wpAny_pure ?_))
    exact hQ p2 tk1 fun c o d1 d2 d3 x => hp2 _ _ d3 (hp1.extBut _ _ d2 (hs0.extBut _ _ d1 x))
  · have e1 : i = n1 := by omega
    refine wpAny_bind (D1.done ⟨g0, g, d, tk0, os⟩ _ _ (by rw [← e1]; exact D1.over st1 hs0 S.zf1) fun p1 e hp1 ⟨o, ho, hc⟩ => ?_)
    replace hp1 : Heap.ExtBut i1 g0 p1 := hp1
    refine wpAny_bind (wpAny_isInstance (T := "StopIteration") (b := true) ⟨o, ho, hc⟩ isSubtype_stop (wpAny_pure ?_))
    exact hQ p1 tk0 fun c o d1 d2 d3 x => hp1 _ _ d2 (hs0.extBut _ _ d1 x)

/-- the state of a zip whose pairs are kept -/
def ZSt (z TI TO i1 i2 d : Addr) (St1 St2 : Nat → Heap → Prop) (i : Nat) (h : Heap) : Prop :=
  IsTupOf2 h TI (.ref i1) (.ref i2) ∧ St1 i h ∧ St2 i h ∧ ((IsZip h z TI TO .none ∧ ∃ a b, IsTupOf2 h TO a b) ∨ ∃ T f oT, IsZipHeld h z TI TO T f ∧ h.get? T = some oT ∧ T ≠ z ∧ T ≠ i1 ∧ T ≠ i2 ∧ T ≠ d)
variable {d : Addr}
theorem ZSt.frame (D1 : Draws prog w A i1 fp1 n1 P1 St1) (D2 : Draws prog w A i2 fp2 n2 P2 St2) (d1 : d ∉ fp1) (d2 : d ∉ fp2) (dz : d ≠ z) (dI : d ≠ TI) (dO : d ≠ TO) {h h' : Heap} (st : ZSt z TI TO i1 i2 d St1 St2 i h) (k : ∀ b o, b ≠ d → h.get? b = some o → h'.get? b = some o) : ZSt z TI TO i1 i2 d St1 St2 i h' := by
  obtain ⟨a, s1, s2, hz⟩ := st
  refine ⟨k _ _ (Ne.symm dI) a, D1.frame _ _ _ s1 fun b hb o e => k _ _ (fun x => d1 (x ▸ hb)) e, D2.frame _ _ _ s2 fun b hb o e => k _ _ (fun x => d2 (x ▸ hb)) e, ?_⟩
  rcases hz with ⟨hz, x, y, hO⟩ | ⟨T, f, oT, hz, hT, r1, r2, r3, r4⟩
  · exact .inl ⟨k _ _ (Ne.symm dz) hz, x, y, k _ _ (Ne.symm dO) hO⟩
  · exact .inr ⟨T, f, oT, k _ _ (Ne.symm dz) hz, k _ _ r4 hT, r1, r2, r3, r4⟩
theorem ZSt.item {Q : Option Value → Shared → Prop} (S : ZipSep2 z TI TO i1 i2 fp1 fp2) (D1 : Draws prog w A.in1 i1 fp1 n1 P1 St1) (D2 : Draws prog w A.in1 i2 fp2 n2 P2 St2) (st : ZSt z TI TO i1 i2 d St1 St2 i s.heap) (l1 : i < n1) (l2 : i < n2) (hd : d < s.heap.objs.size)
    (hQ : ∀ x1 x2 h' tk, P1 i x1 → P2 i x2 → ZSt z TI TO i1 i2 d St1 St2 (i + 1) h' → IsTupOf2 h' s.heap.objs.size x1 x2 → h'.objs.size = s.heap.objs.size + 1 → KeptBut [z, TO, i1, i2] s.heap h' → Q (some (.ref s.heap.objs.size)) { s with heap := h', toks := tk }) :
    wpAny (model prog w) A (pyNext (.ref z)) Q E s := by
  obtain ⟨a, s1, s2, hz⟩ := st
  have nz : ∀ {c o}, s.heap.get? c = some o → s.heap.objs.size ≠ c := fun e => Nat.ne_of_gt (Heap.lt_size e)
  obtain ⟨_, g1⟩ := D1.live _ _ s1
  obtain ⟨_, g2⟩ := D2.live _ _ s2
  rcases hz with ⟨hz, x, y, hO⟩ | ⟨T, f, oT, hz, hT, r1, r2, r3, r4⟩
  · refine wpAny_pyNext_zipD2_item S D1 D2 hz a hO s1 s2 l1 l2 fun x1 x2 h' tk q1 q2 b1 b2 t1 t2 b5 b6 b7 => ?_
    refine hQ x1 x2 h' tk q1 q2 ⟨b7 _ _ S.TIz S.TITO S.TIi1 S.TIi2 a, t1, t2, .inr ⟨s.heap.objs.size, false, _, b1, b5, nz hz, nz g1, nz g2, Nat.ne_of_gt hd⟩⟩ b5 b6 fun c o hc e => b7 c o (fun x => hc (by simp [x])) (fun x => hc (by simp [x])) (fun x => hc (by simp [x])) (fun x => hc (by simp [x])) e
  · refine held_item S D1 D2 hz hT a s1 s2 l1 l2 fun x1 x2 h' tk q1 q2 b1 t1 t2 b5 b6 b7 => ?_
    exact hQ x1 x2 h' tk q1 q2 ⟨b7 _ _ S.TIz S.TIi1 S.TIi2 a, t1, t2, .inr ⟨T, true, oT, b1, b7 _ _ r1 r2 r3 hT, r1, r2, r3, r4⟩⟩ b5 b6 fun c o hc e => b7 c o (fun x => hc (by simp [x])) (fun x => hc (by simp [x])) (fun x => hc (by simp [x])) e
theorem ZSt.done {Q : Option Value → Shared → Prop} (S : ZipSep2 z TI TO i1 i2 fp1 fp2) (D1 : Draws prog w A.in1 i1 fp1 n1 P1 St1) (D2 : Draws prog w A.in1 i2 fp2 n2 P2 St2) (st : ZSt z TI TO i1 i2 d St1 St2 (min n1 n2) s.heap)
    (hQ : ∀ h' tk, KeptBut [z, TO, i1, i2] s.heap h' → Q none { s with heap := h', toks := tk }) : wpAny (model prog w) A (pyNext (.ref z)) Q E s := by
  obtain ⟨a, s1, s2, hz⟩ := st
  have e : min n1 n2 = n1 ∨ min n1 n2 = n2 := by omega
  rcases hz with ⟨hz, x, y, hO⟩ | ⟨T, f, oT, hz, hT, r1, r2, r3, r4⟩
  · exact wpAny_pyNext_zipD2_end S D1 D2 hz a hO s1 s2 (Nat.min_le_left ..) (Nat.min_le_right ..) e fun h' tk b7 => hQ h' tk fun c o hc e => b7 c o (fun x => hc (by simp [x])) (fun x => hc (by simp [x])) (fun x => hc (by simp [x])) (fun x => hc (by simp [x])) e
  · exact held_end S D1 D2 hz hT a s1 s2 (Nat.min_le_left ..) (Nat.min_le_right ..) e fun h' tk b7 => hQ h' tk fun c o hc e => b7 c o (fun x => hc (by simp [x])) (fun x => hc (by simp [x])) (fun x => hc (by simp [x])) e
end
end L3
/-! ## L3O -/
/-! list(zip(..)), dict(zip(..)), list(dict) -/
namespace L3
open PySem PySem.Spec L2
open PyProof.Rows hiding St

theorem zip_no_len : typeLookup (.type "zip") "__len__" = pure none := am_miss_of_fast (by decide +kernel)
theorem zip_no_hint : typeLookup (.type "zip") "__length_hint__" = pure none := am_miss_of_fast (by decide +kernel)
structure Out (P1 P2 : Nat → Value → Prop) (lo : Nat) (h : Heap) (as : List Addr) : Prop where
  nod : as.Nodup
  lo : ∀ b ∈ as, lo ≤ b
  at_ : ∀ (j : Nat) (b : Addr), as[j]? = some b → ∃ x y, P1 j x ∧ P2 j y ∧ IsTupOf2 h b x y
section
variable {P1 P2 : Nat → Value → Prop} {lo : Nat} {h h' : Heap} {as : List Addr}
theorem Out.lt (g : Out P1 P2 lo h as) : ∀ b ∈ as, b < h.objs.size := fun b hb => by
  obtain ⟨j, hj⟩ := List.mem_iff_getElem?.mp hb
  obtain ⟨_, _, _, _, e⟩ := g.at_ j b hj
  exact Heap.lt_size e
theorem Out.keep (g : Out P1 P2 lo h as) (k : ∀ b ∈ as, ∀ o, h.get? b = some o → h'.get? b = some o) : Out P1 P2 lo h' as :=
  ⟨g.nod, g.lo, fun j b hj => let ⟨x, y, p, q, e⟩ := g.at_ j b hj; ⟨x, y, p, q, k b (List.mem_of_getElem? hj) _ e⟩⟩
theorem Out.snoc (g : Out P1 P2 lo h as) (k : ∀ b ∈ as, ∀ o, h.get? b = some o → h'.get? b = some o) (hl : lo ≤ h.objs.size) {x y : Value} (p : P1 as.length x) (q : P2 as.length y) (e : IsTupOf2 h' h.objs.size x y) : Out P1 P2 lo h' (as ++ [h.objs.size]) := by
  refine ⟨?_, fun b hb => ?_, fun j b hj => ?_⟩
  · rw [List.nodup_append]
    refine ⟨g.nod, by simp, fun a ha b hb => ?_⟩
    rw [List.mem_singleton.mp hb]
    exact Nat.ne_of_lt (g.lt a ha)
  · rcases List.mem_append.mp hb with hb | hb
    · exact g.lo b hb
    · rw [List.mem_singleton.mp hb]; exact hl
  · rw [List.getElem?_append] at hj
    split at hj
    · obtain ⟨x', y', p', q', e'⟩ := g.at_ j b hj
      exact ⟨x', y', p', q', k b (List.mem_of_getElem? hj) _ e'⟩
    · rename_i hn
      have : j - as.length = 0 := by
        cases q : j - as.length with
        | zero => rfl
        | succ m => rw [q] at hj; simp at hj
      rw [this] at hj
      cases hj
      have ej : j = as.length := by omega
      subst ej
      exact ⟨x, y, p, q, e⟩
end
section
variable {prog : Program} {w : World} {A : Around} {R : Result → Shared → Prop} {z TI TO i1 i2 S : Addr} {fp1 fp2 : List Addr} {n1 n2 : Nat} {P1 P2 : Nat → Value → Prop} {St1 St2 : Nat → Heap → Prop}
/-- the loop of list.extend over a zip -/
theorem zloop (Z : ZipSep2 z TI TO i1 i2 fp1 fp2) (D1 : Draws prog w A.in1.in1 i1 fp1 n1 P1 St1) (D2 : Draws prog w A.in1.in1 i2 fp2 n2 P2 St2) (s1 : S ∉ fp1) (s2 : S ∉ fp2) (sz : S ≠ z) (sI : S ≠ TI) (sO : S ≠ TO) (low : ∀ b ∈ [z, TO, i1, i2], b < S) (hn : n1 ≤ sizeLine) (res : Value) :
    ∀ (k i : Nat) (s : Shared) (as : List Addr) (c : Nat), min n1 n2 - i = k → i ≤ min n1 n2 → ZSt z TI TO i1 i2 S St1 St2 i s.heap → s.heap.get? S = some { cls := .type "list", dict := none, data := .seq (as.map Value.ref).toArray c, slots := #[] } → as.length = i → Out P1 P2 (S + 1) s.heap as →
      (∀ h' tk as' c', as'.length = min n1 n2 → Out P1 P2 (S + 1) h' as' → h'.get? S = some { cls := .type "list", dict := none, data := .seq (as'.map Value.ref).toArray c', slots := #[] } → KeptBut (S :: [z, TO, i1, i2]) s.heap h' → R (.ok (.ret res)) { s with heap := h', toks := tk }) →
      codeAny (model prog w) A (.builtin "list.extend.loop" ⟨[.ref S, .ref z, res], []⟩) R s := by
  have sw : S ∉ [z, TO, i1, i2] := fun h => Nat.lt_irrefl _ (low S h)
  intro k
  induction k with
  | zero =>
    intro i s as c hk hi st hS hl g hR
    have e : i = min n1 n2 := by omega
    subst e
    refine codeAny_builtin F.entry_extend_loop ?_
    rw [Around.under_plainId F.plain_extend_loop _]
    show wpAny _ A.in1 (pyNext (.ref z) >>= _) _ _ s
    refine wpAny_bind (ZSt.done Z D1 D2 st fun h' tk kp => wpAny_pure ?_)
    exact hR h' tk as c hl (g.keep fun b hb o e => kp b o (fun x => absurd (low b x) (Nat.not_lt_of_le (Nat.le_of_succ_le (g.lo b hb)))) e) (kp S _ sw hS) fun b o hb e => kp b o (fun x => hb (List.mem_cons_of_mem _ x)) e
  | succ k ih =>
    intro i s as c hk hi st hS hl g hR
    refine codeAny_builtin F.entry_extend_loop ?_
    rw [Around.under_plainId F.plain_extend_loop _]
    show wpAny _ A.in1 (pyNext (.ref z) >>= _) _ _ s
    have lS : S < s.heap.objs.size := Heap.lt_size hS
    refine wpAny_bind (ZSt.item Z D1 D2 st (by omega) (by omega) lS fun x1 x2 h' tk p1 p2 st' t hz kp => ?_)
    have hS' := kp S _ sw hS
    show wpAny _ A.in1 (updateSeq S (·.push (.ref s.heap.objs.size)) >>= _) _ _ _
    have out : ∀ b ∈ as, b ∉ [z, TO, i1, i2] := fun b hb x => absurd (low b x) (Nat.not_lt_of_le (Nat.le_of_succ_le (g.lo b hb)))
    have g1 : Out P1 P2 (S + 1) h' (as ++ [s.heap.objs.size]) := g.snoc (fun b hb o e => kp b o (out b hb) e) lS (by rw [hl]; exact p1) (by rw [hl]; exact p2) t
    refine wpAny_bind (wpAny_updateSeq hS' rfl (wpAny_pure ⟨plainId_quiet F.plain_extend_loop _, ih (i + 1) _ (as ++ [s.heap.objs.size]) _ (by omega) (by omega) (ZSt.frame D1 D2 s1 s2 sz sI sO st' fun b o hb e => (Heap.get?_update_other _ _ (Ne.symm hb)).trans e) (by rw [show ((as ++ [s.heap.objs.size]).map Value.ref).toArray = (as.map Value.ref).toArray.push (.ref s.heap.objs.size) by simp]; exact Heap.get?_update_self _ hS' rfl) (by simp [hl]) (g1.keep fun b hb o e => (Heap.get?_update_other _ _ (Nat.ne_of_lt (g1.lo b hb))).trans e) fun h'' tk'' as' c' a1 a2 a3 a4 => ?_⟩) (by simp; omega) (by simp; omega))
    refine hR h'' tk'' as' c' a1 a2 a3 fun b o hb e => a4 b o hb ?_
    exact (Heap.get?_update_other _ _ (fun x : S = b => hb (by rw [x]; exact List.mem_cons_self))).trans (kp b o (fun x => hb (List.mem_cons_of_mem _ x)) e)
theorem list_zip {E : Value → Shared → Prop} {s : Shared} {Q : Value → Shared → Prop} (Z : ZipSep2 z TI TO i1 i2 fp1 fp2) (D1 : ∀ A : Around, A.handled = none → Draws prog w A i1 fp1 n1 P1 St1) (D2 : ∀ A : Around, A.handled = none → Draws prog w A i2 fp2 n2 P2 St2) (hh : A.handled = none)
    (hz : IsZip s.heap z TI TO .none) (hTI : IsTupOf2 s.heap TI (.ref i1) (.ref i2)) {y1 y2 : Value} (hTO : IsTupOf2 s.heap TO y1 y2) (st1 : St1 0 s.heap) (st2 : St2 0 s.heap) (b1 : ∀ b ∈ fp1, b < s.heap.objs.size) (b2 : ∀ b ∈ fp2, b < s.heap.objs.size) (hn : n1 ≤ sizeLine)
    (hQ : ∀ h' tk as c, as.length = min n1 n2 → Out P1 P2 (s.heap.objs.size + 1) h' as → h'.get? s.heap.objs.size = some { cls := .type "list", dict := none, data := .seq (as.map Value.ref).toArray c, slots := #[] } → KeptBut [z, TO, i1, i2] s.heap h' → Q (.ref s.heap.objs.size) { s with heap := h', toks := tk }) :
    wpAny (model prog w) A (call (.type "list") [.ref z]) Q E s := by
  refine callType_codes (Q₁ := fun obj s₁ => obj = .ref s.heap.objs.size ∧ s₁ = { s with heap := s.heap.push { cls := .type "list", data := .seq #[] } }) F.called_list (F.typeCall_list_1 _) F.entry_list_init (code_list_new _ ⟨rfl, rfl⟩) fun obj s₁ h₁ => ?_
  obtain ⟨rfl, rfl⟩ := h₁
  have hS : (s.heap.push { cls := .type "list", data := .seq #[] }).get? s.heap.objs.size = some { cls := .type "list", data := .seq #[] } := Heap.get?_push_size _ rfl
  have zl : z < s.heap.objs.size := Heap.lt_size hz
  refine ⟨⟨_, hS, rfl⟩, F.args_list_init_2 _ _, ?_⟩
  generalize hSe : s.heap.objs.size = S at hS zl b1 b2 hQ
  have k0 : ∀ b o, s.heap.get? b = some o → (s.heap.push { cls := .type "list", data := .seq #[] }).get? b = some o := fun b o e => Heap.get?_push_of_some _ e
  have neS : ∀ {b o}, s.heap.get? b = some o → b ≠ S := fun e => by rw [← hSe]; exact Nat.ne_of_lt (Heap.lt_size e)
  have ltS : ∀ {b o}, s.heap.get? b = some o → b < S := fun e => by rw [← hSe]; exact Heap.lt_size e
  generalize hp0 : s.heap.push { cls := .type "list", data := .seq #[] } = p0 at hS k0
  show wpAny _ _ (do let old ← Builtin.List.listItems (.ref S); Builtin.List.listUpdate (.ref S) (fun _ => #[]); letGo old.toList.reverse; Builtin.List.listExtendWith (.ref S) (.ref z) .none) _ _ { s with heap := p0 }
  refine wpAny_bind ?_
  unfold Builtin.List.listItems
  refine wpAny_bind (wpAny_seqItems (s := { s with heap := p0 }) hS rfl (wpAny_pure ?_))
  show wpAny _ _ (updateSeq S (fun _ => #[]) >>= fun _ => letGo (#[] : Array Value).toList.reverse >>= fun _ => Builtin.List.listExtendWith (.ref S) (.ref z) .none) _ _ { s with heap := p0 }
  refine wpAny_bind (wpAny_updateSeq (s := { s with heap := p0 }) hS rfl ?_)
  have hS2 := Heap.get?_update_self (Obj.mapSeq (fun _ => (#[] : Array Value))) hS rfl
  refine wpAny_bind (wpAny_letGo ?_)
  have k1 : ∀ b o, s.heap.get? b = some o → (p0.update S (Obj.mapSeq (fun _ => (#[] : Array Value)))).get? b = some o := fun b o e => (Heap.get?_update_other _ _ (Ne.symm (neS e))).trans (k0 b o e)
  show wpAny _ _ (Builtin.List.listExtendWith (.ref S) (.ref z) .none) _ _ { s with heap := p0.update S (Obj.mapSeq (fun _ => (#[] : Array Value))) }
  generalize hp1 : p0.update S (Obj.mapSeq (fun _ => (#[] : Array Value))) = p1 at hS2 k1
  have hz1 : IsZip p1 z TI TO .none := k1 _ _ hz
  have ty : Shared.TypeIs { s with heap := p1 } (.ref z) "zip" := ⟨_, hz1, rfl⟩
  unfold Builtin.List.listExtendWith
  refine wpAny_bind (wpAny_typeOf (T := "zip") ty ?_)
  have e1 : Builtin.List.listSameRef (.ref S) (.ref z) = false := by simp [Builtin.List.listSameRef, Nat.ne_of_gt zl]
  have e2 : (Value.type "zip" == Value.type "list") = false := by decide
  have e3 : (Value.type "zip" == Value.type "tuple") = false := by decide
  simp only [e1, e2, e3, Bool.or_false, Bool.false_eq_true, if_false]
  refine wpAny_bind (wpAny_pyIter_zip (s := { s with heap := p1 }) hz1 ?_)
  refine wpAny_bind (wpAny_holding ?_)
  unfold Builtin.List.listLengthHint
  refine wpAny_bind (wpAny_specialOf ty zip_no_len ?_)
  show wpAny _ _ (specialOf (Value.ref z) (Str.ofString "__length_hint__") >>= _) _ _ _
  refine wpAny_bind (wpAny_specialOf ty zip_no_hint ?_)
  refine wpAny_pure ?_
  show wpAny _ _ (rule "list.extend.makes-room" >>= fun _ => Builtin.List.listTouch (.ref S) >>= fun _ => again (.builtin "list.extend.loop" ⟨[.ref S, .ref z, .none], []⟩)) _ _ _
  refine wpAny_bind (wpAny_rule ?_)
  refine wpAny_bind ?_
  show wpAny _ _ (updateSeq S (·.push .none) >>= fun _ => updateSeq S (·.pop)) _ _ _
  refine wpAny_bind (wpAny_updateSeq (s := { s with heap := p1 }) hS2 rfl ?_)
  have hS3 := Heap.get?_update_self (Obj.mapSeq (·.push Value.none)) hS2 rfl
  refine wpAny_updateSeq (s := { s with heap := p1.update S (Obj.mapSeq (·.push Value.none)) }) hS3 rfl ?_
  have hS4 := Heap.get?_update_self (Obj.mapSeq (·.pop)) hS3 rfl
  have k2 : ∀ b o, s.heap.get? b = some o → ((p1.update S (Obj.mapSeq (·.push Value.none))).update S (Obj.mapSeq (·.pop))).get? b = some o := fun b o e => (Heap.get?_update_other _ _ (Ne.symm (neS e))).trans ((Heap.get?_update_other _ _ (Ne.symm (neS e))).trans (k1 b o e))
  have nf1 : S ∉ fp1 := fun h => Nat.lt_irrefl _ (b1 S h)
  have nf2 : S ∉ fp2 := fun h => Nat.lt_irrefl _ (b2 S h)
  refine wpAny_pure ⟨plainId_quiet F.plain_extend_loop _, zloop (A := A.in1) Z (D1 _ hh) (D2 _ hh) nf1 nf2 (Nat.ne_of_gt zl) (Ne.symm (neS hTI)) (Ne.symm (neS hTO)) (fun b hb => ?_) hn .none (min n1 n2) 0 _ [] _ (Nat.sub_zero _) (Nat.zero_le _) ⟨k2 _ _ hTI, (D1 _ hh : Draws prog w A _ _ _ _ _).frame _ _ _ st1 fun b _ o e => k2 b o e, (D2 _ hh : Draws prog w A _ _ _ _ _).frame _ _ _ st2 fun b _ o e => k2 b o e, .inl ⟨k2 _ _ hz, y1, y2, k2 _ _ hTO⟩⟩ hS4 rfl ⟨List.nodup_nil, fun b hb => (nomatch hb), fun j b h => by simp at h⟩ fun h' tk as c a1 a2 a3 a4 => ⟨rfl, ?_⟩⟩
  · simp only [List.mem_cons, List.not_mem_nil, or_false] at hb
    rcases hb with rfl | rfl | rfl | rfl
    · exact zl
    · exact ltS hTO
    · exact b1 _ Z.mem1
    · exact b2 _ Z.mem2
  · exact hQ h' tk as c a1 a2 a3 fun b o hb e => a4 b o (fun x => by rcases List.mem_cons.mp x with x | x; exact neS e x; exact hb x) (k2 b o e)
end
end L3
/-! ## L3P -/
/-! list(zip(..)), dict(zip(..)) as calls; list(dict) -/
namespace L3
open PySem PySem.Spec L2
open PyProof.Rows hiding St

section
variable {X : Cx} {pins : List (Addr × Obj)} {σ : Sl} {H : Hp} {s : Shared}
/-- new pairs are tracked -/
theorem take_pairs {H0 : Hp} {h' : Heap} {tk : Nat} (I0 : Inv X pins σ H0 s) : ∀ (L : List (Addr × V × V)) (H1 : Hp), Inv X pins σ H1 { s with heap := h', toks := tk } → (L.map (·.1)).Nodup →
    (∀ e ∈ L, s.heap.objs.size ≤ e.1 ∧ H1 e.1 = none ∧ ∀ H2, ObjOk X.prog X.w H2 h' e.1 (.tup [e.2.1, e.2.2])) →
    ∃ H2, Inv X pins σ H2 { s with heap := h', toks := tk } ∧ (∀ b o, H1 b = some o → H2 b = some o) ∧ (∀ e ∈ L, H2 e.1 = some (.tup [e.2.1, e.2.2])) ∧ ∀ b, b ∉ L.map (·.1) → H2 b = H1 b
  | [], H1, I1, _, _ => ⟨H1, I1, fun _ _ e => e, fun _ h => (nomatch h), fun _ _ => rfl⟩
  | a :: L, H1, I1, hn, h => by
    obtain ⟨hb, hnone, ok⟩ := h a List.mem_cons_self
    have I2 : Inv X pins σ (upd H1 a.1 (.tup [a.2.1, a.2.2])) { s with heap := h', toks := tk } := I1.take (h' := h') (t' := tk) (fun b ob _ e => e) (I0.fpOk hb hnone) (ok _)
    rw [List.map_cons, List.nodup_cons] at hn
    obtain ⟨H2, I3, g, q, r⟩ := take_pairs I0 L (upd H1 a.1 (.tup [a.2.1, a.2.2])) I2 hn.2 fun c hc => by
      obtain ⟨c1, c2, c3⟩ := h c (List.mem_cons_of_mem _ hc)
      exact ⟨c1, by rw [upd_ne (fun z => hn.1 (by rw [← z]; exact List.mem_map_of_mem hc))]; exact c2, c3⟩
    refine ⟨H2, I3, fun b o e => g b o (by rw [upd_ne (ne_of_none e hnone)]; exact e), fun c hc => ?_, fun b hb' => ?_⟩
    · rcases List.mem_cons.mp hc with rfl | hc
      · exact g _ _ upd_same
      · exact q c hc
    · rw [List.map_cons, List.mem_cons, not_or] at hb'
      rw [r b hb'.2, upd_ne hb'.1]
end
theorem AbsS.more {K : PySem.W.Frag} {w : World} {H H2 : Hp} {S : Sto} (h : AbsS K w H S) (k : ∀ b o, H b = some o → H2 b = some o) : AbsS K w H2 S ∧ Ext S H S H2 ∧ Keeps H H2 := by
  have kk : Keeps H H2 := ⟨fun a xs e => k _ _ e, fun a o xs e => k _ _ e⟩
  refine ⟨fun a o e => ?_, fun a o e n => ⟨k _ _ e, n⟩, kk⟩
  obtain ⟨u, hu⟩ := (h a o e).some
  exact (h a o e).keep kk ((k _ _ hu).trans hu.symm)

theorem lt_add5 {c N : Nat} (k : Nat) (h : c ≤ N + k) (hk : k < 5) : c < N + 5 := by omega
theorem gt_add {b N : Nat} (k : Nat) (h : b < N) : b ≠ N + k := by omega
/-- T(zip(a, b)) -/
abbrev CallZ (X : Cx) (T : String) (r : List V → Hp → VK → Prop) : Prop := ∀ pins s σ H vs us Q, Inv X pins σ H s → Vals vs us → r vs H Q →
  wpAny (model X.prog X.w) X.A (call (.type "zip") us) (fun z s1 => wpAny (model X.prog X.w) X.A (call (.type T) [z]) (EP X pins σ Q) X.xe s1) X.xe s
section
variable {X : Cx} {T : String} {r3 : List D → Sto → VK3 → Prop} {t : TA3} {e e2 : Expr} {x : Str} {p p2 pos pos2 : Pos}
theorem pnest3 (hc : CallZ X T (upL X.K X.w r3)) (hv : bootBuiltins x = some (.type T)) (hg : Gl X x) (hm : X.mg x = none) (hgz : Gl X "zip") (hmz : X.mg "zip" = none) (ha : PA3 X [e, e2] t) (hn : x ≠ "__name__" := by decide) (hdb : (x == ("__debug__" : Str)) = false := by decide)
    (ho : starEach [.Call (.Name "zip" p2) [e, e2] [] pos2] X.env = [(false, eval (.Call (.Name "zip" p2) [e, e2] [] pos2) X.env)] := by rfl)
    (he : starEach [e, e2] X.env = (false, eval e X.env) :: starEach [e2] X.env := by rfl) (hpl : (backTo pos2 (starEach [e2] X.env)).any (·.1) = false := by rfl) :
    PE3 X (.Call (.Name x p) [.Call (.Name "zip" p2) [e, e2] [] pos2] [] pos) (tB3 r3 t) := by
  refine PE.imp (t := fun σ H Q => upA X.K X.w t σ H fun vs H1 => upL X.K X.w r3 vs H1 Q) ⟨fun pins s σ H Q I h => ?_⟩ fun σ H Q ⟨σd, S, R, av, as, h, q⟩ => ?_
  · refine wpAny_Call_Name_kw (ld_blt I hg hm hv ?_ hn hdb)
    refine PyProof.Rows.callWith_type1 ?_ ho rfl
    rw [ho]
    refine Calls.spliced_cons (rest := []) ?_
    refine wpAny_Call_Name_kw (ld_blt I hgz hmz PyProof.Rows.boot_zip (PyProof.Rows.callWith_type1 (thn (ha.run pos2 pins s σ H _ I h) fun us s1 ⟨vs, H1, I1, r1, q⟩ => ?_) he hpl))
    exact thn (hc pins s1 σ H1 vs us Q I1 r1 q) fun z s2 h2 => Calls.spliced_nil h2
  · exact seqA av as h fun vs H1 ds S1 x1 k1 av1 as1 dn1 h1 => ⟨ds, S1, R, as1, dn1, h1, fun v' H' d' S' x2 as2 dn2 h2 => q v' H' d' S' (x1.trans x2) as2 dn2 h2⟩
end
def rListZ3 : List D → Sto → VK3 → Prop := fun ds S Q => a2 ds fun d e => match d, e with
  | .ref a, .k (.tup ls) => ∃ ks, S a = some (.lst (List.map D.k ks)) ∧ ∀ p, S p = none → Q (.ref p) (put S p (.lst (zipD ks ls)))
  | _, _ => False
section
variable {X : Cx}
theorem pairs_zip {K : PySem.W.Frag} {H : Hp} : ∀ {ks ls : List NK} {xs ys : List V} {as : List Addr}, Paired (KDen H) ks xs → Paired (KDen H) ls ys → as.length = min xs.length ys.length → (∀ e ∈ as.zip (xs.zip ys), H e.1 = some (.tup [e.2.1, e.2.2])) →
    Dens K H (zipD ks ls) (as.map V.ref)
  | [], ls, _, ys, as, .nil, _, hl, _ => by
    have : as = [] := List.length_eq_zero_iff.mp (by rw [hl]; simp)
    subst this
    exact .nil
  | k :: ks, [], _, _, as, _, .nil, hl, _ => by
    have : as = [] := List.length_eq_zero_iff.mp (by rw [hl]; simp)
    subst this
    exact .nil
  | k :: ks, l :: ls, x :: xs, y :: ys, [], .cons r1 t1, .cons r2 t2, hl, _ => by
    simp only [List.length_cons, List.length_nil] at hl
    omega
  | k :: ks, l :: ls, x :: xs, y :: ys, a :: as, .cons r1 t1, .cons r2 t2, hl, h => by
    have ha := h (a, x, y) (by simp)
    refine .cons ?_ (pairs_zip t1 t2 (by simp only [List.length_cons] at hl; omega) fun e he => h e (by simp only [List.zip_cons_cons]; exact List.mem_cons_of_mem _ he))
    show KDen H (.tup [k, l]) _
    rw [KDen]
    exact ⟨a, _, rfl, ha, KDens.of (.cons r1 (.cons r2 .nil))⟩
theorem c_listZ (hc : X.calm = true) : CallZ X "list" (upL X.K X.w rListZ3) := by
  intro pins s σ H vs us Q I r ⟨ds, S, R, as, dn, hr, q⟩
  unfold rListZ3 at hr
  obtain ⟨d, e, rfl, h1⟩ := a2_some hr
  obtain ⟨v, u, rfl, dv, du⟩ := dens2 dn
  obtain ⟨u1, u2, rfl, ra, rb⟩ := vals2 r
  split at h1
  · rename_i a ls
    obtain ⟨ks, ha, h2⟩ := h1
    have dv' : v = V.ref a := dv
    subst dv'
    have du' : KDen H (.tup ls) u := du
    rw [KDen] at du'
    obtain ⟨b, ys, rfl, hb, hy⟩ := du'
    have ra' : u1 = Value.ref a := ra
    have rb' : u2 = Value.ref b := rb
    subst ra' rb'
    obtain ⟨xs, e1, d1⟩ := as a _ ha
    have px := KDens.paired (nks_den d1 (nks_map ks))
    have py := KDens.paired hy
    obtain ⟨is1, rv1, pl1, z1⟩ := I.list (.of e1)
    obtain ⟨is2, rv2, pl2, z2⟩ := I.tuple (.of hb)
    obtain ⟨o2, g2, _⟩ := id pl2
    have la : a < s.heap.objs.size := pl1.lt
    have lb : b < s.heap.objs.size := Heap.lt_size g2
    have hh := I.ok.hd hc
    refine zip_begins2 (begins_list a is1.toArray) (begins_tuple b is2.toArray) pl1.isList pl2 fun h' k0 k1 k2 k3 k4 hsz kp => ?_
    have Z := zip_sep2 (N := s.heap.objs.size) (fp1 := [a]) (fp2 := [b]) (fun c hc => by rw [List.mem_singleton.mp hc]; exact la) fun c hc => by rw [List.mem_singleton.mp hc]; exact lb
    have ln1 := Paired.length rv1
    have ln2 := Paired.length rv2
    refine list_zip (s := { s with heap := h' }) Z (fun A hA => Draws.list (A := A) hA _ a (Nat.ne_of_lt la) is1.toArray) (fun A hA => Draws.tuple (A := A) hA _ b (Nat.ne_of_lt (Nat.lt_succ_of_lt lb)) is2.toArray) hh k0 k1 k2 ⟨⟨_, k3, rfl, rfl⟩, pl1.isList.at fun o e => kp _ o e⟩ ⟨⟨_, k4, rfl, rfl⟩, Heap.IsTuple.at pl2 fun o e => kp _ o e⟩ (fun c hc => ?_) (fun c hc => ?_) (by simp; omega) fun h'' tk as' c a1 a2 a3 a4 => ?_
    · show c < h'.objs.size
      rw [hsz]
      simp only [List.mem_cons, List.not_mem_nil, or_false] at hc
      rcases hc with rfl | rfl
      · exact lt_add5 0 (Nat.le_refl _) (by decide)
      · exact lt_add5 0 (Nat.le_of_lt la) (by decide)
    · show c < h'.objs.size
      rw [hsz]
      simp only [List.mem_cons, List.not_mem_nil, or_false] at hc
      rcases hc with rfl | rfl
      · exact lt_add5 1 (Nat.le_refl _) (by decide)
      · exact lt_add5 0 (Nat.le_of_lt lb) (by decide)
    · have kept : ∀ b o, s.heap.get? b = some o → h''.get? b = some o := fun b o e => a4 b o (fun x => by
        have lt : b < s.heap.objs.size := Heap.lt_size e
        simp only [List.mem_cons, List.not_mem_nil, or_false] at x
        rcases x with x | x | x | x
        · exact gt_add 4 lt x
        · exact gt_add 3 lt x
        · exact gt_add 0 lt x
        · exact gt_add 1 lt x) (kp b o e)
      have hS : s.heap.objs.size ≤ h'.objs.size := by rw [hsz]; omega
      have I1 : Inv X pins σ H { s with heap := h'', toks := tk } := I.kept kept
      simp only [List.size_toArray] at a1
      have a1' : as'.length = min xs.length ys.length := by rw [ln1, ln2]; exact a1
      -- the pairs
      obtain ⟨H2, I2, g, tp, oth⟩ := take_pairs (h' := h'') (tk := tk) I (as'.zip (xs.zip ys)) H I1 (by
          rw [List.map_fst_zip (by rw [List.length_zip]; omega)]
          exact a2.nod) fun e he => by
        obtain ⟨j, hj⟩ := List.mem_iff_getElem?.mp he
        obtain ⟨j1, j2⟩ := List.getElem?_zip_eq_some.mp hj
        obtain ⟨j3, j4⟩ := List.getElem?_zip_eq_some.mp j2
        have lo := a2.lo e.1 (List.mem_of_getElem? j1)
        have lo' : h'.objs.size + 1 ≤ e.1 := lo
        refine ⟨by omega, I.hok.fresh (by omega), fun H2 => ?_⟩
        obtain ⟨x', y', p1, p2, tt⟩ := a2.at_ j e.1 j1
        obtain ⟨x1, f1, r1⟩ := rv1.get j3
        obtain ⟨y1, f2, r2⟩ := rv2.get j4
        have p1' : is1[j]? = some x' := by simpa using p1
        have p2' : is2[j]? = some y' := by simpa using p2
        rw [p1'] at f1
        rw [p2'] at f2
        cases f1
        cases f2
        exact ⟨by show 2 ≤ sizeLine; decide, [x', y'], .cons r1 (.cons r2 .nil), ⟨_, tt, rfl, _, rfl⟩⟩
      have nS : H h'.objs.size = none := I.hok.fresh hS
      have mS : h'.objs.size ∉ (as'.zip (xs.zip ys)).map (·.1) := by
        rw [List.map_fst_zip (by rw [List.length_zip]; omega)]
        intro hm
        have l : h'.objs.size + 1 ≤ h'.objs.size := a2.lo _ hm
        omega
      have nS2 : H2 h'.objs.size = none := (oth _ mS).trans nS
      have refs : Vals (as'.map V.ref) (as'.map Value.ref) := by
        clear a1 a1' a2 a3 tp oth mS g I2
        induction as' with
        | nil => exact .nil
        | cons a r ih => exact .cons rfl ih
      have I3 : Inv X pins σ (upd H2 h'.objs.size (.lst (as'.map V.ref))) { s with heap := h'', toks := tk } := I2.take (h' := h'') (t' := tk) (fun b ob _ e => e) (I.fpOk hS nS2) ⟨by rw [List.length_map]; omega, as'.map Value.ref, _, refs, a3⟩
      obtain ⟨as2, x2, k2'⟩ := as.more g
      obtain ⟨as3, x3, k3'⟩ := as2.lay (u := .lst (as'.map V.ref)) (o := .lst (zipD ks ls)) nS2 ⟨_, upd_same, Dens.keep (as2.hide nS2).2.2 (pairs_zip (Paired.mapP px fun _ _ q => KDen.keep k2' _ _ q) (Paired.mapP py fun _ _ q => KDen.keep k2' _ _ q) a1' tp)⟩
      exact ⟨.ref h'.objs.size, _, I3, rfl, q _ _ (.ref _) _ (x2.trans x3) as3 rfl (h2 _ (as.free nS))⟩
  · exact h1.elim

/-! ### dict(zip(tuple, tuple)) -/
def rDictZ3 : List D → Sto → VK3 → Prop := fun ds S Q => a2 ds fun d e => match d, e with
  | .k (.tup ks), .k (.tup ls) => (∀ k ∈ ks, k.depth ≤ 8) ∧ ∀ p, S p = none → Q (.ref p) (put S p (.dic none (dputs [] ((ks.zip ls).map fun p => (p.1, D.k p.2)))))
  | _, _ => False
theorem arg_zip {prog : Program} {w : World} {z TI TO i1 i2 a b : Addr} (Z : ZipSep2 z TI TO i1 i2 [i1, a] [i2, b]) (na : a ≠ i1) (nb : b ≠ i2) (xs ys : Array Value) :
    PairArg prog w "zip" z [z, TI, TO, i1, i2, a, b] [z, TO, i1, i2] (min xs.size ys.size) (fun i k v => xs[i]? = some k ∧ ys[i]? = some v)
      (fun h => IsZip h z TI TO .none ∧ IsTupOf2 h TI (.ref i1) (.ref i2) ∧ (∃ x y, IsTupOf2 h TO x y) ∧ (h.IsTupleIter i1 a 0 ∧ h.IsTuple a xs) ∧ (h.IsTupleIter i2 b 0 ∧ h.IsTuple b ys)) where
  type := fun s ok => ⟨_, ok.1, rfl⟩
  notDict := by decide
  keep := fun h h' ⟨hz, hI, ⟨x, y, hO⟩, ⟨h1, h2⟩, h3, h4⟩ k => ⟨k _ _ hz, k _ _ hI, ⟨x, y, k _ _ hO⟩, ⟨h1.at fun o e => k _ o e, h2.at fun o e => k _ o e⟩, h3.at fun o e => k _ o e, h4.at fun o e => k _ o e⟩
  there := fun h ⟨hz, hI, ⟨x, y, hO⟩, ⟨⟨o1, h1, _⟩, o2, h2, _⟩, ⟨o3, h3, _⟩, o4, h4, _⟩ c hc => by
    simp only [List.mem_cons, List.not_mem_nil, or_false] at hc
    rcases hc with rfl | rfl | rfl | rfl | rfl | rfl | rfl
    · exact ⟨_, hz⟩
    · exact ⟨_, hI⟩
    · exact ⟨_, hO⟩
    · exact ⟨_, h1⟩
    · exact ⟨_, h3⟩
    · exact ⟨_, h2⟩
    · exact ⟨_, h4⟩
  sub := fun c hc => by simp at hc ⊢; rcases hc with rfl | rfl | rfl | rfl <;> simp
  noKeys := fun A s Q E hA ok h => getAttrOr_miss_zip ok.1 rfl rfl rfl zip_no_keys (by decide +kernel) hA h
  iter := fun A s d Q E hA ⟨hz, hI, ⟨x, y, hO⟩, st1, st2⟩ hd hdf h => by
    simp only [List.mem_cons, List.not_mem_nil, or_false, not_or] at hdf
    obtain ⟨dz, dI, dO, d1, d2, da, db⟩ := hdf
    have D1 := fun (A : Around) (hA : A.handled = none) => Draws.tuple (prog := prog) (w := w) (A := A) hA i1 a na xs
    have D2 := fun (A : Around) (hA : A.handled = none) => Draws.tuple (prog := prog) (w := w) (A := A) hA i2 b nb ys
    refine wpAny_pyIter_zip hz (h z [z, TO, i1, i2] (ZSt z TI TO i1 i2 d (fun i h => h.IsTupleIter i1 a i ∧ h.IsTuple a xs) (fun i h => h.IsTupleIter i2 b i ∧ h.IsTuple b ys)) s.heap s.toks ?_ ⟨hI, st1, st2, .inl ⟨hz, x, y, hO⟩⟩ (fun _ _ e => e) fun b hb => .inl hb)
    exact {
      off := fun hm => by
        simp only [List.mem_cons, List.not_mem_nil, or_false] at hm
        rcases hm with e | e | e | e
        · exact dz e
        · exact dO e
        · exact d1 e
        · exact d2 e
      frame := fun i h₁ h₂ st hk => ZSt.frame (D1 A hA) (D2 A hA) (by simp [d1, da]) (by simp [d2, db]) dz dI dO st hk
      item := fun i s₁ Q₁ E₁ hi st hds hQ => ZSt.item Z (D1 _ hA) (D2 _ hA) st (by omega) (by omega) hds fun x1 x2 h' tk p1 p2 st' t hz' kp => hQ s₁.heap.objs.size x1 x2 h' tk ⟨p1, p2⟩ (.inl ⟨_, t, rfl, _, rfl⟩) st' kp
      done := fun s₁ Q₁ E₁ st hQ => ZSt.done Z (D1 _ hA) (D2 _ hA) st hQ }
theorem rows_zip {K : PySem.W.Frag} {H : Hp} : ∀ {ks ls : List NK} {xs ys : List V} {us vs : List Value}, Paired (KDen H) ks xs → Paired (KDen H) ls ys → Vals xs us → Vals ys vs → (∀ k ∈ ks, k.depth ≤ 8) →
    ∃ rs : List Row, Paired (Ent K H) ((ks.zip ls).map fun p => (p.1, D.k p.2)) rs ∧ rs.length = min us.length vs.length ∧ (∀ r ∈ rs, r.1.depth ≤ 8) ∧ ∀ (j : Nat) (u v : Value), us[j]? = some u → vs[j]? = some v → ∃ r, rs[j]? = some r ∧ u = r.2.1 ∧ v = r.2.2
  | [], ls, _, ys, _, vs, .nil, _, .nil, _, _ => ⟨[], .nil, by simp, fun _ h => (nomatch h), fun j u v h => by simp at h⟩
  | k :: ks, [], _, _, us, _, _, .nil, _, .nil, _ => ⟨[], .nil, by simp, fun _ h => (nomatch h), fun j u v _ h => by simp at h⟩
  | k :: ks, l :: ls, x :: xs, y :: ys, u :: us, v :: vs, .cons r1 t1, .cons r2 t2, .cons r3 t3, .cons r4 t4, hd => by
    obtain ⟨rs, pr, hl, hdep, hat⟩ := rows_zip t1 t2 t3 t4 fun k hk => hd k (List.mem_cons_of_mem _ hk)
    refine ⟨(k, u, v) :: rs, .cons ⟨rfl, ⟨x, r3, r1⟩, y, r4, r2⟩ pr, by simp only [List.length_cons]; omega, fun r hr => ?_, fun j u' v' h1 h2 => ?_⟩
    · rcases List.mem_cons.mp hr with rfl | hr
      · exact hd k List.mem_cons_self
      · exact hdep r hr
    · cases j with
      | zero =>
        cases h1
        cases h2
        exact ⟨_, rfl, rfl, rfl⟩
      | succ j =>
        obtain ⟨r, e1, e2, e3⟩ := hat j u' v' (by simpa using h1) (by simpa using h2)
        exact ⟨r, by simpa using e1, e2, e3⟩
theorem c_dictZ (hc : X.calm = true) (hu : X.A.units + 64 < cLine) : CallZ X "dict" (upL X.K X.w rDictZ3) := by
  intro pins s σ H vs us Q I r ⟨ds, S, R, as, dn, hr, q⟩
  unfold rDictZ3 at hr
  obtain ⟨d, e, rfl, h1⟩ := a2_some hr
  obtain ⟨v, u, rfl, dv, du⟩ := dens2 dn
  obtain ⟨u1, u2, rfl, ra, rb⟩ := vals2 r
  split at h1
  · rename_i ks ls
    obtain ⟨hd, h2⟩ := h1
    have dv' : KDen H (.tup ks) v := dv
    have du' : KDen H (.tup ls) u := du
    rw [KDen] at dv' du'
    obtain ⟨a, xs, rfl, ha, hx⟩ := dv'
    obtain ⟨b, ys, rfl, hb, hy⟩ := du'
    have ra' : u1 = Value.ref a := ra
    have rb' : u2 = Value.ref b := rb
    subst ra' rb'
    obtain ⟨is1, rv1, pl1, z1⟩ := I.tuple (.of ha)
    obtain ⟨is2, rv2, pl2, z2⟩ := I.tuple (.of hb)
    obtain ⟨o1, g1, _⟩ := id pl1
    obtain ⟨o2, g2, _⟩ := id pl2
    have la : a < s.heap.objs.size := Heap.lt_size g1
    have lb : b < s.heap.objs.size := Heap.lt_size g2
    have hh := I.ok.hd hc
    obtain ⟨rs, pr, hl, hdep, hat⟩ := rows_zip (K := X.K) (KDens.paired hx) (KDens.paired hy) rv1 rv2 hd
    refine zip_begins2 (begins_tuple a is1.toArray) (begins_tuple b is2.toArray) pl1 pl2 fun h' k0 k1 k2 k3 k4 hsz kp => ?_
    have Z := zip_sep2 (N := s.heap.objs.size) (fp1 := [a]) (fp2 := [b]) (fun c hc => by rw [List.mem_singleton.mp hc]; exact la) fun c hc => by rw [List.mem_singleton.mp hc]; exact lb
    have ln1 := Paired.length rv1
    have ln2 := Paired.length rv2
    have kept : ∀ h'', KeptBut [s.heap.objs.size + 4, s.heap.objs.size + 3, s.heap.objs.size, s.heap.objs.size + 1] h' h'' → ∀ b o, s.heap.get? b = some o → h''.get? b = some o := fun h'' a4 b o e => a4 b o (fun x => by
        have lt : b < s.heap.objs.size := Heap.lt_size e
        simp only [List.mem_cons, List.not_mem_nil, or_false] at x
        rcases x with x | x | x | x
        · exact gt_add 4 lt x
        · exact gt_add 3 lt x
        · exact gt_add 0 lt x
        · exact gt_add 1 lt x) (kp b o e)
    refine dict_arg (s := { s with heap := h' }) (arg_zip Z (Nat.ne_of_lt la) (Nat.ne_of_lt (Nat.lt_succ_of_lt lb)) is1.toArray is2.toArray) hh hu ⟨k0, k1, ⟨_, _, k2⟩, ⟨⟨_, k3, rfl, rfl⟩, Heap.IsTuple.at pl1 fun o e => kp _ o e⟩, ⟨_, k4, rfl, rfl⟩, Heap.IsTuple.at pl2 fun o e => kp _ o e⟩ rs (by simpa using hl) (fun i k v ⟨e1, e2⟩ => hat i k v (by simpa using e1) (by simpa using e2)) (fun r hr => ⟨hdep r hr, fun h'' hk => NestedIs.at (fun b ob vs n hb _ => kept h'' hk b ob hb) _ _ (rows_nested I.hok pr r hr)⟩) (by simp; omega) fun h'' tk ep' o' T hk => ?_
    have n0 : H h'.objs.size = none := I.hok.fresh (by rw [hsz]; exact Nat.le_add_right _ _)
    have T' : Tab X.w h'' h'.objs.size (rputs [] rs) ep' o' := T
    have I3 := I.laid (a := h'.objs.size) (o := .ext (dictAt X.w h'.objs.size (rputs [] rs))) (t' := tk) (kept h'' hk) (by rw [hsz]; exact Nat.le_add_right _ _) (ext_ok T')
    have lr := rputs_len rs []
    rw [List.length_nil] at lr
    have sys : (h'.objs.size == sysModules) = false := beq_eq_false_iff_ne.mpr (Nat.ne_of_gt (Nat.lt_of_lt_of_le I.big (by rw [hsz]; exact Nat.le_add_right _ _)))
    obtain ⟨as2, x2, k2'⟩ := as.lay (u := .ext (dictAt X.w h'.objs.size (rputs [] rs))) (o := .dic none (dputs [] ((ks.zip ls).map fun p => (p.1, D.k p.2)))) n0 (rep_dic (DicOk.ofTab T' sys (ents_put (Paired.mapP pr fun _ _ q => q.keep (as.hide n0).2.2) .nil) (by omega)) upd_same)
    exact ⟨.ref h'.objs.size, _, I3, rfl, q _ _ (.ref _) _ x2 as2 rfl (h2 _ (as.free n0))⟩
  · exact h1.elim

/-! ### list(dict) -/
def rListD3 : List D → Sto → VK3 → Prop := fun ds S Q => a1 ds fun d => asR d fun a => ∃ lk kvs, S a = some (.dic lk kvs) ∧ ∀ p, S p = none → Q (.ref p) (put S p (.lst (kvs.map fun p => D.k p.1)))
theorem keys_vals {K : PySem.W.Frag} {H : Hp} : ∀ {kvs : List (NK × D)} {xs : List Row}, Paired (Ent K H) kvs xs → ∃ vs : List V, Vals vs (xs.map fun x => x.2.1) ∧ Dens K H (kvs.map fun p => D.k p.1) vs
  | _, _, .nil => ⟨[], .nil, .nil⟩
  | _, _, .cons r t => by
    obtain ⟨vs, h1, h2⟩ := keys_vals t
    obtain ⟨_, ⟨v, rv, kd⟩, _⟩ := r
    exact ⟨v :: vs, .cons rv h1, .cons kd h2⟩
theorem c_listD (hc : X.calm = true) : CallR3 X (.type "list") rListD3 := by
  intro pins s σ H vs us Q I r ⟨ds, S, R, as, dn, hr, q⟩
  obtain ⟨d, rfl, h1⟩ := a1_some hr
  obtain ⟨v, rfl, dv⟩ := dens1 dn
  obtain ⟨a, rfl, lk, kvs, ha, h2⟩ := asR_some h1
  have dv' : v = V.ref a := dv
  subst dv'
  obtain ⟨u, rfl, ru⟩ := vals1 r
  have ru' : u = Value.ref a := ru
  subst ru'
  obtain ⟨xs, ep, o, T, ok, _⟩ := dicTab I as ha
  have lx : xs.length ≤ sizeLine := by rw [← Paired.length ok.ent]; exact ok.len
  refine PySem.W.kdl_call (KdlSrc.rawDict (ep := ep) (es := (xs.map (rowE X.w)).toArray) ok.sys) (I.ok.hd hc) ⟨o, T.get, T.exact, T.dat⟩ (by simpa using lx) fun h' tk acc c kp hS it => ?_
  obtain ⟨ws, rv, dw⟩ := keys_vals ok.ent
  have ea : acc = (xs.map fun x => x.2.1).toArray := by
    refine Array.ext_getElem? fun i => ?_
    by_cases hi : i < acc.size
    · obtain ⟨hi', ev⟩ := it.2 i acc[i] (Array.getElem?_eq_getElem hi)
      rw [Array.getElem?_eq_getElem hi, ev]
      have : i < xs.length := by simpa using hi'
      simp [rowE, this]
    · have l1 := it.1
      have : xs.length ≤ i := by simp at l1; omega
      rw [Array.getElem?_eq_none (by omega)]
      simp [this]
  subst ea
  have n0 := I.hok.fresh (Nat.le_refl s.heap.objs.size)
  have lw : ws.length ≤ sizeLine := by rw [Paired.length rv, List.length_map]; exact lx
  have I3 := I.laid (a := s.heap.objs.size) (o := .lst ws) (t' := tk) kp (Nat.le_refl _) ⟨lw, _, _, rv, hS⟩
  obtain ⟨as2, x2, k2⟩ := as.lay (u := .lst ws) (o := .lst (kvs.map fun p => D.k p.1)) n0 ⟨_, upd_same, dw.keep (as.hide n0).2.2⟩
  exact ⟨.ref s.heap.objs.size, _, I3, rfl, q _ _ (.ref _) _ x2 as2 rfl (h2 _ (as.free n0))⟩
end
end L3
/-! ## L3Q -/
/-! dicts walked, locks, dict.get, a tuple backwards, chained comparison, three names -/
namespace L3
open PySem PySem.Spec L2
open PyProof.Rows hiding St

section
variable {prog : Program} {w : World} {A : Around} {E : Value → Shared → Prop} {s : Shared}
theorem adjust_back (n : Nat) : Builtin.Slice.sliceAdjust none none (-1) (n : Int) = ((n : Int) - 1, -1) := by
  unfold Builtin.Slice.sliceAdjust
  rfl
theorem places_back (n : Nat) : Builtin.Slice.slicePlaces ((n : Int) - 1) (-1) (-1) = n := by
  unfold Builtin.Slice.slicePlaces
  have h1 : ¬ ((-1 : Int) > 0) := by decide
  have h2 : ((n : Int) - 1 - -1 - 1) / (- -1) = (n : Int) - 1 := by
    rw [show (- -1 : Int) = 1 by decide, Int.ediv_one]
    omega
  simp only [h1, if_false, h2]
  split <;> omega
theorem pick_back (xs : List Value) : ((List.range xs.length).filterMap fun (m : Nat) => xs.toArray[(((xs.length : Nat) : Int) - 1 + (m : Int) * -1).toNat]?) = xs.reverse := by
  have e : ∀ m ∈ List.range xs.length, xs.toArray[(((xs.length : Nat) : Int) - 1 + (m : Int) * -1).toNat]? = xs.reverse[m]? := fun m hm => by
    have hl := List.mem_range.mp hm
    have : (((xs.length : Nat) : Int) - 1 + (m : Int) * -1).toNat = xs.length - 1 - m := by omega
    rw [this, List.getElem?_reverse hl]
    simp
  have a : ((List.range xs.length).filterMap fun (m : Nat) => xs.toArray[(((xs.length : Nat) : Int) - 1 + (m : Int) * -1).toNat]?) = (List.range xs.length).filterMap fun m => xs.reverse[m]? := by
    have c : ∀ l : List Nat, (∀ m ∈ l, xs.toArray[(((xs.length : Nat) : Int) - 1 + (m : Int) * -1).toNat]? = xs.reverse[m]?) → (l.filterMap fun (m : Nat) => xs.toArray[(((xs.length : Nat) : Int) - 1 + (m : Int) * -1).toNat]?) = l.filterMap fun m => xs.reverse[m]? := by
      intro l hl
      induction l with
      | nil => rfl
      | cons y l ih => rw [List.filterMap_cons, List.filterMap_cons, hl y List.mem_cons_self, ih fun m hm => hl m (List.mem_cons_of_mem _ hm)]
    exact c _ e
  rw [a]
  have g : ∀ (ys : List Value), (List.range ys.length).filterMap (fun m => ys[m]?) = ys := by
    intro ys
    induction ys with
    | nil => rfl
    | cons y ys ih =>
      rw [List.length_cons, List.range_succ_eq_map, List.filterMap_cons]
      simp only [List.getElem?_cons_zero, List.filterMap_map]
      congr 1
  have := g xs.reverse
  rwa [List.length_reverse] at this
theorem item_back {t sl : Addr} {xs : List Value} {u : Tok} {Q : Value → Shared → Prop} (ht : IsTup s.heap t xs.toArray) (hs : s.heap.IsSliceOf sl .none .none (.int (-1) u))
    (h : Q (.ref s.heap.objs.size) { s with heap := s.heap.push { cls := .type "tuple", data := .seq xs.reverse.toArray } }) (hsz : xs.length ≤ sizeLine) : wpAny (model prog w) A (getItem (.ref t) (.ref sl)) Q E s := by
  obtain ⟨os, hos, hcs, hds⟩ := id hs
  have hTs : s.TypeIs (.ref sl) "slice" := ⟨os, hos, hcs⟩
  unfold getItem
  try with_reducible refine wpAny_holding ?_
  refine wpAny_bind (wpAny_sequenceKey ht.typeIs (by decide) ?_)
  refine wpAny_bind (wpAny_callSpecial?_slot (name := Str.ofString "__getitem__") ht.typeIs PyProof.Rows.slot_tuple_getitem (wpAny_call_entry PyProof.Rows.slot_tuple_getitem ht.typeIs entry_tuple_getitem ?_ (args_tuple_getitem _ _)))
  show wpAny _ _ (Builtin.Tuple.tupleItemsOf (.ref t) >>= _) _ _ s
  refine wpAny_bind (PyProof.Rows.tupleItemsOf_ ht ?_)
  refine wpAny_bind (wpAny_typeOf hTs ?_)
  rw [if_pos (by decide)]
  refine wpAny_bind ?_
  unfold Builtin.Slice.sliceApplied Builtin.Slice.sliceFields
  refine wpAny_bind (wpAny_bind (wpAny_field hos hds (x := .none) rfl (wpAny_bind (wpAny_field hos hds (x := .none) rfl (wpAny_bind (wpAny_field hos hds (x := .int (-1) u) rfl (wpAny_pure ?_)))))))
  refine wpAny_bind (HT.slicePart_ (.int (-1) u) ?_)
  show wpAny _ _ (if ((-1 : Int) == 0) = true then _ else _) _ _ s
  rw [if_neg (by decide)]
  refine wpAny_bind (HT.slicePart_ .none (wpAny_bind (HT.slicePart_ .none (wpAny_bind (wpAny_pure ?_)))))
  show wpAny _ _ (match Builtin.Slice.sliceAdjust none none (-1) ((xs.toArray.size : Nat) : Int) with | (lo, hi) => pure (lo, (-1 : Int), Builtin.Slice.slicePlaces lo hi (-1))) _ _ s
  rw [List.size_toArray, adjust_back]
  show wpAny _ _ (pure (((xs.length : Nat) : Int) - 1, (-1 : Int), Builtin.Slice.slicePlaces (((xs.length : Nat) : Int) - 1) (-1) (-1))) _ _ s
  rw [places_back]
  refine wpAny_pure ?_
  show wpAny _ _ (if (((xs.length : Nat) : Int) - 1 == 0 && (-1 : Int) == 1 && xs.length == _) = true then _ else _) _ _ s
  rw [if_neg (by simp), pick_back]
  have sz : sizeOk (.seq xs.reverse.toArray) := by
    show xs.reverse.toArray.size ≤ sizeLine
    rw [List.size_toArray, List.length_reverse]
    exact hsz
  exact wpAny_bind (m := Builtin.Tuple.tupleExact _) (wpAny_newObj_type (wpAny_pure ⟨_, rfl, wpAny_pure h⟩) sz)
end
def tBack3 (te : TE3) : TE3 := fun σ S Q => te σ S fun d S1 => match d with
  | .k (.tup ks) => Q (Dt ks.reverse) S1
  | _ => False
theorem Paired.rev {α β : Type} {F : α → β → Prop} : ∀ {xs : List α} {ys : List β}, Paired F xs ys → Paired F xs.reverse ys.reverse
  | _, _, .nil => .nil
  | _, _, .cons r t => by rw [List.reverse_cons, List.reverse_cons]; exact Paired.snoc r (Paired.rev t)
theorem kdens_rev {H : Hp} {ks : List NK} {vs : List V} (h : KDens H ks vs) : KDens H ks.reverse vs.reverse := KDens.of (Paired.rev (KDens.paired h))
section
variable {X : Cx} {e : Expr} {te : TE3} {k : Nat} {p1 p2 p3 pos : Pos}
theorem pback3 (he : PE3 X e te) : PE3 X (.Subscript e (.Slice none none (some (.UnaryOp .USub (.Constant (.int 1) k p1) p2)) p3) pos) (tBack3 te) := by
  have raw : PE X (.Subscript e (.Slice none none (some (.UnaryOp .USub (.Constant (.int 1) k p1) p2)) p3) pos) (fun σ H Q => up X.K X.w te σ H fun x H1 => ∃ a xs, x = .ref a ∧ H1 a = some (.tup xs) ∧ ∀ p, H1 p = none → Q (.ref p) (upd H1 p (.tup xs.reverse))) := by
    refine ⟨fun pins s σ H Q I h => ?_⟩
    refine Subscript_ (thn (he.run pins s σ H _ I h) fun v s1 ⟨x, H1, I1, r1, a, xs, ex, hx, q⟩ => ?_)
    subst ex
    cases r1
    have hst : PO X (some (.UnaryOp .USub (.Constant (.int 1) k p1) p2)) (tPart (tUn (rU fun i => .int (-i)) (tC (.int 1)))) := po_some (pe_un un_neg pe_int)
    refine wpAny_Slice (thn (po_none.run pins s1 σ H1 (fun o H2 => o = none ∧ H2 = H1) I1 ⟨rfl, rfl⟩) fun vl s2 ⟨l, H2, I2, pl, el, e2⟩ => ?_)
    subst el e2
    refine thn (po_none.run pins s2 σ H2 (fun o H3 => o = none ∧ H3 = H2) I2 ⟨rfl, rfl⟩) fun vu s3 ⟨u, H3, I3, pu, eu, e3⟩ => ?_
    subst eu e3
    refine thn (hst.run pins s3 σ H3 (fun o H4 => o = some (-1) ∧ H4 = H3) I3 ⟨1, rfl, -1, rfl, rfl, rfl⟩) fun vs s4 ⟨o, H4, I4, ps, eo, e4⟩ => ?_
    subst eo e4
    have I5 : Inv X pins σ H4 { s4 with heap := s4.heap.push { cls := .type "slice", data := .fields #[vl, vu, vs] } } := I4.kept (t' := s4.toks) fun b ob q => Heap.get?_push_of_some _ q
    obtain ⟨its, r, ht, hz⟩ := I5.tuple (.of hx)
    have hlen := r.length
    cases pl
    cases pu
    cases ps with
    | int _ tk =>
      show wpAny (model X.prog X.w) X.A (subscriptTail e (.Slice none none (some (.UnaryOp .USub (.Constant (.int 1) k p1) p2)) p3) (.ref a) (.ref s4.heap.objs.size)) (EP X pins σ Q) X.xe { s4 with heap := s4.heap.push { cls := .type "slice", data := .fields #[.none, .none, .int (-1) tk] } }
      refine tail_any (ops := [.ref a, .ref s4.heap.objs.size]) ht.typeIs PyProof.Rows.slot_tuple_getitem.lookup ?_ (by with_unfolding_all rfl)
      refine item_back ht (Heap.IsSliceOf.new _ .none .none (.int (-1) tk)) ?_ (by omega)
      refine ⟨.ref _, _, I5.laid (t' := s4.toks) (o := .tup xs.reverse) (fun b ob q => Heap.get?_push_of_some _ q) (Nat.le_refl _) ?_, rfl, q _ (I5.hok.fresh (Nat.le_refl _))⟩
      exact ⟨by rw [List.length_reverse]; exact hz, _, r.reverse, ⟨_, Heap.get?_push_size _ rfl, rfl, _, rfl⟩⟩
  refine PE.imp raw fun σ H Q ⟨σd, S, R, av, as, h, q⟩ => seqE av as h fun v H1 d S1 x1 k1 av1 as1 dn1 h1 => ?_
  split at h1
  · rename_i ks
    have dn' : KDen H1 (.tup ks) v := dn1
    rw [KDen] at dn'
    obtain ⟨a, xs, rfl, ha, hx⟩ := dn'
    refine ⟨a, xs, rfl, ha, fun p n => ?_⟩
    obtain ⟨as2, x2, k2⟩ := as1.hide (u := .tup xs.reverse) n
    refine q _ _ (Dt ks.reverse) S1 (x1.trans x2) as2 ?_ h1
    show KDen _ (.tup ks.reverse) _
    rw [KDen]
    exact ⟨p, _, rfl, upd_same, kdens_rev (KDens.keep k2 _ _ hx)⟩
  · exact h1.elim
end
end L3
/-! ## L3R -/
/-! dicts walked, locks, dict.get, chained comparison, three names -/
namespace L3
open PySem PySem.Spec L2
open PyProof.Rows hiding St

def lkE (a : Addr) (kvs : List (NK × D)) (l : Obj × List Row) (D3 : Ends3) : Ends3 where
  nx := fun σ S => S a = some (.dic (some l) kvs) ∧ D3.nx σ (put S a (.dic none kvs))
  rt := fun d S => S a = some (.dic (some l) kvs) ∧ D3.rt d (put S a (.dic none kvs))
  bk := fun σ S => S a = some (.dic (some l) kvs) ∧ D3.bk σ (put S a (.dic none kvs))
  ct := fun σ S => S a = some (.dic (some l) kvs) ∧ D3.ct σ (put S a (.dic none kvs))
/-- the dict at a stands still while the statement runs -/
def tLk3 (t : TS3) : TS3 := fun D3 σ S => ∃ a kvs, S a = some (.dic none kvs) ∧ ∀ l, t (lkE a kvs l D3) σ (put S a (.dic (some l) kvs))
def tLkE3 (t : TE3) : TE3 := fun σ S Q => ∃ a kvs, S a = some (.dic none kvs) ∧ ∀ l, t σ (put S a (.dic (some l) kvs)) fun d S' => S' a = some (.dic (some l) kvs) ∧ Q d (put S' a (.dic none kvs))
section
variable {K : PySem.W.Frag} {w : World} {H H' : Hp} {S S' : Sto} {a : Addr} {kvs : List (NK × D)} {od : Obj} {xs : List Row}
theorem lock_on (as : AbsS K w H S) (h : S a = some (.dic none kvs)) : ∃ xs, H a = some (.ext (dictAt w a xs)) ∧ ∀ od, AbsS K w (upd H a (.frz od (.ext (dictAt w a xs)))) (put S a (.dic (some (od, xs)) kvs)) ∧ Ext S H (put S a (.dic (some (od, xs)) kvs)) (upd H a (.frz od (.ext (dictAt w a xs)))) ∧ Keeps H (upd H a (.frz od (.ext (dictAt w a xs)))) := by
  obtain ⟨xs, ok, hl⟩ := as a _ h
  exact ⟨xs, hl, fun od => as.change (u := .frz od (.ext (dictAt w a xs))) (o' := .dic (some (od, xs)) kvs) h fun kk => ⟨xs, ok.keep kk, rfl, upd_same⟩⟩
theorem lock_off (as : AbsS K w H S) (h : S a = some (.dic (some (od, xs)) kvs)) : H a = some (.frz od (.ext (dictAt w a xs))) ∧ AbsS K w (upd H a (.ext (dictAt w a xs))) (put S a (.dic none kvs)) ∧ Ext S H (put S a (.dic none kvs)) (upd H a (.ext (dictAt w a xs))) ∧ Keeps H (upd H a (.ext (dictAt w a xs))) := by
  obtain ⟨ys, ok, e1, e2⟩ := as a _ h
  have e1' : xs = ys := e1
  subst e1'
  exact ⟨e2, as.change (u := .ext (dictAt w a xs)) (o' := .dic none kvs) h fun kk => ⟨xs, ok.keep kk, upd_same⟩⟩
end
section
variable {X : Cx} {st : Stmt} {t : TS3} {e : Expr} {te : TE3}
theorem pslk3 (h : PS3 X st t) : PS3 X st (tLk3 t) := PS.imp (ps_lock h) fun D σ H ⟨σd, S, D3, av, as, ⟨a, kvs, ha, h⟩, q⟩ => by
  obtain ⟨xs, hl, on⟩ := lock_on as ha
  refine ⟨a, _, hl, trivial, fun od => ?_⟩
  obtain ⟨as2, x2, k2⟩ := on od
  refine ⟨σd, _, _, av.keep k2, as2, h (od, xs), fun σ' H' σd' S' x3 av3 as3 h3 => ?_, fun v H' d S' x3 as3 dn h3 => ?_, fun σ' H' σd' S' x3 av3 as3 h3 => ?_, fun σ' H' σd' S' x3 av3 as3 h3 => ?_⟩
  · obtain ⟨e4, as4, x4, k4⟩ := lock_off as3 h3.1
    exact ⟨e4, q.nx _ _ _ _ ((x2.trans x3).trans x4) (av3.keep k4) as4 h3.2⟩
  · obtain ⟨e4, as4, x4, k4⟩ := lock_off as3 h3.1
    exact ⟨e4, q.rt _ _ _ _ ((x2.trans x3).trans x4) as4 (dn.keep k4) h3.2⟩
  · obtain ⟨e4, as4, x4, k4⟩ := lock_off as3 h3.1
    exact ⟨e4, q.bk _ _ _ _ ((x2.trans x3).trans x4) (av3.keep k4) as4 h3.2⟩
  · obtain ⟨e4, as4, x4, k4⟩ := lock_off as3 h3.1
    exact ⟨e4, q.ct _ _ _ _ ((x2.trans x3).trans x4) (av3.keep k4) as4 h3.2⟩
theorem pelk3 (h : PE3 X e te) : PE3 X e (tLkE3 te) := PE.imp (pe_lock h) fun σ H Q ⟨σd, S, R, av, as, ⟨a, kvs, ha, h⟩, q⟩ => by
  obtain ⟨xs, hl, on⟩ := lock_on as ha
  refine ⟨a, _, hl, trivial, fun od => ?_⟩
  obtain ⟨as2, x2, k2⟩ := on od
  refine ⟨σd, _, _, av.keep k2, as2, h (od, xs), fun v H' d S' x3 as3 dn h3 => ?_⟩
  obtain ⟨e4, as4, x4, k4⟩ := lock_off as3 h3.1
  exact ⟨e4, q _ _ _ _ ((x2.trans x3).trans x4) as4 (dn.keep k4) h3.2⟩
end

/-- the keys of a dict that stands still -/
def ItD (a : Addr) (o : Obj) (xs : List Row) : It :=
  ⟨fun i H => (∃ φ, H a = some (.frz o (.ext φ))) ∧ ∃ (r : Row) (v : V), xs[i]? = some r ∧ L2.RelV v r.2.1, fun i H v H' => H' = H ∧ ∃ r : Row, xs[i]? = some r ∧ L2.RelV v r.2.1, fun i H => (∃ φ, H a = some (.frz o (.ext φ))) ∧ xs.length = i⟩
theorem turn_keys {P : Program} {w : World} {K : PySem.W.Frag} {tg : Expr} {a it : Addr} {o : Obj} {xs : List Row} {ep : Nat} (hx : o.ExactDict) (hd : o.data = .dict (xs.map (rowE w)).toArray ep) :
    Turn P w K tg (ItD a o xs) [it] it (fun i h => h.IsKeyIter it a i (xs.map (rowE w)).toArray.size ep) where
  mem := by simp
  obj := fun i h ⟨ob, h0, _, h2⟩ b hb => by
    rw [List.mem_singleton.mp hb]
    exact ⟨ob, h0, fun v q => by rw [h2] at q; cases q⟩
  keep := fun i h h' ⟨ob, h0, h1⟩ kp => ⟨ob, kp it (by simp) _ h0, h1⟩
  item := by
    rintro X rfl rfl rfl hc i pins s σ H E I hf hit ⟨⟨φ, e⟩, r, v, er, rv⟩
    obtain ⟨g, _⟩ := I.hok a _ e
    have lt : i < (xs.map (rowE X.w)).toArray.size := by simpa using (List.getElem?_eq_some_iff.mp er).1
    refine wpAny_pyNext_keys_item_raw hit ⟨o, g, hx, hd⟩ lt fun h' hit' sb => ?_
    have ek : (xs.map (rowE X.w)).toArray[i].key = r.2.1 := by
      obtain ⟨l, q⟩ := List.getElem?_eq_some_iff.mp er
      simp [rowE, q]
    obtain ⟨ob, o1, o2, o3⟩ := id hit'
    obtain ⟨f0, f1, f2, f3, f4, f5⟩ := hf it (by simp)
    rw [ek]
    refine ⟨_, rfl, go_of (s := { s with heap := h' }) o1 o2 o3 (by decide) ?_⟩
    exact ⟨v, H, I.turned (t' := s.toks) (fun b ob hb z => (sb.2 b hb).trans z) f0 f1 f3 f4 f5, rv, ⟨rfl, r, er, rv⟩, hit', fun b hb => by rw [List.mem_singleton.mp hb]; exact f0⟩
  done := by
    rintro X rfl rfl rfl hc i pins s σ H E I hf hit ⟨⟨φ, e⟩, hl⟩
    obtain ⟨g, _⟩ := I.hok a _ e
    obtain ⟨f0, f1, f2, f3, f4, f5⟩ := hf it (by simp)
    exact wpAny_pyNext_keys_end_raw (I.ok.hd hc) hit ⟨o, g, hx, hd⟩ (by simp; omega) fun h' eb => ⟨rfl, I.turned (t' := s.toks) (fun b o hb z => eb b o hb z) f0 f1 f3 f4 f5⟩
  self := fun A i s Q E st h => wpAny_pyIter_keyiter st h
def iD3 (te : TE3) : TI3 := fun σ S R => te σ S fun d S1 => asR d fun a => ∃ l kvs, S1 a = some (.dic (some l) kvs) ∧ R (kvs.map fun p => D.k p.1) (fun S => S a = some (.dic (some l) kvs)) S1
section
variable {X : Cx} {e tg : Expr} {te : TE3}
theorem pid3 (he : PE3 X e te) : PI3 X tg e (iD3 te) := by
  have raw : PI X tg e (fun σ H R => up X.K X.w te σ H fun x H1 => ∃ a o xs, x = .ref a ∧ H1 a = some (.frz o (.ext (dictAt X.w a xs))) ∧ (a == sysModules) = false ∧ R (ItD a o xs) H1) := by
    refine ⟨fun pins s σ H R I h => ?_⟩
    refine thn (he.run pins s σ H _ I h) fun u s1 ⟨x, H1, I1, rx, a, o, xs, ex, hd, sy, q⟩ => ?_
    subst ex
    obtain rfl : u = Value.ref a := rx
    obtain ⟨g, ⟨o', ep, g', e1, e2⟩, _⟩ := I1.hok a _ hd
    rw [g] at g'
    cases g'
    refine wpAny_pyIter_dict_raw sy ⟨o, g, e1, e2⟩ ?_
    exact pi_one I1 _ (turn_keys e1 e2) ⟨_, Heap.get?_push_size _ rfl, rfl, rfl⟩ q
  refine PI.imp raw fun σ H Q ⟨σd, S, R, av, as, h, q⟩ => seqE av as h fun v H1 d S1 x1 k1 av1 as1 dn1 h1 => ?_
  obtain ⟨a, rfl, ⟨o, xs⟩, kvs, ha, h2⟩ := asR_some h1
  have dv' : v = V.ref a := dn1
  subst dv'
  obtain ⟨ys, ok, e1, e2⟩ := as1 a _ ha
  have e1' : xs = ys := e1
  subst e1'
  refine ⟨a, o, xs, rfl, e2, ok.sys, q _ H1 S1 _ _ x1 as1 (fun H2 S2 k2 as2 st i => ?_) h2⟩
  obtain ⟨zs, ok2, f1, f2⟩ := as2 a _ st
  have f1' : xs = zs := f1
  subst f1'
  have hl := Paired.length ok2.ent
  refine ⟨fun hi => ⟨⟨_, f2⟩, by rw [List.length_map] at hi; omega⟩, fun d hd => ?_⟩
  rw [List.getElem?_map, Option.map_eq_some_iff] at hd
  obtain ⟨p, hp, rfl⟩ := hd
  obtain ⟨r, er, eq, ⟨v, rv, kd⟩, _⟩ := paired_at ok2.ent hp
  refine ⟨⟨⟨_, f2⟩, r, v, er, rv⟩, fun x H3 ⟨e3, r', er', rv'⟩ => ?_⟩
  subst e3
  rw [er] at er'
  cases er'
  rw [rv'.inj rv]
  exact ⟨.refl _ _, as2, kd⟩
end

/-! ### dict.get -/
def tGet3 (to te : TE3) : TE3 := fun σ S Q => to σ S fun d S1 => asR d fun a => (∃ lk kvs, S1 a = some (.dic lk kvs)) ∧ te σ S1 fun k S2 => asK k fun k => ∃ lk kvs, S2 a = some (.dic lk kvs) ∧ k.depth ≤ 8 ∧ Q ((dlook kvs k).getD Dz) S2
section
variable {X : Cx} {o e : Expr} {to te : TE3} {apos pos : Pos}
theorem pget3 (hu : X.A.units + 64 < cLine) (ho : PE3 X o to) (he : PE3 X e te)
    (hbase : attributeBase o "get" X.env (eval o X.env) = eval o X.env := by rfl)
    (hfew : ((backTo pos (starEach [e] X.env)).all (fun x => !x.1) && (backToKw pos (keywordEach [] X.env)).all (fun x => x.1.isSome)
      && decide (([e] : List Expr).length + ([] : List Keyword).length + (if ([] : List Keyword).isEmpty then 0 else 1) < 30)) = true := by rfl)
    (hline : (apos.endLine == pos.line) = true := by rfl) (ht : backTo pos (starEach [e] X.env) = [(false, eval e X.env)] := by rfl) : PE3 X (.Call (.Attribute o "get" apos) [e] [] pos) (tGet3 to te) := ⟨fun pins s σ H Q I ⟨σd, S, R, av, as, h, q⟩ => by
  refine wpAny_Call_method hbase hfew hline PySem.F.plainAttrs_dict PySem.F.slot_dict_get PySem.F.type_dict_get (thn (ho.run pins s σ H (fun v H1 => ∃ d S1, Ext S H S1 H1 ∧ AbsV X.K H1 σ σd ∧ AbsS X.K X.w H1 S1 ∧ Den X.K H1 d v ∧ asR d fun a => (∃ lk kvs, S1 a = some (.dic lk kvs)) ∧ te σd S1 fun k S2 => asK k fun k => ∃ lk kvs, S2 a = some (.dic lk kvs) ∧ k.depth ≤ 8 ∧ R ((dlook kvs k).getD Dz) S2) I (seqE av as h fun v H1 d S1 x1 k1 av1 as1 dn1 h1 => ⟨d, S1, x1, av1, as1, dn1, h1⟩)) fun u s1 ⟨x, H1, I1, rx, d, S1, x1, av1, as1, dn1, h1⟩ => ?_)
  obtain ⟨a, rfl, ⟨lk, kvs, ha⟩, h2⟩ := asR_some h1
  have dv' : x = V.ref a := dn1
  subst dv'
  obtain rfl : u = Value.ref a := rx
  obtain ⟨xs, ep, ob, T, ok, _⟩ := dicTab I1 as1 ha
  refine ⟨ofType T, fun b hb => by cases hb; exact ⟨ob, T.get, T.exact.2.1⟩, ?_⟩
  rw [ht]
  refine Calls.callWith_builtin rfl (Calls.evalArgs_plain (Calls.spliced_cons (thn (he.run pins s1 σ H1 (fun v H2 => ∃ d S2, Ext S H S2 H2 ∧ AbsS X.K X.w H2 S2 ∧ Den X.K H2 d v ∧ asK d fun k => ∃ lk kvs, S2 a = some (.dic lk kvs) ∧ k.depth ≤ 8 ∧ R ((dlook kvs k).getD Dz) S2) I1 (seqE av1 as1 h2 fun v H2 d S2 x2 k2 av2 as2 dn2 h3 => ⟨d, S2, x1.trans x2, as2, dn2, h3⟩)) fun iv s2 ⟨y, H2, I2, ry, d, S2, x2, as2, dn2, h3⟩ => Calls.spliced_nil ?_)))
  obtain ⟨k, rfl, lk2, kvs2, ha2, hd, h4⟩ := asK_some h3
  obtain ⟨xs2, ep2, ob2, T2, ok2, _⟩ := dicTab I2 as2 ha2
  have hk := KDen.nested I2.hok k y iv dn2 ry
  refine wpAny_call_entry PySem.F.slot_dict_get (ofType T2) PySem.F.entry_dict_get ?_ (PySem.F.args_dict_get_2 _ _)
  show wpAny _ _ (dictGet a iv >>= _) _ _ s2
  refine wpAny_bind (dget3 T2 (by show X.A.units + 1 + 8 < _; omega) hk hd ?_)
  rcases look_rows (k := k) ok2.ent with ⟨l1, l2⟩ | ⟨d, r, l1, l2, v, rv, dv⟩
  · rw [l1] at h4
    rw [l2]
    show wpAny _ _ (Builtin.Dict.missed a iv >>= _) _ _ _
    exact wpAny_bind (wpAny_missed_other ok2.sys (wpAny_pure ⟨.none, rfl, ⟨.non, H2, I2.tok _, rfl, q .non H2 Dz S2 x2 as2 (show KDen H2 .none .non by rw [KDen]) h4⟩⟩))
  · rw [l1] at h4
    rw [l2]
    exact wpAny_pure ⟨_, rfl, ⟨v, H2, I2.tok _, rv, q v H2 d S2 x2 as2 dv h4⟩⟩⟩
end

/-! ### a <= b <= c; three names -/
section
variable {X : Cx} {a b c : Expr} {ta tb tc : TE3} {pos : Pos}
theorem pchain3 {op op' : CmpOp} {r r' : RO3} (ho : OpR3 X (compareOp op) r) (ho' : OpR3 X (compareOp op') r') (ha : PE3 X a ta) (hb : PE3 X b tb) (hc : PE3 X c tc) (hm : lastMarks [op, op'] [b, c] = false := by with_unfolding_all rfl) : PE3 X (.Compare a [op, op'] [b, c] pos) (tChain3 r r' ta tb tc) :=
  PE.imp (pe_chain ho ho' ha hb hc hm) fun σ H Q ⟨σd, S, R, av, as, h, q⟩ => seqE av as h fun v H1 d S1 x1 k1 av1 as1 dn1 h1 => seqE av1 as1 h1 fun u H2 e S2 x2 k2 av2 as2 dn2 h2 => by
    refine ⟨d, e, S2, _, as2, dn1.keep k2, dn2, h2, fun z H3 d3 S3 x3 as3 dn3 h3 => ?_⟩
    obtain ⟨k, rfl, h4⟩ := asB_some h3
    have kk := x3.keeps as2
    refine ⟨k, dn3, ?_⟩
    cases k with
    | false => rw [if_neg Bool.false_ne_true] at h4 ⊢; exact q _ H3 (.bl false) S3 ((x1.trans x2).trans x3) as3 rfl h4
    | true =>
      rw [if_pos rfl] at h4 ⊢
      exact seqE (av2.keep kk) as3 h4 fun w' H4 f S4 x4 k4 av4 as4 dn4 h5 => ⟨e, f, S4, R, as4, (dn2.keep kk).keep k4, dn4, h5, fun v' H' d' S' x5 as5 dn5 h6 => q v' H' d' S' ((((x1.trans x2).trans x3).trans x4).trans x5) as5 dn5 h6⟩
def three (ds : List D) (Q : D → D → D → Prop) : Prop := match ds with
  | [a, b, c] => Q a b c
  | _ => False
theorem three_some {ds : List D} {Q : D → D → D → Prop} (h : three ds Q) : ∃ a b c, ds = [a, b, c] ∧ Q a b c := by
  unfold three at h
  split at h
  · exact ⟨_, _, _, rfl, h⟩
  · exact h.elim
def tPar33 (i j l : Nat) (ta : TA3) : TS3 := fun D3 σ S => ta σ S fun ds S1 => three ds fun a b c => D3.nx (((σ.set i (some a)).set j (some b)).set l (some c)) S1
theorem ppar33 {i j l : Nat} {x y z : Str} {ta : TA3} {px py pz pt : Pos} {kt k2 pt2} (hc : X.calm = true) (hN : X.N.Nodup) (hi : X.N[i]? = some x) (hj : X.N[j]? = some y) (hl : X.N[l]? = some z) (hij : i ≠ j) (hil : i ≠ l) (hjl : j ≠ l)
    (hx : X.env.scope.names.lookup x = some .local) (hy : X.env.scope.names.lookup y = some .local) (hz : X.env.scope.names.lookup z = some .local) (ha : PA3 X [a, b, c] ta)
    (hw : swappedStores [.Tuple [.Name x px, .Name y py, .Name z pz] kt pt] (.Tuple [a, b, c] k2 pt2) X.env = pure (some [x, y, z]))
    (hs : swapsWithSole [.Tuple [.Name x px, .Name y py, .Name z pz] kt pt] (.Tuple [a, b, c] k2 pt2) pos.line X.env = pure false := by rfl) :
    PS3 X (.Assign [.Tuple [.Name x px, .Name y py, .Name z pz] kt pt] (.Tuple [a, b, c] k2 pt2) pos) (tPar33 i j l ta) := PS.imp (ps_par3 hc hN hi hj hl hij hil hjl hx hy hz ha hw hs) fun D σ H ⟨σd, S, D3, av, as, h, q⟩ =>
  seqA av as h fun vs H1 ds S1 x1 k1 av1 as1 dn1 h1 => by
    obtain ⟨d, e, f, rfl, h1⟩ := three_some h1
    cases dn1 with
    | cons p p' =>
      cases p' with
      | cons p' p'' =>
        cases p'' with
        | cons p'' z =>
          cases z
          exact ⟨_, _, _, rfl, q.nx _ H1 _ S1 x1 (((av1.set i p).set j p').set l p'') as1 h1⟩
end
end L3
/-! ## L3S -/
/-! values at a known place; repr(a) != repr(b) -/
namespace L3
open PySem PySem.Spec L2
open PyProof.Rows hiding St

def weak : D → D
  | .own _ x => .k x
  | .wy _ ks => .k (.tup ks)
  | d => d
theorem weak_den {K : PySem.W.Frag} {H : Hp} {d : D} {v : V} (h : Den K H d v) : Den K H (weak d) v := by
  cases d with
  | own a x => exact h.2
  | wy a ks =>
    obtain ⟨b, xs, e, hb, q⟩ := h
    show KDen H (.tup ks) v
    rw [KDen]
    exact ⟨b, _, e, hb, q⟩
  | _ => exact h
def tWk3 (t : TE3) : TE3 := fun σ S Q => t σ S fun d S1 => Q (weak d) S1
section
variable {X : Cx} {e : Expr} {te : TE3} {es : List Expr} {pos : Pos}
theorem pwk3 (h : PE3 X e te) : PE3 X e (tWk3 te) := PE.imp h fun σ H Q ⟨σd, S, R, av, as, h, q⟩ => ⟨σd, S, _, av, as, h, fun v H' d S' x as' dn hr => q v H' (weak d) S' x as' (weak_den dn) hr⟩
/-- what a slot holds is at some place -/
def tOwn3 (i : Nat) (t : TS3) : TS3 := fun D3 σ S => ∃ ks, σ[i]? = some (some (Dt ks)) ∧ ∀ a, t D3 (σ.set i (some (.own a (.tup ks)))) S
theorem psown3 {ss : List Stmt} {t : TS3} (i : Nat) (h : PSs3 X ss t) : PSs3 X ss (tOwn3 i t) := PSs.imp h fun D σ H ⟨σd, S, D3, av, as, ⟨ks, ei, h⟩, q⟩ => by
  obtain ⟨v, e1, dn⟩ := av.get i _ ei
  have dn' : KDen H (.tup ks) v := dn
  have dn2 := dn'
  rw [KDen] at dn2
  obtain ⟨a, xs, rfl, _, _⟩ := dn2
  refine ⟨_, S, D3, ?_, as, h a, q⟩
  have := av.set i (d := .own a (.tup ks)) (v := .ref a) ⟨rfl, dn'⟩
  have e2 : σ.set i (some (.ref a)) = σ := by
    refine List.ext_getElem? fun n => ?_
    by_cases hn : i = n
    · subst hn
      have hl : i < σ.length := (List.getElem?_eq_some_iff.mp e1).1
      rw [List.getElem?_set_self hl, e1]
    · rw [List.getElem?_set_ne hn]
  rwa [e2] at this
theorem atI_zero {α : Type} (z : α) (xs : List α) : atI (z :: xs) 0 = some z := by
  unfold atI
  simp [ixN]
/-- the first item of such a tuple -/
def tFst3 (te : TE3) : TE3 := fun σ S Q => te σ S fun d S1 => match d with
  | .wy a (k :: ks) => Q (.own a k) S1
  | _ => False
theorem pfst3 {j p2} (he : PE3 X e te) (hu : X.A.units + 64 < cLine) : PE3 X (.Subscript e (.Constant (.int 0) j p2) pos) (tFst3 te) := by
  have raw : PE X (.Subscript e (.Constant (.int 0) j p2) pos) _ := pe_ix (X := X) (r := fun x y H Q => ∃ b z xs, x = .ref b ∧ y = .int 0 ∧ H b = some (.tup (z :: xs)) ∧ Q z H) (fun value slice pins s σ H x y v u Q I rx ry ⟨b, z, xs, ex, ey, hb, q⟩ hs => by
    subst ex ey
    exact ix_tup value slice pins s σ H _ _ v u Q I rx ry ⟨b, z :: xs, 0, z, rfl, rfl, .of hb, atI_zero z xs, q⟩ hs) he pe_int (by exact fun _ _ => rfl)
  refine PE.imp raw fun σ H Q ⟨σd, S, R, av, as, h, q⟩ => seqE av as h fun v H1 d S1 x1 k1 av1 as1 dn1 h1 => ?_
  split at h1
  · rename_i a k ks
    obtain ⟨b, xs, rfl, hb, hk⟩ := dn1
    rw [KDens] at hk
    obtain ⟨y, r, e, hy, _⟩ := hk
    cases e
    exact ⟨b, .ref a, xs, rfl, rfl, hb, q _ H1 (.own a k) S1 x1 as1 ⟨rfl, hy⟩ h1⟩
  · exact h1.elim
end
/-- tuple(l), l's first item at a known place -/
def rTupleW3 : List D → Sto → VK3 → Prop := fun ds S Q => a1 ds fun d => asR d fun a => ∃ b x ks, S a = some (.lst (.own b x :: List.map D.k ks)) ∧ Q (.wy b (x :: ks)) S
theorem c_tupleW {X : Cx} : CallR3 X (.type "tuple") rTupleW3 := by
  intro pins s σ H vs us Q I r ⟨ds, S, R, as, dn, hr, q⟩
  obtain ⟨d, rfl, h1⟩ := a1_some hr
  obtain ⟨v, rfl, dv⟩ := dens1 dn
  obtain ⟨a, rfl, b, x, ks, ha, h2⟩ := asR_some h1
  have dv' : v = V.ref a := dv
  subst dv'
  obtain ⟨ws, e1, d1⟩ := as a _ ha
  cases d1 with
  | @cons _ w0 _ ws' r0 t0 =>
    obtain ⟨e0, k0⟩ := r0
    subst e0
    refine call_tuple_of pins s σ H _ us Q I r ⟨a, _, rfl, .inl ⟨.of e1, fun l n => ?_⟩⟩
    obtain ⟨as2, x2, k2⟩ := as.hide (u := .tup (.ref b :: ws')) n
    refine q (.ref l) _ (.wy b (x :: ks)) S x2 as2 ⟨l, ws', rfl, upd_same, ?_⟩ h2
    rw [KDens]
    exact ⟨_, _, rfl, KDen.keep k2 _ _ k0, KDens.keep k2 _ _ (nks_den t0 (nks_map ks))⟩

/-! ### repr(a) != repr(b), one object -/
section
variable {M : Model} {A : Around} {E : Value → Shared → Prop} {s : Shared} {α : Type} {m : Sem α} {Q : α → Shared → Prop}
/-- what surrounds a step is told more closely -/
structure Finer (A A' : Around) : Prop where
  sub : ∀ Γ : PySem.Ctx, Γ.In A' → Γ.In A
  un : A'.units = A.units
theorem finer_run {A' : Around} (f : Finer A A') (h : wpAny M A m Q E s) : wpAny M A' m Q E s := fun Γ p hΓ => h Γ p (f.sub Γ hΓ)
theorem finer_guards (h : ∀ A' g, Finer A A' → A'.guards = some g → wpAny M A' m Q E s) : wpAny M A m Q E s := fun Γ p hΓ =>
  h { A with guards := some (Γ.code.guards ++ guardsOf Γ.below) } _ ⟨fun Δ ⟨a, b, c, d, e⟩ => ⟨a, b, c, fun g hg => (d _ rfl).trans (hΓ.2.2.2.1 g hg), e⟩, rfl⟩ rfl Γ p ⟨hΓ.1, hΓ.2.1, hΓ.2.2.1, fun g hg => Option.some.inj hg, hΓ.2.2.2.2⟩
end
section
variable {prog : Program} {w : World} {A : Around} {E : Value → Shared → Prop} {s : Shared} {a : Addr} {o : Obj} {items : Array Value} {n : Nat} {ts : List Str} {g : List Code}
def reprG (g : List Code) (a : Addr) (ts : List Str) : Str := if (g.any fun c => tupGuardF (.ref a) (c, default)) = true then "(...)" else tupleText ts
theorem repr_guard {Q : Value → Shared → Prop} (hu : A.units + 1 < cLine) (hg : A.guards = some g) (hT : s.heap.IsTuple a items) (hR : ReprAll prog w items.toList ts) (hz : (tupleText ts).length ≤ sizeLine)
    (h : ∀ u tk, Q (.str (reprG g a ts) u) { s with toks := tk }) : wpAny (model prog w) A (call (.builtin "repr") [.ref a]) Q E s := by
  obtain ⟨o, ha, hc, n, hd⟩ := id hT
  have ty : s.TypeIs (.ref a) "tuple" := ⟨o, ha, hc⟩
  refine call_repr_slot hu ty F.slot_tuple_repr ?_
  have hg1 : A.in1.guards = some g := hg
  refine wpAny_call (codeAny_call_builtin_own (Code.quiet_builtin _ (by decide +kernel)) F.entry_tuple_repr (F.slot_tuple_repr.check _ _ _ _ _ _ _ _ ty (F.args_tuple_repr_1 _) ?_))
  show wpOwn _ _ _ (Builtin.tupleReprAt 0 ⟨[.ref a], []⟩) _ _ s
  rw [tuple_repr_tree, tupleReprUnderWay_eq]
  refine wpOwn_bind (wpOwn_stackTailAny hg1 (tupGuardF_off _) (tupGuardF_pos _) ?_)
  unfold reprG at h
  cases q : (g.any fun c => tupGuardF (.ref a) (c, default)) with
  | true =>
    rw [q, if_pos rfl] at h
    refine wpOwn_of_wpAny (PySem.W.KFB.if_so rfl ?_)
    refine wpAny_bind (wpAny_rule ?_)
    exact wpAny_bind (wpAny_mkStr (wpAny_pure ⟨_, _, rfl, h _ _⟩) (by decide +kernel))
  | false =>
    rw [q, if_neg Bool.false_ne_true] at h
    refine wpOwn_of_wpAny (PySem.W.KFB.if_not rfl ?_)
    exact wpAny_tupleReprRest ha hd hR (fun u tk => ⟨_, _, rfl, h u tk⟩) (by omega)
end
/-- a tuple of small ints is shown by a short text -/
def Small (ks : List NK) : Prop := ks.length ≤ 10 ∧ ∀ k ∈ ks, ∃ i : Nat, i < 10 ∧ k = .num (i : Int)
def nkText : NK → Str
  | .num i => toString i
  | _ => "None"
theorem digit_len : ∀ i : Nat, i < 10 → ((toString (i : Int) : String) : Str).length = 1 := by decide +kernel
theorem digit_log : ∀ i : Nat, i < 10 → (i : Int).natAbs.log2 < 1920 := by decide +kernel
theorem small_repr {prog : Program} {w : World} {H : Hp} : ∀ {ks : List NK} {xs : List V} {us : List Value}, KDens H ks xs → Vals xs us → (∀ k ∈ ks, ∃ i : Nat, i < 10 ∧ k = .num (i : Int)) → ReprAll prog w us (ks.map nkText) ∧ piled (ks.map nkText) = 3 * ks.length
  | [], xs, us, h, rv, _ => by
    rw [KDens] at h
    subst h
    cases rv
    exact ⟨.nil, rfl⟩
  | k :: ks, xs, us, h, rv, hs => by
    rw [KDens] at h
    obtain ⟨v, r, rfl, h1, h2⟩ := h
    cases rv with
    | cons r1 r2 =>
      obtain ⟨i, hi, rfl⟩ := hs k List.mem_cons_self
      rw [KDen] at h1
      subst h1
      obtain ⟨t, rfl⟩ := r1
      obtain ⟨a1, a2⟩ := small_repr (prog := prog) (w := w) h2 r2 fun k hk => hs k (List.mem_cons_of_mem _ hk)
      refine ⟨.cons (ReprIs.int t (digit_log i hi)) a1, ?_⟩
      rw [List.map_cons, piled_cons, a2, List.length_cons]
      have := digit_len i hi
      show ((toString (i : Int) : String) : Str).length + 2 + 3 * ks.length = _
      rw [this]
      omega
def asOwn (a : Addr) (e : D) (Q : Prop) : Prop := match e with
  | .own b _ => a = b ∧ Q
  | _ => False
def tRep3 (ta tb : TE3) : TT3 := fun σ S Q => ta σ S fun d S1 => match d with
  | .own a (.tup ks) => Small ks ∧ tb σ S1 fun e S2 => asOwn a e (Q false S2)
  | _ => False
section
variable {X : Cx} {e1 e2 : Expr} {ta tb : TE3} {p1 p2 q1 q2 pos : Pos}
theorem ptrep3 (hu : X.A.units + 64 < cLine) (hg : Gl X "repr") (hm : X.mg "repr" = none) (ha : PE3 X e1 ta) (hb : PE3 X e2 tb)
    (h1 : starEach [e1] X.env = [(false, eval e1 X.env)] := by rfl) (h2 : starEach [e2] X.env = [(false, eval e2 X.env)] := by rfl)
    (hk : behindInMarks .NotEq (.Call (.Name "repr" p2) [e2] [] q2) = false := by first | exact nobehind _ (by decide) (by decide) | rfl) : PT3 X (.Compare (.Call (.Name "repr" p1) [e1] [] q1) [.NotEq] [.Call (.Name "repr" p2) [e2] [] q2] pos) (tRep3 ta tb) := by
  have raw : PT X (.Compare (.Call (.Name "repr" p1) [e1] [] q1) [.NotEq] [.Call (.Name "repr" p2) [e2] [] q2] pos) (fun σ H Q => up X.K X.w ta σ H fun x H1 => ∃ a xs ks, x = .ref a ∧ H1 a = some (.tup xs) ∧ KDens H1 ks xs ∧ Small ks ∧ up X.K X.w tb σ H1 fun y H2 => y = .ref a ∧ H2 a = some (.tup xs) ∧ KDens H2 ks xs ∧ Q false H2) := by
    refine ⟨fun pins s σ H Q I h => ?_⟩
    refine finer_guards fun A' g f hgd => ?_
    have call1 : ∀ (a : Addr) (xs : List V) (ks : List NK) (H1 : Hp) (s1 : Shared) (Q1 : Value → Shared → Prop), Inv X pins σ H1 s1 → H1 a = some (.tup xs) → KDens H1 ks xs → Small ks → (∀ t tk, Q1 (.str (reprG g a (ks.map nkText)) t) { s1 with toks := tk }) →
        wpAny (model X.prog X.w) A' (call (.builtin "repr") [.ref a]) Q1 X.xe s1 := fun a xs ks H1 s1 Q1 I1 e hx sm hq => by
      obtain ⟨its, rv, pl, _⟩ := I1.tuple (.of e)
      obtain ⟨r1, r2⟩ := small_repr (prog := X.prog) (w := X.w) hx rv sm.2
      have l1 := fmt_text (ks.map nkText)
      have l2 := sm.1
      have l3 : 1000 ≤ sizeLine := by decide
      exact repr_guard (by rw [f.un]; omega) hgd pl r1 (by omega) hq
    refine wpAny_isTrue_Compare1 ?_ hk
    refine wpAny_Call_Name_kw (finer_run f (ld_blt I hg hm (show bootBuiltins "repr" = some (.builtin "repr") by decide +kernel) ?_))
    rw [h1]
    refine Calls.callWith_builtin rfl (Calls.evalArgs_plain (Calls.spliced_cons (rest := []) (thn (finer_run f (ha.run pins s σ H _ I h)) fun u s1 ⟨x, H1, I1, rx, a, xs, ks, ex, hx, hks, sm, h'⟩ => Calls.spliced_nil ?_)))
    subst ex
    obtain rfl : u = Value.ref a := rx
    refine call1 a xs ks H1 s1 _ I1 hx hks sm fun t tk => ?_
    refine wpAny_Call_Name_kw (finer_run f (ld_blt (I1.tok tk) hg hm (show bootBuiltins "repr" = some (.builtin "repr") by decide +kernel) ?_))
    rw [h2]
    refine Calls.callWith_builtin rfl (Calls.evalArgs_plain (Calls.spliced_cons (rest := []) (thn (finer_run f (hb.run pins _ σ H1 _ (I1.tok tk) h')) fun u s2 ⟨y, H2, I2, ry, ey, hx2, hks2, h''⟩ => Calls.spliced_nil ?_)))
    subst ey
    obtain rfl : u = Value.ref a := ry
    refine call1 a xs ks H2 s2 _ I2 hx2 hks2 sm fun t' tk' => ?_
    show wpAny _ _ (richCompare .NotEq _ _) _ _ _
    refine SeqAt.RcNeAt.str_str _ _ _ _ X.prog X.w _ _ ?_
    refine wpAny_truthy_bool ⟨H2, I2.tok tk', ?_⟩
    simpa using h''
  refine PT.imp raw fun σ H Q ⟨σd, S, R, av, as, h, q⟩ => seqE av as h fun v H1 d S1 x1 k1 av1 as1 dn1 h1 => ?_
  split at h1
  · rename_i a ks
    obtain ⟨sm, h2⟩ := h1
    obtain ⟨rfl, hk⟩ := dn1
    rw [KDen] at hk
    obtain ⟨a', xs, ea, hx, hks⟩ := hk
    cases ea
    refine ⟨a, xs, ks, rfl, hx, hks, sm, seqE av1 as1 h2 fun u H2 e S2 x2 k2 av2 as2 dn2 h3 => ?_⟩
    unfold asOwn at h3
    split at h3
    · obtain ⟨rfl, hq⟩ := h3
      exact ⟨dn2.1, k2.tup _ _ hx, KDens.keep k2 _ _ hks, q false H2 S2 (x1.trans x2) as2 hq⟩
    · exact h3.elim
  · exact h1.elim
end
end L3
/-! ## L3T -/
/-! a < b of tuples by their first difference alone -/
namespace PySem
open Sem (wp)
open SeqAt
open AutoSeq1 (wpAny_loadPart')
open MeetsSeq MeetsSeq2 MeetsSeq3 SeqRoads2
theorem l3_lt_first (l b : Addr) (items items2 : Array Value) (n n2 : Nat) (dd dd2 : Option Addr) (sl sl2 : Array (Option Value)) (e r : Nat → Bool) :
    Meets (Builtin.«tuple.__lt__» ⟨[.ref l, .ref b], []⟩)
      (fun A R s => s.heap.get? l = some { cls := .type "tuple", dict := dd, data := .seq items n, slots := sl } ∧ s.heap.get? b = some { cls := .type "tuple", dict := dd2, data := .seq items2 n2, slots := sl2 } ∧
        (∀ j (h1 : j < items.size) (h2 : j < items2.size), EqAt A.in1 s items[j] items2[j] (e j)) ∧ (∀ j (h1 : j < items.size) (h2 : j < items2.size), (∀ i, i < j → e i = true) → e j = false → RcLt A.in1 s items[j] items2[j] (r j)) ∧
        R (.ok (.ret (.bool (firstLt e r (decide (items.size < items2.size)) (List.range (min items.size items2.size)))))) s) :=
  .of_wp fun prog w A R s h => by
    obtain ⟨hp, g, d, tk, os⟩ := s
    obtain ⟨ga, gb, he, hr, hR⟩ := h
    have sub := AutoSeq1.sub_tuple_tuple
    have lz : (items.toList.zip items2.toList).length = min items.size items2.size := by simp
    wp_walk using wpAny_loadPart' ga, wpAny_loadPart' gb, wpAny_forIn_list _ (fun rest b s' => b.1 = none ∧ s' = ⟨hp, g, d, tk, os⟩ ∧ ∃ i, rest = (items.toList.zip items2.toList).drop i ∧ (∀ k, k < i → e k = true) ∧
      R (.ok (.ret (.bool (firstLt e r (decide (items.size < items2.size)) ((List.range (min items.size items2.size)).drop i))))) ⟨hp, g, d, tk, os⟩) _
    case turn =>
      rintro ⟨y, x⟩ rest b s' ⟨hb', rfl, i, hz, hbe, hR⟩
      have li : i < (items.toList.zip items2.toList).length := by
        refine Nat.lt_of_not_le fun hh => ?_
        rw [List.drop_of_length_le hh] at hz
        cases hz
      have lm : i < min items.size items2.size := lz ▸ li
      have l1 : i < items.size := by omega
      have l2 : i < items2.size := by omega
      rw [List.drop_eq_getElem_cons li] at hz
      injection hz with hyx hrest
      have hy : y = items[i] := by simpa using congrArg Prod.fst hyx
      have hx : x = items2[i] := by simpa using congrArg Prod.snd hyx
      subst hy hx
      have hd : (List.range (min items.size items2.size)).drop i = i :: (List.range (min items.size items2.size)).drop (i + 1) := by simp [List.drop_eq_getElem_cons, lm]
      rw [hd] at hR
      refine wpAny_bind (he i l1 l2 prog w _ _ ?_)
      cases hy : e i with
      | true =>
        rw [firstLt_yes hy] at hR
        wp_walk
        exact ⟨rfl, rfl, i + 1, hrest, fun k hk => by
          rcases Nat.lt_succ_iff_lt_or_eq.mp hk with h | h
          · exact hbe k h
          · rw [h]; exact hy, hR⟩
      | false =>
        rw [firstLt_no hy] at hR
        have hk := hr i l1 l2 hbe hy prog w
        generalize richCompare CmpOp.Lt items[i] items2[i] = rc at hk ⊢
        wp_walk
        refine hk _ _ ?_
        wp_walk
        exact ⟨_, rfl, hR⟩
    case fin =>
      rintro ⟨b1, b2⟩ s' ⟨hb', rfl, i, hz, _, hR⟩
      simp only at hb'
      subst hb'
      have li : min items.size items2.size ≤ i := by
        refine Nat.le_of_not_lt fun hh => ?_
        rw [List.drop_eq_getElem_cons (lz.symm ▸ hh)] at hz
        cases hz
      rw [List.drop_of_length_le (by simpa using li)] at hR
      wp_walk
      exact ⟨_, rfl, by simpa [Builtin.Tuple.tupleCompareSizes, firstLt] using hR⟩
    case h =>
      exact ⟨rfl, rfl, 0, rfl, fun k hk => absurd hk (Nat.not_lt_zero k), by simpa using hR⟩
theorem l3_lt_tuples {A : Around} {s : Shared} {l b : Addr} {items items2 : Array Value} {e r : Nat → Bool} (hl : s.heap.IsTuple l items) (hb : s.heap.IsTuple b items2) (hu : A.units < cLine)
    (he : ∀ j (h1 : j < items.size) (h2 : j < items2.size), EqAt A.in1 s items[j] items2[j] (e j)) (hr : ∀ j (h1 : j < items.size) (h2 : j < items2.size), (∀ i, i < j → e i = true) → e j = false → RcLt A.in1 s items[j] items2[j] (r j)) :
    RcLt A s (.ref l) (.ref b) (firstLt e r (decide (items.size < items2.size)) (List.range (min items.size items2.size))) := fun prog w E Q h => by
  obtain ⟨⟨cls, dd, data, sl⟩, ho, hc, n, hd⟩ := id hl
  obtain ⟨⟨cls2, dd2, data2, sl2⟩, ho2, hc2, n2, hd2⟩ := id hb
  simp only at hc hd hc2 hd2
  subst hc hd hc2 hd2
  exact richCompare_meets_room (op := .Lt) ⟨_, ho, rfl⟩ ⟨_, ho2, rfl⟩ F.slot_tuple_lt F.entry_tuple_lt (F.args_tuple_lt_2 _ _) (l3_lt_first l b items items2 n n2 dd dd2 sl sl2 e r) ⟨ho, ho2, he, hr, (fun x => nomatch x), h⟩ hu
end PySem
namespace L3
open PySem PySem.Spec L2
open PyProof.Rows hiding St
mutual
def cmpB : NK → NK → Bool
  | .num _, .num _ => true
  | .text _, .text _ => true
  | .tup ks, .tup ls => cmpsB ks ls
  | _, _ => false
def cmpsB : List NK → List NK → Bool
  | k :: ks, l :: ls => if k = l then cmpsB ks ls else cmpB k l
  | _, _ => true
end
/-- where all ahead is equal, the items compare -/
theorem cmps_at : ∀ {ks ls : List NK} {j : Nat} {k l : NK}, cmpsB ks ls = true → ks[j]? = some k → ls[j]? = some l → (∀ i, i < j → ks[i]? = ls[i]?) → k ≠ l → cmpB k l = true
  | [], _, _, _, _, _, h, _, _, _ => by simp at h
  | _ :: _, [], _, _, _, _, _, h, _, _ => by simp at h
  | k :: ks, l :: ls, 0, _, _, h, e1, e2, _, hn => by
    cases e1
    cases e2
    rw [cmpsB, if_neg hn] at h
    exact h
  | k :: ks, l :: ls, j + 1, k', l', h, e1, e2, hb, hn => by
    have e0 : k = l := by simpa using hb 0 (Nat.succ_pos _)
    rw [cmpsB, if_pos e0] at h
    exact cmps_at h (by simpa using e1) (by simpa using e2) (fun i hi => by simpa using hb (i + 1) (Nat.succ_lt_succ hi)) hn
theorem denAt {H : Hp} {ks : List NK} {xs : List V} {us : List Value} (h : KDens H ks xs) (rv : Vals xs us) {j : Nat} (hj : j < us.length) : ∃ k x, ks[j]? = some k ∧ KDen H k x ∧ L2.RelV x us[j] := by
  have lx := Paired.length rv
  have lk := Paired.length (KDens.paired h)
  obtain ⟨k, ek⟩ : ∃ k, ks[j]? = some k := ⟨_, List.getElem?_eq_getElem (by omega)⟩
  obtain ⟨x, ex, hk⟩ := paired_at (KDens.paired h) ek
  obtain ⟨u, eu, ru⟩ := rv.get ex
  rw [List.getElem?_eq_getElem hj] at eu
  cases eu
  exact ⟨k, x, ek, hk, ru⟩
section
variable {P : Program} {w : World} {H : Hp} {s : Shared}
/-- values that compare do so -/
theorem lt_leaf {a b : NK} {x y : V} {u v : Value} {A : Around} (hc : cmpB a b = true) (nt : ∀ ks, a ≠ .tup ks) (hx : KDen H a x) (rx : L2.RelV x u) (hy : KDen H b y) (ry : L2.RelV y v) : ∃ r, SeqAt.RcLt A s u v r := by
  cases a with
  | num i =>
    cases b with
    | num j =>
      rw [KDen] at hx hy
      subst hx hy
      obtain ⟨t, rfl⟩ := rx
      obtain ⟨t', rfl⟩ := ry
      exact ⟨_, fun prog w E Q h => HT.rcLt_int A s i t j t' prog w E Q h⟩
    | _ => simp [cmpB] at hc
  | text i =>
    cases b with
    | text j =>
      rw [KDen] at hx hy
      subst hx hy
      obtain ⟨t, rfl⟩ := rx
      obtain ⟨t', rfl⟩ := ry
      exact ⟨_, fun prog w E Q h => DT.rcLt_str A s i t j t' prog w E Q h⟩
    | _ => simp [cmpB] at hc
  | tup ks => exact absurd rfl (nt ks)
  | none => cases b <;> simp [cmpB] at hc
theorem depth_mem : ∀ {ks : List NK} {k : NK}, k ∈ ks → k.depth ≤ NestedKey.depthAll ks
  | x :: ks, k, h => by
    rw [NestedKey.depthAll]
    rcases List.mem_cons.mp h with rfl | h
    · exact Nat.le_max_left _ _
    · exact Nat.le_trans (depth_mem h) (Nat.le_max_right _ _)
theorem lt_den (ok : HOk P w H s.heap) : ∀ (n : Nat) (a b : NK) (x y : V) (u v : Value) (A : Around), a.depth ≤ n → b.depth ≤ n → cmpB a b = true → KDen H a x → L2.RelV x u → KDen H b y → L2.RelV y v → A.units + 2 * n + 8 < cLine → ∃ r, SeqAt.RcLt A s u v r := by
  intro n
  induction n with
  | zero =>
    intro a b x y u v A ha hb hc hx rx hy ry hu
    refine lt_leaf hc (fun ks e => ?_) hx rx hy ry
    subst e
    rw [NestedKey.depth] at ha
    omega
  | succ n ih =>
    intro a b x y u v A ha hb hc hx rx hy ry hu
    by_cases q : ∃ ks, a = .tup ks
    · obtain ⟨ks, rfl⟩ := q
      cases b with
      | tup ls =>
        rw [cmpB] at hc
        rw [NestedKey.depth] at ha hb
        rw [KDen] at hx hy
        obtain ⟨p, xs, rfl, hp, hxs⟩ := hx
        obtain ⟨q, ys, rfl, hq, hys⟩ := hy
        obtain ⟨_, its, rv, it⟩ := (show ObjOk P w H s.heap p (.tup xs) from ok p _ hp)
        obtain ⟨_, its2, rv2, it2⟩ := (show ObjOk P w H s.heap q (.tup ys) from ok q _ hq)
        have ru : u = Value.ref p := rx
        have rw' : v = Value.ref q := ry
        subst ru rw'
        have item : ∀ (j : Nat) (h1 : j < its.toArray.size) (h2 : j < its2.toArray.size), ∃ k l x y, ks[j]? = some k ∧ ls[j]? = some l ∧ KDen H k x ∧ KDen H l y ∧ L2.RelV x its.toArray[j] ∧ L2.RelV y its2.toArray[j] := fun j h1 h2 => by
          obtain ⟨k, x, a1, a2, a3⟩ := denAt hxs rv (j := j) (by simpa using h1)
          obtain ⟨l, y, b1, b2, b3⟩ := denAt hys rv2 (j := j) (by simpa using h2)
          exact ⟨k, l, x, y, a1, b1, a2, b2, by simpa using a3, by simpa using b3⟩
        have dk : ∀ {j : Nat} {k : NK}, ks[j]? = some k → k.depth ≤ n := fun e => Nat.le_trans (depth_mem (List.mem_of_getElem? e)) (by omega)
        have dl : ∀ {j : Nat} {k : NK}, ls[j]? = some k → k.depth ≤ n := fun e => Nat.le_trans (depth_mem (List.mem_of_getElem? e)) (by omega)
        have un : A.in1.units = A.units + 1 := rfl
        -- where the items differ
        have low : ∀ j (h1 : j < its.toArray.size) (h2 : j < its2.toArray.size), (∀ i, i < j → ks[i]? = ls[i]?) → ¬ ks[j]? = ls[j]? → ∃ r, SeqAt.RcLt A.in1 s its.toArray[j] its2.toArray[j] r := fun j h1 h2 hb hn => by
          obtain ⟨k, l, x, y, a1, b1, a2, b2, a3, b3⟩ := item j h1 h2
          have hne : k ≠ l := fun z => hn (by rw [a1, b1, z])
          exact ih k l x y _ _ A.in1 (dk a1) (dl b1) (cmps_at hc a1 b1 hb hne) a2 a3 b2 b3 (by omega)
        refine ⟨_, l3_lt_tuples (e := fun j => decide (ks[j]? = ls[j]?)) (r := fun j => open Classical in if z : ∃ r, ∃ (h1 : j < its.toArray.size) (h2 : j < its2.toArray.size), SeqAt.RcLt A.in1 s its.toArray[j] its2.toArray[j] r then z.choose else false) it it2 (by omega) (fun j h1 h2 => ?_) fun j h1 h2 hb he => ?_⟩
        · obtain ⟨k, l, x, y, a1, b1, a2, b2, a3, b3⟩ := item j h1 h2
          have := dk a1
          have := dl b1
          have e : decide (ks[j]? = ls[j]?) = NestedKey.beq k l := by
            rw [a1, b1, ← NestedKey.decide_eq]
            simp
          rw [e]
          exact eqAt_key k l A.in1 s _ _ (KDen.nested ok k x _ a2 a3) (KDen.nested ok l y _ b2 b3) (by omega)
        · obtain ⟨r, hr⟩ := low j h1 h2 (fun i hi => of_decide_eq_true (hb i hi)) (of_decide_eq_false he)
          have z : ∃ r, ∃ (h1 : j < its.toArray.size) (h2 : j < its2.toArray.size), SeqAt.RcLt A.in1 s its.toArray[j] its2.toArray[j] r := ⟨r, h1, h2, hr⟩
          simp only [dif_pos z]
          obtain ⟨_, _, h⟩ := z.choose_spec
          exact h
      | _ => simp [cmpB] at hc
    · exact lt_leaf hc (fun ks e => q ⟨ks, e⟩) hx rx hy ry
end
end L3
/-! ## L3U -/
/-! sorted(l, key=f), f a pure rank of plain values and tuples of them -/
namespace L3
open PySem PySem.Spec L2
open PyProof.Rows hiding St

def isPl : NK → Bool
  | .num _ => true
  | .text _ => true
  | _ => false
def rk1 : NK → NK
  | .text x => .tup [.num 1, .text x]
  | k => .tup [.num 0, k]
def rk : NK → NK
  | .tup ks => .tup [.num 2, .tup (ks.map rk1)]
  | k => rk1 k
def rankable : NK → Bool
  | .tup ks => ks.all isPl && decide (ks.length ≤ 1000)
  | k => isPl k
theorem rk1_cmp {a b : NK} (ha : isPl a = true) (hb : isPl b = true) : cmpB (rk1 a) (rk1 b) = true := by
  cases a <;> cases b <;> simp [isPl] at ha hb <;> simp [rk1, cmpB, cmpsB]
theorem rks_cmp : ∀ {ks ls : List NK}, ks.all isPl = true → ls.all isPl = true → cmpsB (ks.map rk1) (ls.map rk1) = true
  | [], ls, _, _ => by simp [cmpsB]
  | _ :: _, [], _, _ => by simp [cmpsB]
  | k :: ks, l :: ls, h1, h2 => by
    rw [List.all_cons, Bool.and_eq_true] at h1 h2
    rw [List.map_cons, List.map_cons, cmpsB]
    split
    · exact rks_cmp h1.2 h2.2
    · exact rk1_cmp h1.1 h2.1
theorem rk1_depth {a : NK} (ha : isPl a = true) : (rk1 a).depth = 1 := by
  cases a <;> simp [isPl] at ha <;> simp [rk1, NestedKey.depth, NestedKey.depthAll]
theorem rks_depth : ∀ {ks : List NK}, ks.all isPl = true → NestedKey.depthAll (ks.map rk1) ≤ 1
  | [], _ => by simp [NestedKey.depthAll]
  | k :: ks, h => by
    rw [List.all_cons, Bool.and_eq_true] at h
    rw [List.map_cons, NestedKey.depthAll, rk1_depth h.1]
    exact Nat.max_le.mpr ⟨Nat.le_refl _, rks_depth h.2⟩
theorem rankable_tup {ks : List NK} (h : rankable (.tup ks) = true) : ks.all isPl = true ∧ ks.length ≤ 1000 := by
  rw [rankable, Bool.and_eq_true, decide_eq_true_eq] at h
  exact h
/-- a rank is a pair: a kind, and what compares with its like -/
theorem rk_pair {a : NK} (ha : rankable a = true) : ∃ (c : Int) (x : NK), rk a = .tup [.num c, x] ∧ x.depth ≤ 2 := by
  cases a with
  | num i => exact ⟨0, .num i, rfl, by simp [NestedKey.depth]⟩
  | text i => exact ⟨1, .text i, rfl, by simp [NestedKey.depth]⟩
  | tup ks => exact ⟨2, _, rfl, by rw [NestedKey.depth]; have := rks_depth (rankable_tup ha).1; omega⟩
  | none => simp [rankable, isPl] at ha
theorem rk_cmp {a b : NK} {c : Int} {x y : NK} (ha : rankable a = true) (hb : rankable b = true) (ea : rk a = .tup [.num c, x]) (eb : rk b = .tup [.num c, y]) : cmpB x y = true := by
  cases a with
  | num i =>
    cases b with
    | num j => cases ea; cases eb; rfl
    | text j => cases ea; cases eb
    | tup ks => cases ea; cases eb
    | none => simp [rankable, isPl] at hb
  | text i =>
    cases b with
    | num j => cases ea; cases eb
    | text j => cases ea; cases eb; rfl
    | tup ks => cases ea; cases eb
    | none => simp [rankable, isPl] at hb
  | tup ks =>
    cases b with
    | num j => cases ea; cases eb
    | text j => cases ea; cases eb
    | tup ls => cases ea; cases eb; rw [cmpB]; exact rks_cmp (rankable_tup ha).1 (rankable_tup hb).1
    | none => simp [rankable, isPl] at hb
  | none => simp [rankable, isPl] at ha

section
variable {P : Program} {w : World} {H : Hp} {s : Shared} {A : Around}
/-- v is the rank of some value -/
def IsRk (H : Hp) (v : Value) : Prop := ∃ a x, rankable a = true ∧ KDen H (rk a) x ∧ L2.RelV x v
theorem IsRk.parts (ok : HOk P w H s.heap) {v : Value} (h : IsRk H v) : ∃ a c y p z t u, rankable a = true ∧ rk a = .tup [.num c, y] ∧ y.depth ≤ 2 ∧ v = .ref p ∧ s.heap.IsTuple p #[.int c t, u] ∧ KDen H y z ∧ L2.RelV z u := by
  obtain ⟨a, x, ha, hx, rx⟩ := h
  obtain ⟨c, y, e, hd⟩ := rk_pair ha
  rw [e, KDen] at hx
  obtain ⟨p, xs, rfl, hp, hxs⟩ := hx
  rw [KDens] at hxs
  obtain ⟨v1, r1, rfl, h1, h2⟩ := hxs
  rw [KDens] at h2
  obtain ⟨v2, r2, rfl, h3, h4⟩ := h2
  rw [KDens] at h4
  subst h4
  rw [KDen] at h1
  subst h1
  obtain ⟨_, its, rv, it⟩ := (show ObjOk P w H s.heap p (.tup [.int c, v2]) from ok p _ hp)
  obtain ⟨u1, u2, rfl, ru1, ru2⟩ := vals2 rv
  obtain ⟨t, rfl⟩ := ru1
  exact ⟨a, c, y, p, v2, t, u2, ha, e, hd, rx, it, h3, ru2⟩
theorem ranks_tot (ok : HOk P w H s.heap) (hu : A.units + 64 < cLine) : Srt.Tot P w A s (tuples' true) (fun p => IsRk H p.1) := fun p q hp hq => by
  obtain ⟨a, c, x, pa, z, t, u, ha, ea, da, ep, ⟨o1, g1, c1, n1, d1⟩, kz, rz⟩ := hp.parts ok
  obtain ⟨b, c', y, pb, z', t', u', hb, eb, db, eq', ⟨o2, g2, c2, n2, d2⟩, kz', rz'⟩ := hq.parts ok
  rw [ep, eq']
  by_cases hc : c = c'
  · subst hc
    have cm := rk_cmp ha hb ea eb
    by_cases hxy : x = y
    · refine ⟨decide ((#[Value.int c t, u] : Array Value).size < (#[Value.int c t', u'] : Array Value).size), PySem.W.kat_lt g1 d1 g2 d2 ?_⟩
      refine PySem.W.kat_cons (SeqAt.EqAt.int_int c t c t' P w _ _ ?_)
      rw [show (c == c) = true by simp]
      refine PySem.W.kat_yes (PySem.W.kat_cons ?_)
      refine eqAt_key x y A s u u' (KDen.nested ok x z u kz rz) (KDen.nested ok y z' u' kz' rz') (by omega) P w _ _ ?_
      rw [← NestedKey.decide_eq, decide_eq_true hxy]
      exact PySem.W.kat_yes (PySem.W.kat_nil ⟨rfl, rfl⟩)
    · obtain ⟨r, hr⟩ := lt_den ok 2 x y z z' u u' A da db cm kz rz kz' rz' (by omega)
      refine ⟨r, PySem.W.kat_lt g1 d1 g2 d2 ?_⟩
      refine PySem.W.kat_cons (SeqAt.EqAt.int_int c t c t' P w _ _ ?_)
      rw [show (c == c) = true by simp]
      refine PySem.W.kat_yes (PySem.W.kat_cons ?_)
      refine eqAt_key x y A s u u' (KDen.nested ok x z u kz rz) (KDen.nested ok y z' u' kz' rz') (by omega) P w _ _ ?_
      rw [← NestedKey.decide_eq, decide_eq_false hxy]
      refine PySem.W.kat_no ?_
      show wpAny _ _ (oneLt' false u u') _ _ _
      exact PySem.W.kat_one u u' (hr P w _ _ ⟨rfl, rfl⟩)
  · refine ⟨decide (c < c'), PySem.W.kat_lt g1 d1 g2 d2 ?_⟩
    refine PySem.W.kat_cons (SeqAt.EqAt.int_int c t c' t' P w _ _ ?_)
    rw [show (c == c') = false by simp [hc]]
    refine PySem.W.kat_no ?_
    exact PyProof.Rows.oneLt_any_int ⟨rfl, rfl⟩
theorem ranks_kind (ok : HOk P w H s.heap) {ks : List Value} (h : ∀ v ∈ ks, IsRk H v) (h0 : 0 < ks.length) {E : Value → Shared → Prop} {Q : SortKind → Shared → Prop} (hq : Q (tuples' true) s) : wpAny (model P w) A (keyKind' ks.toArray) Q E s := by
  have firsts : ∀ l : List Value, (∀ v ∈ l, IsRk H v) → ∃ fs, PySem.W.KatTups s.heap l fs ∧ fs.length = l.length ∧ ∀ f ∈ fs, ∃ c t, f = Value.int c t := by
    intro l
    induction l with
    | nil => exact fun _ => ⟨[], trivial, rfl, fun _ h => nomatch h⟩
    | cons v l ih =>
      intro hl
      obtain ⟨fs, a1, a2, a3⟩ := ih fun v hv => hl v (List.mem_cons_of_mem _ hv)
      obtain ⟨a, c, y, p, z, t, u, _, _, _, ev, ⟨o, g, hc, n, hd⟩, _⟩ := (hl v List.mem_cons_self).parts ok
      refine ⟨.int c t :: fs, ⟨⟨p, o, _, n, ev, g, hc, hd, rfl⟩, a1⟩, by rw [List.length_cons, List.length_cons, a2], fun f hf => ?_⟩
      rcases List.mem_cons.mp hf with rfl | hf
      · exact ⟨c, t, rfl⟩
      · exact a3 f hf
  obtain ⟨fs, a1, a2, a3⟩ := firsts ks h
  refine PySem.W.kat_kind (T := .type "int") a1 (by omega) (fun v hv => ?_) (by decide) ?_
  · obtain ⟨c, t, rfl⟩ := a3 v hv
    exact PySem.W.Looks.of_pure rfl
  · show Q (tuples' _) s
    exact hq
end
end L3
/-! ## L3V -/
/-! sorted(l, key=f): the call -/
namespace L3
open PySem PySem.Spec L2
open PyProof.Rows hiding St

def rankSp : Sp3 := fun ds S R => ∃ k, ds = [.k k] ∧ rankable k = true ∧ ∀ S', (∀ x o, S x = some o → S' x = some o) → R (.k (rk k)) S'
theorem perm_paired {α β : Type} {F : α → β → Prop} {ys zs : List β} (h : zs.Perm ys) : ∀ {xs : List α}, Paired F xs ys → ∃ xs', xs'.Perm xs ∧ Paired F xs' zs := by
  induction h with
  | nil => intro xs r; exact ⟨xs, .refl _, r⟩
  | cons x _ ih =>
    intro xs r
    cases r with
    | cons r t =>
      obtain ⟨xs', p, q⟩ := ih t
      exact ⟨_ :: xs', p.cons _, .cons r q⟩
  | swap x y l =>
    intro xs r
    cases r with
    | cons r t =>
      cases t with
      | cons r' t => exact ⟨_, List.Perm.swap _ _ _, .cons r' (.cons r t)⟩
  | trans _ _ ih1 ih2 =>
    intro xs r
    obtain ⟨xs1, p1, q1⟩ := ih2 r
    obtain ⟨xs2, p2, q2⟩ := ih1 q1
    exact ⟨xs2, p2.trans p1, q2⟩
section
variable {X : Cx} {pins : List (Addr × Obj)} {σ : Sl} {H : Hp} {S : Sto} {s : Shared} {k : Nat} {f : Addr} {fd : FuncData} {ps : List Str}
theorem rank_call (F : Fn3 X.prog X.w X.K X.mg X.base k f fd ps rankSp) (hp : ps.length = 1) (hb : Binds X.K fd ps []) (hr : Room (k + 1) X.A) (I : Inv X pins σ H s) (as : AbsS X.K X.w H S) {a : NK} {x : V} {u : Value} (ha : rankable a = true) (hx : KDen H a x) (rx : L2.RelV x u) :
    wpAny (model X.prog X.w) X.A.in1.in1 (call (.ref f) [u]) (fun v s' => ∃ y H', Inv X pins σ H' s' ∧ Ext S H S H' ∧ AbsS X.K X.w H' S ∧ KDen H' (rk a) y ∧ L2.RelV y v ∧ (∀ b o, s.heap.get? b = some o → H b = none → b ∉ frs X.stack → s'.heap.get? b = some o ∧ H' b = none)) (fun _ _ => False) s := by
  have rm : Room k X.A.in1.in1 := ⟨hr.hd, by have := hr.dp; show X.A.depth + 3 * k + 5 < _; omega, by have := hr.un; show X.A.units + 1 + 1 + 16 * k + 200 < _; omega⟩
  have q0 : upSp X.K X.w ps.length rankSp [x] H (fun v H' => Ext S H S H' ∧ AbsS X.K X.w H' S ∧ KDen H' (rk a) v) E0 := ⟨hp.symm, [.k a], S, fun d S' => d = .k (rk a) ∧ ∀ x o, S x = some o → S' x = some o, as, .cons hx .nil, ⟨a, rfl, ha, fun S' h => ⟨rfl, h⟩⟩, fun v H' d S' x2 as2 dn2 ⟨e1, e2⟩ => by
    subst e1
    exact ⟨fun b o e n => ⟨(x2 b o e n).1, n⟩, fun b o e => as2 b o (e2 b o e), dn2⟩⟩
  refine wpAny_call (codeAny_mono (F.run X.A.in1.in1 X.stack s H ⟨[u], []⟩ [u] [x] _ E0 rm I.env0.in1.in1 (by have := hb s [u] I.kIn (by rw [List.append_nil, hp]; rfl); rwa [List.append_nil] at this) (.cons rx .nil) q0) fun r s' hq => ?_)
  cases r with
  | error e => exact hq
  | ok fl =>
    cases fl with
    | ret v =>
      obtain ⟨y, H', os, bare, un, hok, ry, x2, as2, kd⟩ := hq
      obtain ⟨y', H'', I', ry', rfl, rfl⟩ := I.after (Q := fun y' H'' => y' = y ∧ H'' = H') ⟨y, H', os, bare, un, hok, ry, rfl, rfl⟩
      exact ⟨y', H'', I', x2, as2, kd, ry, fun b o e n hn => ⟨un.keep b o e n hn (by simp), un.free b o e n (by simp)⟩⟩
    | next => exact hq
    | brk => exact hq
    | cont => exact hq
theorem IsRk.keep {H H' : Hp} (k : Keeps H H') {v : Value} (h : IsRk H v) : IsRk H' v := let ⟨a, x, ha, hx, rx⟩ := h; ⟨a, x, ha, KDen.keep k _ _ hx, rx⟩
/-- an object that nobody knows of is changed -/
theorem Inv.scratch {b : Addr} {g : Obj → Obj} {h1 : Heap} (I0 : Inv X pins σ H s) {H' : Hp} {s' : Shared} (I : Inv X pins σ H' s') (hb : s.heap.objs.size ≤ b) (hn : H' b = none) : Inv X pins σ H' { s' with heap := s'.heap.update b g } := by
  obtain ⟨f0, f1, f2, f3, f4, f5⟩ := I0.fpOk hb hn
  exact I.turned (t' := s'.toks) (fun c o hc e => (Heap.get?_update_ne _ _ _ _ hc).trans e) f0 f1 f3 f4 f5
theorem sort_rest (F : Fn3 X.prog X.w X.K X.mg X.base k f fd ps rankSp) (hp : ps.length = 1) (hb : Binds X.K fd ps []) (hr : Room (k + 1) X.A) (hu : X.A.units + 100 < cLine) (I0 : Inv X pins σ H s) (as : AbsS X.K X.w H S) {ks : List NK} {xs : List V} {vs : List Value} (hx : KDens H ks xs) (rx : Vals xs vs) (hk : ∀ k ∈ ks, rankable k = true) (hz : vs.length ≤ 1000000)
    {L kS : Addr} {e1 : Nat} {s1 : Shared} (I1 : Inv X pins σ H s1) (lL : s.heap.objs.size ≤ L) (lk : s.heap.objs.size ≤ kS) (ne : L ≠ kS) (gL : s1.heap.get? L = some (seqObj "list" #[] e1)) (gk : s1.heap.get? kS = some (seqObj "list" #[] 0)) {E' : Value → Shared → Prop} {Q : PySem.Fin → Shared → Prop}
    (hQ : ∀ s' H' out, Inv X pins σ H' s' → Ext S H S H' → AbsS X.K X.w H' S → H' L = none → List.Perm out vs → (∃ c, s'.heap.get? L = some (seqObj "list" (List.toArray out) c)) → Q (.done (.ret .none)) s') :
    wpAny (model X.prog X.w) X.A.in1.in1 (PyProof.Rows.ksk_rest L (.ref f) false vs.toArray e1 (.ref kS)) Q E' s1 := by
  have big : 1000000 + 1 ≤ sizeLine := by decide
  have fr : ∀ b, s.heap.objs.size ≤ b → b ∉ frs X.stack := fun b hb hm => by
    obtain ⟨_, o, g, _⟩ := PySem.Heap.FunFrames.mem I0.stack hm
    exact absurd (Heap.lt_size g) (Nat.not_lt_of_le hb)
  have nL : H L = none := I0.hok.fresh lL
  have nk : H kS = none := I0.hok.fresh lk
  unfold PyProof.Rows.ksk_rest
  refine wpAny_bind (wpAny_rule ?_)
  first
    | rw [List.forIn_toArray]
    | (rw [← Array.forIn_toList]; simp only [List.toList_toArray])
  refine wpAny_bind (PyProof.Rows.ksk_fold (fun i s' => ∃ (H' : Hp) (kA : Array Value) (e : Nat), Inv X pins σ H' s' ∧ Ext S H S H' ∧ AbsS X.K X.w H' S ∧ s'.heap.get? kS = some (seqObj "list" kA e) ∧ s'.heap.get? L = some (seqObj "list" #[] e1) ∧ H' kS = none ∧ H' L = none ∧ kA.size = i ∧ ∀ v ∈ kA.toList, IsRk H' v) vs 0 s1
    ⟨H, #[], 0, I1, .refl _ _, as, gk, gL, nk, nL, rfl, fun v hv => nomatch hv⟩ ?step ?done)
  case step =>
    rintro j u s' hj ⟨H', kA, e, I', x', as', gk', gL', nk', nL', sz, hR⟩
    have kk := x'.keeps as
    have hjl : j < vs.length := (List.getElem?_eq_some_iff.mp hj).1
    obtain ⟨a, y, ea, hy, ry⟩ := denAt hx rx hjl
    rw [(List.getElem?_eq_some_iff.mp hj).2] at ry
    refine wpAny_bind (wpAny_attempt (wpAny_mono (rank_call F hp hb hr I' as' (hk a (List.mem_of_getElem? ea)) (KDen.keep kk _ _ hy) ry) (fun v s'' h' => ?_) fun _ _ hF => hF.elim))
    obtain ⟨z, H'', I'', x'', as'', hz', rz, kept⟩ := h'
    have kk2 := x''.keeps as'
    obtain ⟨gk2, nk2⟩ := kept _ _ gk' nk' (fr _ lk)
    obtain ⟨gL2, nL2⟩ := kept _ _ gL' nL' (fr _ lL)
    try dsimp only
    refine wpAny_bind (listUpdate_at gk2 rfl ?_ (by omega) (by rw [Array.size_push]; omega))
    refine wpAny_pure ⟨rfl, H'', kA.push v, _, Inv.scratch (h1 := s''.heap) I0 I'' lk nk2, x'.trans x'', as'', get?_update_seq gk2 (·.push v), (Heap.get?_update_ne _ _ _ _ ne).trans gL2, nk2, nL2, by rw [Array.size_push, sz], fun w hw => ?_⟩
    rw [Array.toList_push] at hw
    rcases List.mem_append.mp hw with hw | hw
    · exact (hR w hw).keep kk2
    · rw [List.mem_singleton.mp hw]
      exact ⟨a, z, hk a (List.mem_of_getElem? ea), hz', rz⟩
  case done =>
    rintro s' ⟨H', kA, e, I', x', as', gk', gL', nk', nL', sz, hR⟩
    rw [Nat.zero_add] at sz
    try dsimp only
    refine wpAny_bind (listItems_at gk' rfl ?_)
    have tail : ∀ (st : SortSt), (arrOf st).Perm (kA.zip vs.toArray) → failedOf st = none → wpAny (model X.prog X.w) X.A.in1.in1 (PyProof.Rows.ksk_tail L false e1 (.ref kS) st) Q E' s' := by
      intro st hpm hf
      have hout : ((arrOf st).map (·.2)).toList.Perm vs := by
        have h1 := (Array.perm_iff_toList_perm.mp hpm).map (fun p : Keyed => p.2)
        rw [Array.toList_zip, List.toList_toArray, List.map_snd_zip (by simp [sz])] at h1
        rw [Array.toList_map]
        exact h1
      have hol : ((arrOf st).map (·.2)).size = vs.length := by rw [← Array.length_toList]; exact hout.length_eq
      unfold PyProof.Rows.ksk_tail
      try dsimp only
      refine wpAny_bind (listUpdate_at gk' rfl ?_ (by omega) (by simp))
      refine wpAny_bind (wpAny_letGo ?_)
      have gL2 : (s'.heap.update kS (Obj.mapSeq fun _ => (#[] : Array Value))).get? L = some (seqObj "list" #[] e1) := (Heap.get?_update_ne _ _ _ _ ne).trans gL'
      refine wpAny_bind (seqEpoch_at gL2 rfl ?_)
      refine wpAny_bind (listUpdate_at gL2 rfl ?_ (Nat.zero_le _) (by rw [if_neg Bool.false_ne_true, hol]; omega))
      rw [hf]
      simp only [bne_self_eq_false, Bool.false_eq_true, if_false]
      have I2 := Inv.scratch (h1 := s'.heap) (g := Obj.mapSeq fun _ => (#[] : Array Value)) I0 I' lk nk'
      have I3 := Inv.scratch (h1 := s'.heap) (g := Obj.mapSeq fun _ => ((arrOf st).map (·.2))) I0 I2 lL nL'
      have ea : ((arrOf st).map (·.2)).toList.toArray = (arrOf st).map (·.2) := Array.toArray_toList
      have g3 := get?_update_seq gL2 fun _ => ((arrOf st).map (·.2))
      have g4 : ∃ c, ((s'.heap.update kS (Obj.mapSeq fun _ => (#[] : Array Value))).update L (Obj.mapSeq fun _ => ((arrOf st).map (·.2)))).get? L = some (seqObj "list" ((arrOf st).map (·.2)).toList.toArray c) := ⟨_, by rw [ea]; exact g3⟩
      exact wpAny_pure (hQ _ H' ((arrOf st).map (·.2)).toList I3 x' as' nL' hout g4)
    unfold PyProof.Rows.ksk_end
    try dsimp only
    by_cases h2 : vs.toArray.size < 2
    · rw [if_pos h2, if_pos h2]
      refine wpAny_bind (wpAny_pure ?_)
      rw [StateT.run_pure]
      refine wpAny_bind (wpAny_pure ?_)
      try dsimp only
      exact tail _ (Array.Perm.refl _) rfl
    · rw [if_neg h2, if_neg h2]
      have hl : kA.toList.length = vs.length := by rw [Array.length_toList, sz]
      rw [List.size_toArray] at h2
      refine wpAny_bind ?_
      have ek : kA = kA.toList.toArray := by simp
      rw [ek]
      refine ranks_kind I'.hok hR (by omega) ?_
      refine wpAny_bind (wpAny_mono (Srt.wpS_sortAny (prog := X.prog) (w := X.w) (A := X.A.in1.in1) (s := s') (E := E') (st0 := SortSt.mk' (tuples' true) (kA.toList.toArray.zip vs.toArray) #[] 7 none) (P := fun p => IsRk H' p.1)
        (Q := fun _ st' => (arrOf st').Perm (kA.toList.toArray.zip vs.toArray) ∧ failedOf st' = none) (ranks_tot I'.hok (by show X.A.units + 1 + 1 + 64 < _; omega)) rfl (fun p hm => ?_) rfl rfl fun st' a1 a2 => ⟨a1, a2⟩) ?_ fun _ _ e => e)
      · have hm' : p ∈ (kA.toList.toArray.zip vs.toArray).toList := hm
        rw [Array.toList_zip, List.toList_toArray, List.toList_toArray] at hm'
        exact hR p.1 (List.of_mem_zip hm').1
      · rintro ⟨⟨⟩, st'⟩ s'' ⟨rfl, hpm, hf⟩
        try dsimp only
        rw [← ek] at hpm
        exact tail st' hpm hf
end
end L3
/-! ## L3W -/
/-! sorted(l, key=f) as an expression; repr of an int -/
namespace L3
open PySem PySem.Spec L2
open PyProof.Rows hiding St

def tSortK3 (t : TA3) : TE3 := fun σ S Q => t σ S fun ds S1 => a1 ds fun d => asR d fun a => ∃ ks, S1 a = some (.lst (List.map D.k ks)) ∧ (∀ k ∈ ks, rankable k = true) ∧ ks.length ≤ 1000000 ∧ ∀ out, List.Perm out ks → ∀ p, S1 p = none → Q (.ref p) (put S1 p (.lst (List.map D.k out)))
section
variable {X : Cx} {k : Nat} {f : Addr} {fd : FuncData} {ps : List Str} {x y : Str} {e : Expr} {t : TA3} {p p2 pos kpos : Pos}
theorem paired_trans {K : PySem.W.Frag} {H : Hp} : ∀ {ks : List NK} {xs : List V} {vs : List Value}, KDens H ks xs → Vals xs vs → Paired (fun k v => ∃ x, KDen H k x ∧ L2.RelV x v) ks vs
  | [], xs, vs, h, r => by rw [KDens] at h; subst h; cases r; exact .nil
  | k :: ks, xs, vs, h, r => by
    rw [KDens] at h
    obtain ⟨v, w, rfl, h1, h2⟩ := h
    cases r with
    | cons r1 r2 => exact .cons ⟨v, h1, r1⟩ (paired_trans (K := K) h2 r2)
theorem trans_paired {K : PySem.W.Frag} {H : Hp} : ∀ {ks : List NK} {vs : List Value}, Paired (fun k v => ∃ x, KDen H k x ∧ L2.RelV x v) ks vs → ∃ xs, Dens K H (List.map D.k ks) xs ∧ Vals xs vs
  | _, _, .nil => ⟨[], .nil, .nil⟩
  | _, _, .cons ⟨x, h, r⟩ t => let ⟨xs, a, b⟩ := trans_paired (K := K) t; ⟨x :: xs, .cons h a, .cons r b⟩
theorem psortk3 (F : Fn3 X.prog X.w X.K X.mg X.base k f fd ps rankSp) (hp : ps.length = 1) (hb : Binds X.K fd ps []) (hr : Room (k + 1) X.A) (hu : X.A.units + 100 < cLine) (hc : X.calm = true) (hg : Gl X "sorted") (hm : X.mg "sorted" = none) (hgy : Gl X y) (hmy : X.mg y = some (.ref f)) (ha : PA3 X [e] t)
    (hdy : (y == ("__debug__" : Str)) = false := by decide)
    (he : backTo pos (starEach [e] X.env) = (false, eval e X.env) :: backTo pos (starEach [] X.env) := by rfl) (hpl : (backTo pos (starEach [e] X.env)).any (·.1) = false := by rfl)
    (hall : (backToKw pos (keywordEach [⟨some "key", .Name y p2, kpos⟩] X.env)).all (·.1.isSome) = true := by rfl) (hnone : (backToKw pos (keywordEach [⟨some "key", .Name y p2, kpos⟩] X.env)).any (·.1.isNone) = false := by rfl)
    (hks : (backToKw pos (keywordEach [⟨some "key", .Name y p2, kpos⟩] X.env)).filterMap (·.1) = [Str.ofString "key"] := by rfl) :
    PE3 X (.Call (.Name "sorted" p) [e] [⟨some "key", .Name y p2, kpos⟩] pos) (tSortK3 t) := by
  have kk : PK X [⟨some "key", .Name y p2, kpos⟩] (tCons (tC (.ref f)) tNil) := pk_cons (pe_glob hgy hmy rfl hdy) pk_nil
  have core : CallRK X (.builtin "sorted") [Str.ofString "key"] (fun vs zs H Q => zs = [.ref f] ∧ upL X.K X.w (fun ds S Q => a1 ds fun d => asR d fun a => ∃ ks, S a = some (.lst (List.map D.k ks)) ∧ (∀ k ∈ ks, rankable k = true) ∧ ks.length ≤ 1000000 ∧ ∀ out, List.Perm out ks → ∀ p, S p = none → Q (.ref p) (put S p (.lst (List.map D.k out)))) vs H Q) := by
    intro pins s σ H vs zs us ws Q I r rz ⟨ez, ds, S, R, as, dn, hr', q⟩
    subst ez
    obtain ⟨w, rfl, rw'⟩ := vals1 rz
    obtain rfl : w = Value.ref f := rw'
    obtain ⟨d, rfl, h1⟩ := a1_some hr'
    obtain ⟨v, rfl, dv⟩ := dens1 dn
    obtain ⟨a, rfl, ks, ha', hk, hz, h2⟩ := asR_some h1
    have dv' : v = V.ref a := dv
    subst dv'
    obtain ⟨u, rfl, ru⟩ := vals1 r
    obtain rfl : u = Value.ref a := ru
    obtain ⟨xs, e1, d1⟩ := as a _ ha'
    have hxs := nks_den d1 (nks_map ks)
    obtain ⟨its, rv, pl, _⟩ := I.list (.of e1)
    have l1 := Paired.length rv
    have l2 := Paired.length (KDens.paired hxs)
    have big : 1000000 + 1 ≤ sizeLine := by decide
    have hit : its.length ≤ 1000000 := by omega
    show wpAny _ _ (call (.builtin "sorted") [.ref a] [(Str.ofString "key", .ref f)]) _ _ _
    refine PySem.W.sorted_of_sort pl.isList (by omega) (ksk_s1 _ _) (fun x => ksk_l1 _ _) fun E' => ?_
    rw [ksk_t1]
    have old : ∀ b o, s.heap.get? b = some o → (PySem.W.copyHeap s.heap its).get? b = some o := fun b o e => PySem.W.copyHeap_old e
    have at_ := PySem.W.copyHeap_at s.heap its
    have I1 : Inv X pins σ H { s with heap := PySem.W.copyHeap s.heap its } := I.kept (t' := s.toks) old
    generalize hcp : PySem.W.copyHeap s.heap its = cp at at_ old I1
    have lL : s.heap.objs.size ≤ s.heap.objs.size + 1 := Nat.le_succ _
    generalize hL : s.heap.objs.size + 1 = L at at_ lL
    have nL : H L = none := I.hok.fresh lL
    unfold ksk_tree
    refine wpAny_bind (listItems_at (s := { s with heap := cp }) at_ rfl ?_)
    refine wpAny_bind (listUpdate_at (s := { s with heap := cp }) at_ rfl ?_ (by rw [List.size_toArray]; omega) (Nat.zero_le _))
    obtain ⟨e1, at1⟩ : ∃ e1, (cp.update L (Obj.mapSeq fun _ => #[])).get? L = some (seqObj "list" #[] e1) := ⟨_, get?_update_seq at_ fun _ => #[]⟩
    have I2 : Inv X pins σ H { s with heap := cp.update L (Obj.mapSeq fun _ => #[]) } := Inv.scratch (h1 := cp) I I1 lL nL
    have lt1 : L < (cp.update L (Obj.mapSeq fun _ => (#[] : Array Value))).objs.size := Heap.lt_size at1
    refine wpAny_bind (seqEpoch_at (s := { s with heap := cp.update L (Obj.mapSeq fun _ => #[]) }) at1 rfl ?_)
    generalize hp2 : cp.update L (Obj.mapSeq fun _ => (#[] : Array Value)) = h2' at at1 I2 lt1
    refine wpAny_bind (wpAny_newTuple (s := { s with heap := h2' }) ?_ (by show its.length ≤ _; omega))
    refine wpAny_bind (wpAny_newList ?_ (Nat.zero_le _))
    refine wpAny_holding ?_
    have I3 : Inv X pins σ H { s with heap := (h2'.push { cls := .type "tuple", data := .seq its.toArray }).push { cls := .type "list", data := .seq ([] : List Value).toArray } } := I2.kept (t' := s.toks) fun b o e => Heap.get?_push_of_some _ (Heap.get?_push_of_some _ e)
    have sz : (h2'.push { cls := .type "tuple", data := .seq its.toArray }).objs.size = h2'.objs.size + 1 := Heap.size_push ..
    have lk : s.heap.objs.size ≤ (h2'.push { cls := .type "tuple", data := .seq its.toArray }).objs.size := by rw [sz]; exact Nat.le_trans lL (Nat.le_trans (Nat.le_of_lt lt1) (Nat.le_succ _))
    have ne : L ≠ (h2'.push { cls := .type "tuple", data := .seq its.toArray }).objs.size := by rw [sz]; exact Nat.ne_of_lt (Nat.lt_succ_of_lt lt1)
    refine sort_rest (s := s) (S := S) F hp hb hr hu I as hxs rv hk hit I3 lL lk ne (Heap.get?_push_of_some _ (Heap.get?_push_of_some _ at1)) (Heap.get?_push_size _ rfl) fun s' H' out I' x' as' nL' pm ⟨c, g⟩ => ⟨rfl, ?_⟩
    have kk := x'.keeps as
    obtain ⟨ks', pk, pr⟩ := perm_paired pm (paired_trans (K := X.K) (KDens.keep kk _ _ hxs) rv)
    obtain ⟨ys, dy, ry⟩ := trans_paired (K := X.K) pr
    have ly : ys.length ≤ sizeLine := by rw [Paired.length ry, pm.length_eq]; omega
    have I4 := I'.take (h' := s'.heap) (t' := s'.toks) (it := L) (o := .lst ys) (fun b ob _ e => e) (I.fpOk lL nL') ⟨ly, out, c, ry, g⟩
    obtain ⟨as4, x4, k4⟩ := as'.lay (u := .lst ys) (o := .lst (List.map D.k ks')) nL' ⟨ys, upd_same, dy.keep (as'.hide nL').2.2⟩
    exact ⟨.ref L, _, I4, rfl, q _ _ (.ref L) _ (x'.trans x4) as4 rfl (h2 ks' pk L (as.free nL))⟩
  refine PE.imp (pe_callBK core hg hm (show bootBuiltins "sorted" = some (.builtin "sorted") by decide +kernel) ha kk (by decide) (by decide) he hpl hall hnone hks) fun σ H Q ⟨σd, S, R, av, as, h, q⟩ => ?_
  exact seqA av as h fun vs H1 ds S1 x1 k1 av1 as1 dn1 h1 => ⟨rfl, ds, S1, R, as1, dn1, h1, fun v' H' d' S' x2 as2 dn2 h2 => q v' H' d' S' (x1.trans x2) as2 dn2 h2⟩
end
def rRepr3 : List D → Sto → VK3 → Prop := fun ds S Q => a1 ds fun d => asI d fun i => i.natAbs.log2 < 1920 ∧ Q (.k (.text (toString i))) S
theorem c_repr {X : Cx} : CallR3 X (.builtin "repr") rRepr3 := by
  intro pins s σ H vs us Q I r ⟨ds, S, R, as, dn, hr, q⟩
  obtain ⟨d, rfl, h1⟩ := a1_some hr
  obtain ⟨i, rfl, hz, h2⟩ := asI_some h1
  obtain ⟨v, rfl, dv⟩ := dens1 dn
  have dv' : v = V.int i := dv
  subst dv'
  exact SkE.call_repr_int pins s σ H _ us Q I r ⟨i, rfl, hz, q (.str _) H (.k (.text _)) S (.refl _ _) as (by show KDen H _ _; rw [KDen]) h2⟩
end L3
/-! ## L3X -/
/-! a, b = x, y and a, b, c = x, y, z where a name is a cell -/
namespace L3
open PySem PySem.Spec L2
open PyProof.Rows hiding St
section
variable {X : Cx} {a b c : Expr} {ta : TA3} {pos : Pos}
theorem ppx2 {i j : Nat} {x y : Str} {px py pt : Pos} {kt k2 : Nat} {pt2 : Pos} (hc : X.calm = true) (hN : X.N.Nodup) (hi : X.N[i]? = some x) (hj : X.N[j]? = some y)
    (hx : Loc X.env.scope x) (hy : Loc X.env.scope y) (hfx : X.fn x = true ∨ X.env.scope.names.lookup x = some .local) (hfy : X.fn y = true ∨ X.env.scope.names.lookup y = some .local) (ha : PA3 X [a, b] ta)
    (hs : swapsWithSole [.Tuple [.Name x px, .Name y py] kt pt] (.Tuple [a, b] k2 pt2) pos.line X.env = pure false) (hw : swappedStores [.Tuple [.Name x px, .Name y py] kt pt] (.Tuple [a, b] k2 pt2) X.env = pure none)
    (h1 : (assignEach [.Name x px, .Name y py] X.env).map (·.2) = assign (.Name x px) X.env :: (assignEach [.Name y py] X.env).map (·.2)) (h2 : (assignEach [.Name y py] X.env).map (·.2) = assign (.Name y py) X.env :: (assignEach [] X.env).map (·.2))
    (hn : (assignEach [.Name x px, .Name y py] X.env).length = 2) (hst : (assignEach [.Name x px, .Name y py] X.env).findIdx? (·.1) = none) (h0 : (assignEach [.Tuple [.Name x px, .Name y py] kt pt] X.env).map (·.2) = [assign (.Tuple [.Name x px, .Name y py] kt pt) X.env]) :
    PS3 X (.Assign [.Tuple [.Name x px, .Name y py] kt pt] (.Tuple [a, b] k2 pt2) pos) (tPar3 i j ta) :=
  PS.imp (ps_asg (pe_tup ha) (pg_tup (n := 2) hc (pgs_cons (pg_name hN hi hx hfx) (pgs_cons (pg_name hN hj hy hfy) pgs_nil h2) h1) hn hst) hs hw h0) fun D σ H ⟨σd, S, D3, av, as, h, q⟩ =>
    seqA av as h fun vs H1 ds S1 x1 k1 av1 as1 dn1 h1 => by
      obtain ⟨d, e, rfl, h1⟩ := two_some h1
      cases dn1 with
      | cons p p' =>
        cases p' with
        | cons p' z =>
          cases z
          refine ⟨by show 2 ≤ sizeLine; decide, fun l n => ?_⟩
          obtain ⟨as2, x2, k2⟩ := as1.hide (u := .tup [_, _]) n
          exact ⟨l, _, rfl, .of upd_same, rfl, _, _, rfl, _, _, rfl, rfl, q.nx _ _ _ S1 (x1.trans x2) (((av1.keep k2).set i (p.keep k2)).set j (p'.keep k2)) as2 h1⟩
theorem ppx3 {i j l : Nat} {x y z : Str} {px py pz pt : Pos} {kt k2 : Nat} {pt2 : Pos} (hc : X.calm = true) (hN : X.N.Nodup) (hi : X.N[i]? = some x) (hj : X.N[j]? = some y) (hl : X.N[l]? = some z)
    (hx : Loc X.env.scope x) (hy : Loc X.env.scope y) (hz : Loc X.env.scope z) (hfx : X.fn x = true ∨ X.env.scope.names.lookup x = some .local) (hfy : X.fn y = true ∨ X.env.scope.names.lookup y = some .local) (hfz : X.fn z = true ∨ X.env.scope.names.lookup z = some .local) (ha : PA3 X [a, b, c] ta)
    (hs : swapsWithSole [.Tuple [.Name x px, .Name y py, .Name z pz] kt pt] (.Tuple [a, b, c] k2 pt2) pos.line X.env = pure false) (hw : swappedStores [.Tuple [.Name x px, .Name y py, .Name z pz] kt pt] (.Tuple [a, b, c] k2 pt2) X.env = pure none)
    (h1 : (assignEach [.Name x px, .Name y py, .Name z pz] X.env).map (·.2) = assign (.Name x px) X.env :: (assignEach [.Name y py, .Name z pz] X.env).map (·.2)) (h2 : (assignEach [.Name y py, .Name z pz] X.env).map (·.2) = assign (.Name y py) X.env :: (assignEach [.Name z pz] X.env).map (·.2)) (h3 : (assignEach [.Name z pz] X.env).map (·.2) = assign (.Name z pz) X.env :: (assignEach [] X.env).map (·.2))
    (hn : (assignEach [.Name x px, .Name y py, .Name z pz] X.env).length = 3) (hst : (assignEach [.Name x px, .Name y py, .Name z pz] X.env).findIdx? (·.1) = none) (h0 : (assignEach [.Tuple [.Name x px, .Name y py, .Name z pz] kt pt] X.env).map (·.2) = [assign (.Tuple [.Name x px, .Name y py, .Name z pz] kt pt) X.env]) :
    PS3 X (.Assign [.Tuple [.Name x px, .Name y py, .Name z pz] kt pt] (.Tuple [a, b, c] k2 pt2) pos) (tPar33 i j l ta) :=
  PS.imp (ps_asg (pe_tup ha) (pg_tup (n := 3) hc (pgs_cons (pg_name hN hi hx hfx) (pgs_cons (pg_name hN hj hy hfy) (pgs_cons (pg_name hN hl hz hfz) pgs_nil h3) h2) h1) hn hst) hs hw h0) fun D σ H ⟨σd, S, D3, av, as, h, q⟩ =>
    seqA av as h fun vs H1 ds S1 x1 k1 av1 as1 dn1 h1 => by
      obtain ⟨d, e, f, rfl, h1⟩ := three_some h1
      cases dn1 with
      | cons p p' =>
        cases p' with
        | cons p' p'' =>
          cases p'' with
          | cons p'' z =>
            cases z
            refine ⟨by show 3 ≤ sizeLine; decide, fun m n => ?_⟩
            obtain ⟨as2, x2, k2⟩ := as1.hide (u := .tup [_, _, _]) n
            exact ⟨m, _, rfl, .of upd_same, rfl, _, _, rfl, _, _, rfl, _, _, rfl, rfl, q.nx _ _ _ S1 (x1.trans x2) ((((av1.keep k2).set i (p.keep k2)).set j (p'.keep k2)).set l (p''.keep k2)) as2 h1⟩
end
end L3
/-! ## L3Y -/
/-! promises by name -/
namespace L3
open PySem PySem.Spec L2
open PyProof.Rows hiding St

/-- a def of the text, found by its name -/
def FunIn (K : PySem.W.Frag) (mg : Str → Option Value) (x : Str) (st : Stmt) (ps : List Str) : Prop := ∃ f fd, Fun K x x st f fd ∧ mg x = some (.ref f) ∧ PySem.W.keepIn K (.ref f) = true ∧ Binds K fd ps []
def MethIn (K : PySem.W.Frag) (C : Addr) (m qual : Str) (st : Stmt) (ps : List Str) : Prop := ∃ f fd, Fun K m qual st f fd ∧ Meth K C m f ∧ Binds K fd ps []
def InitIn (K : PySem.W.Frag) (C : Addr) (qual : Str) (st : Stmt) (ps : List Str) : Prop := ∃ f fd, Fun K "__init__" qual st f fd ∧ Mk K C f ∧ Binds K fd ps []
structure Cal (P : Program) (w : World) (K : PySem.W.Frag) (mg : Str → Option Value) (base : Heap) (k : Nat) (x : Str) (ps : List Str) (sp : Sp3) : Prop where
  ex : ∃ f fd, Fn3 P w K mg base k f fd ps sp ∧ mg x = some (.ref f) ∧ PySem.W.keepIn K (.ref f) = true ∧ Binds K fd ps []
structure CalM (P : Program) (w : World) (K : PySem.W.Frag) (mg : Str → Option Value) (base : Heap) (k : Nat) (C : Addr) (m : Str) (ps : List Str) (sp : Sp3) : Prop where
  ex : ∃ f fd, Fn3 P w K mg base k f fd ps sp ∧ Meth K C m f ∧ Binds K fd ps []
structure CalC (P : Program) (w : World) (K : PySem.W.Frag) (mg : Str → Option Value) (base : Heap) (k : Nat) (C : Addr) (ps : List Str) (sp : Sp3) : Prop where
  ex : ∃ f fd, Fn3 P w K mg base k f fd ps sp ∧ Mk K C f ∧ Binds K fd ps []
section
variable {P : Program} {w : World} {K : PySem.W.Frag} {mg : Str → Option Value} {base : Heap}
abbrev Body (P : Program) (w : World) (K : PySem.W.Frag) (mg : Str → Option Value) (base : Heap) (k : Nat) (N : List Str) (qual : Str) (st : Stmt) (t : TS3) : Prop := ∀ (f : Addr) (cdv : Value) (A : Around) (outer : List Env) (s : Shared) (H : Hp) (E : XK), Room k (cxOf CX0 P w K mg base N qual (defScope st) f cdv A outer s H E).nox.A → (cxOf CX0 P w K mg base N qual (defScope st) f cdv A outer s H E).nox.A.units + 64 < cLine → PSs3 (cxOf CX0 P w K mg base N qual (defScope st) f cdv A outer s H E).nox (defBody st) t
theorem Fn3.by {x qual : Str} {st : Stmt} {f : Addr} {fd : FuncData} {N ps : List Str} {k : Nat} {sp : Sp3} {t : TS3} (F : Fun K x qual st f fd) (Sc : FnScope N ps (defScope st)) (b : Body P w K mg base k N qual st t)
    (h : ∀ ds S R, ds.length = ps.length → sp ds S R → t { nx := fun _ S' => R Dz S', rt := R } (start3 N ds) S) : Fn3 P w K mg base (k + 1) f fd ps sp :=
  Fn3.of F Sc fun X cdv A outer s H E e hr hu => ⟨t, by subst e; exact b f cdv A outer s H E hr hu, h⟩
theorem Cal.of {x : Str} {st : Stmt} {N ps : List Str} {k : Nat} {sp : Sp3} {t : TS3} (F : FunIn K mg x st ps) (Sc : FnScope N ps (defScope st)) (b : Body P w K mg base k N x st t)
    (h : ∀ ds S R, ds.length = ps.length → sp ds S R → t { nx := fun _ S' => R Dz S', rt := R } (start3 N ds) S) : Cal P w K mg base (k + 1) x ps sp :=
  let ⟨f, fd, F, h1, h2, h3⟩ := F; ⟨f, fd, Fn3.by F Sc b h, h1, h2, h3⟩
theorem CalM.of {C : Addr} {m qual : Str} {st : Stmt} {N ps : List Str} {k : Nat} {sp : Sp3} {t : TS3} (F : MethIn K C m qual st ps) (Sc : FnScope N ps (defScope st)) (b : Body P w K mg base k N qual st t)
    (h : ∀ ds S R, ds.length = ps.length → sp ds S R → t { nx := fun _ S' => R Dz S', rt := R } (start3 N ds) S) : CalM P w K mg base (k + 1) C m ps sp :=
  let ⟨f, fd, F, h1, h2⟩ := F; ⟨f, fd, Fn3.by F Sc b h, h1, h2⟩
theorem CalC.of {C : Addr} {qual : Str} {st : Stmt} {N ps : List Str} {k : Nat} {sp : Sp3} {t : TS3} (F : InitIn K C qual st ps) (Sc : FnScope N ps (defScope st)) (b : Body P w K mg base k N qual st t)
    (h : ∀ ds S R, ds.length = ps.length → sp ds S R → t { nx := fun _ S' => R Dz S', rt := R } (start3 N ds) S) : CalC P w K mg base (k + 1) C ps sp :=
  let ⟨f, fd, F, h1, h2⟩ := F; ⟨f, fd, Fn3.by F Sc b h, h1, h2⟩
end
section
variable {X : Cx} {x m : Str} {p pos apos : Pos} {e o : Expr} {es : List Expr} {to : TE3} {t : TA3} {k : Nat} {ps : List Str} {sp : Sp3} {C : Addr}
theorem pcal3 (F : Cal X.prog X.w X.K X.mg X.base k x ps sp) (hr : Room k X.A) (hg : Gl X x) (ha : PA3 X (e :: es) t) (hdb : (x == ("__debug__" : Str)) = false := by decide) (he : starEach (e :: es) X.env = (false, eval e X.env) :: starEach es X.env := by rfl) (hpl : (backTo pos (starEach es X.env)).any (·.1) = false := by rfl) {n : Nat} (hn : ps.length = n := by rfl) :
    PE3 X (.Call (.Name x p) (e :: es) [] pos) (tCall3 n sp t) := let ⟨f, fd, F, hm, hk, hb⟩ := F.ex; hn ▸ pcall3 F hr hg hm hk hb ha hdb he hpl
theorem pmet3 {pl : Sem Bool} (c : Cls X.K C) (F : CalM X.prog X.w X.K X.mg X.base k C m ps sp) (hr : Room k X.A) (ho : PE3 X o to) (ha : PA3 X (e :: es) t)
    (hst : starEach (e :: es) X.env = (false, eval e X.env) :: starEach es X.env := by rfl) (hpl : (backTo pos (starEach es X.env)).any (·.1) = false := by rfl)
    (ht : eval (.Call (.Attribute o m apos) (e :: es) [] pos) X.env = (do
      let ov ← eval o X.env
      standAt apos.atName
      let (f, first) ← holding [ov] (getMethod ov m pl)
      callWith pos f first (backTo pos (starEach (e :: es) X.env)) (backToKw pos (keywordEach [] X.env))) := by rfl) {n : Nat} (hn : ps.length = n := by rfl) :
    PE3 X (.Call (.Attribute o m apos) (e :: es) [] pos) (tMeth3 C m n sp to t) := let ⟨f, fd, F, hm, hb⟩ := F.ex; hn ▸ pmeth3 c hm F hr hb ho ha hst hpl ht
theorem pmak3 (F : CalC X.prog X.w X.K X.mg X.base k C ps sp) (hr : Room (k + 1) X.A) (hg : Gl X x) (hm : X.mg x = some (.ref C)) (ha : PA3 X (e :: es) t) (hdb : (x == ("__debug__" : Str)) = false := by decide) (he : starEach (e :: es) X.env = (false, eval e X.env) :: starEach es X.env := by rfl) (hpl : (backTo pos (starEach es X.env)).any (·.1) = false := by rfl) {n : Nat} (hn : ps.length = n := by rfl) :
    PE3 X (.Call (.Name x p) (e :: es) [] pos) (tMake3 C n sp t) := let ⟨f, fd, F, hM, hb⟩ := F.ex; hn ▸ pmake3 hM F hr hg hm hb ha hdb he hpl
theorem psor3 (F : Cal X.prog X.w X.K X.mg X.base k x ps rankSp) (hp : ps.length = 1) (hr : Room (k + 1) X.A) (hu : X.A.units + 64 < cLine) (hc : X.calm = true) (hg : Gl X "sorted") (hm : X.mg "sorted" = none) (hgy : Gl X x) {p2 kpos : Pos} (ha : PA3 X [e] t)
    (hdy : (x == ("__debug__" : Str)) = false := by decide)
    (he : backTo pos (starEach [e] X.env) = (false, eval e X.env) :: backTo pos (starEach [] X.env) := by rfl) (hpl : (backTo pos (starEach [e] X.env)).any (·.1) = false := by rfl)
    (hall : (backToKw pos (keywordEach [⟨some "key", .Name x p2, kpos⟩] X.env)).all (·.1.isSome) = true := by rfl) (hnone : (backToKw pos (keywordEach [⟨some "key", .Name x p2, kpos⟩] X.env)).any (·.1.isNone) = false := by rfl)
    (hks : (backToKw pos (keywordEach [⟨some "key", .Name x p2, kpos⟩] X.env)).filterMap (·.1) = [Str.ofString "key"] := by rfl) : PE3 X (.Call (.Name "sorted" p) [e] [⟨some "key", .Name x p2, kpos⟩] pos) (tSortK3 t) :=
  let ⟨f, fd, F, hmy, hk, hb⟩ := F.ex; psortk3 F hp hb hr (by have := hr.un; omega) hc hg hm hgy hmy ha hdy he hpl hall hnone hks
/-- a module's constant -/
theorem pgi3 {i : Int} {tk : Tok} (hg : Gl X x) (hm : X.mg x = some (.int i tk)) (hd : (x == ("__debug__" : Str)) = false := by decide) : PE3 X (.Name x pos) (tK (Dn i)) := pc3 (pe_glob hg hm (v := .int i) ⟨tk, rfl⟩ hd) fun _ => rfl
theorem pgs3 {z : Str} {tk : Tok} (hg : Gl X x) (hm : X.mg x = some (.str z tk)) (hd : (x == ("__debug__" : Str)) = false := by decide) : PE3 X (.Name x pos) (tK (.k (.text z))) := pc3 (pe_glob hg hm (v := .str z) ⟨tk, rfl⟩ hd) fun _ => rfl
theorem pty3 {T : String} (hg : Gl X x) (hm : X.mg x = none) (hv : bootBuiltins x = some (.type T)) (hn : x ≠ "__name__" := by decide) (hd : (x == ("__debug__" : Str)) = false := by decide) : PE3 X (.Name x pos) (tK (.ty T)) :=
  pc3 (v := .ty T) ⟨fun pins s σ H Q I h => ld_blt I hg hm hv ⟨.ty T, H, I, rfl, h⟩ hn hd⟩ fun _ => rfl
end
end L3
/-! ## G0 -/
namespace L3
open PySem PySem.Spec L2
open PyProof.Rows hiding St
def top (i : Nat) : Stmt := PySem.Challenge.pw_onlyhigher_k60_whole_tries_played.main.body.getD i (.Pass ⟨0, 0, 0, 0⟩)
structure Txt (K : PySem.W.Frag) (mg : Str → Option Value) (C : Addr) : Prop where
  cl : Cls K C
  mgC : mg "SafeTable" = some (.ref C)
  n_card : NoAttr K C "card"
  n_labels : NoAttr K C "labels"
  n_code_values : NoAttr K C "code_values"
  n_safe : NoAttr K C "safe"
  n_first_steps : NoAttr K C "first_steps"
  z_len : mg "len" = none
  z_int : mg "int" = none
  z_abs : mg "abs" = none
  z_sum : mg "sum" = none
  z_all : mg "all" = none
  z_isinstance : mg "isinstance" = none
  z_max : mg "max" = none
  z_min : mg "min" = none
  z_repr : mg "repr" = none
  z_list : mg "list" = none
  z_dict : mg "dict" = none
  z_tuple : mg "tuple" = none
  z_zip : mg "zip" = none
  z_range : mg "range" = none
  z_enumerate : mg "enumerate" = none
  z_sorted : mg "sorted" = none
  z_bool : mg "bool" = none
  z_str : mg "str" = none
  MAX_NUMBER : ∃ t : Tok, mg "MAX_NUMBER" = some (.int 999 t)
  MAX_WORD : ∃ t : Tok, mg "MAX_WORD" = some (.int 8 t)
  MAX_ITEMS : ∃ t : Tok, mg "MAX_ITEMS" = some (.int 4 t)
  LETTERS : ∃ t : Tok, mg "LETTERS" = some (.str "abcdefghijklmnopqrstuvwxyz" t)
theorem pop_list : ∀ d ds S Q, rPop3 d ds S Q → asR d fun a => ∃ xs, S a = some (.lst xs) := fun d ds S Q h => by
  obtain ⟨a, rfl, _, xs, _, ha, _⟩ := asR_some h
  exact ⟨xs, ha⟩
/-! is_integer -/
abbrev s_is_integer : Stmt := top 10
abbrev n_is_integer : List Str := ["value"]
abbrev p_is_integer : List Str := ["value"]
theorem sc_is_integer : FnScope n_is_integer p_is_integer (defScope s_is_integer) := ⟨rfl, rfl, rfl, by decide +kernel, rfl, by decide +kernel, by decide +kernel⟩
def r_is_integer  : TS3 := (tRet3 (tAndV3 (tB3 rIsi3 (tCons3 (tV 0) (tCons3 (tK (.ty "int")) tNil3))) (tNotV3 (tB3 rIsi3 (tCons3 (tV 0) (tCons3 (tK (.ty "bool")) tNil3))))))

/-! is_word -/
abbrev s_is_word : Stmt := top 11
abbrev n_is_word : List Str := ["value", "sign"]
abbrev p_is_word : List Str := ["value"]
theorem sc_is_word : FnScope n_is_word p_is_word (defScope s_is_word) := ⟨rfl, rfl, rfl, by decide +kernel, rfl, by decide +kernel, by decide +kernel⟩
def r_is_word  : TS3 := (tRet3 (tAndV3 (tB3 rIsi3 (tCons3 (tV 0) (tCons3 (tK (.ty "str")) tNil3))) (tAndV3 (tChain3 (rI03 fun i j => .bl (decide (i ≤ j))) (rI03 fun i j => .bl (decide (i ≤ j))) (tK (Dn 1)) (tB3 rLen3 (tCons3 (tV 0) tNil3)) (tK (Dn 8))) (tB3 rAll3 (tCons3 (tLc3 (iS3 (tV 0)) (cN 1) tYes3 (tOp3 (rIn3 id) (tV 1) (tK (.k (.text "abcdefghijklmnopqrstuvwxyz"))))) tNil3)))))

/-! is_plain -/
abbrev s_is_plain : Stmt := top 12
abbrev n_is_plain : List Str := ["value"]
abbrev p_is_plain : List Str := ["value"]
theorem sc_is_plain : FnScope n_is_plain p_is_plain (defScope s_is_plain) := ⟨rfl, rfl, rfl, by decide +kernel, rfl, by decide +kernel, by decide +kernel⟩
def r_is_plain (sp_is_word : Sp3) (sp_is_integer : Sp3) : TS3 := (tRet3 (tOrV3 (tCall3 1 sp_is_word (tCons3 (tV 0) tNil3)) (tAndV3 (tCall3 1 sp_is_integer (tCons3 (tV 0) tNil3)) (tChain3 (rI03 fun i j => .bl (decide (i ≤ j))) (rI03 fun i j => .bl (decide (i ≤ j))) (tK (Dn 0)) (tV 0) (tK (Dn 999))))))

/-! is_value -/
abbrev s_is_value : Stmt := top 13
abbrev n_is_value : List Str := ["value", "item"]
abbrev p_is_value : List Str := ["value"]
theorem sc_is_value : FnScope n_is_value p_is_value (defScope s_is_value) := ⟨rfl, rfl, rfl, by decide +kernel, rfl, by decide +kernel, by decide +kernel⟩
def r_is_value (sp_is_plain : Sp3) : TS3 := (tSeq3 (tIfS3 (tT (tB3 rIsi3 (tCons3 (tV 0) (tCons3 (tK (.ty "tuple")) tNil3)))) (tRet3 (tAndV3 (tChain3 (rI03 fun i j => .bl (decide (i ≤ j))) (rI03 fun i j => .bl (decide (i ≤ j))) (tK (Dn 1)) (tB3 rLen3 (tCons3 (tV 0) tNil3)) (tK (Dn 4))) (tB3 rAll3 (tCons3 (tLc3 (iT3 (tV 0)) (cN 1) tYes3 (tCall3 1 sp_is_plain (tCons3 (tV 1) tNil3))) tNil3)))) tNext3)
    (tRet3 (tCall3 1 sp_is_plain (tCons3 (tV 0) tNil3))))

/-! value_rank -/
abbrev s_value_rank : Stmt := top 14
abbrev n_value_rank : List Str := ["value", "item"]
abbrev p_value_rank : List Str := ["value"]
theorem sc_value_rank : FnScope n_value_rank p_value_rank (defScope s_value_rank) := ⟨rfl, rfl, rfl, by decide +kernel, rfl, by decide +kernel, by decide +kernel⟩
def r_value_rank (sp_value_rank : Sp3) : TS3 := (tSeq3 (tIfS3 (tT (tB3 rIsi3 (tCons3 (tV 0) (tCons3 (tK (.ty "tuple")) tNil3)))) (tRet3 (tTup3 (tCons3 (tK (Dn 2)) (tCons3 (tB3 rTuple3 (tCons3 (tLc3 (iT3 (tV 0)) (cN 1) tYes3 (tCall3 1 sp_value_rank (tCons3 (tV 1) tNil3))) tNil3)) tNil3)))) tNext3)
    (tRet3 (tIf3 (tT (tB3 rIsi3 (tCons3 (tV 0) (tCons3 (tK (.ty "str")) tNil3)))) (tTup3 (tCons3 (tK (Dn 1)) (tCons3 (tV 0) tNil3))) (tTup3 (tCons3 (tK (Dn 0)) (tCons3 (tV 0) tNil3))))))

/-! states -/
abbrev s_states : Stmt := top 16
abbrev n_states : List Str := ["card", "found", "top", "longer", "state", "level"]
abbrev p_states : List Str := ["card"]
theorem sc_states : FnScope n_states p_states (defScope s_states) := ⟨rfl, rfl, rfl, by decide +kernel, rfl, by decide +kernel, by decide +kernel⟩
def r_states_2  : TS3 := (tDrop3 (tM1 rExt3 (tV 3) (tCons3 (tLc3 (iR3 (tCons3 (tOp3 rAdd3 (tV 2) (tK (Dn 1))) tNil3)) (cN 5) tYes3 (tOp3 rAdd3 (tV 4) (tTup3 (tCons3 (tV 5) tNil3)))) tNil3)))
def r_states_1  : TS3 := (tSeq3 (tSet3 3 (tLst3 tNil3))
    (tSeq3 (tFor3 (iL3 (tV 1)) (gN 4) (r_states_2))
    (tSet3 1 (tB3 rList3 (tCons3 (tV 3) tNil3)))))
def r_states  : TS3 := (tSeq3 (tSet3 1 (tLst3 (tCons3 (tTup3 tNil3) tNil3)))
    (tSeq3 (tFor3 (iT3 (tV 0)) (gN 2) (r_states_1))
    (tRet3 (tB3 rTuple3 (tCons3 (tV 1) tNil3)))))

/-! is_state -/
abbrev s_is_state : Stmt := top 17
abbrev n_is_state : List Str := ["card", "value", "level", "top"]
abbrev p_is_state : List Str := ["card", "value"]
theorem sc_is_state : FnScope n_is_state p_is_state (defScope s_is_state) := ⟨rfl, rfl, rfl, by decide +kernel, rfl, by decide +kernel, by decide +kernel⟩
def r_is_state (sp_is_integer : Sp3) : TS3 := (tSeq3 (tIfS3 (tOr3 (tNot3 (tT (tB3 rIsi3 (tCons3 (tV 1) (tCons3 (tK (.ty "tuple")) tNil3))))) (tT (tOp3 (rEq3 (!·)) (tB3 rLen3 (tCons3 (tV 1) tNil3)) (tB3 rLen3 (tCons3 (tV 0) tNil3))))) (tRet3 (tK (.bl false))) tNext3)
    (tRet3 (tB3 rAll3 (tCons3 (tLc3 (iZ3 (tCons3 (tV 1) (tCons3 (tV 0) tNil3))) (cP 2 3) tYes3 (tAndV3 (tCall3 1 sp_is_integer (tCons3 (tV 2) tNil3)) (tChain3 (rI03 fun i j => .bl (decide (i ≤ j))) (rI03 fun i j => .bl (decide (i ≤ j))) (tK (Dn 0)) (tV 2) (tV 3)))) tNil3))))

/-! place_of -/
abbrev s_place_of : Stmt := top 18
abbrev n_place_of : List Str := ["card", "state", "place", "level", "top"]
abbrev p_place_of : List Str := ["card", "state"]
theorem sc_place_of : FnScope n_place_of p_place_of (defScope s_place_of) := ⟨rfl, rfl, rfl, by decide +kernel, rfl, by decide +kernel, by decide +kernel⟩
def r_place_of_1 (sp_is_state : Sp3) : TS3 := (tSet3 2 (tOp3 rAdd3 (tOp3 (rI3 IntMulOk fun i j => Dn (i * j)) (tV 2) (tOp3 rAdd3 (tV 4) (tK (Dn 1)))) (tV 3)))
def r_place_of (sp_is_state : Sp3) : TS3 := (tSeq3 (tIfS3 (tNot3 (tT (tCall3 2 sp_is_state (tCons3 (tV 0) (tCons3 (tV 1) tNil3))))) tNever3 tNext3)
    (tSeq3 (tSet3 2 (tK (Dn 0)))
    (tSeq3 (tFor3 (iZ3 (tCons3 (tV 1) (tCons3 (tV 0) tNil3))) (gP 3 4) (r_place_of_1 sp_is_state))
    (tRet3 (tV 2)))))

/-! above -/
abbrev s_above : Stmt := top 19
abbrev n_above : List Str := ["card", "state", "found", "cell", "level"]
abbrev p_above : List Str := ["card", "state"]
theorem sc_above : FnScope n_above p_above (defScope s_above) := ⟨rfl, rfl, rfl, by decide +kernel, rfl, by decide +kernel, by decide +kernel⟩
def r_above_1  : TS3 := (tIfS3 (tT (tOp3 (rI03 fun i j => .bl (decide (i < j))) (tV 4) (tOp3 rIx3 (tV 0) (tV 3)))) (tDrop3 (tM1 rApp3 (tV 2) (tCons3 (tTup3 (tCons3 (tV 3) (tCons3 (tOp3 rAdd3 (tOp3 rAdd3 (tSl3 (tV 1) tNo3 (tSm3 (tV 3))) (tTup3 (tCons3 (tOp3 rAdd3 (tV 4) (tK (Dn 1))) tNil3))) (tSl3 (tV 1) (tSm3 (tOp3 rAdd3 (tV 3) (tK (Dn 1)))) tNo3)) tNil3))) tNil3))) tNext3)
def r_above  : TS3 := (tSeq3 (tSet3 2 (tLst3 tNil3))
    (tSeq3 (tFor3 (iE3 (tCons3 (tV 1) tNil3)) (gP 3 4) (r_above_1))
    (tRet3 (tV 2))))

/-! unlike_values -/
abbrev s_unlike_values : Stmt := top 21
abbrev n_unlike_values : List Str := ["labels", "found", "item"]
abbrev p_unlike_values : List Str := ["labels"]
theorem sc_unlike_values : FnScope n_unlike_values p_unlike_values (defScope s_unlike_values) := ⟨rfl, rfl, rfl, by decide +kernel, rfl, by decide +kernel, by decide +kernel⟩
def r_unlike_values  : TS3 := (tSeq3 (tSet3 1 (tB3 rDictP3 (tCons3 (tLc3 (iT3 (tV 0)) (cN 2) (tT (tOp3 (rIs3 (!·)) (tV 2) (tK Dz))) (tTup3 (tCons3 (tV 2) (tCons3 (tK (.bl true)) tNil3)))) tNil3)))
    (tRet3 (tB3 rTuple3 (tCons3 (tSortK3 (tCons3 (tB3 rListD3 (tCons3 (tV 1) tNil3)) tNil3)) tNil3))))

/-! label -/
abbrev s_label : Stmt := top 22
abbrev n_label : List Str := ["code", "state", "card", "labels"]
abbrev p_label : List Str := ["code", "state"]
theorem sc_label : FnScope n_label p_label (defScope s_label) := ⟨rfl, rfl, rfl, by decide +kernel, rfl, by decide +kernel, by decide +kernel⟩
def r_label (sp_place_of : Sp3) : TS3 := (tSeq3 (tAsg3 (tV 0) (gP 2 3))
    (tRet3 (tOp3 rIx3 (tV 3) (tCall3 2 sp_place_of (tCons3 (tV 2) (tCons3 (tV 1) tNil3))))))

/-! values_of -/
abbrev s_values_of : Stmt := top 23
abbrev n_values_of : List Str := ["code"]
abbrev p_values_of : List Str := ["code"]
theorem sc_values_of : FnScope n_values_of p_values_of (defScope s_values_of) := ⟨rfl, rfl, rfl, by decide +kernel, rfl, by decide +kernel, by decide +kernel⟩
def r_values_of (sp_unlike_values : Sp3) : TS3 := (tRet3 (tCall3 1 sp_unlike_values (tCons3 (tOp3 rIx3 (tV 0) (tK (Dn 1))) tNil3)))

/-! SafeTable.worth -/
abbrev s_t_worth : Stmt := inClass (top 25) 1
abbrev n_t_worth : List Str := ["self", "first", "state", "value", "rest"]
abbrev p_t_worth : List Str := ["self", "first", "state", "value"]
theorem sc_t_worth : FnScope n_t_worth p_t_worth (defScope s_t_worth) := ⟨rfl, rfl, rfl, by decide +kernel, rfl, by decide +kernel, by decide +kernel⟩
def r_t_worth (C : Addr) : TS3 := (tSeq3 (tIfS3 (tT (tOp3 (rEq3 id) (tOp3 rIx3 (tFld3 C (tV 0) "labels") (tV 2)) (tV 3))) (tRet3 (tOp3 rIx3 (tFld3 C (tV 0) "safe") (tV 2))) tNext3)
    (tSeq3 (tIfS3 (tOr3 (tT (tOp3 (rIs3 id) (tOp3 rIx3 (tFld3 C (tV 0) "labels") (tV 2)) (tK Dz))) (tT (tOp3 (rEq3 (!·)) (tOp3 rIx3 (tFld3 C (tV 0) "labels") (tV 2)) (tOp3 rIx3 (tFld3 C (tV 0) "labels") (tV 1))))) (tRet3 (tK Dz)) tNext3)
    (tSeq3 (tSet3 4 (tOp3 rIx3 (tOp3 rIx3 (tFld3 C (tV 0) "first_steps") (tTup3 (tCons3 (tV 2) (tCons3 (tV 3) tNil3)))) (tK (Dn 0))))
    (tRet3 (tIf3 (tT (tOp3 (rIs3 id) (tV 4) (tK Dz))) (tK Dz) (tB3 rMin23 (tCons3 (tV 4) (tCons3 (tOp3 rIx3 (tFld3 C (tV 0) "safe") (tV 2)) tNil3))))))))

/-! SafeTable.best_step -/
abbrev s_t_best_step : Stmt := inClass (top 25) 2
abbrev n_t_best_step : List Str := ["self", "state", "value", "found", "cell", "further", "worth"]
abbrev p_t_best_step : List Str := ["self", "state", "value"]
theorem sc_t_best_step : FnScope n_t_best_step p_t_best_step (defScope s_t_best_step) := ⟨rfl, rfl, rfl, by decide +kernel, rfl, by decide +kernel, by decide +kernel⟩
def r_t_best_step_1 (C : Addr) (sp_above : Sp3) (sp_t_worth : Sp3) : TS3 := (tSeq3 (tSet3 6 (tMeth3 C "worth" 4 sp_t_worth (tV 0) (tCons3 (tV 1) (tCons3 (tV 5) (tCons3 (tV 2) tNil3)))))
    (tIfS3 (tAnd3 (tT (tOp3 (rIs3 (!·)) (tV 6) (tK Dz))) (tOr3 (tT (tOp3 (rIs3 id) (tOp3 rIx3 (tV 3) (tK (Dn 0))) (tK Dz))) (tT (tOp3 (rI03 fun i j => .bl (decide (j < i))) (tV 6) (tOp3 rIx3 (tV 3) (tK (Dn 0))))))) (tSet3 3 (tTup3 (tCons3 (tV 6) (tCons3 (tV 5) tNil3)))) tNext3))
def r_t_best_step (C : Addr) (sp_above : Sp3) (sp_t_worth : Sp3) : TS3 := (tSeq3 (tSet3 3 (tTup3 (tCons3 (tK Dz) (tCons3 (tK Dz) tNil3))))
    (tSeq3 (tFor3 (iL3 (tCall3 2 sp_above (tCons3 (tFld3 C (tV 0) "card") (tCons3 (tV 1) tNil3)))) (gP 4 5) (r_t_best_step_1 C sp_above sp_t_worth))
    (tRet3 (tV 3))))

/-! SafeTable.fill -/
abbrev s_t_fill : Stmt := inClass (top 25) 3
abbrev n_t_fill : List Str := ["self", "state", "worths", "value"]
abbrev p_t_fill : List Str := ["self", "state"]
theorem sc_t_fill : FnScope n_t_fill p_t_fill (defScope s_t_fill) := ⟨rfl, rfl, rfl, by decide +kernel, rfl, by decide +kernel, by decide +kernel⟩
def r_t_fill_1 (C : Addr) (sp_t_best_step : Sp3) : TS3 := (tIfS3 (tT (tOp3 (rEq3 (!·)) (tV 3) (tOp3 rIx3 (tFld3 C (tV 0) "labels") (tV 1)))) (tSeq3 (tSub3 (tMeth3 C "best_step" 3 sp_t_best_step (tV 0) (tCons3 (tV 1) (tCons3 (tV 3) tNil3))) (tFld3 C (tV 0) "first_steps") (tTup3 (tCons3 (tV 1) (tCons3 (tV 3) tNil3))))
    (tDrop3 (tM1 rApp3 (tV 2) (tCons3 (tOp3 rIx3 (tOp3 rIx3 (tFld3 C (tV 0) "first_steps") (tTup3 (tCons3 (tV 1) (tCons3 (tV 3) tNil3)))) (tK (Dn 0))) tNil3)))) tNext3)
def r_t_fill (C : Addr) (sp_t_best_step : Sp3) : TS3 := (tSeq3 (tSet3 2 (tLst3 tNil3))
    (tSeq3 (tFor3 (iT3 (tFld3 C (tV 0) "code_values")) (gN 3) (r_t_fill_1 C sp_t_best_step))
    (tSub3 (tIf3 (tT (tOp3 (rIn3 id) (tK Dz) (tV 2))) (tK (Dn 0)) (tOp3 rAdd3 (tK (Dn 1)) (tB3 rMinL3 (tCons3 (tV 2) tNil3)))) (tFld3 C (tV 0) "safe") (tV 1))))

/-! SafeTable.__init__ -/
abbrev s_t_init : Stmt := inClass (top 25) 0
abbrev n_t_init : List Str := ["self", "code", "state"]
abbrev p_t_init : List Str := ["self", "code"]
theorem sc_t_init : FnScope n_t_init p_t_init (defScope s_t_init) := ⟨rfl, rfl, rfl, by decide +kernel, rfl, by decide +kernel, by decide +kernel⟩
def r_t_init_1 (C : Addr) (sp_states : Sp3) (sp_values_of : Sp3) (sp_t_fill : Sp3) : TS3 := (tIfS3 (tT (tOp3 (rIs3 (!·)) (tOp3 rIx3 (tFld3 C (tV 0) "labels") (tV 2)) (tK Dz))) (tDrop3 (tMeth3 C "fill" 2 sp_t_fill (tV 0) (tCons3 (tV 2) tNil3))) tNext3)
def r_t_init (C : Addr) (sp_states : Sp3) (sp_values_of : Sp3) (sp_t_fill : Sp3) : TS3 := (tSeq3 (tSFld3 C (tOp3 rIx3 (tV 1) (tK (Dn 0))) (tV 0) "card")
    (tSeq3 (tSFld3 C (tB3 rDictZ3 (tCons3 (tCall3 1 sp_states (tCons3 (tOp3 rIx3 (tV 1) (tK (Dn 0))) tNil3)) (tCons3 (tOp3 rIx3 (tV 1) (tK (Dn 1))) tNil3))) (tV 0) "labels")
    (tSeq3 (tSFld3 C (tCall3 1 sp_values_of (tCons3 (tV 1) tNil3)) (tV 0) "code_values")
    (tSeq3 (tSFld3 C tDict0 (tV 0) "safe")
    (tSeq3 (tSFld3 C tDict0 (tV 0) "first_steps")
    (tFor3 (iT3 (tBack3 (tCall3 1 sp_states (tCons3 (tOp3 rIx3 (tV 1) (tK (Dn 0))) tNil3)))) (gN 2) (r_t_init_1 C sp_states sp_values_of sp_t_fill)))))))

/-! SafeTable.way -/
abbrev s_t_way : Stmt := inClass (top 25) 4
abbrev n_t_way : List Str := ["self", "state", "value", "found", "further"]
abbrev p_t_way : List Str := ["self", "state", "value"]
theorem sc_t_way : FnScope n_t_way p_t_way (defScope s_t_way) := ⟨rfl, rfl, rfl, by decide +kernel, rfl, by decide +kernel, by decide +kernel⟩
def r_t_way_1 (C : Addr) : TS3 := (tSeq3 (tSet3 4 (tOp3 rIx3 (tOp3 rIx3 (tFld3 C (tV 0) "first_steps") (tTup3 (tCons3 (tWk3 (tOp3 rIx3 (tV 3) (tUn3 rNeg3 (tK (Dn 1))))) (tCons3 (tV 2) tNil3)))) (tK (Dn 1))))
    (tSeq3 (tIfS3 (tT (tOp3 (rIs3 id) (tV 4) (tK Dz))) (tRet3 (tK Dz)) tNext3)
    (tDrop3 (tM1 rApp3 (tV 3) (tCons3 (tV 4) tNil3)))))
def r_t_way (C : Addr) : TS3 := (tSeq3 (tSet3 3 (tLst3 (tCons3 (tV 1) tNil3)))
    (tSeq3 (tWhile3 (tT (tOp3 (rEq3 (!·)) (tOp3 rIx3 (tFld3 C (tV 0) "labels") (tWk3 (tOp3 rIx3 (tV 3) (tUn3 rNeg3 (tK (Dn 1)))))) (tV 2))) (r_t_way_1 C))
    (tRet3 (tB3 rTupleW3 (tCons3 (tV 3) tNil3)))))

/-! safe_strengths -/
abbrev s_safe_strengths : Stmt := top 26
abbrev n_safe_strengths : List Str := ["code", "table", "state"]
abbrev p_safe_strengths : List Str := ["code"]
theorem sc_safe_strengths : FnScope n_safe_strengths p_safe_strengths (defScope s_safe_strengths) := ⟨rfl, rfl, rfl, by decide +kernel, rfl, by decide +kernel, by decide +kernel⟩
def r_safe_strengths (C : Addr) (sp_states : Sp3) (sp_t_init : Sp3) : TS3 := (tSeq3 (tSet3 1 (tMake3 C 2 sp_t_init (tCons3 (tV 0) tNil3)))
    (tRet3 (tB3 rTuple3 (tCons3 (tLc3 (iT3 (tCall3 1 sp_states (tCons3 (tOp3 rIx3 (tV 0) (tK (Dn 0))) tNil3))) (cN 2) tYes3 (tGet3 (tFld3 C (tV 1) "safe") (tV 2))) tNil3))))

/-! safe_way -/
abbrev s_safe_way : Stmt := top 27
abbrev n_safe_way : List Str := ["code", "state", "value", "own"]
abbrev p_safe_way : List Str := ["code", "state", "value"]
theorem sc_safe_way : FnScope n_safe_way p_safe_way (defScope s_safe_way) := ⟨rfl, rfl, rfl, by decide +kernel, rfl, by decide +kernel, by decide +kernel⟩
def r_safe_way (C : Addr) (sp_label : Sp3) (sp_is_value : Sp3) (sp_values_of : Sp3) (sp_t_way : Sp3) (sp_t_init : Sp3) : TS3 := (tSeq3 (tSet3 3 (tCall3 2 sp_label (tCons3 (tV 0) (tCons3 (tWk3 (tV 1)) tNil3))))
    (tSeq3 (tIfS3 (tOr3 (tNot3 (tT (tCall3 1 sp_is_value (tCons3 (tV 2) tNil3)))) (tT (tOp3 (rIn3 (!·)) (tV 2) (tCall3 1 sp_values_of (tCons3 (tV 0) tNil3))))) tNever3 tNext3)
    (tSeq3 (tIfS3 (tOr3 (tT (tOp3 (rIs3 id) (tV 3) (tK Dz))) (tT (tOp3 (rEq3 id) (tV 3) (tV 2)))) tNever3 tNext3)
    (tRet3 (tMeth3 C "way" 3 sp_t_way (tMake3 C 2 sp_t_init (tCons3 (tV 0) tNil3)) (tCons3 (tV 1) (tCons3 (tV 2) tNil3)))))))

/-! _law_spool -/
abbrev s_l_spool : Stmt := top 29
abbrev n_l_spool : List Str := ["_law_script", "_law_cells", "_law_far", "_law_own"]
abbrev p_l_spool : List Str := ["_law_script"]
theorem sc_l_spool : FnScope n_l_spool p_l_spool (defScope s_l_spool) := ⟨rfl, rfl, rfl, by decide +kernel, rfl, by decide +kernel, by decide +kernel⟩
def r_l_spool  : TS3 := (tSeq3 (tSet3 1 (tLc3 (iL3 (tSl3 (tV 0) tNo3 (tSm3 (tK (Dn 63))))) (cN 3) tYes3 (tIf3 (tT (tOp3 (rI03 fun i j => .bl (decide (j ≤ i))) (tV 3) (tK (Dn 0)))) (tOp3 (rI3 IntMulOk fun i j => Dn (i * j)) (tK (Dn 2)) (tV 3)) (tOp3 (rI03 fun i j => Dn (i - j)) (tOp3 (rI3 IntMulOk fun i j => Dn (i * j)) (tUn3 rNeg3 (tK (Dn 2))) (tV 3)) (tK (Dn 1))))))
    (tSeq3 (tSet3 2 (tLc3 (iL3 (tV 1)) (cN 3) (tT (tOp3 (rI03 fun i j => .bl (decide (j ≤ i))) (tV 3) (tOp3 (rI3 CPow fun i j => Dn (i ^ j.toNat)) (tK (Dn 10)) (tK (Dn 18))))) (tV 3)))
    (tRet3 (tDisp3 [((tK (.k (.text "far"))), (tV 2)), ((tK (.k (.text "cells"))), (tOp3 rAdd3 (tV 1) (tLst3 (tCons3 (tOp3 rAdd3 (tB3 rLen3 (tCons3 (tV 1) tNil3)) (tK (Dn 6151))) tNil3)))), ((tK (.k (.text "sum"))), (tB3 rSum3 (tCons3 (tV 1) tNil3))), ((tK (.k (.text "count"))), (tK (Dn 0)))]))))

/-! _law_draw -/
abbrev s_l_draw : Stmt := top 30
abbrev n_l_draw : List Str := ["_law_spool_here", "_law_many", "_law_far", "_law_cell", "_law_mixed_here", "_law_own", "_law_count", "_law_cells"]
abbrev p_l_draw : List Str := ["_law_spool_here", "_law_many"]
theorem sc_l_draw : FnScope n_l_draw p_l_draw (defScope s_l_draw) := ⟨rfl, rfl, rfl, by decide +kernel, rfl, by decide +kernel, by decide +kernel⟩
def r_l_draw  : TS3 := (tSeq3 (tSet3 2 (tOp3 rIx3 (tV 0) (tK (.k (.text "far")))))
    (tSeq3 (tIfS3 (tAnd3 (tT (tOp3 (rEq3 (!·)) (tV 2) (tLst3 tNil3))) (tT (tOp3 (rI03 fun i j => .bl (decide (j < i))) (tV 1) (tK (Dn 1))))) (tSeq3 (tSet3 5 (tM0 rPop3 (tV 2)))
    (tSeq3 (tIfS3 (tT (tOp3 (rI03 fun i j => .bl (decide (j ≤ i))) (tV 5) (tV 1))) (tDrop3 (tM1 rApp3 (tV 2) (tCons3 (tOp3 (rI3 CDiv fun i j => Dn (i / j)) (tV 5) (tV 1)) tNil3))) tNext3)
    (tRet3 (tOp3 (rI3 (fun _ j => 0 < j) fun i j => Dn (i % j)) (tB3 rInt3 (tCons3 (tV 5) tNil3)) (tV 1))))) tNext3)
    (tSeq3 (tSub3 (tOp3 rAdd3 (tOp3 rIx3 (tV 0) (tK (.k (.text "count")))) (tK (Dn 1))) (tV 0) (tK (.k (.text "count"))))
    (tSeq3 (tPar3 6 7 (tCons3 (tOp3 rIx3 (tV 0) (tK (.k (.text "count")))) (tCons3 (tOp3 rIx3 (tV 0) (tK (.k (.text "cells")))) tNil3)))
    (tSeq3 (tSet3 3 (tOp3 rIx3 (tV 7) (tOp3 (rI3 (fun _ j => 0 < j) fun i j => Dn (i % j)) (tB3 rInt3 (tCons3 (tV 6) tNil3)) (tB3 rLen3 (tCons3 (tV 7) tNil3)))))
    (tSeq3 (tSet3 4 (tOp3 (rI3 (fun _ j => 0 < j) fun i j => Dn (i % j)) (tB3 rInt3 (tCons3 (tOp3 rAdd3 (tOp3 rAdd3 (tOp3 (rI3 IntMulOk fun i j => Dn (i * j)) (tV 3) (tK (Dn 2654435761))) (tOp3 (rI3 IntMulOk fun i j => Dn (i * j)) (tV 6) (tK (Dn 374761393)))) (tOp3 (rI3 IntMulOk fun i j => Dn (i * j)) (tOp3 rIx3 (tV 0) (tK (.k (.text "sum")))) (tK (Dn 97)))) tNil3)) (tK (Dn 4294967291))))
    (tSeq3 (tSet3 4 (tOp3 (rI3 (fun _ j => 0 < j) fun i j => Dn (i % j)) (tB3 rInt3 (tCons3 (tOp3 rAdd3 (tOp3 rAdd3 (tOp3 (rI3 IntMulOk fun i j => Dn (i * j)) (tV 4) (tV 4)) (tV 3)) (tOp3 (rI3 IntMulOk fun i j => Dn (i * j)) (tV 6) (tK (Dn 668265263)))) tNil3)) (tK (Dn 4294967279))))
    (tSeq3 (tSet3 4 (tOp3 (rI3 (fun _ j => 0 < j) fun i j => Dn (i % j)) (tB3 rInt3 (tCons3 (tOp3 rAdd3 (tOp3 (rI3 IntMulOk fun i j => Dn (i * j)) (tV 4) (tV 4)) (tV 4)) tNil3)) (tK (Dn 4294967197))))
    (tRet3 (tOp3 (rI3 (fun _ j => 0 < j) fun i j => Dn (i % j)) (tB3 rInt3 (tCons3 (tOp3 (rI3 CDiv fun i j => Dn (i / j)) (tV 4) (tK (Dn 128))) tNil3)) (tV 1)))))))))))

/-! _law_pick -/
abbrev s_l_pick : Stmt := top 31
abbrev n_l_pick : List Str := ["_law_spool_here", "_law_row"]
abbrev p_l_pick : List Str := ["_law_spool_here", "_law_row"]
theorem sc_l_pick : FnScope n_l_pick p_l_pick (defScope s_l_pick) := ⟨rfl, rfl, rfl, by decide +kernel, rfl, by decide +kernel, by decide +kernel⟩
def r_l_pick (sp_l_draw : Sp3) : TS3 := (tRet3 (tOp3 rIx3 (tV 1) (tCall3 2 sp_l_draw (tCons3 (tV 0) (tCons3 (tB3 rLen3 (tCons3 (tV 1) tNil3)) tNil3)))))

/-! _law_mixed -/
abbrev s_l_mixed : Stmt := top 32
abbrev n_l_mixed : List Str := ["_law_spool_here", "_law_row", "_law_turn", "_law_rest", "_law_found"]
abbrev p_l_mixed : List Str := ["_law_spool_here", "_law_row"]
theorem sc_l_mixed : FnScope n_l_mixed p_l_mixed (defScope s_l_mixed) := ⟨rfl, rfl, rfl, by decide +kernel, rfl, by decide +kernel, by decide +kernel⟩
def r_l_mixed_1 (sp_l_draw : Sp3) : TS3 := (tDrop3 (tM1 rApp3 (tV 4) (tCons3 (tM1 rPopAt3 (tV 3) (tCons3 (tCall3 2 sp_l_draw (tCons3 (tV 0) (tCons3 (tB3 rLen3 (tCons3 (tV 3) tNil3)) tNil3))) tNil3)) tNil3)))
def r_l_mixed (sp_l_draw : Sp3) : TS3 := (tSeq3 (tPar3 3 4 (tCons3 (tB3 rList3 (tCons3 (tV 1) tNil3)) (tCons3 (tLst3 tNil3) tNil3)))
    (tSeq3 (tFor3 (iR3 (tCons3 (tB3 rLen3 (tCons3 (tV 3) tNil3)) tNil3)) (gN 2) (r_l_mixed_1 sp_l_draw))
    (tRet3 (tV 4))))

/-! _law_states -/
abbrev s_l_states : Stmt := top 33
abbrev n_l_states : List Str := ["_law_card_here", "_law_found", "_law_top", "_law_more", "_law_state", "_law_level"]
abbrev p_l_states : List Str := ["_law_card_here"]
theorem sc_l_states : FnScope n_l_states p_l_states (defScope s_l_states) := ⟨rfl, rfl, rfl, by decide +kernel, rfl, by decide +kernel, by decide +kernel⟩
def r_l_states_2  : TS3 := (tSet3 3 (tOp3 rAdd3 (tV 3) (tLc3 (iR3 (tCons3 (tOp3 rAdd3 (tV 2) (tK (Dn 1))) tNil3)) (cN 5) tYes3 (tOp3 rAdd3 (tV 4) (tTup3 (tCons3 (tV 5) tNil3))))))
def r_l_states_1  : TS3 := (tSeq3 (tSet3 3 (tLst3 tNil3))
    (tSeq3 (tFor3 (iL3 (tV 1)) (gN 4) (r_l_states_2))
    (tSet3 1 (tV 3))))
def r_l_states  : TS3 := (tSeq3 (tSet3 1 (tLst3 (tCons3 (tTup3 tNil3) tNil3)))
    (tSeq3 (tFor3 (iT3 (tV 0)) (gN 2) (r_l_states_1))
    (tRet3 (tV 1))))

/-! _law_card -/
abbrev s_l_card : Stmt := top 34
abbrev n_l_card : List Str := ["_law_spool_here", "_law_most", "_law_turn", "_law_tops", "_law_size", "_law_top"]
abbrev p_l_card : List Str := ["_law_spool_here", "_law_most"]
theorem sc_l_card : FnScope n_l_card p_l_card (defScope s_l_card) := ⟨rfl, rfl, rfl, by decide +kernel, rfl, by decide +kernel, by decide +kernel⟩
def r_l_card_1 (sp_l_pick : Sp3) : TS3 := (tSeq3 (tSet3 5 (tCall3 2 sp_l_pick (tCons3 (tV 0) (tCons3 (tLst3 (tCons3 (tK (Dn 1)) (tCons3 (tK (Dn 1)) (tCons3 (tK (Dn 1)) (tCons3 (tK (Dn 2)) (tCons3 (tK (Dn 2)) (tCons3 (tK (Dn 3)) (tCons3 (tK (Dn 4)) tNil3)))))))) tNil3))))
    (tIfS3 (tT (tOp3 (rI03 fun i j => .bl (decide (i ≤ j))) (tOp3 (rI3 IntMulOk fun i j => Dn (i * j)) (tV 4) (tOp3 rAdd3 (tV 5) (tK (Dn 1)))) (tV 1))) (tSeq3 (tDrop3 (tM1 rApp3 (tV 3) (tCons3 (tV 5) tNil3)))
    (tSet3 4 (tOp3 (rI3 IntMulOk fun i j => Dn (i * j)) (tV 4) (tOp3 rAdd3 (tV 5) (tK (Dn 1)))))) tNext3))
def r_l_card (sp_l_pick : Sp3) : TS3 := (tSeq3 (tPar3 3 4 (tCons3 (tLst3 tNil3) (tCons3 (tK (Dn 1)) tNil3)))
    (tSeq3 (tFor3 (iR3 (tCons3 (tCall3 2 sp_l_pick (tCons3 (tV 0) (tCons3 (tLst3 (tCons3 (tK (Dn 1)) (tCons3 (tK (Dn 2)) (tCons3 (tK (Dn 2)) (tCons3 (tK (Dn 3)) (tCons3 (tK (Dn 3)) (tCons3 (tK (Dn 4)) tNil3))))))) tNil3))) tNil3)) (gN 2) (r_l_card_1 sp_l_pick))
    (tRet3 (tB3 rTuple3 (tCons3 (tV 3) tNil3)))))

/-! _law_values -/
abbrev s_l_values : Stmt := top 35
abbrev n_l_values : List Str := ["_law_spool_here", "_law_many", "_law_menu"]
abbrev p_l_values : List Str := ["_law_spool_here", "_law_many"]
theorem sc_l_values : FnScope n_l_values p_l_values (defScope s_l_values) := ⟨rfl, rfl, rfl, by decide +kernel, rfl, by decide +kernel, by decide +kernel⟩
def r_l_values (sp_l_mixed : Sp3) : TS3 := (tSeq3 (tSet3 2 (tLst3 (tCons3 (tK (Dn 0)) (tCons3 (tK (Dn 1)) (tCons3 (tK (Dn 2)) (tCons3 (tK (Dn 7)) (tCons3 (tK (Dn 999)) (tCons3 (tK (.k (.text "a"))) (tCons3 (tK (.k (.text "b"))) (tCons3 (tK (.k (.text "up"))) (tCons3 (tK (.k (.text "abcdefgh"))) (tCons3 (tTup3 (tCons3 (tK (Dn 0)) tNil3)) (tCons3 (tTup3 (tCons3 (tK (Dn 0)) (tCons3 (tK (Dn 1)) tNil3))) (tCons3 (tTup3 (tCons3 (tK (Dn 1)) (tCons3 (tK (Dn 0)) tNil3))) (tCons3 (tTup3 (tCons3 (tK (.k (.text "a"))) (tCons3 (tK (Dn 0)) tNil3))) (tCons3 (tTup3 (tCons3 (tK (Dn 3)) (tCons3 (tK (.k (.text "ab"))) (tCons3 (tK (Dn 5)) (tCons3 (tK (Dn 7)) tNil3))))) tNil3))))))))))))))))
    (tRet3 (tSl3 (tCall3 2 sp_l_mixed (tCons3 (tV 0) (tCons3 (tV 2) tNil3))) tNo3 (tSm3 (tV 1)))))

/-! _law_code -/
abbrev s_l_code : Stmt := top 36
abbrev n_l_code : List Str := ["_law_spool_here", "_law_card_here", "_law_many", "_law_labels", "_law_state", "_law_values_here", "_law_way_here", "_law_marks", "_law_own", "_law_top", "_law_level", "_law_mark"]
abbrev p_l_code : List Str := ["_law_spool_here", "_law_card_here", "_law_many"]
theorem sc_l_code : FnScope n_l_code p_l_code (defScope s_l_code) := ⟨rfl, rfl, rfl, by decide +kernel, rfl, by decide +kernel, by decide +kernel⟩
def r_l_code_1 (sp_l_values : Sp3) (sp_l_draw : Sp3) (sp_l_states : Sp3) (sp_l_pick : Sp3) : TS3 := (tSeq3 (tSet3 8 (tOp3 rIx3 (tV 5) (tOp3 (rI3 (fun _ j => 0 < j) fun i j => Dn (i % j)) (tB3 rInt3 (tCons3 (tB3 rSum3 (tCons3 (tLc3 (iZ3 (tCons3 (tV 4) (tCons3 (tV 7) tNil3))) (cP 10 11) tYes3 (tOp3 (rI3 IntMulOk fun i j => Dn (i * j)) (tV 10) (tV 11))) tNil3)) tNil3)) (tV 2))))
    (tSeq3 (tIfS3 (tOr3 (tT (tOp3 (rI03 fun i j => .bl (decide (j < i))) (tV 6) (tK (Dn 3)))) (tAnd3 (tT (tOp3 (rI03 fun i j => .bl (decide (j < i))) (tV 6) (tK (Dn 1)))) (tT (tOp3 (rEq3 id) (tCall3 2 sp_l_draw (tCons3 (tV 0) (tCons3 (tK (Dn 6)) tNil3))) (tK (Dn 0)))))) (tSet3 8 (tCall3 2 sp_l_pick (tCons3 (tV 0) (tCons3 (tV 5) tNil3)))) tNext3)
    (tSeq3 (tIfS3 (tAnd3 (tT (tOp3 (rIn3 id) (tV 6) (tTup3 (tCons3 (tK (Dn 1)) (tCons3 (tK (Dn 3)) (tCons3 (tK (Dn 4)) tNil3)))))) (tT (tOp3 (rEq3 id) (tCall3 2 sp_l_draw (tCons3 (tV 0) (tCons3 (tK (Dn 6)) tNil3))) (tK (Dn 0))))) (tSet3 8 (tK Dz)) tNext3)
    (tDrop3 (tM1 rApp3 (tV 3) (tCons3 (tV 8) tNil3))))))
def r_l_code (sp_l_values : Sp3) (sp_l_draw : Sp3) (sp_l_states : Sp3) (sp_l_pick : Sp3) : TS3 := (tSeq3 (tPar33 5 6 7 (tCons3 (tCall3 2 sp_l_values (tCons3 (tV 0) (tCons3 (tV 2) tNil3))) (tCons3 (tCall3 2 sp_l_draw (tCons3 (tV 0) (tCons3 (tK (Dn 5)) tNil3))) (tCons3 (tLc3 (iT3 (tV 1)) (cN 9) tYes3 (tOp3 rAdd3 (tK (Dn 1)) (tCall3 2 sp_l_draw (tCons3 (tV 0) (tCons3 (tV 2) tNil3))))) tNil3))))
    (tSeq3 (tSet3 3 (tLst3 tNil3))
    (tSeq3 (tFor3 (iL3 (tCall3 1 sp_l_states (tCons3 (tV 1) tNil3))) (gN 4) (r_l_code_1 sp_l_values sp_l_draw sp_l_states sp_l_pick))
    (tSeq3 (tSub3 (tOp3 rIx3 (tV 5) (tK (Dn 0))) (tV 3) (tK (Dn 0)))
    (tSeq3 (tIfS3 (tT (tOp3 (rEq3 id) (tLc3 (iL3 (tV 3)) (cN 8) (tAnd3 (tT (tOp3 (rIs3 (!·)) (tV 8) (tK Dz))) (tT (tOp3 (rEq3 (!·)) (tV 8) (tOp3 rIx3 (tV 5) (tK (Dn 0)))))) (tV 8)) (tLst3 tNil3))) (tSub3 (tOp3 rIx3 (tV 5) (tK (Dn 1))) (tV 3) (tUn3 rNeg3 (tK (Dn 1)))) tNext3)
    (tRet3 (tTup3 (tCons3 (tV 1) (tCons3 (tB3 rTuple3 (tCons3 (tV 3) tNil3)) tNil3)))))))))

/-! _law_table -/
abbrev s_l_table : Stmt := top 37
abbrev n_l_table : List Str := ["_law_code_here"]
abbrev p_l_table : List Str := ["_law_code_here"]
theorem sc_l_table : FnScope n_l_table p_l_table (defScope s_l_table) := ⟨rfl, rfl, rfl, by decide +kernel, rfl, by decide +kernel, by decide +kernel⟩
def r_l_table (sp_l_states : Sp3) : TS3 := (tRet3 (tB3 rDictP3 (tCons3 (tB3 rListZ3 (tCons3 (tCall3 1 sp_l_states (tCons3 (tOp3 rIx3 (tV 0) (tK (Dn 0))) tNil3)) (tCons3 (tOp3 rIx3 (tV 0) (tK (Dn 1))) tNil3))) tNil3)))

/-! _law_named -/
abbrev s_l_named : Stmt := top 38
abbrev n_l_named : List Str := ["_law_table_here", "_law_found", "_law_state"]
abbrev p_l_named : List Str := ["_law_table_here"]
theorem sc_l_named : FnScope n_l_named p_l_named (defScope s_l_named) := ⟨rfl, rfl, rfl, by decide +kernel, rfl, by decide +kernel, by decide +kernel⟩
def r_l_named_1  : TS3 := (tIfS3 (tAnd3 (tT (tOp3 (rIs3 (!·)) (tOp3 rIx3 (tV 0) (tV 2)) (tK Dz))) (tT (tOp3 (rIn3 (!·)) (tOp3 rIx3 (tV 0) (tV 2)) (tV 1)))) (tDrop3 (tM1 rApp3 (tV 1) (tCons3 (tOp3 rIx3 (tV 0) (tV 2)) tNil3))) tNext3)
def r_l_named  : TS3 := (tSeq3 (tSet3 1 (tLst3 tNil3))
    (tSeq3 (tLk3 (tFor3 (iD3 (tV 0)) (gN 2) (r_l_named_1)))
    (tRet3 (tV 1))))

/-! _law_steps -/
abbrev s_l_steps : Stmt := top 39
abbrev n_l_steps : List Str := ["_law_table_here", "_law_state", "_law_found", "_law_k", "_law_level", "_law_other"]
abbrev p_l_steps : List Str := ["_law_table_here", "_law_state"]
theorem sc_l_steps : FnScope n_l_steps p_l_steps (defScope s_l_steps) := ⟨rfl, rfl, rfl, by decide +kernel, rfl, by decide +kernel, by decide +kernel⟩
def r_l_steps_1  : TS3 := (tSeq3 (tSet3 5 (tOp3 rAdd3 (tOp3 rAdd3 (tSl3 (tV 1) tNo3 (tSm3 (tV 3))) (tTup3 (tCons3 (tOp3 rAdd3 (tV 4) (tK (Dn 1))) tNil3))) (tSl3 (tV 1) (tSm3 (tOp3 rAdd3 (tV 3) (tK (Dn 1)))) tNo3)))
    (tIfS3 (tT (tOp3 (rIn3 id) (tV 5) (tV 0))) (tDrop3 (tM1 rApp3 (tV 2) (tCons3 (tV 5) tNil3))) tNext3))
def r_l_steps  : TS3 := (tSeq3 (tSet3 2 (tLst3 tNil3))
    (tSeq3 (tFor3 (iE3 (tCons3 (tV 1) tNil3)) (gP 3 4) (r_l_steps_1))
    (tRet3 (tV 2))))

/-! _law_way -/
abbrev s_l_way : Stmt := top 40
abbrev n_l_way : List Str := ["_law_table_here", "_law_state", "_law_value", "_law_ground", "_law_ways", "_law_seen", "_law_way_here", "_law_other"]
abbrev p_l_way : List Str := ["_law_table_here", "_law_state", "_law_value", "_law_ground"]
theorem sc_l_way : FnScope n_l_way p_l_way (defScope s_l_way) := ⟨rfl, rfl, rfl, by decide +kernel, rfl, by decide +kernel, by decide +kernel⟩
def r_l_way_2 (sp_l_steps : Sp3) : TS3 := (tIfS3 (tAnd3 (tT (tOp3 (rIn3 id) (tV 7) (tV 3))) (tAnd3 (tT (tOp3 (rIn3 (!·)) (tV 7) (tV 5))) (tT (tOp3 (rIn3 id) (tOp3 rIx3 (tV 0) (tV 7)) (tTup3 (tCons3 (tOp3 rIx3 (tV 0) (tV 1)) (tCons3 (tV 2) tNil3))))))) (tSeq3 (tSub3 (tK (.bl true)) (tV 5) (tV 7))
    (tDrop3 (tM1 rApp3 (tV 4) (tCons3 (tOp3 rAdd3 (tV 6) (tTup3 (tCons3 (tV 7) tNil3))) tNil3)))) tNext3)
def r_l_way_1 (sp_l_steps : Sp3) : TS3 := (tSeq3 (tSet3 6 (tM0 rPop3 (tV 4)))
    (tSeq3 (tIfS3 (tT (tOp3 (rEq3 id) (tOp3 rIx3 (tV 0) (tOp3 rIx3 (tV 6) (tUn3 rNeg3 (tK (Dn 1))))) (tV 2))) (tRet3 (tV 6)) tNext3)
    (tFor3 (iL3 (tCall3 2 sp_l_steps (tCons3 (tV 0) (tCons3 (tOp3 rIx3 (tV 6) (tUn3 rNeg3 (tK (Dn 1)))) tNil3)))) (gN 7) (r_l_way_2 sp_l_steps))))
def r_l_way (sp_l_steps : Sp3) : TS3 := (tSeq3 (tPar3 4 5 (tCons3 (tLst3 (tCons3 (tTup3 (tCons3 (tV 1) tNil3)) tNil3)) (tCons3 (tDisp3 [((tV 1), (tK (.bl true)))]) tNil3)))
    (tSeq3 (tWhile3 (tT (tOp3 (rEq3 (!·)) (tV 4) (tLst3 tNil3))) (r_l_way_1 sp_l_steps))
    (tRet3 (tK Dz))))

/-! _law_is_shown -/
abbrev s_l_is_shown : Stmt := top 41
abbrev n_l_is_shown : List Str := ["_law_table_here", "_law_ranks", "_law_state", "_law_values_here", "_law_least", "_law_lot", "_law_wide", "_law_own", "_law_other"]
abbrev p_l_is_shown : List Str := ["_law_table_here", "_law_ranks", "_law_state"]
theorem sc_l_is_shown : FnScope n_l_is_shown p_l_is_shown (defScope s_l_is_shown) := ⟨rfl, rfl, rfl, by decide +kernel, rfl, by decide +kernel, by decide +kernel⟩
def r_l_is_shown (sp_l_named : Sp3) (sp_l_way : Sp3) : TS3 := (tSeq3 (tSet3 3 (tLc3 (iL3 (tCall3 1 sp_l_named (tCons3 (tV 0) tNil3))) (cN 7) (tT (tOp3 (rEq3 (!·)) (tV 7) (tOp3 rIx3 (tV 0) (tV 2)))) (tV 7)))
    (tSeq3 (tSet3 4 (tOp3 rIx3 (tV 1) (tV 2)))
    (tSeq3 (tSet3 5 (tB3 rDictP3 (tCons3 (tLkE3 (tLc3 (iD3 (tV 0)) (cN 8) (tAnd3 (tT (tOp3 (rIs3 (!·)) (tOp3 rIx3 (tV 1) (tV 8)) (tK Dz))) (tT (tOp3 (rI03 fun i j => .bl (decide (j ≤ i))) (tOp3 rIx3 (tV 1) (tV 8)) (tV 4)))) (tTup3 (tCons3 (tV 8) (tCons3 (tK (.bl true)) tNil3))))) tNil3)))
    (tSeq3 (tSet3 6 (tB3 rDictP3 (tCons3 (tLkE3 (tLc3 (iD3 (tV 0)) (cN 8) (tAnd3 (tT (tOp3 (rIs3 (!·)) (tOp3 rIx3 (tV 1) (tV 8)) (tK Dz))) (tT (tOp3 (rI03 fun i j => .bl (decide (j ≤ i))) (tOp3 rIx3 (tV 1) (tV 8)) (tOp3 (rI03 fun i j => Dn (i - j)) (tV 4) (tK (Dn 1)))))) (tTup3 (tCons3 (tV 8) (tCons3 (tK (.bl true)) tNil3))))) tNil3)))
    (tSeq3 (tIfS3 (tAnd3 (tT (tOp3 (rI03 fun i j => .bl (decide (j < i))) (tV 4) (tK (Dn 0)))) (tT (tOp3 (rEq3 (!·)) (tLc3 (iL3 (tV 3)) (cN 7) (tT (tOp3 (rIs3 id) (tCall3 4 sp_l_way (tCons3 (tV 0) (tCons3 (tV 2) (tCons3 (tV 7) (tCons3 (tV 6) tNil3))))) (tK Dz))) (tV 7)) (tLst3 tNil3)))) (tRet3 (tK (.bl false))) tNext3)
    (tRet3 (tOp3 (rEq3 (!·)) (tLc3 (iL3 (tV 3)) (cN 7) (tT (tOp3 (rIs3 id) (tCall3 4 sp_l_way (tCons3 (tV 0) (tCons3 (tV 2) (tCons3 (tV 7) (tCons3 (tV 5) tNil3))))) (tK Dz))) (tV 7)) (tLst3 tNil3))))))))

/-! _law_is_safe -/
abbrev s_l_is_safe : Stmt := top 42
abbrev n_l_is_safe : List Str := ["_law_table_here", "_law_way_here", "_law_state", "_law_value", "_law_other", "_law_more", "_law_own"]
abbrev p_l_is_safe : List Str := ["_law_table_here", "_law_way_here", "_law_state", "_law_value"]
theorem sc_l_is_safe : FnScope n_l_is_safe p_l_is_safe (defScope s_l_is_safe) := ⟨rfl, rfl, rfl, by decide +kernel, rfl, by decide +kernel, by decide +kernel⟩
def r_l_is_safe_1 (sp_l_steps : Sp3) : TS3 := (tIfS3 (tT (tOp3 (rIn3 (!·)) (tV 5) (tCall3 2 sp_l_steps (tCons3 (tV 0) (tCons3 (tV 4) tNil3))))) (tRet3 (tK (.bl false))) tNext3)
def r_l_is_safe (sp_l_steps : Sp3) : TS3 := (tSeq3 (tIfS3 (tOr3 (tNot3 (tT (tB3 rIsi3 (tCons3 (tWk3 (tV 1)) (tCons3 (tK (.ty "tuple")) tNil3))))) (tOr3 (tT (tOp3 (rI03 fun i j => .bl (decide (i < j))) (tB3 rLen3 (tCons3 (tWk3 (tV 1)) tNil3)) (tK (Dn 2)))) (tRep3 (tFst3 (tV 1)) (tV 2)))) (tRet3 (tK (.bl false))) tNext3)
    (tSeq3 (tFor3 (iZ3 (tCons3 (tWk3 (tV 1)) (tCons3 (tSl3 (tWk3 (tV 1)) (tSm3 (tK (Dn 1))) tNo3) tNil3))) (gP 4 5) (r_l_is_safe_1 sp_l_steps))
    (tRet3 (tAndV3 (tOp3 (rEq3 id) (tLc3 (iT3 (tWk3 (tV 1))) (cN 6) (tT (tOp3 (rIn3 (!·)) (tOp3 rIx3 (tV 0) (tV 6)) (tTup3 (tCons3 (tOp3 rIx3 (tV 0) (tWk3 (tV 2))) (tCons3 (tV 3) tNil3))))) (tV 6)) (tLst3 tNil3)) (tOp3 (rEq3 id) (tOp3 rIx3 (tV 0) (tOp3 rIx3 (tWk3 (tV 1)) (tUn3 rNeg3 (tK (Dn 1))))) (tV 3))))))

/-! _law_is_played -/
abbrev s_l_is_played : Stmt := top 43
abbrev n_l_is_played : List Str := ["_law_spool_here", "_law_code_here", "_law_table_here", "_law_ranks", "_law_state", "_law_turn", "_law_due", "_law_many", "_law_value", "_law_way_here", "_law_end", "_law_own"]
abbrev p_l_is_played : List Str := ["_law_spool_here", "_law_code_here", "_law_table_here", "_law_ranks", "_law_state"]
theorem sc_l_is_played : FnScope n_l_is_played p_l_is_played (defScope s_l_is_played) := ⟨rfl, rfl, rfl, by decide +kernel, rfl, by decide +kernel, by decide +kernel⟩
def r_l_is_played_1 (sp_l_named : Sp3) (sp_l_pick : Sp3) (sp_safe_way : Sp3) (sp_l_is_safe : Sp3) : TS3 := (tOwn3 4 (tSeq3 (tIfS3 (tT (tOp3 (rEq3 id) (tOp3 rIx3 (tV 3) (tWk3 (tV 4))) (tK (Dn 0)))) tBreak3 tNext3)
    (tSeq3 (tSet3 8 (tCall3 2 sp_l_pick (tCons3 (tV 0) (tCons3 (tLc3 (iL3 (tCall3 1 sp_l_named (tCons3 (tV 2) tNil3))) (cN 11) (tT (tOp3 (rEq3 (!·)) (tV 11) (tOp3 rIx3 (tV 2) (tWk3 (tV 4))))) (tV 11)) tNil3))))
    (tSeq3 (tSet3 9 (tCall3 3 sp_safe_way (tCons3 (tV 1) (tCons3 (tV 4) (tCons3 (tV 8) tNil3)))))
    (tSeq3 (tIfS3 (tOr3 (tT (tOp3 (rIs3 id) (tWk3 (tV 9)) (tK Dz))) (tNot3 (tT (tCall3 4 sp_l_is_safe (tCons3 (tV 2) (tCons3 (tV 9) (tCons3 (tV 4) (tCons3 (tV 8) tNil3)))))))) (tRet3 (tK (.bl false))) tNext3)
    (tSeq3 (tSet3 10 (tCall3 2 sp_l_pick (tCons3 (tV 0) (tCons3 (tOp3 rAdd3 (tB3 rList3 (tCons3 (tWk3 (tV 9)) tNil3)) (tLst3 (tCons3 (tOp3 rIx3 (tWk3 (tV 9)) (tUn3 rNeg3 (tK (Dn 1)))) tNil3))) tNil3))))
    (tSeq3 (tIfS3 (tOr3 (tT (tOp3 (rIs3 id) (tOp3 rIx3 (tV 3) (tV 10)) (tK Dz))) (tT (tOp3 (rI03 fun i j => .bl (decide (i < j))) (tOp3 rIx3 (tV 3) (tV 10)) (tOp3 (rI03 fun i j => Dn (i - j)) (tOp3 rIx3 (tV 3) (tWk3 (tV 4))) (tK (Dn 1)))))) (tRet3 (tK (.bl false))) tNext3)
    (tPar3 4 7 (tCons3 (tV 10) (tCons3 (tOp3 rAdd3 (tV 7) (tK (Dn 1))) tNil3))))))))))
def r_l_is_played (sp_l_named : Sp3) (sp_l_pick : Sp3) (sp_safe_way : Sp3) (sp_l_is_safe : Sp3) : TS3 := (tSeq3 (tPar3 6 7 (tCons3 (tOp3 rIx3 (tV 3) (tWk3 (tV 4))) (tCons3 (tK (Dn 0)) tNil3)))
    (tSeq3 (tFor3 (iR3 (tCons3 (tK (Dn 12)) tNil3)) (gN 5) (r_l_is_played_1 sp_l_named sp_l_pick sp_safe_way sp_l_is_safe))
    (tRet3 (tOrV3 (tOp3 (rI03 fun i j => .bl (decide (j < i))) (tOp3 rIx3 (tV 3) (tWk3 (tV 4))) (tK (Dn 0))) (tOp3 (rI03 fun i j => .bl (decide (j ≤ i))) (tV 7) (tV 6))))))

/-! law -/
abbrev s_law : Stmt := top 44
abbrev n_law : List Str := ["_law_script", "_law_spool_here", "_law_turn", "_law_many", "_law_code_here", "_law_ranks", "_law_spots", "_law_state", "_law_best", "_law_strong", "_law_start", "_law_table_here", "_law_told", "_law_own"]
abbrev p_law : List Str := ["_law_script"]
theorem sc_law : FnScope n_law p_law (defScope s_law) := ⟨rfl, rfl, rfl, by decide +kernel, rfl, by decide +kernel, by decide +kernel⟩
def r_law_3 (sp_l_spool : Sp3) (sp_l_draw : Sp3) (sp_l_pick : Sp3) (sp_l_card : Sp3) (sp_l_code : Sp3) (sp_l_table : Sp3) (sp_safe_strengths : Sp3) (sp_l_mixed : Sp3) (sp_l_is_shown : Sp3) (sp_l_is_played : Sp3) : TS3 := (tIfS3 (tNot3 (tT (tCall3 5 sp_l_is_played (tCons3 (tV 1) (tCons3 (tV 4) (tCons3 (tV 11) (tCons3 (tV 5) (tCons3 (tV 10) tNil3)))))))) (tRet3 (tK (.bl false))) tNext3)
def r_law_2 (sp_l_spool : Sp3) (sp_l_draw : Sp3) (sp_l_pick : Sp3) (sp_l_card : Sp3) (sp_l_code : Sp3) (sp_l_table : Sp3) (sp_safe_strengths : Sp3) (sp_l_mixed : Sp3) (sp_l_is_shown : Sp3) (sp_l_is_played : Sp3) : TS3 := (tSeq3 (tSet3 13 (tOp3 rIx3 (tV 5) (tV 7)))
    (tIfS3 (tOr3 (tT (tOp3 (rEq3 (!·)) (tOp3 (rIs3 id) (tV 13) (tK Dz)) (tOp3 (rIs3 id) (tOp3 rIx3 (tV 11) (tV 7)) (tK Dz)))) (tAnd3 (tT (tOp3 (rIs3 (!·)) (tV 13) (tK Dz))) (tT (tOp3 (rEq3 (!·)) (tB3 rRepr3 (tCons3 (tV 13) tNil3)) (tB3 rRepr3 (tCons3 (tB3 rAbs3 (tCons3 (tB3 rInt3 (tCons3 (tV 13) tNil3)) tNil3)) tNil3)))))) (tRet3 (tK (.bl false))) tNext3))
def r_law_1 (sp_l_spool : Sp3) (sp_l_draw : Sp3) (sp_l_pick : Sp3) (sp_l_card : Sp3) (sp_l_code : Sp3) (sp_l_table : Sp3) (sp_safe_strengths : Sp3) (sp_l_mixed : Sp3) (sp_l_is_shown : Sp3) (sp_l_is_played : Sp3) : TS3 := (tSeq3 (tSet3 3 (tIf3 (tT (tOp3 (rEq3 id) (tV 2) (tK (Dn 0)))) (tK (Dn 2)) (tOp3 rAdd3 (tK (Dn 2)) (tCall3 2 sp_l_draw (tCons3 (tV 1) (tCons3 (tK (Dn 3)) tNil3))))))
    (tSeq3 (tSet3 4 (tCall3 3 sp_l_code (tCons3 (tV 1) (tCons3 (tCall3 2 sp_l_card (tCons3 (tV 1) (tCons3 (tOp3 rIx3 (tLst3 (tCons3 (tCall3 2 sp_l_pick (tCons3 (tV 1) (tCons3 (tLst3 (tCons3 (tK (Dn 12)) (tCons3 (tK (Dn 12)) (tCons3 (tK (Dn 27)) tNil3)))) tNil3))) (tCons3 (tK (Dn 12)) tNil3))) (tV 2)) tNil3))) (tCons3 (tV 3) tNil3)))))
    (tSeq3 (tPar3 11 12 (tCons3 (tCall3 1 sp_l_table (tCons3 (tV 4) tNil3)) (tCons3 (tCall3 1 sp_safe_strengths (tCons3 (tV 4) tNil3)) tNil3)))
    (tSeq3 (tIfS3 (tOr3 (tNot3 (tT (tB3 rIsi3 (tCons3 (tV 12) (tCons3 (tK (.ty "tuple")) tNil3))))) (tT (tOp3 (rEq3 (!·)) (tB3 rLen3 (tCons3 (tV 12) tNil3)) (tB3 rLen3 (tCons3 (tV 11) tNil3))))) (tRet3 (tK (.bl false))) tNext3)
    (tSeq3 (tSet3 5 (tB3 rDictP3 (tCons3 (tB3 rListZ3 (tCons3 (tB3 rListD3 (tCons3 (tV 11) tNil3)) (tCons3 (tV 12) tNil3))) tNil3)))
    (tSeq3 (tLk3 (tSet3 6 (tLc3 (iD3 (tV 11)) (cN 7) (tT (tOp3 (rIs3 (!·)) (tOp3 rIx3 (tV 11) (tV 7)) (tK Dz))) (tV 7))))
    (tSeq3 (tLk3 (tFor3 (iD3 (tV 11)) (gN 7) (r_law_2 sp_l_spool sp_l_draw sp_l_pick sp_l_card sp_l_code sp_l_table sp_safe_strengths sp_l_mixed sp_l_is_shown sp_l_is_played)))
    (tSeq3 (tIfS3 (tT (tOp3 (rEq3 (!·)) (tLc3 (iL3 (tSl3 (tCall3 2 sp_l_mixed (tCons3 (tV 1) (tCons3 (tV 6) tNil3))) tNo3 (tSm3 (tK (Dn 14))))) (cN 7) (tNot3 (tT (tCall3 3 sp_l_is_shown (tCons3 (tV 11) (tCons3 (tV 5) (tCons3 (tV 7) tNil3)))))) (tV 7)) (tLst3 tNil3))) (tRet3 (tK (.bl false))) tNext3)
    (tSeq3 (tSet3 8 (tB3 rMaxL3 (tCons3 (tLc3 (iL3 (tV 6)) (cN 7) tYes3 (tOp3 rIx3 (tV 5) (tV 7))) tNil3)))
    (tSeq3 (tSet3 9 (tLc3 (iL3 (tV 6)) (cN 7) (tT (tOp3 (rEq3 id) (tOp3 rIx3 (tV 5) (tV 7)) (tV 8))) (tV 7)))
    (tFor3 (iL3 (tLst3 (tCons3 (tOp3 rIx3 (tV 6) (tK (Dn 0))) (tCons3 (tCall3 2 sp_l_pick (tCons3 (tV 1) (tCons3 (tOp3 rAdd3 (tV 9) (tV 6)) tNil3))) tNil3)))) (gN 10) (r_law_3 sp_l_spool sp_l_draw sp_l_pick sp_l_card sp_l_code sp_l_table sp_safe_strengths sp_l_mixed sp_l_is_shown sp_l_is_played))))))))))))
def r_law (sp_l_spool : Sp3) (sp_l_draw : Sp3) (sp_l_pick : Sp3) (sp_l_card : Sp3) (sp_l_code : Sp3) (sp_l_table : Sp3) (sp_safe_strengths : Sp3) (sp_l_mixed : Sp3) (sp_l_is_shown : Sp3) (sp_l_is_played : Sp3) : TS3 := (tSeq3 (tSet3 1 (tCall3 1 sp_l_spool (tCons3 (tV 0) tNil3)))
    (tSeq3 (tFor3 (iR3 (tCons3 (tK (Dn 2)) tNil3)) (gN 2) (r_law_1 sp_l_spool sp_l_draw sp_l_pick sp_l_card sp_l_code sp_l_table sp_safe_strengths sp_l_mixed sp_l_is_shown sp_l_is_played))
    (tRet3 (tK (.bl true)))))

end L3
/-! ## W_is_integer -/
namespace L3
open PySem PySem.Spec L2
open PyProof.Rows hiding St
section
variable {P : Program} {w : World} {K : PySem.W.Frag} {mg : Str → Option Value} {base : Heap}
theorem w_is_integer  {C : Addr} (T : Txt K mg C)  : Body P w K mg base 0 n_is_integer "is_integer" s_is_integer (r_is_integer ) := fun f cdv A outer s H E hr hu =>
  (ps13 (psr3 (pand3 (pB3 c_isi (by decide +kernel) (by rfl) (by exact T.z_isinstance) (pac3 (pv3 0) (pac3 (pty3 (by rfl) (by exact T.z_int) (by decide +kernel)) pan3))) (pone3 (pnot3 (pB3 c_isi (by decide +kernel) (by rfl) (by exact T.z_isinstance) (pac3 (pv3 0) (pac3 (pty3 (by rfl) (by exact T.z_bool) (by decide +kernel)) pan3))))))))
end
end L3
/-! ## W_is_word -/
namespace L3
open PySem PySem.Spec L2
open PyProof.Rows hiding St
section
variable {P : Program} {w : World} {K : PySem.W.Frag} {mg : Str → Option Value} {base : Heap}
theorem w_is_word  {C : Addr} (T : Txt K mg C)  : Body P w K mg base 0 n_is_word "is_word" s_is_word (r_is_word ) := fun f cdv A outer s H E hr hu =>
  (ps13 (psr3 (pand3 (pB3 c_isi (by decide +kernel) (by rfl) (by exact T.z_isinstance) (pac3 (pv3 0) (pac3 (pty3 (by rfl) (by exact T.z_str) (by decide +kernel)) pan3))) (pand3 (pchain3 o_le o_le pint3 (pB3 c_len (by decide +kernel) (by rfl) (by exact T.z_len) (pac3 (pv3 0) pan3)) (pgi3 (by rfl) (by exact T.MAX_WORD.choose_spec))) (pone3 (pB3 (c_all rfl) (by decide +kernel) (by rfl) (by exact T.z_all) (pac3 (plc3 (own := [("sign", 1)]) (cg_name 1) rfl sc_is_word.nd (pis3 (pv3 0)) (blkOk_by (N := n_is_word) (sc := defScope s_is_word) (by decide +kernel)) (fun _ _ _ _ _ => (pg_name (i := 1) sc_is_word.nd rfl (Or.inl rfl))) (fun _ _ _ _ _ => ptsn3) (fun _ _ _ _ _ => (pcmp3 (o_in (by exact hu)) (pv3 1) (pgs3 (by rfl) (by exact T.LETTERS.choose_spec))))) pan3)))))))
end
end L3
/-! ## W_is_plain -/
namespace L3
open PySem PySem.Spec L2
open PyProof.Rows hiding St
section
variable {P : Program} {w : World} {K : PySem.W.Frag} {mg : Str → Option Value} {base : Heap}
theorem w_is_plain (sp_is_word : Sp3) (sp_is_integer : Sp3) {C : Addr} (T : Txt K mg C) (c_is_word : Cal P w K mg base 1 "is_word" p_is_word sp_is_word) (c_is_integer : Cal P w K mg base 1 "is_integer" p_is_integer sp_is_integer) : Body P w K mg base 1 n_is_plain "is_plain" s_is_plain (r_is_plain sp_is_word sp_is_integer) := fun f cdv A outer s H E hr hu =>
  (ps13 (psr3 (por3 (pcal3 (by exact c_is_word) (by exact hr.mono (by decide)) (by rfl) (pac3 (pv3 0) pan3)) (pone3 (pand3 (pcal3 (by exact c_is_integer) (by exact hr.mono (by decide)) (by rfl) (pac3 (pv3 0) pan3)) (pone3 (pchain3 o_le o_le pint3 (pv3 0) (pgi3 (by rfl) (by exact T.MAX_NUMBER.choose_spec)))))))))
end
end L3
/-! ## W_is_value -/
namespace L3
open PySem PySem.Spec L2
open PyProof.Rows hiding St
section
variable {P : Program} {w : World} {K : PySem.W.Frag} {mg : Str → Option Value} {base : Heap}
theorem w_is_value (sp_is_plain : Sp3) {C : Addr} (T : Txt K mg C) (c_is_plain : Cal P w K mg base 2 "is_plain" p_is_plain sp_is_plain) : Body P w K mg base 2 n_is_value "is_value" s_is_value (r_is_value sp_is_plain) := fun f cdv A outer s H E hr hu =>
  (psc3 (psif3 (ptv3 (pB3 c_isi (by decide +kernel) (by rfl) (by exact T.z_isinstance) (pac3 (pv3 0) (pac3 (pty3 (by rfl) (by exact T.z_tuple) (by decide +kernel)) pan3)))) (ps13 (psr3 (pand3 (pchain3 o_le o_le pint3 (pB3 c_len (by decide +kernel) (by rfl) (by exact T.z_len) (pac3 (pv3 0) pan3)) (pgi3 (by rfl) (by exact T.MAX_ITEMS.choose_spec))) (pone3 (pB3 (c_all rfl) (by decide +kernel) (by rfl) (by exact T.z_all) (pac3 (plc3 (own := [("item", 1)]) (cg_name 1) rfl sc_is_value.nd (pit3 (pv3 0)) (blkOk_by (N := n_is_value) (sc := defScope s_is_value) (by decide +kernel)) (fun _ _ _ _ _ => (pg_name (i := 1) sc_is_value.nd rfl (Or.inl rfl))) (fun _ _ _ _ _ => ptsn3) (fun _ _ _ _ _ => (pcal3 (by exact c_is_plain) (by exact hr.mono (by decide)) (by rfl) (pac3 (pv3 1) pan3)))) pan3)))))) psn3)
    (ps13 (psr3 (pcal3 (by exact c_is_plain) (by exact hr.mono (by decide)) (by rfl) (pac3 (pv3 0) pan3)))))
end
end L3
/-! ## W_value_rank -/
namespace L3
open PySem PySem.Spec L2
open PyProof.Rows hiding St
section
variable {P : Program} {w : World} {K : PySem.W.Frag} {mg : Str → Option Value} {base : Heap}
theorem w_value_rank (sp_value_rank : Sp3) {C : Addr} (T : Txt K mg C) {k : Nat} (c_value_rank : Cal P w K mg base k "value_rank" p_value_rank sp_value_rank) : Body P w K mg base k n_value_rank "value_rank" s_value_rank (r_value_rank sp_value_rank) := fun f cdv A outer s H E hr hu =>
  (psc3 (psif3 (ptv3 (pB3 c_isi (by decide +kernel) (by rfl) (by exact T.z_isinstance) (pac3 (pv3 0) (pac3 (pty3 (by rfl) (by exact T.z_tuple) (by decide +kernel)) pan3)))) (ps13 (psr3 (ptup3 (pac3 pint3 (pac3 (pT3 c_tuple (by decide +kernel) (by rfl) (by exact T.z_tuple) (pac3 (plc3 (own := [("item", 1)]) (cg_name 1) rfl sc_value_rank.nd (pit3 (pv3 0)) (blkOk_by (N := n_value_rank) (sc := defScope s_value_rank) (by decide +kernel)) (fun _ _ _ _ _ => (pg_name (i := 1) sc_value_rank.nd rfl (Or.inl rfl))) (fun _ _ _ _ _ => ptsn3) (fun _ _ _ _ _ => (pcal3 (by exact c_value_rank) (by exact hr) (by rfl) (pac3 (pv3 1) pan3)))) pan3)) pan3))))) psn3)
    (ps13 (psr3 (pif3 (ptv3 (pB3 c_isi (by decide +kernel) (by rfl) (by exact T.z_isinstance) (pac3 (pv3 0) (pac3 (pty3 (by rfl) (by exact T.z_str) (by decide +kernel)) pan3)))) (ptup3 (pac3 pint3 (pac3 (pv3 0) pan3))) (ptup3 (pac3 pint3 (pac3 (pv3 0) pan3)))))))
end
end L3
/-! ## W_states -/
namespace L3
open PySem PySem.Spec L2
open PyProof.Rows hiding St
section
variable {P : Program} {w : World} {K : PySem.W.Frag} {mg : Str → Option Value} {base : Heap}
theorem w_states  {C : Addr} (T : Txt K mg C)  : Body P w K mg base 0 n_states "states" s_states (r_states ) := fun f cdv A outer s H E hr hu =>
  (psc3 (pset3 (i := 1) sc_states.nd rfl (Or.inl rfl) (plst3 (pac3 (ptup3 pan3) pan3)))
    (psc3 (pfor3 PassesOwn.never rfl (pit3 (pv3 0)) (pgn3 sc_states.nd rfl (Or.inl rfl)) (psc3 (pset3 (i := 3) sc_states.nd rfl (Or.inl rfl) (plst3 pan3))
    (psc3 (pfor3 PassesOwn.never rfl (pil3 (pv3 1)) (pgn3 sc_states.nd rfl (Or.inr rfl)) (ps13 (psx3 (pM1 PySem.F.slot_list_extend PySem.F.type_list_extend m_ext (pv3 3) (pac3 (plc3 (own := [("level", 5)]) (cg_name 5) rfl sc_states.nd (pir3 (by rfl) (by exact T.z_range) (pac3 (pop3 o_add (pv3 2) pint3) pan3)) (blkOk_by (N := n_states) (sc := defScope s_states) (by decide +kernel)) (fun _ _ _ _ _ => (pg_name (i := 5) sc_states.nd rfl (Or.inl rfl))) (fun _ _ _ _ _ => ptsn3) (fun _ _ _ _ _ => (pop3 o_add (pv3 4) (ptup3 (pac3 (pv3 5) pan3))))) pan3)))))
    (ps13 (pset3 (i := 1) sc_states.nd rfl (Or.inl rfl) (pT3 c_list (by decide +kernel) (by rfl) (by exact T.z_list) (pac3 (pv3 3) pan3)))))))
    (ps13 (psr3 (pT3 c_tuple (by decide +kernel) (by rfl) (by exact T.z_tuple) (pac3 (pv3 1) pan3))))))
end
end L3
/-! ## W_is_state -/
namespace L3
open PySem PySem.Spec L2
open PyProof.Rows hiding St
section
variable {P : Program} {w : World} {K : PySem.W.Frag} {mg : Str → Option Value} {base : Heap}
theorem w_is_state (sp_is_integer : Sp3) {C : Addr} (T : Txt K mg C) (c_is_integer : Cal P w K mg base 1 "is_integer" p_is_integer sp_is_integer) : Body P w K mg base 1 n_is_state "is_state" s_is_state (r_is_state sp_is_integer) := fun f cdv A outer s H E hr hu =>
  (psc3 (psif3 (pwt (pwo (ptn3 (ptv3 (pB3 c_isi (by decide +kernel) (by rfl) (by exact T.z_isinstance) (pac3 (pv3 1) (pac3 (pty3 (by rfl) (by exact T.z_tuple) (by decide +kernel)) pan3))))) (pwo1 (ptc3 (o_ne (by exact hu)) (pB3 c_len (by decide +kernel) (by rfl) (by exact T.z_len) (pac3 (pv3 1) pan3)) (pB3 c_len (by decide +kernel) (by rfl) (by exact T.z_len) (pac3 (pv3 0) pan3)))))) (ps13 (psr3 pbl3)) psn3)
    (ps13 (psr3 (pB3 (c_all rfl) (by decide +kernel) (by rfl) (by exact T.z_all) (pac3 (plc3 (own := [("level", 2), ("top", 3)]) (cg_pair (by decide)) rfl sc_is_state.nd (piz3 (by rfl) (by exact T.z_zip) (pac3 (pv3 1) (pac3 (pv3 0) pan3))) (blkOk_by (N := n_is_state) (sc := defScope s_is_state) (by decide +kernel)) (fun _ _ _ _ _ => (pg_tup (n := 2) rfl (pgs_cons (pg_name (i := 2) sc_is_state.nd rfl (Or.inl rfl)) (pgs_cons (pg_name (i := 3) sc_is_state.nd rfl (Or.inl rfl)) pgs_nil)))) (fun _ _ _ _ _ => ptsn3) (fun _ _ _ _ _ => (pand3 (pcal3 (by exact c_is_integer) (by exact hr.mono (by decide)) (by rfl) (pac3 (pv3 2) pan3)) (pone3 (pchain3 o_le o_le pint3 (pv3 2) (pv3 3)))))) pan3)))))
end
end L3
/-! ## W_place_of -/
namespace L3
open PySem PySem.Spec L2
open PyProof.Rows hiding St
section
variable {P : Program} {w : World} {K : PySem.W.Frag} {mg : Str → Option Value} {base : Heap}
theorem w_place_of (sp_is_state : Sp3) {C : Addr} (T : Txt K mg C) (c_is_state : Cal P w K mg base 2 "is_state" p_is_state sp_is_state) : Body P w K mg base 2 n_place_of "place_of" s_place_of (r_place_of sp_is_state) := fun f cdv A outer s H E hr hu =>
  (psc3 (psif3 (ptn3 (ptv3 (pcal3 (by exact c_is_state) (by exact hr.mono (by decide)) (by rfl) (pac3 (pv3 0) (pac3 (pv3 1) pan3))))) (ps13 psnev3) psn3)
    (psc3 (pset3 (i := 2) sc_place_of.nd rfl (Or.inl rfl) pint3)
    (psc3 (pfor3 PassesOwn.never rfl (piz3 (by rfl) (by exact T.z_zip) (pac3 (pv3 1) (pac3 (pv3 0) pan3))) (pgp3 rfl sc_place_of.nd rfl (Or.inl rfl) rfl (Or.inl rfl)) (ps13 (pset3 (i := 2) sc_place_of.nd rfl (Or.inl rfl) (pop3 o_add (pop3 o_mul (pv3 2) (pop3 o_add (pv3 4) pint3)) (pv3 3)))))
    (ps13 (psr3 (pv3 2))))))
end
end L3
/-! ## W_above -/
namespace L3
open PySem PySem.Spec L2
open PyProof.Rows hiding St
section
variable {P : Program} {w : World} {K : PySem.W.Frag} {mg : Str → Option Value} {base : Heap}
theorem w_above  {C : Addr} (T : Txt K mg C)  : Body P w K mg base 0 n_above "above" s_above (r_above ) := fun f cdv A outer s H E hr hu =>
  (psc3 (pset3 (i := 2) sc_above.nd rfl (Or.inl rfl) (plst3 pan3))
    (psc3 (pfor3 PassesOwn.never rfl (pie3 (by rfl) (by exact T.z_enumerate) (pac3 (pv3 1) pan3)) (pgp3 rfl sc_above.nd rfl (Or.inl rfl) rfl (Or.inl rfl)) (ps13 (psif3 (ptc3 o_lt (pv3 4) (pix3 (by exact hu) (pv3 0) (pv3 3))) (ps13 (psx3 (pM1 PySem.F.slot_list_append PySem.F.type_list_append m_app (pv3 2) (pac3 (ptup3 (pac3 (pv3 3) (pac3 (pop3 o_add (pop3 o_add (psl3 (pv3 1) pon3 (pos3 (pv3 3))) (ptup3 (pac3 (pop3 o_add (pv3 4) pint3) pan3))) (psl3 (pv3 1) (pos3 (pop3 o_add (pv3 3) pint3)) pon3)) pan3))) pan3)))) psn3)))
    (ps13 (psr3 (pv3 2)))))
end
end L3
/-! ## W_unlike_values -/
namespace L3
open PySem PySem.Spec L2
open PyProof.Rows hiding St
section
variable {P : Program} {w : World} {K : PySem.W.Frag} {mg : Str → Option Value} {base : Heap}
theorem w_unlike_values  {C : Addr} (T : Txt K mg C) (c_value_rank : Cal P w K mg base 2 "value_rank" p_value_rank rankSp) : Body P w K mg base 3 n_unlike_values "unlike_values" s_unlike_values (r_unlike_values ) := fun f cdv A outer s H E hr hu =>
  (psc3 (pset3 (i := 1) sc_unlike_values.nd rfl (Or.inl rfl) (pT3 (c_dictP rfl (by exact hu)) (by decide +kernel) (by rfl) (by exact T.z_dict) (pac3 (plc3 (own := [("item", 2)]) (cg_name 2) rfl sc_unlike_values.nd (pit3 (pv3 0)) (blkOk_by (N := n_unlike_values) (sc := defScope s_unlike_values) (by decide +kernel)) (fun _ _ _ _ _ => (pg_name (i := 2) sc_unlike_values.nd rfl (Or.inl rfl))) (fun _ _ _ _ _ => (pts13 (ptc3 o_isnot (pv3 2) pnon3))) (fun _ _ _ _ _ => (ptup3 (pac3 (pv3 2) (pac3 pbl3 pan3))))) pan3)))
    (ps13 (psr3 (pT3 c_tuple (by decide +kernel) (by rfl) (by exact T.z_tuple) (pac3 (psor3 (by exact c_value_rank) rfl (by exact hr.mono (by decide)) (by exact hu) rfl (by rfl) (by exact T.z_sorted) (by rfl) (pac3 (pT3 (c_listD rfl) (by decide +kernel) (by rfl) (by exact T.z_list) (pac3 (pv3 1) pan3)) pan3)) pan3)))))
end
end L3
/-! ## W_label -/
namespace L3
open PySem PySem.Spec L2
open PyProof.Rows hiding St
section
variable {P : Program} {w : World} {K : PySem.W.Frag} {mg : Str → Option Value} {base : Heap}
theorem w_label (sp_place_of : Sp3) {C : Addr} (T : Txt K mg C) (c_place_of : Cal P w K mg base 3 "place_of" p_place_of sp_place_of) : Body P w K mg base 3 n_label "label" s_label (r_label sp_place_of) := fun f cdv A outer s H E hr hu =>
  (psc3 (pasg3 (pv3 0) (pgp3 rfl sc_label.nd rfl (Or.inl rfl) rfl (Or.inl rfl)))
    (ps13 (psr3 (pix3 (by exact hu) (pv3 3) (pcal3 (by exact c_place_of) (by exact hr.mono (by decide)) (by rfl) (pac3 (pv3 2) (pac3 (pv3 1) pan3)))))))
end
end L3
/-! ## W_values_of -/
namespace L3
open PySem PySem.Spec L2
open PyProof.Rows hiding St
section
variable {P : Program} {w : World} {K : PySem.W.Frag} {mg : Str → Option Value} {base : Heap}
theorem w_values_of (sp_unlike_values : Sp3) {C : Addr} (T : Txt K mg C) (c_unlike_values : Cal P w K mg base 4 "unlike_values" p_unlike_values sp_unlike_values) : Body P w K mg base 4 n_values_of "values_of" s_values_of (r_values_of sp_unlike_values) := fun f cdv A outer s H E hr hu =>
  (ps13 (psr3 (pcal3 (by exact c_unlike_values) (by exact hr.mono (by decide)) (by rfl) (pac3 (pix3 (by exact hu) (pv3 0) pint3) pan3))))
end
end L3
/-! ## W_SafeTable_worth -/
namespace L3
open PySem PySem.Spec L2
open PyProof.Rows hiding St
section
variable {P : Program} {w : World} {K : PySem.W.Frag} {mg : Str → Option Value} {base : Heap}
theorem w_t_worth (C : Addr) (T : Txt K mg C)  : Body P w K mg base 0 n_t_worth "SafeTable.worth" s_t_worth (r_t_worth C) := fun f cdv A outer s H E hr hu =>
  (psc3 (psif3 (ptc3 (o_eq (by exact hu)) (pix3 (by exact hu) (pfld3 (by exact T.cl) (by exact T.n_labels) (pv3 0)) (pv3 2)) (pv3 3)) (ps13 (psr3 (pix3 (by exact hu) (pfld3 (by exact T.cl) (by exact T.n_safe) (pv3 0)) (pv3 2)))) psn3)
    (psc3 (psif3 (pwt (pwo (ptc3 o_is (pix3 (by exact hu) (pfld3 (by exact T.cl) (by exact T.n_labels) (pv3 0)) (pv3 2)) pnon3) (pwo1 (ptc3 (o_ne (by exact hu)) (pix3 (by exact hu) (pfld3 (by exact T.cl) (by exact T.n_labels) (pv3 0)) (pv3 2)) (pix3 (by exact hu) (pfld3 (by exact T.cl) (by exact T.n_labels) (pv3 0)) (pv3 1)))))) (ps13 (psr3 pnon3)) psn3)
    (psc3 (pset3 (i := 4) sc_t_worth.nd rfl (Or.inl rfl) (pix3 (by exact hu) (pix3 (by exact hu) (pfld3 (by exact T.cl) (by exact T.n_first_steps) (pv3 0)) (ptup3 (pac3 (pv3 2) (pac3 (pv3 3) pan3)))) pint3))
    (ps13 (psr3 (pif3 (ptc3 o_is (pv3 4) pnon3) pnon3 (pB3 (c_min2 rfl) (by decide +kernel) (by rfl) (by exact T.z_min) (pac3 (pv3 4) (pac3 (pix3 (by exact hu) (pfld3 (by exact T.cl) (by exact T.n_safe) (pv3 0)) (pv3 2)) pan3)))))))))
end
end L3
/-! ## W_SafeTable_best_step -/
namespace L3
open PySem PySem.Spec L2
open PyProof.Rows hiding St
section
variable {P : Program} {w : World} {K : PySem.W.Frag} {mg : Str → Option Value} {base : Heap}
theorem w_t_best_step (C : Addr) (sp_above : Sp3) (sp_t_worth : Sp3) (T : Txt K mg C) (c_above : Cal P w K mg base 1 "above" p_above sp_above) (c_t_worth : CalM P w K mg base 1 C "worth" p_t_worth sp_t_worth) : Body P w K mg base 1 n_t_best_step "SafeTable.best_step" s_t_best_step (r_t_best_step C sp_above sp_t_worth) := fun f cdv A outer s H E hr hu =>
  (psc3 (pset3 (i := 3) sc_t_best_step.nd rfl (Or.inl rfl) (ptup3 (pac3 pnon3 (pac3 pnon3 pan3))))
    (psc3 (pfor3 PassesOwn.never rfl (pil3 (pcal3 (by exact c_above) (by exact hr.mono (by decide)) (by rfl) (pac3 (pfld3 (by exact T.cl) (by exact T.n_card) (pv3 0)) (pac3 (pv3 1) pan3)))) (pgp3 rfl sc_t_best_step.nd rfl (Or.inl rfl) rfl (Or.inl rfl)) (psc3 (pset3 (i := 6) sc_t_best_step.nd rfl (Or.inl rfl) (pmet3 (by exact T.cl) (by exact c_t_worth) (by exact hr.mono (by decide)) (pv3 0) (pac3 (pv3 1) (pac3 (pv3 5) (pac3 (pv3 2) pan3)))))
    (ps13 (psif3 (pwt (pwa (ptc3 o_isnot (pv3 6) pnon3) (pwa1 (pwt (pwo (ptc3 o_is (pix3 (by exact hu) (pv3 3) pint3) pnon3) (pwo1 (ptc3 o_gt (pv3 6) (pix3 (by exact hu) (pv3 3) pint3)))))))) (ps13 (pset3 (i := 3) sc_t_best_step.nd rfl (Or.inl rfl) (ptup3 (pac3 (pv3 6) (pac3 (pv3 5) pan3))))) psn3))))
    (ps13 (psr3 (pv3 3)))))
end
end L3
/-! ## W_SafeTable_fill -/
namespace L3
open PySem PySem.Spec L2
open PyProof.Rows hiding St
section
variable {P : Program} {w : World} {K : PySem.W.Frag} {mg : Str → Option Value} {base : Heap}
theorem w_t_fill (C : Addr) (sp_t_best_step : Sp3) (T : Txt K mg C) (c_t_best_step : CalM P w K mg base 2 C "best_step" p_t_best_step sp_t_best_step) : Body P w K mg base 2 n_t_fill "SafeTable.fill" s_t_fill (r_t_fill C sp_t_best_step) := fun f cdv A outer s H E hr hu =>
  (psc3 (pset3 (i := 2) sc_t_fill.nd rfl (Or.inl rfl) (plst3 pan3))
    (psc3 (pfor3 PassesOwn.never rfl (pit3 (pfld3 (by exact T.cl) (by exact T.n_code_values) (pv3 0))) (pgn3 sc_t_fill.nd rfl (Or.inl rfl)) (ps13 (psif3 (ptc3 (o_ne (by exact hu)) (pv3 3) (pix3 (by exact hu) (pfld3 (by exact T.cl) (by exact T.n_labels) (pv3 0)) (pv3 1))) (psc3 (psub3 (by exact hu) (pmet3 (by exact T.cl) (by exact c_t_best_step) (by exact hr.mono (by decide)) (pv3 0) (pac3 (pv3 1) (pac3 (pv3 3) pan3))) (pfld3 (by exact T.cl) (by exact T.n_first_steps) (pv3 0)) (ptup3 (pac3 (pv3 1) (pac3 (pv3 3) pan3))))
    (ps13 (psx3 (pM1 PySem.F.slot_list_append PySem.F.type_list_append m_app (pv3 2) (pac3 (pix3 (by exact hu) (pix3 (by exact hu) (pfld3 (by exact T.cl) (by exact T.n_first_steps) (pv3 0)) (ptup3 (pac3 (pv3 1) (pac3 (pv3 3) pan3)))) pint3) pan3))))) psn3)))
    (ps13 (psub3 (by exact hu) (pif3 (ptc3 (o_in (by exact hu)) pnon3 (pv3 2)) pint3 (pop3 o_add pint3 (pB3 (c_minL rfl) (by decide +kernel) (by rfl) (by exact T.z_min) (pac3 (pv3 2) pan3)))) (pfld3 (by exact T.cl) (by exact T.n_safe) (pv3 0)) (pv3 1)))))
end
end L3
/-! ## W_SafeTable_init -/
namespace L3
open PySem PySem.Spec L2
open PyProof.Rows hiding St
section
variable {P : Program} {w : World} {K : PySem.W.Frag} {mg : Str → Option Value} {base : Heap}
theorem w_t_init (C : Addr) (sp_states : Sp3) (sp_values_of : Sp3) (sp_t_fill : Sp3) (T : Txt K mg C) (c_states : Cal P w K mg base 1 "states" p_states sp_states) (c_values_of : Cal P w K mg base 5 "values_of" p_values_of sp_values_of) (c_t_fill : CalM P w K mg base 3 C "fill" p_t_fill sp_t_fill) : Body P w K mg base 5 n_t_init "SafeTable.__init__" s_t_init (r_t_init C sp_states sp_values_of sp_t_fill) := fun f cdv A outer s H E hr hu =>
  (psc3 (psfld3 (by exact T.cl) (by exact T.n_card) (pix3 (by exact hu) (pv3 1) pint3) (pv3 0))
    (psc3 (psfld3 (by exact T.cl) (by exact T.n_labels) (pnest3 (c_dictZ rfl (by exact hu)) (by decide +kernel) (by rfl) (by exact T.z_dict) (by rfl) (by exact T.z_zip) (pac3 (pcal3 (by exact c_states) (by exact hr.mono (by decide)) (by rfl) (pac3 (pix3 (by exact hu) (pv3 1) pint3) pan3)) (pac3 (pix3 (by exact hu) (pv3 1) pint3) pan3))) (pv3 0))
    (psc3 (psfld3 (by exact T.cl) (by exact T.n_code_values) (pcal3 (by exact c_values_of) (by exact hr.mono (by decide)) (by rfl) (pac3 (pv3 1) pan3)) (pv3 0))
    (psc3 (psfld3 (by exact T.cl) (by exact T.n_safe) pd03 (pv3 0))
    (psc3 (psfld3 (by exact T.cl) (by exact T.n_first_steps) pd03 (pv3 0))
    (ps13 (pfor3 PassesOwn.never rfl (pit3 (pback3 (pcal3 (by exact c_states) (by exact hr.mono (by decide)) (by rfl) (pac3 (pix3 (by exact hu) (pv3 1) pint3) pan3)))) (pgn3 sc_t_init.nd rfl (Or.inl rfl)) (ps13 (psif3 (ptc3 o_isnot (pix3 (by exact hu) (pfld3 (by exact T.cl) (by exact T.n_labels) (pv3 0)) (pv3 2)) pnon3) (ps13 (psx3 (pmet3 (by exact T.cl) (by exact c_t_fill) (by exact hr.mono (by decide)) (pv3 0) (pac3 (pv3 2) pan3)))) psn3)))))))))
end
end L3
/-! ## W_SafeTable_way -/
namespace L3
open PySem PySem.Spec L2
open PyProof.Rows hiding St
section
variable {P : Program} {w : World} {K : PySem.W.Frag} {mg : Str → Option Value} {base : Heap}
theorem w_t_way (C : Addr) (T : Txt K mg C)  : Body P w K mg base 0 n_t_way "SafeTable.way" s_t_way (r_t_way C) := fun f cdv A outer s H E hr hu =>
  (psc3 (pset3 (i := 3) sc_t_way.nd rfl (Or.inl rfl) (plst3 (pac3 (pv3 1) pan3)))
    (psc3 (pwhile3 PassesOwn.never (ptc3 (o_ne (by exact hu)) (pix3 (by exact hu) (pfld3 (by exact T.cl) (by exact T.n_labels) (pv3 0)) (pwk3 (pix3 (by exact hu) (pv3 3) (pun3 u_neg pint3)))) (pv3 2)) (psc3 (pset3 (i := 4) sc_t_way.nd rfl (Or.inl rfl) (pix3 (by exact hu) (pix3 (by exact hu) (pfld3 (by exact T.cl) (by exact T.n_first_steps) (pv3 0)) (ptup3 (pac3 (pwk3 (pix3 (by exact hu) (pv3 3) (pun3 u_neg pint3))) (pac3 (pv3 2) pan3)))) pint3))
    (psc3 (psif3 (ptc3 o_is (pv3 4) pnon3) (ps13 (psr3 pnon3)) psn3)
    (ps13 (psx3 (pM1 PySem.F.slot_list_append PySem.F.type_list_append m_app (pv3 3) (pac3 (pv3 4) pan3)))))))
    (ps13 (psr3 (pT3 c_tupleW (by decide +kernel) (by rfl) (by exact T.z_tuple) (pac3 (pv3 3) pan3))))))
end
end L3
/-! ## W_safe_strengths -/
namespace L3
open PySem PySem.Spec L2
open PyProof.Rows hiding St
section
variable {P : Program} {w : World} {K : PySem.W.Frag} {mg : Str → Option Value} {base : Heap}
theorem w_safe_strengths (C : Addr) (sp_states : Sp3) (sp_t_init : Sp3) (T : Txt K mg C) (c_states : Cal P w K mg base 1 "states" p_states sp_states) (c_t_init : CalC P w K mg base 6 C p_t_init sp_t_init) : Body P w K mg base 7 n_safe_strengths "safe_strengths" s_safe_strengths (r_safe_strengths C sp_states sp_t_init) := fun f cdv A outer s H E hr hu =>
  (psc3 (pset3 (i := 1) sc_safe_strengths.nd rfl (Or.inr rfl) (pmak3 (by exact c_t_init) (by exact hr.mono (by decide)) (by rfl) (by exact T.mgC) (pac3 (pv3 0) pan3)))
    (ps13 (psr3 (pT3 c_tuple (by decide +kernel) (by rfl) (by exact T.z_tuple) (pac3 (plc3 (own := [("state", 2)]) (cg_name 2) rfl sc_safe_strengths.nd (pit3 (pcal3 (by exact c_states) (by exact hr.mono (by decide)) (by rfl) (pac3 (pix3 (by exact hu) (pv3 0) pint3) pan3))) (blkOk_by (N := n_safe_strengths) (sc := defScope s_safe_strengths) (by decide +kernel)) (fun _ _ _ _ _ => (pg_name (i := 2) sc_safe_strengths.nd rfl (Or.inl rfl))) (fun _ _ _ _ _ => ptsn3) (fun _ _ _ _ _ => (pget3 (by exact hu) (pfld3 (by exact T.cl) (by exact T.n_safe) (pv3 1)) (pv3 2)))) pan3)))))
end
end L3
/-! ## W_safe_way -/
namespace L3
open PySem PySem.Spec L2
open PyProof.Rows hiding St
section
variable {P : Program} {w : World} {K : PySem.W.Frag} {mg : Str → Option Value} {base : Heap}
theorem w_safe_way (C : Addr) (sp_label : Sp3) (sp_is_value : Sp3) (sp_values_of : Sp3) (sp_t_way : Sp3) (sp_t_init : Sp3) (T : Txt K mg C) (c_label : Cal P w K mg base 4 "label" p_label sp_label) (c_is_value : Cal P w K mg base 3 "is_value" p_is_value sp_is_value) (c_values_of : Cal P w K mg base 5 "values_of" p_values_of sp_values_of) (c_t_way : CalM P w K mg base 1 C "way" p_t_way sp_t_way) (c_t_init : CalC P w K mg base 6 C p_t_init sp_t_init) : Body P w K mg base 7 n_safe_way "safe_way" s_safe_way (r_safe_way C sp_label sp_is_value sp_values_of sp_t_way sp_t_init) := fun f cdv A outer s H E hr hu =>
  (psc3 (pset3 (i := 3) sc_safe_way.nd rfl (Or.inl rfl) (pcal3 (by exact c_label) (by exact hr.mono (by decide)) (by rfl) (pac3 (pv3 0) (pac3 (pwk3 (pv3 1)) pan3))))
    (psc3 (psif3 (pwt (pwo (ptn3 (ptv3 (pcal3 (by exact c_is_value) (by exact hr.mono (by decide)) (by rfl) (pac3 (pv3 2) pan3)))) (pwo1 (ptc3 (o_notin (by exact hu)) (pv3 2) (pcal3 (by exact c_values_of) (by exact hr.mono (by decide)) (by rfl) (pac3 (pv3 0) pan3)))))) (ps13 psnev3) psn3)
    (psc3 (psif3 (pwt (pwo (ptc3 o_is (pv3 3) pnon3) (pwo1 (ptc3 (o_eq (by exact hu)) (pv3 3) (pv3 2))))) (ps13 psnev3) psn3)
    (ps13 (psr3 (pmet3 (by exact T.cl) (by exact c_t_way) (by exact hr.mono (by decide)) (pmak3 (by exact c_t_init) (by exact hr.mono (by decide)) (by rfl) (by exact T.mgC) (pac3 (pv3 0) pan3)) (pac3 (pv3 1) (pac3 (pv3 2) pan3))))))))
end
end L3
/-! ## W__law_spool -/
namespace L3
open PySem PySem.Spec L2
open PyProof.Rows hiding St
section
variable {P : Program} {w : World} {K : PySem.W.Frag} {mg : Str → Option Value} {base : Heap}
theorem w_l_spool  {C : Addr} (T : Txt K mg C)  : Body P w K mg base 0 n_l_spool "_law_spool" s_l_spool (r_l_spool ) := fun f cdv A outer s H E hr hu =>
  (psc3 (psetLc3 (i := 1) (own := [("_law_own", 3)]) (cg_name 3) rfl sc_l_spool.nd rfl rfl (sw_true rfl rfl rfl rfl) (pil3 (psl3 (pv3 0) pon3 (pos3 pint3))) (blkOk_by (N := n_l_spool) (sc := defScope s_l_spool) (by decide +kernel)) (fun _ _ _ _ _ => (pg_name (i := 3) sc_l_spool.nd rfl (Or.inl rfl))) (fun _ _ _ _ _ => ptsn3) (fun _ _ _ _ _ => (pif3 (ptc3 o_ge (pv3 3) pint3) (pop3 o_mul pint3 (pv3 3)) (pop3 o_sub (pop3 o_mul (pun3 u_neg pint3) (pv3 3)) pint3))))
    (psc3 (psetLc3 (i := 2) (own := [("_law_own", 3)]) (cg_name 3) rfl sc_l_spool.nd rfl rfl (sw_true rfl rfl rfl rfl) (pil3 (pv3 1)) (blkOk_by (N := n_l_spool) (sc := defScope s_l_spool) (by decide +kernel)) (fun _ _ _ _ _ => (pg_name (i := 3) sc_l_spool.nd rfl (Or.inl rfl))) (fun _ _ _ _ _ => (pts13 (ptc3 o_ge (pv3 3) (pop3 o_pow pint3 pint3)))) (fun _ _ _ _ _ => (pv3 3)))
    (ps13 (psr3 (pdisp3 (by exact hu) (ppc3 pstr3 (pv3 2) (ppc3 pstr3 (pop3 o_add (pv3 1) (plst3 (pac3 (pop3 o_add (pB3 c_len (by decide +kernel) (by rfl) (by exact T.z_len) (pac3 (pv3 1) pan3)) pint3) pan3))) (ppc3 pstr3 (pB3 (c_sum rfl) (by decide +kernel) (by rfl) (by exact T.z_sum) (pac3 (pv3 1) pan3)) (ppc3 pstr3 pint3 ppn3)))))))))
end
end L3
/-! ## W__law_draw -/
namespace L3
open PySem PySem.Spec L2
open PyProof.Rows hiding St
section
variable {P : Program} {w : World} {K : PySem.W.Frag} {mg : Str → Option Value} {base : Heap}
theorem w_l_draw  {C : Addr} (T : Txt K mg C)  : Body P w K mg base 0 n_l_draw "_law_draw" s_l_draw (r_l_draw ) := fun f cdv A outer s H E hr hu =>
  (psc3 (pset3 (i := 2) sc_l_draw.nd rfl (Or.inl rfl) (pix3 (by exact hu) (pv3 0) pstr3))
    (psc3 (psif3 (pwt (pwa (ptc3 (o_ne (by exact hu)) (pv3 2) (plst3 pan3)) (pwa1 (ptc3 o_gt (pv3 1) pint3)))) (psc3 (pset3 (i := 5) sc_l_draw.nd rfl (Or.inl rfl) (pM0 PySem.F.slot_list_pop PySem.F.type_list_pop m_pop (pv3 2) pop_list))
    (psc3 (psif3 (ptc3 o_ge (pv3 5) (pv3 1)) (ps13 (psx3 (pM1 PySem.F.slot_list_append PySem.F.type_list_append m_app (pv3 2) (pac3 (pop3 o_fdiv (pv3 5) (pv3 1)) pan3)))) psn3)
    (ps13 (psr3 (pop3 o_mod (pT3 c_int (by decide +kernel) (by rfl) (by exact T.z_int) (pac3 (pv3 5) pan3)) (pv3 1)))))) psn3)
    (psc3 (psub3 (by exact hu) (pop3 o_add (pix3 (by exact hu) (pv3 0) pstr3) pint3) (pv3 0) pstr3)
    (psc3 (ppar3 (i := 6) (j := 7) rfl sc_l_draw.nd rfl rfl (by decide) rfl rfl (pac3 (pix3 (by exact hu) (pv3 0) pstr3) (pac3 (pix3 (by exact hu) (pv3 0) pstr3) pan3)) (by rfl))
    (psc3 (pset3 (i := 3) sc_l_draw.nd rfl (Or.inl rfl) (pix3 (by exact hu) (pv3 7) (pop3 o_mod (pT3 c_int (by decide +kernel) (by rfl) (by exact T.z_int) (pac3 (pv3 6) pan3)) (pB3 c_len (by decide +kernel) (by rfl) (by exact T.z_len) (pac3 (pv3 7) pan3)))))
    (psc3 (pset3 (i := 4) sc_l_draw.nd rfl (Or.inl rfl) (pop3 o_mod (pT3 c_int (by decide +kernel) (by rfl) (by exact T.z_int) (pac3 (pop3 o_add (pop3 o_add (pop3 o_mul (pv3 3) pint3) (pop3 o_mul (pv3 6) pint3)) (pop3 o_mul (pix3 (by exact hu) (pv3 0) pstr3) pint3)) pan3)) pint3))
    (psc3 (pset3 (i := 4) sc_l_draw.nd rfl (Or.inl rfl) (pop3 o_mod (pT3 c_int (by decide +kernel) (by rfl) (by exact T.z_int) (pac3 (pop3 o_add (pop3 o_add (pop3 o_mul (pv3 4) (pv3 4)) (pv3 3)) (pop3 o_mul (pv3 6) pint3)) pan3)) pint3))
    (psc3 (pset3 (i := 4) sc_l_draw.nd rfl (Or.inl rfl) (pop3 o_mod (pT3 c_int (by decide +kernel) (by rfl) (by exact T.z_int) (pac3 (pop3 o_add (pop3 o_mul (pv3 4) (pv3 4)) (pv3 4)) pan3)) pint3))
    (ps13 (psr3 (pop3 o_mod (pT3 c_int (by decide +kernel) (by rfl) (by exact T.z_int) (pac3 (pop3 o_fdiv (pv3 4) pint3) pan3)) (pv3 1))))))))))))
end
end L3
/-! ## W__law_pick -/
namespace L3
open PySem PySem.Spec L2
open PyProof.Rows hiding St
section
variable {P : Program} {w : World} {K : PySem.W.Frag} {mg : Str → Option Value} {base : Heap}
theorem w_l_pick (sp_l_draw : Sp3) {C : Addr} (T : Txt K mg C) (c_l_draw : Cal P w K mg base 1 "_law_draw" p_l_draw sp_l_draw) : Body P w K mg base 1 n_l_pick "_law_pick" s_l_pick (r_l_pick sp_l_draw) := fun f cdv A outer s H E hr hu =>
  (ps13 (psr3 (pix3 (by exact hu) (pv3 1) (pcal3 (by exact c_l_draw) (by exact hr.mono (by decide)) (by rfl) (pac3 (pv3 0) (pac3 (pB3 c_len (by decide +kernel) (by rfl) (by exact T.z_len) (pac3 (pv3 1) pan3)) pan3))))))
end
end L3
/-! ## W__law_mixed -/
namespace L3
open PySem PySem.Spec L2
open PyProof.Rows hiding St
section
variable {P : Program} {w : World} {K : PySem.W.Frag} {mg : Str → Option Value} {base : Heap}
theorem w_l_mixed (sp_l_draw : Sp3) {C : Addr} (T : Txt K mg C) (c_l_draw : Cal P w K mg base 1 "_law_draw" p_l_draw sp_l_draw) : Body P w K mg base 1 n_l_mixed "_law_mixed" s_l_mixed (r_l_mixed sp_l_draw) := fun f cdv A outer s H E hr hu =>
  (psc3 (ppar3 (i := 3) (j := 4) rfl sc_l_mixed.nd rfl rfl (by decide) rfl rfl (pac3 (pT3 c_list (by decide +kernel) (by rfl) (by exact T.z_list) (pac3 (pv3 1) pan3)) (pac3 (plst3 pan3) pan3)) (by rfl))
    (psc3 (pfor3 PassesOwn.never rfl (pir3 (by rfl) (by exact T.z_range) (pac3 (pB3 c_len (by decide +kernel) (by rfl) (by exact T.z_len) (pac3 (pv3 3) pan3)) pan3)) (pgn3 sc_l_mixed.nd rfl (Or.inl rfl)) (ps13 (psx3 (pM1 PySem.F.slot_list_append PySem.F.type_list_append m_app (pv3 4) (pac3 (pM1 PySem.F.slot_list_pop PySem.F.type_list_pop m_popAt (pv3 3) (pac3 (pcal3 (by exact c_l_draw) (by exact hr.mono (by decide)) (by rfl) (pac3 (pv3 0) (pac3 (pB3 c_len (by decide +kernel) (by rfl) (by exact T.z_len) (pac3 (pv3 3) pan3)) pan3))) pan3)) pan3)))))
    (ps13 (psr3 (pv3 4)))))
end
end L3
/-! ## W__law_states -/
namespace L3
open PySem PySem.Spec L2
open PyProof.Rows hiding St
section
variable {P : Program} {w : World} {K : PySem.W.Frag} {mg : Str → Option Value} {base : Heap}
theorem w_l_states  {C : Addr} (T : Txt K mg C)  : Body P w K mg base 0 n_l_states "_law_states" s_l_states (r_l_states ) := fun f cdv A outer s H E hr hu =>
  (psc3 (pset3 (i := 1) sc_l_states.nd rfl (Or.inl rfl) (plst3 (pac3 (ptup3 pan3) pan3)))
    (psc3 (pfor3 PassesOwn.never rfl (pit3 (pv3 0)) (pgn3 sc_l_states.nd rfl (Or.inl rfl)) (psc3 (pset3 (i := 3) sc_l_states.nd rfl (Or.inl rfl) (plst3 pan3))
    (psc3 (pfor3 PassesOwn.never rfl (pil3 (pv3 1)) (pgn3 sc_l_states.nd rfl (Or.inr rfl)) (ps13 (pset3 (i := 3) sc_l_states.nd rfl (Or.inl rfl) (pop3 o_add (pv3 3) (plc3 (own := [("_law_level", 5)]) (cg_name 5) rfl sc_l_states.nd (pir3 (by rfl) (by exact T.z_range) (pac3 (pop3 o_add (pv3 2) pint3) pan3)) (blkOk_by (N := n_l_states) (sc := defScope s_l_states) (by decide +kernel)) (fun _ _ _ _ _ => (pg_name (i := 5) sc_l_states.nd rfl (Or.inl rfl))) (fun _ _ _ _ _ => ptsn3) (fun _ _ _ _ _ => (pop3 o_add (pv3 4) (ptup3 (pac3 (pv3 5) pan3)))))))))
    (ps13 (pset3 (i := 1) sc_l_states.nd rfl (Or.inl rfl) (pv3 3))))))
    (ps13 (psr3 (pv3 1)))))
end
end L3
/-! ## W__law_card -/
namespace L3
open PySem PySem.Spec L2
open PyProof.Rows hiding St
section
variable {P : Program} {w : World} {K : PySem.W.Frag} {mg : Str → Option Value} {base : Heap}
theorem w_l_card (sp_l_pick : Sp3) {C : Addr} (T : Txt K mg C) (c_l_pick : Cal P w K mg base 2 "_law_pick" p_l_pick sp_l_pick) : Body P w K mg base 2 n_l_card "_law_card" s_l_card (r_l_card sp_l_pick) := fun f cdv A outer s H E hr hu =>
  (psc3 (ppar3 (i := 3) (j := 4) rfl sc_l_card.nd rfl rfl (by decide) rfl rfl (pac3 (plst3 pan3) (pac3 pint3 pan3)) (by rfl))
    (psc3 (pfor3 PassesOwn.never rfl (pir3 (by rfl) (by exact T.z_range) (pac3 (pcal3 (by exact c_l_pick) (by exact hr.mono (by decide)) (by rfl) (pac3 (pv3 0) (pac3 (plst3 (pac3 pint3 (pac3 pint3 (pac3 pint3 (pac3 pint3 (pac3 pint3 (pac3 pint3 pan3))))))) pan3))) pan3)) (pgn3 sc_l_card.nd rfl (Or.inl rfl)) (psc3 (pset3 (i := 5) sc_l_card.nd rfl (Or.inl rfl) (pcal3 (by exact c_l_pick) (by exact hr.mono (by decide)) (by rfl) (pac3 (pv3 0) (pac3 (plst3 (pac3 pint3 (pac3 pint3 (pac3 pint3 (pac3 pint3 (pac3 pint3 (pac3 pint3 (pac3 pint3 pan3)))))))) pan3))))
    (ps13 (psif3 (ptc3 o_le (pop3 o_mul (pv3 4) (pop3 o_add (pv3 5) pint3)) (pv3 1)) (psc3 (psx3 (pM1 PySem.F.slot_list_append PySem.F.type_list_append m_app (pv3 3) (pac3 (pv3 5) pan3)))
    (ps13 (pset3 (i := 4) sc_l_card.nd rfl (Or.inl rfl) (pop3 o_mul (pv3 4) (pop3 o_add (pv3 5) pint3))))) psn3))))
    (ps13 (psr3 (pT3 c_tuple (by decide +kernel) (by rfl) (by exact T.z_tuple) (pac3 (pv3 3) pan3))))))
end
end L3
/-! ## W__law_values -/
namespace L3
open PySem PySem.Spec L2
open PyProof.Rows hiding St
section
variable {P : Program} {w : World} {K : PySem.W.Frag} {mg : Str → Option Value} {base : Heap}
theorem w_l_values (sp_l_mixed : Sp3) {C : Addr} (T : Txt K mg C) (c_l_mixed : Cal P w K mg base 2 "_law_mixed" p_l_mixed sp_l_mixed) : Body P w K mg base 2 n_l_values "_law_values" s_l_values (r_l_values sp_l_mixed) := fun f cdv A outer s H E hr hu =>
  (psc3 (pset3 (i := 2) sc_l_values.nd rfl (Or.inl rfl) (plst3 (pac3 pint3 (pac3 pint3 (pac3 pint3 (pac3 pint3 (pac3 pint3 (pac3 pstr3 (pac3 pstr3 (pac3 pstr3 (pac3 pstr3 (pac3 (ptup3 (pac3 pint3 pan3)) (pac3 (ptup3 (pac3 pint3 (pac3 pint3 pan3))) (pac3 (ptup3 (pac3 pint3 (pac3 pint3 pan3))) (pac3 (ptup3 (pac3 pstr3 (pac3 pint3 pan3))) (pac3 (ptup3 (pac3 pint3 (pac3 pstr3 (pac3 pint3 (pac3 pint3 pan3))))) pan3))))))))))))))))
    (ps13 (psr3 (psl3 (pcal3 (by exact c_l_mixed) (by exact hr.mono (by decide)) (by rfl) (pac3 (pv3 0) (pac3 (pv3 2) pan3))) pon3 (pos3 (pv3 1))))))
end
end L3
/-! ## W__law_code -/
namespace L3
open PySem PySem.Spec L2
open PyProof.Rows hiding St
section
variable {P : Program} {w : World} {K : PySem.W.Frag} {mg : Str → Option Value} {base : Heap}
theorem w_l_code (sp_l_values : Sp3) (sp_l_draw : Sp3) (sp_l_states : Sp3) (sp_l_pick : Sp3) {C : Addr} (T : Txt K mg C) (c_l_values : Cal P w K mg base 3 "_law_values" p_l_values sp_l_values) (c_l_draw : Cal P w K mg base 1 "_law_draw" p_l_draw sp_l_draw) (c_l_states : Cal P w K mg base 1 "_law_states" p_l_states sp_l_states) (c_l_pick : Cal P w K mg base 2 "_law_pick" p_l_pick sp_l_pick) : Body P w K mg base 3 n_l_code "_law_code" s_l_code (r_l_code sp_l_values sp_l_draw sp_l_states sp_l_pick) := fun f cdv A outer s H E hr hu =>
  (psc3 (ppx3 (i := 5) (j := 6) (l := 7) rfl sc_l_code.nd rfl rfl rfl (Or.inr rfl) (Or.inl rfl) (Or.inl rfl) (Or.inl rfl) (Or.inr rfl) (Or.inr rfl) (pac3 (pcal3 (by exact c_l_values) (by exact hr.mono (by decide)) (by rfl) (pac3 (pv3 0) (pac3 (pv3 2) pan3))) (pac3 (pcal3 (by exact c_l_draw) (by exact hr.mono (by decide)) (by rfl) (pac3 (pv3 0) (pac3 pint3 pan3))) (pac3 (plc3 (own := [("_law_top", 9)]) (cg_name 9) rfl sc_l_code.nd (pit3 (pv3 1)) (blkOk_by (N := n_l_code) (sc := defScope s_l_code) (by decide +kernel)) (fun _ _ _ _ _ => (pg_name (i := 9) sc_l_code.nd rfl (Or.inl rfl))) (fun _ _ _ _ _ => ptsn3) (fun _ _ _ _ _ => (pop3 o_add pint3 (pcal3 (by exact c_l_draw) (by exact hr.mono (by decide)) (by rfl) (pac3 (pv3 0) (pac3 (pv3 2) pan3)))))) pan3))) (by rfl) (by rfl) (by rfl) (by rfl) (by rfl) (by rfl) (by rfl) (by rfl))
    (psc3 (pset3 (i := 3) sc_l_code.nd rfl (Or.inl rfl) (plst3 pan3))
    (psc3 (pfor3 PassesOwn.never rfl (pil3 (pcal3 (by exact c_l_states) (by exact hr.mono (by decide)) (by rfl) (pac3 (pv3 1) pan3))) (pgn3 sc_l_code.nd rfl (Or.inl rfl)) (psc3 (pset3 (i := 8) sc_l_code.nd rfl (Or.inl rfl) (pix3 (by exact hu) (pv3 5) (pop3 o_mod (pT3 c_int (by decide +kernel) (by rfl) (by exact T.z_int) (pac3 (pB3 (c_sum rfl) (by decide +kernel) (by rfl) (by exact T.z_sum) (pac3 (plc3 (own := [("_law_level", 10), ("_law_mark", 11)]) (cg_pair (by decide)) rfl sc_l_code.nd (piz3 (by rfl) (by exact T.z_zip) (pac3 (pv3 4) (pac3 (pv3 7) pan3))) (blkOk_by (N := n_l_code) (sc := defScope s_l_code) (by decide +kernel)) (fun _ _ _ _ _ => (pg_tup (n := 2) rfl (pgs_cons (pg_name (i := 10) sc_l_code.nd rfl (Or.inl rfl)) (pgs_cons (pg_name (i := 11) sc_l_code.nd rfl (Or.inl rfl)) pgs_nil)))) (fun _ _ _ _ _ => ptsn3) (fun _ _ _ _ _ => (pop3 o_mul (pv3 10) (pv3 11)))) pan3)) pan3)) (pv3 2))))
    (psc3 (psif3 (pwt (pwo (ptc3 o_gt (pv3 6) pint3) (pwo1 (pwt (pwa (ptc3 o_gt (pv3 6) pint3) (pwa1 (ptc3 (o_eq (by exact hu)) (pcal3 (by exact c_l_draw) (by exact hr.mono (by decide)) (by rfl) (pac3 (pv3 0) (pac3 pint3 pan3))) pint3))))))) (ps13 (pset3 (i := 8) sc_l_code.nd rfl (Or.inl rfl) (pcal3 (by exact c_l_pick) (by exact hr.mono (by decide)) (by rfl) (pac3 (pv3 0) (pac3 (pv3 5) pan3))))) psn3)
    (psc3 (psif3 (pwt (pwa (ptc3 (o_in (by exact hu)) (pv3 6) (ptup3 (pac3 pint3 (pac3 pint3 (pac3 pint3 pan3))))) (pwa1 (ptc3 (o_eq (by exact hu)) (pcal3 (by exact c_l_draw) (by exact hr.mono (by decide)) (by rfl) (pac3 (pv3 0) (pac3 pint3 pan3))) pint3)))) (ps13 (pset3 (i := 8) sc_l_code.nd rfl (Or.inl rfl) pnon3)) psn3)
    (ps13 (psx3 (pM1 PySem.F.slot_list_append PySem.F.type_list_append m_app (pv3 3) (pac3 (pv3 8) pan3))))))))
    (psc3 (psub3 (by exact hu) (pix3 (by exact hu) (pv3 5) pint3) (pv3 3) pint3)
    (psc3 (psif3 (ptc3 (o_eq (by exact hu)) (plc3 (own := [("_law_own", 8)]) (cg_name 8) rfl sc_l_code.nd (pil3 (pv3 3)) (blkOk_by (N := n_l_code) (sc := defScope s_l_code) (by decide +kernel)) (fun _ _ _ _ _ => (pg_name (i := 8) sc_l_code.nd rfl (Or.inl rfl))) (fun _ _ _ _ _ => (pts13 (pwt (pwa (ptc3 o_isnot (pv3 8) pnon3) (pwa1 (ptc3 (o_ne (by exact hu)) (pv3 8) (pix3 (by exact hu) (pv3 5) pint3))))))) (fun _ _ _ _ _ => (pv3 8))) (plst3 pan3)) (ps13 (psub3 (by exact hu) (pix3 (by exact hu) (pv3 5) pint3) (pv3 3) (pun3 u_neg pint3))) psn3)
    (ps13 (psr3 (ptup3 (pac3 (pv3 1) (pac3 (pT3 c_tuple (by decide +kernel) (by rfl) (by exact T.z_tuple) (pac3 (pv3 3) pan3)) pan3))))))))))
end
end L3
/-! ## W__law_table -/
namespace L3
open PySem PySem.Spec L2
open PyProof.Rows hiding St
section
variable {P : Program} {w : World} {K : PySem.W.Frag} {mg : Str → Option Value} {base : Heap}
theorem w_l_table (sp_l_states : Sp3) {C : Addr} (T : Txt K mg C) (c_l_states : Cal P w K mg base 1 "_law_states" p_l_states sp_l_states) : Body P w K mg base 1 n_l_table "_law_table" s_l_table (r_l_table sp_l_states) := fun f cdv A outer s H E hr hu =>
  (ps13 (psr3 (pT3 (c_dictP rfl (by exact hu)) (by decide +kernel) (by rfl) (by exact T.z_dict) (pac3 (pnest3 (c_listZ rfl) (by decide +kernel) (by rfl) (by exact T.z_list) (by rfl) (by exact T.z_zip) (pac3 (pcal3 (by exact c_l_states) (by exact hr.mono (by decide)) (by rfl) (pac3 (pix3 (by exact hu) (pv3 0) pint3) pan3)) (pac3 (pix3 (by exact hu) (pv3 0) pint3) pan3))) pan3))))
end
end L3
/-! ## W__law_named -/
namespace L3
open PySem PySem.Spec L2
open PyProof.Rows hiding St
section
variable {P : Program} {w : World} {K : PySem.W.Frag} {mg : Str → Option Value} {base : Heap}
theorem w_l_named  {C : Addr} (T : Txt K mg C)  : Body P w K mg base 0 n_l_named "_law_named" s_l_named (r_l_named ) := fun f cdv A outer s H E hr hu =>
  (psc3 (pset3 (i := 1) sc_l_named.nd rfl (Or.inl rfl) (plst3 pan3))
    (psc3 (pslk3 (pfor3 PassesOwn.never rfl (pid3 (pv3 0)) (pgn3 sc_l_named.nd rfl (Or.inl rfl)) (ps13 (psif3 (pwt (pwa (ptc3 o_isnot (pix3 (by exact hu) (pv3 0) (pv3 2)) pnon3) (pwa1 (ptc3 (o_notin (by exact hu)) (pix3 (by exact hu) (pv3 0) (pv3 2)) (pv3 1))))) (ps13 (psx3 (pM1 PySem.F.slot_list_append PySem.F.type_list_append m_app (pv3 1) (pac3 (pix3 (by exact hu) (pv3 0) (pv3 2)) pan3)))) psn3))))
    (ps13 (psr3 (pv3 1)))))
end
end L3
/-! ## W__law_steps -/
namespace L3
open PySem PySem.Spec L2
open PyProof.Rows hiding St
section
variable {P : Program} {w : World} {K : PySem.W.Frag} {mg : Str → Option Value} {base : Heap}
theorem w_l_steps  {C : Addr} (T : Txt K mg C)  : Body P w K mg base 0 n_l_steps "_law_steps" s_l_steps (r_l_steps ) := fun f cdv A outer s H E hr hu =>
  (psc3 (pset3 (i := 2) sc_l_steps.nd rfl (Or.inl rfl) (plst3 pan3))
    (psc3 (pfor3 PassesOwn.never rfl (pie3 (by rfl) (by exact T.z_enumerate) (pac3 (pv3 1) pan3)) (pgp3 rfl sc_l_steps.nd rfl (Or.inl rfl) rfl (Or.inl rfl)) (psc3 (pset3 (i := 5) sc_l_steps.nd rfl (Or.inl rfl) (pop3 o_add (pop3 o_add (psl3 (pv3 1) pon3 (pos3 (pv3 3))) (ptup3 (pac3 (pop3 o_add (pv3 4) pint3) pan3))) (psl3 (pv3 1) (pos3 (pop3 o_add (pv3 3) pint3)) pon3)))
    (ps13 (psif3 (ptc3 (o_in (by exact hu)) (pv3 5) (pv3 0)) (ps13 (psx3 (pM1 PySem.F.slot_list_append PySem.F.type_list_append m_app (pv3 2) (pac3 (pv3 5) pan3)))) psn3))))
    (ps13 (psr3 (pv3 2)))))
end
end L3
/-! ## W__law_way -/
namespace L3
open PySem PySem.Spec L2
open PyProof.Rows hiding St
section
variable {P : Program} {w : World} {K : PySem.W.Frag} {mg : Str → Option Value} {base : Heap}
theorem w_l_way (sp_l_steps : Sp3) {C : Addr} (T : Txt K mg C) (c_l_steps : Cal P w K mg base 1 "_law_steps" p_l_steps sp_l_steps) : Body P w K mg base 1 n_l_way "_law_way" s_l_way (r_l_way sp_l_steps) := fun f cdv A outer s H E hr hu =>
  (psc3 (ppar3 (i := 4) (j := 5) rfl sc_l_way.nd rfl rfl (by decide) rfl rfl (pac3 (plst3 (pac3 (ptup3 (pac3 (pv3 1) pan3)) pan3)) (pac3 (pdisp3 (by exact hu) (ppc3 (pv3 1) pbl3 ppn3)) pan3)) (by rfl))
    (psc3 (pwhile3 PassesOwn.never (ptc3 (o_ne (by exact hu)) (pv3 4) (plst3 pan3)) (psc3 (pset3 (i := 6) sc_l_way.nd rfl (Or.inl rfl) (pM0 PySem.F.slot_list_pop PySem.F.type_list_pop m_pop (pv3 4) pop_list))
    (psc3 (psif3 (ptc3 (o_eq (by exact hu)) (pix3 (by exact hu) (pv3 0) (pix3 (by exact hu) (pv3 6) (pun3 u_neg pint3))) (pv3 2)) (ps13 (psr3 (pv3 6))) psn3)
    (ps13 (pfor3 PassesOwn.never rfl (pil3 (pcal3 (by exact c_l_steps) (by exact hr.mono (by decide)) (by rfl) (pac3 (pv3 0) (pac3 (pix3 (by exact hu) (pv3 6) (pun3 u_neg pint3)) pan3)))) (pgn3 sc_l_way.nd rfl (Or.inl rfl)) (ps13 (psif3 (pwt (pwa (ptc3 (o_in (by exact hu)) (pv3 7) (pv3 3)) (pwa (ptc3 (o_notin (by exact hu)) (pv3 7) (pv3 5)) (pwa1 (ptc3 (o_in (by exact hu)) (pix3 (by exact hu) (pv3 0) (pv3 7)) (ptup3 (pac3 (pix3 (by exact hu) (pv3 0) (pv3 1)) (pac3 (pv3 2) pan3)))))))) (psc3 (psub3 (by exact hu) pbl3 (pv3 5) (pv3 7))
    (ps13 (psx3 (pM1 PySem.F.slot_list_append PySem.F.type_list_append m_app (pv3 4) (pac3 (pop3 o_add (pv3 6) (ptup3 (pac3 (pv3 7) pan3))) pan3))))) psn3)))))))
    (ps13 (psr3 pnon3))))
end
end L3
/-! ## W__law_is_shown -/
namespace L3
open PySem PySem.Spec L2
open PyProof.Rows hiding St
section
variable {P : Program} {w : World} {K : PySem.W.Frag} {mg : Str → Option Value} {base : Heap}
theorem w_l_is_shown (sp_l_named : Sp3) (sp_l_way : Sp3) {C : Addr} (T : Txt K mg C) (c_l_named : Cal P w K mg base 1 "_law_named" p_l_named sp_l_named) (c_l_way : Cal P w K mg base 2 "_law_way" p_l_way sp_l_way) : Body P w K mg base 2 n_l_is_shown "_law_is_shown" s_l_is_shown (r_l_is_shown sp_l_named sp_l_way) := fun f cdv A outer s H E hr hu =>
  (psc3 (psetLc3 (i := 3) (own := [("_law_own", 7)]) (cg_name 7) rfl sc_l_is_shown.nd rfl rfl (sw_true rfl rfl rfl rfl) (pil3 (pcal3 (by exact c_l_named) (by exact hr.mono (by decide)) (by rfl) (pac3 (pv3 0) pan3))) (blkOk_by (N := n_l_is_shown) (sc := defScope s_l_is_shown) (by decide +kernel)) (fun _ _ _ _ _ => (pg_name (i := 7) sc_l_is_shown.nd rfl (Or.inl rfl))) (fun _ _ _ _ _ => (pts13 (ptc3 (o_ne (by exact hu)) (pv3 7) (pix3 (by exact hu) (pv3 0) (pv3 2))))) (fun _ _ _ _ _ => (pv3 7)))
    (psc3 (pset3 (i := 4) sc_l_is_shown.nd rfl (Or.inr rfl) (pix3 (by exact hu) (pv3 1) (pv3 2)))
    (psc3 (pset3 (i := 5) sc_l_is_shown.nd rfl (Or.inr rfl) (pT3 (c_dictP rfl (by exact hu)) (by decide +kernel) (by rfl) (by exact T.z_dict) (pac3 (pelk3 (plc3 (own := [("_law_other", 8)]) (cg_name 8) rfl sc_l_is_shown.nd (pid3 (pv3 0)) (blkOk_by (N := n_l_is_shown) (sc := defScope s_l_is_shown) (by decide +kernel)) (fun _ _ _ _ _ => (pg_name (i := 8) sc_l_is_shown.nd rfl (Or.inl rfl))) (fun _ _ _ _ _ => (pts13 (pwt (pwa (ptc3 o_isnot (pix3 (by exact hu) (pv3 1) (pv3 8)) pnon3) (pwa1 (ptc3 o_ge (pix3 (by exact hu) (pv3 1) (pv3 8)) (pv3 4))))))) (fun _ _ _ _ _ => (ptup3 (pac3 (pv3 8) (pac3 pbl3 pan3)))))) pan3)))
    (psc3 (pset3 (i := 6) sc_l_is_shown.nd rfl (Or.inr rfl) (pT3 (c_dictP rfl (by exact hu)) (by decide +kernel) (by rfl) (by exact T.z_dict) (pac3 (pelk3 (plc3 (own := [("_law_other", 8)]) (cg_name 8) rfl sc_l_is_shown.nd (pid3 (pv3 0)) (blkOk_by (N := n_l_is_shown) (sc := defScope s_l_is_shown) (by decide +kernel)) (fun _ _ _ _ _ => (pg_name (i := 8) sc_l_is_shown.nd rfl (Or.inl rfl))) (fun _ _ _ _ _ => (pts13 (pwt (pwa (ptc3 o_isnot (pix3 (by exact hu) (pv3 1) (pv3 8)) pnon3) (pwa1 (ptc3 o_ge (pix3 (by exact hu) (pv3 1) (pv3 8)) (pop3 o_sub (pv3 4) pint3))))))) (fun _ _ _ _ _ => (ptup3 (pac3 (pv3 8) (pac3 pbl3 pan3)))))) pan3)))
    (psc3 (psif3 (pwt (pwa (ptc3 o_gt (pv3 4) pint3) (pwa1 (ptc3 (o_ne (by exact hu)) (plc3 (own := [("_law_own", 7)]) (cg_name 7) rfl sc_l_is_shown.nd (pil3 (pv3 3)) (blkOk_by (N := n_l_is_shown) (sc := defScope s_l_is_shown) (by decide +kernel)) (fun _ _ _ _ _ => (pg_name (i := 7) sc_l_is_shown.nd rfl (Or.inl rfl))) (fun _ _ _ _ _ => (pts13 (ptc3 o_is (pcal3 (by exact c_l_way) (by exact hr.mono (by decide)) (by rfl) (pac3 (pv3 0) (pac3 (pv3 2) (pac3 (pv3 7) (pac3 (pv3 6) pan3))))) pnon3))) (fun _ _ _ _ _ => (pv3 7))) (plst3 pan3))))) (ps13 (psr3 pbl3)) psn3)
    (ps13 (psr3 (pcmp3 (o_ne (by exact hu)) (plc3 (own := [("_law_own", 7)]) (cg_name 7) rfl sc_l_is_shown.nd (pil3 (pv3 3)) (blkOk_by (N := n_l_is_shown) (sc := defScope s_l_is_shown) (by decide +kernel)) (fun _ _ _ _ _ => (pg_name (i := 7) sc_l_is_shown.nd rfl (Or.inl rfl))) (fun _ _ _ _ _ => (pts13 (ptc3 o_is (pcal3 (by exact c_l_way) (by exact hr.mono (by decide)) (by rfl) (pac3 (pv3 0) (pac3 (pv3 2) (pac3 (pv3 7) (pac3 (pv3 5) pan3))))) pnon3))) (fun _ _ _ _ _ => (pv3 7))) (plst3 pan3)))))))))
end
end L3
/-! ## W__law_is_safe -/
namespace L3
open PySem PySem.Spec L2
open PyProof.Rows hiding St
section
variable {P : Program} {w : World} {K : PySem.W.Frag} {mg : Str → Option Value} {base : Heap}
theorem w_l_is_safe (sp_l_steps : Sp3) {C : Addr} (T : Txt K mg C) (c_l_steps : Cal P w K mg base 1 "_law_steps" p_l_steps sp_l_steps) : Body P w K mg base 1 n_l_is_safe "_law_is_safe" s_l_is_safe (r_l_is_safe sp_l_steps) := fun f cdv A outer s H E hr hu =>
  (psc3 (psif3 (pwt (pwo (ptn3 (ptv3 (pB3 c_isi (by decide +kernel) (by rfl) (by exact T.z_isinstance) (pac3 (pwk3 (pv3 1)) (pac3 (pty3 (by rfl) (by exact T.z_tuple) (by decide +kernel)) pan3))))) (pwo (ptc3 o_lt (pB3 c_len (by decide +kernel) (by rfl) (by exact T.z_len) (pac3 (pwk3 (pv3 1)) pan3)) pint3) (pwo1 (ptrep3 (by exact hu) (by rfl) (by exact T.z_repr) (pfst3 (pv3 1) (by exact hu)) (pv3 2)))))) (ps13 (psr3 pbl3)) psn3)
    (psc3 (pfor3 PassesOwn.never rfl (piz3 (by rfl) (by exact T.z_zip) (pac3 (pwk3 (pv3 1)) (pac3 (psl3 (pwk3 (pv3 1)) (pos3 pint3) pon3) pan3))) (pgp3 rfl sc_l_is_safe.nd rfl (Or.inl rfl) rfl (Or.inl rfl)) (ps13 (psif3 (ptc3 (o_notin (by exact hu)) (pv3 5) (pcal3 (by exact c_l_steps) (by exact hr.mono (by decide)) (by rfl) (pac3 (pv3 0) (pac3 (pv3 4) pan3)))) (ps13 (psr3 pbl3)) psn3)))
    (ps13 (psr3 (pand3 (pcmp3 (o_eq (by exact hu)) (plc3 (own := [("_law_own", 6)]) (cg_name 6) rfl sc_l_is_safe.nd (pit3 (pwk3 (pv3 1))) (blkOk_by (N := n_l_is_safe) (sc := defScope s_l_is_safe) (by decide +kernel)) (fun _ _ _ _ _ => (pg_name (i := 6) sc_l_is_safe.nd rfl (Or.inl rfl))) (fun _ _ _ _ _ => (pts13 (ptc3 (o_notin (by exact hu)) (pix3 (by exact hu) (pv3 0) (pv3 6)) (ptup3 (pac3 (pix3 (by exact hu) (pv3 0) (pwk3 (pv3 2))) (pac3 (pv3 3) pan3)))))) (fun _ _ _ _ _ => (pv3 6))) (plst3 pan3)) (pone3 (pcmp3 (o_eq (by exact hu)) (pix3 (by exact hu) (pv3 0) (pix3 (by exact hu) (pwk3 (pv3 1)) (pun3 u_neg pint3))) (pv3 3))))))))
end
end L3
/-! ## W__law_is_played -/
namespace L3
open PySem PySem.Spec L2
open PyProof.Rows hiding St
section
variable {P : Program} {w : World} {K : PySem.W.Frag} {mg : Str → Option Value} {base : Heap}
theorem w_l_is_played (sp_l_named : Sp3) (sp_l_pick : Sp3) (sp_safe_way : Sp3) (sp_l_is_safe : Sp3) {C : Addr} (T : Txt K mg C) (c_l_named : Cal P w K mg base 1 "_law_named" p_l_named sp_l_named) (c_l_pick : Cal P w K mg base 2 "_law_pick" p_l_pick sp_l_pick) (c_safe_way : Cal P w K mg base 8 "safe_way" p_safe_way sp_safe_way) (c_l_is_safe : Cal P w K mg base 2 "_law_is_safe" p_l_is_safe sp_l_is_safe) : Body P w K mg base 8 n_l_is_played "_law_is_played" s_l_is_played (r_l_is_played sp_l_named sp_l_pick sp_safe_way sp_l_is_safe) := fun f cdv A outer s H E hr hu =>
  (psc3 (ppar3 (i := 6) (j := 7) rfl sc_l_is_played.nd rfl rfl (by decide) rfl rfl (pac3 (pix3 (by exact hu) (pv3 3) (pwk3 (pv3 4))) (pac3 pint3 pan3)) (by rfl))
    (psc3 (pfor3 PassesOwn.never rfl (pir3 (by rfl) (by exact T.z_range) (pac3 pint3 pan3)) (pgn3 sc_l_is_played.nd rfl (Or.inl rfl)) (psown3 4 (psc3 (psif3 (ptc3 (o_eq (by exact hu)) (pix3 (by exact hu) (pv3 3) (pwk3 (pv3 4))) pint3) (ps13 psbrk3) psn3)
    (psc3 (pset3 (i := 8) sc_l_is_played.nd rfl (Or.inl rfl) (pcal3 (by exact c_l_pick) (by exact hr.mono (by decide)) (by rfl) (pac3 (pv3 0) (pac3 (plc3 (own := [("_law_own", 11)]) (cg_name 11) rfl sc_l_is_played.nd (pil3 (pcal3 (by exact c_l_named) (by exact hr.mono (by decide)) (by rfl) (pac3 (pv3 2) pan3))) (blkOk_by (N := n_l_is_played) (sc := defScope s_l_is_played) (by decide +kernel)) (fun _ _ _ _ _ => (pg_name (i := 11) sc_l_is_played.nd rfl (Or.inl rfl))) (fun _ _ _ _ _ => (pts13 (ptc3 (o_ne (by exact hu)) (pv3 11) (pix3 (by exact hu) (pv3 2) (pwk3 (pv3 4)))))) (fun _ _ _ _ _ => (pv3 11))) pan3))))
    (psc3 (pset3 (i := 9) sc_l_is_played.nd rfl (Or.inl rfl) (pcal3 (by exact c_safe_way) (by exact hr.mono (by decide)) (by rfl) (pac3 (pv3 1) (pac3 (pv3 4) (pac3 (pv3 8) pan3)))))
    (psc3 (psif3 (pwt (pwo (ptc3 o_is (pwk3 (pv3 9)) pnon3) (pwo1 (ptn3 (ptv3 (pcal3 (by exact c_l_is_safe) (by exact hr.mono (by decide)) (by rfl) (pac3 (pv3 2) (pac3 (pv3 9) (pac3 (pv3 4) (pac3 (pv3 8) pan3)))))))))) (ps13 (psr3 pbl3)) psn3)
    (psc3 (pset3 (i := 10) sc_l_is_played.nd rfl (Or.inl rfl) (pcal3 (by exact c_l_pick) (by exact hr.mono (by decide)) (by rfl) (pac3 (pv3 0) (pac3 (pop3 o_add (pT3 c_list (by decide +kernel) (by rfl) (by exact T.z_list) (pac3 (pwk3 (pv3 9)) pan3)) (plst3 (pac3 (pix3 (by exact hu) (pwk3 (pv3 9)) (pun3 u_neg pint3)) pan3))) pan3))))
    (psc3 (psif3 (pwt (pwo (ptc3 o_is (pix3 (by exact hu) (pv3 3) (pv3 10)) pnon3) (pwo1 (ptc3 o_lt (pix3 (by exact hu) (pv3 3) (pv3 10)) (pop3 o_sub (pix3 (by exact hu) (pv3 3) (pwk3 (pv3 4))) pint3))))) (ps13 (psr3 pbl3)) psn3)
    (ps13 (ppx2 (i := 4) (j := 7) rfl sc_l_is_played.nd rfl rfl (Or.inr rfl) (Or.inl rfl) (Or.inl rfl) (Or.inr rfl) (pac3 (pv3 10) (pac3 (pop3 o_add (pv3 7) pint3) pan3)) (by rfl) (by rfl) (by rfl) (by rfl) (by rfl) (by rfl) (by rfl)))))))))))
    (ps13 (psr3 (por3 (pcmp3 o_gt (pix3 (by exact hu) (pv3 3) (pwk3 (pv3 4))) pint3) (pone3 (pcmp3 o_ge (pv3 7) (pv3 6))))))))
end
end L3
/-! ## W_law -/
namespace L3
open PySem PySem.Spec L2
open PyProof.Rows hiding St
section
variable {P : Program} {w : World} {K : PySem.W.Frag} {mg : Str → Option Value} {base : Heap}
theorem w_law (sp_l_spool : Sp3) (sp_l_draw : Sp3) (sp_l_pick : Sp3) (sp_l_card : Sp3) (sp_l_code : Sp3) (sp_l_table : Sp3) (sp_safe_strengths : Sp3) (sp_l_mixed : Sp3) (sp_l_is_shown : Sp3) (sp_l_is_played : Sp3) {C : Addr} (T : Txt K mg C) (c_l_spool : Cal P w K mg base 1 "_law_spool" p_l_spool sp_l_spool) (c_l_draw : Cal P w K mg base 1 "_law_draw" p_l_draw sp_l_draw) (c_l_pick : Cal P w K mg base 2 "_law_pick" p_l_pick sp_l_pick) (c_l_card : Cal P w K mg base 3 "_law_card" p_l_card sp_l_card) (c_l_code : Cal P w K mg base 4 "_law_code" p_l_code sp_l_code) (c_l_table : Cal P w K mg base 2 "_law_table" p_l_table sp_l_table) (c_safe_strengths : Cal P w K mg base 8 "safe_strengths" p_safe_strengths sp_safe_strengths) (c_l_mixed : Cal P w K mg base 2 "_law_mixed" p_l_mixed sp_l_mixed) (c_l_is_shown : Cal P w K mg base 3 "_law_is_shown" p_l_is_shown sp_l_is_shown) (c_l_is_played : Cal P w K mg base 9 "_law_is_played" p_l_is_played sp_l_is_played) : Body P w K mg base 9 n_law "law" s_law (r_law sp_l_spool sp_l_draw sp_l_pick sp_l_card sp_l_code sp_l_table sp_safe_strengths sp_l_mixed sp_l_is_shown sp_l_is_played) := fun f cdv A outer s H E hr hu =>
  (psc3 (pset3 (i := 1) sc_law.nd rfl (Or.inl rfl) (pcal3 (by exact c_l_spool) (by exact hr.mono (by decide)) (by rfl) (pac3 (pv3 0) pan3)))
    (psc3 (pfor3 PassesOwn.never rfl (pir3 (by rfl) (by exact T.z_range) (pac3 pint3 pan3)) (pgn3 sc_law.nd rfl (Or.inl rfl)) (psc3 (pset3 (i := 3) sc_law.nd rfl (Or.inl rfl) (pif3 (ptc3 (o_eq (by exact hu)) (pv3 2) pint3) pint3 (pop3 o_add pint3 (pcal3 (by exact c_l_draw) (by exact hr.mono (by decide)) (by rfl) (pac3 (pv3 1) (pac3 pint3 pan3))))))
    (psc3 (pset3 (i := 4) sc_law.nd rfl (Or.inl rfl) (pcal3 (by exact c_l_code) (by exact hr.mono (by decide)) (by rfl) (pac3 (pv3 1) (pac3 (pcal3 (by exact c_l_card) (by exact hr.mono (by decide)) (by rfl) (pac3 (pv3 1) (pac3 (pix3 (by exact hu) (plst3 (pac3 (pcal3 (by exact c_l_pick) (by exact hr.mono (by decide)) (by rfl) (pac3 (pv3 1) (pac3 (plst3 (pac3 pint3 (pac3 pint3 (pac3 pint3 pan3)))) pan3))) (pac3 pint3 pan3))) (pv3 2)) pan3))) (pac3 (pv3 3) pan3)))))
    (psc3 (ppx2 (i := 11) (j := 12) rfl sc_law.nd rfl rfl (Or.inr rfl) (Or.inl rfl) (Or.inl rfl) (Or.inr rfl) (pac3 (pcal3 (by exact c_l_table) (by exact hr.mono (by decide)) (by rfl) (pac3 (pv3 4) pan3)) (pac3 (pcal3 (by exact c_safe_strengths) (by exact hr.mono (by decide)) (by rfl) (pac3 (pv3 4) pan3)) pan3)) (by rfl) (by rfl) (by rfl) (by rfl) (by rfl) (by rfl) (by rfl))
    (psc3 (psif3 (pwt (pwo (ptn3 (ptv3 (pB3 c_isi (by decide +kernel) (by rfl) (by exact T.z_isinstance) (pac3 (pv3 12) (pac3 (pty3 (by rfl) (by exact T.z_tuple) (by decide +kernel)) pan3))))) (pwo1 (ptc3 (o_ne (by exact hu)) (pB3 c_len (by decide +kernel) (by rfl) (by exact T.z_len) (pac3 (pv3 12) pan3)) (pB3 c_len (by decide +kernel) (by rfl) (by exact T.z_len) (pac3 (pv3 11) pan3)))))) (ps13 (psr3 pbl3)) psn3)
    (psc3 (pset3 (i := 5) sc_law.nd rfl (Or.inr rfl) (pT3 (c_dictP rfl (by exact hu)) (by decide +kernel) (by rfl) (by exact T.z_dict) (pac3 (pnest3 (c_listZ rfl) (by decide +kernel) (by rfl) (by exact T.z_list) (by rfl) (by exact T.z_zip) (pac3 (pT3 (c_listD rfl) (by decide +kernel) (by rfl) (by exact T.z_list) (pac3 (pv3 11) pan3)) (pac3 (pv3 12) pan3))) pan3)))
    (psc3 (pslk3 (psetLc3 (i := 6) (own := [("_law_state", 7)]) (cg_name 7) rfl sc_law.nd rfl rfl (sw_true rfl rfl rfl rfl) (pid3 (pv3 11)) (blkOk_by (N := n_law) (sc := defScope s_law) (by decide +kernel)) (fun _ _ _ _ _ => (pg_name (i := 7) sc_law.nd rfl (Or.inl rfl))) (fun _ _ _ _ _ => (pts13 (ptc3 o_isnot (pix3 (by exact hu) (pv3 11) (pv3 7)) pnon3))) (fun _ _ _ _ _ => (pv3 7))))
    (psc3 (pslk3 (pfor3 PassesOwn.never rfl (pid3 (pv3 11)) (pgn3 sc_law.nd rfl (Or.inl rfl)) (psc3 (pset3 (i := 13) sc_law.nd rfl (Or.inl rfl) (pix3 (by exact hu) (pv3 5) (pv3 7)))
    (ps13 (psif3 (pwt (pwo (ptc3 (o_ne (by exact hu)) (pcmp3 o_is (pv3 13) pnon3) (pcmp3 o_is (pix3 (by exact hu) (pv3 11) (pv3 7)) pnon3)) (pwo1 (pwt (pwa (ptc3 o_isnot (pv3 13) pnon3) (pwa1 (ptc3 (o_ne (by exact hu)) (pB3 c_repr (by decide +kernel) (by rfl) (by exact T.z_repr) (pac3 (pv3 13) pan3)) (pB3 c_repr (by decide +kernel) (by rfl) (by exact T.z_repr) (pac3 (pB3 c_abs (by decide +kernel) (by rfl) (by exact T.z_abs) (pac3 (pT3 c_int (by decide +kernel) (by rfl) (by exact T.z_int) (pac3 (pv3 13) pan3)) pan3)) pan3))))))))) (ps13 (psr3 pbl3)) psn3)))))
    (psc3 (psif3 (ptc3 (o_ne (by exact hu)) (plc3 (own := [("_law_state", 7)]) (cg_name 7) rfl sc_law.nd (pil3 (psl3 (pcal3 (by exact c_l_mixed) (by exact hr.mono (by decide)) (by rfl) (pac3 (pv3 1) (pac3 (pv3 6) pan3))) pon3 (pos3 pint3))) (blkOk_by (N := n_law) (sc := defScope s_law) (by decide +kernel)) (fun _ _ _ _ _ => (pg_name (i := 7) sc_law.nd rfl (Or.inl rfl))) (fun _ _ _ _ _ => (pts13 (ptn3 (ptv3 (pcal3 (by exact c_l_is_shown) (by exact hr.mono (by decide)) (by rfl) (pac3 (pv3 11) (pac3 (pv3 5) (pac3 (pv3 7) pan3)))))))) (fun _ _ _ _ _ => (pv3 7))) (plst3 pan3)) (ps13 (psr3 pbl3)) psn3)
    (psc3 (pset3 (i := 8) sc_law.nd rfl (Or.inr rfl) (pB3 (c_maxL rfl) (by decide +kernel) (by rfl) (by exact T.z_max) (pac3 (plc3 (own := [("_law_state", 7)]) (cg_name 7) rfl sc_law.nd (pil3 (pv3 6)) (blkOk_by (N := n_law) (sc := defScope s_law) (by decide +kernel)) (fun _ _ _ _ _ => (pg_name (i := 7) sc_law.nd rfl (Or.inl rfl))) (fun _ _ _ _ _ => ptsn3) (fun _ _ _ _ _ => (pix3 (by exact hu) (pv3 5) (pv3 7)))) pan3)))
    (psc3 (psetLc3 (i := 9) (own := [("_law_state", 7)]) (cg_name 7) rfl sc_law.nd rfl rfl (sw_true rfl rfl rfl rfl) (pil3 (pv3 6)) (blkOk_by (N := n_law) (sc := defScope s_law) (by decide +kernel)) (fun _ _ _ _ _ => (pg_name (i := 7) sc_law.nd rfl (Or.inl rfl))) (fun _ _ _ _ _ => (pts13 (ptc3 (o_eq (by exact hu)) (pix3 (by exact hu) (pv3 5) (pv3 7)) (pv3 8)))) (fun _ _ _ _ _ => (pv3 7)))
    (ps13 (pfor3 PassesOwn.never rfl (pil3 (plst3 (pac3 (pix3 (by exact hu) (pv3 6) pint3) (pac3 (pcal3 (by exact c_l_pick) (by exact hr.mono (by decide)) (by rfl) (pac3 (pv3 1) (pac3 (pop3 o_add (pv3 9) (pv3 6)) pan3))) pan3)))) (pgn3 sc_law.nd rfl (Or.inl rfl)) (ps13 (psif3 (ptn3 (ptv3 (pcal3 (by exact c_l_is_played) (by exact hr.mono (by decide)) (by rfl) (pac3 (pv3 1) (pac3 (pv3 4) (pac3 (pv3 11) (pac3 (pv3 5) (pac3 (pv3 10) pan3)))))))) (ps13 (psr3 pbl3)) psn3)))))))))))))))
    (ps13 (psr3 pbl3))))
end
end L3
/-! ## S0 -/
/-! what the defs promise: the small ones -/
namespace L3
open PySem PySem.Spec L2
open PyProof.Rows hiding St

abbrev nN (n : Nat) : NK := .num (n : Int)
set_option hygiene false in
local macro_rules | `(tactic| walk_at "rd3") => `(tactic| simp only [a1, a2, asB, asI, asK, asP, asR, asT, asOwn, cN, cP, gN, gP, iD3, iE3, iL3, iR3, iS3, iT3, iZ3, rAbs3, rAdd3, rAll3, rApp3, rDictP3, rDictZ3, rEq3, rExt3, rI03, rI3, rIn3, rInt3, rIs3, rIsi3, rIx3, rLen3, rList3, rListD3, rListZ3, rMaxL3, rMin23, rMinL3, rNeg3, rPop3, rPopAt3, rRepr3, rSet3, rSl3, rSum3, rTuple3, rTupleW3, rdS, tAnd3, tAndV3, tAsg3, tB3, tBack3, tBreak3, tCall3, tChain3, tCons3, tDict0, tDisp3, tDrop3, tFld3, tFor3, tFst3, tGet3, tIf3, tIfS3, tK, tLc3, tLk3, tLkE3, tLst3, tM0, tM1, tMake3, tMeth3, tNever3, tNext3, tNil3, tNo3, tNot3, tNotV3, tOp3, tOr3, tOrV3, tOwn3, tPairs3, tPar3, tPar33, tRep3, tRet3, tSFld3, tSeq3, tSet3, tSl3, tSm3, tSortK3, tSub3, tT, tTup3, tUn3, tV, tWk3, tYes3, three, two, nks, Option.map, List.getElem?_cons_zero, List.getElem?_cons_succ, List.set_cons_zero, List.set_cons_succ, if_true, if_false, Bool.false_eq_true, ite_true, ite_false, reduceIte, List.length_cons, List.length_nil, Nat.zero_add, Nat.reduceAdd, true_and, and_true])
/-- all that was told is told still -/
def Sub (S S' : Sto) : Prop := ∀ x o, S x = some o → S' x = some o
theorem Sub.refl (S : Sto) : Sub S S := fun _ _ h => h
theorem Sub.trans {A B C : Sto} (h : Sub A B) (g : Sub B C) : Sub A C := fun x o e => g x o (h x o e)
theorem Sub.add {S S' : Sto} (h : Sub S S') {p : Addr} {o : MO} (n : S' p = none) : Sub S (put S' p o) := fun x u e => by
  rw [put_ne (fun z => by rw [z] at e; rw [h p u e] at n; cases n)]
  exact h x u e
theorem Sub.gone {S S' : Sto} (h : Sub S S') {p : Addr} (n : S' p = none) : S p = none := by
  cases q : S p with
  | none => rfl
  | some o => rw [h p o q] at n; cases n
/-- a change of what was not there at the start -/
theorem Sub.over {S S' : Sto} (h : Sub S S') {p : Addr} {o : MO} (n : S p = none) : Sub S (put S' p o) := fun x u e => by
  rw [put_ne (fun z => by rw [z, n] at e; cases e)]
  exact h x u e
/-- the menu of values -/
def tx (s : String) : Str := Str.ofString s
def menu : List NK := [.num 0, .num 1, .num 2, .num 7, .num 999, .text "a", .text "b", .text "up", .text "abcdefgh", .tup [.num 0], .tup [.num 0, .num 1], .tup [.num 1, .num 0], .tup [.text "a", .num 0], .tup [.num 3, .text "ab", .num 5, .num 7]]
def words : List Str := ["a", "b", "up", "abcdefgh", "ab"]

def isIntK : NK → Bool
  | .num _ => true
  | _ => false
def sp_is_integer : Sp3 := fun ds S R => ∃ v, ds = [.k v] ∧ R (.bl (isIntK v)) S
theorem rd_is_integer (ds : List D) (S : Sto) (R : VK3) (hl : ds.length = 1) (h : sp_is_integer ds S R) : r_is_integer { nx := fun _ S' => R Dz S', rt := R } (start3 n_is_integer ds) S := by
  obtain ⟨v, rfl, h⟩ := h
  have e : ∀ (d : D) (n : String), isA d n = (kindOf d == n || (kindOf d == "bool" && n == "int")) := fun _ _ => rfl
  cases v with
  | num i => exact ⟨.inl rfl, .inr (.inl rfl), h⟩
  | none => exact ⟨.inl rfl, h⟩
  | text i => exact ⟨.inl rfl, h⟩
  | tup i => exact ⟨.inl rfl, h⟩

theorem for3_nil {g : TG3} {tb : TS3} {still : Sto → Prop} {D3 : Ends3} {σ : Sd} {S : Sto} : for3 g tb still D3 [] σ S ↔ still S ∧ D3.nx σ S := Iff.rfl
theorem for3_N {i : Nat} {tb : TS3} {still : Sto → Prop} {D3 : Ends3} {d : D} {r : List D} {σ : Sd} {S : Sto} : for3 (gN i) tb still D3 (d :: r) σ S ↔ still S ∧ tb { D3 with nx := for3 (gN i) tb still D3 r, ct := for3 (gN i) tb still D3 r, bk := D3.nx } (σ.set i (some d)) S := Iff.rfl
theorem for3_P {i j : Nat} {tb : TS3} {still : Sto → Prop} {D3 : Ends3} {x y : NK} {r : List D} {σ : Sd} {S : Sto} : for3 (gP i j) tb still D3 (Dt [x, y] :: r) σ S ↔ still S ∧ tb { D3 with nx := for3 (gP i j) tb still D3 r, ct := for3 (gP i j) tb still D3 r, bk := D3.nx } ((σ.set i (some (.k x))).set j (some (.k y))) S := Iff.rfl
/-- a comprehension, item by item -/
theorem lc3_map {gs : D → (Sd → Prop) → Prop} {tt : TT3} {te : TE3} {still : Sto → Prop} {Q : List D → Sto → Prop} {S0 : Sto} (f : D → Option D) : ∀ (items acc : List D) (S : Sto), Sub S0 S →
    (∀ d ∈ items, ∀ S, Sub S0 S → ∀ (K : VK3) (L : Sto → Prop), (∀ v S', f d = some v → Sub S S' → K v S') → (∀ S', f d = none → Sub S S' → L S') → gs d fun σ1 => tt σ1 S fun b S2 => if b = true then te σ1 S2 K else L S2) →
    (∀ S', Sub S0 S' → still S') → acc.length + items.length ≤ 1000000 → (∀ S', Sub S0 S' → Q (acc ++ items.filterMap f) S') → lc3 gs tt te still Q items acc S
  | [], acc, S, h0, _, hs, _, hq => ⟨hs S h0, by have := hq S h0; simpa using this⟩
  | d :: r, acc, S, h0, hstep, hs, hl, hq => by
    rw [List.length_cons] at hl
    refine ⟨hs S h0, hstep d List.mem_cons_self S h0 _ _ (fun v S' e h1 => ⟨by omega, ?_⟩) fun S' e h1 => ?_⟩
    · refine lc3_map f r (acc ++ [v]) S' (h0.trans h1) (fun d hd => hstep d (List.mem_cons_of_mem _ hd)) hs (by rw [List.length_append]; simp; omega) fun S2 h2 => ?_
      have := hq S2 h2
      rw [List.filterMap_cons, e] at this
      simpa using this
    · refine lc3_map f r acc S' (h0.trans h1) (fun d hd => hstep d (List.mem_cons_of_mem _ hd)) hs (by omega) fun S2 h2 => ?_
      have := hq S2 h2
      rw [List.filterMap_cons, e] at this
      exact this

def sp_is_word : Sp3 := fun ds S R => ∃ v, ds = [.k v] ∧ ((∃ x ∈ words, v = .text x ∧ ∀ S', Sub S S' → R (.bl true) S') ∨ ∃ i, v = .num i ∧ R (.bl false) S)
theorem letters_in : ∀ x ∈ words, ∀ c ∈ x.cps.toList, inTx ⟨#[c]⟩ ("abcdefghijklmnopqrstuvwxyz" : Str) = true := by decide +kernel
theorem words_len : ∀ x ∈ words, 1 ≤ x.length ∧ x.length ≤ 8 ∧ x.cps.toList.length ≤ 8 := by decide +kernel
theorem filterMap_some {α β : Type} (f : α → β) : ∀ l : List α, l.filterMap (fun x => some (f x)) = l.map f
  | [] => rfl
  | a :: l => by rw [List.filterMap_cons, List.map_cons, filterMap_some f l]
theorem map_const {α β : Type} (b : β) (f : α → β) : ∀ l : List α, (∀ a ∈ l, f a = b) → l.map f = List.replicate l.length b
  | [], _ => rfl
  | a :: l, h => by rw [List.map_cons, List.length_cons, List.replicate_succ, h a List.mem_cons_self, map_const b f l fun x hx => h x (List.mem_cons_of_mem _ hx)]
theorem rd_is_word (ds : List D) (S : Sto) (R : VK3) (hl : ds.length = 1) (h : sp_is_word ds S R) : r_is_word { nx := fun _ S' => R Dz S', rt := R } (start3 n_is_word ds) S := by
  obtain ⟨v, rfl, ⟨x, hx, rfl, h⟩ | ⟨i, rfl, h⟩⟩ := h
  · obtain ⟨l1, l8, lc⟩ := words_len x hx
    have d1 : decide ((1 : Int) ≤ ((x.length : Nat) : Int)) = true := decide_eq_true (by omega)
    have d2 : decide (((x.length : Nat) : Int) ≤ (8 : Int)) = true := decide_eq_true (by omega)
    show r_is_word { nx := fun _ S' => R Dz S', rt := R } [some (.k (.text x)), none] S
    unfold r_is_word
    walk_at "rd3"
    refine ⟨by simp, ?_⟩
    rw [if_pos (show isA (.k (.text x)) "str" = true by rfl)]
    refine ⟨by omega, ?_⟩
    rw [if_pos d1, if_pos d2]
    refine lc3_map (S0 := S) (fun _ => some (.bl true)) _ _ _ (Sub.refl S) (fun d hd S1 h1 K L hk _ => ?_) (fun _ _ => trivial) (by rw [List.length_map, List.length_nil]; omega) fun S' hS p hp => ?_
    · obtain ⟨c, hc, rfl⟩ := List.mem_map.mp hd
      show K (.bl (id (inTx ⟨#[c]⟩ ("abcdefghijklmnopqrstuvwxyz" : Str)))) S1
      rw [letters_in x hx c hc]
      exact hk _ _ rfl (Sub.refl S1)
    · refine ⟨List.replicate (x.cps.toList.length) true, ?_, ?_⟩
      · rw [put_same]
        congr 2
        rw [filterMap_some, List.map_map, List.map_replicate]
        exact map_const (D.bl true) _ x.cps.toList fun _ _ => rfl
      · rw [show (List.replicate x.cps.toList.length true).all id = true by simp]
        exact h _ (Sub.add hS hp)
  · exact ⟨.inr (.inr (.inl rfl)), h⟩
end L3
/-! ## S1 -/
namespace L3
open PySem PySem.Spec L2
open PyProof.Rows hiding St
set_option hygiene false in
local macro_rules | `(tactic| walk_at "rd3") => `(tactic| simp only [a1, a2, asB, asI, asK, asP, asR, asT, asOwn, cN, cP, gN, gP, iD3, iE3, iL3, iR3, iS3, iT3, iZ3, rAbs3, rAdd3, rAll3, rApp3, rDictP3, rDictZ3, rEq3, rExt3, rI03, rI3, rIn3, rInt3, rIs3, rIsi3, rIx3, rLen3, rList3, rListD3, rListZ3, rMaxL3, rMin23, rMinL3, rNeg3, rPop3, rPopAt3, rRepr3, rSet3, rSl3, rSum3, rTuple3, rTupleW3, rdS, tAnd3, tAndV3, tAsg3, tB3, tBack3, tBreak3, tCall3, tChain3, tCons3, tDict0, tDisp3, tDrop3, tFld3, tFor3, tFst3, tGet3, tIf3, tIfS3, tK, tLc3, tLk3, tLkE3, tLst3, tM0, tM1, tMake3, tMeth3, tNever3, tNext3, tNil3, tNo3, tNot3, tNotV3, tOp3, tOr3, tOrV3, tOwn3, tPairs3, tPar3, tPar33, tRep3, tRet3, tSFld3, tSeq3, tSet3, tSl3, tSm3, tSortK3, tSub3, tT, tTup3, tUn3, tV, tWk3, tYes3, three, two, nks, Option.map, List.getElem?_cons_zero, List.getElem?_cons_succ, List.set_cons_zero, List.set_cons_succ, if_true, if_false, Bool.false_eq_true, ite_true, ite_false, reduceIte, List.length_cons, List.length_nil, Nat.zero_add, Nat.reduceAdd, true_and, and_true])
/-! is_plain, is_value, value_rank -/
/-- a plain value of the menu -/
def plainV : NK → Bool
  | .num i => decide (0 ≤ i ∧ i ≤ 999)
  | .text x => decide (x ∈ words)
  | _ => false
def sp_is_plain : Sp3 := fun ds S R => ∃ v, ds = [.k v] ∧ plainV v = true ∧ ∀ S', Sub S S' → R (.bl true) S'
theorem rd_is_plain (ds : List D) (S : Sto) (R : VK3) (hl : ds.length = 1) (h : sp_is_plain ds S R) : r_is_plain sp_is_word sp_is_integer { nx := fun _ S' => R Dz S', rt := R } (start3 n_is_plain ds) S := by
  obtain ⟨v, rfl, hv, h⟩ := h
  show r_is_plain sp_is_word sp_is_integer { nx := fun _ S' => R Dz S', rt := R } [some (.k v)] S
  unfold r_is_plain
  walk_at "rd3"
  cases v with
  | num i =>
    obtain ⟨h0, h9⟩ := of_decide_eq_true hv
    refine ⟨_, rfl, .inr ⟨i, rfl, ?_⟩⟩
    walk_at "rd3"
    refine ⟨_, rfl, ?_⟩
    unfold isIntK
    walk_at "rd3"
    rw [if_pos (decide_eq_true h0), decide_eq_true h9]
    exact h S (Sub.refl S)
  | text x =>
    refine ⟨_, rfl, .inl ⟨x, of_decide_eq_true hv, rfl, fun S' hS => ?_⟩⟩
    walk_at "rd3"
    exact h S' hS
  | _ => cases hv
/-- a value of the menu -/
def valueV : NK → Bool
  | .tup ks => decide (1 ≤ ks.length ∧ ks.length ≤ 4) && ks.all plainV
  | k => plainV k
def sp_is_value : Sp3 := fun ds S R => ∃ v, ds = [.k v] ∧ valueV v = true ∧ ∀ S', Sub S S' → R (.bl true) S'
theorem isA_tup (ks : List NK) : isA (Dt ks) "tuple" = true := rfl
theorem isA_text (x : Str) : isA (.k (.text x)) "tuple" = false := rfl
theorem isA_num (i : Int) : isA (Dn i) "tuple" = false := rfl
theorem rd_is_value (ds : List D) (S : Sto) (R : VK3) (hl : ds.length = 1) (h : sp_is_value ds S R) : r_is_value sp_is_plain { nx := fun _ S' => R Dz S', rt := R } (start3 n_is_value ds) S := by
  obtain ⟨v, rfl, hv, h⟩ := h
  show r_is_value sp_is_plain { nx := fun _ S' => R Dz S', rt := R } [some (.k v), none] S
  unfold r_is_value
  walk_at "rd3"
  refine ⟨by simp, ?_⟩
  cases v with
  | tup ks =>
    unfold valueV at hv
    rw [Bool.and_eq_true, decide_eq_true_eq] at hv
    obtain ⟨⟨l1, l4⟩, ha⟩ := hv
    rw [if_pos (isA_tup ks)]
    walk_at "rd3"
    rw [if_pos (decide_eq_true (by omega)), if_pos (decide_eq_true (by omega))]
    refine lc3_map (S0 := S) (fun _ => some (.bl true)) _ _ _ (Sub.refl S) (fun d hd S1 h1 K L hk _ => ?_) (fun _ _ => trivial) (by rw [List.length_map, List.length_nil]; omega) fun S' hS p hp => ?_
    · obtain ⟨c, hc, rfl⟩ := List.mem_map.mp hd
      exact ⟨rfl, c, rfl, List.all_eq_true.mp ha c hc, fun S' hS => hk _ _ rfl hS⟩
    · refine ⟨List.replicate ks.length true, ?_, ?_⟩
      · rw [put_same, filterMap_some, List.map_map, List.map_replicate]
        exact congrArg (fun l => some (MO.lst l)) (map_const (D.bl true) _ ks fun _ _ => rfl)
      · rw [show (List.replicate ks.length true).all id = true by simp]
        exact h _ (Sub.add hS hp)
  | num i =>
    rw [if_neg (by rw [isA_num]; exact Bool.false_ne_true)]
    exact ⟨_, rfl, hv, h⟩
  | text i =>
    rw [if_neg (by rw [isA_text]; exact Bool.false_ne_true)]
    exact ⟨_, rfl, hv, h⟩
  | none => cases hv
/-- the rank of plain values; of all -/
def sp_rank1 : Sp3 := fun ds S R => ∃ k, ds = [.k k] ∧ isPl k = true ∧ R (.k (rk1 k)) S
theorem rd_rank1 (ds : List D) (S : Sto) (R : VK3) (hl : ds.length = 1) (h : sp_rank1 ds S R) : r_value_rank (fun _ _ _ => False) { nx := fun _ S' => R Dz S', rt := R } (start3 n_value_rank ds) S := by
  obtain ⟨v, rfl, hv, h⟩ := h
  cases v with
  | num i =>
    show r_value_rank (fun _ _ _ => False) { nx := fun _ S' => R Dz S', rt := R } [some (.k (.num i)), none] S
    unfold r_value_rank
    walk_at "rd3"
    refine ⟨by simp, ?_⟩
    rw [if_neg (by rw [isA_num]; exact Bool.false_ne_true)]
    refine ⟨by simp, ?_⟩
    rw [if_neg (show ¬ isA (Dn i) "str" = true by rw [show isA (Dn i) "str" = false from rfl]; exact Bool.false_ne_true)]
    exact ⟨by decide, h⟩
  | text i =>
    show r_value_rank (fun _ _ _ => False) { nx := fun _ S' => R Dz S', rt := R } [some (.k (.text i)), none] S
    unfold r_value_rank
    walk_at "rd3"
    refine ⟨by simp, ?_⟩
    rw [if_neg (by rw [isA_text]; exact Bool.false_ne_true)]
    refine ⟨by simp, ?_⟩
    rw [if_pos (show isA (.k (.text i)) "str" = true from rfl)]
    exact ⟨by decide, h⟩
  | _ => cases hv
theorem rd_rank2 (ds : List D) (S : Sto) (R : VK3) (hl : ds.length = 1) (h : rankSp ds S R) : r_value_rank sp_rank1 { nx := fun _ S' => R Dz S', rt := R } (start3 n_value_rank ds) S := by
  obtain ⟨v, rfl, hv, h⟩ := h
  cases v with
  | num i =>
    show r_value_rank sp_rank1 { nx := fun _ S' => R Dz S', rt := R } [some (.k (.num i)), none] S
    unfold r_value_rank
    walk_at "rd3"
    refine ⟨by simp, ?_⟩
    rw [if_neg (by rw [isA_num]; exact Bool.false_ne_true)]
    refine ⟨by simp, ?_⟩
    rw [if_neg (show ¬ isA (Dn i) "str" = true by rw [show isA (Dn i) "str" = false from rfl]; exact Bool.false_ne_true)]
    exact ⟨by decide, h S (Sub.refl S)⟩
  | text i =>
    show r_value_rank sp_rank1 { nx := fun _ S' => R Dz S', rt := R } [some (.k (.text i)), none] S
    unfold r_value_rank
    walk_at "rd3"
    refine ⟨by simp, ?_⟩
    rw [if_neg (by rw [isA_text]; exact Bool.false_ne_true)]
    refine ⟨by simp, ?_⟩
    rw [if_pos (show isA (.k (.text i)) "str" = true from rfl)]
    exact ⟨by decide, h S (Sub.refl S)⟩
  | tup ks =>
    show r_value_rank sp_rank1 { nx := fun _ S' => R Dz S', rt := R } [some (Dt ks), none] S
    unfold r_value_rank
    walk_at "rd3"
    refine ⟨by simp, ?_⟩
    rw [if_pos (isA_tup ks)]
    refine lc3_map (S0 := S) (fun d => match d with | .k k => some (.k (rk1 k)) | _ => none) _ _ _ (Sub.refl S) (fun d hd S1 h1 K L hk _ => ?_) (fun _ _ => trivial) (by rw [List.length_map, List.length_nil]; have := (rankable_tup hv).2; omega) fun S' hS p hp => ?_
    · obtain ⟨c, hc, rfl⟩ := List.mem_map.mp hd
      exact ⟨rfl, c, rfl, List.all_eq_true.mp (rankable_tup hv).1 c hc, hk _ _ rfl (Sub.refl _)⟩
    · refine ⟨ks.map rk1, ?_, ?_⟩
      · rw [put_same]
        congr 2
        rw [List.nil_append, List.filterMap_map, List.map_map]
        exact filterMap_some (fun k => D.k (rk1 k)) ks
      · refine ⟨by decide, ?_⟩
        exact h _ (Sub.add hS hp)
  | none => cases hv
end L3
/-! ## S2 -/
namespace L3
open PySem PySem.Spec L2
open PyProof.Rows hiding St
set_option hygiene false in
local macro_rules | `(tactic| walk_at "rd3") => `(tactic| simp only [a1, a2, asB, asI, asK, asP, asR, asT, asOwn, cN, cP, gN, gP, iD3, iE3, iL3, iR3, iS3, iT3, iZ3, rAbs3, rAdd3, rAll3, rApp3, rDictP3, rDictZ3, rEq3, rExt3, rI03, rI3, rIn3, rInt3, rIs3, rIsi3, rIx3, rLen3, rList3, rListD3, rListZ3, rMaxL3, rMin23, rMinL3, rNeg3, rPop3, rPopAt3, rRepr3, rSet3, rSl3, rSum3, rTuple3, rTupleW3, rdS, tAnd3, tAndV3, tAsg3, tB3, tBack3, tBreak3, tCall3, tChain3, tCons3, tDict0, tDisp3, tDrop3, tFld3, tFor3, tFst3, tGet3, tIf3, tIfS3, tK, tLc3, tLk3, tLkE3, tLst3, tM0, tM1, tMake3, tMeth3, tNever3, tNext3, tNil3, tNo3, tNot3, tNotV3, tOp3, tOr3, tOrV3, tOwn3, tPairs3, tPar3, tPar33, tRep3, tRet3, tSFld3, tSeq3, tSet3, tSl3, tSm3, tSortK3, tSub3, tT, tTup3, tUn3, tV, tWk3, tYes3, three, two, nks, Option.map, List.getElem?_cons_zero, List.getElem?_cons_succ, List.set_cons_zero, List.set_cons_succ, if_true, if_false, Bool.false_eq_true, ite_true, ite_false, reduceIte, List.length_cons, List.length_nil, Nat.zero_add, Nat.reduceAdd, true_and, and_true])
/-! states -/
abbrev enc (s : List Nat) : NK := .tup (s.map nN)
abbrev dS (s : List Nat) : D := .k (enc s)
def lvls (s : List Nat) (t : Nat) : List (List Nat) := (List.range (t + 1)).map fun l => s ++ [l]
def stepS (f : List (List Nat)) (t : Nat) : List (List Nat) := f.flatMap fun s => lvls s t
def sts (card : List Nat) : List (List Nat) := card.foldl stepS [[]]
def size : List Nat → Nat
  | [] => 1
  | t :: r => (t + 1) * size r
theorem size_pos : ∀ c : List Nat, 1 ≤ size c
  | [] => Nat.le_refl _
  | t :: r => Nat.mul_pos (Nat.succ_pos _) (size_pos r)
theorem lvls_len (s : List Nat) (t : Nat) : (lvls s t).length = t + 1 := by simp [lvls]
theorem stepS_len (f : List (List Nat)) (t : Nat) : (stepS f t).length = f.length * (t + 1) := by
  unfold stepS
  induction f with
  | nil => simp
  | cons a f ih => rw [List.flatMap_cons, List.length_append, ih, lvls_len, List.length_cons, Nat.succ_mul, Nat.add_comm]
theorem fold_len : ∀ (c : List Nat) (f : List (List Nat)), (c.foldl stepS f).length = f.length * size c
  | [], f => by simp [size]
  | t :: r, f => by rw [List.foldl_cons, fold_len r, stepS_len, size, Nat.mul_assoc]
theorem sts_len (c : List Nat) : (sts c).length = size c := by unfold sts; rw [fold_len]; simp
theorem step_depth {f : List (List Nat)} {t n : Nat} (h : ∀ s ∈ f, s.length = n) : ∀ s ∈ stepS f t, s.length = n + 1 := fun s hs => by
  unfold stepS at hs
  obtain ⟨a, ha, hs⟩ := List.mem_flatMap.mp hs
  unfold lvls at hs
  obtain ⟨l, _, rfl⟩ := List.mem_map.mp hs
  rw [List.length_append, h a ha]
  rfl
def encs (f : List (List Nat)) : List D := f.map dS
theorem encs_k (f : List (List Nat)) : encs f = List.map D.k (f.map enc) := by unfold encs; rw [List.map_map]; rfl
def sp_states : Sp3 := fun ds S R => ∃ card : List Nat, ds = [dS card] ∧ card.length ≤ 100 ∧ size card ≤ 1000 ∧ ∀ S', Sub S S' → R (Dt ((sts card).map enc)) S'

theorem states_in {Se : Sto} {D3 : Ends3} {c : D} {f lg : Addr} {t n : Nat} {found : List (List Nat)} (ef : Se f = none) (el : Se lg = none) (ne : f ≠ lg) (ht : t < 1000) (hd : ∀ s ∈ found, s.length = n) (hn : n ≤ 100) (hz : found.length * (t + 1) ≤ 1000) :
    ∀ (rest acc : List (List Nat)) (a b : Option D) (S : Sto), (∀ s ∈ rest, s ∈ found) → acc.length + rest.length * (t + 1) ≤ 1000 → Sub Se S → S f = some (.lst (encs found)) → S lg = some (.lst (encs acc)) →
      (∀ a b S', Sub Se S' → S' f = some (.lst (encs found)) → S' lg = some (.lst (encs (acc ++ stepS rest t))) → D3.nx [some c, some (.ref f), some (Dn t), some (.ref lg), a, b] S') →
      for3 (gN 4) r_states_2 (fun S => S f = some (.lst (encs found))) D3 (encs rest) [some c, some (.ref f), some (Dn t), some (.ref lg), a, b] S
  | [], acc, a, b, S, _, _, hS, hf, hl, hk => ⟨hf, hk a b S hS hf (by simpa [stepS] using hl)⟩
  | s :: rest, acc, a, b, S, hm, hb, hS, hf, hl, hk => by
    rw [List.length_cons, Nat.succ_mul] at hb
    refine ⟨hf, ?_⟩
    show r_states_2 _ [some c, some (.ref f), some (Dn t), some (.ref lg), some (dS s), b] S
    unfold r_states_2
    walk_at "rd3"
    refine ⟨⟨_, hl⟩, by omega, by omega, ?_⟩
    have tn : ((t : Int) + 1).toNat = t + 1 := by omega
    rw [tn]
    refine lc3_map (S0 := S) (fun d => match d with | .k (.num i) => some (dS (s ++ [i.toNat])) | _ => none) _ _ _ (Sub.refl S) (fun d hd' S1 h1 K L hk' _ => ?_) (fun _ _ => trivial) (by simp [rangeD]; omega) fun S' hS' p hp => ?_
    · obtain ⟨i, hi, rfl⟩ := List.mem_map.mp hd'
      have e : (NestedKey.tup (s.map nN ++ [.num (i : Int)])) = enc (s ++ [((i : Int)).toNat]) := by simp
      have ls : s.length = n := hd s (hm s List.mem_cons_self)
      walk_at "rd3"
      refine ⟨by decide, by rw [List.length_map, ls]; omega, ?_⟩
      rw [show Dt (List.map nN s ++ [NestedKey.num (i : Int)]) = dS (s ++ [((i : Int)).toNat]) from congrArg D.k e]
      exact hk' _ S1 rfl (Sub.refl _)
    · have nl : lg ≠ p := fun z => by rw [← z, hS' lg _ hl] at hp; cases hp
      have nf : f ≠ p := fun z => by rw [← z, hS' f _ hf] at hp; cases hp
      have new : [] ++ List.filterMap (fun d => match d with | .k (.num i) => some (dS (s ++ [i.toNat])) | _ => none) (rangeD (t + 1)) = encs (lvls s t) := by
        unfold rangeD encs lvls
        rw [List.nil_append, List.filterMap_map, List.map_map]
        exact (filterMap_some (fun i : Nat => dS (s ++ [((i : Int)).toNat])) (List.range (t + 1))).trans (by simp)
      rw [new]
      refine ⟨_, _, by rw [put_ne nl]; exact hS' lg _ hl, put_same, by unfold encs; rw [List.length_map, List.length_map, lvls_len]; omega, ?_⟩
      have cat : encs acc ++ encs (lvls s t) = encs (acc ++ lvls s t) := by unfold encs; rw [List.map_append]
      rw [cat]
      refine states_in ef el ne ht hd hn hz rest (acc ++ lvls s t) _ _ _ (fun x hx => hm x (List.mem_cons_of_mem _ hx)) (by rw [List.length_append, lvls_len]; omega) (Sub.over (Sub.add (hS.trans hS') hp) el) (by rw [put_ne ne, put_ne nf]; exact hS' f _ hf) put_same fun a b S2 h2 hf2 hl2 => ?_
      refine hk a b S2 h2 hf2 ?_
      rw [hl2]
      unfold stepS
      rw [List.flatMap_cons, List.append_assoc]
theorem states_out {Se : Sto} {D3 : Ends3} {c : D} : ∀ (rest : List Nat) (found : List (List Nat)) (n : Nat) (f : Addr) (x1 x2 x3 x4 : Option D) (S : Sto), 1 ≤ found.length → Se f = none → (∀ s ∈ found, s.length = n) → n + rest.length ≤ 100 → found.length * size rest ≤ 1000 → Sub Se S → S f = some (.lst (encs found)) →
      (∀ f x1 x2 x3 x4 S', Sub Se S' → S' f = some (.lst (encs (rest.foldl stepS found))) → D3.nx [some c, some (.ref f), x1, x2, x3, x4] S') →
      for3 (gN 2) r_states_1 (fun _ => True) D3 (List.map D.k (rest.map nN)) [some c, some (.ref f), x1, x2, x3, x4] S
  | [], found, n, f, x1, x2, x3, x4, S, _, _, _, _, _, hS, hf, hk => ⟨trivial, hk f x1 x2 x3 x4 S hS hf⟩
  | t :: rest, found, n, f, x1, x2, x3, x4, S, h1, ef, hd, hn, hz, hS, hf, hk => by
    refine ⟨trivial, ?_⟩
    have sp := size_pos rest
    rw [size] at hz
    rw [List.length_cons] at hn
    have hz2 : found.length * (t + 1) ≤ 1000 := Nat.le_trans (Nat.le_mul_of_pos_right _ sp) (by rw [Nat.mul_assoc]; exact hz)
    show r_states_1 _ [some c, some (.ref f), some (Dn t), x2, x3, x4] S
    unfold r_states_1
    walk_at "rd3"
    refine ⟨by decide, fun lg hlg => ?_⟩
    have ne : f ≠ lg := fun z => by rw [← z, hf] at hlg; cases hlg
    have el : Se lg = none := Sub.gone hS hlg
    refine ⟨encs found, by rw [put_ne ne]; exact hf, ?_⟩
    have t1000 : t < 1000 := by
      have := Nat.le_trans (Nat.mul_le_mul_right (t + 1) h1) hz2
      omega
    refine states_in (Se := Se) (c := c) ef el ne t1000 hd (by omega) hz2 found [] x3 x4 (put S lg (.lst [])) (fun _ h => h) (by simpa using hz2) (Sub.add hS hlg) (by rw [put_ne ne]; exact hf) put_same fun a b S' hS' hf' hl' => ?_
    walk_at "rd3"
    refine ⟨_, hl', fun q hq => ?_⟩
    refine states_out rest (stepS found t) (n + 1) q _ _ _ _ _ (by rw [stepS_len]; exact Nat.mul_pos h1 (Nat.succ_pos _)) (Sub.gone hS' hq) (step_depth hd) (by omega) (by rw [stepS_len, Nat.mul_assoc]; exact hz) (Sub.add hS' hq) (by rw [put_same]; rfl) fun f x1 x2 x3 x4 S2 h2 hf2 => hk f x1 x2 x3 x4 S2 h2 hf2
theorem rd_states (ds : List D) (S : Sto) (R : VK3) (hl : ds.length = 1) (h : sp_states ds S R) : r_states { nx := fun _ S' => R Dz S', rt := R } (start3 n_states ds) S := by
  obtain ⟨card, rfl, hc, hz, h⟩ := h
  show r_states _ [some (dS card), none, none, none, none, none] S
  unfold r_states
  walk_at "rd3"
  refine ⟨by decide, by decide, fun f hf => ?_⟩
  refine states_out (Se := S) card [[]] 0 f _ _ _ _ _ (by decide) hf (by simp) (by omega) (by simpa using hz) (Sub.add (Sub.refl S) hf) put_same fun f x1 x2 x3 x4 S' hS hf' => ?_
  walk_at "rd3"
  exact ⟨_, by rw [hf', encs_k]; rfl, h S' hS⟩
end L3
/-! ## S3 -/
namespace L3
open PySem PySem.Spec L2
open PyProof.Rows hiding St
set_option hygiene false in
local macro_rules | `(tactic| walk_at "rd3") => `(tactic| simp only [a1, a2, asB, asI, asK, asP, asR, asT, asOwn, cN, cP, gN, gP, iD3, iE3, iL3, iR3, iS3, iT3, iZ3, rAbs3, rAdd3, rAll3, rApp3, rDictP3, rDictZ3, rEq3, rExt3, rI03, rI3, rIn3, rInt3, rIs3, rIsi3, rIx3, rLen3, rList3, rListD3, rListZ3, rMaxL3, rMin23, rMinL3, rNeg3, rPop3, rPopAt3, rRepr3, rSet3, rSl3, rSum3, rTuple3, rTupleW3, rdS, tAnd3, tAndV3, tAsg3, tB3, tBack3, tBreak3, tCall3, tChain3, tCons3, tDict0, tDisp3, tDrop3, tFld3, tFor3, tFst3, tGet3, tIf3, tIfS3, tK, tLc3, tLk3, tLkE3, tLst3, tM0, tM1, tMake3, tMeth3, tNever3, tNext3, tNil3, tNo3, tNot3, tNotV3, tOp3, tOr3, tOrV3, tOwn3, tPairs3, tPar3, tPar33, tRep3, tRet3, tSFld3, tSeq3, tSet3, tSl3, tSm3, tSortK3, tSub3, tT, tTup3, tUn3, tV, tWk3, tYes3, three, two, nks, Option.map, List.getElem?_cons_zero, List.getElem?_cons_succ, List.set_cons_zero, List.set_cons_succ, if_true, if_false, Bool.false_eq_true, ite_true, ite_false, reduceIte, List.length_cons, List.length_nil, Nat.zero_add, Nat.reduceAdd, true_and, and_true])
/-! is_state, place_of, label -/
def Val : List Nat → List Nat → Prop
  | [], [] => True
  | t :: c, l :: s => l ≤ t ∧ Val c s
  | _, _ => False
theorem Val.len : ∀ {c s : List Nat}, Val c s → s.length = c.length
  | [], [], _ => rfl
  | t :: c, l :: s, h => by rw [List.length_cons, List.length_cons, Val.len h.2]
  | [], _ :: _, h => h.elim
  | _ :: _, [], h => h.elim
def sp_is_state : Sp3 := fun ds S R => ∃ card s : List Nat, ds = [dS card, dS s] ∧ Val card s ∧ card.length ≤ 100 ∧ ∀ S', Sub S S' → R (.bl true) S'
theorem zip_val : ∀ {c s : List Nat}, Val c s → ∀ d ∈ zipD (s.map nN) (c.map nN), ∃ l t : Nat, d = Dt [nN l, nN t] ∧ l ≤ t
  | [], [], _, d, h => by simp [zipD] at h
  | t :: c, l :: s, hv, d, h => by
    unfold zipD at h
    rw [List.map_cons, List.map_cons, List.zip_cons_cons, List.map_cons] at h
    rcases List.mem_cons.mp h with rfl | h
    · exact ⟨l, t, rfl, hv.1⟩
    · exact zip_val hv.2 d h
  | [], _ :: _, h, _, _ => h.elim
  | _ :: _, [], h, _, _ => h.elim
theorem rd_is_state (ds : List D) (S : Sto) (R : VK3) (hl : ds.length = 2) (h : sp_is_state ds S R) : r_is_state sp_is_integer { nx := fun _ S' => R Dz S', rt := R } (start3 n_is_state ds) S := by
  obtain ⟨card, s, rfl, hv, hc, h⟩ := h
  show r_is_state sp_is_integer _ [some (dS card), some (dS s), none, none] S
  unfold r_is_state
  walk_at "rd3"
  have e1 : isA (dS s) "tuple" = true := rfl
  have ls : (s.map nN).length = (card.map nN).length := by simp [hv.len]
  refine ⟨by simp, ?_⟩
  rw [e1, ls]
  simp only [Bool.not_true, Bool.false_eq_true, if_false]
  refine ⟨rfl, ?_⟩
  simp only [decide_true, Bool.not_true, Bool.false_eq_true, if_false]
  have zl : (zipD (s.map nN) (card.map nN)).length ≤ 100 := by rw [zipD_len, ls, Nat.min_self, List.length_map]; exact hc
  refine lc3_map (S0 := S) (fun _ => some (.bl true)) _ _ _ (Sub.refl S) (fun d hd S1 h1 K L hk _ => ?_) (fun _ _ => trivial) (by rw [List.length_nil]; omega) fun S' hS p hp => ?_
  · obtain ⟨l, t, rfl, hlt⟩ := zip_val hv d hd
    walk_at "rd3"
    refine ⟨_, rfl, ?_⟩
    unfold isIntK
    walk_at "rd3"
    rw [if_pos (decide_eq_true (by omega)), decide_eq_true (by omega)]
    exact hk _ _ rfl (Sub.refl _)
  · refine ⟨List.replicate (zipD (s.map nN) (card.map nN)).length true, ?_, ?_⟩
    · rw [put_same, filterMap_some, List.map_replicate]
      exact congrArg (fun l => some (MO.lst l)) (map_const (D.bl true) _ _ fun _ _ => rfl)
    · rw [show (List.replicate (zipD (s.map nN) (card.map nN)).length true).all id = true by simp]
      exact h _ (Sub.add hS hp)
def place : List Nat → List Nat → Nat → Nat
  | t :: c, l :: s, p => place c s (p * (t + 1) + l)
  | _, _, p => p
def sp_place_of : Sp3 := fun ds S R => ∃ card s : List Nat, ds = [dS card, dS s] ∧ Val card s ∧ card.length ≤ 100 ∧ (∀ t ∈ card, t ≤ 1000) ∧ ∀ S', Sub S S' → R (Dn (place card s 0)) S'
theorem mul_small {i j : Int} (h0 : 0 ≤ j) (h : j ≤ 1001) : IntMulOk i j := CMul.ok (.inr ⟨by omega, by omega⟩)
theorem zipD_cons (a b : NK) (as bs : List NK) : zipD (a :: as) (b :: bs) = Dt [a, b] :: zipD as bs := rfl
theorem place_turn {D3 : Ends3} {a b : D} {sp : Sp3} {p t l : Nat} {x y : Option D} {S : Sto} {F : Sd → Sto → Prop} (h1 : t ≤ 1000) (h : F [some a, some b, some (Dn (p * (t + 1) + l : Nat)), some (Dn l), some (Dn t)] S) :
    r_place_of_1 sp { D3 with nx := F, ct := F, bk := D3.nx } (([some a, some b, some (Dn p), x, y].set 3 (some (.k (nN l)))).set 4 (some (.k (nN t)))) S := by
  unfold r_place_of_1
  walk_at "rd3"
  refine ⟨mul_small (by omega) (by omega), ?_⟩
  have e : (p : Int) * ((t : Int) + 1) + (l : Int) = ((p * (t + 1) + l : Nat) : Int) := by push_cast; rfl
  rw [e]
  exact h
theorem place_loop {D3 : Ends3} {a b : D} {sp : Sp3} : ∀ (card s : List Nat) (p : Nat) (x y : Option D) (S : Sto), Val card s → (∀ t ∈ card, t ≤ 1000) → (∀ x y, D3.nx [some a, some b, some (Dn (place card s p)), x, y] S) →
    for3 (gP 3 4) (r_place_of_1 sp) (fun _ => True) D3 (zipD (s.map nN) (card.map nN)) [some a, some b, some (Dn p), x, y] S
  | [], [], p, x, y, S, _, _, hk => for3_nil.mpr ⟨trivial, hk x y⟩
  | t :: card, l :: s, p, x, y, S, hv, ht, hk => by
    have h1 : t ≤ 1000 := ht t List.mem_cons_self
    rw [List.map_cons, List.map_cons, zipD_cons, for3_P]
    refine ⟨trivial, ?_⟩
    have ih := place_loop (D3 := D3) (a := a) (b := b) (sp := sp) card s (p * (t + 1) + l) (some (Dn l)) (some (Dn t)) S hv.2 (fun t h => ht t (List.mem_cons_of_mem _ h)) hk
    exact place_turn h1 ih
  | [], _ :: _, _, _, _, _, h, _, _ => h.elim
  | _ :: _, [], _, _, _, _, h, _, _ => h.elim
theorem rd_place_of (ds : List D) (S : Sto) (R : VK3) (hl : ds.length = 2) (h : sp_place_of ds S R) : r_place_of sp_is_state { nx := fun _ S' => R Dz S', rt := R } (start3 n_place_of ds) S := by
  obtain ⟨card, s, rfl, hv, hc, ht, h⟩ := h
  show r_place_of sp_is_state _ [some (dS card), some (dS s), none, none, none] S
  unfold r_place_of
  walk_at "rd3"
  refine ⟨card, s, rfl, hv, hc, fun S1 h1 => ?_⟩
  walk_at "rd3"
  simp only [Bool.not_true, Bool.false_eq_true, if_false]
  exact place_loop card s 0 _ _ S1 hv ht fun x y => h S1 h1
theorem step_at {f : List (List Nat)} {t l : Nat} {pre : List Nat} (hl : l ≤ t) : ∀ {p : Nat}, f[p]? = some pre → (stepS f t)[p * (t + 1) + l]? = some (pre ++ [l]) := by
  unfold stepS
  induction f with
  | nil => intro p h; simp at h
  | cons a f ih =>
    intro p h
    rw [List.flatMap_cons]
    cases p with
    | zero =>
      cases h
      rw [Nat.zero_mul, Nat.zero_add, List.getElem?_append_left (by rw [lvls_len]; omega)]
      unfold lvls
      rw [List.getElem?_map, List.getElem?_range (by omega)]
      rfl
    | succ p =>
      have e : (p + 1) * (t + 1) + l = (lvls a t).length + (p * (t + 1) + l) := by rw [lvls_len, Nat.succ_mul]; omega
      rw [e, List.getElem?_append_right (Nat.le_add_right _ _), Nat.add_sub_cancel_left]
      exact ih (by simpa using h)
theorem place_at : ∀ (card s : List Nat) (f : List (List Nat)) (p : Nat) (pre : List Nat), Val card s → f[p]? = some pre → (card.foldl stepS f)[place card s p]? = some (pre ++ s)
  | [], [], f, p, pre, _, h => by simpa [place] using h
  | t :: c, l :: s, f, p, pre, hv, h => by
    have := place_at c s (stepS f t) (p * (t + 1) + l) (pre ++ [l]) hv.2 (step_at hv.1 h)
    rw [List.foldl_cons, place]
    simpa using this
  | [], _ :: _, _, _, _, h, _ => h.elim
  | _ :: _, [], _, _, _, h, _ => h.elim
theorem sts_at {card s : List Nat} (h : Val card s) : (sts card)[place card s 0]? = some s := place_at card s [[]] 0 [] h rfl
end L3
/-! ## S4 -/
namespace L3
open PySem PySem.Spec L2
open PyProof.Rows hiding St
set_option hygiene false in
local macro_rules | `(tactic| walk_at "rd3") => `(tactic| simp only [a1, a2, asB, asI, asK, asP, asR, asT, asOwn, cN, cP, gN, gP, iD3, iE3, iL3, iR3, iS3, iT3, iZ3, rAbs3, rAdd3, rAll3, rApp3, rDictP3, rDictZ3, rEq3, rExt3, rI03, rI3, rIn3, rInt3, rIs3, rIsi3, rIx3, rLen3, rList3, rListD3, rListZ3, rMaxL3, rMin23, rMinL3, rNeg3, rPop3, rPopAt3, rRepr3, rSet3, rSl3, rSum3, rTuple3, rTupleW3, rdS, tAnd3, tAndV3, tAsg3, tB3, tBack3, tBreak3, tCall3, tChain3, tCons3, tDict0, tDisp3, tDrop3, tFld3, tFor3, tFst3, tGet3, tIf3, tIfS3, tK, tLc3, tLk3, tLkE3, tLst3, tM0, tM1, tMake3, tMeth3, tNever3, tNext3, tNil3, tNo3, tNot3, tNotV3, tOp3, tOr3, tOrV3, tOwn3, tPairs3, tPar3, tPar33, tRep3, tRet3, tSFld3, tSeq3, tSet3, tSl3, tSm3, tSortK3, tSub3, tT, tTup3, tUn3, tV, tWk3, tYes3, three, two, nks, Option.map, List.getElem?_cons_zero, List.getElem?_cons_succ, List.set_cons_zero, List.set_cons_succ, if_true, if_false, Bool.false_eq_true, ite_true, ite_false, reduceIte, List.length_cons, List.length_nil, Nat.zero_add, Nat.reduceAdd, true_and, and_true])
/-! label, unlike_values, values_of -/
theorem atI_nat {α : Type} (xs : List α) (n : Nat) : atI xs (n : Int) = xs[n]? := by
  unfold atI ixN
  rw [if_pos (by omega)]
  split
  · rename_i h
    simp
  · rename_i h
    have : xs.length ≤ n := by omega
    simp [this]
theorem atI_last {α : Type} (xs : List α) (h : xs ≠ []) : atI xs (-1) = xs[xs.length - 1]? := by
  have : 0 < xs.length := List.length_pos_iff.mpr h
  unfold atI ixN
  rw [if_neg (by omega), if_pos (by omega)]
  simp
  congr 1
  omega
abbrev codeD (card : List Nat) (labs : List NK) : D := Dt [enc card, .tup labs]
def lab (card : List Nat) (labs : List NK) (s : List Nat) : NK := (labs[place card s 0]?).getD .none
def sp_label : Sp3 := fun ds S R => ∃ (card s : List Nat) (labs : List NK), ds = [codeD card labs, dS s] ∧ Val card s ∧ card.length ≤ 100 ∧ (∀ t ∈ card, t ≤ 1000) ∧ labs.length = size card ∧ ∀ S', Sub S S' → R (.k (lab card labs s)) S'
theorem labs_at {card s : List Nat} {labs : List NK} (h : Val card s) (hl : labs.length = size card) : labs[place card s 0]? = some (lab card labs s) := by
  have h1 := (List.getElem?_eq_some_iff.mp (sts_at h)).1
  rw [sts_len, ← hl] at h1
  unfold lab
  rw [List.getElem?_eq_getElem h1]
  rfl
theorem rd_label (ds : List D) (S : Sto) (R : VK3) (hl : ds.length = 2) (h : sp_label ds S R) : r_label sp_place_of { nx := fun _ S' => R Dz S', rt := R } (start3 n_label ds) S := by
  obtain ⟨card, s, labs, rfl, hv, hc, ht, hn, h⟩ := h
  show r_label sp_place_of _ [some (codeD card labs), some (dS s), none, none] S
  unfold r_label
  walk_at "rd3"
  refine ⟨card, s, rfl, hv, hc, ht, fun S' hS => ⟨_, ?_, h S' hS⟩⟩
  rw [atI_nat, labs_at hv hn]
/-- what labels a code may have -/
def labOk (v : NK) : Prop := v = .none ∨ valueV v = true
theorem plain_pl {v : NK} (h : plainV v = true) : isPl v = true := by cases v <;> simp [plainV] at h <;> rfl
theorem value_rankable {v : NK} (h : valueV v = true) : rankable v = true := by
  cases v with
  | tup ks =>
    unfold valueV at h
    rw [Bool.and_eq_true, decide_eq_true_eq] at h
    rw [rankable, Bool.and_eq_true, decide_eq_true_eq]
    refine ⟨List.all_eq_true.mpr fun k hk => plain_pl (List.all_eq_true.mp h.2 k hk), by omega⟩
  | num i => rfl
  | text i => rfl
  | none => cases h
theorem plain_depth {v : NK} (h : plainV v = true) : v.depth = 0 := by cases v <;> simp [plainV] at h <;> rfl
theorem value_depth {v : NK} (h : valueV v = true) : v.depth ≤ 1 := by
  cases v with
  | tup ks =>
    unfold valueV at h
    rw [Bool.and_eq_true] at h
    rw [NestedKey.depth]
    have : NestedKey.depthAll ks = 0 := by
      have g : ∀ l : List NK, (∀ k ∈ l, plainV k = true) → NestedKey.depthAll l = 0 := by
        intro l
        induction l with
        | nil => intro _; rfl
        | cons a l ih => intro hl; rw [NestedKey.depthAll, plain_depth (hl a List.mem_cons_self), ih fun k hk => hl k (List.mem_cons_of_mem _ hk)]; rfl
      exact g ks fun k hk => List.all_eq_true.mp h.2 k hk
    omega
  | _ => simp [NestedKey.depth]
/-- what dict and sorted leave of labels: each label once -/
def Uniq (labs vs : List NK) : Prop := vs.Nodup ∧ (∀ v, v ∈ vs ↔ v ∈ labs ∧ v ≠ .none)
def sp_unlike : Sp3 := fun ds S R => ∃ labs : List NK, ds = [Dt labs] ∧ labs.length ≤ 1000 ∧ (∀ v ∈ labs, labOk v) ∧ ∀ vs S', Uniq labs vs → Sub S S' → R (Dt vs) S'
theorem dput_nodup {α : Type} {kvs : List (NK × α)} (h : (kvs.map (·.1)).Nodup) (k : NK) (v : α) : ((dput kvs k v).map (·.1)).Nodup ∧ ∀ x, x ∈ (dput kvs k v).map (·.1) ↔ x = k ∨ x ∈ kvs.map (·.1) := by
  unfold dput
  split
  · rename_i hk
    obtain ⟨p, hp, e⟩ := List.any_eq_true.mp hk
    have e' : p.1 = k := of_decide_eq_true e
    have keys : (kvs.map fun p => if p.1 = k then (p.1, v) else p).map (·.1) = kvs.map (·.1) := by
      rw [List.map_map]
      refine List.map_congr_left fun x _ => ?_
      show (if x.1 = k then (x.1, v) else x).1 = x.1
      split <;> rfl
    rw [keys]
    refine ⟨h, fun x => ⟨.inr, fun hx => ?_⟩⟩
    rcases hx with rfl | hx
    · rw [← e']; exact List.mem_map_of_mem hp
    · exact hx
  · rename_i hk
    have hn : k ∉ kvs.map (·.1) := fun hm => by
      obtain ⟨p, hp, e⟩ := List.mem_map.mp hm
      exact hk (List.any_eq_true.mpr ⟨p, hp, decide_eq_true e⟩)
    rw [List.map_append]
    refine ⟨?_, fun x => ?_⟩
    · rw [List.nodup_append]
      refine ⟨h, by simp, fun a ha b hb => ?_⟩
      simp only [List.map_cons, List.map_nil, List.mem_singleton] at hb
      subst hb
      exact fun z => hn (z ▸ ha)
    · simp only [List.map_cons, List.map_nil, List.mem_append, List.mem_singleton]
      exact Or.comm
theorem dputs_keys {α : Type} : ∀ (ps kvs : List (NK × α)), (kvs.map (·.1)).Nodup → ((dputs kvs ps).map (·.1)).Nodup ∧ ∀ x, x ∈ (dputs kvs ps).map (·.1) ↔ x ∈ kvs.map (·.1) ∨ x ∈ ps.map (·.1)
  | [], kvs, h => ⟨h, fun x => by simp [dputs]⟩
  | p :: ps, kvs, h => by
    obtain ⟨a1, a2⟩ := dput_nodup h p.1 p.2
    obtain ⟨b1, b2⟩ := dputs_keys ps (dput kvs p.1 p.2) a1
    refine ⟨b1, fun x => ?_⟩
    show x ∈ (dputs (dput kvs p.1 p.2) ps).map (·.1) ↔ _
    rw [b2, a2, List.map_cons, List.mem_cons]
    constructor
    · rintro ((h | h) | h)
      · exact .inr (.inl h)
      · exact .inl h
      · exact .inr (.inr h)
    · rintro (h | h | h)
      · exact .inl (.inr h)
      · exact .inl (.inl h)
      · exact .inr h
theorem dputs_len {α : Type} : ∀ (ps kvs : List (NK × α)), (dputs kvs ps).length ≤ kvs.length + ps.length
  | [], kvs => Nat.le_refl _
  | p :: ps, kvs => by
    have h1 := dputs_len ps (dput kvs p.1 p.2)
    have h2 : (dput kvs p.1 p.2).length ≤ kvs.length + 1 := by unfold dput; split <;> simp
    show (dputs (dput kvs p.1 p.2) ps).length ≤ _
    rw [List.length_cons]
    omega
theorem pairs_pr (b : Bool) : ∀ L : List NK, asPairs (L.map fun k => D.pr k b) = some (L.map fun k => (k, D.bl b))
  | [] => rfl
  | k :: L => by rw [List.map_cons, asPairs, pairs_pr b L]; rfl
def notNone : NK → Bool
  | .none => false
  | _ => true
theorem notNone_iff (k : NK) : notNone k = true ↔ k ≠ .none := by cases k <;> simp [notNone]
theorem filter_pr : ∀ labs : List NK, (labs.map D.k).filterMap (fun d => match d with | .k .none => none | .k k => some (D.pr k true) | _ => none) = (labs.filter notNone).map fun k => D.pr k true
  | [] => rfl
  | k :: labs => by
    rw [List.map_cons, List.filterMap_cons, filter_pr labs, List.filter_cons]
    cases k <;> rfl
theorem rd_unlike (ds : List D) (S : Sto) (R : VK3) (hl : ds.length = 1) (h : sp_unlike ds S R) : r_unlike_values { nx := fun _ S' => R Dz S', rt := R } (start3 n_unlike_values ds) S := by
  obtain ⟨labs, rfl, hn, hv, h⟩ := h
  show r_unlike_values _ [some (Dt labs), none, none] S
  unfold r_unlike_values
  walk_at "rd3"
  refine lc3_map (S0 := S) (fun d => match d with | .k .none => none | .k k => some (.pr k true) | _ => none) _ _ _ (Sub.refl S) (fun d hd S1 h1 K L hk hL => ?_) (fun _ _ => trivial) (by rw [List.length_map, List.length_nil]; omega) fun S' hS p hp => ?_
  · obtain ⟨c, hc, rfl⟩ := List.mem_map.mp hd
    walk_at "rd3"
    refine ⟨rfl, ?_⟩
    cases c with
    | none => exact hL S1 rfl (Sub.refl _)
    | _ => exact ⟨by decide, hk _ S1 rfl (Sub.refl _)⟩
  · rw [List.nil_append, filter_pr]
    refine ⟨_, _, put_same, pairs_pr true _, fun q hq => ?_, fun d hd => ?_⟩
    · obtain ⟨k, hk, rfl⟩ := List.mem_map.mp hq
      obtain ⟨hk1, hk2⟩ := List.mem_filter.mp hk
      rcases hv k hk1 with rfl | hv
      · cases hk2
      · exact Nat.le_trans (value_depth hv) (by decide)
    · refine ⟨_, _, put_same, fun l hl' => ?_⟩
      obtain ⟨nd, mem⟩ := dputs_keys ((labs.filter notNone).map fun k => (k, D.bl true)) [] List.nodup_nil
      have len := dputs_len ((labs.filter notNone).map fun k => (k, D.bl true)) []
      generalize hg : dputs [] ((labs.filter notNone).map fun k => (k, D.bl true)) = g at nd mem len hl' ⊢
      have mem' : ∀ x, x ∈ g.map (·.1) ↔ x ∈ labs ∧ x ≠ .none := fun x => by
        rw [mem, List.map_map]
        show x ∈ [] ∨ x ∈ (labs.filter notNone).map (fun k => k) ↔ _
        rw [List.map_id', List.mem_filter, notNone_iff]
        simp
      have fl := List.length_filter_le notNone labs
      refine ⟨g.map (·.1), by rw [put_same, List.map_map]; rfl, fun k hk => ?_, ?_, fun out po q hq => ?_⟩
      · obtain ⟨hk1, hk2⟩ := (mem' k).mp hk
        rcases hv k hk1 with rfl | hv
        · exact absurd rfl hk2
        · exact value_rankable hv
      · rw [List.length_map, List.length_nil] at len
        rw [List.length_map]
        omega
      · refine ⟨out, put_same, ?_⟩
        refine h out _ ⟨po.nodup_iff.mpr nd, fun v => by rw [po.mem_iff]; exact mem' v⟩ ?_
        refine Sub.add (Sub.add (Sub.add (Sub.add hS hp) hd) hl') hq
def sp_values_of : Sp3 := fun ds S R => ∃ (c : NK) (labs : List NK), ds = [Dt [c, .tup labs]] ∧ labs.length ≤ 1000 ∧ (∀ v ∈ labs, labOk v) ∧ ∀ vs S', Uniq labs vs → Sub S S' → R (Dt vs) S'
theorem rd_values_of (ds : List D) (S : Sto) (R : VK3) (hl : ds.length = 1) (h : sp_values_of ds S R) : r_values_of sp_unlike { nx := fun _ S' => R Dz S', rt := R } (start3 n_values_of ds) S := by
  obtain ⟨c, labs, rfl, hn, hv, h⟩ := h
  show r_values_of sp_unlike _ [some (Dt [c, .tup labs])] S
  unfold r_values_of
  walk_at "rd3"
  exact ⟨.tup labs, by rfl, labs, rfl, hn, hv, h⟩
end L3
/-! ## S5 -/
namespace L3
open PySem PySem.Spec L2
open PyProof.Rows hiding St
set_option hygiene false in
local macro_rules | `(tactic| walk_at "rd3") => `(tactic| simp only [a1, a2, asB, asI, asK, asP, asR, asT, asOwn, cN, cP, gN, gP, iD3, iE3, iL3, iR3, iS3, iT3, iZ3, rAbs3, rAdd3, rAll3, rApp3, rDictP3, rDictZ3, rEq3, rExt3, rI03, rI3, rIn3, rInt3, rIs3, rIsi3, rIx3, rLen3, rList3, rListD3, rListZ3, rMaxL3, rMin23, rMinL3, rNeg3, rPop3, rPopAt3, rRepr3, rSet3, rSl3, rSum3, rTuple3, rTupleW3, rdS, tAnd3, tAndV3, tAsg3, tB3, tBack3, tBreak3, tCall3, tChain3, tCons3, tDict0, tDisp3, tDrop3, tFld3, tFor3, tFst3, tGet3, tIf3, tIfS3, tK, tLc3, tLk3, tLkE3, tLst3, tM0, tM1, tMake3, tMeth3, tNever3, tNext3, tNil3, tNo3, tNot3, tNotV3, tOp3, tOr3, tOrV3, tOwn3, tPairs3, tPar3, tPar33, tRep3, tRet3, tSFld3, tSeq3, tSet3, tSl3, tSm3, tSortK3, tSub3, tT, tTup3, tUn3, tV, tWk3, tYes3, three, two, nks, Option.map, List.getElem?_cons_zero, List.getElem?_cons_succ, List.set_cons_zero, List.set_cons_succ, if_true, if_false, Bool.false_eq_true, ite_true, ite_false, reduceIte, List.length_cons, List.length_nil, Nat.zero_add, Nat.reduceAdd, true_and, and_true])
/-! above -/
def upsAux : List Nat → List Nat → List Nat → List (Nat × List Nat)
  | pre, t :: c, l :: s => (if l < t then [(pre.length, pre ++ (l + 1) :: s)] else []) ++ upsAux (pre ++ [l]) c s
  | _, _, _ => []
def rais (card s : List Nat) : List (Nat × List Nat) := upsAux [] card s
abbrev upK (p : Nat × List Nat) : NK := .tup [nN p.1, enc p.2]
def sp_above : Sp3 := fun ds S R => ∃ card s : List Nat, ds = [dS card, dS s] ∧ Val card s ∧ card.length ≤ 100 ∧ ∀ q S', S q = none → Sub S S' → S' q = some (.lst (List.map D.k ((rais card s).map upK))) → R (.ref q) S'
theorem cut_to {α : Type} (xs ys : List α) : cut (xs ++ ys) none (some (xs.length : Int)) = xs := by
  unfold cut
  rw [HT.sIx_nat, HT.sIx_none]
  simp
theorem cut_from {α : Type} (xs ys : List α) : cut (xs ++ ys) (some (xs.length : Int)) none = ys := by
  unfold cut
  rw [HT.sIx_nat, HT.sIx_none]
  simp
theorem upsAux_len : ∀ (c s pre : List Nat), (upsAux pre c s).length ≤ c.length
  | [], _, _ => by simp [upsAux]
  | _ :: _, [], _ => by simp [upsAux]
  | t :: c, l :: s, pre => by
    have := upsAux_len c s (pre ++ [l])
    rw [upsAux, List.length_append, List.length_cons]
    split <;> simp <;> omega
def enumFrom (n : Nat) (ks : List NK) : List D := (ks.zipIdx n).map fun p => Dt [.num (p.2 : Int), p.1]
theorem enumFrom_cons (n : Nat) (k : NK) (ks : List NK) : enumFrom n (k :: ks) = Dt [.num (n : Int), k] :: enumFrom (n + 1) ks := rfl
theorem above_turn {D3 : Ends3} {cpre c pre s : List Nat} {t l : Nat} {q : Addr} {acc : List NK} {x y : Option D} {S : Sto} {F : Sd → Sto → Prop} (hl : cpre.length = pre.length) (hp : pre.length + s.length < 1000) (hq : S q = some (.lst (List.map D.k acc))) (ha : acc.length < 1000)
    (h : ∀ S', (∀ b, b ≠ q → S' b = S b) → S' q = some (.lst (List.map D.k (acc ++ if l < t then [upK (pre.length, pre ++ (l + 1) :: s)] else []))) → F [some (dS (cpre ++ t :: c)), some (dS (pre ++ l :: s)), some (.ref q), some (Dn (pre.length : Nat)), some (Dn l)] S') :
    r_above_1 { D3 with nx := F, ct := F, bk := D3.nx } (([some (dS (cpre ++ t :: c)), some (dS (pre ++ l :: s)), some (.ref q), x, y].set 3 (some (.k (.num (pre.length : Int))))).set 4 (some (.k (nN l)))) S := by
  unfold r_above_1
  walk_at "rd3"
  refine ⟨nN t, ?_, ?_⟩
  · rw [atI_nat, List.getElem?_map, ← hl]
    simp
  · walk_at "rd3"
    by_cases hlt : l < t
    · rw [if_pos (decide_eq_true (by omega))]
      rw [if_pos hlt] at h
      have e1 : List.map nN (pre ++ l :: s) = List.map nN pre ++ (nN l :: List.map nN s) := by simp
      have e2 : List.map nN (pre ++ l :: s) = (List.map nN pre ++ [nN l]) ++ List.map nN s := by simp
      have c1 : cut (List.map nN (pre ++ l :: s)) none (some (pre.length : Int)) = List.map nN pre := by
        rw [e1]
        have := cut_to (List.map nN pre) (nN l :: List.map nN s)
        rwa [List.length_map] at this
      have c2 : cut (List.map nN (pre ++ l :: s)) (some ((pre.length : Int) + 1)) none = List.map nN s := by
        rw [e2]
        have := cut_from (List.map nN pre ++ [nN l]) (List.map nN s)
        rw [List.length_append, List.length_map] at this
        exact this
      rw [c1, c2]
      refine ⟨⟨_, hq⟩, by decide, by rw [List.length_map]; omega, by simp; omega, by decide, _, hq, by rw [List.length_map]; omega, ?_⟩
      refine h _ (fun b hb => put_ne hb) ?_
      rw [put_same, List.map_append]
      congr 3
      simp
    · rw [if_neg (by rw [decide_eq_true_eq]; omega)]
      rw [if_neg hlt, List.append_nil] at h
      exact h S (fun _ _ => rfl) hq
theorem above_loop {D3 : Ends3} {q : Addr} {card full : List Nat} {Se : Sto} (hq0 : Se q = none) (hn : full.length < 900) : ∀ (c s cpre pre : List Nat) (acc : List NK) (x y : Option D) (S : Sto), card = cpre ++ c → full = pre ++ s → cpre.length = pre.length → Val c s → Sub Se S → S q = some (.lst (List.map D.k acc)) → acc.length ≤ pre.length →
    (∀ x y S', Sub Se S' → S' q = some (.lst (List.map D.k (acc ++ (upsAux pre c s).map upK))) → D3.nx [some (dS card), some (dS full), some (.ref q), x, y] S') →
    for3 (gP 3 4) r_above_1 (fun _ => True) D3 (enumFrom pre.length (s.map nN)) [some (dS card), some (dS full), some (.ref q), x, y] S
  | [], [], cpre, pre, acc, x, y, S, _, _, _, _, hS, hq, _, hk => for3_nil.mpr ⟨trivial, hk x y S hS (by rw [upsAux] <;> simpa using hq)⟩
  | t :: c, l :: s, cpre, pre, acc, x, y, S, ec, ef, hl, hv, hS, hq, ha, hk => by
    rw [List.map_cons, enumFrom_cons, for3_P]
    refine ⟨trivial, ?_⟩
    subst ec ef
    rw [List.length_append, List.length_cons] at hn
    refine above_turn hl (by omega) hq (by omega) fun S' ho hq' => ?_
    have ih := above_loop (D3 := D3) (Se := Se) (q := q) (card := cpre ++ t :: c) (full := pre ++ l :: s) hq0 (by rw [List.length_append, List.length_cons]; omega) c s (cpre ++ [t]) (pre ++ [l]) _ (some (Dn (pre.length : Nat))) (some (Dn l)) S' (by simp) (by simp) (by simp [hl]) hv.2 (fun b o e => by
      have nb : b ≠ q := fun z => by rw [z, hq0] at e; cases e
      rw [ho b nb]
      exact hS b o e) hq' (by rw [List.length_append, List.length_append]; split <;> simp <;> omega) fun x y S2 h2 hq2 => hk x y S2 h2 (by
        rw [hq2]
        have e : (acc ++ if l < t then [upK (pre.length, pre ++ (l + 1) :: s)] else []) ++ (upsAux (pre ++ [l]) c s).map upK = acc ++ (upsAux pre (t :: c) (l :: s)).map upK := by
          rw [upsAux]
          split <;> simp
        rw [e])
    rw [List.length_append] at ih
    exact ih
  | [], _ :: _, _, _, _, _, _, _, _, _, _, h, _, _, _, _ => h.elim
  | _ :: _, [], _, _, _, _, _, _, _, _, _, h, _, _, _, _ => h.elim
theorem rd_above (ds : List D) (S : Sto) (R : VK3) (hl : ds.length = 2) (h : sp_above ds S R) : r_above { nx := fun _ S' => R Dz S', rt := R } (start3 n_above ds) S := by
  obtain ⟨card, s, rfl, hv, hc, h⟩ := h
  show r_above _ [some (dS card), some (dS s), none, none, none] S
  unfold r_above
  walk_at "rd3"
  refine ⟨by decide, fun q hq => ?_⟩
  refine above_loop (Se := S) (q := q) (card := card) (full := s) hq (by rw [hv.len]; omega) card s [] [] [] _ _ _ rfl rfl rfl hv (Sub.add (Sub.refl S) hq) put_same (Nat.le_refl _) fun x y S' hS hq' => ?_
  exact h q S' hq hS hq'
end L3
/-! ## S6 -/
namespace L3
open PySem PySem.Spec L2
open PyProof.Rows hiding St
set_option hygiene false in
local macro_rules | `(tactic| walk_at "rd3") => `(tactic| simp only [a1, a2, asB, asI, asK, asP, asR, asT, asOwn, cN, cP, gN, gP, iD3, iE3, iL3, iR3, iS3, iT3, iZ3, rAbs3, rAdd3, rAll3, rApp3, rDictP3, rDictZ3, rEq3, rExt3, rI03, rI3, rIn3, rInt3, rIs3, rIsi3, rIx3, rLen3, rList3, rListD3, rListZ3, rMaxL3, rMin23, rMinL3, rNeg3, rPop3, rPopAt3, rRepr3, rSet3, rSl3, rSum3, rTuple3, rTupleW3, rdS, tAnd3, tAndV3, tAsg3, tB3, tBack3, tBreak3, tCall3, tChain3, tCons3, tDict0, tDisp3, tDrop3, tFld3, tFor3, tFst3, tGet3, tIf3, tIfS3, tK, tLc3, tLk3, tLkE3, tLst3, tM0, tM1, tMake3, tMeth3, tNever3, tNext3, tNil3, tNo3, tNot3, tNotV3, tOp3, tOr3, tOrV3, tOwn3, tPairs3, tPar3, tPar33, tRep3, tRet3, tSFld3, tSeq3, tSet3, tSl3, tSm3, tSortK3, tSub3, tT, tTup3, tUn3, tV, tWk3, tYes3, three, two, nks, Option.map, List.getElem?_cons_zero, List.getElem?_cons_succ, List.set_cons_zero, List.set_cons_succ, if_true, if_false, Bool.false_eq_true, ite_true, ite_false, reduceIte, List.length_cons, List.length_nil, Nat.zero_add, Nat.reduceAdd, true_and, and_true])
/-! strengths: the tables; worth -/
theorem words_ok : ∀ x ∈ words, okK (.text x) = true := by decide +kernel
theorem plain_ok {v : NK} (h : plainV v = true) : okK v = true := by
  cases v with
  | num i => exact okK_num i
  | text x => exact words_ok x (of_decide_eq_true h)
  | _ => cases h
theorem value_ok {v : NK} (h : valueV v = true) : okK v = true := by
  cases v with
  | tup ks =>
    have hd := value_depth h
    unfold valueV at h
    rw [Bool.and_eq_true] at h
    rw [NestedKey.depth] at hd
    exact okK_tup (fun k hk => plain_ok (List.all_eq_true.mp h.2 k hk)) (by omega)
  | num i => exact okK_num i
  | text x => exact plain_ok h
  | none => cases h
theorem lab_ok {v : NK} (h : labOk v) : okK v = true := by
  rcases h with rfl | h
  · exact okK_none
  · exact value_ok h
theorem eqOk_of {a b : NK} (ha : okK a = true) (hb : okK b = true) : eqOk a b = true := by
  unfold eqOk
  split
  · rfl
  · rfl
  · rw [ha, hb]; rfl
theorem enc_depth (s : List Nat) : (enc s).depth ≤ 1 := by
  have g : ∀ l : List Nat, NestedKey.depthAll (l.map nN) = 0 := by
    intro l
    induction l with
    | nil => rfl
    | cons a l ih => rw [List.map_cons, NestedKey.depthAll, ih]; rfl
  show NestedKey.depth (.tup (s.map nN)) ≤ 1
  rw [NestedKey.depth, g]
  omega
theorem nN_inj {a b : Nat} (h : nN a = nN b) : a = b := by
  injection h with h
  omega
theorem enc_inj : ∀ {s t : List Nat}, enc s = enc t → s = t := fun {s t} h => by
  have h' : s.map nN = t.map nN := by injection h
  clear h
  induction s generalizing t with
  | nil => cases t with
    | nil => rfl
    | cons _ _ => cases h'
  | cons a s ih =>
    cases t with
    | nil => cases h'
    | cons b t =>
      rw [List.map_cons, List.map_cons] at h'
      injection h' with h1 h2
      rw [nN_inj h1, ih h2]
abbrev wK : Option Nat → NK
  | none => .none
  | some w => nN w
abbrev bK : Option (Nat × List Nat) → NK
  | none => .tup [.none, .none]
  | some p => .tup [nN p.1, enc p.2]
section
variable (L : List Nat → NK) (sf : List Nat → Nat) (bs : List Nat → NK → Option (Nat × List Nat))
def worthF (first t : List Nat) (v : NK) : Option Nat := if L t = v then some (sf t) else if L t = .none ∨ L t ≠ L first then none else (bs t v).map fun r => min r.1 (sf t)
def bestOf (f : List Nat → Option Nat) : List (Nat × List Nat) → Option (Nat × List Nat) → Option (Nat × List Nat)
  | [], found => found
  | p :: r, found => match f p.2 with
    | none => bestOf f r found
    | some w => match found with
      | none => bestOf f r (some (w, p.2))
      | some q => bestOf f r (if q.1 < w then some (w, p.2) else some q)
end
def fldsT (card : List Nat) (vs : List NK) (la sa fa : Addr) : List (Str × D) := [("card", dS card), ("labels", .ref la), ("code_values", Dt vs), ("safe", .ref sa), ("first_steps", .ref fa)]
section
variable {card : List Nat} {vs : List NK} {la sa fa : Addr}
theorem f_card : (fldsT card vs la sa fa).lookup ("card" : Str) = some (dS card) := by
  unfold fldsT
  rw [List.lookup_cons, show (("card" : Str) == "card") = true by decide +kernel]
theorem f_labels : (fldsT card vs la sa fa).lookup ("labels" : Str) = some (.ref la) := by
  unfold fldsT
  rw [List.lookup_cons, show (("labels" : Str) == "card") = false by decide +kernel]
  show List.lookup _ _ = _
  rw [List.lookup_cons, show (("labels" : Str) == "labels") = true by decide +kernel]
theorem f_values : (fldsT card vs la sa fa).lookup ("code_values" : Str) = some (Dt vs) := by
  unfold fldsT
  rw [List.lookup_cons, show (("code_values" : Str) == "card") = false by decide +kernel]
  show List.lookup _ _ = _
  rw [List.lookup_cons, show (("code_values" : Str) == "labels") = false by decide +kernel]
  show List.lookup _ _ = _
  rw [List.lookup_cons, show (("code_values" : Str) == "code_values") = true by decide +kernel]
theorem f_safe : (fldsT card vs la sa fa).lookup ("safe" : Str) = some (.ref sa) := by
  unfold fldsT
  rw [List.lookup_cons, show (("safe" : Str) == "card") = false by decide +kernel]
  show List.lookup _ _ = _
  rw [List.lookup_cons, show (("safe" : Str) == "labels") = false by decide +kernel]
  show List.lookup _ _ = _
  rw [List.lookup_cons, show (("safe" : Str) == "code_values") = false by decide +kernel]
  show List.lookup _ _ = _
  rw [List.lookup_cons, show (("safe" : Str) == "safe") = true by decide +kernel]
theorem f_first : (fldsT card vs la sa fa).lookup ("first_steps" : Str) = some (.ref fa) := by
  unfold fldsT
  rw [List.lookup_cons, show (("first_steps" : Str) == "card") = false by decide +kernel]
  show List.lookup _ _ = _
  rw [List.lookup_cons, show (("first_steps" : Str) == "labels") = false by decide +kernel]
  show List.lookup _ _ = _
  rw [List.lookup_cons, show (("first_steps" : Str) == "code_values") = false by decide +kernel]
  show List.lookup _ _ = _
  rw [List.lookup_cons, show (("first_steps" : Str) == "safe") = false by decide +kernel]
  show List.lookup _ _ = _
  rw [List.lookup_cons, show (("first_steps" : Str) == "first_steps") = true by decide +kernel]
theorem f_none {m : Str} (h : (["card", "labels", "code_values", "safe", "first_steps"] : List Str).all (fun f => (m == f) == false) = true) : (fldsT card vs la sa fa).lookup m = none := by
  simp only [List.all_cons, List.all_nil, Bool.and_true, Bool.and_eq_true, beq_iff_eq] at h
  obtain ⟨h1, h2, h3, h4, h5⟩ := h
  unfold fldsT
  simp only [List.lookup_cons, h1, h2, h3, h4, h5, List.lookup_nil]
end
/-- a table as it stands -/
structure Tabl (S : Sto) (C a la sa fa : Addr) (card : List Nat) (vs : List NK) (lk sk fk : List (NK × D)) : Prop where
  ins : S a = some (.ins C (fldsT card vs la sa fa))
  lab : S la = some (.dic none lk)
  saf : S sa = some (.dic none sk)
  fst : S fa = some (.dic none fk)
def sp_t_worth (C : Addr) : Sp3 := fun ds S R => ∃ (a la sa fa : Addr) (card first t : List Nat) (v : NK) (vs : List NK) (lk sk fk : List (NK × D)) (L : List Nat → NK) (sf : List Nat → Nat) (bs : List Nat → NK → Option (Nat × List Nat)),
  ds = [.ref a, dS first, dS t, .k v] ∧ Tabl S C a la sa fa card vs lk sk fk ∧ dlook lk (enc t) = some (.k (L t)) ∧ dlook lk (enc first) = some (.k (L first)) ∧ labOk (L t) ∧ labOk (L first) ∧ valueV v = true ∧
  (L t ≠ .none → dlook sk (enc t) = some (Dn (sf t))) ∧ (L t ≠ v → L t ≠ .none → dlook fk (.tup [enc t, v]) = some (.k (bK (bs t v)))) ∧ R (.k (wK (worthF L sf bs first t v))) S
theorem pair_depth (s : List Nat) {v : NK} (h : valueV v = true) : NestedKey.depth (.tup [enc s, v]) ≤ 8 := by
  have h1 := enc_depth s
  have h2 := value_depth h
  rw [NestedKey.depth, NestedKey.depthAll, NestedKey.depthAll, NestedKey.depthAll]
  omega
theorem rd_worth {C : Addr} (ds : List D) (S : Sto) (R : VK3) (hl : ds.length = 4) (h : sp_t_worth C ds S R) : r_t_worth C { nx := fun _ S' => R Dz S', rt := R } (start3 n_t_worth ds) S := by
  obtain ⟨a, la, sa, fa, card, first, t, v, vs, lk, sk, fk, L, sf, bs, rfl, T, l1, l2, o1, o2, ov, h1, h2, h⟩ := h
  have d1 : (enc t).depth ≤ 8 := Nat.le_trans (enc_depth t) (by decide)
  have d2 : (enc first).depth ≤ 8 := Nat.le_trans (enc_depth first) (by decide)
  show r_t_worth C _ [some (.ref a), some (dS first), some (dS t), some (.k v), none] S
  unfold r_t_worth
  walk_at "rd3"
  refine ⟨_, _, T.ins, f_labels, .inr ⟨_, lk, _, T.lab, d1, l1, ?_⟩⟩
  walk_at "rd3"
  refine ⟨eqOk_of (lab_ok o1) (value_ok ov), ?_⟩
  by_cases c1 : L t = v
  · rw [if_pos (by simpa using c1)]
    refine ⟨_, _, T.ins, f_safe, .inr ⟨_, sk, _, T.saf, d1, h1 ?_, ?_⟩⟩
    · intro z
      rw [← c1, z] at ov
      cases ov
    · unfold worthF at h
      rw [if_pos c1] at h
      exact h
  · rw [if_neg (by simpa using c1)]
    refine ⟨_, _, T.ins, f_labels, .inr ⟨_, lk, _, T.lab, d1, l1, ?_⟩⟩
    refine ⟨rfl, ?_⟩
    by_cases c2 : L t = .none
    · rw [if_pos (by rw [c2]; rfl)]
      have e : worthF L sf bs first t v = none := by
        unfold worthF
        rw [if_neg c1, if_pos (.inl c2)]
      rw [e] at h
      exact h
    have n2 : ¬ id (isN (D.k (L t))) = true := fun z => c2 (by
      revert z
      generalize L t = q
      cases q <;> intro z <;> first | rfl | cases z)
    rw [if_neg n2]
    refine ⟨_, _, T.ins, f_labels, .inr ⟨_, lk, _, T.lab, d1, l1, _, _, T.ins, f_labels, .inr ⟨_, lk, _, T.lab, d2, l2, ?_⟩⟩⟩
    walk_at "rd3"
    refine ⟨eqOk_of (lab_ok o1) (lab_ok o2), ?_⟩
    by_cases c3 : L t = L first
    · rw [if_neg (by simpa using c3)]
      refine ⟨_, _, T.ins, f_first, by decide, .inr ⟨_, fk, _, T.fst, pair_depth t ov, h2 c1 c2, ?_⟩⟩
      have e : worthF L sf bs first t v = (bs t v).map fun r => min r.1 (sf t) := by
        unfold worthF
        rw [if_neg c1, if_neg (fun z => z.elim c2 (fun z => z c3))]
      rw [e] at h
      revert h
      cases bs t v with
      | none =>
        intro h
        exact ⟨_, rfl, rfl, h⟩
      | some r =>
        intro h
        refine ⟨_, rfl, rfl, ?_⟩
        rw [if_neg (by intro z; cases z)]
        refine ⟨_, _, T.ins, f_safe, .inr ⟨_, sk, _, T.saf, d1, h1 c2, ?_⟩⟩
        have e2 : (if ((sf t : Nat) : Int) < (r.1 : Nat) then ((sf t : Nat) : Int) else (r.1 : Nat)) = ((min r.1 (sf t) : Nat) : Int) := by
          split <;> omega
        show R (Dn (if ((sf t : Nat) : Int) < (r.1 : Nat) then ((sf t : Nat) : Int) else (r.1 : Nat))) S
        rw [e2]
        exact h
    · rw [if_pos (by simpa using c3)]
      have e : worthF L sf bs first t v = none := by
        unfold worthF
        rw [if_neg c1, if_pos (.inr c3)]
      rw [e] at h
      exact h
end L3
/-! ## S7 -/
namespace L3
open PySem PySem.Spec L2
open PyProof.Rows hiding St
set_option hygiene false in
local macro_rules | `(tactic| walk_at "rd3") => `(tactic| simp only [a1, a2, asB, asI, asK, asP, asR, asT, asOwn, cN, cP, gN, gP, iD3, iE3, iL3, iR3, iS3, iT3, iZ3, rAbs3, rAdd3, rAll3, rApp3, rDictP3, rDictZ3, rEq3, rExt3, rI03, rI3, rIn3, rInt3, rIs3, rIsi3, rIx3, rLen3, rList3, rListD3, rListZ3, rMaxL3, rMin23, rMinL3, rNeg3, rPop3, rPopAt3, rRepr3, rSet3, rSl3, rSum3, rTuple3, rTupleW3, rdS, tAnd3, tAndV3, tAsg3, tB3, tBack3, tBreak3, tCall3, tChain3, tCons3, tDict0, tDisp3, tDrop3, tFld3, tFor3, tFst3, tGet3, tIf3, tIfS3, tK, tLc3, tLk3, tLkE3, tLst3, tM0, tM1, tMake3, tMeth3, tNever3, tNext3, tNil3, tNo3, tNot3, tNotV3, tOp3, tOr3, tOrV3, tOwn3, tPairs3, tPar3, tPar33, tRep3, tRet3, tSFld3, tSeq3, tSet3, tSl3, tSm3, tSortK3, tSub3, tT, tTup3, tUn3, tV, tWk3, tYes3, three, two, nks, Option.map, List.getElem?_cons_zero, List.getElem?_cons_succ, List.set_cons_zero, List.set_cons_succ, if_true, if_false, Bool.false_eq_true, ite_true, ite_false, reduceIte, List.length_cons, List.length_nil, Nat.zero_add, Nat.reduceAdd, true_and, and_true])
/-! strengths: best_step -/
theorem Tabl.sub {S S' : Sto} {C a la sa fa : Addr} {card : List Nat} {vs : List NK} {lk sk fk : List (NK × D)} (T : Tabl S C a la sa fa card vs lk sk fk) (h : Sub S S') : Tabl S' C a la sa fa card vs lk sk fk :=
  ⟨h _ _ T.ins, h _ _ T.lab, h _ _ T.saf, h _ _ T.fst⟩
/-- what the tables say at a state -/
def EntT (lk sk fk : List (NK × D)) (L : List Nat → NK) (sf : List Nat → Nat) (bs : List Nat → NK → Option (Nat × List Nat)) (v : NK) (t : List Nat) : Prop :=
  dlook lk (enc t) = some (.k (L t)) ∧ labOk (L t) ∧ (L t ≠ .none → dlook sk (enc t) = some (Dn (sf t))) ∧ (L t ≠ v → L t ≠ .none → dlook fk (.tup [enc t, v]) = some (.k (bK (bs t v))))
def sp_t_best (C : Addr) : Sp3 := fun ds S R => ∃ (a la sa fa : Addr) (card s : List Nat) (v : NK) (vs : List NK) (lk sk fk : List (NK × D)) (L : List Nat → NK) (sf : List Nat → Nat) (bs : List Nat → NK → Option (Nat × List Nat)),
  ds = [.ref a, dS s, .k v] ∧ Tabl S C a la sa fa card vs lk sk fk ∧ Val card s ∧ card.length ≤ 100 ∧ valueV v = true ∧ dlook lk (enc s) = some (.k (L s)) ∧ labOk (L s) ∧
  (∀ p ∈ rais card s, EntT lk sk fk L sf bs v p.2) ∧ ∀ S', Sub S S' → R (.k (bK (bestOf (fun t => worthF L sf bs s t v) (rais card s) none))) S'
theorem best_turn {C : Addr} {D3 : Ends3} {a la sa fa : Addr} {card s t : List Nat} {v : NK} {vs : List NK} {lk sk fk : List (NK × D)} {L : List Nat → NK} {sf : List Nat → Nat} {bs : List Nat → NK → Option (Nat × List Nat)} {found : Option (Nat × List Nat)} {x y z : Option D} {S : Sto} {F : Sd → Sto → Prop} {c : Nat}
    (T : Tabl S C a la sa fa card vs lk sk fk) (ov : valueV v = true) (l1 : dlook lk (enc s) = some (.k (L s))) (o1 : labOk (L s)) (hE : EntT lk sk fk L sf bs v t)
    (h : ∀ f', bestOf (fun t => worthF L sf bs s t v) [(c, t)] found = f' → F [some (.ref a), some (dS s), some (.k v), some (.k (bK f')), some (.k (nN c)), some (dS t), some (.k (wK (worthF L sf bs s t v)))] S) :
    r_t_best_step_1 C sp_above (sp_t_worth C) { D3 with nx := F, ct := F, bk := D3.nx } (([some (.ref a), some (dS s), some (.k v), some (.k (bK found)), x, y, z].set 4 (some (.k (nN c)))).set 5 (some (dS t))) S := by
  show ∃ fs, S a = some (.ins C fs) ∧ List.lookup ("worth" : Str) fs = none ∧ _ = _ ∧ sp_t_worth C [.ref a, dS s, dS t, .k v] S _
  refine ⟨_, T.ins, f_none (by decide +kernel), rfl, a, la, sa, fa, card, s, t, v, vs, lk, sk, fk, L, sf, bs, rfl, T, hE.1, l1, hE.2.1, o1, ov, hE.2.2.1, hE.2.2.2, ?_⟩
  unfold bestOf at h
  revert h
  cases worthF L sf bs s t v with
  | none =>
    intro h
    exact ⟨rfl, h _ rfl⟩
  | some w =>
    intro h
    refine ⟨rfl, ?_⟩
    cases found with
    | none => exact ⟨_, rfl, rfl, (by decide : 2 ≤ 1000), h _ rfl⟩
    | some q =>
      have h' := h _ rfl
      refine ⟨_, rfl, rfl, _, rfl, ?_⟩
      show if decide (((q.1 : Nat) : Int) < (w : Nat)) = true then _ else _
      by_cases c : q.1 < w
      · rw [if_pos (by rw [decide_eq_true_eq]; omega)]
        simp only [if_pos c] at h'
        exact ⟨(by decide : 2 ≤ 1000), h'⟩
      · rw [if_neg (by rw [decide_eq_true_eq]; omega)]
        simp only [if_neg c] at h'
        exact h'
theorem bestOf_cons (f : List Nat → Option Nat) (p : Nat × List Nat) (r : List (Nat × List Nat)) (found : Option (Nat × List Nat)) : bestOf f (p :: r) found = bestOf f r (bestOf f [p] found) := by
  rw [bestOf, bestOf]
  cases f p.2 with
  | none => rfl
  | some w => cases found <;> rfl
theorem best_loop {C : Addr} {D3 : Ends3} {q : Addr} {xs : List D} {a la sa fa : Addr} {card s : List Nat} {v : NK} {vs : List NK} {lk sk fk : List (NK × D)} {L : List Nat → NK} {sf : List Nat → Nat} {bs : List Nat → NK → Option (Nat × List Nat)} {S : Sto}
    (T : Tabl S C a la sa fa card vs lk sk fk) (ov : valueV v = true) (l1 : dlook lk (enc s) = some (.k (L s))) (o1 : labOk (L s)) (hq : S q = some (.lst xs)) : ∀ (ps : List (Nat × List Nat)) (found : Option (Nat × List Nat)) (x y z : Option D), (∀ p ∈ ps, EntT lk sk fk L sf bs v p.2) →
    (∀ x y z, D3.nx [some (.ref a), some (dS s), some (.k v), some (.k (bK (bestOf (fun t => worthF L sf bs s t v) ps found))), x, y, z] S) →
    for3 (gP 4 5) (r_t_best_step_1 C sp_above (sp_t_worth C)) (fun S => S q = some (.lst xs)) D3 (List.map D.k (ps.map upK)) [some (.ref a), some (dS s), some (.k v), some (.k (bK found)), x, y, z] S
  | [], found, x, y, z, _, hk => for3_nil.mpr ⟨hq, hk x y z⟩
  | p :: ps, found, x, y, z, hE, hk => by
    rw [List.map_cons, List.map_cons]
    refine for3_P.mpr ⟨hq, ?_⟩
    refine best_turn T ov l1 o1 (hE p (List.mem_cons_self ..)) (c := p.1) fun f' hf => ?_
    exact best_loop T ov l1 o1 hq ps f' _ _ _ (fun p hp => hE p (List.mem_cons_of_mem _ hp)) (fun x y z => by
      have := hk x y z
      rw [bestOf_cons, hf] at this
      exact this)
theorem rd_best {C : Addr} (ds : List D) (S : Sto) (R : VK3) (hl : ds.length = 3) (h : sp_t_best C ds S R) : r_t_best_step C sp_above (sp_t_worth C) { nx := fun _ S' => R Dz S', rt := R } (start3 n_t_best_step ds) S := by
  obtain ⟨a, la, sa, fa, card, s, v, vs, lk, sk, fk, L, sf, bs, rfl, T, hv, hc, ov, l1, o1, hE, h⟩ := h
  show r_t_best_step C _ _ _ [some (.ref a), some (dS s), some (.k v), none, none, none, none] S
  unfold r_t_best_step
  walk_at "rd3"
  refine ⟨by decide, _, _, T.ins, f_card, card, s, rfl, hv, hc, fun q S' hq hS hq' => ⟨_, hq', ?_⟩⟩
  exact best_loop (T.sub hS) ov l1 o1 hq' _ none none none none hE fun x y z => h S' hS
end L3
/-! ## S8 -/
namespace L3
open PySem PySem.Spec L2
open PyProof.Rows hiding St
set_option hygiene false in
local macro_rules | `(tactic| walk_at "rd3") => `(tactic| simp only [a1, a2, asB, asI, asK, asP, asR, asT, asOwn, cN, cP, gN, gP, iD3, iE3, iL3, iR3, iS3, iT3, iZ3, rAbs3, rAdd3, rAll3, rApp3, rDictP3, rDictZ3, rEq3, rExt3, rI03, rI3, rIn3, rInt3, rIs3, rIsi3, rIx3, rLen3, rList3, rListD3, rListZ3, rMaxL3, rMin23, rMinL3, rNeg3, rPop3, rPopAt3, rRepr3, rSet3, rSl3, rSum3, rTuple3, rTupleW3, rdS, tAnd3, tAndV3, tAsg3, tB3, tBack3, tBreak3, tCall3, tChain3, tCons3, tDict0, tDisp3, tDrop3, tFld3, tFor3, tFst3, tGet3, tIf3, tIfS3, tK, tLc3, tLk3, tLkE3, tLst3, tM0, tM1, tMake3, tMeth3, tNever3, tNext3, tNil3, tNo3, tNot3, tNotV3, tOp3, tOr3, tOrV3, tOwn3, tPairs3, tPar3, tPar33, tRep3, tRet3, tSFld3, tSeq3, tSet3, tSl3, tSm3, tSortK3, tSub3, tT, tTup3, tUn3, tV, tWk3, tYes3, three, two, nks, Option.map, List.getElem?_cons_zero, List.getElem?_cons_succ, List.set_cons_zero, List.set_cons_succ, if_true, if_false, Bool.false_eq_true, ite_true, ite_false, reduceIte, List.length_cons, List.length_nil, Nat.zero_add, Nat.reduceAdd, true_and, and_true])
/-! strengths: fill -/
theorem dlook_dput {α : Type} (kvs : List (NK × α)) (k : NK) (v : α) (k' : NK) : dlook (dput kvs k v) k' = if k = k' then some v else dlook kvs k' := by
  unfold dput
  by_cases h : (kvs.any fun p => decide (p.1 = k)) = true
  · rw [if_pos h]
    unfold dlook
    induction kvs with
    | nil => cases h
    | cons p r ih =>
      rw [List.map_cons, List.find?_cons, List.find?_cons]
      by_cases hp : p.1 = k
      · rw [if_pos hp]
        by_cases e : k = k'
        · simp [e, hp]
        · have z : ¬ p.1 = k' := fun w => e (hp ▸ w)
          simp only [z, decide_false, if_neg e]
          by_cases h2 : (r.any fun p => decide (p.1 = k)) = true
          · have := ih h2
            rw [if_neg e] at this
            exact this
          · have g : r.map (fun p => if p.1 = k then (p.1, v) else p) = r := by
              rw [List.map_congr_left (g := id) fun q hq => ?_, List.map_id]
              rw [if_neg]
              · rfl
              · intro w
                exact h2 (List.any_eq_true.mpr ⟨q, hq, decide_eq_true w⟩)
            rw [g]
      · rw [if_neg hp]
        have h2 : (r.any fun p => decide (p.1 = k)) = true := by
          rw [List.any_cons, decide_eq_false hp, Bool.false_or] at h
          exact h
        by_cases e : p.1 = k'
        · have z : ¬ k = k' := fun w => hp (e.trans w.symm)
          simp [e, z]
        · simp only [e, decide_false]
          exact ih h2
  · rw [if_neg h]
    unfold dlook
    rw [List.find?_append]
    by_cases e : k = k'
    · subst e
      have g : kvs.find? (fun p => decide (p.1 = k)) = none := List.find?_eq_none.mpr fun q hq w => h (List.any_eq_true.mpr ⟨q, hq, w⟩)
      rw [g]
      simp
    · rw [if_neg e]
      simp [e]
theorem dput_len {α : Type} (kvs : List (NK × α)) (k : NK) (v : α) : (dput kvs k v).length ≤ kvs.length + 1 := by
  unfold dput
  split
  · rw [List.length_map]; omega
  · rw [List.length_append]; exact Nat.le_refl _
theorem upsAux_sum : ∀ (c s pre : List Nat), ∀ p ∈ upsAux pre c s, p.2.sum = (pre ++ s).sum + 1
  | [], _, _, p, hp => by simp [upsAux] at hp
  | _ :: _, [], _, p, hp => by simp [upsAux] at hp
  | t :: c, l :: s, pre, p, hp => by
    rw [upsAux, List.mem_append] at hp
    rcases hp with hp | hp
    · split at hp
      · rw [List.mem_singleton] at hp
        subst hp
        simp
        omega
      · cases hp
    · have := upsAux_sum c s (pre ++ [l]) p hp
      rw [this]
      simp
theorem rais_sum {card s : List Nat} {p : Nat × List Nat} (h : p ∈ rais card s) : p.2.sum = s.sum + 1 := upsAux_sum card s [] p h
theorem rais_ne {card s : List Nat} {p : Nat × List Nat} (h : p ∈ rais card s) : p.2 ≠ s := fun e => by
  have := rais_sum h
  rw [e] at this
  omega
def SafeIs (ws : List (Option Nat)) (n : Nat) : Prop := (none ∈ ws ∧ n = 0) ∨ (none ∉ ws ∧ ∃ m, some m ∈ ws ∧ (∀ k, some k ∈ ws → m ≤ k) ∧ n = 1 + m)
def othersV (L : List Nat → NK) (vs : List NK) (s : List Nat) : List NK := vs.filter fun v => decide (v ≠ L s)
def sp_t_fill (C : Addr) : Sp3 := fun ds S R => ∃ (a la sa fa : Addr) (card s : List Nat) (vs : List NK) (lk sk fk : List (NK × D)) (L : List Nat → NK) (sf : List Nat → Nat) (bs : List Nat → NK → Option (Nat × List Nat)),
  ds = [.ref a, dS s] ∧ Tabl S C a la sa fa card vs lk sk fk ∧ a ≠ sa ∧ a ≠ fa ∧ la ≠ sa ∧ la ≠ fa ∧ sa ≠ fa ∧ Val card s ∧ card.length ≤ 100 ∧ vs.length ≤ 1000 ∧ (∀ v ∈ vs, valueV v = true) ∧ sk.length < 100000 ∧ fk.length < 100000 ∧ dlook lk (enc s) = some (.k (L s)) ∧ labOk (L s) ∧
  (∀ p ∈ rais card s, ∀ v ∈ vs, EntT lk sk fk L sf bs v p.2) ∧ (∀ v ∈ vs, v ≠ L s → bs s v = bestOf (fun t => worthF L sf bs s t v) (rais card s) none) ∧
  othersV L vs s ≠ [] ∧ SafeIs ((othersV L vs s).map fun v => (bs s v).map (·.1)) (sf s) ∧
  ∀ (S' : Sto) (sk' fk' : List (NK × D)), (∀ b o, b ≠ sa → b ≠ fa → S b = some o → S' b = some o) → Tabl S' C a la sa fa card vs lk sk' fk' → sk'.length ≤ sk.length + 1 → fk'.length ≤ fk.length + vs.length →
    (∀ t, dlook sk' (enc t) = if s = t then some (Dn (sf s)) else dlook sk (enc t)) → (∀ t v, dlook fk' (.tup [enc t, v]) = if s = t ∧ v ∈ othersV L vs s then some (.k (bK (bs s v))) else dlook fk (.tup [enc t, v])) → R Dz S'
theorem fill_turn {C : Addr} {D3 : Ends3} {a la sa fa q : Addr} {card s : List Nat} {v : NK} {vs : List NK} {lk sk fk : List (NK × D)} {L : List Nat → NK} {sf : List Nat → Nat} {bs : List Nat → NK → Option (Nat × List Nat)} {acc : List (Option Nat)} {x : Option D} {S : Sto} {F : Sd → Sto → Prop}
    (T : Tabl S C a la sa fa card vs lk sk fk) (ha : a ≠ fa) (hla : la ≠ fa) (hsa : sa ≠ fa) (hq : S q = some (.lst (acc.map fun w => .k (wK w)))) (qa : q ≠ a ∧ q ≠ la ∧ q ≠ sa ∧ q ≠ fa) (hacc : acc.length < 10000) (hv : Val card s) (hc : card.length ≤ 100) (ov : valueV v = true) (hf : fk.length < 900000) (l1 : dlook lk (enc s) = some (.k (L s))) (o1 : labOk (L s)) (hE : ∀ p ∈ rais card s, EntT lk sk fk L sf bs v p.2) (hb : v ≠ L s → bs s v = bestOf (fun t => worthF L sf bs s t v) (rais card s) none)
    (h0 : v = L s → F [some (.ref a), some (dS s), some (.ref q), some (.k v)] S)
    (h1 : v ≠ L s → ∀ S', (∀ b o, b ≠ q → b ≠ fa → S b = some o → S' b = some o) → Tabl S' C a la sa fa card vs lk sk (dput fk (.tup [enc s, v]) (.k (bK (bs s v)))) → S' q = some (.lst ((acc ++ [(bs s v).map (·.1)]).map fun w => .k (wK w))) → F [some (.ref a), some (dS s), some (.ref q), some (.k v)] S') :
    r_t_fill_1 C (sp_t_best C) { D3 with nx := F, ct := F, bk := D3.nx } ([some (.ref a), some (dS s), some (.ref q), x].set 3 (some (.k v))) S := by
  have d1 : (enc s).depth ≤ 8 := Nat.le_trans (enc_depth s) (by decide)
  show ∃ fs d, S a = some (.ins C fs) ∧ List.lookup ("labels" : Str) fs = some d ∧ _
  refine ⟨_, _, T.ins, f_labels, .inr ⟨_, lk, _, T.lab, d1, l1, ?_⟩⟩
  show eqOk v (L s) = true ∧ _
  refine ⟨eqOk_of (value_ok ov) (lab_ok o1), ?_⟩
  show if (!decide (v = L s)) = true then _ else _
  by_cases c : v = L s
  · rw [if_neg (by simpa using c)]
    exact h0 c
  rw [if_pos (by simpa using c)]
  show ∃ fs, S a = some (.ins C fs) ∧ List.lookup ("best_step" : Str) fs = none ∧ _ = _ ∧ sp_t_best C [.ref a, dS s, .k v] S _
  refine ⟨_, T.ins, f_none (by decide +kernel), rfl, a, la, sa, fa, card, s, v, vs, lk, sk, fk, L, sf, bs, rfl, T, hv, hc, ov, l1, o1, hE, fun S1 hS => ?_⟩
  have T1 := T.sub hS
  rw [← hb c]
  refine ⟨_, _, T1.ins, f_first, (by decide : 2 ≤ 1000), .inr ⟨fk, T1.fst, pair_depth s ov, by omega, ?_⟩⟩
  have e1 : put S1 fa (.dic none (dput fk (.tup [enc s, v]) (.k (bK (bs s v))))) q = some (.lst (acc.map fun w => .k (wK w))) := by
    rw [put_ne qa.2.2.2]
    exact hS _ _ hq
  have T2 : Tabl (put S1 fa (.dic none (dput fk (.tup [enc s, v]) (.k (bK (bs s v)))))) C a la sa fa card vs lk sk (dput fk (.tup [enc s, v]) (.k (bK (bs s v)))) :=
    ⟨by rw [put_ne ha]; exact T1.ins, by rw [put_ne hla]; exact T1.lab, by rw [put_ne hsa]; exact T1.saf, put_same⟩
  refine ⟨⟨_, e1⟩, _, _, T2.ins, f_first, (by decide : 2 ≤ 1000), .inr ⟨_, _, _, T2.fst, pair_depth s ov, by rw [dlook_dput, if_pos rfl], ?_⟩⟩
  have fin : F [some (.ref a), some (dS s), some (.ref q), some (.k v)] (put (put S1 fa (.dic none (dput fk (.tup [enc s, v]) (.k (bK (bs s v)))))) q (.lst ((acc.map fun w => D.k (wK w)) ++ [.k (wK ((bs s v).map (·.1)))]))) := by
    refine h1 c _ (fun b o b1 b2 e => ?_) ⟨by rw [put_ne (Ne.symm qa.1)]; exact T2.ins, by rw [put_ne (Ne.symm qa.2.1)]; exact T2.lab, by rw [put_ne (Ne.symm qa.2.2.1)]; exact T2.saf, by rw [put_ne (Ne.symm qa.2.2.2)]; exact T2.fst⟩ (by rw [put_same, List.map_append]; rfl)
    rw [put_ne b1, put_ne b2]
    exact hS _ _ e
  revert fin e1
  cases bs s v with
  | none => exact fun e1 fin => ⟨_, rfl, _, e1, by rw [List.length_map]; omega, fin⟩
  | some r => exact fun e1 fin => ⟨_, rfl, _, e1, by rw [List.length_map]; omega, fin⟩
end L3
/-! ## S9 -/
namespace L3
open PySem PySem.Spec L2
open PyProof.Rows hiding St
set_option hygiene false in
local macro_rules | `(tactic| walk_at "rd3") => `(tactic| simp only [a1, a2, asB, asI, asK, asP, asR, asT, asOwn, cN, cP, gN, gP, iD3, iE3, iL3, iR3, iS3, iT3, iZ3, rAbs3, rAdd3, rAll3, rApp3, rDictP3, rDictZ3, rEq3, rExt3, rI03, rI3, rIn3, rInt3, rIs3, rIsi3, rIx3, rLen3, rList3, rListD3, rListZ3, rMaxL3, rMin23, rMinL3, rNeg3, rPop3, rPopAt3, rRepr3, rSet3, rSl3, rSum3, rTuple3, rTupleW3, rdS, tAnd3, tAndV3, tAsg3, tB3, tBack3, tBreak3, tCall3, tChain3, tCons3, tDict0, tDisp3, tDrop3, tFld3, tFor3, tFst3, tGet3, tIf3, tIfS3, tK, tLc3, tLk3, tLkE3, tLst3, tM0, tM1, tMake3, tMeth3, tNever3, tNext3, tNil3, tNo3, tNot3, tNotV3, tOp3, tOr3, tOrV3, tOwn3, tPairs3, tPar3, tPar33, tRep3, tRet3, tSFld3, tSeq3, tSet3, tSl3, tSm3, tSortK3, tSub3, tT, tTup3, tUn3, tV, tWk3, tYes3, three, two, nks, Option.map, List.getElem?_cons_zero, List.getElem?_cons_succ, List.set_cons_zero, List.set_cons_succ, if_true, if_false, Bool.false_eq_true, ite_true, ite_false, reduceIte, List.length_cons, List.length_nil, Nat.zero_add, Nat.reduceAdd, true_and, and_true])
/-! strengths: fill, the whole -/
def othersL (L : List Nat → NK) (ws : List NK) (s : List Nat) : List NK := ws.filter fun v => decide (v ≠ L s)
theorem fill_loop {C : Addr} {D3 : Ends3} {a la sa fa q : Addr} {card s : List Nat} {vs : List NK} {lk sk : List (NK × D)} {L : List Nat → NK} {sf : List Nat → Nat} {bs : List Nat → NK → Option (Nat × List Nat)}
    (ha : a ≠ fa) (hla : la ≠ fa) (hsa : sa ≠ fa) (qa : q ≠ a ∧ q ≠ la ∧ q ≠ sa ∧ q ≠ fa) (hv : Val card s) (hc : card.length ≤ 100) (l1 : dlook lk (enc s) = some (.k (L s))) (o1 : labOk (L s)) : ∀ (ws : List NK) (fk : List (NK × D)) (acc : List (Option Nat)) (x : Option D) (S : Sto),
    Tabl S C a la sa fa card vs lk sk fk → S q = some (.lst (acc.map fun w => .k (wK w))) → acc.length + ws.length < 10000 → fk.length + ws.length < 900000 → (∀ v ∈ ws, valueV v = true) → (∀ p ∈ rais card s, ∀ v ∈ ws, EntT lk sk fk L sf bs v p.2) → (∀ v ∈ ws, v ≠ L s → bs s v = bestOf (fun t => worthF L sf bs s t v) (rais card s) none) →
    (∀ x S' fk', (∀ b o, b ≠ q → b ≠ fa → S b = some o → S' b = some o) → Tabl S' C a la sa fa card vs lk sk fk' → fk'.length ≤ fk.length + ws.length → (∀ t v, dlook fk' (.tup [enc t, v]) = if s = t ∧ v ∈ othersV L ws s then some (.k (bK (bs s v))) else dlook fk (.tup [enc t, v])) →
      S' q = some (.lst ((acc ++ (othersV L ws s).map fun v => (bs s v).map (·.1)).map fun w => .k (wK w))) → D3.nx [some (.ref a), some (dS s), some (.ref q), x] S') →
    for3 (gN 3) (r_t_fill_1 C (sp_t_best C)) (fun _ => True) D3 (ws.map D.k) [some (.ref a), some (dS s), some (.ref q), x] S
  | [], fk, acc, x, S, T, hq, _, _, _, _, _, hk => for3_nil.mpr ⟨trivial, hk x S fk (fun _ _ _ _ e => e) T (Nat.le_add_right ..) (fun t v => by rw [if_neg (fun z => by cases z.2)]) (by simpa [othersV] using hq)⟩
  | v :: ws, fk, acc, x, S, T, hq, hn, hf, hw, hE, hb, hk => by
    rw [List.map_cons]
    rw [List.length_cons] at hn hf
    refine for3_N.mpr ⟨trivial, ?_⟩
    refine fill_turn T ha hla hsa hq qa (by omega) hv hc (hw v (List.mem_cons_self ..)) (by omega) l1 o1 (fun p hp => hE p hp v (List.mem_cons_self ..)) (hb v (List.mem_cons_self ..)) (fun c => ?_) fun c S1 h1 T1 hq1 => ?_
    · refine fill_loop ha hla hsa qa hv hc l1 o1 ws fk acc _ S T hq (by omega) (by omega) (fun v hv => hw v (List.mem_cons_of_mem _ hv)) (fun p hp v hv => hE p hp v (List.mem_cons_of_mem _ hv)) (fun v hv => hb v (List.mem_cons_of_mem _ hv)) fun x S2 fk2 g1 g2 g3 g4 g5 => ?_
      have e : othersV L (v :: ws) s = othersV L ws s := by
        unfold othersV
        rw [List.filter_cons, if_neg (by simpa using c)]
      exact hk x S2 fk2 g1 g2 (by rw [List.length_cons]; omega) (by rw [e]; exact g4) (by rw [e]; exact g5)
    · have e : othersV L (v :: ws) s = v :: othersV L ws s := by
        unfold othersV
        rw [List.filter_cons, if_pos (by simpa using c)]
      have hl := dput_len fk (.tup [enc s, v]) (D.k (bK (bs s v)))
      have key : ∀ t u, dlook (dput fk (.tup [enc s, v]) (D.k (bK (bs s v)))) (.tup [enc t, u]) = if s = t ∧ u = v then some (.k (bK (bs s v))) else dlook fk (.tup [enc t, u]) := fun t u => by
        rw [dlook_dput]
        by_cases z : s = t ∧ u = v
        · rw [if_pos (by rw [z.1, z.2]), if_pos z]
        · rw [if_neg (fun w => z (by injection w with w; injection w with w1 w2; injection w2 with w2 _; exact ⟨enc_inj w1, w2.symm⟩)), if_neg z]
      refine fill_loop ha hla hsa qa hv hc l1 o1 ws _ _ _ S1 T1 hq1 (by rw [List.length_append]; simp; omega) (by omega) (fun v hv => hw v (List.mem_cons_of_mem _ hv)) (fun p hp u hu => ?_) (fun v hv => hb v (List.mem_cons_of_mem _ hv)) fun x S2 fk2 g1 g2 g3 g4 g5 => ?_
      · have := hE p hp u (List.mem_cons_of_mem _ hu)
        refine ⟨this.1, this.2.1, this.2.2.1, fun a b => ?_⟩
        rw [key, if_neg (fun z => rais_ne hp z.1.symm)]
        exact this.2.2.2 a b
      · refine hk x S2 fk2 (fun b o b1 b2 z => g1 b o b1 b2 (h1 b o b1 b2 z)) g2 (by rw [List.length_cons]; omega) (fun t u => ?_) ?_
        · rw [g4, key, e]
          by_cases z1 : s = t ∧ u ∈ othersV L ws s
          · rw [if_pos z1, if_pos ⟨z1.1, List.mem_cons_of_mem _ z1.2⟩]
          · rw [if_neg z1]
            by_cases z2 : s = t ∧ u = v
            · rw [if_pos z2, if_pos ⟨z2.1, by rw [z2.2]; exact List.mem_cons_self ..⟩, z2.2]
            · rw [if_neg z2, if_neg (fun z => (List.mem_cons.mp z.2).elim (fun w => z2 ⟨z.1, w⟩) fun w => z1 ⟨z.1, w⟩)]
        · rw [g5, e]
          simp
theorem rd_fill {C : Addr} (ds : List D) (S : Sto) (R : VK3) (hl : ds.length = 2) (h : sp_t_fill C ds S R) : r_t_fill C (sp_t_best C) { nx := fun _ S' => R Dz S', rt := R } (start3 n_t_fill ds) S := by
  obtain ⟨a, la, sa, fa, card, s, vs, lk, sk, fk, L, sf, bs, rfl, T, n1, n2, n3, n4, n5, hv, hc, hvs, ov, hsk, hfk, l1, o1, hE, hb, hne, hsafe, h⟩ := h
  have d1 : (enc s).depth ≤ 8 := Nat.le_trans (enc_depth s) (by decide)
  show _ ≤ 1000 ∧ ∀ q, S q = none → _
  refine ⟨by decide, fun q hq => ?_⟩
  have nq : ∀ {b o}, S b = some o → b ≠ q := fun {b o} e z => by rw [z, hq] at e; cases e
  have T1 : Tabl (put S q (.lst [])) C a la sa fa card vs lk sk fk :=
    ⟨by rw [put_ne (nq T.ins)]; exact T.ins, by rw [put_ne (nq T.lab)]; exact T.lab, by rw [put_ne (nq T.saf)]; exact T.saf, by rw [put_ne (nq T.fst)]; exact T.fst⟩
  refine ⟨_, _, T1.ins, f_values, ?_⟩
  refine fill_loop n2 n4 n5 ⟨(nq T.ins).symm, (nq T.lab).symm, (nq T.saf).symm, (nq T.fst).symm⟩ hv hc l1 o1 vs fk [] none _ T1 put_same (by simp; omega) (by omega) ov hE hb fun x S2 fk2 g1 g2 g3 g4 g5 => ?_
  rw [List.nil_append] at g5
  have fin : ∀ S3, S3 = put S2 sa (.dic none (dput sk (enc s) (Dn (sf s)))) → R Dz S3 := fun S3 e => by
    subst e
    refine h _ (dput sk (enc s) (Dn (sf s))) fk2 (fun b o b1 b2 z => ?_) ⟨by rw [put_ne n1]; exact g2.ins, by rw [put_ne n3]; exact g2.lab, put_same, by rw [put_ne n5.symm]; exact g2.fst⟩ (dput_len ..) g3 (fun t => ?_) g4
    · rw [put_ne b1]
      exact g1 b o (nq z) b2 (by rw [put_ne (nq z)]; exact z)
    · rw [dlook_dput]
      by_cases z : s = t
      · rw [if_pos z, if_pos (by rw [z])]
      · rw [if_neg z, if_neg (fun w => z (enc_inj w))]
  have setS : ∀ n, n = sf s → ∃ fs d, S2 a = some (.ins C fs) ∧ List.lookup ("safe" : Str) fs = some d ∧ rSet3 d (dS s) (Dn (n : Nat)) S2 fun S' => R Dz S' := fun n e =>
    ⟨_, _, g2.ins, f_safe, .inr ⟨sk, g2.saf, d1, by omega, by subst e; exact fin _ rfl⟩⟩
  revert g5 hsafe
  generalize (othersV L vs s).map (fun v => (bs s v).map (·.1)) = ws
  intro hsafe g5
  show NestedKey.depth .none ≤ 8 ∧ ((∃ ks, S2 q = some (.lst (List.map D.k ks)) ∧ if decide (NestedKey.none ∈ ks) = true then _ else _) ∨ _)
  refine ⟨by decide, .inl ⟨ws.map wK, by rw [g5, List.map_map]; rfl, ?_⟩⟩
  rcases hsafe with ⟨m1, e⟩ | ⟨m1, m, m2, m3, e⟩
  · rw [if_pos (decide_eq_true (List.mem_map.mpr ⟨none, m1, rfl⟩))]
    exact setS 0 e.symm
  · rw [if_neg (fun z => by
      obtain ⟨w, hw, z⟩ := List.mem_map.mp (of_decide_eq_true z)
      cases w with
      | none => exact m1 hw
      | some _ => cases z)]
    have ge : ws.map (fun w => D.k (wK w)) = List.map Dn (ws.map fun w => ((w.getD 0 : Nat) : Int)) := by
      rw [List.map_map]
      refine List.map_congr_left fun w hw => ?_
      cases w with
      | none => exact (m1 hw).elim
      | some _ => rfl
    refine ⟨ws.map fun w => ((w.getD 0 : Nat) : Int), by rw [g5, ge], by rw [List.length_map]; exact List.length_pos_of_mem m2, fun k hk hmin => ?_⟩
    have ek : k = (m : Nat) := by
      have a1 := hmin _ (List.mem_map.mpr ⟨some m, m2, rfl⟩)
      obtain ⟨w, hw, e⟩ := List.mem_map.mp hk
      cases w with
      | none => exact (m1 hw).elim
      | some j =>
        have := m3 j hw
        simp only [Option.getD_some] at a1 e
        omega
    subst ek
    have g := setS (1 + m) e.symm
    rw [show ((1 + m : Nat) : Int) = 1 + (m : Int) by omega] at g
    exact g
end L3
/-! ## S10 -/
namespace L3
open PySem PySem.Spec L2
open PyProof.Rows hiding St
set_option hygiene false in
local macro_rules | `(tactic| walk_at "rd3") => `(tactic| simp only [a1, a2, asB, asI, asK, asP, asR, asT, asOwn, cN, cP, gN, gP, iD3, iE3, iL3, iR3, iS3, iT3, iZ3, rAbs3, rAdd3, rAll3, rApp3, rDictP3, rDictZ3, rEq3, rExt3, rI03, rI3, rIn3, rInt3, rIs3, rIsi3, rIx3, rLen3, rList3, rListD3, rListZ3, rMaxL3, rMin23, rMinL3, rNeg3, rPop3, rPopAt3, rRepr3, rSet3, rSl3, rSum3, rTuple3, rTupleW3, rdS, tAnd3, tAndV3, tAsg3, tB3, tBack3, tBreak3, tCall3, tChain3, tCons3, tDict0, tDisp3, tDrop3, tFld3, tFor3, tFst3, tGet3, tIf3, tIfS3, tK, tLc3, tLk3, tLkE3, tLst3, tM0, tM1, tMake3, tMeth3, tNever3, tNext3, tNil3, tNo3, tNot3, tNotV3, tOp3, tOr3, tOrV3, tOwn3, tPairs3, tPar3, tPar33, tRep3, tRet3, tSFld3, tSeq3, tSet3, tSl3, tSm3, tSortK3, tSub3, tT, tTup3, tUn3, tV, tWk3, tYes3, three, two, nks, Option.map, List.getElem?_cons_zero, List.getElem?_cons_succ, List.set_cons_zero, List.set_cons_succ, if_true, if_false, Bool.false_eq_true, ite_true, ite_false, reduceIte, List.length_cons, List.length_nil, Nat.zero_add, Nat.reduceAdd, true_and, and_true])
/-! the tables, plain mathematics -/
theorem bestOf_congr {f g : List Nat → Option Nat} : ∀ {ps : List (Nat × List Nat)} {found : Option (Nat × List Nat)}, (∀ p ∈ ps, f p.2 = g p.2) → bestOf f ps found = bestOf g ps found
  | [], _, _ => rfl
  | p :: r, found, h => by
    have ih : ∀ x, bestOf f r x = bestOf g r x := fun x => bestOf_congr fun p hp => h p (List.mem_cons_of_mem _ hp)
    rw [bestOf, bestOf, h p (List.mem_cons_self ..)]
    cases g p.2 with
    | none => exact ih _
    | some w => cases found <;> exact ih _
/-- the safe strength from the worths of the other values -/
def safeOf (ws : List (Option Nat)) : Nat := if none ∈ ws then 0 else 1 + ((ws.filterMap id).min?.getD 0)
theorem safeOf_is {ws : List (Option Nat)} (h : ws ≠ []) : SafeIs ws (safeOf ws) := by
  unfold safeOf
  by_cases c : none ∈ ws
  · rw [if_pos c]; exact .inl ⟨c, rfl⟩
  · rw [if_neg c]
    refine .inr ⟨c, ?_⟩
    have ne : ws.filterMap id ≠ [] := by
      cases ws with
      | nil => exact (h rfl).elim
      | cons w r =>
        cases w with
        | none => exact (c (List.mem_cons_self ..)).elim
        | some k => simp
    cases e : (ws.filterMap id).min? with
    | none => exact (ne (List.min?_eq_none_iff.mp e)).elim
    | some m =>
      have := List.min?_eq_some_iff.mp e
      refine ⟨m, ?_, fun k hk => this.2 k ?_, rfl⟩
      · have := this.1
        rw [List.mem_filterMap] at this
        obtain ⟨a, ha, e⟩ := this
        simp only [id] at e
        rwa [← e]
      · exact List.mem_filterMap.mpr ⟨some k, hk, rfl⟩
section
variable (card : List Nat) (vs : List NK) (L : List Nat → NK)
mutual
def bsN : Nat → List Nat → NK → Option (Nat × List Nat)
  | 0, _, _ => none
  | n + 1, s, v => bestOf (fun t => worthF L (sfN n) (bsN n) s t v) (rais card s) none
def sfN : Nat → List Nat → Nat
  | 0, _ => 0
  | n + 1, s => safeOf ((othersV L vs s).map fun v => (bsN (n + 1) s v).map (·.1))
end
end
theorem val_sum : ∀ {c s : List Nat}, Val c s → s.sum ≤ c.sum
  | [], [], _ => Nat.le_refl _
  | t :: c, l :: s, h => by
    have := val_sum h.2
    have := h.1
    rw [List.sum_cons, List.sum_cons]
    omega
  | [], _ :: _, h => h.elim
  | _ :: _, [], h => h.elim
theorem val_app : ∀ {a b c d : List Nat}, Val a b → Val c d → Val (a ++ c) (b ++ d)
  | [], [], _, _, _, h => h
  | _ :: _, _ :: _, _, _, g, h => ⟨g.1, val_app g.2 h⟩
  | [], _ :: _, _, _, g, _ => g.elim
  | _ :: _, [], _, _, g, _ => g.elim
theorem upsAux_val : ∀ {c s cpre pre : List Nat}, Val c s → Val cpre pre → ∀ p ∈ upsAux pre c s, Val (cpre ++ c) p.2
  | [], _, _, _, _, _, p, hp => by simp [upsAux] at hp
  | _ :: _, [], _, _, h, _, _, _ => h.elim
  | t :: c, l :: s, cpre, pre, h, g, p, hp => by
    rw [upsAux, List.mem_append] at hp
    rcases hp with hp | hp
    · split at hp
      · rename_i lt
        rw [List.mem_singleton] at hp
        subst hp
        exact val_app g ⟨lt, h.2⟩
      · cases hp
    · have := upsAux_val (cpre := cpre ++ [t]) h.2 (val_app g (c := [t]) (d := [l]) ⟨h.1, trivial⟩) p hp
      rw [List.append_assoc] at this
      exact this
theorem rais_val {card s : List Nat} (h : Val card s) {p : Nat × List Nat} (hp : p ∈ rais card s) : Val card p.2 := upsAux_val (cpre := []) (pre := []) h trivial p hp
theorem worthF_congr {L : List Nat → NK} {f g : List Nat → Nat} {b c : List Nat → NK → Option (Nat × List Nat)} {s t : List Nat} {v : NK} (h1 : f t = g t) (h2 : b t v = c t v) : worthF L f b s t v = worthF L g c s t v := by
  unfold worthF
  rw [h1, h2]
section
variable {card : List Nat} {vs : List NK} {L : List Nat → NK}
theorem stepN_stable : ∀ (n : Nat) (s : List Nat), Val card s → card.sum - s.sum < n → (∀ v, bsN card vs L (n + 1) s v = bsN card vs L n s v) ∧ sfN card vs L (n + 1) s = sfN card vs L n s
  | 0, _, _, h => absurd h (Nat.not_lt_zero _)
  | n + 1, s, hv, h => by
    have g : ∀ v, bsN card vs L (n + 2) s v = bsN card vs L (n + 1) s v := fun v => by
      rw [bsN, bsN]
      refine bestOf_congr fun p hp => ?_
      have hp2 := rais_val hv hp
      have e1 := rais_sum hp
      have e2 := val_sum hp2
      have ih := stepN_stable n p.2 hp2 (by omega)
      exact worthF_congr ih.2 (ih.1 v)
    refine ⟨g, ?_⟩
    rw [sfN, sfN]
    congr 1
    exact List.map_congr_left fun v _ => by rw [g]
theorem stableN {s : List Nat} (hv : Val card s) : ∀ k, (∀ v, bsN card vs L (card.sum - s.sum + 1 + k) s v = bsN card vs L (card.sum - s.sum + 1) s v) ∧ sfN card vs L (card.sum - s.sum + 1 + k) s = sfN card vs L (card.sum - s.sum + 1) s
  | 0 => ⟨fun _ => rfl, rfl⟩
  | k + 1 => by
    have g := stepN_stable (vs := vs) (L := L) (card.sum - s.sum + 1 + k) s hv (by omega)
    have ih := stableN hv k
    exact ⟨fun v => (g.1 v).trans (ih.1 v), g.2.trans ih.2⟩
end
def bsT (card : List Nat) (vs : List NK) (L : List Nat → NK) (s : List Nat) (v : NK) : Option (Nat × List Nat) := bsN card vs L (card.sum - s.sum + 1) s v
def sfT (card : List Nat) (vs : List NK) (L : List Nat → NK) (s : List Nat) : Nat := sfN card vs L (card.sum - s.sum + 1) s
theorem bsT_eq {card : List Nat} {vs : List NK} {L : List Nat → NK} {s : List Nat} (hv : Val card s) (v : NK) : bsT card vs L s v = bestOf (fun t => worthF L (sfT card vs L) (bsT card vs L) s t v) (rais card s) none := by
  show bsN card vs L (card.sum - s.sum + 1) s v = _
  rw [bsN]
  refine bestOf_congr fun p hp => ?_
  have hp2 := rais_val hv hp
  have e1 := rais_sum hp
  have e2 := val_sum hp2
  have e3 : card.sum - p.2.sum + 1 = card.sum - s.sum := by omega
  refine worthF_congr ?_ ?_
  · show _ = sfN card vs L (card.sum - p.2.sum + 1) p.2
    rw [e3]
  · show _ = bsN card vs L (card.sum - p.2.sum + 1) p.2 v
    rw [e3]
theorem sfT_eq {card : List Nat} {vs : List NK} {L : List Nat → NK} (s : List Nat) : sfT card vs L s = safeOf ((othersV L vs s).map fun v => (bsT card vs L s v).map (·.1)) := by
  show sfN card vs L (card.sum - s.sum + 1) s = _
  rw [sfN]
  rfl
end L3
/-! ## S11 -/
namespace L3
open PySem PySem.Spec L2
open PyProof.Rows hiding St
set_option hygiene false in
local macro_rules | `(tactic| walk_at "rd3") => `(tactic| simp only [a1, a2, asB, asI, asK, asP, asR, asT, asOwn, cN, cP, gN, gP, iD3, iE3, iL3, iR3, iS3, iT3, iZ3, rAbs3, rAdd3, rAll3, rApp3, rDictP3, rDictZ3, rEq3, rExt3, rI03, rI3, rIn3, rInt3, rIs3, rIsi3, rIx3, rLen3, rList3, rListD3, rListZ3, rMaxL3, rMin23, rMinL3, rNeg3, rPop3, rPopAt3, rRepr3, rSet3, rSl3, rSum3, rTuple3, rTupleW3, rdS, tAnd3, tAndV3, tAsg3, tB3, tBack3, tBreak3, tCall3, tChain3, tCons3, tDict0, tDisp3, tDrop3, tFld3, tFor3, tFst3, tGet3, tIf3, tIfS3, tK, tLc3, tLk3, tLkE3, tLst3, tM0, tM1, tMake3, tMeth3, tNever3, tNext3, tNil3, tNo3, tNot3, tNotV3, tOp3, tOr3, tOrV3, tOwn3, tPairs3, tPar3, tPar33, tRep3, tRet3, tSFld3, tSeq3, tSet3, tSl3, tSm3, tSortK3, tSub3, tT, tTup3, tUn3, tV, tWk3, tYes3, three, two, nks, Option.map, List.getElem?_cons_zero, List.getElem?_cons_succ, List.set_cons_zero, List.set_cons_succ, if_true, if_false, Bool.false_eq_true, ite_true, ite_false, reduceIte, List.length_cons, List.length_nil, Nat.zero_add, Nat.reduceAdd, true_and, and_true])
/-! init -/
theorem stepS_inv : ∀ (f : List (List Nat)) (t i : Nat) (x : List Nat), (stepS f t)[i]? = some x → ∃ p l q, l ≤ t ∧ i = p * (t + 1) + l ∧ f[p]? = some q ∧ x = q ++ [l]
  | [], t, i, x, h => by simp [stepS] at h
  | q :: f, t, i, x, h => by
    have ll : (lvls q t).length = t + 1 := by simp [lvls]
    have e : stepS (q :: f) t = lvls q t ++ stepS f t := by simp [stepS]
    rw [e] at h
    by_cases c : i < t + 1
    · rw [List.getElem?_append_left (by omega)] at h
      refine ⟨0, i, q, by omega, by omega, rfl, ?_⟩
      unfold lvls at h
      rw [List.getElem?_map, List.getElem?_range c] at h
      injection h with h
      exact h.symm
    · rw [List.getElem?_append_right (by omega), ll] at h
      obtain ⟨p, l, q2, h1, h2, h3, h4⟩ := stepS_inv f t _ x h
      exact ⟨p + 1, l, q2, h1, by rw [Nat.succ_mul]; omega, by simpa using h3, h4⟩
theorem fold_inv : ∀ (card : List Nat) (f : List (List Nat)) (i : Nat) (x : List Nat), (card.foldl stepS f)[i]? = some x → ∃ p s q, Val card s ∧ f[p]? = some q ∧ x = q ++ s ∧ place card s p = i
  | [], f, i, x, h => ⟨i, [], x, trivial, h, by simp, rfl⟩
  | t :: c, f, i, x, h => by
    obtain ⟨p, s, q, h1, h2, h3, h4⟩ := fold_inv c (stepS f t) i x h
    obtain ⟨p2, l, q2, g1, g2, g3, g4⟩ := stepS_inv f t p q h2
    exact ⟨p2, l :: s, q2, ⟨g1, h1⟩, g3, by rw [h3, g4]; simp, by rw [place, ← g2]; exact h4⟩
theorem sts_inv {card : List Nat} {i : Nat} {x : List Nat} (h : (sts card)[i]? = some x) : Val card x ∧ place card x 0 = i := by
  obtain ⟨p, s, q, h1, h2, h3, h4⟩ := fold_inv card [[]] i x h
  cases p with
  | succ p => simp at h2
  | zero =>
    simp at h2
    subst h2
    rw [List.nil_append] at h3
    subst h3
    exact ⟨h1, h4⟩
theorem mem_sts {card s : List Nat} : s ∈ sts card ↔ Val card s := by
  constructor
  · intro h
    obtain ⟨i, hi⟩ := List.mem_iff_getElem?.mp h
    exact (sts_inv hi).1
  · intro h
    exact List.mem_iff_getElem?.mpr ⟨_, sts_at h⟩
theorem place_lt : ∀ {c s : List Nat} {p q : Nat}, Val c s → p < q → place c s p < place c s q
  | [], [], _, _, _, h => h
  | t :: c, l :: s, p, q, v, h => by
    rw [place, place]
    refine place_lt v.2 ?_
    have : p * (t + 1) < q * (t + 1) := Nat.mul_lt_mul_of_pos_right h (Nat.succ_pos t)
    omega
  | [], _ :: _, _, _, h, _ => h.elim
  | _ :: _, [], _, _, h, _ => h.elim
theorem place_app : ∀ {a b c d : List Nat} (p : Nat), Val a b → place (a ++ c) (b ++ d) p = place c d (place a b p)
  | [], [], _, _, _, _ => rfl
  | _ :: _, _ :: _, _, _, _, h => by
    rw [List.cons_append, List.cons_append, place, place]
    exact place_app _ h.2
  | [], _ :: _, _, _, _, h => h.elim
  | _ :: _, [], _, _, _, h => h.elim
theorem upsAux_place : ∀ {c s cpre pre : List Nat}, Val c s → Val cpre pre → ∀ p ∈ upsAux pre c s, place (cpre ++ c) (pre ++ s) 0 < place (cpre ++ c) p.2 0
  | [], _, _, _, _, _, p, hp => by simp [upsAux] at hp
  | _ :: _, [], _, _, h, _, _, _ => h.elim
  | t :: c, l :: s, cpre, pre, h, g, p, hp => by
    rw [upsAux, List.mem_append] at hp
    rcases hp with hp | hp
    · split at hp
      · rename_i lt
        rw [List.mem_singleton] at hp
        subst hp
        show _ < place (cpre ++ t :: c) (pre ++ (l + 1) :: s) 0
        rw [place_app 0 g, place_app 0 g, place, place]
        exact place_lt h.2 (by omega)
      · cases hp
    · have := upsAux_place (cpre := cpre ++ [t]) h.2 (val_app g (c := [t]) (d := [l]) ⟨h.1, trivial⟩) p hp
      rw [List.append_assoc, List.append_assoc] at this
      exact this
theorem rais_place {card s : List Nat} (h : Val card s) {p : Nat × List Nat} (hp : p ∈ rais card s) : place card s 0 < place card p.2 0 := upsAux_place (cpre := []) (pre := []) h trivial p hp
end L3
/-! ## S12 -/
namespace L3
open PySem PySem.Spec L2
open PyProof.Rows hiding St
set_option hygiene false in
local macro_rules | `(tactic| walk_at "rd3") => `(tactic| simp only [a1, a2, asB, asI, asK, asP, asR, asT, asOwn, cN, cP, gN, gP, iD3, iE3, iL3, iR3, iS3, iT3, iZ3, rAbs3, rAdd3, rAll3, rApp3, rDictP3, rDictZ3, rEq3, rExt3, rI03, rI3, rIn3, rInt3, rIs3, rIsi3, rIx3, rLen3, rList3, rListD3, rListZ3, rMaxL3, rMin23, rMinL3, rNeg3, rPop3, rPopAt3, rRepr3, rSet3, rSl3, rSum3, rTuple3, rTupleW3, rdS, tAnd3, tAndV3, tAsg3, tB3, tBack3, tBreak3, tCall3, tChain3, tCons3, tDict0, tDisp3, tDrop3, tFld3, tFor3, tFst3, tGet3, tIf3, tIfS3, tK, tLc3, tLk3, tLkE3, tLst3, tM0, tM1, tMake3, tMeth3, tNever3, tNext3, tNil3, tNo3, tNot3, tNotV3, tOp3, tOr3, tOrV3, tOwn3, tPairs3, tPar3, tPar33, tRep3, tRet3, tSFld3, tSeq3, tSet3, tSl3, tSm3, tSortK3, tSub3, tT, tTup3, tUn3, tV, tWk3, tYes3, three, two, nks, Option.map, List.getElem?_cons_zero, List.getElem?_cons_succ, List.set_cons_zero, List.set_cons_succ, if_true, if_false, Bool.false_eq_true, ite_true, ite_false, reduceIte, List.length_cons, List.length_nil, Nat.zero_add, Nat.reduceAdd, true_and, and_true])
/-! init, the loop -/
def DoneT (card : List Nat) (vs : List NK) (L : List Nat → NK) (n : Nat) (sk fk : List (NK × D)) : Prop := (∀ t, Val card t → dlook sk (enc t) = if n ≤ place card t 0 ∧ L t ≠ .none then some (Dn (sfT card vs L t)) else none) ∧
  ∀ t v, Val card t → dlook fk (.tup [enc t, v]) = if n ≤ place card t 0 ∧ L t ≠ .none ∧ v ∈ othersV L vs t then some (.k (bK (bsT card vs L t v))) else none
theorem place_inj {card s t : List Nat} (h : Val card s) (g : Val card t) (e : place card s 0 = place card t 0) : s = t := by
  have a := sts_at h
  have b := sts_at g
  rw [e, b] at a
  exact (Option.some.inj a).symm
theorem init_loop {C : Addr} {D3 : Ends3} {a la sa fa : Addr} {card : List Nat} {vs : List NK} {lk : List (NK × D)} {L : List Nat → NK} {c : D} {S0 : Sto} (n1 : a ≠ sa) (n2 : a ≠ fa) (n3 : la ≠ sa) (n4 : la ≠ fa) (n5 : sa ≠ fa) (hc : card.length ≤ 100) (hvs : vs.length ≤ 100) (ov : ∀ v ∈ vs, valueV v = true) (hlab : ∀ t, Val card t → dlook lk (enc t) = some (.k (L t)) ∧ labOk (L t)) (hoth : ∀ t, othersV L vs t ≠ []) :
    ∀ (n : Nat) (sk fk : List (NK × D)) (x : Option D) (S : Sto), n ≤ size card → Tabl S C a la sa fa card vs lk sk fk → (∀ b o, b ≠ sa → b ≠ fa → S0 b = some o → S b = some o) → DoneT card vs L n sk fk → sk.length + n < 2000 → fk.length + n * 100 < 99000 →
      (∀ x S' sk' fk', (∀ b o, b ≠ sa → b ≠ fa → S0 b = some o → S' b = some o) → Tabl S' C a la sa fa card vs lk sk' fk' → DoneT card vs L 0 sk' fk' → D3.nx [some (.ref a), some c, x] S') →
      for3 (gN 2) (r_t_init_1 C sp_states sp_values_of (sp_t_fill C)) (fun _ => True) D3 ((((sts card).take n).reverse).map dS) [some (.ref a), some c, x] S
  | 0, sk, fk, x, S, _, T, h0, hd, _, _, hk => for3_nil.mpr ⟨trivial, hk x S sk fk h0 T hd⟩
  | n + 1, sk, fk, x, S, hn, T, h0, hd, l1, l2, hk => by
    have hlt : n < (sts card).length := by rw [sts_len]; exact hn
    obtain ⟨s, hs⟩ : ∃ s, (sts card)[n]? = some s := ⟨_, List.getElem?_eq_getElem hlt⟩
    obtain ⟨hv, hpl⟩ := sts_inv hs
    have e : ((sts card).take (n + 1)).reverse = s :: ((sts card).take n).reverse := by
      rw [List.take_succ, hs]
      simp
    rw [e, List.map_cons]
    refine for3_N.mpr ⟨trivial, ?_⟩
    have d1 : (enc s).depth ≤ 8 := Nat.le_trans (enc_depth s) (by decide)
    show ∃ fs d, S a = some (.ins C fs) ∧ List.lookup ("labels" : Str) fs = some d ∧ _
    refine ⟨_, _, T.ins, f_labels, .inr ⟨_, lk, _, T.lab, d1, (hlab s hv).1, ?_⟩⟩
    show isN Dz = true ∧ if (!isN (.k (L s))) = true then _ else _
    refine ⟨rfl, ?_⟩
    have others : ∀ t, Val card t → n ≤ place card t 0 → s ≠ t → n + 1 ≤ place card t 0 := fun t ht h ne => by
      have : place card s 0 ≠ place card t 0 := fun z => ne (place_inj hv ht z)
      omega
    by_cases cz : L s = .none
    · rw [if_neg (by rw [cz]; decide)]
      refine init_loop n1 n2 n3 n4 n5 hc hvs ov hlab hoth n sk fk _ S (by omega) T h0 ⟨fun t ht => ?_, fun t v ht => ?_⟩ (by omega) (by omega) hk
      · rw [hd.1 t ht]
        by_cases z : s = t
        · subst z
          rw [if_neg (fun w => w.2 cz), if_neg (fun w => w.2 cz)]
        · by_cases w : n ≤ place card t 0
          · simp [w, others t ht w z]
          · rw [if_neg (fun y => w (by omega)), if_neg (fun y => w y.1)]
      · rw [hd.2 t v ht]
        by_cases z : s = t
        · subst z
          rw [if_neg (fun w => w.2.1 cz), if_neg (fun w => w.2.1 cz)]
        · by_cases w : n ≤ place card t 0
          · simp [w, others t ht w z]
          · rw [if_neg (fun y => w (by omega)), if_neg (fun y => w y.1)]
    · have nz : (!isN (.k (L s))) = true := by
        revert cz
        generalize L s = q
        cases q <;> intro cz <;> first | rfl | exact (cz rfl).elim
      rw [if_pos nz]
      show ∃ fs, S a = some (.ins C fs) ∧ List.lookup ("fill" : Str) fs = none ∧ _ = _ ∧ sp_t_fill C [.ref a, dS s] S _
      refine ⟨_, T.ins, f_none (by decide +kernel), rfl, a, la, sa, fa, card, s, vs, lk, sk, fk, L, sfT card vs L, bsT card vs L, rfl, T, n1, n2, n3, n4, n5, hv, hc, by omega, ov, by omega, by omega, (hlab s hv).1, (hlab s hv).2, fun p hp v hmem => ?_, fun v _ _ => bsT_eq hv v, hoth s, ?_, fun S1 sk1 fk1 g0 T1 g1 g2 g3 g4 => ?_⟩
      · have hp2 := rais_val hv hp
        have hpp := rais_place hv hp
        refine ⟨(hlab _ hp2).1, (hlab _ hp2).2, fun w => ?_, fun w1 w2 => ?_⟩
        · rw [hd.1 _ hp2, if_pos ⟨by omega, w⟩]
        · rw [hd.2 _ _ hp2, if_pos ⟨by omega, w2, List.mem_filter.mpr ⟨hmem, decide_eq_true (Ne.symm w1)⟩⟩]
      · rw [sfT_eq]
        exact safeOf_is (fun z => hoth s (List.map_eq_nil_iff.mp z))
      · refine init_loop n1 n2 n3 n4 n5 hc hvs ov hlab hoth n sk1 fk1 _ S1 (by omega) T1 (fun b o b1 b2 z => g0 b o b1 b2 (h0 b o b1 b2 z)) ⟨fun t ht => ?_, fun t v ht => ?_⟩ (by omega) (by omega) hk
        · rw [g3, hd.1 t ht]
          by_cases z : s = t
          · subst z
            rw [if_pos rfl, if_pos ⟨by omega, cz⟩]
          · rw [if_neg z]
            by_cases w : n ≤ place card t 0
            · simp [w, others t ht w z]
            · rw [if_neg (fun y => w (by omega)), if_neg (fun y => w y.1)]
        · rw [g4, hd.2 t v ht]
          by_cases z : s = t
          · subst z
            by_cases m : v ∈ othersV L vs s
            · rw [if_pos ⟨rfl, m⟩, if_pos ⟨by omega, cz, m⟩]
            · rw [if_neg (fun w => m w.2), if_neg (fun w => m w.2.2), if_neg (fun w => m w.2.2)]
          · rw [if_neg (fun w => z w.1)]
            by_cases w : n ≤ place card t 0
            · simp [w, others t ht w z]
            · rw [if_neg (fun y => w (by omega)), if_neg (fun y => w y.1)]
end L3
/-! ## S13 -/
namespace L3
open PySem PySem.Spec L2
open PyProof.Rows hiding St
set_option hygiene false in
local macro_rules | `(tactic| walk_at "rd3") => `(tactic| simp only [a1, a2, asB, asI, asK, asP, asR, asT, asOwn, cN, cP, gN, gP, iD3, iE3, iL3, iR3, iS3, iT3, iZ3, rAbs3, rAdd3, rAll3, rApp3, rDictP3, rDictZ3, rEq3, rExt3, rI03, rI3, rIn3, rInt3, rIs3, rIsi3, rIx3, rLen3, rList3, rListD3, rListZ3, rMaxL3, rMin23, rMinL3, rNeg3, rPop3, rPopAt3, rRepr3, rSet3, rSl3, rSum3, rTuple3, rTupleW3, rdS, tAnd3, tAndV3, tAsg3, tB3, tBack3, tBreak3, tCall3, tChain3, tCons3, tDict0, tDisp3, tDrop3, tFld3, tFor3, tFst3, tGet3, tIf3, tIfS3, tK, tLc3, tLk3, tLkE3, tLst3, tM0, tM1, tMake3, tMeth3, tNever3, tNext3, tNil3, tNo3, tNot3, tNotV3, tOp3, tOr3, tOrV3, tOwn3, tPairs3, tPar3, tPar33, tRep3, tRet3, tSFld3, tSeq3, tSet3, tSl3, tSm3, tSortK3, tSub3, tT, tTup3, tUn3, tV, tWk3, tYes3, three, two, nks, Option.map, List.getElem?_cons_zero, List.getElem?_cons_succ, List.set_cons_zero, List.set_cons_succ, if_true, if_false, Bool.false_eq_true, ite_true, ite_false, reduceIte, List.length_cons, List.length_nil, Nat.zero_add, Nat.reduceAdd, true_and, and_true])
/-! init, the whole -/
theorem dputs_look {α : Type} : ∀ (ps kvs : List (NK × α)) (k : NK) (v : α), (∀ p ∈ ps, p.1 = k → p.2 = v) → ((∃ p ∈ ps, p.1 = k) ∨ dlook kvs k = some v) → dlook (dputs kvs ps) k = some v
  | [], kvs, k, v, _, h => h.elim (fun ⟨_, z, _⟩ => by cases z) id
  | p :: ps, kvs, k, v, h1, h2 => by
    show dlook (dputs (dput kvs p.1 p.2) ps) k = some v
    refine dputs_look ps _ k v (fun q hq => h1 q (List.mem_cons_of_mem _ hq)) ?_
    rw [dlook_dput]
    by_cases e : p.1 = k
    · rw [if_pos e, h1 p (List.mem_cons_self ..) e]
      exact .inr rfl
    · rw [if_neg e]
      rcases h2 with ⟨q, hq, z⟩ | h2
      · rcases List.mem_cons.mp hq with rfl | hq
        · exact (e z).elim
        · exact .inl ⟨q, hq, z⟩
      · exact .inr h2
theorem zip_look {card : List Nat} {labs : List NK} (hl : labs.length = size card) {t : List Nat} (hv : Val card t) : dlook (dputs [] ((((sts card).map enc).zip labs).map fun p => (p.1, D.k p.2))) (enc t) = some (.k (lab card labs t)) := by
  refine dputs_look _ _ _ _ (fun p hp e => ?_) (.inl ?_)
  · obtain ⟨q, hq, rfl⟩ := List.mem_map.mp hp
    obtain ⟨i, hi⟩ := List.mem_iff_getElem?.mp hq
    rw [List.getElem?_zip_eq_some, List.getElem?_map] at hi
    obtain ⟨h1, h2⟩ := hi
    obtain ⟨s, hs, e2⟩ := Option.map_eq_some_iff.mp h1
    have es : s = t := enc_inj (e2.trans e)
    subst es
    have e3 := (sts_inv hs).2
    have e4 := labs_at hv hl
    rw [e3, h2] at e4
    exact congrArg D.k (Option.some.inj e4)
  · refine ⟨(enc t, .k (lab card labs t)), List.mem_map.mpr ⟨(enc t, lab card labs t), List.mem_iff_getElem?.mpr ⟨place card t 0, ?_⟩, rfl⟩, rfl⟩
    rw [List.getElem?_zip_eq_some, List.getElem?_map, sts_at hv]
    exact ⟨rfl, labs_at hv hl⟩
theorem lab_ok_of {card : List Nat} {labs : List NK} (h : ∀ v ∈ labs, labOk v) (t : List Nat) : labOk (lab card labs t) := by
  unfold lab
  cases e : labs[place card t 0]? with
  | none => exact .inl rfl
  | some v => exact h v (List.mem_iff_getElem?.mpr ⟨_, e⟩)
def sp_t_init (C : Addr) : Sp3 := fun ds S R => ∃ (a : Addr) (card : List Nat) (labs : List NK), ds = [.ref a, codeD card labs] ∧ S a = some (.ins C []) ∧ card.length ≤ 100 ∧ size card ≤ 100 ∧ labs.length = size card ∧ (∀ v ∈ labs, labOk v) ∧
  (∀ vs, Uniq labs vs → vs.length ≤ 100 ∧ (∀ v ∈ vs, valueV v = true) ∧ ∀ t, othersV (lab card labs) vs t ≠ []) ∧
  ∀ (S' : Sto) (la sa fa : Addr) (vs : List NK) (lk sk fk : List (NK × D)), Uniq labs vs → (∀ b o, b ≠ a → S b = some o → S' b = some o) → Tabl S' C a la sa fa card vs lk sk fk → (∀ t, Val card t → dlook lk (enc t) = some (.k (lab card labs t))) → DoneT card vs (lab card labs) 0 sk fk → R Dz S'
theorem fput1 (d : D) : fput ("card" : Str) d [] = [(("card" : Str), d)] := rfl
theorem fput2 (d e : D) : fput ("labels" : Str) e [(("card" : Str), d)] = [(("card" : Str), d), ("labels", e)] := rfl
theorem fput3 (d e f : D) : fput ("code_values" : Str) f [(("card" : Str), d), ("labels", e)] = [(("card" : Str), d), ("labels", e), ("code_values", f)] := rfl
theorem fput4 (d e f g : D) : fput ("safe" : Str) g [(("card" : Str), d), ("labels", e), ("code_values", f)] = [(("card" : Str), d), ("labels", e), ("code_values", f), ("safe", g)] := rfl
theorem fput5 (d e f g h : D) : fput ("first_steps" : Str) h [(("card" : Str), d), ("labels", e), ("code_values", f), ("safe", g)] = [(("card" : Str), d), ("labels", e), ("code_values", f), ("safe", g), ("first_steps", h)] := rfl
theorem rd_init {C : Addr} (ds : List D) (S : Sto) (R : VK3) (hl : ds.length = 2) (h : sp_t_init C ds S R) : r_t_init C sp_states sp_values_of (sp_t_fill C) { nx := fun _ S' => R Dz S', rt := R } (start3 n_t_init ds) S := by
  obtain ⟨a, card, labs, rfl, ea, hc, hz, hlen, hlab, hvs, h⟩ := h
  refine ⟨_, rfl, ?_⟩
  refine ⟨[], ea, by decide, ?_⟩
  refine ⟨_, rfl, rfl, card, rfl, hc, by omega, fun S1 h1 => ⟨_, rfl, ?_⟩⟩
  have e1 := h1 _ _ (put_same (S := S) (a := a))
  refine ⟨fun k hk => ?_, fun la hla => ?_⟩
  · obtain ⟨t, _, rfl⟩ := List.mem_map.mp hk
    exact Nat.le_trans (enc_depth t) (by decide)
  have nla : a ≠ la := fun z => by rw [← z, e1] at hla; cases hla
  rw [fput1] at e1
  refine ⟨_, (put_ne nla).trans e1, (by decide : 1 ≤ 100), ?_⟩
  rw [fput2]
  refine ⟨rfl, _, labs, rfl, by omega, hlab, fun vs S2 hu h2 => ?_⟩
  have e2 := h2 _ _ put_same
  have e3 := h2 la _ ((put_ne (Ne.symm nla)).trans put_same)
  refine ⟨_, e2, (by decide : 2 ≤ 100), ?_⟩
  rw [fput3]
  intro sa hsa
  have nsa : a ≠ sa := fun z => by rw [← z, put_same] at hsa; cases hsa
  have lsa : la ≠ sa := fun z => by rw [← z, put_ne (Ne.symm nla), e3] at hsa; cases hsa
  refine ⟨_, (put_ne nsa).trans put_same, (by decide : 3 ≤ 100), ?_⟩
  rw [fput4]
  intro fa hfa
  have nfa : a ≠ fa := fun z => by rw [← z, put_same] at hfa; cases hfa
  have lfa : la ≠ fa := fun z => by rw [← z, put_ne (Ne.symm nla), put_ne lsa, put_ne (Ne.symm nla), e3] at hfa; cases hfa
  have sfa : sa ≠ fa := fun z => by rw [← z, put_ne (Ne.symm nsa), put_same] at hfa; cases hfa
  refine ⟨_, (put_ne nfa).trans put_same, (by decide : 4 ≤ 100), ?_⟩
  rw [fput5]
  refine ⟨_, rfl, rfl, card, rfl, hc, by omega, fun S5 h5 => ?_⟩
  obtain ⟨v1, v2, v3⟩ := hvs vs hu
  have ei : List.map D.k ((sts card).map enc).reverse = (((sts card).take (size card)).reverse).map dS := by
    rw [← sts_len, List.take_length, ← List.map_reverse, List.map_map]
    rfl
  show for3 (gN 2) _ (fun _ => True) _ (List.map D.k ((sts card).map enc).reverse) [some (.ref a), some (codeD card labs), none] S5
  rw [ei]
  have T5 : Tabl S5 C a la sa fa card vs _ [] [] := ⟨h5 _ _ put_same, h5 _ _ ((put_ne (Ne.symm nla)).trans ((put_ne lfa).trans ((put_ne (Ne.symm nla)).trans ((put_ne lsa).trans ((put_ne (Ne.symm nla)).trans e3))))), h5 _ _ ((put_ne (Ne.symm nsa)).trans ((put_ne sfa).trans ((put_ne (Ne.symm nsa)).trans put_same))), h5 _ _ ((put_ne (Ne.symm nfa)).trans put_same)⟩
  refine init_loop (S0 := S5) nsa nfa lsa lfa sfa hc v1 v2 (fun t ht => ⟨zip_look hlen ht, lab_ok_of hlab t⟩) v3 (size card) [] [] none S5 (Nat.le_refl _) T5 (fun _ _ _ _ e => e) ⟨fun t ht => ?_, fun t v ht => ?_⟩ (by rw [List.length_nil]; omega) (by rw [List.length_nil]; omega) fun x S6 sk fk g0 T6 hd => ?_
  · have := (List.getElem?_eq_some_iff.mp (sts_at ht)).1
    rw [sts_len] at this
    rw [if_neg (fun z => by omega)]
    rfl
  · have := (List.getElem?_eq_some_iff.mp (sts_at ht)).1
    rw [sts_len] at this
    rw [if_neg (fun z => by omega)]
    rfl
  · refine h S6 la sa fa vs _ sk fk hu (fun b o ba eb => ?_) T6 (fun t ht => zip_look hlen ht) hd
    have k1 := h1 b o ((put_ne ba).trans eb)
    have bl : b ≠ la := fun z => by rw [z, hla] at k1; cases k1
    have k2 := h2 b o ((put_ne ba).trans ((put_ne bl).trans k1))
    have bs : b ≠ sa := fun z => by rw [← z, put_ne ba, k2] at hsa; cases hsa
    have bf : b ≠ fa := fun z => by rw [← z, put_ne ba, put_ne bs, put_ne ba, k2] at hfa; cases hfa
    exact g0 b o bs bf (h5 b o ((put_ne ba).trans ((put_ne bf).trans ((put_ne ba).trans ((put_ne bs).trans ((put_ne ba).trans k2))))))
end L3
/-! ## S14 -/
namespace L3
open PySem PySem.Spec L2
open PyProof.Rows hiding St
set_option hygiene false in
local macro_rules | `(tactic| walk_at "rd3") => `(tactic| simp only [a1, a2, asB, asI, asK, asP, asR, asT, asOwn, cN, cP, gN, gP, iD3, iE3, iL3, iR3, iS3, iT3, iZ3, rAbs3, rAdd3, rAll3, rApp3, rDictP3, rDictZ3, rEq3, rExt3, rI03, rI3, rIn3, rInt3, rIs3, rIsi3, rIx3, rLen3, rList3, rListD3, rListZ3, rMaxL3, rMin23, rMinL3, rNeg3, rPop3, rPopAt3, rRepr3, rSet3, rSl3, rSum3, rTuple3, rTupleW3, rdS, tAnd3, tAndV3, tAsg3, tB3, tBack3, tBreak3, tCall3, tChain3, tCons3, tDict0, tDisp3, tDrop3, tFld3, tFor3, tFst3, tGet3, tIf3, tIfS3, tK, tLc3, tLk3, tLkE3, tLst3, tM0, tM1, tMake3, tMeth3, tNever3, tNext3, tNil3, tNo3, tNot3, tNotV3, tOp3, tOr3, tOrV3, tOwn3, tPairs3, tPar3, tPar33, tRep3, tRet3, tSFld3, tSeq3, tSet3, tSl3, tSm3, tSortK3, tSub3, tT, tTup3, tUn3, tV, tWk3, tYes3, three, two, nks, Option.map, List.getElem?_cons_zero, List.getElem?_cons_succ, List.set_cons_zero, List.set_cons_succ, if_true, if_false, Bool.false_eq_true, ite_true, ite_false, reduceIte, List.length_cons, List.length_nil, Nat.zero_add, Nat.reduceAdd, true_and, and_true])
/-! the way -/
def restN (L : List Nat → NK) (bs : List Nat → NK → Option (Nat × List Nat)) (v : NK) : Nat → List Nat → Option (List (List Nat))
  | 0, _ => none
  | n + 1, s => if L s = v then some [] else match bs s v with
    | none => none
    | some r => (restN L bs v n r.2).map (r.2 :: ·)
theorem bestOf_mem {f : List Nat → Option Nat} : ∀ {ps : List (Nat × List Nat)} {found r : Option (Nat × List Nat)}, bestOf f ps found = r → r = found ∨ ∃ p ∈ ps, ∃ w, f p.2 = some w ∧ r = some (w, p.2)
  | [], found, r, h => .inl h.symm
  | p :: ps, found, r, h => by
    rw [bestOf] at h
    cases e : f p.2 with
    | none =>
      rw [e] at h
      rcases bestOf_mem h with g | ⟨q, hq, w, h1, h2⟩
      · exact .inl g
      · exact .inr ⟨q, List.mem_cons_of_mem _ hq, w, h1, h2⟩
    | some w =>
      rw [e] at h
      cases found with
      | none =>
        rcases bestOf_mem h with g | ⟨q, hq, w, h1, h2⟩
        · exact .inr ⟨p, List.mem_cons_self .., _, e, g⟩
        · exact .inr ⟨q, List.mem_cons_of_mem _ hq, w, h1, h2⟩
      | some z =>
        rcases bestOf_mem h with g | ⟨q, hq, w, h1, h2⟩
        · split at g
          · exact .inr ⟨p, List.mem_cons_self .., _, e, g⟩
          · exact .inl g
        · exact .inr ⟨q, List.mem_cons_of_mem _ hq, w, h1, h2⟩
def wayD (b : Addr) (s : List Nat) : Option (List (List Nat)) → D
  | none => Dz
  | some r => .wy b (enc s :: r.map enc)
def sp_t_way (C : Addr) : Sp3 := fun ds S R => ∃ (a la sa fa b : Addr) (card s : List Nat) (v : NK) (vs : List NK) (lk sk fk : List (NK × D)) (L : List Nat → NK) (bs : List Nat → NK → Option (Nat × List Nat)),
  ds = [.ref a, .own b (enc s), .k v] ∧ Tabl S C a la sa fa card vs lk sk fk ∧ Val card s ∧ card.sum ≤ 1000 ∧ valueV v = true ∧ L s ≠ .none ∧ (∀ t, Val card t → dlook lk (enc t) = some (.k (L t)) ∧ labOk (L t)) ∧
  (∀ t, Val card t → L t ≠ .none → L t ≠ v → dlook fk (.tup [enc t, v]) = some (.k (bK (bs t v)))) ∧ (∀ t r, Val card t → bs t v = some r → Val card r.2 ∧ r.2.sum = t.sum + 1 ∧ (L r.2 = v ∨ L r.2 = L t)) ∧
  ∀ S', Sub S S' → R (wayD b s (restN L bs v (card.sum - s.sum + 1) s)) S'
end L3
/-! ## S15 -/
namespace L3
open PySem PySem.Spec L2
open PyProof.Rows hiding St
set_option hygiene false in
local macro_rules | `(tactic| walk_at "rd3") => `(tactic| simp only [a1, a2, asB, asI, asK, asP, asR, asT, asOwn, cN, cP, gN, gP, iD3, iE3, iL3, iR3, iS3, iT3, iZ3, rAbs3, rAdd3, rAll3, rApp3, rDictP3, rDictZ3, rEq3, rExt3, rI03, rI3, rIn3, rInt3, rIs3, rIsi3, rIx3, rLen3, rList3, rListD3, rListZ3, rMaxL3, rMin23, rMinL3, rNeg3, rPop3, rPopAt3, rRepr3, rSet3, rSl3, rSum3, rTuple3, rTupleW3, rdS, tAnd3, tAndV3, tAsg3, tB3, tBack3, tBreak3, tCall3, tChain3, tCons3, tDict0, tDisp3, tDrop3, tFld3, tFor3, tFst3, tGet3, tIf3, tIfS3, tK, tLc3, tLk3, tLkE3, tLst3, tM0, tM1, tMake3, tMeth3, tNever3, tNext3, tNil3, tNo3, tNot3, tNotV3, tOp3, tOr3, tOrV3, tOwn3, tPairs3, tPar3, tPar33, tRep3, tRet3, tSFld3, tSeq3, tSet3, tSl3, tSm3, tSortK3, tSub3, tT, tTup3, tUn3, tV, tWk3, tYes3, three, two, nks, Option.map, List.getElem?_cons_zero, List.getElem?_cons_succ, List.set_cons_zero, List.set_cons_succ, if_true, if_false, Bool.false_eq_true, ite_true, ite_false, reduceIte, List.length_cons, List.length_nil, Nat.zero_add, Nat.reduceAdd, true_and, and_true])
/-! the way, walked -/
theorem rd_way {C : Addr} (ds : List D) (S : Sto) (R : VK3) (hl : ds.length = 3) (h : sp_t_way C ds S R) : r_t_way C { nx := fun _ S' => R Dz S', rt := R } (start3 n_t_way ds) S := by
  obtain ⟨a, la, sa, fa, b, card, s, v, vs, lk, sk, fk, L, bs, rfl, T, hv, hz, ov, ns, hlab, hfk, hbs, h⟩ := h
  refine ⟨(by decide : 1 ≤ 1000), fun q hq => ?_⟩
  have T0 : ∀ {S1}, Sub S S1 → Tabl S1 C a la sa fa card vs lk sk fk := fun h => T.sub h
  refine ⟨fun m σ S1 => ∃ (pre : List (List Nat)) (t : List Nat) (x : Option D), σ = [some (.ref a), some (.own b (enc s)), some (.k v), some (.ref q), x] ∧ Sub S S1 ∧ S1 q = some (.lst (.own b (enc s) :: (pre.map dS))) ∧ (s :: pre).getLast? = some t ∧ Val card t ∧ L t ≠ .none ∧ card.sum - t.sum = m ∧ pre.length + s.sum = t.sum ∧ restN L bs v (card.sum - s.sum + 1) s = (restN L bs v (m + 1) t).map (pre ++ ·), ⟨card.sum - s.sum, [], s, none, rfl, ?_, put_same, rfl, hv, ns, rfl, by simp, by simp⟩, ?_⟩
  · exact Sub.add (Sub.refl S) hq
  rintro m σ S1 ⟨pre, t, x, rfl, hS, eq, hlast, hvt, nt, hm, hlen, hr⟩
  have d1 : (enc t).depth ≤ 8 := Nat.le_trans (enc_depth t) (by decide)
  have last : ∃ d, atI (D.own b (enc s) :: pre.map dS) (-1) = some d ∧ weak d = dS t := by
    rw [atI_last _ (by simp), ← List.getLast?_eq_getElem?]
    rcases List.eq_nil_or_concat pre with rfl | ⟨p2, u, rfl⟩
    · cases hlast
      exact ⟨_, rfl, rfl⟩
    · rw [List.concat_eq_append] at hlast ⊢
      rw [← List.cons_append, List.getLast?_concat] at hlast
      cases hlast
      refine ⟨dS t, ?_, rfl⟩
      rw [List.map_append, ← List.cons_append]
      exact List.getLast?_concat
  obtain ⟨d, hd, hw⟩ := last
  have T1 := T0 hS
  refine ⟨_, _, T1.ins, f_labels, ?_⟩
  refine .inl ⟨_, _, d, eq, rfl, hd, ?_⟩
  show rIx3 (.ref la) (weak d) S1 _
  rw [hw]
  refine .inr ⟨_, lk, _, T1.lab, d1, (hlab t hvt).1, ?_⟩
  refine ⟨eqOk_of (lab_ok (hlab t hvt).2) (value_ok ov), ?_⟩
  show if (!decide (L t = v)) = true then _ else _
  by_cases c : L t = v
  · rw [if_neg (by simpa using c)]
    have er : restN L bs v (m + 1) t = some [] := by rw [restN, if_pos c]
    have hh := h S1 hS
    rw [hr, er, Option.map_some, List.append_nil] at hh
    refine ⟨b, enc s, pre.map enc, ?_, hh⟩
    rw [eq, List.map_map]
    rfl
  · rw [if_pos (by simpa using c)]
    refine ⟨_, _, T1.ins, f_first, .inl ⟨_, _, d, eq, rfl, hd, ?_⟩⟩
    dsimp only
    rw [hw]
    refine ⟨(by decide : 2 ≤ 1000), .inr ⟨_, fk, _, T1.fst, pair_depth t ov, hfk t hvt nt c, ?_⟩⟩
    have er : restN L bs v (m + 1) t = match bs t v with
      | none => none
      | some r => (restN L bs v m r.2).map (r.2 :: ·) := by rw [restN, if_neg c] <;> rfl
    cases eb : bs t v with
    | none =>
      rw [eb] at er
      have hh := h S1 hS
      rw [hr, er] at hh
      refine ⟨_, rfl, rfl, ?_⟩
      exact hh
    | some r =>
      rw [eb] at er
      obtain ⟨r1, r2, r3⟩ := hbs t r hvt eb
      have r4 := val_sum r1
      have nr : L r.2 ≠ .none := by
        rcases r3 with e | e
        · rw [e]
          intro z
          rw [z] at ov
          cases ov
        · rw [e]
          exact nt
      refine ⟨_, rfl, rfl, ⟨_, eq⟩, _, eq, ?_, m - 1, by omega, pre ++ [r.2], r.2, _, rfl, Sub.over hS hq, ?_, ?_, r1, nr, by omega, ?_, ?_⟩
      · rw [List.length_cons, List.length_map]
        omega
      · rw [put_same, List.map_append]
        rfl
      · rw [← List.cons_append, List.getLast?_concat]
      · rw [List.length_append, List.length_singleton]
        omega
      · obtain ⟨k, rfl⟩ : ∃ k, m = k + 1 := ⟨m - 1, by omega⟩
        rw [hr, er, Nat.add_sub_cancel, Option.map_map]
        congr 1
        funext x
        simp
end L3
/-! ## S16 -/
namespace L3
open PySem PySem.Spec L2
open PyProof.Rows hiding St
set_option hygiene false in
local macro_rules | `(tactic| walk_at "rd3") => `(tactic| simp only [a1, a2, asB, asI, asK, asP, asR, asT, asOwn, cN, cP, gN, gP, iD3, iE3, iL3, iR3, iS3, iT3, iZ3, rAbs3, rAdd3, rAll3, rApp3, rDictP3, rDictZ3, rEq3, rExt3, rI03, rI3, rIn3, rInt3, rIs3, rIsi3, rIx3, rLen3, rList3, rListD3, rListZ3, rMaxL3, rMin23, rMinL3, rNeg3, rPop3, rPopAt3, rRepr3, rSet3, rSl3, rSum3, rTuple3, rTupleW3, rdS, tAnd3, tAndV3, tAsg3, tB3, tBack3, tBreak3, tCall3, tChain3, tCons3, tDict0, tDisp3, tDrop3, tFld3, tFor3, tFst3, tGet3, tIf3, tIfS3, tK, tLc3, tLk3, tLkE3, tLst3, tM0, tM1, tMake3, tMeth3, tNever3, tNext3, tNil3, tNo3, tNot3, tNotV3, tOp3, tOr3, tOrV3, tOwn3, tPairs3, tPar3, tPar33, tRep3, tRet3, tSFld3, tSeq3, tSet3, tSl3, tSm3, tSortK3, tSub3, tT, tTup3, tUn3, tV, tWk3, tYes3, three, two, nks, Option.map, List.getElem?_cons_zero, List.getElem?_cons_succ, List.set_cons_zero, List.set_cons_succ, if_true, if_false, Bool.false_eq_true, ite_true, ite_false, reduceIte, List.length_cons, List.length_nil, Nat.zero_add, Nat.reduceAdd, true_and, and_true])
/-! safe_strengths, safe_way -/
structure CodeOk (card : List Nat) (labs : List NK) : Prop where
  len : labs.length = size card
  cl : card.length ≤ 4
  ts : ∀ t ∈ card, 1 ≤ t ∧ t ≤ 4
  sz : size card ≤ 27
  ok : ∀ v ∈ labs, labOk v
  two : ∃ v0, labs[0]? = some v0 ∧ v0 ≠ .none ∧ ∃ v ∈ labs, v ≠ .none ∧ v ≠ v0
theorem nodup_le {α : Type} [DecidableEq α] : ∀ {vs labs : List α}, vs.Nodup → (∀ v ∈ vs, v ∈ labs) → vs.length ≤ labs.length
  | [], _, _, _ => Nat.zero_le _
  | v :: vs, labs, hn, hm => by
    rw [List.nodup_cons] at hn
    have h1 := hm v (List.mem_cons_self ..)
    have ih := nodup_le (vs := vs) (labs := labs.erase v) hn.2 fun w hw => (List.mem_erase_of_ne (fun z : w = v => hn.1 (by rw [← z]; exact hw))).mpr (hm w (List.mem_cons_of_mem _ hw))
    have h2 := List.length_erase_of_mem h1
    have h3 := List.length_pos_of_mem h1
    rw [List.length_cons]
    omega
theorem sum_le4 : ∀ {card : List Nat}, (∀ t ∈ card, 1 ≤ t ∧ t ≤ 4) → card.sum ≤ card.length * 4
  | [], _ => Nat.le_refl _
  | t :: c, h => by
    have := sum_le4 (card := c) fun t ht => h t (List.mem_cons_of_mem _ ht)
    have := h t (List.mem_cons_self ..)
    rw [List.sum_cons, List.length_cons]
    omega
theorem CodeOk.sum {card : List Nat} {labs : List NK} (h : CodeOk card labs) : card.sum ≤ 16 := by
  have := sum_le4 h.ts
  have := h.cl
  omega
theorem Uniq.val {card : List Nat} {labs vs : List NK} (h : CodeOk card labs) (u : Uniq labs vs) : ∀ v ∈ vs, valueV v = true := fun v hv => by
  obtain ⟨h1, h2⟩ := (u.2 v).mp hv
  exact (h.ok v h1).resolve_left h2
theorem Uniq.len {card : List Nat} {labs vs : List NK} (h : CodeOk card labs) (u : Uniq labs vs) : vs.length ≤ 27 := by
  have := nodup_le u.1 fun v hv => ((u.2 v).mp hv).1
  have := h.len
  have := h.sz
  omega
theorem Uniq.oth {card : List Nat} {labs vs : List NK} (h : CodeOk card labs) (u : Uniq labs vs) (L : List Nat → NK) (t : List Nat) : othersV L vs t ≠ [] := by
  obtain ⟨v0, h0, n0, v, hv, nv, ne⟩ := h.two
  have m0 : v0 ∈ vs := (u.2 v0).mpr ⟨List.mem_iff_getElem?.mpr ⟨0, h0⟩, n0⟩
  have m1 : v ∈ vs := (u.2 v).mpr ⟨hv, nv⟩
  by_cases c : v0 = L t
  · exact List.ne_nil_of_mem (List.mem_filter.mpr ⟨m1, decide_eq_true (fun z => ne (z.trans c.symm))⟩)
  · exact List.ne_nil_of_mem (List.mem_filter.mpr ⟨m0, decide_eq_true c⟩)
theorem CodeOk.initH {card : List Nat} {labs : List NK} (h : CodeOk card labs) : ∀ vs, Uniq labs vs → vs.length ≤ 100 ∧ (∀ v ∈ vs, valueV v = true) ∧ ∀ t, othersV (lab card labs) vs t ≠ [] :=
  fun vs u => ⟨Nat.le_trans (u.len h) (by decide), u.val h, u.oth h _⟩
/-- a state's number, as it is told -/
def rkT (card : List Nat) (vs : List NK) (L : List Nat → NK) (s : List Nat) : NK := if L s = .none then .none else nN (sfT card vs L s)
def sp_safe_strengths : Sp3 := fun ds S R => ∃ (card : List Nat) (labs : List NK), ds = [codeD card labs] ∧ CodeOk card labs ∧ ∀ vs S', Uniq labs vs → Sub S S' → R (Dt ((sts card).map (rkT card vs (lab card labs)))) S'
theorem rd_safe_strengths {C : Addr} (ds : List D) (S : Sto) (R : VK3) (hl : ds.length = 1) (h : sp_safe_strengths ds S R) : r_safe_strengths C sp_states (sp_t_init C) { nx := fun _ S' => R Dz S', rt := R } (start3 n_safe_strengths ds) S := by
  obtain ⟨card, labs, rfl, ok, h⟩ := h
  have c4 := ok.cl
  have z27 := ok.sz
  refine ⟨rfl, fun a ha => ⟨a, card, labs, rfl, put_same, by omega, by omega, ok.len, ok.ok, ok.initH, fun S1 la sa fa vs lk sk fk hu hk T hlk hd => ⟨rfl, ?_⟩⟩⟩
  have hS1 : Sub S S1 := fun b o e => hk b o (fun z => by rw [z, ha] at e; cases e) (by rw [put_ne (fun z => by rw [z, ha] at e; cases e)]; exact e)
  refine ⟨_, rfl, rfl, card, rfl, by omega, by omega, fun S2 h2 => ?_⟩
  have T2 := T.sub h2
  refine lc3_map (S0 := S2) (fun d => match d with | .k k => some ((dlook sk k).getD Dz) | _ => none) _ _ _ (Sub.refl S2) (fun d hd' S3 h3 K L' hk' _ => ?_) (fun _ _ => trivial) (by rw [List.length_map, List.length_map, sts_len, List.length_nil]; omega) fun S3 h3 p hp => ?_
  · obtain ⟨c, hc, rfl⟩ := List.mem_map.mp hd'
    obtain ⟨s, hs, rfl⟩ := List.mem_map.mp hc
    have T3 := T2.sub h3
    have d1 : (enc s).depth ≤ 8 := Nat.le_trans (enc_depth s) (by decide)
    exact ⟨_, _, T3.ins, f_safe, ⟨_, _, T3.saf⟩, none, sk, T3.saf, d1, hk' _ S3 rfl (Sub.refl S3)⟩
  · refine ⟨(sts card).map (rkT card vs (lab card labs)), ?_, h vs _ hu (Sub.add (hS1.trans (h2.trans h3)) hp)⟩
    rw [put_same, List.nil_append, List.map_map, List.map_map, List.filterMap_map]
    congr 2
    refine (filterMap_some (fun s => ((dlook sk (enc s)).getD Dz : D)) (sts card)).trans ?_
    refine List.map_congr_left fun s hs => ?_
    have hv := mem_sts.mp hs
    rw [hd.1 s hv]
    show _ = D.k (rkT card vs (lab card labs) s)
    unfold rkT
    by_cases c : lab card labs s = .none
    · rw [if_neg (fun z => z.2 c), if_pos c]
      rfl
    · rw [if_pos ⟨Nat.zero_le _, c⟩, if_neg c]
      rfl
theorem worthF_lab {L : List Nat → NK} {sf : List Nat → Nat} {bs : List Nat → NK → Option (Nat × List Nat)} {s t : List Nat} {v : NK} {w : Nat} (h : worthF L sf bs s t v = some w) : L t = v ∨ (L t ≠ v ∧ L t ≠ .none ∧ L t = L s) := by
  unfold worthF at h
  by_cases c1 : L t = v
  · exact .inl c1
  · rw [if_neg c1] at h
    by_cases c2 : L t = .none ∨ L t ≠ L s
    · rw [if_pos c2] at h
      cases h
    · exact .inr ⟨c1, fun z => c2 (.inl z), Classical.byContradiction fun z => c2 (.inr z)⟩
theorem bsT_step {card : List Nat} {vs : List NK} {L : List Nat → NK} {v : NK} {t : List Nat} {r : Nat × List Nat} (hv : Val card t) (e : bsT card vs L t v = some r) : (∃ p ∈ rais card t, p.2 = r.2) ∧ worthF L (sfT card vs L) (bsT card vs L) t r.2 v = some r.1 := by
  rw [bsT_eq hv] at e
  rcases bestOf_mem e with g | ⟨p, hp, w, h1, h2⟩
  · cases g
  · cases h2
    exact ⟨⟨p, hp, rfl⟩, h1⟩
theorem bsT_next {card : List Nat} {vs : List NK} {L : List Nat → NK} {v : NK} (t : List Nat) (r : Nat × List Nat) (hv : Val card t) (e : bsT card vs L t v = some r) : Val card r.2 ∧ r.2.sum = t.sum + 1 ∧ (L r.2 = v ∨ L r.2 = L t) := by
  obtain ⟨⟨p, hp, e1⟩, h⟩ := bsT_step hv e
  rw [← e1] at h ⊢
  exact ⟨rais_val hv hp, rais_sum hp, (worthF_lab h).imp id fun z => z.2.2⟩
def sp_safe_way : Sp3 := fun ds S R => ∃ (card : List Nat) (labs : List NK) (b : Addr) (s : List Nat) (v : NK), ds = [codeD card labs, .own b (enc s), .k v] ∧ CodeOk card labs ∧ Val card s ∧ v ∈ labs ∧ v ≠ .none ∧ lab card labs s ≠ .none ∧ lab card labs s ≠ v ∧
  ∀ vs S', Uniq labs vs → Sub S S' → R (wayD b s (restN (lab card labs) (bsT card vs (lab card labs)) v (card.sum - s.sum + 1) s)) S'
theorem rd_safe_way {C : Addr} (ds : List D) (S : Sto) (R : VK3) (hl : ds.length = 3) (h : sp_safe_way ds S R) : r_safe_way C sp_label sp_is_value sp_values_of (sp_t_way C) (sp_t_init C) { nx := fun _ S' => R Dz S', rt := R } (start3 n_safe_way ds) S := by
  obtain ⟨card, labs, b, s, v, rfl, ok, hv, hm, nv, ns, ne, h⟩ := h
  have c4 := ok.cl
  have z27 := ok.sz
  have ov : valueV v = true := (ok.ok v hm).resolve_left nv
  have t1 : ∀ t ∈ card, t ≤ 1000 := fun t ht => Nat.le_trans (ok.ts t ht).2 (by decide)
  refine ⟨rfl, card, s, labs, rfl, hv, by omega, t1, ok.len, fun S1 h1 => ?_⟩
  refine ⟨rfl, v, rfl, ov, fun S2 h2 => ?_⟩
  refine ⟨rfl, enc card, labs, rfl, by rw [ok.len]; omega, ok.ok, fun vs0 S3 hu0 h3 => ⟨Nat.le_trans (value_depth ov) (by decide), ?_⟩⟩
  have m0 : v ∈ vs0 := (hu0.2 v).mpr ⟨hm, nv⟩
  show if (!decide (v ∈ vs0)) = true then _ else _
  rw [if_neg (by simpa using m0)]
  refine ⟨rfl, ?_⟩
  have ni : ¬ isN (D.k (lab card labs s)) = true := fun z => ns (by
    revert z
    generalize lab card labs s = q
    cases q <;> intro z <;> first | rfl | cases z)
  show if isN (D.k (lab card labs s)) = true then _ else _
  rw [if_neg ni]
  refine ⟨eqOk_of (lab_ok (lab_ok_of ok.ok s)) (value_ok ov), ?_⟩
  show if decide (lab card labs s = v) = true then _ else _
  rw [if_neg (by simpa using ne)]
  refine ⟨rfl, fun a ha => ⟨a, card, labs, rfl, put_same, by omega, by omega, ok.len, ok.ok, ok.initH, fun S4 la sa fa vs lk sk fk hu hk T hlk hd => ⟨rfl, ?_⟩⟩⟩
  have hS : Sub S S3 := h1.trans (h2.trans h3)
  have hS4 : Sub S S4 := fun b o e => hk b o (fun z => by have := hS b o e; rw [z, ha] at this; cases this) (by rw [put_ne (fun z => by have := hS b o e; rw [z, ha] at this; cases this)]; exact hS b o e)
  refine ⟨_, T.ins, f_none (by decide +kernel), rfl, a, la, sa, fa, b, card, s, v, vs, lk, sk, fk, lab card labs, bsT card vs (lab card labs), rfl, T, hv, ?_, ov, ns, fun t ht => ⟨hlk t ht, lab_ok_of ok.ok t⟩, fun t ht n1 n2 => ?_, fun t r ht e => bsT_next t r ht e, fun S5 h5 => h vs S5 hu (hS4.trans h5)⟩
  · have := ok.sum
    omega
  · rw [hd.2 t v ht, if_pos ⟨Nat.zero_le _, n1, List.mem_filter.mpr ⟨(hu.2 v).mpr ⟨hm, nv⟩, decide_eq_true (Ne.symm n2)⟩⟩]
end L3
/-! ## S17 -/
namespace L3
open PySem PySem.Spec L2
open PyProof.Rows hiding St
set_option hygiene false in
local macro_rules | `(tactic| walk_at "rd3") => `(tactic| simp only [a1, a2, asB, asI, asK, asP, asR, asT, asOwn, cN, cP, gN, gP, iD3, iE3, iL3, iR3, iS3, iT3, iZ3, rAbs3, rAdd3, rAll3, rApp3, rDictP3, rDictZ3, rEq3, rExt3, rI03, rI3, rIn3, rInt3, rIs3, rIsi3, rIx3, rLen3, rList3, rListD3, rListZ3, rMaxL3, rMin23, rMinL3, rNeg3, rPop3, rPopAt3, rRepr3, rSet3, rSl3, rSum3, rTuple3, rTupleW3, rdS, tAnd3, tAndV3, tAsg3, tB3, tBack3, tBreak3, tCall3, tChain3, tCons3, tDict0, tDisp3, tDrop3, tFld3, tFor3, tFst3, tGet3, tIf3, tIfS3, tK, tLc3, tLk3, tLkE3, tLst3, tM0, tM1, tMake3, tMeth3, tNever3, tNext3, tNil3, tNo3, tNot3, tNotV3, tOp3, tOr3, tOrV3, tOwn3, tPairs3, tPar3, tPar33, tRep3, tRet3, tSFld3, tSeq3, tSet3, tSl3, tSm3, tSortK3, tSub3, tT, tTup3, tUn3, tV, tWk3, tYes3, three, two, nks, Option.map, List.getElem?_cons_zero, List.getElem?_cons_succ, List.set_cons_zero, List.set_cons_succ, if_true, if_false, Bool.false_eq_true, ite_true, ite_false, reduceIte, List.length_cons, List.length_nil, Nat.zero_add, Nat.reduceAdd, true_and, and_true])
/-! what the numbers are: no program in sight -/
theorem SafeIs.same {ws us : List (Option Nat)} (h : ∀ x, x ∈ ws ↔ x ∈ us) {n : Nat} (g : SafeIs ws n) : SafeIs us n := by
  rcases g with ⟨a, b⟩ | ⟨a, m, b, c, d⟩
  · exact .inl ⟨(h _).mp a, b⟩
  · exact .inr ⟨fun z => a ((h _).mpr z), m, (h _).mp b, fun k hk => c k ((h _).mpr hk), d⟩
theorem SafeIs.one {ws : List (Option Nat)} {n k : Nat} (g : SafeIs ws n) (h : SafeIs ws k) : n = k := by
  rcases g with ⟨a, b⟩ | ⟨a, m, b, c, d⟩
  · rcases h with ⟨a', b'⟩ | ⟨a', _⟩
    · rw [b, b']
    · exact (a' a).elim
  · rcases h with ⟨a', _⟩ | ⟨a', m', b', c', d'⟩
    · exact (a a').elim
    · have := c m' b'
      have := c' m b
      omega
theorem safeOf_same {ws us : List (Option Nat)} (h : ∀ x, x ∈ ws ↔ x ∈ us) : safeOf ws = safeOf us := by
  by_cases e : ws = []
  · subst e
    have : us = [] := List.eq_nil_iff_forall_not_mem.mpr fun x hx => by have := (h x).mpr hx; cases this
    rw [this]
  · have e' : us ≠ [] := fun z => e (List.eq_nil_iff_forall_not_mem.mpr fun x hx => by have := (h x).mp hx; rw [z] at this; cases this)
    exact ((safeOf_is e).same h).one (safeOf_is e')
section
variable {card : List Nat} {vs us : List NK} {L : List Nat → NK}
theorem othersV_same (h : ∀ v, v ∈ vs ↔ v ∈ us) (s : List Nat) (v : NK) : v ∈ othersV L vs s ↔ v ∈ othersV L us s := by
  unfold othersV
  rw [List.mem_filter, List.mem_filter, h]
theorem tabN_same (h : ∀ v, v ∈ vs ↔ v ∈ us) : ∀ (n : Nat) (s : List Nat), (∀ v, bsN card vs L n s v = bsN card us L n s v) ∧ sfN card vs L n s = sfN card us L n s
  | 0, s => ⟨fun _ => by rw [bsN, bsN], by rw [sfN, sfN]⟩
  | n + 1, s => by
    have g : ∀ v, bsN card vs L (n + 1) s v = bsN card us L (n + 1) s v := fun v => by
      rw [bsN, bsN]
      exact bestOf_congr fun p _ => worthF_congr (tabN_same h n p.2).2 ((tabN_same h n p.2).1 v)
    refine ⟨g, ?_⟩
    rw [sfN, sfN]
    refine safeOf_same fun x => ?_
    rw [List.mem_map, List.mem_map]
    constructor
    · rintro ⟨v, hv, e⟩
      exact ⟨v, (othersV_same h s v).mp hv, by rw [← e, g]⟩
    · rintro ⟨v, hv, e⟩
      exact ⟨v, (othersV_same h s v).mpr hv, by rw [← e, g]⟩
theorem sfT_same (h : ∀ v, v ∈ vs ↔ v ∈ us) : sfT card vs L = sfT card us L := funext fun s => (tabN_same h _ s).2
theorem bsT_same (h : ∀ v, v ∈ vs ↔ v ∈ us) : bsT card vs L = bsT card us L := funext fun s => funext fun v => (tabN_same h _ s).1 v
end
theorem bestOf_ge {f : List Nat → Option Nat} {c : Nat} : ∀ (ps : List (Nat × List Nat)) (found : Option (Nat × List Nat)), ((∃ q, found = some q ∧ c ≤ q.1) ∨ ∃ p ∈ ps, ∃ w, f p.2 = some w ∧ c ≤ w) → ∃ q, bestOf f ps found = some q ∧ c ≤ q.1
  | [], found, h => h.elim id fun ⟨_, z, _⟩ => by cases z
  | p :: ps, found, h => by
    rw [bestOf]
    cases e : f p.2 with
    | none =>
      refine bestOf_ge ps found (h.imp id ?_)
      rintro ⟨q, hq, w, h1, h2⟩
      rcases List.mem_cons.mp hq with rfl | hq
      · rw [e] at h1
        cases h1
      · exact ⟨q, hq, w, h1, h2⟩
    | some k =>
      have tail : (∃ q, found = some q ∧ c ≤ q.1) ∨ c ≤ k ∨ ∃ p ∈ ps, ∃ w, f p.2 = some w ∧ c ≤ w := by
        refine h.imp id ?_
        rintro ⟨q, hq, w, h1, h2⟩
        rcases List.mem_cons.mp hq with rfl | hq
        · rw [e] at h1
          cases h1
          exact .inl h2
        · exact .inr ⟨q, hq, w, h1, h2⟩
      cases found with
      | none =>
        refine bestOf_ge ps _ ?_
        rcases tail with ⟨_, z, _⟩ | z | z
        · cases z
        · exact .inl ⟨_, rfl, z⟩
        · exact .inr z
      | some q =>
        refine bestOf_ge ps _ ?_
        show (∃ z, (if q.1 < k then some (k, p.2) else some q) = some z ∧ c ≤ z.1) ∨ _
        by_cases lt : q.1 < k
        · rw [if_pos lt]
          rcases tail with ⟨_, z, hz⟩ | z | z
          · cases z
            exact .inl ⟨_, rfl, by show c ≤ k; omega⟩
          · exact .inl ⟨_, rfl, z⟩
          · exact .inr z
        · rw [if_neg lt]
          rcases tail with ⟨_, z, hz⟩ | z | z
          · cases z
            exact .inl ⟨_, rfl, hz⟩
          · exact .inl ⟨_, rfl, by omega⟩
          · exact .inr z
def OneUp (card s t : List Nat) : Prop := ∃ p ∈ rais card s, p.2 = t
theorem OneUp.val {card s t : List Nat} (h : Val card s) (g : OneUp card s t) : Val card t := by
  obtain ⟨p, hp, rfl⟩ := g
  exact rais_val h hp
theorem OneUp.sum {card s t : List Nat} (g : OneUp card s t) : t.sum = s.sum + 1 := by
  obtain ⟨p, hp, rfl⟩ := g
  exact rais_sum hp
def Steps (card : List Nat) : List Nat → List (List Nat) → Prop
  | _, [] => True
  | s, t :: r => OneUp card s t ∧ Steps card t r
section
variable {card : List Nat} {vs : List NK} {L : List Nat → NK}
theorem worth_low {s : List Nat} {v : NK} {r : Nat × List Nat} (hv : Val card s) (e : bsT card vs L s v = some r) : r.1 ≤ sfT card vs L r.2 ∧ (L r.2 ≠ v → ∃ r', bsT card vs L r.2 v = some r' ∧ r.1 ≤ r'.1) := by
  have h := (bsT_step hv e).2
  unfold worthF at h
  by_cases c1 : L r.2 = v
  · rw [if_pos c1] at h
    have e := Option.some.inj h
    exact ⟨by omega, fun z => (z c1).elim⟩
  · rw [if_neg c1] at h
    by_cases c2 : L r.2 = .none ∨ L r.2 ≠ L s
    · rw [if_pos c2] at h
      cases h
    · rw [if_neg c2] at h
      cases e2 : bsT card vs L r.2 v with
      | none => rw [e2] at h; cases h
      | some r' =>
        rw [e2] at h
        have h : min r'.1 (sfT card vs L r.2) = r.1 := Option.some.inj h
        exact ⟨by omega, fun _ => ⟨r', rfl, by omega⟩⟩
theorem rest_ok {v : NK} : ∀ (n : Nat) (s : List Nat) (r : Nat × List Nat), Val card s → card.sum - s.sum < n → L s ≠ .none → L s ≠ v → bsT card vs L s v = some r →
    ∃ path e, restN L (bsT card vs L) v n s = some path ∧ path.getLast? = some e ∧ L e = v ∧ Steps card s path ∧ ∀ t ∈ path, Val card t ∧ (L t = L s ∨ L t = v) ∧ r.1 ≤ sfT card vs L t
  | 0, s, r, _, h, _, _, _ => absurd h (Nat.not_lt_zero _)
  | n + 1, s, r, hv, hn, h0, h1, e => by
    obtain ⟨up, hw⟩ := bsT_step hv e
    have up' : OneUp card s r.2 := up
    have hv2 := up'.val hv
    have hs := up'.sum
    have hs2 := val_sum hv2
    obtain ⟨w1, w2⟩ := worth_low hv e
    rw [restN, if_neg h1, e]
    show ∃ path x, (restN L (bsT card vs L) v n r.2).map (r.2 :: ·) = some path ∧ _
    by_cases c : L r.2 = v
    · obtain ⟨k, rfl⟩ : ∃ k, n = k + 1 := ⟨n - 1, by omega⟩
      rw [restN, if_pos c]
      refine ⟨[r.2], r.2, rfl, rfl, c, ⟨up', trivial⟩, fun t ht => ?_⟩
      rw [List.mem_singleton] at ht
      subst ht
      exact ⟨hv2, .inr c, w1⟩
    · have lb := (worthF_lab hw).resolve_left c
      obtain ⟨r', e', le⟩ := w2 c
      obtain ⟨path, x, p1, p2, p3, p4, p5⟩ := rest_ok n r.2 r' hv2 (by omega) lb.2.1 c e'
      refine ⟨r.2 :: path, x, by rw [p1]; rfl, ?_, p3, ⟨up', p4⟩, fun t ht => ?_⟩
      · cases path with
        | nil => cases p2
        | cons a b => rw [List.getLast?_cons_cons]; exact p2
      · rcases List.mem_cons.mp ht with rfl | ht
        · exact ⟨hv2, .inl lb.2.2, w1⟩
        · obtain ⟨q1, q2, q3⟩ := p5 t ht
          exact ⟨q1, by rw [← lb.2.2]; exact q2, Nat.le_trans le q3⟩
theorem sf_is {s : List Nat} (h : othersV L vs s ≠ []) : SafeIs ((othersV L vs s).map fun v => (bsT card vs L s v).map (·.1)) (sfT card vs L s) := by
  rw [sfT_eq]
  exact safeOf_is fun z => h (List.map_eq_nil_iff.mp z)
theorem sf_pos {s : List Nat} {v : NK} (h : sfT card vs L s ≠ 0) (hv : v ∈ vs) (ne : v ≠ L s) : ∃ r, bsT card vs L s v = some r ∧ sfT card vs L s ≤ r.1 + 1 := by
  have m : v ∈ othersV L vs s := List.mem_filter.mpr ⟨hv, decide_eq_true ne⟩
  have m2 := List.mem_map_of_mem (f := fun v => (bsT card vs L s v).map (·.1)) m
  rcases sf_is (card := card) (List.ne_nil_of_mem m) with ⟨_, z⟩ | ⟨a, k, b, c, d⟩
  · exact (h z).elim
  · cases e : bsT card vs L s v with
    | none =>
      rw [e] at m2
      exact (a m2).elim
    | some r =>
      rw [e] at m2
      have := c r.1 m2
      exact ⟨r, rfl, by omega⟩
theorem sf_bound : ∀ (n : Nat) (s : List Nat), (∀ t, othersV L vs t ≠ []) → Val card s → card.sum - s.sum < n → sfT card vs L s ≤ 1 + (card.sum - s.sum)
  | 0, _, _, _, h => absurd h (Nat.not_lt_zero _)
  | n + 1, s, ho, hv, hn => by
    rcases sf_is (card := card) (ho s) with ⟨_, z⟩ | ⟨a, k, b, c, d⟩
    · omega
    · obtain ⟨v, hm, e⟩ := List.mem_map.mp b
      obtain ⟨r, e1, e2⟩ := Option.map_eq_some_iff.mp e
      have up : OneUp card s r.2 := (bsT_step hv e1).1
      have hs := up.sum
      have hv2 := up.val hv
      have hs2 := val_sum hv2
      have w := (worth_low hv e1).1
      have ih := sf_bound n r.2 ho hv2 (by omega)
      omega
/-- what is reached over states of a lot -/
inductive Rch (card : List Nat) (L : List Nat → NK) (G : List Nat → Prop) (own v : NK) (s : List Nat) : List Nat → Prop
  | at_ : Rch card L G own v s s
  | up {t u : List Nat} : Rch card L G own v s t → OneUp card t u → G u → (L u = own ∨ L u = v) → Rch card L G own v s u
inductive Fwd (card : List Nat) (L : List Nat → NK) (G : List Nat → Prop) (own v : NK) : List Nat → Prop
  | done {t : List Nat} : L t = v → Fwd card L G own v t
  | go {t u : List Nat} : OneUp card t u → G u → (L u = own ∨ L u = v) → Fwd card L G own v u → Fwd card L G own v t
theorem Rch.fwd {G : List Nat → Prop} {own v : NK} {s t : List Nat} (h : Rch card L G own v s t) : Fwd card L G own v t → Fwd card L G own v s := by
  induction h with
  | at_ => exact id
  | up _ a b c ih => exact fun f => ih (.go a b c f)
theorem Rch.val {G : List Nat → Prop} {own v : NK} {s t : List Nat} (hs : Val card s) (h : Rch card L G own v s t) : Val card t := by
  induction h with
  | at_ => exact hs
  | up _ a _ _ ih => exact a.val ih
theorem Fwd.best {G : List Nat → Prop} {own v : NK} {c : Nat} {t : List Nat} (h : Fwd card L G own v t) (n0 : own ≠ .none) (n1 : own ≠ v) (hG : ∀ u, G u → c ≤ sfT card vs L u) : Val card t → L t = own → ∃ r, bsT card vs L t v = some r ∧ c ≤ r.1 := by
  induction h with
  | done e => exact fun _ z => (n1 (z.symm.trans e)).elim
  | @go t u up g lb f ih =>
    intro hv ho
    obtain ⟨p, hp, e⟩ := up
    subst e
    have hc := hG _ g
    rw [bsT_eq hv]
    refine bestOf_ge _ _ (.inr ⟨p, hp, ?_⟩)
    unfold worthF
    by_cases c1 : L p.2 = v
    · exact ⟨_, if_pos c1, hc⟩
    · have lo := lb.resolve_right c1
      obtain ⟨r, e, le⟩ := ih (rais_val hv hp) lo
      rw [if_neg c1, if_neg (fun z => z.elim (fun z => n0 (lo.symm.trans z)) fun z => z (lo.trans ho.symm)), e]
      exact ⟨_, rfl, Nat.le_min.mpr ⟨le, hc⟩⟩
/-- some value has no way over states of as much -/
theorem lot_none {G : List Nat → Prop} {s : List Nat} (hv : Val card s) (ho : othersV L vs s ≠ []) (n0 : L s ≠ .none) (hG : ∀ u, G u → sfT card vs L s ≤ sfT card vs L u) : ∃ v ∈ vs, v ≠ L s ∧ ∀ t, Rch card L G (L s) v s t → L t ≠ v := by
  refine Classical.byContradiction fun no => ?_
  have all : ∀ v ∈ othersV L vs s, ∃ r, bsT card vs L s v = some r ∧ sfT card vs L s ≤ r.1 := fun v hm => by
    obtain ⟨h1, h2⟩ := List.mem_filter.mp hm
    have h2 : v ≠ L s := of_decide_eq_true h2
    refine Classical.byContradiction fun nr => no ⟨v, h1, h2, fun t ht e => nr ?_⟩
    exact (ht.fwd (.done e)).best n0 (Ne.symm h2) hG hv rfl
  rcases sf_is (card := card) ho with ⟨a, _⟩ | ⟨a, k, b, c, d⟩
  · obtain ⟨v, hm, e⟩ := List.mem_map.mp a
    obtain ⟨r, e1, _⟩ := all v hm
    rw [e1] at e
    cases e
  · obtain ⟨v, hm, e⟩ := List.mem_map.mp b
    obtain ⟨r, e1, le⟩ := all v hm
    rw [e1] at e
    injection e with e
    have e : r.1 = k := e
    omega
theorem Steps.rch {G : List Nat → Prop} {own v : NK} {s : List Nat} : ∀ {path : List (List Nat)} {t : List Nat}, Rch card L G own v s t → Steps card t path → (∀ u ∈ path, G u ∧ (L u = own ∨ L u = v)) → ∀ u ∈ path, Rch card L G own v s u
  | [], _, _, _, _, u, hu => by cases hu
  | x :: path, t, h, g, a, u, hu => by
    have hx : Rch card L G own v s x := .up h g.1 (a x (List.mem_cons_self ..)).1 (a x (List.mem_cons_self ..)).2
    rcases List.mem_cons.mp hu with rfl | hu
    · exact hx
    · exact Steps.rch hx g.2 (fun u hu => a u (List.mem_cons_of_mem _ hu)) u hu
/-- each other value has a way over states of one less -/
theorem wide_some {G : List Nat → Prop} {s : List Nat} {v : NK} (hv : Val card s) (n0 : L s ≠ .none) (h : sfT card vs L s ≠ 0) (hm : v ∈ vs) (ne : v ≠ L s) (hG : ∀ u, Val card u → (L u = L s ∨ L u = v) → sfT card vs L s ≤ sfT card vs L u + 1 → G u) : ∃ t, Rch card L G (L s) v s t ∧ L t = v := by
  obtain ⟨r, e, le⟩ := sf_pos h hm ne
  obtain ⟨path, x, _, p2, p3, p4, p5⟩ := rest_ok (card.sum - s.sum + 1) s r hv (Nat.lt_succ_self _) n0 (Ne.symm ne) e
  refine ⟨x, Steps.rch .at_ p4 (fun u hu => ?_) x (List.mem_of_getLast? p2), p3⟩
  obtain ⟨q1, q2, q3⟩ := p5 u hu
  exact ⟨hG u q1 q2 (by omega), q2⟩
end
end L3
/-! ## S18 -/
namespace L3
open PySem PySem.Spec L2
open PyProof.Rows hiding St
set_option hygiene false in
local macro_rules | `(tactic| walk_at "rd3") => `(tactic| simp only [a1, a2, asB, asI, asK, asP, asR, asT, asOwn, cN, cP, gN, gP, iD3, iE3, iL3, iR3, iS3, iT3, iZ3, rAbs3, rAdd3, rAll3, rApp3, rDictP3, rDictZ3, rEq3, rExt3, rI03, rI3, rIn3, rInt3, rIs3, rIsi3, rIx3, rLen3, rList3, rListD3, rListZ3, rMaxL3, rMin23, rMinL3, rNeg3, rPop3, rPopAt3, rRepr3, rSet3, rSl3, rSum3, rTuple3, rTupleW3, rdS, tAnd3, tAndV3, tAsg3, tB3, tBack3, tBreak3, tCall3, tChain3, tCons3, tDict0, tDisp3, tDrop3, tFld3, tFor3, tFst3, tGet3, tIf3, tIfS3, tK, tLc3, tLk3, tLkE3, tLst3, tM0, tM1, tMake3, tMeth3, tNever3, tNext3, tNil3, tNo3, tNot3, tNotV3, tOp3, tOr3, tOrV3, tOwn3, tPairs3, tPar3, tPar33, tRep3, tRet3, tSFld3, tSeq3, tSet3, tSl3, tSm3, tSortK3, tSub3, tT, tTup3, tUn3, tV, tWk3, tYes3, three, two, nks, Option.map, List.getElem?_cons_zero, List.getElem?_cons_succ, List.set_cons_zero, List.set_cons_succ, if_true, if_false, Bool.false_eq_true, ite_true, ite_false, reduceIte, List.length_cons, List.length_nil, Nat.zero_add, Nat.reduceAdd, true_and, and_true])
/-! the spool and its draws -/
abbrev spk (f c s n : D) : List (NK × D) := [(.text "far", f), (.text "cells", c), (.text "sum", s), (.text "count", n)]
theorem dlook_hit {α : Type} {k : NK} {v : α} {r : List (NK × α)} : dlook ((k, v) :: r) k = some v := by
  unfold dlook
  rw [List.find?_cons_of_pos (by simp)]
  rfl
theorem dlook_skip {α : Type} {k k' : NK} {v : α} {r : List (NK × α)} (h : k ≠ k') : dlook ((k, v) :: r) k' = dlook r k' := by
  unfold dlook
  rw [List.find?_cons_of_neg (by simpa using h)]
theorem look_far {f c s n : D} : dlook (spk f c s n) (.text "far") = some f := dlook_hit
theorem look_cells {f c s n : D} : dlook (spk f c s n) (.text "cells") = some c := (dlook_skip (show NestedKey.text "far" ≠ .text "cells" by decide +kernel)).trans dlook_hit
theorem look_sum {f c s n : D} : dlook (spk f c s n) (.text "sum") = some s := (dlook_skip (show NestedKey.text "far" ≠ .text "sum" by decide +kernel)).trans ((dlook_skip (show NestedKey.text "cells" ≠ .text "sum" by decide +kernel)).trans dlook_hit)
theorem look_count {f c s n : D} : dlook (spk f c s n) (.text "count") = some n := (dlook_skip (show NestedKey.text "far" ≠ .text "count" by decide +kernel)).trans ((dlook_skip (show NestedKey.text "cells" ≠ .text "count" by decide +kernel)).trans ((dlook_skip (show NestedKey.text "sum" ≠ .text "count" by decide +kernel)).trans dlook_hit))
theorem spk_ne : (NestedKey.text "far") ≠ .text "count" ∧ (NestedKey.text "cells") ≠ .text "count" ∧ (NestedKey.text "sum") ≠ .text "count" := by decide +kernel
theorem put_count {f c s n k : D} : dput (spk f c s n) (.text "count") k = spk f c s k := by
  unfold dput spk
  rw [if_pos (by simp)]
  simp only [List.map_cons, List.map_nil, if_neg spk_ne.1, if_neg spk_ne.2.1, if_neg spk_ne.2.2, if_true]
structure Spl (S : Sto) (p fa ca : Addr) : Prop where
  ex : ∃ (far cells : List Int) (sm c : Int), S p = some (.dic none (spk (.ref fa) (.ref ca) (Dn sm) (Dn c))) ∧ S fa = some (.lst (far.map Dn)) ∧ S ca = some (.lst (cells.map Dn)) ∧ 0 < cells.length ∧ cells.length ≤ 1000 ∧ far.length ≤ 1000 ∧ ca ≠ fa
/-- all but the spool stays -/
def SubX (p fa : Addr) (S S' : Sto) : Prop := ∀ b o, b ≠ p → b ≠ fa → S b = some o → S' b = some o
theorem SubX.refl {p fa : Addr} (S : Sto) : SubX p fa S S := fun _ _ _ _ h => h
theorem SubX.trans {p fa : Addr} {A B C : Sto} (h : SubX p fa A B) (g : SubX p fa B C) : SubX p fa A C := fun b o n1 n2 e => g b o n1 n2 (h b o n1 n2 e)
theorem Sub.x {p fa : Addr} {S S' : Sto} (h : Sub S S') : SubX p fa S S' := fun b o _ _ e => h b o e
theorem Spl.sub {S S' : Sto} {p fa ca : Addr} (s : Spl S p fa ca) (h : Sub S S') : Spl S' p fa ca :=
  let ⟨far, cells, sm, c, h1, h2, h3, g⟩ := s.ex
  ⟨far, cells, sm, c, h _ _ h1, h _ _ h2, h _ _ h3, g⟩
structure Dw (p fa ca : Addr) (S S' : Sto) : Prop where
  x : SubX p fa S S'
  s : Spl S' p fa ca
theorem Dw.refl {S : Sto} {p fa ca : Addr} (s : Spl S p fa ca) : Dw p fa ca S S := ⟨SubX.refl S, s⟩
theorem Dw.trans {p fa ca : Addr} {A B C : Sto} (h : Dw p fa ca A B) (g : Dw p fa ca B C) : Dw p fa ca A C := ⟨h.x.trans g.x, g.s⟩
theorem Dw.sub {p fa ca : Addr} {A B C : Sto} (h : Dw p fa ca A B) (g : Sub B C) : Dw p fa ca A C := ⟨h.x.trans g.x, h.s.sub g⟩
theorem Spl.dw {S S' : Sto} {p fa ca : Addr} (s : Spl S p fa ca) (h : Sub S S') : Dw p fa ca S S' := ⟨h.x, s.sub h⟩
theorem Spl.off {S : Sto} {p fa ca q : Addr} (s : Spl S p fa ca) (h : S q = none) : q ≠ p ∧ q ≠ fa ∧ q ≠ ca := by
  obtain ⟨far, cells, sm, c, h1, h2, h3, _⟩ := s.ex
  exact ⟨(fun z => by rw [z, h1] at h; cases h), (fun z => by rw [z, h2] at h; cases h), (fun z => by rw [z, h3] at h; cases h)⟩
theorem Spl.pf {S : Sto} {p fa ca : Addr} (s : Spl S p fa ca) : p ≠ fa ∧ p ≠ ca := by
  obtain ⟨far, cells, sm, c, h1, h2, h3, _⟩ := s.ex
  exact ⟨(fun z => by rw [z, h2] at h1; cases h1), (fun z => by rw [z, h3] at h1; cases h1)⟩
theorem Spl.offD {S : Sto} {p fa ca q : Addr} {lk : Lk} {kvs : List (NK × D)} (s : Spl S p fa ca) (h : S q = some (.dic lk kvs)) : q ≠ fa ∧ q ≠ ca := by
  obtain ⟨far, cells, sm, c, h1, h2, h3, _⟩ := s.ex
  exact ⟨(fun z => by rw [z, h2] at h; cases h), (fun z => by rw [z, h3] at h; cases h)⟩
theorem Spl.offL {S : Sto} {p fa ca q : Addr} {xs : List D} (s : Spl S p fa ca) (h : S q = some (.lst xs)) : q ≠ p := by
  obtain ⟨far, cells, sm, c, h1, h2, _⟩ := s.ex
  exact fun z => by rw [z, h1] at h; cases h
theorem Dw.gone {p fa ca q : Addr} {S S' : Sto} (d : Dw p fa ca S S') (h : S' q = none) : S q = none ∧ q ≠ p ∧ q ≠ fa ∧ q ≠ ca := by
  obtain ⟨n1, n2, n3⟩ := d.s.off h
  refine ⟨?_, n1, n2, n3⟩
  cases e : S q with
  | none => rfl
  | some o => rw [d.x q o n1 n2 e] at h; cases h
theorem Dw.add {p fa ca q : Addr} {S S' : Sto} {o : MO} (d : Dw p fa ca S S') (h : S' q = none) : Dw p fa ca S (put S' q o) := d.sub ((Sub.refl S').add h)
/-- a change of what is no part of the start, nor of the spool -/
theorem Dw.over {p fa ca q : Addr} {S S' : Sto} {o : MO} (d : Dw p fa ca S S') (n : S q = none ∧ q ≠ p ∧ q ≠ fa ∧ q ≠ ca) : Dw p fa ca S (put S' q o) := by
  obtain ⟨n, n1, n2, n3⟩ := n
  refine ⟨fun b o b1 b2 e => ?_, ?_⟩
  · rw [put_ne (fun z => by rw [z, n] at e; cases e)]
    exact d.x b o b1 b2 e
  · obtain ⟨far, cells, sm, c, h1, h2, h3, g⟩ := d.s.ex
    exact ⟨far, cells, sm, c, (put_ne (Ne.symm n1)).trans h1, (put_ne (Ne.symm n2)).trans h2, (put_ne (Ne.symm n3)).trans h3, g⟩
/-! draw -/
def sp_l_draw : Sp3 := fun ds S R => ∃ (p fa ca : Addr) (m : Int), ds = [.ref p, Dn m] ∧ Spl S p fa ca ∧ 0 < m ∧ m < 1073741824 ∧ ∀ i S', 0 ≤ i → i < m → Dw p fa ca S S' → R (Dn i) S'
def r_draw_n : TS3 := (tSeq3 (tSub3 (tOp3 rAdd3 (tOp3 rIx3 (tV 0) (tK (.k (.text "count")))) (tK (Dn 1))) (tV 0) (tK (.k (.text "count"))))
    (tSeq3 (tPar3 6 7 (tCons3 (tOp3 rIx3 (tV 0) (tK (.k (.text "count")))) (tCons3 (tOp3 rIx3 (tV 0) (tK (.k (.text "cells")))) tNil3)))
    (tSeq3 (tSet3 3 (tOp3 rIx3 (tV 7) (tOp3 (rI3 (fun _ j => 0 < j) fun i j => Dn (i % j)) (tB3 rInt3 (tCons3 (tV 6) tNil3)) (tB3 rLen3 (tCons3 (tV 7) tNil3)))))
    (tSeq3 (tSet3 4 (tOp3 (rI3 (fun _ j => 0 < j) fun i j => Dn (i % j)) (tB3 rInt3 (tCons3 (tOp3 rAdd3 (tOp3 rAdd3 (tOp3 (rI3 IntMulOk fun i j => Dn (i * j)) (tV 3) (tK (Dn 2654435761))) (tOp3 (rI3 IntMulOk fun i j => Dn (i * j)) (tV 6) (tK (Dn 374761393)))) (tOp3 (rI3 IntMulOk fun i j => Dn (i * j)) (tOp3 rIx3 (tV 0) (tK (.k (.text "sum")))) (tK (Dn 97)))) tNil3)) (tK (Dn 4294967291))))
    (tSeq3 (tSet3 4 (tOp3 (rI3 (fun _ j => 0 < j) fun i j => Dn (i % j)) (tB3 rInt3 (tCons3 (tOp3 rAdd3 (tOp3 rAdd3 (tOp3 (rI3 IntMulOk fun i j => Dn (i * j)) (tV 4) (tV 4)) (tV 3)) (tOp3 (rI3 IntMulOk fun i j => Dn (i * j)) (tV 6) (tK (Dn 668265263)))) tNil3)) (tK (Dn 4294967279))))
    (tSeq3 (tSet3 4 (tOp3 (rI3 (fun _ j => 0 < j) fun i j => Dn (i % j)) (tB3 rInt3 (tCons3 (tOp3 rAdd3 (tOp3 (rI3 IntMulOk fun i j => Dn (i * j)) (tV 4) (tV 4)) (tV 4)) tNil3)) (tK (Dn 4294967197))))
    (tRet3 (tOp3 (rI3 (fun _ j => 0 < j) fun i j => Dn (i % j)) (tB3 rInt3 (tCons3 (tOp3 (rI3 CDiv fun i j => Dn (i / j)) (tV 4) (tK (Dn 128))) tNil3)) (tV 1)))))))))
theorem mulc {i j : Int} (h : -(2 ^ 64) < j ∧ j < 2 ^ 64) : IntMulOk i j := CMul.ok (.inr h)
theorem sqr {i j : Int} (h : 0 ≤ i ∧ i < 4294967296) : IntMulOk i j := CMul.ok (.inl ⟨by omega, by omega⟩)
theorem rd_draw_n {p fa ca : Addr} {m : Int} {x : D} {S : Sto} {R : VK3} (s : Spl S p fa ca) (m0 : 0 < m) (h : ∀ i S', 0 ≤ i → i < m → Dw p fa ca S S' → R (Dn i) S') :
    r_draw_n { nx := fun _ S' => R Dz S', rt := R } [some (.ref p), some (Dn m), some x, none, none, none, none, none] S := by
  obtain ⟨far, cells, sm, c, h1, h2, h3, g1, g2, g3, g4⟩ := s.ex
  obtain ⟨npf, npc⟩ := s.pf
  refine .inr ⟨_, _, _, h1, by decide, look_count, ?_⟩
  refine .inr ⟨_, h1, by decide, (by decide : 4 < 1000000), ?_⟩
  rw [put_count]
  generalize e : put S p (.dic none (spk (.ref fa) (.ref ca) (Dn sm) (Dn (c + 1)))) = S1
  have e1 : S1 p = some (.dic none (spk (.ref fa) (.ref ca) (Dn sm) (Dn (c + 1)))) := by rw [← e, put_same]
  have e2 : S1 ca = some (.lst (cells.map Dn)) := by rw [← e, put_ne (Ne.symm npc)]; exact h3
  have d : Dw p fa ca S S1 := ⟨fun b o b1 _ q => by rw [← e, put_ne b1]; exact q, far, cells, sm, c + 1, e1, by rw [← e, put_ne (Ne.symm npf)]; exact h2, e2, g1, g2, g3, g4⟩
  refine .inr ⟨_, _, _, e1, by decide, look_count, ?_⟩
  refine .inr ⟨_, _, _, e1, by decide, look_cells, ?_⟩
  refine .inl ⟨_, e2, ?_⟩
  have lp : (0 : Int) < ((cells.map Dn).length : Nat) := by rw [List.length_map]; omega
  refine ⟨lp, ?_⟩
  have i0 := Int.emod_nonneg (c + 1) (Int.ne_of_gt lp)
  have i1 := Int.emod_lt_of_pos (c + 1) lp
  obtain ⟨n, hn⟩ := Int.eq_ofNat_of_zero_le i0
  have nl : n < (cells.map Dn).length := by omega
  rw [List.length_map] at nl
  obtain ⟨y, hy⟩ : ∃ y, cells[n]? = some y := ⟨_, List.getElem?_eq_getElem nl⟩
  refine .inl ⟨_, _, Dn y, e2, rfl, ?_, ?_⟩
  · show atI (cells.map Dn) ((c + 1) % ((cells.map Dn).length : Nat)) = _
    rw [hn, atI_nat, List.getElem?_map, hy]
    rfl
  refine ⟨mulc (by decide), mulc (by decide), ?_⟩
  refine .inr ⟨_, _, _, e1, by decide, look_sum, ?_⟩
  refine ⟨mulc (by decide), (by decide : (0 : Int) < 4294967291), ?_⟩
  generalize y * 2654435761 + (c + 1) * 374761393 + sm * 97 = z1
  have a0 := Int.emod_nonneg z1 (by decide : (4294967291 : Int) ≠ 0)
  have a1 := Int.emod_lt_of_pos z1 (by decide : (0 : Int) < 4294967291)
  refine ⟨sqr ⟨a0, by omega⟩, mulc (by decide), (by decide : (0 : Int) < 4294967279), ?_⟩
  generalize z1 % 4294967291 * (z1 % 4294967291) + y + (c + 1) * 668265263 = z2
  have a0 := Int.emod_nonneg z2 (by decide : (4294967279 : Int) ≠ 0)
  have a1 := Int.emod_lt_of_pos z2 (by decide : (0 : Int) < 4294967279)
  refine ⟨sqr ⟨a0, by omega⟩, (by decide : (0 : Int) < 4294967197), ?_⟩
  refine ⟨⟨by decide, by decide⟩, m0, ?_⟩
  exact h _ _ (Int.emod_nonneg _ (Int.ne_of_gt m0)) (Int.emod_lt_of_pos _ m0) d
theorem rd_l_draw (ds : List D) (S : Sto) (R : VK3) (hl : ds.length = 2) (h : sp_l_draw ds S R) : r_l_draw { nx := fun _ S' => R Dz S', rt := R } (start3 n_l_draw ds) S := by
  obtain ⟨p, fa, ca, m, rfl, s, m0, m1, h⟩ := h
  obtain ⟨far, cells, sm, c, h1, h2, h3, g1, g2, g3, g4⟩ := s.ex
  obtain ⟨npf, npc⟩ := s.pf
  have next : ∀ S1, Sub S S1 → r_draw_n { nx := fun _ S' => R Dz S', rt := R } [some (.ref p), some (Dn m), some (.ref fa), none, none, none, none, none] S1 := fun S1 hS =>
    rd_draw_n (s.sub hS) m0 fun i S' i0 i1 d => h i S' i0 i1 ((s.dw hS).trans d)
  refine .inr ⟨_, _, _, h1, by decide, look_far, ?_⟩
  refine ⟨by decide, fun q hq => ?_⟩
  have nq := s.off hq
  have hS : Sub S (put S q (.lst [])) := (Sub.refl S).add hq
  have k1 : (far.map Dn) = List.map D.k (far.map NestedKey.num) := by rw [List.map_map]; rfl
  refine ⟨far.map .num, [], (hS _ _ h2).trans (by rw [k1]), put_same, fun k hk => ?_, (fun k hk => by cases hk), ?_⟩
  · obtain ⟨i, _, rfl⟩ := List.mem_map.mp hk
    exact okK_num i
  show if (!decide (far.map NestedKey.num = [])) = true then _ else _
  by_cases c1 : far.map NestedKey.num = []
  · rw [if_neg (by simpa using c1)]
    exact next _ hS
  rw [if_pos (by simpa using c1)]
  show if decide (1 < m) = true then _ else _
  by_cases c2 : 1 < m
  · rw [if_pos (decide_eq_true c2)]
    rcases List.eq_nil_or_concat far with rfl | ⟨init, x, rfl⟩
    · exact (c1 rfl).elim
    rw [List.concat_eq_append] at h2 g3
    rw [List.length_append, List.length_singleton] at g3
    have e2 := hS _ _ h2
    rw [List.map_append] at e2
    refine ⟨rfl, _, Dn x, e2, ?_, ?_⟩
    · simp
    have dl : (List.map Dn init ++ List.map Dn [x]).dropLast = init.map Dn := List.dropLast_concat
    rw [dl]
    have d : ∀ (ys : List Int), ys.length ≤ 1000 → ∀ S2, S2 fa = some (.lst (ys.map Dn)) → (∀ b, b ≠ fa → S2 b = put S q (.lst []) b) → Dw p fa ca S S2 := fun ys hy S2 k2 ko => by
      refine ⟨fun b o b1 b2 e => ?_, ys, cells, sm, c, ?_, k2, ?_, g1, g2, hy, g4⟩
      · rw [ko b b2]
        exact hS b o e
      · rw [ko p npf]
        exact hS _ _ h1
      · rw [ko ca g4]
        exact hS _ _ h3
    have r0 := Int.emod_nonneg x (Int.ne_of_gt m0)
    have r1 := Int.emod_lt_of_pos x m0
    show if decide (m ≤ x) = true then _ else _
    by_cases c3 : m ≤ x
    · rw [if_pos (decide_eq_true c3)]
      refine ⟨⟨_, put_same⟩, ⟨m0, m1⟩, _, put_same, by rw [List.length_map]; omega, m0, ?_⟩
      exact h _ _ r0 r1 (d (init ++ [x / m]) (by rw [List.length_append, List.length_singleton]; omega) _ (by rw [put_same, List.map_append]; rfl) fun b hb => by rw [put_ne hb, put_ne hb])
    · rw [if_neg (by simpa using c3)]
      refine ⟨m0, ?_⟩
      exact h _ _ r0 r1 (d init (by omega) _ put_same fun b hb => put_ne hb)
  · rw [if_neg (by simpa using c2)]
    exact next _ hS
/-! pick, mixed -/
def sp_l_pick : Sp3 := fun ds S R => ∃ (p fa ca r : Addr) (xs : List D), ds = [.ref p, .ref r] ∧ Spl S p fa ca ∧ r ≠ fa ∧ S r = some (.lst xs) ∧ xs ≠ [] ∧ xs.length ≤ 1000000 ∧ ∀ x S', x ∈ xs → Dw p fa ca S S' → R x S'
theorem rd_l_pick (ds : List D) (S : Sto) (R : VK3) (hl : ds.length = 2) (h : sp_l_pick ds S R) : r_l_pick sp_l_draw { nx := fun _ S' => R Dz S', rt := R } (start3 n_l_pick ds) S := by
  obtain ⟨p, fa, ca, r, xs, rfl, s, n1, hr, ne, hl, h⟩ := h
  have lp := List.length_pos_iff.mpr ne
  refine .inl ⟨_, hr, rfl, p, fa, ca, xs.length, rfl, s, by omega, by omega, fun i S' i0 i1 d => ?_⟩
  obtain ⟨n, rfl⟩ := Int.eq_ofNat_of_zero_le i0
  have nl : n < xs.length := by omega
  have hx : xs[n]? = some xs[n] := List.getElem?_eq_getElem nl
  refine .inl ⟨_, _, xs[n], d.x r _ (s.offL hr) n1 hr, rfl, by rw [atI_nat]; exact hx, h _ S' (List.getElem_mem nl) d⟩
def sp_l_mixed : Sp3 := fun ds S R => ∃ (p fa ca r : Addr) (xs : List D), ds = [.ref p, .ref r] ∧ Spl S p fa ca ∧ S r = some (.lst xs) ∧ xs.length ≤ 1000 ∧ ∀ q ys S', S q = none → S' q = some (.lst ys) → List.Perm ys xs → Dw p fa ca S S' → R (.ref q) S'
theorem rangeD_succ_drop (n k : Nat) (h : k < n) : (rangeD n).drop k = Dn (k : Nat) :: (rangeD n).drop (k + 1) := by
  have l : k < (rangeD n).length := by simp [rangeD]; exact h
  rw [List.drop_eq_getElem_cons l]
  congr 1
  simp [rangeD]
theorem eraseIdx_perm {α : Type} : ∀ (xs : List α) (n : Nat) (x : α), xs[n]? = some x → List.Perm (xs.eraseIdx n ++ [x]) xs
  | [], _, _, h => by simp at h
  | a :: xs, 0, x, h => by
    simp at h
    subst h
    exact List.perm_append_comm
  | a :: xs, n + 1, x, h => by
    rw [List.eraseIdx_cons_succ, List.cons_append]
    exact (eraseIdx_perm xs n x (by simpa using h)).cons a
theorem mixed_loop {p fa ca lr lf : Addr} {xs : List D} {D3 : Ends3} {b : D} {S0 : Sto} (s0 : Spl S0 p fa ca) (nr : S0 lr = none) (nf : S0 lf = none) (nrf : lr ≠ lf) : ∀ (items : List D) (rest found : List D) (x : Option D) (S : Sto), items.length = rest.length → found.length + rest.length ≤ 1000 → Dw p fa ca S0 S → S lr = some (.lst rest) → S lf = some (.lst found) → List.Perm (found ++ rest) xs →
    (∀ x found S', Dw p fa ca S0 S' → S' lf = some (.lst found) → List.Perm found xs → D3.nx [some (.ref p), some b, x, some (.ref lr), some (.ref lf)] S') →
    for3 (gN 2) (r_l_mixed_1 sp_l_draw) (fun _ => True) D3 items [some (.ref p), some b, x, some (.ref lr), some (.ref lf)] S
  | [], rest, found, x, S, e, _, d, hr, hf, pm, hk => by
    cases rest with
    | cons _ _ => cases e
    | nil => exact for3_nil.mpr ⟨trivial, hk x found S d hf (by simpa using pm)⟩
  | y :: items, rest, found, x, S, e, hn, d, hr, hf, pm, hk => by
    rw [List.length_cons] at e
    have offr := s0.off nr
    have offf := s0.off nf
    refine for3_N.mpr ⟨trivial, ?_⟩
    refine ⟨⟨_, hf⟩, ⟨_, hr⟩, .inl ⟨_, hr, rfl, p, fa, ca, rest.length, rfl, d.s, by omega, by omega, fun i S1 i0 i1 d1 => ?_⟩⟩
    obtain ⟨n, rfl⟩ := Int.eq_ofNat_of_zero_le i0
    have nl : n < rest.length := by omega
    have hx : rest[n]? = some rest[n] := List.getElem?_eq_getElem nl
    have hr1 := d1.x lr _ offr.1 offr.2.1 hr
    have hf1 := d1.x lf _ offf.1 offf.2.1 hf
    refine ⟨_, rest[n], hr1, by omega, by omega, hx, ?_⟩
    refine ⟨found, by rw [put_ne (Ne.symm nrf)]; exact hf1, by omega, ?_⟩
    show for3 (gN 2) (r_l_mixed_1 sp_l_draw) (fun _ => True) D3 items _ _
    have le : (rest.eraseIdx n).length = rest.length - 1 := by rw [List.length_eraseIdx, if_pos nl]
    refine mixed_loop s0 nr nf nrf items (rest.eraseIdx n) (found ++ [rest[n]]) _ _ (by omega) (by rw [List.length_append, List.length_singleton]; omega) (((d.trans d1).over ⟨nr, offr⟩).over ⟨nf, offf⟩) ((put_ne nrf).trans put_same) put_same (List.Perm.trans ?_ pm) hk
    rw [List.append_assoc]
    exact (List.perm_append_comm.trans (eraseIdx_perm rest n _ hx)).append_left found
theorem rd_l_mixed (ds : List D) (S : Sto) (R : VK3) (hl : ds.length = 2) (h : sp_l_mixed ds S R) : r_l_mixed sp_l_draw { nx := fun _ S' => R Dz S', rt := R } (start3 n_l_mixed ds) S := by
  obtain ⟨p, fa, ca, r, xs, rfl, s, hr, hn, h⟩ := h
  refine ⟨_, hr, fun lr nr => ⟨by decide, fun lf nf => ?_⟩⟩
  have nrf : lr ≠ lf := fun z => by rw [← z, put_same] at nf; cases nf
  have nf0 : S lf = none := Sub.gone ((Sub.refl S).add nr) nf
  refine .inl ⟨_, (put_ne nrf).trans put_same, ?_⟩
  refine ⟨by omega, by omega, ?_⟩
  have d0 : Dw p fa ca S (put (put S lr (.lst xs)) lf (.lst [])) := ((Dw.refl s).add nr).add nf
  refine mixed_loop (S0 := S) (xs := xs) s nr nf0 nrf (rangeD _) xs [] _ _ (by simp [rangeD]) (by simp; omega) d0 ((put_ne nrf).trans put_same) put_same (List.Perm.refl xs) fun x found S' d hf pm => ?_
  exact h lf found S' nf0 hf pm d
end L3
/-! ## S19 -/
namespace L3
open PySem PySem.Spec L2
open PyProof.Rows hiding St
set_option hygiene false in
local macro_rules | `(tactic| walk_at "rd3") => `(tactic| simp only [a1, a2, asB, asI, asK, asP, asR, asT, asOwn, cN, cP, gN, gP, iD3, iE3, iL3, iR3, iS3, iT3, iZ3, rAbs3, rAdd3, rAll3, rApp3, rDictP3, rDictZ3, rEq3, rExt3, rI03, rI3, rIn3, rInt3, rIs3, rIsi3, rIx3, rLen3, rList3, rListD3, rListZ3, rMaxL3, rMin23, rMinL3, rNeg3, rPop3, rPopAt3, rRepr3, rSet3, rSl3, rSum3, rTuple3, rTupleW3, rdS, tAnd3, tAndV3, tAsg3, tB3, tBack3, tBreak3, tCall3, tChain3, tCons3, tDict0, tDisp3, tDrop3, tFld3, tFor3, tFst3, tGet3, tIf3, tIfS3, tK, tLc3, tLk3, tLkE3, tLst3, tM0, tM1, tMake3, tMeth3, tNever3, tNext3, tNil3, tNo3, tNot3, tNotV3, tOp3, tOr3, tOrV3, tOwn3, tPairs3, tPar3, tPar33, tRep3, tRet3, tSFld3, tSeq3, tSet3, tSl3, tSm3, tSortK3, tSub3, tT, tTup3, tUn3, tV, tWk3, tYes3, three, two, nks, Option.map, List.getElem?_cons_zero, List.getElem?_cons_succ, List.set_cons_zero, List.set_cons_succ, if_true, if_false, Bool.false_eq_true, ite_true, ite_false, reduceIte, List.length_cons, List.length_nil, Nat.zero_add, Nat.reduceAdd, true_and, and_true])
/-! the law's states, cards and values -/
/-- a comprehension by what stays true -/
theorem lc3_inv {gs : D → (Sd → Prop) → Prop} {tt : TT3} {te : TE3} {still : Sto → Prop} {Q : List D → Sto → Prop} (I : List D → List D → Sto → Prop)
    (step : ∀ d r acc S, I (d :: r) acc S → ∀ (K : VK3) (N : Sto → Prop), (∀ v S', I r (acc ++ [v]) S' → K v S') → (∀ S', I r acc S' → N S') → still S ∧ gs d fun σ1 => tt σ1 S fun b S2 => if b = true then te σ1 S2 K else N S2)
    (fin : ∀ acc S, I [] acc S → still S ∧ Q acc S) : ∀ (items acc : List D) (S : Sto), acc.length + items.length ≤ 1000000 → I items acc S → lc3 gs tt te still Q items acc S
  | [], acc, S, _, h => fin acc S h
  | d :: r, acc, S, hl, h => by
    rw [List.length_cons] at hl
    exact step d r acc S h _ _ (fun v S' h' => ⟨by omega, lc3_inv I step fin r _ S' (by rw [List.length_append, List.length_singleton]; omega) h'⟩) fun S' h' => lc3_inv I step fin r acc S' (by omega) h'
def sp_l_states : Sp3 := fun ds S R => ∃ card : List Nat, ds = [dS card] ∧ card.length ≤ 100 ∧ size card ≤ 1000 ∧ ∀ q S', S q = none → Sub S S' → S' q = some (.lst (encs (sts card))) → R (.ref q) S'
theorem lstates_in {Se : Sto} {D3 : Ends3} {c : D} {f : Addr} {t n : Nat} {found : List (List Nat)} (ht : t < 1000) (hd : ∀ s ∈ found, s.length = n) (hn : n ≤ 100) (hz : found.length * (t + 1) ≤ 1000) :
    ∀ (rest acc : List (List Nat)) (lg : Addr) (a b : Option D) (S : Sto), (∀ s ∈ rest, s ∈ found) → acc.length + rest.length * (t + 1) ≤ 1000 → Sub Se S → Se lg = none → S f = some (.lst (encs found)) → S lg = some (.lst (encs acc)) →
      (∀ lg a b S', Sub Se S' → Se lg = none → S' lg = some (.lst (encs (acc ++ stepS rest t))) → D3.nx [some c, some (.ref f), some (Dn t), some (.ref lg), a, b] S') →
      for3 (gN 4) r_l_states_2 (fun S => S f = some (.lst (encs found))) D3 (encs rest) [some c, some (.ref f), some (Dn t), some (.ref lg), a, b] S
  | [], acc, lg, a, b, S, _, _, hS, hg, hf, hl, hk => for3_nil.mpr ⟨hf, hk lg a b S hS hg (by simpa [stepS] using hl)⟩
  | s :: rest, acc, lg, a, b, S, hm, hb, hS, hg, hf, hl, hk => by
    rw [List.length_cons, Nat.succ_mul] at hb
    show for3 (gN 4) r_l_states_2 _ D3 (dS s :: encs rest) _ S
    refine for3_N.mpr ⟨hf, ?_⟩
    refine ⟨by omega, by omega, ?_⟩
    have tn : ((t : Int) + 1).toNat = t + 1 := by omega
    rw [tn]
    refine lc3_map (S0 := S) (fun d => match d with | .k (.num i) => some (dS (s ++ [i.toNat])) | _ => none) _ _ _ (Sub.refl S) (fun d hd' S1 h1 K L hk' _ => ?_) (fun _ _ => trivial) (by simp [rangeD]; omega) fun S' hS' p hp => ?_
    · obtain ⟨i, hi, rfl⟩ := List.mem_map.mp hd'
      have e : (NestedKey.tup (s.map nN ++ [.num (i : Int)])) = enc (s ++ [((i : Int)).toNat]) := by simp
      have ls : s.length = n := hd s (hm s List.mem_cons_self)
      refine ⟨(by decide : 1 ≤ 1000), ?_⟩
      show _ ∧ K (Dt (List.map nN s ++ [NestedKey.num (i : Int)])) S1
      refine ⟨by rw [List.length_map, ls]; simp; omega, ?_⟩
      rw [show Dt (List.map nN s ++ [NestedKey.num (i : Int)]) = dS (s ++ [((i : Int)).toNat]) from congrArg D.k e]
      exact hk' _ S1 rfl (Sub.refl _)
    · have nl : lg ≠ p := fun z => by rw [← z, hS' lg _ hl] at hp; cases hp
      have nf : f ≠ p := fun z => by rw [← z, hS' f _ hf] at hp; cases hp
      have new : [] ++ List.filterMap (fun d => match d with | .k (.num i) => some (dS (s ++ [i.toNat])) | _ => none) (rangeD (t + 1)) = encs (lvls s t) := by
        unfold rangeD encs lvls
        rw [List.nil_append, List.filterMap_map, List.map_map]
        exact (filterMap_some (fun i : Nat => dS (s ++ [((i : Int)).toNat])) (List.range (t + 1))).trans (by simp)
      rw [new]
      have cat : encs acc ++ encs (lvls s t) = encs (acc ++ lvls s t) := by unfold encs; rw [List.map_append]
      refine ⟨_, _, (put_ne nl).trans (hS' lg _ hl), put_same, by unfold encs; rw [List.length_map, List.length_map, lvls_len]; omega, fun g hgn => ?_⟩
      rw [cat]
      have S2 : Sub Se (put S' p (.lst (encs (lvls s t)))) := Sub.add (hS.trans hS') hp
      refine lstates_in ht hd hn hz rest (acc ++ lvls s t) g _ _ _ (fun x hx => hm x (List.mem_cons_of_mem _ hx)) (by rw [List.length_append, lvls_len]; omega) (S2.add hgn) (S2.gone hgn) ?_ put_same fun lg' a b S2 h2 hg2 hl2 => ?_
      · rw [put_ne (fun z => by rw [← z, put_ne nf, hS' f _ hf] at hgn; cases hgn), put_ne nf]
        exact hS' f _ hf
      · refine hk lg' a b S2 h2 hg2 ?_
        rw [hl2]
        unfold stepS
        rw [List.flatMap_cons, List.append_assoc]
theorem lstates_out {Se : Sto} {D3 : Ends3} {c : D} : ∀ (rest : List Nat) (found : List (List Nat)) (n : Nat) (f : Addr) (x1 x2 x3 x4 : Option D) (S : Sto), 1 ≤ found.length → Se f = none → (∀ s ∈ found, s.length = n) → n + rest.length ≤ 100 → found.length * size rest ≤ 1000 → Sub Se S → S f = some (.lst (encs found)) →
      (∀ f x1 x2 x3 x4 S', Se f = none → Sub Se S' → S' f = some (.lst (encs (rest.foldl stepS found))) → D3.nx [some c, some (.ref f), x1, x2, x3, x4] S') →
      for3 (gN 2) r_l_states_1 (fun _ => True) D3 (List.map D.k (rest.map nN)) [some c, some (.ref f), x1, x2, x3, x4] S
  | [], found, n, f, x1, x2, x3, x4, S, _, ef, _, _, _, hS, hf, hk => for3_nil.mpr ⟨trivial, hk f x1 x2 x3 x4 S ef hS hf⟩
  | t :: rest, found, n, f, x1, x2, x3, x4, S, h1, ef, hd, hn, hz, hS, hf, hk => by
    have sp := size_pos rest
    rw [size] at hz
    rw [List.length_cons] at hn
    have hz2 : found.length * (t + 1) ≤ 1000 := Nat.le_trans (Nat.le_mul_of_pos_right _ sp) (by rw [Nat.mul_assoc]; exact hz)
    refine for3_N.mpr ⟨trivial, ?_⟩
    refine ⟨by decide, fun lg hlg => ?_⟩
    have ne : f ≠ lg := fun z => by rw [← z, hf] at hlg; cases hlg
    have el : Se lg = none := Sub.gone hS hlg
    refine ⟨encs found, (put_ne ne).trans hf, ?_⟩
    have t1000 : t < 1000 := by
      have := Nat.le_trans (Nat.mul_le_mul_right (t + 1) h1) hz2
      omega
    refine lstates_in (Se := Se) (c := c) t1000 hd (by omega) hz2 found [] lg x3 x4 (put S lg (.lst [])) (fun _ h => h) (by simpa using hz2) (Sub.add hS hlg) el ((put_ne ne).trans hf) put_same fun lg' a b S' hS' hg' hl' => ?_
    exact lstates_out rest (stepS found t) (n + 1) lg' _ _ _ _ _ (by rw [stepS_len]; exact Nat.mul_pos h1 (Nat.succ_pos _)) hg' (step_depth hd) (by omega) (by rw [stepS_len, Nat.mul_assoc]; exact hz) hS' hl' hk
theorem rd_l_states (ds : List D) (S : Sto) (R : VK3) (hl : ds.length = 1) (h : sp_l_states ds S R) : r_l_states { nx := fun _ S' => R Dz S', rt := R } (start3 n_l_states ds) S := by
  obtain ⟨card, rfl, hc, hz, h⟩ := h
  refine ⟨by decide, by decide, fun f hf => ?_⟩
  refine lstates_out (Se := S) card [[]] 0 f _ _ _ _ _ (by decide) hf (by simp) (by omega) (by simpa using hz) (Sub.add (Sub.refl S) hf) put_same fun f x1 x2 x3 x4 S' nf hS hf' => ?_
  exact h f S' nf hS hf'
/-! card -/
def sp_l_card : Sp3 := fun ds S R => ∃ (p fa ca : Addr) (most : Nat), ds = [.ref p, Dn most] ∧ Spl S p fa ca ∧ 5 ≤ most ∧ most ≤ 27 ∧ ∀ card S', card.length ≤ 4 → (∀ t ∈ card, 1 ≤ t ∧ t ≤ 4) → size card ≤ most → 2 ≤ size card → Dw p fa ca S S' → R (dS card) S'
theorem size_app (t : Nat) : ∀ c : List Nat, size (c ++ [t]) = size c * (t + 1)
  | [] => by simp [size]
  | a :: c => by rw [List.cons_append, size, size, size_app t c, Nat.mul_assoc]
theorem size_two : ∀ {c : List Nat}, c ≠ [] → (∀ t ∈ c, 1 ≤ t ∧ t ≤ 4) → 2 ≤ size c
  | [], h, _ => (h rfl).elim
  | t :: c, _, h => by
    have := h t (List.mem_cons_self ..)
    have := size_pos c
    rw [size]
    exact Nat.le_trans (by omega : 2 ≤ (t + 1) * 1) (Nat.mul_le_mul_left _ this)
theorem mem_tops {x : D} (h : x ∈ ([Dn 1, Dn 1, Dn 1, Dn 2, Dn 2, Dn 3, Dn 4] : List D)) : ∃ t : Nat, x = Dn t ∧ 1 ≤ t ∧ t ≤ 4 := by
  simp only [List.mem_cons, List.not_mem_nil, or_false] at h
  rcases h with rfl | rfl | rfl | rfl | rfl | rfl | rfl
  · exact ⟨1, rfl, by decide, by decide⟩
  · exact ⟨1, rfl, by decide, by decide⟩
  · exact ⟨1, rfl, by decide, by decide⟩
  · exact ⟨2, rfl, by decide, by decide⟩
  · exact ⟨2, rfl, by decide, by decide⟩
  · exact ⟨3, rfl, by decide, by decide⟩
  · exact ⟨4, rfl, by decide, by decide⟩
theorem mem_turns {x : D} (h : x ∈ ([Dn 1, Dn 2, Dn 2, Dn 3, Dn 3, Dn 4] : List D)) : ∃ t : Nat, x = Dn t ∧ 1 ≤ t ∧ t ≤ 4 := by
  simp only [List.mem_cons, List.not_mem_nil, or_false] at h
  rcases h with rfl | rfl | rfl | rfl | rfl | rfl
  · exact ⟨1, rfl, by decide, by decide⟩
  · exact ⟨2, rfl, by decide, by decide⟩
  · exact ⟨2, rfl, by decide, by decide⟩
  · exact ⟨3, rfl, by decide, by decide⟩
  · exact ⟨3, rfl, by decide, by decide⟩
  · exact ⟨4, rfl, by decide, by decide⟩
theorem card_loop {p fa ca lt : Addr} {most : Nat} {D3 : Ends3} {S0 : Sto} (s0 : Spl S0 p fa ca) (nt : S0 lt = none) (m5 : 5 ≤ most) (m27 : most ≤ 27) : ∀ (items : List D) (card : List Nat) (x y : Option D) (S : Sto), card.length + items.length ≤ 4 → (card ≠ [] ∨ items ≠ []) → (∀ t ∈ card, 1 ≤ t ∧ t ≤ 4) → size card ≤ most → Dw p fa ca S0 S → S lt = some (.lst (List.map D.k (card.map nN))) →
    (∀ card x y z S', Dw p fa ca S0 S' → S' lt = some (.lst (List.map D.k (card.map nN))) → card.length ≤ 4 → card ≠ [] → (∀ t ∈ card, 1 ≤ t ∧ t ≤ 4) → size card ≤ most → D3.nx [some (.ref p), some (Dn most), x, some (.ref lt), z, y] S') →
    for3 (gN 2) (r_l_card_1 sp_l_pick) (fun _ => True) D3 items [some (.ref p), some (Dn most), x, some (.ref lt), some (Dn (size card)), y] S
  | [], card, x, y, S, hn, hne, ht, hz, d, hl, hk => for3_nil.mpr ⟨trivial, hk card x y _ S d hl (by simpa using hn) (hne.resolve_right fun z => z rfl) ht hz⟩
  | i :: items, card, x, y, S, hn, hne, ht, hz, d, hl, hk => by
    rw [List.length_cons] at hn
    refine for3_N.mpr ⟨trivial, ?_⟩
    refine ⟨(by decide : 7 ≤ 1000), fun q hq => ?_⟩
    obtain ⟨q0, q1, q2, q3⟩ := d.gone hq
    have dq := d.add (o := .lst [Dn 1, Dn 1, Dn 1, Dn 2, Dn 2, Dn 3, Dn 4]) hq
    refine ⟨rfl, p, fa, ca, q, _, rfl, dq.s, q2, put_same, by simp, by decide, fun z S1 hz1 d1 => ?_⟩
    obtain ⟨t, rfl, t1, t4⟩ := mem_tops hz1
    have d2 := dq.trans d1
    obtain ⟨o1, o2, o3⟩ := s0.off nt
    have hl1 : S1 lt = some (.lst (List.map D.k (card.map nN))) := d1.x lt _ o1 o2 ((put_ne fun z => by rw [← z, hl] at hq; cases hq).trans hl)
    have zp := size_pos card
    refine ⟨mulc ⟨by omega, by omega⟩, ?_⟩
    have e1 : ((size card : Nat) : Int) * ((t : Int) + 1) = ((size card * (t + 1) : Nat) : Int) := by push_cast; rfl
    show if decide (((size card : Nat) : Int) * ((t : Int) + 1) ≤ (most : Nat)) = true then _ else _
    rw [e1]
    by_cases c : size card * (t + 1) ≤ most
    · rw [if_pos (decide_eq_true (by omega))]
      refine ⟨⟨_, hl1⟩, _, hl1, by rw [List.length_map, List.length_map]; omega, mulc ⟨by omega, by omega⟩, ?_⟩
      show for3 _ _ _ D3 items [some (.ref p), some (Dn most), some i, some (.ref lt), some (Dn (((size card : Nat) : Int) * ((t : Int) + 1))), some (Dn t)] _
      rw [e1, ← size_app]
      refine card_loop s0 nt m5 m27 items (card ++ [t]) _ _ _ (by rw [List.length_append, List.length_singleton]; omega) (.inl (by simp)) (fun u hu => ?_) (by rw [size_app]; exact c) (d2.over ⟨nt, o1, o2, o3⟩) (by rw [put_same, List.map_append, List.map_append]; rfl) hk
      rcases List.mem_append.mp hu with hu | hu
      · exact ht u hu
      · rw [List.mem_singleton] at hu
        subst hu
        exact ⟨t1, t4⟩
    · rw [if_neg (by rw [decide_eq_true_eq]; omega)]
      have cn : card ≠ [] := fun z => by
        subst z
        rw [size, Nat.one_mul] at c
        omega
      exact card_loop s0 nt m5 m27 items card _ _ _ (by omega) (.inl cn) ht hz d2 hl1 hk
theorem rd_l_card (ds : List D) (S : Sto) (R : VK3) (hl : ds.length = 2) (h : sp_l_card ds S R) : r_l_card sp_l_pick { nx := fun _ S' => R Dz S', rt := R } (start3 n_l_card ds) S := by
  obtain ⟨p, fa, ca, most, rfl, s, m5, m27, h⟩ := h
  refine ⟨by decide, fun lt nt => ?_⟩
  have d0 := (Dw.refl s).add (o := .lst []) nt
  refine ⟨(by decide : 6 ≤ 1000), fun q hq => ?_⟩
  obtain ⟨q0, q1, q2, q3⟩ := d0.gone hq
  have dq := d0.add (o := .lst [Dn 1, Dn 2, Dn 2, Dn 3, Dn 3, Dn 4]) hq
  refine ⟨rfl, p, fa, ca, q, _, rfl, dq.s, q2, put_same, by simp, by decide, fun z S1 hz1 d1 => ?_⟩
  obtain ⟨n, rfl, n1, n4⟩ := mem_turns hz1
  obtain ⟨o1, o2, o3⟩ := s.off nt
  refine ⟨by omega, by omega, ?_⟩
  have hl1 : S1 lt = some (.lst []) := d1.x lt _ o1 o2 ((put_ne fun z => by rw [← z, put_same] at hq; cases hq).trans put_same)
  have tn : ((n : Nat) : Int).toNat = n := by omega
  rw [tn]
  refine card_loop (S0 := S) s nt m5 m27 (rangeD n) [] _ _ S1 (by simp [rangeD]; omega) (.inr (fun z => by have := congrArg List.length z; simp [rangeD] at this; omega)) (fun _ h => by cases h) (by rw [size]; omega) (dq.trans d1) hl1 fun card x y z S' d e c4 cn ct cz => ?_
  exact ⟨card.map nN, e, h card S' c4 ct cz (size_two cn ct) d⟩
/-! values -/
def unk : D → NK
  | .k x => x
  | _ => .none
theorem perm_k {ys : List D} {ks : List NK} (h : List.Perm ys (ks.map D.k)) : ∃ ls, ys = ls.map D.k ∧ List.Perm ls ks := by
  refine ⟨ys.map unk, ?_, ?_⟩
  · rw [List.map_map]
    refine (List.map_id ys).symm.trans (List.map_congr_left fun y hy => ?_)
    obtain ⟨k, _, rfl⟩ := List.mem_map.mp (h.mem_iff.mp hy)
    rfl
  · have := h.map unk
    rw [List.map_map] at this
    exact this.trans (by
      have e : List.map (unk ∘ D.k) ks = ks := by
        rw [show (unk ∘ D.k) = id from rfl, List.map_id]
      rw [e])
def sp_l_values : Sp3 := fun ds S R => ∃ (p fa ca : Addr) (m : Nat), ds = [.ref p, Dn m] ∧ Spl S p fa ca ∧ m ≤ 4 ∧ ∀ q vs S', S q = none → S' q = some (.lst (List.map D.k vs)) → vs.length = m → vs.Nodup → (∀ v ∈ vs, v ∈ menu) → Dw p fa ca S S' → R (.ref q) S'
theorem menu_nodup : menu.Nodup := by decide +kernel
theorem menu_value : ∀ v ∈ menu, valueV v = true := by decide +kernel
theorem cut_take {α : Type} (xs : List α) (m : Nat) (h : m ≤ xs.length) : cut xs none (some (m : Int)) = xs.take m := by
  have := cut_to (xs.take m) (xs.drop m)
  rw [List.take_append_drop, List.length_take, Nat.min_eq_left h] at this
  exact this
theorem rd_l_values (ds : List D) (S : Sto) (R : VK3) (hl : ds.length = 2) (h : sp_l_values ds S R) : r_l_values sp_l_mixed { nx := fun _ S' => R Dz S', rt := R } (start3 n_l_values ds) S := by
  obtain ⟨p, fa, ca, m, rfl, s, m4, h⟩ := h
  unfold r_l_values
  walk_at "rd3"
  refine ⟨by decide, by decide, by decide, by decide, by decide, by decide, fun r hr => ?_⟩
  have d0 := (Dw.refl s).add (o := .lst (menu.map D.k)) hr
  refine ⟨p, fa, ca, r, menu.map D.k, rfl, d0.s, put_same, by decide, fun q ys S1 nq hq pm d1 => ?_⟩
  obtain ⟨ls, rfl, pm2⟩ := perm_k pm
  have ll : ls.length = 14 := pm2.length_eq
  refine ⟨_, hq, fun g hg => ?_⟩
  have d2 := d0.trans d1
  have e : cut (List.map D.k ls) none (some (m : Int)) = List.map D.k (ls.take m) := by
    rw [cut_take _ _ (by rw [List.length_map]; omega), List.map_take]
  rw [e]
  exact h g (ls.take m) _ (d2.gone hg).1 put_same (by rw [List.length_take]; omega) ((pm2.nodup_iff.mpr menu_nodup).sublist (List.take_sublist ..)) (fun v hv => pm2.mem_iff.mp (List.mem_of_mem_take hv)) (d2.add hg)
end L3
/-! ## S20 -/
namespace L3
open PySem PySem.Spec L2
open PyProof.Rows hiding St
set_option hygiene false in
local macro_rules | `(tactic| walk_at "rd3") => `(tactic| simp only [a1, a2, asB, asI, asK, asP, asR, asT, asOwn, cN, cP, gN, gP, iD3, iE3, iL3, iR3, iS3, iT3, iZ3, rAbs3, rAdd3, rAll3, rApp3, rDictP3, rDictZ3, rEq3, rExt3, rI03, rI3, rIn3, rInt3, rIs3, rIsi3, rIx3, rLen3, rList3, rListD3, rListZ3, rMaxL3, rMin23, rMinL3, rNeg3, rPop3, rPopAt3, rRepr3, rSet3, rSl3, rSum3, rTuple3, rTupleW3, rdS, tAnd3, tAndV3, tAsg3, tB3, tBack3, tBreak3, tCall3, tChain3, tCons3, tDict0, tDisp3, tDrop3, tFld3, tFor3, tFst3, tGet3, tIf3, tIfS3, tK, tLc3, tLk3, tLkE3, tLst3, tM0, tM1, tMake3, tMeth3, tNever3, tNext3, tNil3, tNo3, tNot3, tNotV3, tOp3, tOr3, tOrV3, tOwn3, tPairs3, tPar3, tPar33, tRep3, tRet3, tSFld3, tSeq3, tSet3, tSl3, tSm3, tSortK3, tSub3, tT, tTup3, tUn3, tV, tWk3, tYes3, three, two, nks, Option.map, List.getElem?_cons_zero, List.getElem?_cons_succ, List.set_cons_zero, List.set_cons_succ, if_true, if_false, Bool.false_eq_true, ite_true, ite_false, reduceIte, List.length_cons, List.length_nil, Nat.zero_add, Nat.reduceAdd, true_and, and_true])
/-! the law's code -/
/-- what a label of the code is -/
def LabOf (vs : List NK) (v : NK) : Prop := v ∈ vs ∨ v = .none
def sp_l_code : Sp3 := fun ds S R => ∃ (p fa ca : Addr) (card : List Nat) (m : Nat), ds = [.ref p, dS card, Dn m] ∧ Spl S p fa ca ∧ 2 ≤ m ∧ m ≤ 4 ∧ card.length ≤ 4 ∧ (∀ t ∈ card, 1 ≤ t ∧ t ≤ 4) ∧ size card ≤ 27 ∧ 2 ≤ size card ∧ ∀ labs S', CodeOk card labs → Dw p fa ca S S' → R (codeD card labs) S'
theorem zip_turn {s : List Nat} {ks : List NK} {is : List Int} (h4 : ∀ l ∈ s, l ≤ 4) (hk : ks = is.map .num) : ∀ d ∈ zipD (s.map nN) ks, ∃ (l : Nat) (i : Int), d = Dt [nN l, .num i] ∧ l ≤ 4 := fun d hd => by
  subst hk
  unfold zipD at hd
  obtain ⟨q, hq, rfl⟩ := List.mem_map.mp hd
  obtain ⟨h1, h2⟩ := List.of_mem_zip (a := q.1) (b := q.2) hq
  obtain ⟨l, hl, e1⟩ := List.mem_map.mp h1
  obtain ⟨i, hi, e2⟩ := List.mem_map.mp h2
  exact ⟨l, i, by rw [← e1, ← e2], h4 l hl⟩
def prodD : D → Option D
  | .k (.tup [.num a, .num b]) => some (Dn (a * b))
  | _ => none
theorem val_le4 : ∀ {card s : List Nat}, Val card s → (∀ t ∈ card, 1 ≤ t ∧ t ≤ 4) → ∀ l ∈ s, l ≤ 4
  | [], [], _, _, l, h => by cases h
  | t :: c, a :: s, hv, ht, l, h => by
    have h1 := ht t (List.mem_cons_self ..)
    have h2 := hv.1
    rcases List.mem_cons.mp h with rfl | h
    · omega
    · exact val_le4 hv.2 (fun t h => ht t (List.mem_cons_of_mem _ h)) l h
  | [], _ :: _, h, _, _, _ => h.elim
  | _ :: _, [], h, _, _, _ => h.elim
theorem filterMap_all {α β : Type} (f : α → Option β) (g : β → Prop) : ∀ (l : List α), (∀ a ∈ l, ∃ b, f a = some b ∧ g b) → (∀ b ∈ l.filterMap f, g b)
  | [], _, b, h => by cases h
  | a :: l, h, b, hb => by
    obtain ⟨c, hc, gc⟩ := h a (List.mem_cons_self ..)
    rw [List.filterMap_cons, hc] at hb
    rcases List.mem_cons.mp hb with rfl | hb
    · exact gc
    · exact filterMap_all f g l (fun a h' => h a (List.mem_cons_of_mem _ h')) b hb
theorem all_num : ∀ {l : List D}, (∀ d ∈ l, ∃ i, d = Dn i) → ∃ is, l = List.map Dn is
  | [], _ => ⟨[], rfl⟩
  | d :: l, h => by
    obtain ⟨i, rfl⟩ := h d (List.mem_cons_self ..)
    obtain ⟨is, rfl⟩ := all_num (l := l) fun d hd => h d (List.mem_cons_of_mem _ hd)
    exact ⟨i :: is, rfl⟩
theorem dn_k (is : List Int) : List.map Dn is = List.map D.k (is.map .num) := by rw [List.map_map]; rfl
section
variable {p fa ca va la ma : Addr} {card : List Nat} {vs : List NK} {m : Nat} {wy : Int} {S0 : Sto}
/-- all that a turn of the loop needs -/
structure CodeAt (p fa ca va ma : Addr) (vs : List NK) (S : Sto) : Prop where
  s : Spl S p fa ca
  v : S va = some (.lst (List.map D.k vs))
  vn : va ≠ fa
  mks : ∃ is : List Int, S ma = some (.lst (List.map Dn is))
  mn : ma ≠ fa
theorem CodeAt.dw {S S' : Sto} (h : CodeAt p fa ca va ma vs S) (d : Dw p fa ca S S') : CodeAt p fa ca va ma vs S' :=
  ⟨d.s, d.x _ _ (h.s.offL h.v) h.vn h.v, h.vn, let ⟨is, e⟩ := h.mks; ⟨is, d.x _ _ (h.s.offL e) h.mn e⟩, h.mn⟩
theorem code_turn {D3 : Ends3} {F : Sd → Sto → Prop} {s : List Nat} {acc : List NK} {x4 x8 x9 x10 x11 : Option D} {c1 : D} {S : Sto} (h2 : 2 ≤ m) (h4 : m ≤ 4) (hv : vs.length = m) (hs : ∀ l ∈ s, l ≤ 4) (hsl : s.length ≤ 100) (A : CodeAt p fa ca va ma vs S) (ll : S la = some (.lst (List.map D.k acc))) (ln : la ≠ fa) (la1 : acc.length < 1000)
    (h : ∀ (v : NK) (S1 : Sto), LabOf vs v → Dw p fa ca S S1 → S1 la = some (.lst (List.map D.k acc)) → F [some (.ref p), some c1, some (Dn m), some (.ref la), some (dS s), some (.ref va), some (Dn wy), some (.ref ma), some (.k v), x9, x10, x11] (put S1 la (.lst (List.map D.k (acc ++ [v]))))) :
    r_l_code_1 sp_l_values sp_l_draw sp_l_states sp_l_pick { D3 with nx := F, ct := F, bk := D3.nx } ([some (.ref p), some c1, some (Dn m), some (.ref la), x4, some (.ref va), some (Dn wy), some (.ref ma), x8, x9, x10, x11].set 4 (some (dS s))) S := by
  obtain ⟨is, hm⟩ := A.mks
  have np : la ≠ p := A.s.offL ll
  -- the last two statements
  have last : ∀ (v : NK) (S1 : Sto), LabOf vs v → Dw p fa ca S S1 → S1 la = some (.lst (List.map D.k acc)) →
      (tDrop3 (tM1 rApp3 (tV 3) (tCons3 (tV 8) tNil3))) { D3 with nx := F, ct := F, bk := D3.nx } [some (.ref p), some c1, some (Dn m), some (.ref la), some (dS s), some (.ref va), some (Dn wy), some (.ref ma), some (.k v), x9, x10, x11] S1 := fun v S1 hl d e => by
    refine ⟨⟨_, e⟩, _, e, by rw [List.length_map]; omega, ?_⟩
    have := h v S1 hl d e
    rw [List.map_append] at this
    exact this
  have mid : ∀ (v : NK) (S1 : Sto), v ∈ vs → Dw p fa ca S S1 →
      (tSeq3 (tIfS3 (tAnd3 (tT (tOp3 (rIn3 id) (tV 6) (tTup3 (tCons3 (tK (Dn 1)) (tCons3 (tK (Dn 3)) (tCons3 (tK (Dn 4)) tNil3)))))) (tT (tOp3 (rEq3 id) (tCall3 2 sp_l_draw (tCons3 (tV 0) (tCons3 (tK (Dn 6)) tNil3))) (tK (Dn 0))))) (tSet3 8 (tK Dz)) tNext3) (tDrop3 (tM1 rApp3 (tV 3) (tCons3 (tV 8) tNil3)))) { D3 with nx := F, ct := F, bk := D3.nx } [some (.ref p), some c1, some (Dn m), some (.ref la), some (dS s), some (.ref va), some (Dn wy), some (.ref ma), some (.k v), x9, x10, x11] S1 := fun v S1 hv d => by
    refine ⟨by decide, by simp [NestedKey.depth], ?_⟩
    show if decide _ = true then _ else _
    by_cases c : NestedKey.num wy ∈ [NestedKey.num 1, .num 3, .num 4]
    · rw [if_pos (decide_eq_true c)]
      refine ⟨rfl, p, fa, ca, 6, rfl, d.s, by decide, by decide, fun i S2 i0 i1 d2 => ?_⟩
      refine ⟨rfl, ?_⟩
      show if decide _ = true then _ else _
      have e2 := (d.trans d2).x la _ np ln ll
      by_cases c' : NestedKey.num i = .num 0
      · rw [if_pos (decide_eq_true c')]
        exact last .none S2 (.inr rfl) (d.trans d2) e2
      · rw [if_neg (by simpa using c')]
        exact last v S2 (.inl hv) (d.trans d2) e2
    · rw [if_neg (by rw [decide_eq_true_eq]; exact c)]
      exact last v S1 (.inl hv) d (d.x la _ np ln ll)
  have mid2 : ∀ (v : NK) (S1 : Sto), v ∈ vs → Dw p fa ca S S1 → (tSeq3 (tIfS3 (tOr3 (tT (tOp3 (rI03 fun i j => .bl (decide (j < i))) (tV 6) (tK (Dn 3)))) (tAnd3 (tT (tOp3 (rI03 fun i j => .bl (decide (j < i))) (tV 6) (tK (Dn 1)))) (tT (tOp3 (rEq3 id) (tCall3 2 sp_l_draw (tCons3 (tV 0) (tCons3 (tK (Dn 6)) tNil3))) (tK (Dn 0)))))) (tSet3 8 (tCall3 2 sp_l_pick (tCons3 (tV 0) (tCons3 (tV 5) tNil3)))) tNext3)
      (tSeq3 (tIfS3 (tAnd3 (tT (tOp3 (rIn3 id) (tV 6) (tTup3 (tCons3 (tK (Dn 1)) (tCons3 (tK (Dn 3)) (tCons3 (tK (Dn 4)) tNil3)))))) (tT (tOp3 (rEq3 id) (tCall3 2 sp_l_draw (tCons3 (tV 0) (tCons3 (tK (Dn 6)) tNil3))) (tK (Dn 0))))) (tSet3 8 (tK Dz)) tNext3) (tDrop3 (tM1 rApp3 (tV 3) (tCons3 (tV 8) tNil3))))) { D3 with nx := F, ct := F, bk := D3.nx } [some (.ref p), some c1, some (Dn m), some (.ref la), some (dS s), some (.ref va), some (Dn wy), some (.ref ma), some (.k v), x9, x10, x11] S1 := fun v S1 hv' d => by
    have pick : ∀ S2, Dw p fa ca S S2 → (tSet3 8 (tCall3 2 sp_l_pick (tCons3 (tV 0) (tCons3 (tV 5) tNil3)))) { D3 with nx := (tSeq3 (tIfS3 (tAnd3 (tT (tOp3 (rIn3 id) (tV 6) (tTup3 (tCons3 (tK (Dn 1)) (tCons3 (tK (Dn 3)) (tCons3 (tK (Dn 4)) tNil3)))))) (tT (tOp3 (rEq3 id) (tCall3 2 sp_l_draw (tCons3 (tV 0) (tCons3 (tK (Dn 6)) tNil3))) (tK (Dn 0))))) (tSet3 8 (tK Dz)) tNext3) (tDrop3 (tM1 rApp3 (tV 3) (tCons3 (tV 8) tNil3)))) { D3 with nx := F, ct := F, bk := D3.nx }, ct := F, bk := D3.nx } [some (.ref p), some c1, some (Dn m), some (.ref la), some (dS s), some (.ref va), some (Dn wy), some (.ref ma), some (.k v), x9, x10, x11] S2 := fun S2 d2 => by
      have A2 := A.dw d2
      refine ⟨rfl, p, fa, ca, va, _, rfl, A2.s, A2.vn, A2.v, fun z => ?_, by rw [List.length_map]; omega, fun x S3 hx d3 => ?_⟩
      · have := congrArg List.length z
        rw [List.length_map, hv] at this
        simp at this
        omega
      · obtain ⟨u, hu, rfl⟩ := List.mem_map.mp hx
        exact mid u S3 hu (d2.trans d3)
    show if decide ((3 : Int) < wy) = true then _ else _
    by_cases c : (3 : Int) < wy
    · rw [if_pos (decide_eq_true c)]
      exact pick S1 d
    · rw [if_neg (by simpa using c)]
      show if decide ((1 : Int) < wy) = true then _ else _
      by_cases c2 : (1 : Int) < wy
      · rw [if_pos (decide_eq_true c2)]
        refine ⟨rfl, p, fa, ca, 6, rfl, d.s, by decide, by decide, fun i S2 i0 i1 d2 => ?_⟩
        refine ⟨rfl, ?_⟩
        show if decide _ = true then _ else _
        by_cases c' : NestedKey.num i = .num 0
        · rw [if_pos (decide_eq_true c')]
          exact pick S2 (d.trans d2)
        · rw [if_neg (by simpa using c')]
          exact mid v S2 hv' (d.trans d2)
      · rw [if_neg (by simpa using c2)]
        exact mid v S1 hv' d
  refine ⟨is.map .num, hm.trans (by rw [dn_k]), ?_⟩
  have zt := zip_turn hs (rfl : is.map NestedKey.num = is.map .num)
  refine lc3_map (S0 := S) prodD _ _ _ (Sub.refl S) (fun d hd S1 h1 K L hk _ => ?_) (fun S1 h1 => (h1 _ _ hm).trans (by rw [dn_k])) ?_ fun S1 h1 q hq => ?_
  · obtain ⟨l, i, rfl, l4⟩ := zt d hd
    refine ⟨CMul.ok (.inl ⟨by omega, by omega⟩), ?_⟩
    exact hk _ S1 rfl (Sub.refl S1)
  · rw [List.length_nil, zipD_len, List.length_map]
    have : (min s.length (is.map NestedKey.num).length) ≤ s.length := Nat.min_le_left _ _
    omega
  · obtain ⟨ns, hns⟩ := all_num (l := (zipD (s.map nN) (is.map .num)).filterMap prodD) (filterMap_all prodD _ _ fun d hd => by
      obtain ⟨l, i, rfl, _⟩ := zt d hd
      exact ⟨_, rfl, _, rfl⟩)
    rw [List.nil_append, hns]
    refine ⟨ns, put_same, ?_⟩
    have m0 : (0 : Int) < (m : Nat) := by omega
    refine ⟨m0, ?_⟩
    have i0 := Int.emod_nonneg ns.sum (Int.ne_of_gt m0)
    have i1 := Int.emod_lt_of_pos ns.sum m0
    obtain ⟨n, hn⟩ := Int.eq_ofNat_of_zero_le i0
    have nl : n < vs.length := by omega
    have d1 : Dw p fa ca S (put S1 q (.lst (ns.map Dn))) := (A.s.dw h1).add hq
    refine .inl ⟨_, _, .k vs[n], (A.dw d1).v, rfl, ?_, ?_⟩
    · rw [hn, atI_nat, List.getElem?_map, List.getElem?_eq_getElem nl]
      rfl
    · exact mid2 vs[n] _ (List.getElem_mem nl) d1
end
end L3
/-! ## S21 -/
namespace L3
open PySem PySem.Spec L2
open PyProof.Rows hiding St
set_option hygiene false in
local macro_rules | `(tactic| walk_at "rd3") => `(tactic| simp only [a1, a2, asB, asI, asK, asP, asR, asT, asOwn, cN, cP, gN, gP, iD3, iE3, iL3, iR3, iS3, iT3, iZ3, rAbs3, rAdd3, rAll3, rApp3, rDictP3, rDictZ3, rEq3, rExt3, rI03, rI3, rIn3, rInt3, rIs3, rIsi3, rIx3, rLen3, rList3, rListD3, rListZ3, rMaxL3, rMin23, rMinL3, rNeg3, rPop3, rPopAt3, rRepr3, rSet3, rSl3, rSum3, rTuple3, rTupleW3, rdS, tAnd3, tAndV3, tAsg3, tB3, tBack3, tBreak3, tCall3, tChain3, tCons3, tDict0, tDisp3, tDrop3, tFld3, tFor3, tFst3, tGet3, tIf3, tIfS3, tK, tLc3, tLk3, tLkE3, tLst3, tM0, tM1, tMake3, tMeth3, tNever3, tNext3, tNil3, tNo3, tNot3, tNotV3, tOp3, tOr3, tOrV3, tOwn3, tPairs3, tPar3, tPar33, tRep3, tRet3, tSFld3, tSeq3, tSet3, tSl3, tSm3, tSortK3, tSub3, tT, tTup3, tUn3, tV, tWk3, tYes3, three, two, nks, Option.map, List.getElem?_cons_zero, List.getElem?_cons_succ, List.set_cons_zero, List.set_cons_succ, if_true, if_false, Bool.false_eq_true, ite_true, ite_false, reduceIte, List.length_cons, List.length_nil, Nat.zero_add, Nat.reduceAdd, true_and, and_true])
/-! the law's code, the whole -/
section
variable {p fa ca va la ma qa : Addr} {card : List Nat} {vs : List NK} {m : Nat} {wy : Int} {S0 : Sto}
theorem code_loop {D3 : Ends3} {full : List (List Nat)} {c1 : D} (h2 : 2 ≤ m) (h4 : m ≤ 4) (hv : vs.length = m) (ln : S0 la = none) (s0 : Spl S0 p fa ca) (qn : qa ≠ p ∧ qa ≠ fa) (ql : qa ≠ la) (vl : va ≠ la) (ml : ma ≠ la) : ∀ (rest : List (List Nat)) (acc : List NK) (x4 x8 x9 x10 x11 : Option D) (S : Sto),
    acc.length + rest.length ≤ 100 → (∀ s ∈ rest, (∀ l ∈ s, l ≤ 4) ∧ s.length ≤ 100) → Dw p fa ca S0 S → CodeAt p fa ca va ma vs S → S la = some (.lst (List.map D.k acc)) → S qa = some (.lst (encs full)) → (∀ v ∈ acc, LabOf vs v) →
    (∀ labs x4 x8 x9 x10 x11 S', labs.length = acc.length + rest.length → (∀ v ∈ labs, LabOf vs v) → Dw p fa ca S0 S' → CodeAt p fa ca va ma vs S' → S' la = some (.lst (List.map D.k labs)) → D3.nx [some (.ref p), some c1, some (Dn m), some (.ref la), x4, some (.ref va), some (Dn wy), some (.ref ma), x8, x9, x10, x11] S') →
    for3 (gN 4) (r_l_code_1 sp_l_values sp_l_draw sp_l_states sp_l_pick) (fun S => S qa = some (.lst (encs full))) D3 (encs rest) [some (.ref p), some c1, some (Dn m), some (.ref la), x4, some (.ref va), some (Dn wy), some (.ref ma), x8, x9, x10, x11] S
  | [], acc, x4, x8, x9, x10, x11, S, hn, hs, d, A, hl, hq, ha, hk => for3_nil.mpr ⟨hq, hk acc x4 x8 x9 x10 x11 S rfl ha d A hl⟩
  | s :: rest, acc, x4, x8, x9, x10, x11, S, hn, hs, d, A, hl, hq, ha, hk => by
    rw [List.length_cons] at hn
    show for3 (gN 4) _ _ D3 (dS s :: encs rest) _ S
    refine for3_N.mpr ⟨hq, ?_⟩
    have o := s0.off ln
    refine code_turn h2 h4 hv (hs s (List.mem_cons_self ..)).1 (hs s (List.mem_cons_self ..)).2 A hl o.2.1 (by omega) fun v S1 lv d1 e1 => ?_
    have d2 := (d.trans d1).over (o := .lst (List.map D.k (acc ++ [v]))) ⟨ln, o⟩
    have A1 := A.dw d1
    have A2 : CodeAt p fa ca va ma vs (put S1 la (.lst (List.map D.k (acc ++ [v])))) := ⟨d2.s, (put_ne vl).trans A1.v, A1.vn, let ⟨is, e⟩ := A1.mks; ⟨is, (put_ne ml).trans e⟩, A1.mn⟩
    refine code_loop h2 h4 hv ln s0 qn ql vl ml rest (acc ++ [v]) _ _ _ _ _ _ (by rw [List.length_append, List.length_singleton]; omega) (fun s hs' => hs s (List.mem_cons_of_mem _ hs')) d2 A2 put_same ((put_ne ql).trans (d1.x _ _ qn.1 qn.2 hq)) (fun u hu => ?_) fun labs x4 x8 x9 x10 x11 S' k1 => hk labs x4 x8 x9 x10 x11 S' (by rw [k1, List.length_append, List.length_singleton, List.length_cons]; omega)
    rcases List.mem_append.mp hu with hu | hu
    · exact ha u hu
    · rw [List.mem_singleton] at hu
      subst hu
      exact lv
end
def pickD (v0 : NK) : D → Option D
  | .k x => if x ≠ .none ∧ x ≠ v0 then some (.k x) else none
  | _ => none
theorem pickD_map (v0 : NK) : ∀ labs : List NK, (List.map D.k labs).filterMap (pickD v0) = List.map D.k (labs.filter fun x => decide (x ≠ .none ∧ x ≠ v0))
  | [] => rfl
  | x :: labs => by
    rw [List.map_cons, List.filterMap_cons, pickD_map v0 labs, List.filter_cons]
    unfold pickD
    by_cases c : x ≠ .none ∧ x ≠ v0
    · simp only [if_pos c, decide_eq_true c, if_true]
      rfl
    · simp only [if_neg c, decide_eq_false c]
      rfl
theorem isN_k (x : NK) : isN (D.k x) = decide (x = .none) := by cases x <;> rfl
theorem ixN_0 {n : Nat} (h : 0 < n) : ixN n 0 = some 0 := by
  unfold ixN
  rw [if_pos (Int.le_refl 0), if_pos (by omega)]
  rfl
theorem ixN_last {n : Nat} (h : 0 < n) : ixN n (-1) = some (n - 1) := by
  unfold ixN
  rw [if_neg (by omega), if_pos (by omega)]
  congr 1
  omega
theorem rd_l_code (ds : List D) (S : Sto) (R : VK3) (hl : ds.length = 3) (h : sp_l_code ds S R) : r_l_code sp_l_values sp_l_draw sp_l_states sp_l_pick { nx := fun _ S' => R Dz S', rt := R } (start3 n_l_code ds) S := by
  obtain ⟨p, fa, ca, card, m, rfl, s, h2, h4, c4, ct, cz, cz2, h⟩ := h
  refine ⟨rfl, p, fa, ca, m, rfl, s, h4, fun va vs S1 vn hv vl vnd vm d1 => ?_⟩
  obtain ⟨v1, v2, v3⟩ := s.off vn
  refine ⟨rfl, p, fa, ca, 5, rfl, d1.s, by decide, by decide, fun wy S2 w0 w5 d2 => ?_⟩
  have hv2 : S2 va = some (.lst (List.map D.k vs)) := d2.x _ _ v1 v2 hv
  have d12 := d1.trans d2
  refine lc3_inv (fun items acc S' => Dw p fa ca S S' ∧ S' va = some (.lst (List.map D.k vs)) ∧ ∃ is, acc = List.map Dn is) (fun d r acc S' hI K N hK hN => ?_) (fun acc S' hI => ?_) _ _ _ (by rw [List.length_nil, List.length_map, List.length_map]; omega) ⟨d12, hv2, [], rfl⟩
  · obtain ⟨dd, hva, is, rfl⟩ := hI
    refine ⟨trivial, rfl, p, fa, ca, m, rfl, dd.s, by omega, by omega, fun i S3 i0 i1 d3 => ?_⟩
    exact hK _ S3 ⟨dd.trans d3, d3.x _ _ v1 v2 hva, is ++ [1 + i], by rw [List.map_append]; rfl⟩
  obtain ⟨dd, hva, is, rfl⟩ := hI
  refine ⟨trivial, fun ma mn => ?_⟩
  obtain ⟨mn0, m1, m2, m3⟩ := dd.gone mn
  have dm := dd.add (o := .lst (List.map Dn is)) mn
  have vma : va ≠ ma := fun z => by rw [← z, hva] at mn; cases mn
  refine ⟨(by decide : 0 ≤ 1000), fun la ln => ?_⟩
  obtain ⟨ln0, l1, l2, l3⟩ := dm.gone ln
  have dl := dm.add (o := .lst []) ln
  have mla : ma ≠ la := fun z => by rw [← z, put_same] at ln; cases ln
  have vla : va ≠ la := fun z => by rw [← z, put_ne vma, hva] at ln; cases ln
  refine ⟨rfl, card, rfl, by omega, by omega, fun qa S3 qn hS3 hq => ?_⟩
  have nq : ∀ {b o}, put (put _ ma (.lst (List.map Dn is))) la (.lst []) b = some o → b ≠ qa := fun {b o} e z => by rw [z, qn] at e; cases e
  have d3 := dl.sub hS3
  have el := hS3 la _ put_same
  obtain ⟨qn0, q1, q2, q3⟩ := dl.gone qn
  have A3 : CodeAt p fa ca va ma vs S3 := ⟨d3.s, hS3 va _ ((put_ne vla).trans ((put_ne vma).trans hva)), v2, ⟨is, hS3 ma _ ((put_ne mla).trans put_same)⟩, m2⟩
  refine ⟨_, hq, ?_⟩
  refine code_loop (S0 := S) (full := sts card) h2 h4 vl ln0 s ⟨q1, q2⟩ (fun z => by rw [z, put_same] at qn; cases qn) vla mla (sts card) [] _ _ _ _ _ S3 (by rw [sts_len, List.length_nil]; omega) (fun s hs => ⟨val_le4 (mem_sts.mp hs) ct, by rw [(mem_sts.mp hs).len]; omega⟩) d3 A3 el hq (fun _ h => by cases h) fun labs x4 x8 x9 x10 x11 S4 k1 k2 d4 A4 e4 => ?_
  rw [List.length_nil, Nat.zero_add, sts_len] at k1
  have n0 : 0 < vs.length := by omega
  have n1 : 1 < vs.length := by omega
  have val : ∀ {n} (hn : n < vs.length), atI (List.map D.k vs) ((n : Nat) : Int) = some (.k vs[n]) := fun hn => by
    rw [atI_nat, List.getElem?_map, List.getElem?_eq_getElem hn]
    rfl
  have vv : ∀ v ∈ vs, valueV v = true := fun v hv => menu_value v (vm v hv)
  have vz : ∀ v ∈ vs, v ≠ .none := fun v hv z => by
    have := vv v hv
    rw [z] at this
    cases this
  have v01 : vs[1] ≠ vs[0] := fun z => by
    have := (List.getElem_inj vnd).mp z
    omega
  have lab2 : ∀ {ls : List NK}, (∀ v ∈ ls, LabOf vs v) → ∀ v ∈ ls, labOk v := fun hk v hv => (hk v hv).elim (fun z => .inr (vv v z)) .inl
  refine .inl ⟨_, _, _, A4.v, rfl, val n0, ?_⟩
  have ll : 0 < (List.map D.k labs).length := by rw [List.length_map]; omega
  refine .inl ⟨_, _, 0, e4, rfl, ixN_0 ll, ?_⟩
  have es : (List.map D.k labs).set 0 (.k vs[0]) = List.map D.k (labs.set 0 vs[0]) := by rw [List.map_set]
  rw [es]
  generalize eg : labs.set 0 vs[0] = ls
  have g1 : ls.length = size card := by rw [← eg, List.length_set]; exact k1
  have g2 : ∀ v ∈ ls, LabOf vs v := fun v hv => by
    rw [← eg] at hv
    rcases List.mem_or_eq_of_mem_set hv with hv | rfl
    · exact k2 v hv
    · exact .inl (List.getElem_mem n0)
  have g3 : ls[0]? = some vs[0] := by rw [← eg, List.getElem?_set_self (by omega)]
  have d5 := d4.over (o := .lst (List.map D.k ls)) ⟨ln0, l1, l2, l3⟩
  have A5 : CodeAt p fa ca va ma vs (put S4 la (.lst (List.map D.k ls))) := ⟨d5.s, (put_ne vla).trans A4.v, v2, let ⟨is, e⟩ := A4.mks; ⟨is, (put_ne mla).trans e⟩, m2⟩
  generalize hS5 : put S4 la (.lst (List.map D.k ls)) = S5 at d5 A5 ⊢
  have e5 : S5 la = some (.lst (List.map D.k ls)) := by rw [← hS5, put_same]
  clear hS5
  have okv0 : okK vs[0] = true := value_ok (vv _ (List.getElem_mem n0))
  have labk : ∀ v ∈ ls, okK v = true := fun v hv => lab_ok (lab2 g2 v hv)
  refine ⟨_, e5, ?_⟩
  refine lc3_map (S0 := S5) (pickD vs[0]) _ _ _ (Sub.refl S5) (fun d hd S6 h6 K L' hK hL => ?_) (fun S6 h6 => h6 _ _ e5) (by rw [List.length_nil, List.length_map, g1]; omega) fun S6 h6 g hg => ?_
  · obtain ⟨x, hx, rfl⟩ := List.mem_map.mp hd
    refine ⟨rfl, ?_⟩
    show if (!isN (D.k x)) = true then _ else _
    rw [isN_k]
    by_cases c : x = .none
    · rw [if_neg (by simpa using c)]
      exact hL S6 (if_neg fun z => z.1 c) (Sub.refl S6)
    · rw [if_pos (by simpa using c)]
      refine .inl ⟨_, _, _, h6 _ _ A5.v, rfl, val n0, eqOk_of (labk x hx) okv0, ?_⟩
      show if (!decide (x = vs[0])) = true then _ else _
      by_cases c' : x = vs[0]
      · rw [if_neg (by simpa using c')]
        exact hL S6 (if_neg fun z => z.2 c') (Sub.refl S6)
      · rw [if_pos (by simpa using c')]
        exact hK _ S6 (if_pos ⟨c, c'⟩) (Sub.refl S6)
  rw [List.nil_append, pickD_map]
  refine ⟨by decide, fun g2' hg2 => ?_⟩
  have h7 : Sub S5 (put (put S6 g (.lst (List.map D.k (ls.filter fun x => decide (x ≠ .none ∧ x ≠ vs[0]))))) g2' (.lst [])) := (h6.add hg).add hg2
  refine ⟨_, [], (put_ne fun z => by rw [← z, put_same] at hg2; cases hg2).trans put_same, put_same, fun k hk => labk k (List.mem_filter.mp hk).1, (fun k hk => by cases hk), ?_⟩
  generalize put (put S6 g (.lst (List.map D.k (ls.filter fun x => decide (x ≠ .none ∧ x ≠ vs[0]))))) g2' (.lst []) = S7 at h7
  have d7 := d5.sub h7
  have e7 := h7 _ _ e5
  show if decide (ls.filter (fun x => decide (x ≠ .none ∧ x ≠ vs[0])) = []) = true then _ else _
  by_cases c : ls.filter (fun x => decide (x ≠ .none ∧ x ≠ vs[0])) = []
  · rw [if_pos (decide_eq_true c)]
    have ll : 0 < (List.map D.k ls).length := by rw [List.length_map]; omega
    refine .inl ⟨_, _, _, h7 _ _ A5.v, rfl, val n1, ?_⟩
    refine .inl ⟨_, _, _, e7, rfl, ixN_last ll, ?_⟩
    have es : (List.map D.k ls).set ((List.map D.k ls).length - 1) (.k vs[1]) = List.map D.k (ls.set (ls.length - 1) vs[1]) := by rw [List.map_set, List.length_map]
    rw [es]
    refine ⟨_, put_same, (by decide : 2 ≤ 1000), ?_⟩
    refine h _ _ ⟨by rw [List.length_set]; exact g1, c4, ct, cz, lab2 (fun v hv => ?_), vs[0], ?_, vz _ (List.getElem_mem n0), vs[1], ?_, vz _ (List.getElem_mem n1), v01⟩ (d7.over ⟨ln0, l1, l2, l3⟩)
    · rcases List.mem_or_eq_of_mem_set hv with hv | rfl
      · exact g2 v hv
      · exact .inl (List.getElem_mem n1)
    · rw [List.getElem?_set_ne (by omega)]
      exact g3
    · exact List.mem_iff_getElem?.mpr ⟨ls.length - 1, by rw [List.getElem?_set_self (by omega)]⟩
  · rw [if_neg (by simpa using c)]
    refine ⟨_, e7, (by decide : 2 ≤ 1000), ?_⟩
    refine h _ _ ⟨g1, c4, ct, cz, lab2 g2, vs[0], g3, vz _ (List.getElem_mem n0), ?_⟩ d7
    obtain ⟨x, hx⟩ := List.exists_mem_of_ne_nil _ c
    obtain ⟨x1, x2⟩ := List.mem_filter.mp hx
    have x2 := of_decide_eq_true x2
    exact ⟨x, x1, x2.1, x2.2⟩
end L3
/-! ## S22 -/
namespace L3
open PySem PySem.Spec L2
open PyProof.Rows hiding St
set_option hygiene false in
local macro_rules | `(tactic| walk_at "rd3") => `(tactic| simp only [a1, a2, asB, asI, asK, asP, asR, asT, asOwn, cN, cP, gN, gP, iD3, iE3, iL3, iR3, iS3, iT3, iZ3, rAbs3, rAdd3, rAll3, rApp3, rDictP3, rDictZ3, rEq3, rExt3, rI03, rI3, rIn3, rInt3, rIs3, rIsi3, rIx3, rLen3, rList3, rListD3, rListZ3, rMaxL3, rMin23, rMinL3, rNeg3, rPop3, rPopAt3, rRepr3, rSet3, rSl3, rSum3, rTuple3, rTupleW3, rdS, tAnd3, tAndV3, tAsg3, tB3, tBack3, tBreak3, tCall3, tChain3, tCons3, tDict0, tDisp3, tDrop3, tFld3, tFor3, tFst3, tGet3, tIf3, tIfS3, tK, tLc3, tLk3, tLkE3, tLst3, tM0, tM1, tMake3, tMeth3, tNever3, tNext3, tNil3, tNo3, tNot3, tNotV3, tOp3, tOr3, tOrV3, tOwn3, tPairs3, tPar3, tPar33, tRep3, tRet3, tSFld3, tSeq3, tSet3, tSl3, tSm3, tSortK3, tSub3, tT, tTup3, tUn3, tV, tWk3, tYes3, three, two, nks, Option.map, List.getElem?_cons_zero, List.getElem?_cons_succ, List.set_cons_zero, List.set_cons_succ, if_true, if_false, Bool.false_eq_true, ite_true, ite_false, reduceIte, List.length_cons, List.length_nil, Nat.zero_add, Nat.reduceAdd, true_and, and_true])
/-! the law's table, its values, one rise -/
def tb (card : List Nat) (f : List Nat → NK) : List (NK × D) := (sts card).map fun s => (enc s, D.k (f s))
theorem dlook_in {α : Type} {g : List Nat → α} {t : List Nat} : ∀ {l : List (List Nat)}, t ∈ l → dlook (l.map fun s => (enc s, g s)) (enc t) = some (g t)
  | [], h => by cases h
  | s :: l, h => by
    unfold dlook
    rw [List.map_cons, List.find?_cons]
    by_cases c : enc s = enc t
    · rw [decide_eq_true c, enc_inj c]
      rfl
    · rw [decide_eq_false c]
      rcases List.mem_cons.mp h with rfl | h
      · exact (c rfl).elim
      · exact dlook_in h
theorem dlook_out {α : Type} {g : List Nat → α} {t : List Nat} : ∀ {l : List (List Nat)}, t ∉ l → dlook (l.map fun s => (enc s, g s)) (enc t) = none
  | [], _ => rfl
  | s :: l, h => by
    unfold dlook
    rw [List.map_cons, List.find?_cons]
    have c : ¬ enc s = enc t := fun z => h (by rw [enc_inj z]; exact List.mem_cons_self ..)
    rw [decide_eq_false c]
    exact dlook_out fun z => h (List.mem_cons_of_mem _ z)
theorem tb_in {card : List Nat} {f : List Nat → NK} {t : List Nat} (h : Val card t) : dlook (tb card f) (enc t) = some (.k (f t)) := dlook_in (mem_sts.mpr h)
theorem tb_out {card : List Nat} {f : List Nat → NK} {t : List Nat} (h : ¬ Val card t) : dlook (tb card f) (enc t) = none := dlook_out fun z => h (mem_sts.mp z)
theorem sts_nodup (card : List Nat) : (sts card).Nodup := by
  refine List.pairwise_iff_getElem.mpr fun i j hi hj lt e => ?_
  have h1 := (sts_inv (List.getElem?_eq_getElem hi)).2
  have h2 := (sts_inv (List.getElem?_eq_getElem hj)).2
  rw [e, h2] at h1
  omega
theorem map_nodup {α β : Type} {f : α → β} (inj : ∀ a b, f a = f b → a = b) : ∀ {l : List α}, l.Nodup → (l.map f).Nodup
  | [], _ => List.nodup_nil
  | a :: l, h => by
    rw [List.nodup_cons] at h
    rw [List.map_cons, List.nodup_cons]
    refine ⟨fun z => ?_, map_nodup inj h.2⟩
    obtain ⟨b, hb, e⟩ := List.mem_map.mp z
    rw [inj _ _ e] at hb
    exact h.1 hb
theorem tb_keys (card : List Nat) (f : List Nat → NK) : (tb card f).map (·.1) = (sts card).map enc := by
  unfold tb
  rw [List.map_map]
  rfl
theorem dputs_app {α : Type} : ∀ (ps kvs : List (NK × α)), (∀ p ∈ ps, p.1 ∉ kvs.map (·.1)) → (ps.map (·.1)).Nodup → dputs kvs ps = kvs ++ ps
  | [], kvs, _, _ => (List.append_nil kvs).symm
  | p :: ps, kvs, h, hn => by
    rw [List.map_cons, List.nodup_cons] at hn
    have e : dput kvs p.1 p.2 = kvs ++ [p] := by
      unfold dput
      rw [if_neg (fun z => h p (List.mem_cons_self ..) (by
        obtain ⟨q, hq, e⟩ := List.any_eq_true.mp z
        rw [← of_decide_eq_true e]
        exact List.mem_map_of_mem hq))]
    show dputs (dput kvs p.1 p.2) ps = _
    rw [e, dputs_app ps _ (fun q hq z => ?_) hn.2, List.append_assoc]
    · rfl
    · rw [List.map_append, List.mem_append] at z
      rcases z with z | z
      · exact h q (List.mem_cons_of_mem _ hq) z
      · have z : q.1 = p.1 := by simpa using z
        exact hn.1 (z ▸ List.mem_map_of_mem hq)
theorem tb_dputs (card : List Nat) (f : List Nat → NK) : dputs [] (tb card f) = tb card f := by
  rw [dputs_app _ _ (fun _ _ z => by cases z)]
  · rfl
  · rw [tb_keys]
    exact map_nodup (fun _ _ => enc_inj) (sts_nodup card)
theorem pairs_of (f : List Nat → NK) : ∀ l : List (List Nat), asPairs (zipD (l.map enc) (l.map f)) = some (l.map fun s => (enc s, D.k (f s)))
  | [] => rfl
  | s :: l => by
    rw [List.map_cons, List.map_cons, zipD_cons, asPairs, pairs_of f l]
    rfl
theorem tb_depth {card : List Nat} {f : List Nat → NK} : ∀ p ∈ tb card f, p.1.depth ≤ 8 := fun p hp => by
  obtain ⟨s, _, rfl⟩ := List.mem_map.mp hp
  exact Nat.le_trans (enc_depth s) (by decide)
theorem labs_map {card : List Nat} {labs : List NK} (h : labs.length = size card) : labs = (sts card).map (lab card labs) := by
  refine List.ext_getElem? fun i => ?_
  rw [List.getElem?_map]
  have sl := sts_len card
  by_cases c : i < (sts card).length
  · have e := List.getElem?_eq_getElem c
    rw [e]
    obtain ⟨v, p⟩ := sts_inv e
    have := labs_at v h
    rw [p] at this
    exact this
  · rw [List.getElem?_eq_none (by omega), List.getElem?_eq_none (by omega)]
    rfl
def sp_l_table : Sp3 := fun ds S R => ∃ (card : List Nat) (labs : List NK), ds = [codeD card labs] ∧ card.length ≤ 100 ∧ size card ≤ 1000 ∧ labs.length = size card ∧ ∀ q S', S q = none → Sub S S' → S' q = some (.dic none (tb card (lab card labs))) → R (.ref q) S'
theorem rd_l_table (ds : List D) (S : Sto) (R : VK3) (hl : ds.length = 1) (h : sp_l_table ds S R) : r_l_table sp_l_states { nx := fun _ S' => R Dz S', rt := R } (start3 n_l_table ds) S := by
  obtain ⟨card, labs, rfl, c1, c2, hn, h⟩ := h
  refine ⟨_, rfl, rfl, card, rfl, c1, c2, fun a S1 na hS hq => ⟨_, rfl, ?_⟩⟩
  refine ⟨(sts card).map enc, by rw [hq, encs_k], fun b hb => ?_⟩
  refine ⟨_, tb card (lab card labs), put_same, ?_, tb_depth, fun q hq => ?_⟩
  · exact (congrArg (fun z => asPairs (zipD ((sts card).map enc) z)) (labs_map hn)).trans (pairs_of _ _)
  · rw [tb_dputs]
    have S2 : Sub S (put S1 b (.lst (zipD ((sts card).map enc) labs))) := hS.add hb
    exact h q _ (S2.gone hq) (S2.add hq) put_same
/-! named -/
def sp_l_named : Sp3 := fun ds S R => ∃ (q : Addr) (card : List Nat) (f : List Nat → NK), ds = [.ref q] ∧ S q = some (.dic none (tb card f)) ∧ size card ≤ 1000 ∧ (∀ s, Val card s → (f s).depth ≤ 8) ∧
  ∀ r ns S', S r = none → Sub S S' → S' r = some (.lst (List.map D.k ns)) → ns.Nodup → (∀ v, v ∈ ns ↔ v ≠ .none ∧ ∃ s ∈ sts card, f s = v) → R (.ref r) S'
theorem named_loop {q r : Addr} {l : Obj × List Row} {card : List Nat} {f : List Nat → NK} {S0 : Sto} {D3 : Ends3} (hf : ∀ s, Val card s → (f s).depth ≤ 8) (n0 : S0 r = none) (nq : r ≠ q) : ∀ (rest : List (List Nat)) (ns : List NK) (x : Option D) (S : Sto), (∀ s ∈ rest, Val card s) → ns.length + rest.length ≤ 1000 → S q = some (.dic (some l) (tb card f)) → S r = some (.lst (List.map D.k ns)) → ns.Nodup → (∀ b o, b ≠ q → S0 b = some o → S b = some o) →
    (∀ ns' x S', S' q = some (.dic (some l) (tb card f)) → S' r = some (.lst (List.map D.k ns')) → ns'.Nodup → (∀ v, v ∈ ns' ↔ v ∈ ns ∨ (v ≠ .none ∧ ∃ s ∈ rest, f s = v)) → (∀ b o, b ≠ q → S0 b = some o → S' b = some o) → D3.nx [some (.ref q), some (.ref r), x] S') →
    for3 (gN 2) r_l_named_1 (fun S => S q = some (.dic (some l) (tb card f))) D3 (encs rest) [some (.ref q), some (.ref r), x] S
  | [], ns, x, S, _, _, hq, hr, nd, hS, hk => for3_nil.mpr ⟨hq, hk ns x S hq hr nd (fun v => ⟨.inl, fun z => z.elim id fun ⟨_, _, z, _⟩ => by cases z⟩) hS⟩
  | s :: rest, ns, x, S, hv, hn, hq, hr, nd, hS, hk => by
    rw [List.length_cons] at hn
    have vs := hv s (List.mem_cons_self ..)
    have hv' : ∀ s ∈ rest, Val card s := fun s hs => hv s (List.mem_cons_of_mem _ hs)
    have d1 : (enc s).depth ≤ 8 := Nat.le_trans (enc_depth s) (by decide)
    show for3 (gN 2) r_l_named_1 _ D3 (dS s :: encs rest) _ S
    refine for3_N.mpr ⟨hq, ?_⟩
    refine .inr ⟨_, _, _, hq, d1, tb_in vs, rfl, ?_⟩
    show if (!isN (D.k (f s))) = true then _ else _
    rw [isN_k]
    have skip : f s = .none ∨ f s ∈ ns → ∀ v, (v ∈ ns ∨ (v ≠ .none ∧ ∃ s ∈ rest, f s = v)) ↔ (v ∈ ns ∨ (v ≠ .none ∧ ∃ t ∈ s :: rest, f t = v)) := fun c v => by
      constructor
      · exact fun z => z.imp id fun ⟨a, t, b, e⟩ => ⟨a, t, List.mem_cons_of_mem _ b, e⟩
      · rintro (z | ⟨a, t, b, e⟩)
        · exact .inl z
        · rcases List.mem_cons.mp b with rfl | b
          · rcases c with c | c
            · exact (a (e.symm.trans c)).elim
            · exact .inl (e ▸ c)
          · exact .inr ⟨a, t, b, e⟩
    by_cases c : f s = .none
    · rw [if_neg (by simpa using c)]
      exact named_loop hf n0 nq rest ns _ S hv' (by omega) hq hr nd hS fun ns' x S' k1 k2 k3 k4 => hk ns' x S' k1 k2 k3 fun v => (k4 v).trans (skip (.inl c) v)
    · rw [if_pos (by simpa using c)]
      refine .inr ⟨_, _, _, hq, d1, tb_in vs, hf s vs, .inl ⟨ns, hr, ?_⟩⟩
      show if (!decide (f s ∈ ns)) = true then _ else _
      by_cases c2 : f s ∈ ns
      · rw [if_neg (by simpa using c2)]
        exact named_loop hf n0 nq rest ns _ S hv' (by omega) hq hr nd hS fun ns' x S' k1 k2 k3 k4 => hk ns' x S' k1 k2 k3 fun v => (k4 v).trans (skip (.inr c2) v)
      · rw [if_pos (by simpa using c2)]
        refine ⟨⟨_, hr⟩, .inr ⟨_, _, _, hq, d1, tb_in vs, _, hr, by rw [List.length_map]; omega, ?_⟩⟩
        refine named_loop hf n0 nq rest (ns ++ [f s]) _ _ hv' (by rw [List.length_append, List.length_singleton]; omega) ((put_ne (Ne.symm nq)).trans hq) (by rw [put_same, List.map_append]; rfl) ?_ (fun b o bq e => (put_ne fun z => by rw [z, n0] at e; cases e).trans (hS b o bq e)) fun ns' x S' k1 k2 k3 k4 => hk ns' x S' k1 k2 k3 fun v => (k4 v).trans ?_
        · rw [List.nodup_append]
          refine ⟨nd, by simp, fun a ha b hb z => ?_⟩
          rw [List.mem_singleton] at hb
          exact c2 (hb ▸ z ▸ ha)
        · rw [List.mem_append, List.mem_singleton]
          constructor
          · rintro ((z | z) | ⟨a, t, b, e⟩)
            · exact .inl z
            · exact .inr ⟨by rw [z]; exact c, s, List.mem_cons_self .., z.symm⟩
            · exact .inr ⟨a, t, List.mem_cons_of_mem _ b, e⟩
          · rintro (z | ⟨a, t, b, e⟩)
            · exact .inl (.inl z)
            · rcases List.mem_cons.mp b with rfl | b
              · exact .inl (.inr e.symm)
              · exact .inr ⟨a, t, b, e⟩
theorem tb_walk (card : List Nat) (f : List Nat → NK) : (tb card f).map (fun p => D.k p.1) = encs (sts card) := by
  unfold tb encs
  rw [List.map_map]
  rfl
theorem rd_l_named (ds : List D) (S : Sto) (R : VK3) (hl : ds.length = 1) (h : sp_l_named ds S R) : r_l_named { nx := fun _ S' => R Dz S', rt := R } (start3 n_l_named ds) S := by
  obtain ⟨q, card, f, rfl, hq, hz, hf, h⟩ := h
  refine ⟨by decide, fun r hr => ?_⟩
  have nq : r ≠ q := fun z => by rw [z, hq] at hr; cases hr
  refine ⟨q, _, (put_ne (Ne.symm nq)).trans hq, fun l => ?_⟩
  refine ⟨l, _, put_same, ?_⟩
  rw [tb_walk]
  refine named_loop (S0 := S) hf hr nq (sts card) [] _ _ (fun s hs => mem_sts.mp hs) (by rw [sts_len]; simp; omega) put_same ((put_ne nq).trans put_same) List.nodup_nil (fun b o bq e => (put_ne bq).trans ((put_ne fun z => by rw [z, hr] at e; cases e).trans e)) fun ns x S' k1 k2 k3 k4 k5 => ⟨k1, ?_⟩
  refine h r ns _ hr (fun b o e => ?_) ((put_ne nq).trans k2) k3 fun v => (k4 v).trans ⟨fun z => z.resolve_left (fun z => by cases z), .inr⟩
  by_cases c : b = q
  · subst c
    rw [put_same, ← e, hq]
  · rw [put_ne c]
    exact k5 b o c e
/-! one rise -/
def sp_l_steps : Sp3 := fun ds S R => ∃ (q : Addr) (lk : Lk) (card s : List Nat) (f : List Nat → NK), ds = [.ref q, dS s] ∧ S q = some (.dic lk (tb card f)) ∧ Val card s ∧ card.length ≤ 100 ∧ ∀ r S', S r = none → Sub S S' → S' r = some (.lst (encs ((rais card s).map (·.2)))) → R (.ref r) S'
theorem val_up : ∀ {cpre pre c s : List Nat} {t l : Nat}, cpre.length = pre.length → Val (cpre ++ t :: c) (pre ++ l :: s) → Val (cpre ++ t :: c) (pre ++ (l + 1) :: s) → l < t
  | [], [], c, s, t, l, _, _, h => h.1
  | _ :: _, _ :: _, c, s, t, l, e, h, g => val_up (by simpa using e) h.2 g.2
  | [], _ :: _, _, _, _, _, e, _, _ => by cases e
  | _ :: _, [], _, _, _, _, e, _, _ => by cases e
theorem val_up' : ∀ {cpre pre c s : List Nat} {t l : Nat}, cpre.length = pre.length → Val (cpre ++ t :: c) (pre ++ l :: s) → l < t → Val (cpre ++ t :: c) (pre ++ (l + 1) :: s)
  | [], [], c, s, t, l, _, h, lt => ⟨lt, h.2⟩
  | _ :: _, _ :: _, c, s, t, l, e, h, lt => ⟨h.1, val_up' (by simpa using e) h.2 lt⟩
  | [], _ :: _, _, _, _, _, e, _, _ => by cases e
  | _ :: _, [], _, _, _, _, e, _, _ => by cases e
theorem steps_turn {D3 : Ends3} {cpre c pre s : List Nat} {t l : Nat} {q r : Addr} {lk : Lk} {f : List Nat → NK} {acc : List (List Nat)} {x y z : Option D} {S : Sto} {F : Sd → Sto → Prop} (hl : cpre.length = pre.length) (hv : Val (cpre ++ t :: c) (pre ++ l :: s)) (hp : pre.length + s.length < 900) (hq : S q = some (.dic lk (tb (cpre ++ t :: c) f))) (hr : S r = some (.lst (encs acc))) (ha : acc.length < 1000)
    (h : ∀ z S', (∀ b, b ≠ r → S' b = S b) → S' r = some (.lst (encs (acc ++ if l < t then [pre ++ (l + 1) :: s] else []))) → F [some (.ref q), some (dS (pre ++ l :: s)), some (.ref r), some (Dn (pre.length : Nat)), some (Dn l), z] S') :
    r_l_steps_1 { D3 with nx := F, ct := F, bk := D3.nx } (([some (.ref q), some (dS (pre ++ l :: s)), some (.ref r), x, y, z].set 3 (some (.k (.num (pre.length : Int))))).set 4 (some (.k (nN l)))) S := by
  have e1 : List.map nN (pre ++ l :: s) = List.map nN pre ++ (nN l :: List.map nN s) := by simp
  have e2 : List.map nN (pre ++ l :: s) = (List.map nN pre ++ [nN l]) ++ List.map nN s := by simp
  have c1 : cut (List.map nN (pre ++ l :: s)) none (some (pre.length : Int)) = List.map nN pre := by
    rw [e1]
    have := cut_to (List.map nN pre) (nN l :: List.map nN s)
    rwa [List.length_map] at this
  have c2 : cut (List.map nN (pre ++ l :: s)) (some ((pre.length : Int) + 1)) none = List.map nN s := by
    rw [e2]
    have := cut_from (List.map nN pre ++ [nN l]) (List.map nN s)
    rw [List.length_append, List.length_map] at this
    exact this
  unfold r_l_steps_1
  walk_at "rd3"
  rw [c1, c2]
  have e3 : NestedKey.tup (List.map nN pre ++ [NestedKey.num ((l : Int) + 1)] ++ List.map nN s) = enc (pre ++ (l + 1) :: s) := by simp
  refine ⟨by decide, by simp; omega, by simp; omega, ?_⟩
  rw [e3]
  refine ⟨Nat.le_trans (enc_depth _) (by decide), .inr ⟨_, _, hq, ?_⟩⟩
  by_cases hlt : l < t
  · rw [if_pos hlt] at h
    rw [tb_in (val_up' hl hv hlt), if_pos (by rfl)]
    refine ⟨⟨_, hr⟩, _, hr, by unfold encs; rw [List.length_map]; omega, ?_⟩
    refine h _ _ (fun b hb => put_ne hb) ?_
    rw [put_same]
    unfold encs
    rw [List.map_append]
    exact congrArg (fun k => some (MO.lst (List.map dS acc ++ [D.k k]))) e3
  · rw [if_neg hlt, List.append_nil] at h
    rw [tb_out (fun g => hlt (val_up hl hv g)), if_neg (by simp)]
    exact h _ S (fun _ _ => rfl) hr
theorem steps_loop {D3 : Ends3} {q r : Addr} {lk : Lk} {f : List Nat → NK} {card full : List Nat} {Se : Sto} (hr0 : Se r = none) (hrq : r ≠ q) (hn : full.length < 900) (hvf : Val card full) : ∀ (c s cpre pre : List Nat) (acc : List (List Nat)) (x y z : Option D) (S : Sto), card = cpre ++ c → full = pre ++ s → cpre.length = pre.length → Val c s → Sub Se S → S q = some (.dic lk (tb card f)) → S r = some (.lst (encs acc)) → acc.length ≤ pre.length →
    (∀ x y z S', Sub Se S' → S' r = some (.lst (encs (acc ++ (upsAux pre c s).map (·.2)))) → D3.nx [some (.ref q), some (dS full), some (.ref r), x, y, z] S') →
    for3 (gP 3 4) r_l_steps_1 (fun _ => True) D3 (enumFrom pre.length (s.map nN)) [some (.ref q), some (dS full), some (.ref r), x, y, z] S
  | [], [], cpre, pre, acc, x, y, z, S, _, _, _, _, hS, hq, hr, _, hk => for3_nil.mpr ⟨trivial, hk x y z S hS (by rw [upsAux] <;> simpa using hr)⟩
  | t :: c, l :: s, cpre, pre, acc, x, y, z, S, ec, ef, hl, hv, hS, hq, hr, ha, hk => by
    rw [List.map_cons, enumFrom_cons, for3_P]
    refine ⟨trivial, ?_⟩
    subst ec ef
    rw [List.length_append, List.length_cons] at hn
    refine steps_turn hl hvf (by omega) hq hr (by omega) fun z S' ho hr' => ?_
    have ih := steps_loop (D3 := D3) (Se := Se) (q := q) (r := r) (lk := lk) (f := f) (card := cpre ++ t :: c) (full := pre ++ l :: s) hr0 hrq (by rw [List.length_append, List.length_cons]; omega) hvf c s (cpre ++ [t]) (pre ++ [l]) _ (some (Dn (pre.length : Nat))) (some (Dn l)) z S' (by simp) (by simp) (by simp [hl]) hv.2 (fun b o e => by
      have nb : b ≠ r := fun z => by rw [z, hr0] at e; cases e
      rw [ho b nb]
      exact hS b o e) ((ho q (Ne.symm hrq)).trans hq) hr' (by rw [List.length_append, List.length_append]; split <;> simp <;> omega) fun x y z S2 h2 hq2 => hk x y z S2 h2 (by
        rw [hq2]
        have e : (acc ++ if l < t then [pre ++ (l + 1) :: s] else []) ++ (upsAux (pre ++ [l]) c s).map (·.2) = acc ++ (upsAux pre (t :: c) (l :: s)).map (·.2) := by
          rw [upsAux]
          split <;> simp
        rw [e])
    rw [List.length_append] at ih
    exact ih
  | [], _ :: _, _, _, _, _, _, _, _, _, _, _, h, _, _, _, _, _ => h.elim
  | _ :: _, [], _, _, _, _, _, _, _, _, _, _, h, _, _, _, _, _ => h.elim
theorem rd_l_steps (ds : List D) (S : Sto) (R : VK3) (hl : ds.length = 2) (h : sp_l_steps ds S R) : r_l_steps { nx := fun _ S' => R Dz S', rt := R } (start3 n_l_steps ds) S := by
  obtain ⟨q, lk, card, s, f, rfl, hq, hv, hc, h⟩ := h
  refine ⟨by decide, fun r hr => ?_⟩
  have nq : r ≠ q := fun z => by rw [z, hq] at hr; cases hr
  refine steps_loop (Se := S) (card := card) (full := s) hr nq (by rw [hv.len]; omega) hv card s [] [] [] _ _ _ _ rfl rfl rfl hv (Sub.add (Sub.refl S) hr) ((put_ne (Ne.symm nq)).trans hq) put_same (Nat.le_refl _) fun x y z S' hS hr' => ?_
  exact h r S' hr hS hr'
end L3
/-! ## S23 -/
namespace L3
open PySem PySem.Spec L2
open PyProof.Rows hiding St
set_option hygiene false in
local macro_rules | `(tactic| walk_at "rd3") => `(tactic| simp only [a1, a2, asB, asI, asK, asP, asR, asT, asOwn, cN, cP, gN, gP, iD3, iE3, iL3, iR3, iS3, iT3, iZ3, rAbs3, rAdd3, rAll3, rApp3, rDictP3, rDictZ3, rEq3, rExt3, rI03, rI3, rIn3, rInt3, rIs3, rIsi3, rIx3, rLen3, rList3, rListD3, rListZ3, rMaxL3, rMin23, rMinL3, rNeg3, rPop3, rPopAt3, rRepr3, rSet3, rSl3, rSum3, rTuple3, rTupleW3, rdS, tAnd3, tAndV3, tAsg3, tB3, tBack3, tBreak3, tCall3, tChain3, tCons3, tDict0, tDisp3, tDrop3, tFld3, tFor3, tFst3, tGet3, tIf3, tIfS3, tK, tLc3, tLk3, tLkE3, tLst3, tM0, tM1, tMake3, tMeth3, tNever3, tNext3, tNil3, tNo3, tNot3, tNotV3, tOp3, tOr3, tOrV3, tOwn3, tPairs3, tPar3, tPar33, tRep3, tRet3, tSFld3, tSeq3, tSet3, tSl3, tSm3, tSortK3, tSub3, tT, tTup3, tUn3, tV, tWk3, tYes3, three, two, nks, Option.map, List.getElem?_cons_zero, List.getElem?_cons_succ, List.set_cons_zero, List.set_cons_succ, if_true, if_false, Bool.false_eq_true, ite_true, ite_false, reduceIte, List.length_cons, List.length_nil, Nat.zero_add, Nat.reduceAdd, true_and, and_true])
/-! the law's own going along all ways -/
structure Dfs (card : List Nat) (f : List Nat → NK) (G : List Nat → Prop) (v : NK) (s : List Nat) (ways : List (List (List Nat))) (seen : List (List Nat)) (op : List Nat → Prop) : Prop where
  nd : seen.Nodup
  at_ : s ∈ seen
  rch : ∀ t ∈ seen, Rch card f G (f s) v s t
  wy : ∀ w ∈ ways, ∃ t, w.getLast? = some t ∧ t ∈ seen ∧ w.length ≤ t.sum + 1
  cl : ∀ t ∈ seen, op t ∨ (∃ w ∈ ways, w.getLast? = some t) ∨ (f t ≠ v ∧ ∀ u, OneUp card t u → G u → (f u = f s ∨ f u = v) → u ∈ seen)
section
variable {card : List Nat} {f : List Nat → NK} {G : List Nat → Prop} {v : NK} {s : List Nat} {ways : List (List (List Nat))} {seen : List (List Nat)} {op : List Nat → Prop}
theorem Dfs.begin : Dfs card f G v s [[s]] [s] (fun _ => False) where
  nd := by simp
  at_ := List.mem_singleton.mpr rfl
  rch := fun t ht => by rw [List.mem_singleton.mp ht]; exact .at_
  wy := fun w hw => by rw [List.mem_singleton.mp hw]; exact ⟨s, rfl, List.mem_singleton.mpr rfl, by simp⟩
  cl := fun t ht => by rw [List.mem_singleton.mp ht]; exact .inr (.inl ⟨[s], List.mem_singleton.mpr rfl, rfl⟩)
theorem Dfs.push {w : List (List Nat)} {t u : List Nat} (h : Dfs card f G v s ways seen op) (ht : t ∈ seen) (hw : w.length ≤ t.sum + 1) (nu : u ∉ seen) (up : OneUp card t u) (g : G u) (lb : f u = f s ∨ f u = v) : Dfs card f G v s (ways ++ [w ++ [u]]) (seen ++ [u]) op where
  nd := by
    rw [List.nodup_append]
    refine ⟨h.nd, by simp, fun a ha b hb z => ?_⟩
    rw [List.mem_singleton] at hb
    exact nu (hb ▸ z ▸ ha)
  at_ := List.mem_append_left _ h.at_
  rch := fun x hx => by
    rcases List.mem_append.mp hx with hx | hx
    · exact h.rch x hx
    · rw [List.mem_singleton.mp hx]
      exact .up (h.rch t ht) up g lb
  wy := fun x hx => by
    rcases List.mem_append.mp hx with hx | hx
    · obtain ⟨y, a, b, c⟩ := h.wy x hx
      exact ⟨y, a, List.mem_append_left _ b, c⟩
    · rw [List.mem_singleton.mp hx]
      refine ⟨u, List.getLast?_concat, List.mem_append_right _ (List.mem_singleton.mpr rfl), ?_⟩
      have := up.sum
      rw [List.length_append, List.length_singleton]
      omega
  cl := fun x hx => by
    rcases List.mem_append.mp hx with hx | hx
    · rcases h.cl x hx with a | ⟨y, a, b⟩ | ⟨a, b⟩
      · exact .inl a
      · exact .inr (.inl ⟨y, List.mem_append_left _ a, b⟩)
      · exact .inr (.inr ⟨a, fun z h1 h2 h3 => List.mem_append_left _ (b z h1 h2 h3)⟩)
    · rw [List.mem_singleton.mp hx]
      exact .inr (.inl ⟨w ++ [u], List.mem_append_right _ (List.mem_singleton.mpr rfl), List.getLast?_concat⟩)
theorem Dfs.pop {w : List (List Nat)} {t : List Nat} (h : Dfs card f G v s (ways ++ [w]) seen (fun _ => False)) (hw : w.getLast? = some t) : Dfs card f G v s ways seen (· = t) where
  nd := h.nd
  at_ := h.at_
  rch := h.rch
  wy := fun x hx => h.wy x (List.mem_append_left _ hx)
  cl := fun x hx => by
    rcases h.cl x hx with a | ⟨y, a, b⟩ | a
    · exact a.elim
    · rcases List.mem_append.mp a with a | a
      · exact .inr (.inl ⟨y, a, b⟩)
      · rw [List.mem_singleton.mp a, hw] at b
        exact .inl (Option.some.inj b).symm
    · exact .inr (.inr a)
theorem Dfs.close {t : List Nat} (h : Dfs card f G v s ways seen (· = t)) (ne : f t ≠ v) (hc : ∀ u, OneUp card t u → G u → (f u = f s ∨ f u = v) → u ∈ seen) : Dfs card f G v s ways seen (fun _ => False) where
  nd := h.nd
  at_ := h.at_
  rch := h.rch
  wy := h.wy
  cl := fun x hx => by
    rcases h.cl x hx with a | a
    · subst a
      exact .inr (.inr ⟨ne, hc⟩)
    · exact .inr a
theorem Dfs.done (h : Dfs card f G v s [] seen (fun _ => False)) {t : List Nat} (r : Rch card f G (f s) v s t) : t ∈ seen ∧ f t ≠ v := by
  have cl : ∀ t ∈ seen, f t ≠ v ∧ ∀ u, OneUp card t u → G u → (f u = f s ∨ f u = v) → u ∈ seen := fun t ht => by
    rcases h.cl t ht with a | ⟨_, a, _⟩ | a
    · exact a.elim
    · cases a
    · exact a
  have m : t ∈ seen := by
    induction r with
    | at_ => exact h.at_
    | up _ a b c ih => exact (cl _ ih).2 _ a b c
  exact ⟨m, (cl t m).1⟩
theorem Dfs.few {o : List Nat → Prop} (h : Dfs card f G v s ways seen o) (hv : Val card s) : seen.length ≤ size card := by
  rw [← sts_len]
  exact nodup_le h.nd fun t ht => mem_sts.mpr ((h.rch t ht).val hv)
end
abbrev wayK (w : List (List Nat)) : NK := .tup (w.map enc)
theorem enc_ok (s : List Nat) : okK (enc s) = true := okK_tup (fun k hk => by
  obtain ⟨n, _, rfl⟩ := List.mem_map.mp hk
  exact okK_num _) (by
  have := enc_depth s
  rw [NestedKey.depth] at this
  omega)
theorem way_ok (w : List (List Nat)) : okK (wayK w) = true := okK_tup (fun k hk => by
  obtain ⟨n, _, rfl⟩ := List.mem_map.mp hk
  exact enc_ok n) (by
  have g : ∀ l : List (List Nat), NestedKey.depthAll (l.map enc) ≤ 1 := by
    intro l
    induction l with
    | nil => exact Nat.zero_le _
    | cons a l ih =>
      have := enc_depth a
      rw [List.map_cons, NestedKey.depthAll]
      omega
  have := g w
  omega)
theorem atI_lastmap {α β : Type} (h : α → β) {w : List α} {t : α} (e : w.getLast? = some t) : atI (w.map h) (-1) = some (h t) := by
  have ne : w ≠ [] := fun z => by rw [z] at e; cases e
  rw [atI_last _ (fun z => ne (List.map_eq_nil_iff.mp z)), ← List.getLast?_eq_getElem?, List.getLast?_map, e]
  rfl
def Knows (sd : List (NK × D)) (seen : List (List Nat)) : Prop := sd.length ≤ seen.length ∧ ∀ t, (dlook sd (enc t)).isSome = decide (t ∈ seen)
theorem Knows.put {sd : List (NK × D)} {seen : List (List Nat)} {u : List Nat} {x : D} (h : Knows sd seen) : Knows (dput sd (enc u) x) (seen ++ [u]) := by
  refine ⟨?_, fun t => ?_⟩
  · have := dput_len sd (enc u) x
    have := h.1
    rw [List.length_append, List.length_singleton]
    omega
  · rw [dlook_dput]
    by_cases c : enc u = enc t
    · rw [if_pos c, enc_inj c]
      simp
    · rw [if_neg c, h.2]
      have : t ≠ u := fun z => c (by rw [z])
      simp [this]
section
variable {q g wl sl : Addr} {card s : List Nat} {v : NK} {f : List Nat → NK} {gr : List (NK × D)} {S0 : Sto}
abbrev GrOf (gr : List (NK × D)) (t : List Nat) : Prop := (dlook gr (enc t)).isSome = true
theorem way_loop {D3 : Ends3} {w : List (List Nat)} {t : List Nat} {M : Nat} {fr : Addr} {full : List (List Nat)} (hq : S0 q = some (.dic none (tb card f))) (hg : S0 g = some (.dic none gr)) (hv : Val card s) (hz : size card ≤ 1000) (hs : card.sum ≤ 100) (ov : valueV v = true) (hf : ∀ t, Val card t → labOk (f t)) (nw : S0 wl = none) (ns : S0 sl = none) (nws : wl ≠ sl) (fw : fr ≠ wl) (fs : fr ≠ sl) (wt : w.length ≤ t.sum + 1) (hvt : Val card t) (hM : M ≤ 5000) :
    ∀ (rest : List (List Nat)) (ways : List (List (List Nat))) (seen : List (List Nat)) (sd : List (NK × D)) (x7 : Option D) (S : Sto), (∀ u ∈ rest, OneUp card t u) → Sub S0 S → S wl = some (.lst (List.map D.k (ways.map wayK))) → S sl = some (.dic none sd) → S fr = some (.lst (encs full)) → Knows sd seen → Dfs card f (GrOf gr) v s ways seen (· = t) → t ∈ seen → ways.length + 2 * (size card - seen.length) ≤ M → (∀ u, OneUp card t u → GrOf gr u → (f u = f s ∨ f u = v) → u ∈ seen ∨ u ∈ rest) →
      (∀ ways seen sd x7 S', Sub S0 S' → S' wl = some (.lst (List.map D.k (ways.map wayK))) → S' sl = some (.dic none sd) → Knows sd seen → Dfs card f (GrOf gr) v s ways seen (· = t) → ways.length + 2 * (size card - seen.length) ≤ M → (∀ u, OneUp card t u → GrOf gr u → (f u = f s ∨ f u = v) → u ∈ seen) → D3.nx [some (.ref q), some (dS s), some (.k v), some (.ref g), some (.ref wl), some (.ref sl), some (.k (wayK w)), x7] S') →
      for3 (gN 7) (r_l_way_2 sp_l_steps) (fun S => S fr = some (.lst (encs full))) D3 (encs rest) [some (.ref q), some (dS s), some (.k v), some (.ref g), some (.ref wl), some (.ref sl), some (.k (wayK w)), x7] S
  | [], ways, seen, sd, x7, S, hu, hS, ew, es, ef, kn, df, ht, hm, hc, hk => for3_nil.mpr ⟨ef, hk ways seen sd x7 S hS ew es kn df hm fun u a b c => (hc u a b c).resolve_right fun z => by cases z⟩
  | u :: rest, ways, seen, sd, x7, S, hu, hS, ew, es, ef, kn, df, ht, hm, hc, hk => by
    have up := hu u (List.mem_cons_self ..)
    have hvu := up.val hvt
    have hu' : ∀ u ∈ rest, OneUp card t u := fun u h => hu u (List.mem_cons_of_mem _ h)
    have d1 : (enc u).depth ≤ 8 := Nat.le_trans (enc_depth u) (by decide)
    have d2 : (enc s).depth ≤ 8 := Nat.le_trans (enc_depth s) (by decide)
    show for3 (gN 7) _ _ D3 (dS u :: encs rest) _ S
    refine for3_N.mpr ⟨ef, ?_⟩
    have skip : (GrOf gr u → (f u = f s ∨ f u = v) → u ∈ seen) → for3 (gN 7) (r_l_way_2 sp_l_steps) (fun S => S fr = some (.lst (encs full))) D3 (encs rest) [some (.ref q), some (dS s), some (.k v), some (.ref g), some (.ref wl), some (.ref sl), some (.k (wayK w)), some (dS u)] S := fun no =>
      way_loop hq hg hv hz hs ov hf nw ns nws fw fs wt hvt hM rest ways seen sd _ S hu' hS ew es ef kn df ht hm (fun x a b c => (hc x a b c).elim .inl fun z => by
        rcases List.mem_cons.mp z with rfl | z
        · exact .inl (no b c)
        · exact .inr z) hk
    refine ⟨d1, .inr ⟨_, _, hS _ _ hg, ?_⟩⟩
    show if (dlook gr (enc u)).isSome = true then _ else _
    by_cases c1 : (dlook gr (enc u)).isSome = true
    · rw [if_pos c1]
      refine ⟨d1, .inr ⟨_, _, es, ?_⟩⟩
      show if (!(dlook sd (enc u)).isSome) = true then _ else _
      rw [kn.2 u]
      by_cases c2 : u ∈ seen
      · rw [if_neg (by simpa using c2)]
        exact skip fun _ _ => c2
      · rw [if_pos (by simpa using c2)]
        have du : (f u).depth ≤ 8 := by
          rcases hf u hvu with e | e
          · rw [e]; simp [NestedKey.depth]
          · exact Nat.le_trans (value_depth e) (by decide)
        refine .inr ⟨_, _, _, hS _ _ hq, d1, tb_in hvu, .inr ⟨_, _, _, hS _ _ hq, d2, tb_in hv, (by decide : 2 ≤ 1000), ?_⟩⟩
        refine ⟨du, ?_⟩
        show if decide (f u ∈ [f s, v]) = true then _ else _
        have ml : f u ∈ [f s, v] ↔ (f u = f s ∨ f u = v) := by simp
        by_cases c3 : f u ∈ [f s, v]
        · rw [if_pos (decide_eq_true c3)]
          have lb := ml.mp c3
          have df' := df.push ht wt c2 up c1 lb
          have few := df'.few hv
          rw [List.length_append, List.length_singleton] at few
          refine .inr ⟨_, es, d1, by have := kn.1; omega, ?_⟩
          have lw : ways.length ≤ 100000 := by omega
          refine ⟨⟨_, (put_ne nws).trans ew⟩, ?_⟩
          have ts := val_sum hvt
          refine ⟨(by decide : 1 ≤ 1000), ?_⟩
          show _ ∧ _
          refine ⟨by rw [List.length_map]; simp; omega, ?_⟩
          refine ⟨_, (put_ne nws).trans ew, by rw [List.length_map, List.length_map]; omega, ?_⟩
          have eW : (List.map D.k (ways.map wayK)) ++ [D.k (.tup (w.map enc ++ [enc u]))] = List.map D.k ((ways ++ [w ++ [u]]).map wayK) := by simp
          refine way_loop hq hg hv hz hs ov hf nw ns nws fw fs wt hvt hM rest (ways ++ [w ++ [u]]) (seen ++ [u]) _ _ _ hu' ((hS.over ns).over nw) (by rw [put_same, ← eW]) ((put_ne (Ne.symm nws)).trans put_same) ((put_ne fw).trans ((put_ne fs).trans ef)) kn.put df' (List.mem_append_left _ ht) ?_ (fun x a b c => (hc x a b c).elim (fun z => .inl (List.mem_append_left _ z)) fun z => by
            rcases List.mem_cons.mp z with rfl | z
            · exact .inl (List.mem_append_right _ (List.mem_singleton.mpr rfl))
            · exact .inr z) hk
          rw [List.length_append, List.length_singleton, List.length_append, List.length_singleton]
          omega
        · rw [if_neg (by simpa using c3)]
          exact skip fun _ lb => (c3 (ml.mpr lb)).elim
    · rw [if_neg c1]
      exact skip fun z => (c1 z).elim
end
def sp_l_way : Sp3 := fun ds S R => ∃ (q g : Addr) (card s : List Nat) (v : NK) (f : List Nat → NK) (gr : List (NK × D)), ds = [.ref q, dS s, .k v, .ref g] ∧ S q = some (.dic none (tb card f)) ∧ S g = some (.dic none gr) ∧ Val card s ∧ card.length ≤ 100 ∧ size card ≤ 1000 ∧ card.sum ≤ 100 ∧ valueV v = true ∧ (∀ t, Val card t → labOk (f t)) ∧
  (∀ ks S', Sub S S' → (∃ t, Rch card f (GrOf gr) (f s) v s t ∧ f t = v) → R (Dt ks) S') ∧ (∀ S', Sub S S' → (∀ t, Rch card f (GrOf gr) (f s) v s t → f t ≠ v) → R Dz S')
theorem rd_l_way (ds : List D) (S : Sto) (R : VK3) (hl : ds.length = 4) (h : sp_l_way ds S R) : r_l_way sp_l_steps { nx := fun _ S' => R Dz S', rt := R } (start3 n_l_way ds) S := by
  obtain ⟨q, g, card, s, v, f, gr, rfl, hq, hg, hv, hc, hz, hs, ov, hf, h1, h2⟩ := h
  have dq : ∀ t, (enc t).depth ≤ 8 := fun t => Nat.le_trans (enc_depth t) (by decide)
  refine ⟨(by decide : 1 ≤ 1000), (by decide : 1 ≤ 1000), fun wl nw => ?_⟩
  refine ⟨dq s, (by decide : 1 ≤ 15), fun sl ns => ?_⟩
  have nws : wl ≠ sl := fun z => by rw [← z, put_same] at ns; cases ns
  have hS0 : Sub S (put S wl (.lst [Dt [enc s]])) := (Sub.refl S).add nw
  have ns0 := hS0.gone ns
  refine ⟨fun m σ S1 => ∃ (ways : List (List (List Nat))) (seen : List (List Nat)) (sd : List (NK × D)) (x6 x7 : Option D), σ = [some (.ref q), some (dS s), some (.k v), some (.ref g), some (.ref wl), some (.ref sl), x6, x7] ∧ Sub S S1 ∧ S1 wl = some (.lst (List.map D.k (ways.map wayK))) ∧ S1 sl = some (.dic none sd) ∧ Knows sd seen ∧ Dfs card f (GrOf gr) v s ways seen (fun _ => False) ∧ ways.length + 2 * (size card - seen.length) = m ∧ m ≤ 5000, ⟨_, [[s]], [s], _, none, none, rfl, hS0.add ns, (put_ne nws).trans put_same, put_same, ⟨by simp [dputs, dput], fun t => ?_⟩, .begin, rfl, by rw [List.length_singleton, List.length_singleton]; omega⟩, ?_⟩
  · show (dlook (dput [] (enc s) (D.bl true)) (enc t)).isSome = _
    rw [dlook_dput]
    by_cases c : s = t
    · rw [if_pos (by rw [c]), c]
      simp
    · rw [if_neg (fun z => c (enc_inj z))]
      have : ¬ t = s := fun z => c z.symm
      simp [this, dlook]
  rintro m σ S1 ⟨ways, seen, sd, x6, x7, rfl, hS, ew, es, kn, df, hm, hm5⟩
  refine ⟨(by decide : 0 ≤ 1000), fun r hr => ?_⟩
  have hS1 : Sub S1 (put S1 r (.lst [])) := (Sub.refl S1).add hr
  refine ⟨ways.map wayK, [], hS1 _ _ ew, put_same, fun k hk => ?_, (fun k hk => by cases hk), ?_⟩
  · obtain ⟨w, _, rfl⟩ := List.mem_map.mp hk
    exact way_ok w
  generalize put S1 r (.lst []) = S2 at hS1
  show if (!decide (ways.map wayK = [])) = true then _ else _
  rcases List.eq_nil_or_concat ways with rfl | ⟨init, w, rfl⟩
  · rw [if_neg (by simp)]
    exact h2 S2 (hS.trans hS1) fun t ht => (df.done ht).2
  rw [List.concat_eq_append] at ew df hm ⊢
  rw [if_pos (by simp)]
  obtain ⟨t, e1, e2, e3⟩ := df.wy w (List.mem_append_right _ (List.mem_singleton.mpr rfl))
  have hvt := (df.rch t e2).val hv
  have df' := df.pop e1
  have ew2 := hS1 _ _ ew
  have es2 := hS1 _ _ es
  rw [List.map_append, List.map_append] at ew2
  refine ⟨rfl, _, .k (wayK w), ew2, by simp, ?_⟩
  have dl : (List.map D.k (List.map wayK init) ++ List.map D.k (List.map wayK [w])).dropLast = List.map D.k (List.map wayK init) := List.dropLast_concat
  rw [dl]
  have hS3 : Sub S (put S2 wl (.lst (List.map D.k (List.map wayK init)))) := (hS.trans hS1).over nw
  have es3 : put S2 wl (.lst (List.map D.k (List.map wayK init))) sl = some (.dic none sd) := (put_ne (Ne.symm nws)).trans es2
  have ew3 : put S2 wl (.lst (List.map D.k (List.map wayK init))) wl = some (.lst (List.map D.k (List.map wayK init))) := put_same
  generalize put S2 wl (.lst (List.map D.k (List.map wayK init))) = S3 at hS3 es3 ew3
  have al : atI (w.map enc) (-1) = some (enc t) := atI_lastmap enc e1
  refine ⟨_, al, .inr ⟨_, _, _, hS3 _ _ hq, dq t, tb_in hvt, eqOk_of (lab_ok (hf t hvt)) (value_ok ov), ?_⟩⟩
  show if decide (f t = v) = true then _ else _
  by_cases c : f t = v
  · rw [if_pos (decide_eq_true c)]
    exact h1 _ S3 hS3 ⟨t, df.rch t e2, c⟩
  rw [if_neg (by simpa using c)]
  refine ⟨_, al, rfl, q, none, card, t, f, rfl, hS3 _ _ hq, hvt, hc, fun fr S4 nf h4 ef => ?_⟩
  have fw : fr ≠ wl := fun z => by rw [z, ew3] at nf; cases nf
  have fs : fr ≠ sl := fun z => by rw [z, es3] at nf; cases nf
  refine ⟨_, ef, ?_⟩
  refine way_loop (M := m - 1) hq hg hv hz hs ov hf nw ns0 nws fw fs e3 hvt (by omega) _ init seen sd _ S4 (fun u hu => ?_) (hS3.trans h4) (h4 _ _ ew3) (h4 _ _ es3) ef kn df' e2 ?_ (fun u up _ _ => .inr ?_) fun ways seen sd x7 S5 k1 k2 k3 k4 k5 k6 k7 => ?_
  · obtain ⟨p, hp, rfl⟩ := List.mem_map.mp hu
    exact ⟨p, hp, rfl⟩
  · rw [List.length_append, List.length_singleton] at hm
    omega
  · obtain ⟨p, hp, rfl⟩ := up
    exact List.mem_map.mpr ⟨p, hp, rfl⟩
  · rw [List.length_append, List.length_singleton] at hm
    exact ⟨_, by omega, ways, seen, sd, _, _, rfl, k1, k2, k3, k4, k5.close c k7, rfl, by omega⟩
end L3
/-! ## S24 -/
namespace L3
open PySem PySem.Spec L2
open PyProof.Rows hiding St
set_option hygiene false in
local macro_rules | `(tactic| walk_at "rd3") => `(tactic| simp only [a1, a2, asB, asI, asK, asP, asR, asT, asOwn, cN, cP, gN, gP, iD3, iE3, iL3, iR3, iS3, iT3, iZ3, rAbs3, rAdd3, rAll3, rApp3, rDictP3, rDictZ3, rEq3, rExt3, rI03, rI3, rIn3, rInt3, rIs3, rIsi3, rIx3, rLen3, rList3, rListD3, rListZ3, rMaxL3, rMin23, rMinL3, rNeg3, rPop3, rPopAt3, rRepr3, rSet3, rSl3, rSum3, rTuple3, rTupleW3, rdS, tAnd3, tAndV3, tAsg3, tB3, tBack3, tBreak3, tCall3, tChain3, tCons3, tDict0, tDisp3, tDrop3, tFld3, tFor3, tFst3, tGet3, tIf3, tIfS3, tK, tLc3, tLk3, tLkE3, tLst3, tM0, tM1, tMake3, tMeth3, tNever3, tNext3, tNil3, tNo3, tNot3, tNotV3, tOp3, tOr3, tOrV3, tOwn3, tPairs3, tPar3, tPar33, tRep3, tRet3, tSFld3, tSeq3, tSet3, tSl3, tSm3, tSortK3, tSub3, tT, tTup3, tUn3, tV, tWk3, tYes3, three, two, nks, Option.map, List.getElem?_cons_zero, List.getElem?_cons_succ, List.set_cons_zero, List.set_cons_succ, if_true, if_false, Bool.false_eq_true, ite_true, ite_false, reduceIte, List.length_cons, List.length_nil, Nat.zero_add, Nat.reduceAdd, true_and, and_true])
/-! whether a state's number is right -/
def otherD (x0 : NK) : D → Option D
  | .k x => if x ≠ x0 then some (.k x) else none
  | _ => none
theorem otherD_map (x0 : NK) : ∀ l : List NK, (List.map D.k l).filterMap (otherD x0) = List.map D.k (l.filter fun x => decide (x ≠ x0))
  | [] => rfl
  | x :: l => by
    rw [List.map_cons, List.filterMap_cons, otherD_map x0 l, List.filter_cons]
    unfold otherD
    by_cases c : x ≠ x0
    · simp only [if_pos c, decide_eq_true c, if_true]
      rfl
    · simp only [if_neg c, decide_eq_false c]
      rfl
/-- what is among them, but one -/
theorem other_step {q : Addr} {card : List Nat} {labs : List NK} {s : List Nat} {σ : Sd} {S : Sto} {Q : VK3} {i j n : Nat} (h0 : σ[i]? = some (some (.ref q))) (hi : ∀ d, (σ.set n (some d))[i]? = some (some (.ref q))) (hj : ∀ d, (σ.set n (some d))[j]? = some (some (dS s)) ∨ ∃ b, (σ.set n (some d))[j]? = some (some (.own b (enc s)))) (hn : ∀ d, (σ.set n (some d))[n]? = some (some d)) {tw : TE3} (htw : tw = tV j ∨ tw = tWk3 (tV j)) (hw : tw = tV j → ∀ d, (σ.set n (some d))[j]? = some (some (dS s)))
    (ok : CodeOk card labs) (hq : S q = some (.dic none (tb card (lab card labs)))) (hv : Val card s) (h : ∀ p ns S', S p = none → Sub S S' → S' p = some (.lst (List.map D.k (ns.filter fun x => decide (x ≠ lab card labs s)))) → ns.Nodup → Uniq labs ns → Q (.ref p) S') :
    (tLc3 (iL3 (tCall3 1 sp_l_named (tCons3 (tV i) tNil3))) (cN n) (tT (tOp3 (rEq3 (!·)) (tV n) (tOp3 rIx3 (tV i) tw))) (tV n)) σ S Q := by
  have lk : ∀ t, Val card t → labOk (lab card labs t) := fun t _ => lab_ok_of ok.ok t
  have ld : ∀ {x}, labOk x → x.depth ≤ 8 := fun {x} e => by
    rcases e with e | e
    · rw [e]; simp [NestedKey.depth]
    · exact Nat.le_trans (value_depth e) (by decide)
  have z27 := ok.sz
  have h0' : ∀ (Q : D → Prop), Q (.ref q) → rdS σ i Q := fun Q hQ => by unfold rdS; rw [h0]; exact hQ
  refine h0' _ ⟨rfl, q, card, lab card labs, rfl, hq, by omega, fun t ht => ld (lk t ht), fun r ns S1 nr h1 hr nd mem => ?_⟩
  have un : Uniq labs ns := ⟨nd, fun v => by
    rw [mem]
    have e : v ∈ labs ↔ ∃ t ∈ sts card, lab card labs t = v := by
      conv => lhs; rw [labs_map ok.len]
      rw [List.mem_map]
    rw [e]
    exact And.comm⟩
  refine ⟨_, hr, ?_⟩
  refine lc3_map (S0 := S1) (otherD (lab card labs s)) _ _ _ (Sub.refl S1) (fun d hd S2 h2 K L' hK hL => ?_) (fun S2 h2 => h2 _ _ hr) (by rw [List.length_nil, List.length_map]; have := un.len ok; omega) fun S2 h2 p hp => ?_
  · obtain ⟨x, hx, rfl⟩ := List.mem_map.mp hd
    have ox : labOk x := ok.ok x ((un.2 x).mp hx).1
    have rd : ∀ (Q : D → Prop), Q (D.k x) → rdS (σ.set n (some (.k x))) n Q := fun Q hQ => by unfold rdS; rw [hn]; exact hQ
    have ri : ∀ (Q : D → Prop), Q (.ref q) → rdS (σ.set n (some (.k x))) i Q := fun Q hQ => by unfold rdS; rw [hi]; exact hQ
    have rw' : ∀ (S : Sto) (Q : VK3), Q (dS s) S → tw (σ.set n (some (.k x))) S Q := fun S Q hQ => by
      rcases htw with e | e
      · have e2 := hw e (.k x)
        subst e
        unfold tV rdS
        rw [e2]
        exact hQ
      · subst e
        unfold tWk3 tV rdS
        rcases hj (.k x) with e2 | ⟨b, e2⟩
        · rw [e2]; exact hQ
        · rw [e2]; exact hQ
    have fin : rEq3 (!·) (.k x) (.k (lab card labs s)) S2 fun d S3 => asB d fun b => if b = true then tV n (σ.set n (some (.k x))) S3 K else L' S3 := by
      refine ⟨eqOk_of (lab_ok ox) (lab_ok (lk s hv)), ?_⟩
      show if (!decide (x = lab card labs s)) = true then _ else _
      by_cases c : x = lab card labs s
      · rw [if_neg (by simpa using c)]
        exact hL S2 (if_neg fun z => z c) (Sub.refl S2)
      · rw [if_pos (by simpa using c)]
        exact rd _ (hK _ S2 (if_pos c) (Sub.refl S2))
    exact rd _ (ri _ (rw' S2 _ (.inr ⟨_, _, _, h2 _ _ (h1 _ _ hq), Nat.le_trans (enc_depth s) (by decide), tb_in hv, fin⟩)))
  · rw [List.nil_append, otherD_map]
    have h3 := h1.trans h2
    exact h p ns _ (h3.gone hp) (h3.add hp) put_same nd un
section
variable {q k : Addr} {card : List Nat} {labs vs : List NK} {S : Sto}
def lotD (P : List Nat → Bool) (l : List (List Nat)) : List D := (l.filter P).map fun s => D.pr (enc s) true
theorem rk_some {s : List Nat} (h : lab card labs s ≠ .none) : rkT card vs (lab card labs) s = nN (sfT card vs (lab card labs) s) := if_neg h
theorem rk_isN {s : List Nat} : isN (D.k (rkT card vs (lab card labs) s)) = decide (lab card labs s = .none) := by
  unfold rkT
  by_cases c : lab card labs s = .none
  · rw [if_pos c, decide_eq_true c]; rfl
  · rw [if_neg c, decide_eq_false c]; rfl
noncomputable def lotP (card : List Nat) (labs vs : List NK) (c : Int) (s : List Nat) : Bool := !decide (lab card labs s = .none) && decide (c ≤ (sfT card vs (lab card labs) s : Int))
theorem lot_step {te : TE3} {c : Int} {x2 x3 x4 x5 x6 x7 x8 : Option D} {Q : VK3} (hte : ∀ x S Q, Q (Dn c) S → te [some (.ref q), some (.ref k), x2, x3, x4, x5, x6, x7, some x] S Q) (hqk : q ≠ k) (hz : size card ≤ 1000) (hq : S q = some (.dic none (tb card (lab card labs)))) (hk : S k = some (.dic none (tb card (rkT card vs (lab card labs)))))
    (h : ∀ p gr S', S p = none → Sub S S' → S' p = some (.dic none gr) → (∀ t, GrOf gr t ↔ Val card t ∧ lab card labs t ≠ .none ∧ c ≤ (sfT card vs (lab card labs) t : Int)) → Q (.ref p) S') :
    (tB3 rDictP3 (tCons3 (tLkE3 (tLc3 (iD3 (tV 0)) (cN 8) (tAnd3 (tT (tOp3 (rIs3 (!·)) (tOp3 rIx3 (tV 1) (tV 8)) (tK Dz))) (tT (tOp3 (rI03 fun i j => .bl (decide (j ≤ i))) (tOp3 rIx3 (tV 1) (tV 8)) te))) (tTup3 (tCons3 (tV 8) (tCons3 (tK (.bl true)) tNil3))))) tNil3)) [some (.ref q), some (.ref k), x2, x3, x4, x5, x6, x7, x8] S Q := by
  refine ⟨q, _, hq, fun l => ⟨l, _, put_same, ?_⟩⟩
  rw [tb_walk]
  have hk1 : put S q (.dic (some l) (tb card (lab card labs))) k = some (.dic none (tb card (rkT card vs (lab card labs)))) := (put_ne (Ne.symm hqk)).trans hk
  have hq1 : put S q (.dic (some l) (tb card (lab card labs))) q = some (.dic (some l) (tb card (lab card labs))) := put_same
  have old : ∀ b o, b ≠ q → S b = some o → put S q (.dic (some l) (tb card (lab card labs))) b = some o := fun b o n e => (put_ne n).trans e
  have new : ∀ b, put S q (.dic (some l) (tb card (lab card labs))) b = none → S b = none := fun b e => by
    cases e2 : S b with
    | none => rfl
    | some o =>
      by_cases n : b = q
      · rw [n, hq1] at e; cases e
      · rw [old b o n e2] at e; cases e
  generalize put S q (.dic (some l) (tb card (lab card labs))) = S1 at hk1 hq1 old new
  refine lc3_inv (fun items acc S' => Sub S1 S' ∧ ∃ a b, sts card = a ++ b ∧ items = encs b ∧ acc = lotD (lotP card labs vs c) a) (fun d r acc S2 hI K N hK hN => ?_) (fun acc S2 hI => ?_) _ _ _ (by unfold encs; rw [List.length_nil, List.length_map, sts_len]; omega) ⟨Sub.refl S1, [], sts card, rfl, rfl, rfl⟩
  · obtain ⟨hS, a, b, e1, e2, rfl⟩ := hI
    cases b with
    | nil => cases e2
    | cons s b =>
      unfold encs at e2
      rw [List.map_cons] at e2
      injection e2 with e2 e3
      subst e2 e3
      have hv : Val card s := mem_sts.mp (by rw [e1]; exact List.mem_append_right _ (List.mem_cons_self ..))
      have d1 : (enc s).depth ≤ 8 := Nat.le_trans (enc_depth s) (by decide)
      have e1' : sts card = (a ++ [s]) ++ b := by rw [e1]; simp
      have out : lotP card labs vs c s = false → N S2 := fun no => hN S2 ⟨hS, a ++ [s], b, e1', rfl, by unfold lotD; rw [List.filter_append, List.filter_cons, no]; simp⟩
      have inn : lotP card labs vs c s = true → K (.pr (enc s) true) S2 := fun yes => hK _ S2 ⟨hS, a ++ [s], b, e1', rfl, by unfold lotD; rw [List.filter_append, List.filter_cons, yes, List.map_append]; rfl⟩
      refine ⟨hS _ _ hq1, .inr ⟨_, _, _, hS _ _ hk1, d1, tb_in hv, rfl, ?_⟩⟩
      show if (!isN (D.k (rkT card vs (lab card labs) s))) = true then _ else _
      rw [rk_isN]
      by_cases c1 : lab card labs s = .none
      · rw [if_neg (by simpa using c1)]
        exact out (by unfold lotP; rw [decide_eq_true c1]; rfl)
      · rw [if_pos (by simpa using c1)]
        refine .inr ⟨_, _, _, hS _ _ hk1, d1, tb_in hv, hte _ _ _ ?_⟩
        rw [rk_some c1]
        show if decide (c ≤ (sfT card vs (lab card labs) s : Int)) = true then _ else _
        by_cases c2 : c ≤ (sfT card vs (lab card labs) s : Int)
        · rw [if_pos (decide_eq_true c2)]
          exact ⟨(by decide : 2 ≤ 1000), inn (by unfold lotP; rw [decide_eq_false c1, decide_eq_true c2]; rfl)⟩
        · rw [if_neg (by simpa using c2)]
          exact out (by unfold lotP; rw [decide_eq_false c2, Bool.and_false])
  obtain ⟨hS, a, b, e1, e2, rfl⟩ := hI
  cases b with
  | cons _ _ => cases e2
  | nil =>
    rw [List.append_nil] at e1
    subst e1
    refine ⟨hS _ _ hq1, fun p hp => ?_⟩
    have hS2 : Sub S1 (put S2 p (.lst (lotD (lotP card labs vs c) (sts card)))) := hS.add hp
    refine ⟨hS2 _ _ hq1, ?_⟩
    have pq : p ≠ q := fun z => by rw [z, hS _ _ hq1] at hp; cases hp
    have ps : asPairs (lotD (lotP card labs vs c) (sts card)) = some (((sts card).filter (lotP card labs vs c)).map fun s => (enc s, D.bl true)) := by
      have := pairs_pr true (((sts card).filter (lotP card labs vs c)).map enc)
      rw [List.map_map, List.map_map] at this
      exact this
    refine ⟨_, _, (put_ne pq).trans put_same, ps, fun x hx => ?_, fun g hg => ?_⟩
    · obtain ⟨s, _, rfl⟩ := List.mem_map.mp hx
      exact Nat.le_trans (enc_depth s) (by decide)
    have gq : g ≠ q := fun z => by rw [z, put_same] at hg; cases hg
    have hg2 : put S2 p (.lst (lotD (lotP card labs vs c) (sts card))) g = none := by rw [put_ne gq] at hg; exact hg
    have nod : ((((sts card).filter (lotP card labs vs c)).map fun s => (enc s, D.bl true)).map (·.1)).Nodup := by
      rw [List.map_map]
      exact map_nodup (f := enc) (fun _ _ => enc_inj) ((sts_nodup card).filter _)
    rw [dputs_app _ _ (fun _ _ z => by cases z) nod, List.nil_append]
    refine h g _ _ (new g (hS2.gone hg2)) (fun x o e => ?_) put_same fun t => ?_
    · have ng : x ≠ g := fun z => by
        have := hS2.gone hg2
        by_cases xq : x = q
        · exact gq (z ▸ xq)
        · rw [← z, old x o xq e] at this; cases this
      rw [put_ne ng]
      by_cases xq : x = q
      · rw [xq, put_same, ← hq, ← xq, e]
      · rw [put_ne xq]
        exact hS2 _ _ (old x o xq e)
    · unfold GrOf
      by_cases m : t ∈ (sts card).filter (lotP card labs vs c)
      · rw [dlook_in (g := fun _ => D.bl true) m]
        obtain ⟨m1, m2⟩ := List.mem_filter.mp m
        unfold lotP at m2
        rw [Bool.and_eq_true, Bool.not_eq_true', decide_eq_false_iff_not, decide_eq_true_eq] at m2
        exact ⟨fun _ => ⟨mem_sts.mp m1, m2.1, m2.2⟩, fun _ => rfl⟩
      · rw [dlook_out (g := fun _ => D.bl true) m]
        refine ⟨(fun z => by cases z), fun ⟨a, b, d⟩ => (m (List.mem_filter.mpr ⟨mem_sts.mpr a, ?_⟩)).elim⟩
        unfold lotP
        rw [decide_eq_false b, decide_eq_true d]
        rfl
end
def sp_l_is_shown : Sp3 := fun ds S R => ∃ (q k : Addr) (card : List Nat) (labs vs : List NK) (s : List Nat), ds = [.ref q, .ref k, dS s] ∧ q ≠ k ∧ S q = some (.dic none (tb card (lab card labs))) ∧ S k = some (.dic none (tb card (rkT card vs (lab card labs)))) ∧ CodeOk card labs ∧ Uniq labs vs ∧ Val card s ∧ lab card labs s ≠ .none ∧ ∀ S', Sub S S' → R (.bl true) S'
open Classical in
noncomputable def noneD (P : NK → Prop) : D → Option D
  | .k x => if P x then some (.k x) else none
  | _ => none
open Classical in
theorem noneD_map (P : NK → Prop) : ∀ l : List NK, (List.map D.k l).filterMap (noneD P) = List.map D.k (l.filter fun x => decide (P x))
  | [] => rfl
  | x :: l => by
    rw [List.map_cons, List.filterMap_cons, noneD_map P l, List.filter_cons]
    unfold noneD
    by_cases c : P x
    · simp only [if_pos c, decide_eq_true c, if_true]
      rfl
    · simp only [if_neg c, decide_eq_false c]
      rfl
theorem filterMap_non {α β : Type} : ∀ l : List α, l.filterMap (fun _ => (none : Option β)) = []
  | [] => rfl
  | a :: l => by rw [List.filterMap_cons, filterMap_non l]
theorem seqset {i : Nat} {te : TE3} {u : TS3} {D3 : Ends3} {σ : Sd} {S : Sto} (h : te σ S fun d S1 => u D3 (σ.set i (some d)) S1) : tSeq3 (tSet3 i te) u D3 σ S := h
theorem rd_l_is_shown (ds : List D) (S : Sto) (R : VK3) (hl : ds.length = 3) (h : sp_l_is_shown ds S R) : r_l_is_shown sp_l_named sp_l_way { nx := fun _ S' => R Dz S', rt := R } (start3 n_l_is_shown ds) S := by
  obtain ⟨q, k, card, labs, vs, s, rfl, hqk, hq, hk, ok, hu, hv, ns, h⟩ := h
  have z27 := ok.sz
  have c4 := ok.cl
  have sm := ok.sum
  have d1 : (enc s).depth ≤ 8 := Nat.le_trans (enc_depth s) (by decide)
  unfold r_l_is_shown
  refine seqset ?_
  refine other_step (σ := [some (.ref q), some (.ref k), some (dS s), none, none, none, none, none, none]) (q := q) (card := card) (labs := labs) (s := s) (i := 0) (j := 2) (n := 7) rfl (fun _ => rfl) (fun _ => .inl rfl) (fun _ => rfl) (.inl rfl) (fun _ _ => rfl) ok hq hv fun va ns' S1 nva h1 hva nd un => ?_
  have lv : ∀ x ∈ ns'.filter (fun x => decide (x ≠ lab card labs s)), valueV x = true ∧ x ≠ lab card labs s ∧ x ∈ vs := fun x hx => by
    obtain ⟨a, b⟩ := List.mem_filter.mp hx
    exact ⟨un.val ok x a, of_decide_eq_true b, (hu.2 x).mpr ((un.2 x).mp a)⟩
  have lv2 : ∀ x ∈ vs, x ≠ lab card labs s → x ∈ ns'.filter (fun x => decide (x ≠ lab card labs s)) := fun x hx ne => List.mem_filter.mpr ⟨(un.2 x).mpr ((hu.2 x).mp hx), decide_eq_true ne⟩
  have ll : (ns'.filter (fun x => decide (x ≠ lab card labs s))).length ≤ 27 := Nat.le_trans (List.length_filter_le ..) (un.len ok)
  generalize ns'.filter (fun x => decide (x ≠ lab card labs s)) = ws at hva lv lv2 ll
  refine .inr ⟨_, _, _, h1 _ _ hk, d1, tb_in hv, ?_⟩
  rw [rk_some ns]
  dsimp only
  refine seqset ?_
  refine lot_step (c := (sfT card vs (lab card labs) s : Nat)) (fun x S Q hQ => hQ) hqk (by omega) (h1 _ _ hq) (h1 _ _ hk) fun la lot S2 nla h2 hla lotI => ?_
  refine seqset ?_
  refine lot_step (c := (sfT card vs (lab card labs) s : Int) - 1) (fun x S Q hQ => hQ) hqk (by omega) (h2 _ _ (h1 _ _ hq)) (h2 _ _ (h1 _ _ hk)) fun wa wide S3 nwa h3 hwa wideI => ?_
  have hS : Sub S S3 := h1.trans (h2.trans h3)
  have hva3 := (h2.trans h3) _ _ hva
  have hla3 := h3 _ _ hla
  have wayH : ∀ (g : Addr) (gr : List (NK × D)) (x : NK) (S4 : Sto) (R' : VK3), Sub S3 S4 → S3 g = some (.dic none gr) → x ∈ ws → (∀ ks S', Sub S4 S' → (∃ t, Rch card (lab card labs) (GrOf gr) (lab card labs s) x s t ∧ lab card labs t = x) → R' (Dt ks) S') → (∀ S', Sub S4 S' → (∀ t, Rch card (lab card labs) (GrOf gr) (lab card labs s) x s t → lab card labs t ≠ x) → R' Dz S') → sp_l_way [.ref q, dS s, .k x, .ref g] S4 R' := fun g gr x S4 R' h4 hg hx a b =>
    ⟨q, g, card, s, x, lab card labs, gr, rfl, h4 _ _ (hS _ _ hq), h4 _ _ hg, hv, by omega, by omega, by omega, (lv x hx).1, fun t _ => lab_ok_of ok.ok t, a, b⟩
  -- the last statement
  have last : ∀ S4, Sub S3 S4 → (tRet3 (tOp3 (rEq3 (!·)) (tLc3 (iL3 (tV 3)) (cN 7) (tT (tOp3 (rIs3 id) (tCall3 4 sp_l_way (tCons3 (tV 0) (tCons3 (tV 2) (tCons3 (tV 7) (tCons3 (tV 5) tNil3))))) (tK Dz))) (tV 7)) (tLst3 tNil3))) { nx := fun _ S' => R Dz S', rt := R } [some (.ref q), some (.ref k), some (dS s), some (.ref va), some (Dn (sfT card vs (lab card labs) s : Nat)), some (.ref la), some (.ref wa), none, none] S4 := fun S4 h4 => by
    refine ⟨_, h4 _ _ hva3, ?_⟩
    refine lc3_map (S0 := S4) (noneD fun x => ∀ t, Rch card (lab card labs) (GrOf lot) (lab card labs s) x s t → lab card labs t ≠ x) _ _ _ (Sub.refl S4) (fun d hd S5 h5 K L' hK hL => ?_) (fun S5 h5 => h5 _ _ (h4 _ _ hva3)) (by rw [List.length_nil, List.length_map]; omega) fun S5 h5 p hp => ?_
    · obtain ⟨x, hx, rfl⟩ := List.mem_map.mp hd
      refine ⟨rfl, wayH la lot x S5 _ (h4.trans h5) hla3 hx (fun ks S6 h6 ⟨t, a, b⟩ => ⟨rfl, ?_⟩) (fun S6 h6 no => ⟨rfl, ?_⟩)⟩
      · exact hL S6 (if_neg fun z => z t a b) h6
      · exact hK _ S6 (if_pos no) h6
    · rw [List.nil_append, noneD_map]
      refine ⟨(by decide : 0 ≤ 1000), fun p2 hp2 => ?_⟩
      refine ⟨_, [], (put_ne fun z => by rw [← z, put_same] at hp2; cases hp2).trans put_same, put_same, fun x hx => value_ok (lv x (List.mem_filter.mp hx).1).1, (fun k hk => by cases hk), ?_⟩
      obtain ⟨x, hx, nx, no⟩ := lot_none (card := card) (vs := vs) (L := lab card labs) (G := GrOf lot) hv (hu.oth ok _ s) ns fun u g => by have := ((lotI u).mp g).2.2; omega
      have ne : ¬ ws.filter (fun x => @decide (∀ t, Rch card (lab card labs) (GrOf lot) (lab card labs s) x s t → lab card labs t ≠ x) (Classical.propDecidable _)) = [] := List.ne_nil_of_mem (List.mem_filter.mpr ⟨lv2 x hx nx, @decide_eq_true _ (Classical.propDecidable _) no⟩)
      have fin := h _ (((hS.trans (h4.trans h5)).add hp).add (o := .lst []) hp2)
      rw [decide_eq_false ne]
      exact fin
  show if decide ((0 : Int) < (sfT card vs (lab card labs) s : Nat)) = true then _ else _
  by_cases c0 : (0 : Int) < (sfT card vs (lab card labs) s : Nat)
  · rw [if_pos (decide_eq_true c0)]
    refine ⟨_, hva3, ?_⟩
    refine lc3_map (S0 := S3) (fun _ => none) _ _ _ (Sub.refl S3) (fun d hd S5 h5 K L' hK hL => ?_) (fun S5 h5 => h5 _ _ hva3) (by rw [List.length_nil, List.length_map]; omega) fun S5 h5 p hp => ?_
    · obtain ⟨x, hx, rfl⟩ := List.mem_map.mp hd
      obtain ⟨t, a, b⟩ := wide_some (card := card) (vs := vs) (L := lab card labs) (G := GrOf wide) hv ns (by omega) (lv x hx).2.2 (lv x hx).2.1 fun u hvu lb le => (wideI u).mpr ⟨hvu, (fun z => by
        rcases lb with e | e
        · exact ns (e.symm.trans z)
        · have := (lv x hx).1
          rw [← e, z] at this
          cases this), by omega⟩
      refine ⟨rfl, wayH wa wide x S5 _ h5 hwa hx (fun ks S6 h6 _ => ⟨rfl, ?_⟩) (fun S6 h6 no => (no t a b).elim)⟩
      exact hL S6 rfl h6
    · rw [List.nil_append, filterMap_non]
      refine ⟨(by decide : 0 ≤ 1000), fun p2 hp2 => ?_⟩
      refine ⟨[], [], (put_ne fun z => by rw [← z, put_same] at hp2; cases hp2).trans put_same, put_same, (fun k hk => by cases hk), (fun k hk => by cases hk), ?_⟩
      exact last _ ((h5.add hp).add hp2)
  · rw [if_neg (by simpa using c0)]
    exact last _ (Sub.refl S3)
end L3
/-! ## S25 -/
namespace L3
open PySem PySem.Spec L2
open PyProof.Rows hiding St
set_option hygiene false in
local macro_rules | `(tactic| walk_at "rd3") => `(tactic| simp only [a1, a2, asB, asI, asK, asP, asR, asT, asOwn, cN, cP, gN, gP, iD3, iE3, iL3, iR3, iS3, iT3, iZ3, rAbs3, rAdd3, rAll3, rApp3, rDictP3, rDictZ3, rEq3, rExt3, rI03, rI3, rIn3, rInt3, rIs3, rIsi3, rIx3, rLen3, rList3, rListD3, rListZ3, rMaxL3, rMin23, rMinL3, rNeg3, rPop3, rPopAt3, rRepr3, rSet3, rSl3, rSum3, rTuple3, rTupleW3, rdS, tAnd3, tAndV3, tAsg3, tB3, tBack3, tBreak3, tCall3, tChain3, tCons3, tDict0, tDisp3, tDrop3, tFld3, tFor3, tFst3, tGet3, tIf3, tIfS3, tK, tLc3, tLk3, tLkE3, tLst3, tM0, tM1, tMake3, tMeth3, tNever3, tNext3, tNil3, tNo3, tNot3, tNotV3, tOp3, tOr3, tOrV3, tOwn3, tPairs3, tPar3, tPar33, tRep3, tRet3, tSFld3, tSeq3, tSet3, tSl3, tSm3, tSortK3, tSub3, tT, tTup3, tUn3, tV, tWk3, tYes3, three, two, nks, Option.map, List.getElem?_cons_zero, List.getElem?_cons_succ, List.set_cons_zero, List.set_cons_succ, if_true, if_false, Bool.false_eq_true, ite_true, ite_false, reduceIte, List.length_cons, List.length_nil, Nat.zero_add, Nat.reduceAdd, true_and, and_true])
/-! whether a way is safe, by the law's own look -/
def sp_l_is_safe : Sp3 := fun ds S R => ∃ (q b : Addr) (card s : List Nat) (path : List (List Nat)) (e : List Nat) (v : NK) (f : List Nat → NK), ds = [.ref q, .wy b (enc s :: path.map enc), .own b (enc s), .k v] ∧ S q = some (.dic none (tb card f)) ∧ Val card s ∧ card.length ≤ 10 ∧ (∀ l ∈ s, l < 10) ∧ path.length ≤ 1000 ∧ path.getLast? = some e ∧ f e = v ∧ Steps card s path ∧ (∀ t ∈ path, f t = f s ∨ f t = v) ∧ valueV v = true ∧ (∀ t, Val card t → labOk (f t)) ∧ ∀ S', Sub S S' → R (.bl true) S'
theorem Steps.val {card : List Nat} : ∀ {path : List (List Nat)} {s : List Nat}, Val card s → Steps card s path → ∀ t ∈ path, Val card t
  | [], _, _, _, t, h => by cases h
  | x :: path, s, hv, g, t, h => by
    have hx := g.1.val hv
    rcases List.mem_cons.mp h with rfl | h
    · exact hx
    · exact Steps.val hx g.2 t h
section
variable {q b : Addr} {card : List Nat} {v : NK} {f : List Nat → NK} {S0 : Sto}
theorem safe_loop {D3 : Ends3} {x1 x2 x3 x6 : Option D} (hq : S0 q = some (.dic none (tb card f))) (hc : card.length ≤ 100) : ∀ (path : List (List Nat)) (s : List Nat) (x4 x5 : Option D) (S : Sto), Val card s → Steps card s path → Sub S0 S →
    (∀ x4 x5 S', Sub S0 S' → D3.nx [some (.ref q), x1, x2, x3, x4, x5, x6] S') →
    for3 (gP 4 5) (r_l_is_safe_1 sp_l_steps) (fun _ => True) D3 (zipD ((s :: path).map enc) (path.map enc)) [some (.ref q), x1, x2, x3, x4, x5, x6] S
  | [], s, x4, x5, S, _, _, hS, hk => for3_nil.mpr ⟨trivial, hk x4 x5 S hS⟩
  | t :: path, s, x4, x5, S, hv, st, hS, hk => by
    rw [List.map_cons, List.map_cons, zipD_cons]
    refine for3_P.mpr ⟨trivial, ?_⟩
    obtain ⟨p, hp, ep⟩ := st.1
    refine ⟨rfl, q, none, card, s, f, rfl, hS _ _ hq, hv, hc, fun r S1 nr h1 hr => ?_⟩
    refine ⟨Nat.le_trans (enc_depth t) (by decide), .inl ⟨_, hr.trans (by rw [encs_k]), ?_⟩⟩
    have m : enc t ∈ ((rais card s).map (·.2)).map enc := List.mem_map.mpr ⟨t, List.mem_map.mpr ⟨p, hp, ep⟩, rfl⟩
    show if (!decide (enc t ∈ ((rais card s).map (·.2)).map enc)) = true then _ else _
    rw [if_neg (by rw [decide_eq_true m]; exact Bool.false_ne_true)]
    have := safe_loop (D3 := D3) (x1 := x1) (x2 := x2) (x3 := x3) (x6 := x6) hq hc path t (some (dS s)) (some (dS t)) S1 (st.1.val hv) st.2 (hS.trans h1) hk
    rw [List.map_cons] at this
    exact this
end
theorem rd_l_is_safe (ds : List D) (S : Sto) (R : VK3) (hl : ds.length = 4) (h : sp_l_is_safe ds S R) : r_l_is_safe sp_l_steps { nx := fun _ S' => R Dz S', rt := R } (start3 n_l_is_safe ds) S := by
  obtain ⟨q, b, card, s, path, e, v, f, rfl, hq, hv, hc, hs, hpl, he, hfe, st, hlb, ov, hf, h⟩ := h
  have pn : path ≠ [] := fun z => by rw [z] at he; cases he
  have p1 := List.length_pos_iff.mpr pn
  have dq : ∀ t, (enc t).depth ≤ 8 := fun t => Nat.le_trans (enc_depth t) (by decide)
  refine ⟨.inr (.inr (.inr rfl)), ?_⟩
  show if decide ((((enc s :: path.map enc).length : Nat) : Int) < 2) = true then _ else _
  rw [if_neg (by rw [decide_eq_true_eq, List.length_cons, List.length_map]; omega)]
  refine ⟨⟨by rw [List.length_map, hv.len]; exact hc, fun k hk => ?_⟩, rfl, ?_⟩
  · obtain ⟨l, hl, rfl⟩ := List.mem_map.mp hk
    exact ⟨l, hs l hl, rfl⟩
  have c1 : cut (enc s :: path.map enc) (some (1 : Int)) none = path.map enc := cut_from [enc s] (path.map enc)
  show for3 (gP 4 5) (r_l_is_safe_1 sp_l_steps) (fun _ => True) _ (zipD (enc s :: path.map enc) (cut (enc s :: path.map enc) (some (1 : Int)) none)) _ S
  rw [c1]
  refine safe_loop (S0 := S) (card := card) (f := f) hq (by omega) path s none none S hv st (Sub.refl S) fun x4 x5 S1 h1 => ?_
  have hq1 := h1 _ _ hq
  have allv : ∀ t ∈ s :: path, Val card t ∧ f t ∈ [f s, v] := fun t ht => by
    rcases List.mem_cons.mp ht with rfl | ht
    · exact ⟨hv, List.mem_cons_self ..⟩
    · refine ⟨Steps.val hv st t ht, ?_⟩
      rcases hlb t ht with z | z
      · rw [z]; exact List.mem_cons_self ..
      · rw [z]; exact List.mem_cons_of_mem _ (List.mem_cons_self ..)
  refine lc3_map (S0 := S1) (fun _ => none) _ _ _ (Sub.refl S1) (fun d hd S2 h2 K L' hK hL => ?_) (fun _ _ => trivial) (by rw [List.length_nil, List.length_map, List.length_cons, List.length_map]; omega) fun S2 h2 p hp => ?_
  · obtain ⟨k, hk, rfl⟩ := List.mem_map.mp hd
    obtain ⟨t, ht, rfl⟩ : ∃ t ∈ s :: path, enc t = k := List.mem_map.mp (by rw [List.map_cons]; exact hk)
    obtain ⟨vt, mt⟩ := allv t ht
    have dt : (f t).depth ≤ 8 := by
      rcases hf t vt with z | z
      · rw [z]; simp [NestedKey.depth]
      · exact Nat.le_trans (value_depth z) (by decide)
    refine .inr ⟨_, _, _, h2 _ _ hq1, dq t, tb_in vt, .inr ⟨_, _, _, h2 _ _ hq1, dq s, tb_in hv, (by decide : 2 ≤ 1000), dt, ?_⟩⟩
    show if (!decide (f t ∈ [f s, v])) = true then _ else _
    rw [if_neg (by rw [decide_eq_true mt]; exact Bool.false_ne_true)]
    exact hL S2 rfl (Sub.refl S2)
  · rw [List.nil_append, filterMap_non]
    refine ⟨(by decide : 0 ≤ 1000), fun p2 hp2 => ?_⟩
    refine ⟨[], [], (put_ne fun z => by rw [← z, put_same] at hp2; cases hp2).trans put_same, put_same, (fun k hk => by cases hk), (fun k hk => by cases hk), ?_⟩
    have h3 : Sub S (put (put S2 p (.lst [])) p2 (.lst [])) := (((h1.trans h2).add hp).add hp2)
    have ve : Val card e := Steps.val hv st e (List.mem_of_getLast? he)
    have al : atI (enc s :: path.map enc) (-1) = some (enc e) := by
      have : (s :: path).getLast? = some e := by
        cases path with
        | nil => exact (pn rfl).elim
        | cons a r => rw [List.getLast?_cons_cons]; exact he
      exact atI_lastmap enc this
    refine ⟨_, al, .inr ⟨_, _, _, h3 _ _ hq, dq e, tb_in ve, eqOk_of (lab_ok (hf e ve)) (value_ok ov), ?_⟩⟩
    rw [show f e = v from hfe]
    have fin := h _ h3
    show R (.bl (decide (v = v))) _
    rw [decide_eq_true (rfl : v = v)]
    exact fin
end L3
/-! ## S26 -/
namespace L3
open PySem PySem.Spec L2
open PyProof.Rows hiding St
set_option hygiene false in
local macro_rules | `(tactic| walk_at "rd3") => `(tactic| simp only [a1, a2, asB, asI, asK, asP, asR, asT, asOwn, cN, cP, gN, gP, iD3, iE3, iL3, iR3, iS3, iT3, iZ3, rAbs3, rAdd3, rAll3, rApp3, rDictP3, rDictZ3, rEq3, rExt3, rI03, rI3, rIn3, rInt3, rIs3, rIsi3, rIx3, rLen3, rList3, rListD3, rListZ3, rMaxL3, rMin23, rMinL3, rNeg3, rPop3, rPopAt3, rRepr3, rSet3, rSl3, rSum3, rTuple3, rTupleW3, rdS, tAnd3, tAndV3, tAsg3, tB3, tBack3, tBreak3, tCall3, tChain3, tCons3, tDict0, tDisp3, tDrop3, tFld3, tFor3, tFst3, tGet3, tIf3, tIfS3, tK, tLc3, tLk3, tLkE3, tLst3, tM0, tM1, tMake3, tMeth3, tNever3, tNext3, tNil3, tNo3, tNot3, tNotV3, tOp3, tOr3, tOrV3, tOwn3, tPairs3, tPar3, tPar33, tRep3, tRet3, tSFld3, tSeq3, tSet3, tSl3, tSm3, tSortK3, tSub3, tT, tTup3, tUn3, tV, tWk3, tYes3, three, two, nks, Option.map, List.getElem?_cons_zero, List.getElem?_cons_succ, List.set_cons_zero, List.set_cons_succ, if_true, if_false, Bool.false_eq_true, ite_true, ite_false, reduceIte, List.length_cons, List.length_nil, Nat.zero_add, Nat.reduceAdd, true_and, and_true])
/-! whether so many tries can be done -/
theorem Steps.few {card : List Nat} : ∀ {path : List (List Nat)} {s : List Nat}, Val card s → Steps card s path → path.length + s.sum ≤ card.sum
  | [], s, hv, _ => by have := val_sum hv; simpa using this
  | x :: path, s, hv, g => by
    have := Steps.few (g.1.val hv) g.2
    have := g.1.sum
    rw [List.length_cons]
    omega
structure PlayAt (p fa ca q k : Addr) (card : List Nat) (labs vs : List NK) (S : Sto) : Prop where
  s : Spl S p fa ca
  hq : S q = some (.dic none (tb card (lab card labs)))
  hk : S k = some (.dic none (tb card (rkT card vs (lab card labs))))
  qp : q ≠ p
  kp : k ≠ p
section
variable {p fa ca q k : Addr} {card : List Nat} {labs vs : List NK}
theorem PlayAt.dw {S S' : Sto} (h : PlayAt p fa ca q k card labs vs S) (d : Dw p fa ca S S') : PlayAt p fa ca q k card labs vs S' :=
  ⟨d.s, d.x _ _ h.qp (h.s.offD h.hq).1 h.hq, d.x _ _ h.kp (h.s.offD h.hk).1 h.hk, h.qp, h.kp⟩
theorem pick_lc {σ : Sd} {S : Sto} {Q : VK3} {te : TE3} {a : D} (h0 : σ[0]? = some (some a)) (h : te σ S fun y S1 => [a, y].length = 2 ∧ sp_l_pick [a, y] S1 Q) : (tCall3 2 sp_l_pick (tCons3 (tV 0) (tCons3 te tNil3))) σ S Q := by
  show rdS σ 0 _
  unfold rdS
  rw [h0]
  exact h
theorem play_turn {D3 : Ends3} {F B : Sd → Sto → Prop} {s : List Nat} {n : Nat} {x5 x6 x8 x9 x10 x11 i : Option D} {d : D} {S : Sto} (ok : CodeOk card labs) (hu : Uniq labs vs) (A : PlayAt p fa ca q k card labs vs S) (hv : Val card s) (ns : lab card labs s ≠ .none)
    (h0 : ∀ a, sfT card vs (lab card labs) s = 0 → B [some (.ref p), some (codeD card labs), some (.ref q), some (.ref k), some (.own a (enc s)), some d, x6, some (Dn n), x8, x9, x10, x11] S)
    (h1 : ∀ t y8 y9 y10 S', Val card t → lab card labs t ≠ .none → sfT card vs (lab card labs) s ≤ sfT card vs (lab card labs) t + 1 → Dw p fa ca S S' → F [some (.ref p), some (codeD card labs), some (.ref q), some (.ref k), some (dS t), some d, x6, some (Dn (n + 1 : Nat)), y8, y9, y10, x11] S') :
    r_l_is_played_1 sp_l_named sp_l_pick sp_safe_way sp_l_is_safe { D3 with nx := F, ct := F, bk := B } ([some (.ref p), some (codeD card labs), some (.ref q), some (.ref k), some (dS s), x5, x6, some (Dn n), x8, x9, x10, x11].set 5 (some d)) S := by
  have d1 : ∀ t, (enc t).depth ≤ 8 := fun t => Nat.le_trans (enc_depth t) (by decide)
  refine ⟨s.map nN, rfl, fun a => ?_⟩
  refine .inr ⟨_, _, _, A.hk, d1 s, tb_in hv, ?_⟩
  rw [rk_some ns]
  refine ⟨rfl, ?_⟩
  show if decide (nN (sfT card vs (lab card labs) s) = .num 0) = true then _ else _
  by_cases c0 : sfT card vs (lab card labs) s = 0
  · rw [if_pos (decide_eq_true (by rw [c0]; rfl))]
    exact h0 a c0
  rw [if_neg (by rw [decide_eq_true_eq]; intro z; exact c0 (nN_inj z))]
  show (tSeq3 (tSet3 8 (tCall3 2 sp_l_pick (tCons3 (tV 0) (tCons3 (tLc3 (iL3 (tCall3 1 sp_l_named (tCons3 (tV 2) tNil3))) (cN 11) (tT (tOp3 (rEq3 (!·)) (tV 11) (tOp3 rIx3 (tV 2) (tWk3 (tV 4))))) (tV 11)) tNil3)))) _) _ [some (.ref p), some (codeD card labs), some (.ref q), some (.ref k), some (.own a (enc s)), some d, x6, some (Dn n), x8, x9, x10, x11] S
  refine seqset ?_
  refine pick_lc rfl ?_
  refine other_step (q := q) (card := card) (labs := labs) (s := s) (i := 2) (j := 4) (n := 11) rfl (fun _ => rfl) (fun _ => .inr ⟨a, rfl⟩) (fun _ => rfl) (.inr rfl) (fun z => ?_) ok A.hq hv fun g ns' S1 ng e1 hg nd un => ⟨rfl, ?_⟩
  · have e := congrFun (congrFun (congrFun z [none, none, none, none, some (.own a (enc s))]) S) (fun d _ => d = .own a (enc s))
    have e2 : (tV 4) [none, none, none, none, some (.own a (enc s))] S (fun d _ => d = .own a (enc s)) := rfl
    rw [← e] at e2
    cases (show D.k (enc s) = .own a (enc s) from e2)
  have dw1 : Dw p fa ca S S1 := A.s.dw e1
  have A1 := A.dw dw1
  have o1 := A.s.off ng
  refine ⟨p, fa, ca, g, _, rfl, A1.s, o1.2.1, hg, ?_, ?_, fun x S2 hx d2 => ?_⟩
  · obtain ⟨v0, hv0⟩ := List.exists_mem_of_ne_nil _ (un.oth ok (lab card labs) s)
    obtain ⟨m1, m2⟩ := List.mem_filter.mp hv0
    have m3 : v0 ∈ ns'.filter (fun x => decide (x ≠ lab card labs s)) := List.mem_filter.mpr ⟨m1, m2⟩
    exact List.ne_nil_of_mem (List.mem_map_of_mem (f := D.k) m3)
  · have := un.len ok
    have := List.length_filter_le (fun x => decide (x ≠ lab card labs s)) ns'
    rw [List.length_map]
    omega
  obtain ⟨v, hv1, rfl⟩ := List.mem_map.mp hx
  obtain ⟨m1, m2⟩ := List.mem_filter.mp hv1
  have nv : v ≠ lab card labs s := of_decide_eq_true m2
  obtain ⟨m3, m4⟩ := (un.2 v).mp m1
  have mv : v ∈ vs := (hu.2 v).mpr ⟨m3, m4⟩
  have ov : valueV v = true := un.val ok v m1
  have dw2 := dw1.trans d2
  have A2 := A.dw dw2
  refine ⟨rfl, card, labs, a, s, v, rfl, ok, hv, m3, m4, ns, Ne.symm nv, fun us S3 hus e3 => ?_⟩
  rw [bsT_same (us := vs) (fun v => by rw [hus.2, hu.2])]
  obtain ⟨r, er, le⟩ := sf_pos (card := card) (L := lab card labs) c0 mv nv
  obtain ⟨path, e, p1, p2, p3, p4, p5⟩ := rest_ok (card.sum - s.sum + 1) s r hv (Nat.lt_succ_self _) ns (Ne.symm nv) er
  rw [p1]
  have dw3 := dw2.sub e3
  have A3 := A.dw dw3
  have sm := ok.sum
  have pl := Steps.few hv p4
  have cl := ok.cl
  refine ⟨rfl, ?_⟩
  refine ⟨rfl, q, a, card, s, path, e, v, lab card labs, rfl, A3.hq, hv, by omega, fun l hl => ?_, by omega, p2, p3, p4, fun t ht => (p5 t ht).2.1, ov, fun t _ => lab_ok_of ok.ok t, fun S4 e4 => ?_⟩
  · have := val_le4 hv ok.ts l hl
    omega
  have dw4 := dw3.sub e4
  have al : atI (enc s :: path.map enc) (-1) = some (enc e) := by
    have : (s :: path).getLast? = some e := by
      cases path with
      | nil => cases p2
      | cons a r => rw [List.getLast?_cons_cons]; exact p2
    exact atI_lastmap enc this
  refine fun g1 n1 => ?_
  refine ⟨_, al, (by decide : 1 ≤ 1000), fun g2 n2 => ?_⟩
  have n12 : g1 ≠ g2 := fun z => by rw [← z, put_same] at n2; cases n2
  refine ⟨_, _, (put_ne n12).trans put_same, put_same, by rw [List.length_map, List.length_cons, List.length_map]; simp; omega, fun g3 n3 => ?_⟩
  have dw5 := ((dw4.add (o := .lst (List.map D.k (enc s :: path.map enc))) n1).add (o := .lst [.k (enc e)]) n2)
  have o3 := dw5.gone n3
  have dw6 := dw5.add (o := .lst (List.map D.k (enc s :: path.map enc) ++ [.k (enc e)])) n3
  refine ⟨rfl, p, fa, ca, g3, _, rfl, dw6.s, o3.2.2.1, put_same, by simp, by simp; omega, fun x S5 hx d5 => ?_⟩
  have dw7 := dw6.trans d5
  have A7 := A.dw dw7
  obtain ⟨t, mt, rfl⟩ : ∃ t, t ∈ s :: path ∧ x = dS t := by
    rcases List.mem_append.mp hx with hx | hx
    · obtain ⟨y, hy, rfl⟩ := List.mem_map.mp hx
      obtain ⟨t, ht, rfl⟩ : ∃ t ∈ s :: path, enc t = y := List.mem_map.mp (by rw [List.map_cons]; exact hy)
      exact ⟨t, ht, rfl⟩
    · rw [List.mem_singleton] at hx
      exact ⟨e, List.mem_cons_of_mem _ (List.mem_of_getLast? p2), hx⟩
  obtain ⟨vt, lt, st⟩ : Val card t ∧ lab card labs t ≠ .none ∧ sfT card vs (lab card labs) s ≤ sfT card vs (lab card labs) t + 1 := by
    rcases List.mem_cons.mp mt with rfl | mt
    · exact ⟨hv, ns, by omega⟩
    · obtain ⟨a1, a2, a3⟩ := p5 t mt
      refine ⟨a1, ?_, by omega⟩
      rcases a2 with z | z
      · rw [z]; exact ns
      · rw [z]; exact m4
  refine .inr ⟨_, _, _, A7.hk, d1 t, tb_in vt, rfl, ?_⟩
  rw [rk_some lt]
  refine .inr ⟨_, _, _, A7.hk, d1 t, tb_in vt, ?_⟩
  rw [rk_some lt]
  refine .inr ⟨_, _, _, A7.hk, d1 s, tb_in hv, ?_⟩
  rw [rk_some ns]
  show if decide (((sfT card vs (lab card labs) t : Nat) : Int) < ((sfT card vs (lab card labs) s : Nat) : Int) - 1) = true then _ else _
  rw [if_neg (by rw [decide_eq_true_eq]; omega)]
  exact h1 t _ _ _ S5 vt lt st dw7
end
end L3
/-! ## S27 -/
namespace L3
open PySem PySem.Spec L2
open PyProof.Rows hiding St
set_option hygiene false in
local macro_rules | `(tactic| walk_at "rd3") => `(tactic| simp only [a1, a2, asB, asI, asK, asP, asR, asT, asOwn, cN, cP, gN, gP, iD3, iE3, iL3, iR3, iS3, iT3, iZ3, rAbs3, rAdd3, rAll3, rApp3, rDictP3, rDictZ3, rEq3, rExt3, rI03, rI3, rIn3, rInt3, rIs3, rIsi3, rIx3, rLen3, rList3, rListD3, rListZ3, rMaxL3, rMin23, rMinL3, rNeg3, rPop3, rPopAt3, rRepr3, rSet3, rSl3, rSum3, rTuple3, rTupleW3, rdS, tAnd3, tAndV3, tAsg3, tB3, tBack3, tBreak3, tCall3, tChain3, tCons3, tDict0, tDisp3, tDrop3, tFld3, tFor3, tFst3, tGet3, tIf3, tIfS3, tK, tLc3, tLk3, tLkE3, tLst3, tM0, tM1, tMake3, tMeth3, tNever3, tNext3, tNil3, tNo3, tNot3, tNotV3, tOp3, tOr3, tOrV3, tOwn3, tPairs3, tPar3, tPar33, tRep3, tRet3, tSFld3, tSeq3, tSet3, tSl3, tSm3, tSortK3, tSub3, tT, tTup3, tUn3, tV, tWk3, tYes3, three, two, nks, Option.map, List.getElem?_cons_zero, List.getElem?_cons_succ, List.set_cons_zero, List.set_cons_succ, if_true, if_false, Bool.false_eq_true, ite_true, ite_false, reduceIte, List.length_cons, List.length_nil, Nat.zero_add, Nat.reduceAdd, true_and, and_true])
/-! whether so many tries can be done, the whole; the spool -/
def sp_l_is_played : Sp3 := fun ds S R => ∃ (p fa ca q k : Addr) (card : List Nat) (labs vs : List NK) (s : List Nat), ds = [.ref p, codeD card labs, .ref q, .ref k, dS s] ∧ CodeOk card labs ∧ Uniq labs vs ∧ PlayAt p fa ca q k card labs vs S ∧ Val card s ∧ lab card labs s ≠ .none ∧ ∀ S', Dw p fa ca S S' → R (.bl true) S'
section
variable {p fa ca q k : Addr} {card : List Nat} {labs vs : List NK}
theorem play_loop {D3 : Ends3} {S0 : Sto} {x6 x11 : Option D} {due : Nat} (ok : CodeOk card labs) (hu : Uniq labs vs) : ∀ (items : List D) (s : List Nat) (n : Nat) (x5 x8 x9 x10 : Option D) (S : Sto), PlayAt p fa ca q k card labs vs S → Dw p fa ca S0 S → Val card s → lab card labs s ≠ .none → due ≤ sfT card vs (lab card labs) s + n →
    (∀ d4 s n x5 x8 x9 x10 S', (d4 = dS s ∨ ∃ a, d4 = .own a (enc s)) → PlayAt p fa ca q k card labs vs S' → Dw p fa ca S0 S' → Val card s → lab card labs s ≠ .none → due ≤ sfT card vs (lab card labs) s + n → D3.nx [some (.ref p), some (codeD card labs), some (.ref q), some (.ref k), some d4, x5, x6, some (Dn n), x8, x9, x10, x11] S') →
    for3 (gN 5) (r_l_is_played_1 sp_l_named sp_l_pick sp_safe_way sp_l_is_safe) (fun _ => True) D3 items [some (.ref p), some (codeD card labs), some (.ref q), some (.ref k), some (dS s), x5, x6, some (Dn n), x8, x9, x10, x11] S
  | [], s, n, x5, x8, x9, x10, S, A, d, hv, ns, hd, hk => for3_nil.mpr ⟨trivial, hk (dS s) s n x5 x8 x9 x10 S (.inl rfl) A d hv ns hd⟩
  | i :: items, s, n, x5, x8, x9, x10, S, A, d, hv, ns, hd, hk => by
    refine for3_N.mpr ⟨trivial, ?_⟩
    refine play_turn (x5 := x5) (i := none) ok hu A hv ns (fun a z => hk (.own a (enc s)) s n (some i) x8 x9 x10 S (.inr ⟨a, rfl⟩) A d hv ns hd) fun t y8 y9 y10 S1 vt lt st d1 => ?_
    exact play_loop ok hu items t (n + 1) _ _ _ _ S1 (A.dw d1) (d.trans d1) vt lt (by omega) hk
end
theorem rd_l_is_played (ds : List D) (S : Sto) (R : VK3) (hl : ds.length = 5) (h : sp_l_is_played ds S R) : r_l_is_played sp_l_named sp_l_pick sp_safe_way sp_l_is_safe { nx := fun _ S' => R Dz S', rt := R } (start3 n_l_is_played ds) S := by
  obtain ⟨p, fa, ca, q, k, card, labs, vs, s, rfl, ok, hu, A, hv, ns, h⟩ := h
  have d1 : ∀ t, (enc t).depth ≤ 8 := fun t => Nat.le_trans (enc_depth t) (by decide)
  refine .inr ⟨_, _, _, A.hk, d1 s, tb_in hv, ?_⟩
  rw [rk_some ns]
  refine ⟨by omega, by omega, ?_⟩
  show for3 (gN 5) _ (fun _ => True) _ _ [some (.ref p), some (codeD card labs), some (.ref q), some (.ref k), some (dS s), none, some (Dn (sfT card vs (lab card labs) s : Nat)), some (Dn (0 : Nat)), none, none, none, none] S
  refine play_loop (S0 := S) (due := sfT card vs (lab card labs) s) ok hu _ s 0 none none none none S A (Dw.refl A.s) hv ns (Nat.le_refl _) fun d4 t n x5 x8 x9 x10 S1 e4 A1 dw vt lt hd => ?_
  have fin := h S1 dw
  rcases e4 with rfl | ⟨a, rfl⟩
  all_goals
    refine .inr ⟨_, _, _, A1.hk, d1 t, tb_in vt, ?_⟩
    rw [rk_some lt]
    show if decide ((0 : Int) < ((sfT card vs (lab card labs) t : Nat) : Int)) = true then _ else _
    by_cases c : (0 : Int) < ((sfT card vs (lab card labs) t : Nat) : Int)
    · rw [if_pos (decide_eq_true c)]
      exact fin
    · rw [if_neg (by simpa using c)]
      show R (.bl (decide (((sfT card vs (lab card labs) s : Nat) : Int) ≤ (n : Nat)))) S1
      rw [decide_eq_true (by omega)]
      exact fin
def sp_l_spool : Sp3 := fun ds S R => ∃ ns : List Int, ds = [.sq ns] ∧ ns.length ≤ 63 ∧ ∀ p fa ca S', S p = none → Sub S S' → Spl S' p fa ca → R (.ref p) S'
def cellD : D → Option D
  | .k (.num i) => some (Dn (if 0 ≤ i then 2 * i else -2 * i - 1))
  | _ => none
def farD : D → Option D
  | .k (.num i) => if (10 : Int) ^ 18 ≤ i then some (Dn i) else none
  | _ => none
theorem map_cellD (is : List Int) : (is.map Dn).filterMap cellD = (is.map fun i => if 0 ≤ i then 2 * i else -2 * i - 1).map Dn := by
  rw [List.filterMap_map, List.map_map]
  exact filterMap_some (fun i : Int => Dn (if 0 ≤ i then 2 * i else -2 * i - 1)) is
theorem map_farD : ∀ is : List Int, ∃ js : List Int, (is.map Dn).filterMap farD = js.map Dn ∧ js.length ≤ is.length
  | [] => ⟨[], rfl, Nat.le_refl _⟩
  | i :: is => by
    obtain ⟨js, e, l⟩ := map_farD is
    rw [List.map_cons, List.filterMap_cons, e]
    by_cases c : (10 : Int) ^ 18 ≤ i
    · exact ⟨i :: js, by unfold farD; simp only [if_pos c]; rfl, by rw [List.length_cons, List.length_cons]; omega⟩
    · exact ⟨js, by unfold farD; simp only [if_neg c], by rw [List.length_cons]; omega⟩
theorem spk_dputs {f c s n : D} : dputs [] (spk f c s n) = spk f c s n := by
  rw [dputs_app _ _ (fun _ _ z => by cases z)]
  · rfl
  · show ([.text "far", .text "cells", .text "sum", .text "count"] : List NK).Nodup
    decide +kernel
theorem cut_le {α : Type} (xs : List α) (lo hi : Option Int) : (cut xs lo hi).length ≤ xs.length := by
  unfold cut
  rw [List.length_take, List.length_drop]
  omega
theorem rd_l_spool (ds : List D) (S : Sto) (R : VK3) (hl : ds.length = 1) (h : sp_l_spool ds S R) : r_l_spool { nx := fun _ S' => R Dz S', rt := R } (start3 n_l_spool ds) S := by
  obtain ⟨ns, rfl, hn, h⟩ := h
  intro a na
  obtain ⟨is, his⟩ := all_num (l := cut (ns.map Dn) none (some 63)) (fun d hd => by
    unfold cut at hd
    obtain ⟨i, _, e⟩ := List.mem_map.mp (List.mem_of_mem_drop (List.mem_of_mem_take hd))
    exact ⟨i, e.symm⟩)
  have li : is.length ≤ 63 := by
    have := congrArg List.length his
    have l2 := cut_le (ns.map Dn) none (some 63)
    rw [this, List.length_map, List.length_map] at l2
    omega
  have ha : put S a (.lst (cut (ns.map Dn) none (some 63))) a = some (.lst (is.map Dn)) := by rw [put_same, his]
  have hS : Sub S (put S a (.lst (cut (ns.map Dn) none (some 63)))) := (Sub.refl S).add na
  refine ⟨_, put_same, ?_⟩
  show lc3 _ _ _ _ _ (cut (ns.map Dn) none (some 63)) [] _
  rw [his]
  rw [his] at hS ha
  generalize put S a (.lst (is.map Dn)) = S1 at hS ha
  refine lc3_map (S0 := S1) cellD _ _ _ (Sub.refl S1) (fun d hd S2 h2 K L' hK hL => ?_) (fun S2 h2 => h2 _ _ ha) (by rw [List.length_nil, List.length_map]; omega) fun S2 h2 b nb => ?_
  · obtain ⟨i, hi, rfl⟩ := List.mem_map.mp hd
    show if decide ((0 : Int) ≤ i) = true then _ else _
    by_cases c : (0 : Int) ≤ i
    · rw [if_pos (decide_eq_true c)]
      refine ⟨CMul.ok (.inl ⟨by decide, by decide⟩), ?_⟩
      exact hK _ S2 (by unfold cellD; simp only [if_pos c]) (Sub.refl S2)
    · rw [if_neg (by simpa using c)]
      refine ⟨CMul.ok (.inl ⟨by decide, by decide⟩), ?_⟩
      exact hK _ S2 (by unfold cellD; simp only [if_neg c]) (Sub.refl S2)
  rw [List.nil_append, map_cellD]
  have lc : (is.map fun i => if 0 ≤ i then 2 * i else -2 * i - 1).length ≤ 63 := by rw [List.length_map]; exact li
  generalize (is.map fun i => if 0 ≤ i then 2 * i else -2 * i - 1) = cells at lc
  have h3 : Sub S (put S2 b (.lst (cells.map Dn))) := (hS.trans h2).add nb
  have hb : put S2 b (.lst (cells.map Dn)) b = some (.lst (cells.map Dn)) := put_same
  generalize put S2 b (.lst (cells.map Dn)) = S3 at h3 hb
  refine ⟨_, hb, ?_⟩
  refine lc3_map (S0 := S3) farD _ _ _ (Sub.refl S3) (fun d hd S4 h4 K L' hK hL => ?_) (fun S4 h4 => h4 _ _ hb) (by rw [List.length_nil, List.length_map]; omega) fun S4 h4 f nf => ?_
  · obtain ⟨i, hi, rfl⟩ := List.mem_map.mp hd
    refine ⟨⟨by decide, by decide, by decide⟩, ?_⟩
    show if decide ((10 : Int) ^ 18 ≤ i) = true then _ else _
    by_cases c : (10 : Int) ^ 18 ≤ i
    · rw [if_pos (decide_eq_true c)]
      exact hK _ S4 (if_pos c) (Sub.refl S4)
    · rw [if_neg (by simpa using c)]
      exact hL S4 (if_neg c) (Sub.refl S4)
  obtain ⟨far, ef, lf⟩ := map_farD cells
  rw [List.nil_append, ef]
  have h5 : Sub S3 (put S4 f (.lst (far.map Dn))) := h4.add nf
  have hf : put S4 f (.lst (far.map Dn)) f = some (.lst (far.map Dn)) := put_same
  generalize put S4 f (.lst (far.map Dn)) = S5 at h5 hf
  have hb5 := h5 _ _ hb
  refine .inl ⟨_, hb5, (by decide : 1 ≤ 1000), fun g ng => ?_⟩
  have h6 : Sub S5 (put S5 g (.lst [Dn (((cells.map Dn).length : Nat) + 6151)])) := (Sub.refl S5).add ng
  refine ⟨_, _, h6 _ _ hb5, put_same, by rw [List.length_map]; simp; omega, fun c nc => ?_⟩
  have e7 : cells.map Dn ++ [Dn (((cells.map Dn).length : Nat) + 6151)] = (cells ++ [(((cells.map Dn).length : Nat) : Int) + 6151]).map Dn := by rw [List.map_append]; rfl
  rw [e7]
  generalize hS6 : put S5 g (.lst [Dn (((cells.map Dn).length : Nat) + 6151)]) = S6 at h6 nc
  have h7 : Sub S6 (put S6 c (.lst ((cells ++ [(((cells.map Dn).length : Nat) : Int) + 6151]).map Dn))) := (Sub.refl S6).add nc
  have hc7 : put S6 c (.lst ((cells ++ [(((cells.map Dn).length : Nat) : Int) + 6151]).map Dn)) c = some (.lst ((cells ++ [(((cells.map Dn).length : Nat) : Int) + 6151]).map Dn)) := put_same
  have lcc : 0 < (cells ++ [(((cells.map Dn).length : Nat) : Int) + 6151]).length ∧ (cells ++ [(((cells.map Dn).length : Nat) : Int) + 6151]).length ≤ 1000 := by rw [List.length_append, List.length_singleton]; omega
  generalize (cells ++ [(((cells.map Dn).length : Nat) : Int) + 6151]) = cells2 at h7 hc7 lcc
  have cf : c ≠ f := fun z => by rw [z, h6 _ _ hf] at nc; cases nc
  generalize put S6 c (.lst (cells2.map Dn)) = S7 at h7 hc7
  refine ⟨cells, h7 _ _ (h6 _ _ hb5), ?_⟩
  refine ⟨by decide, by decide, by decide, by decide, (by decide : 4 ≤ 15), fun p np => ?_⟩
  show R (.ref p) (put S7 p (.dic none (dputs [] (spk (.ref f) (.ref c) (Dn cells.sum) (Dn 0)))))
  rw [spk_dputs]
  have h8 : Sub S S7 := h3.trans (h5.trans (h6.trans h7))
  have h9 : Sub S7 (put S7 p (.dic none (spk (.ref f) (.ref c) (Dn cells.sum) (Dn 0)))) := (Sub.refl S7).add np
  exact h p f c _ (h8.gone np) (h8.trans h9) ⟨far, cells2, cells.sum, 0, put_same, h9 _ _ (h7 _ _ (h6 _ _ hf)), h9 _ _ hc7, lcc.1, lcc.2, by omega, cf⟩
end L3
/-! ## S28 -/
namespace L3
open PySem PySem.Spec L2
open PyProof.Rows hiding St
set_option hygiene false in
local macro_rules | `(tactic| walk_at "rd3") => `(tactic| simp only [a1, a2, asB, asI, asK, asP, asR, asT, asOwn, cN, cP, gN, gP, iD3, iE3, iL3, iR3, iS3, iT3, iZ3, rAbs3, rAdd3, rAll3, rApp3, rDictP3, rDictZ3, rEq3, rExt3, rI03, rI3, rIn3, rInt3, rIs3, rIsi3, rIx3, rLen3, rList3, rListD3, rListZ3, rMaxL3, rMin23, rMinL3, rNeg3, rPop3, rPopAt3, rRepr3, rSet3, rSl3, rSum3, rTuple3, rTupleW3, rdS, tAnd3, tAndV3, tAsg3, tB3, tBack3, tBreak3, tCall3, tChain3, tCons3, tDict0, tDisp3, tDrop3, tFld3, tFor3, tFst3, tGet3, tIf3, tIfS3, tK, tLc3, tLk3, tLkE3, tLst3, tM0, tM1, tMake3, tMeth3, tNever3, tNext3, tNil3, tNo3, tNot3, tNotV3, tOp3, tOr3, tOrV3, tOwn3, tPairs3, tPar3, tPar33, tRep3, tRet3, tSFld3, tSeq3, tSet3, tSl3, tSm3, tSortK3, tSub3, tT, tTup3, tUn3, tV, tWk3, tYes3, three, two, nks, Option.map, List.getElem?_cons_zero, List.getElem?_cons_succ, List.set_cons_zero, List.set_cons_succ, if_true, if_false, Bool.false_eq_true, ite_true, ite_false, reduceIte, List.length_cons, List.length_nil, Nat.zero_add, Nat.reduceAdd, true_and, and_true])
/-! the law itself -/
def lw11 : TS3 := (tFor3 (iL3 (tLst3 (tCons3 (tOp3 rIx3 (tV 6) (tK (Dn 0))) (tCons3 (tCall3 2 sp_l_pick (tCons3 (tV 1) (tCons3 (tOp3 rAdd3 (tV 9) (tV 6)) tNil3))) tNil3)))) (gN 10) (r_law_3 sp_l_spool sp_l_draw sp_l_pick sp_l_card sp_l_code sp_l_table sp_safe_strengths sp_l_mixed sp_l_is_shown sp_l_is_played))
def lw10 : TS3 := tSeq3 (tSet3 9 (tLc3 (iL3 (tV 6)) (cN 7) (tT (tOp3 (rEq3 id) (tOp3 rIx3 (tV 5) (tV 7)) (tV 8))) (tV 7))) lw11
def lw9 : TS3 := tSeq3 (tSet3 8 (tB3 rMaxL3 (tCons3 (tLc3 (iL3 (tV 6)) (cN 7) tYes3 (tOp3 rIx3 (tV 5) (tV 7))) tNil3))) lw10
def lw8 : TS3 := tSeq3 (tIfS3 (tT (tOp3 (rEq3 (!·)) (tLc3 (iL3 (tSl3 (tCall3 2 sp_l_mixed (tCons3 (tV 1) (tCons3 (tV 6) tNil3))) tNo3 (tSm3 (tK (Dn 14))))) (cN 7) (tNot3 (tT (tCall3 3 sp_l_is_shown (tCons3 (tV 11) (tCons3 (tV 5) (tCons3 (tV 7) tNil3)))))) (tV 7)) (tLst3 tNil3))) (tRet3 (tK (.bl false))) tNext3) lw9
def lw7 : TS3 := tSeq3 (tLk3 (tFor3 (iD3 (tV 11)) (gN 7) (r_law_2 sp_l_spool sp_l_draw sp_l_pick sp_l_card sp_l_code sp_l_table sp_safe_strengths sp_l_mixed sp_l_is_shown sp_l_is_played))) lw8
def lw6 : TS3 := tSeq3 (tLk3 (tSet3 6 (tLc3 (iD3 (tV 11)) (cN 7) (tT (tOp3 (rIs3 (!·)) (tOp3 rIx3 (tV 11) (tV 7)) (tK Dz))) (tV 7)))) lw7
def lw5 : TS3 := tSeq3 (tSet3 5 (tB3 rDictP3 (tCons3 (tB3 rListZ3 (tCons3 (tB3 rListD3 (tCons3 (tV 11) tNil3)) (tCons3 (tV 12) tNil3))) tNil3))) lw6
def lw4 : TS3 := tSeq3 (tIfS3 (tOr3 (tNot3 (tT (tB3 rIsi3 (tCons3 (tV 12) (tCons3 (tK (.ty "tuple")) tNil3))))) (tT (tOp3 (rEq3 (!·)) (tB3 rLen3 (tCons3 (tV 12) tNil3)) (tB3 rLen3 (tCons3 (tV 11) tNil3))))) (tRet3 (tK (.bl false))) tNext3) lw5
def lw3 : TS3 := tSeq3 (tPar3 11 12 (tCons3 (tCall3 1 sp_l_table (tCons3 (tV 4) tNil3)) (tCons3 (tCall3 1 sp_safe_strengths (tCons3 (tV 4) tNil3)) tNil3))) lw4
def lw2 : TS3 := tSeq3 (tSet3 4 (tCall3 3 sp_l_code (tCons3 (tV 1) (tCons3 (tCall3 2 sp_l_card (tCons3 (tV 1) (tCons3 (tOp3 rIx3 (tLst3 (tCons3 (tCall3 2 sp_l_pick (tCons3 (tV 1) (tCons3 (tLst3 (tCons3 (tK (Dn 12)) (tCons3 (tK (Dn 12)) (tCons3 (tK (Dn 27)) tNil3)))) tNil3))) (tCons3 (tK (Dn 12)) tNil3))) (tV 2)) tNil3))) (tCons3 (tV 3) tNil3))))) lw3
theorem lw1 : r_law_1 sp_l_spool sp_l_draw sp_l_pick sp_l_card sp_l_code sp_l_table sp_safe_strengths sp_l_mixed sp_l_is_shown sp_l_is_played = tSeq3 (tSet3 3 (tIf3 (tT (tOp3 (rEq3 id) (tV 2) (tK (Dn 0)))) (tK (Dn 2)) (tOp3 rAdd3 (tK (Dn 2)) (tCall3 2 sp_l_draw (tCons3 (tV 1) (tCons3 (tK (Dn 3)) tNil3)))))) lw2 := rfl
def spots (card : List Nat) (labs : List NK) : List (List Nat) := (sts card).filter fun s => decide (lab card labs s ≠ .none)
theorem mem_spots {card : List Nat} {labs : List NK} {s : List Nat} (h : s ∈ spots card labs) : Val card s ∧ lab card labs s ≠ .none := by
  obtain ⟨a, b⟩ := List.mem_filter.mp h
  exact ⟨mem_sts.mp a, of_decide_eq_true b⟩
theorem spots_len {card : List Nat} {labs : List NK} (ok : CodeOk card labs) : (spots card labs).length ≤ 27 := by
  have := List.length_filter_le (fun s => decide (lab card labs s ≠ .none)) (sts card)
  rw [sts_len] at this
  exact Nat.le_trans this ok.sz
theorem spots_ne {card : List Nat} {labs : List NK} (ok : CodeOk card labs) : ∃ s r, spots card labs = s :: r := by
  obtain ⟨v0, h0, n0, _⟩ := ok.two
  have l : 0 < (sts card).length := by rw [sts_len]; exact size_pos card
  have e := List.getElem?_eq_getElem l
  obtain ⟨v, pl⟩ := sts_inv e
  have la := labs_at v ok.len
  rw [pl, h0] at la
  have m : (sts card)[0] ∈ spots card labs := List.mem_filter.mpr ⟨List.getElem_mem l, decide_eq_true (fun z => n0 ((Option.some.inj la).trans z))⟩
  cases h : spots card labs with
  | nil => rw [h] at m; cases m
  | cons s r => exact ⟨s, r, rfl⟩
theorem filterMap_encs {f : D → Option D} {P : List Nat → Bool} : ∀ {l : List (List Nat)}, (∀ s ∈ l, f (dS s) = if P s = true then some (dS s) else none) → (encs l).filterMap f = encs (l.filter P)
  | [], _ => rfl
  | s :: l, h => by
    have ih := filterMap_encs (f := f) (P := P) (l := l) fun s hs => h s (List.mem_cons_of_mem _ hs)
    unfold encs at ih ⊢
    rw [List.map_cons, List.filterMap_cons, h s (List.mem_cons_self ..), ih, List.filter_cons]
    by_cases c : P s = true
    · simp only [c, if_true]
      rfl
    · simp only [if_neg c]
structure LawAt (p fa ca q k sa : Addr) (card : List Nat) (labs vs : List NK) (S : Sto) : Prop where
  a : PlayAt p fa ca q k card labs vs S
  sp : S sa = some (.lst (encs (spots card labs)))
  sn : sa ≠ fa
section
variable {p fa ca q k sa : Addr} {card : List Nat} {labs vs : List NK} {D3 : Ends3} {x0 x2 x3 x7 x8 x9 x10 x12 x13 : Option D} {S : Sto}
theorem LawAt.dw {S' : Sto} (h : LawAt p fa ca q k sa card labs vs S) (d : Dw p fa ca S S') : LawAt p fa ca q k sa card labs vs S' :=
  ⟨h.a.dw d, d.x _ _ (h.a.s.offL h.sp) h.sn h.sp, h.sn⟩
theorem atI_0 {x : D} {r : List D} : atI (x :: r) 0 = some x := atI_nat (x :: r) 0
theorem rd_lw11 {sg : Addr} {strong : List (List Nat)} (ok : CodeOk card labs) (hu : Uniq labs vs) (A : LawAt p fa ca q k sa card labs vs S) (hg : S sg = some (.lst (encs strong))) (hs : ∀ s ∈ strong, s ∈ spots card labs) (hl : strong.length ≤ 100)
    (h : ∀ y10 S', Dw p fa ca S S' → D3.nx [x0, some (.ref p), x2, x3, some (codeD card labs), some (.ref k), some (.ref sa), x7, x8, some (.ref sg), y10, some (.ref q), x12, x13] S') :
    lw11 D3 [x0, some (.ref p), x2, x3, some (codeD card labs), some (.ref k), some (.ref sa), x7, x8, some (.ref sg), x10, some (.ref q), x12, x13] S := by
  obtain ⟨s0, r, e0⟩ := spots_ne ok
  have len := spots_len ok
  have m0 : s0 ∈ spots card labs := by rw [e0]; exact List.mem_cons_self ..
  refine .inl ⟨_, _, dS s0, A.sp, rfl, by rw [e0]; exact atI_0, ?_⟩
  refine ⟨_, _, hg, A.sp, by unfold encs; rw [List.length_map, List.length_map]; omega, fun g ng => ?_⟩
  have d1 := A.a.s.dw ((Sub.refl S).add (o := .lst (encs strong ++ encs (spots card labs))) ng)
  have o1 := A.a.s.off ng
  refine ⟨rfl, p, fa, ca, g, _, rfl, d1.s, o1.2.1, put_same, ?_, ?_, fun x S1 hx d2 => ?_⟩
  · rw [e0]; unfold encs; simp
  · unfold encs; rw [List.length_append, List.length_map, List.length_map]; omega
  obtain ⟨s1, m1, rfl⟩ : ∃ s ∈ spots card labs, dS s = x := by
    rcases List.mem_append.mp hx with hx | hx
    · obtain ⟨s, a, b⟩ := List.mem_map.mp hx
      exact ⟨s, hs s a, b⟩
    · exact List.mem_map.mp hx
  have d3 := d1.trans d2
  refine ⟨(by decide : 2 ≤ 1000), fun g2 n2 => ?_⟩
  have d4 := d3.add (o := .lst [dS s0, dS s1]) n2
  have o2 := d3.gone n2
  refine ⟨_, put_same, ?_⟩
  have A4 := A.dw d4
  refine for3_N.mpr ⟨put_same, ?_⟩
  refine ⟨rfl, p, fa, ca, q, k, card, labs, vs, s0, rfl, ok, hu, A4.a, (mem_spots m0).1, (mem_spots m0).2, fun S5 d5 => ?_⟩
  have e5 : S5 g2 = some (.lst [dS s0, dS s1]) := d5.x _ _ o2.2.1 o2.2.2.1 put_same
  have A5 := A4.dw d5
  show for3 (gN 10) (r_law_3 sp_l_spool sp_l_draw sp_l_pick sp_l_card sp_l_code sp_l_table sp_safe_strengths sp_l_mixed sp_l_is_shown sp_l_is_played) (fun S => S g2 = some (.lst [dS s0, dS s1])) D3 [dS s1] [x0, some (.ref p), x2, x3, some (codeD card labs), some (.ref k), some (.ref sa), x7, x8, some (.ref sg), some (dS s0), some (.ref q), x12, x13] S5
  refine for3_N.mpr ⟨e5, ?_⟩
  refine ⟨rfl, p, fa, ca, q, k, card, labs, vs, s1, rfl, ok, hu, A5.a, (mem_spots m1).1, (mem_spots m1).2, fun S6 d6 => ?_⟩
  exact ⟨d6.x _ _ o2.2.1 o2.2.2.1 e5, h _ S6 (d4.trans (d5.trans d6))⟩
def strongD (tbl : List (NK × D)) (b : Int) : D → Option D
  | .k x => match dlook tbl x with
    | some (.k y) => if y = .num b then some (.k x) else none
    | _ => none
  | _ => none
theorem rd_lw10 {b : Int} (ok : CodeOk card labs) (hu : Uniq labs vs) (A : LawAt p fa ca q k sa card labs vs S)
    (h : ∀ y9 y10 S', Dw p fa ca S S' → D3.nx [x0, some (.ref p), x2, x3, some (codeD card labs), some (.ref k), some (.ref sa), x7, some (Dn b), y9, y10, some (.ref q), x12, x13] S') :
    lw10 D3 [x0, some (.ref p), x2, x3, some (codeD card labs), some (.ref k), some (.ref sa), x7, some (Dn b), x9, x10, some (.ref q), x12, x13] S := by
  have len := spots_len ok
  refine seqset ?_
  refine ⟨_, A.sp, ?_⟩
  refine lc3_map (S0 := S) (strongD (tb card (rkT card vs (lab card labs))) b) _ _ _ (Sub.refl S) (fun d hd S1 h1 K L' hK hL => ?_) (fun S1 h1 => h1 _ _ A.sp) (by unfold encs; rw [List.length_nil, List.length_map]; omega) fun S1 h1 g ng => ?_
  · obtain ⟨s, hs, rfl⟩ := List.mem_map.mp hd
    obtain ⟨vs', ns⟩ := mem_spots hs
    have ef : strongD (tb card (rkT card vs (lab card labs))) b (dS s) = if rkT card vs (lab card labs) s = .num b then some (dS s) else none := by
      unfold strongD
      simp only [tb_in vs']
    refine .inr ⟨_, _, _, h1 _ _ A.a.hk, Nat.le_trans (enc_depth s) (by decide), tb_in vs', ?_⟩
    rw [rk_some ns] at ef ⊢
    refine ⟨rfl, ?_⟩
    show if decide (nN (sfT card vs (lab card labs) s) = .num b) = true then _ else _
    by_cases c : nN (sfT card vs (lab card labs) s) = .num b
    · rw [if_pos (decide_eq_true c)]
      exact hK _ S1 (ef.trans (if_pos c)) (Sub.refl S1)
    · rw [if_neg (by simpa using c)]
      exact hL S1 (ef.trans (if_neg c)) (Sub.refl S1)
  · have ee : (encs (spots card labs)).filterMap (strongD (tb card (rkT card vs (lab card labs))) b) = encs ((spots card labs).filter fun s => decide (rkT card vs (lab card labs) s = .num b)) := filterMap_encs fun s hs => by
      unfold strongD
      simp only [tb_in (mem_spots hs).1, decide_eq_true_eq]
    rw [List.nil_append, ee]
    have d := A.a.s.dw (h1.add (o := .lst (encs ((spots card labs).filter fun s => decide (rkT card vs (lab card labs) s = .num b)))) ng)
    exact rd_lw11 (strong := (spots card labs).filter fun s => decide (rkT card vs (lab card labs) s = .num b)) ok hu (A.dw d) put_same (fun s hs => (List.mem_filter.mp hs).1) (by have := List.length_filter_le (fun s => decide (rkT card vs (lab card labs) s = .num b)) (spots card labs); omega) fun y10 S' d' => h _ _ S' (d.trans d')
def rankD (tbl : List (NK × D)) : D → Option D
  | .k x => dlook tbl x
  | _ => none
theorem rd_lw9 (ok : CodeOk card labs) (hu : Uniq labs vs) (A : LawAt p fa ca q k sa card labs vs S)
    (h : ∀ y8 y9 y10 S', Dw p fa ca S S' → D3.nx [x0, some (.ref p), x2, x3, some (codeD card labs), some (.ref k), some (.ref sa), x7, y8, y9, y10, some (.ref q), x12, x13] S') :
    lw9 D3 [x0, some (.ref p), x2, x3, some (codeD card labs), some (.ref k), some (.ref sa), x7, x8, x9, x10, some (.ref q), x12, x13] S := by
  have len := spots_len ok
  obtain ⟨s0, r, e0⟩ := spots_ne ok
  refine seqset ?_
  refine ⟨_, A.sp, ?_⟩
  refine lc3_map (S0 := S) (rankD (tb card (rkT card vs (lab card labs)))) _ _ _ (Sub.refl S) (fun d hd S1 h1 K L' hK hL => ?_) (fun S1 h1 => h1 _ _ A.sp) (by unfold encs; rw [List.length_nil, List.length_map]; omega) fun S1 h1 g ng => ?_
  · obtain ⟨s, hs, rfl⟩ := List.mem_map.mp hd
    obtain ⟨vs', ns⟩ := mem_spots hs
    exact .inr ⟨_, _, _, h1 _ _ A.a.hk, Nat.le_trans (enc_depth s) (by decide), tb_in vs', hK _ S1 (tb_in vs') (Sub.refl S1)⟩
  · have ee : ∀ l : List (List Nat), (∀ s ∈ l, s ∈ spots card labs) → (encs l).filterMap (rankD (tb card (rkT card vs (lab card labs)))) = (l.map fun s => ((sfT card vs (lab card labs) s : Nat) : Int)).map Dn := fun l => by
      induction l with
      | nil => exact fun _ => rfl
      | cons s l ih =>
        intro hl
        obtain ⟨a, b⟩ := mem_spots (hl s (List.mem_cons_self ..))
        have e : rankD (tb card (rkT card vs (lab card labs))) (dS s) = some (Dn ((sfT card vs (lab card labs) s : Nat) : Int)) := by
          refine (tb_in a).trans ?_
          rw [rk_some b]
        have ih' := ih fun s hs => hl s (List.mem_cons_of_mem _ hs)
        unfold encs at ih' ⊢
        rw [List.map_cons, List.filterMap_cons, e, ih']
        rfl
    rw [List.nil_append, ee _ fun _ h => h]
    have d := A.a.s.dw (h1.add (o := .lst (((spots card labs).map fun s => ((sfT card vs (lab card labs) s : Nat) : Int)).map Dn)) ng)
    refine ⟨_, put_same, by rw [e0]; simp, fun m _ _ => ?_⟩
    exact rd_lw10 ok hu (A.dw d) fun y9 y10 S' d' => h _ _ _ S' (d.trans d')
theorem rd_lw8 (ok : CodeOk card labs) (hu : Uniq labs vs) (hqk : q ≠ k) (A : LawAt p fa ca q k sa card labs vs S)
    (h : ∀ y8 y9 y10 S', Dw p fa ca S S' → D3.nx [x0, some (.ref p), x2, x3, some (codeD card labs), some (.ref k), some (.ref sa), x7, y8, y9, y10, some (.ref q), x12, x13] S') :
    lw8 D3 [x0, some (.ref p), x2, x3, some (codeD card labs), some (.ref k), some (.ref sa), x7, x8, x9, x10, some (.ref q), x12, x13] S := by
  have len := spots_len ok
  refine ⟨rfl, p, fa, ca, sa, _, rfl, A.a.s, A.sp, by unfold encs; rw [List.length_map]; omega, fun g ys S1 ng hg pm d1 => ?_⟩
  refine ⟨_, hg, fun g2 n2 => ?_⟩
  have d2 := d1.add (o := .lst (cut ys none (some 14))) n2
  have A2 := A.dw d2
  have yl := pm.length_eq
  have cl := cut_le ys none (some 14)
  have e2 : put S1 g2 (.lst (cut ys none (some 14))) g2 = some (.lst (cut ys none (some 14))) := put_same
  have ml : ∀ d ∈ cut ys none (some 14), ∃ s ∈ spots card labs, dS s = d := fun d hd => by
    unfold cut at hd
    exact List.mem_map.mp (pm.mem_iff.mp (List.mem_of_mem_drop (List.mem_of_mem_take hd)))
  refine ⟨_, put_same, ?_⟩
  show lc3 _ _ _ _ _ (cut ys none (some 14)) [] (put S1 g2 (.lst (cut ys none (some 14))))
  generalize cut ys none (some 14) = zs at d2 A2 cl e2 ml
  generalize put S1 g2 (.lst zs) = S2 at d2 A2 e2
  refine lc3_map (S0 := S2) (fun _ => none) _ _ _ (Sub.refl S2) (fun d hd S3 h3 K L' hK hL => ?_) (fun S3 h3 => h3 _ _ e2) (by unfold encs at yl; rw [List.length_map] at yl; rw [List.length_nil]; omega) fun S3 h3 g3 n3 => ?_
  · obtain ⟨s, hs, rfl⟩ := ml d hd
    obtain ⟨vv, ns⟩ := mem_spots hs
    refine ⟨rfl, q, k, card, labs, vs, s, rfl, hqk, h3 _ _ A2.a.hq, h3 _ _ A2.a.hk, ok, hu, vv, ns, fun S4 h4 => ?_⟩
    exact hL S4 rfl h4
  · rw [List.nil_append, filterMap_non]
    refine ⟨(by decide : 0 ≤ 1000), fun g4 n4 => ?_⟩
    refine ⟨[], [], (put_ne fun z => by rw [← z, put_same] at n4; cases n4).trans put_same, put_same, (fun k hk => by cases hk), (fun k hk => by cases hk), ?_⟩
    have d := d2.sub ((h3.add n3).add (o := .lst []) n4)
    exact rd_lw9 ok hu (A.dw d) fun y8 y9 y10 S' d' => h _ _ _ S' (d.trans d')
theorem law2_loop {F3 : Ends3} {l : Obj × List Row} {y0 y1 y2 y3 y4 y6 y8 y9 y10 y12 : Option D} (ho : ∀ t, othersV (lab card labs) vs t ≠ []) (h16 : card.sum ≤ 16) (hq : S q = some (.dic (some l) (tb card (lab card labs)))) (hk : S k = some (.dic none (tb card (rkT card vs (lab card labs))))) : ∀ (rest : List (List Nat)) (x7 x13 : Option D), (∀ s ∈ rest, Val card s) →
    (∀ x7 x13, F3.nx [y0, y1, y2, y3, y4, some (.ref k), y6, x7, y8, y9, y10, some (.ref q), y12, x13] S) →
    for3 (gN 7) (r_law_2 sp_l_spool sp_l_draw sp_l_pick sp_l_card sp_l_code sp_l_table sp_safe_strengths sp_l_mixed sp_l_is_shown sp_l_is_played) (fun S => S q = some (.dic (some l) (tb card (lab card labs)))) F3 (encs rest) [y0, y1, y2, y3, y4, some (.ref k), y6, x7, y8, y9, y10, some (.ref q), y12, x13] S
  | [], x7, x13, _, hn => for3_nil.mpr ⟨hq, hn x7 x13⟩
  | s :: rest, x7, x13, hv, hn => by
    have vv := hv s (List.mem_cons_self ..)
    have d1 : (enc s).depth ≤ 8 := Nat.le_trans (enc_depth s) (by decide)
    have ih : ∀ x13, for3 (gN 7) (r_law_2 sp_l_spool sp_l_draw sp_l_pick sp_l_card sp_l_code sp_l_table sp_safe_strengths sp_l_mixed sp_l_is_shown sp_l_is_played) (fun S => S q = some (.dic (some l) (tb card (lab card labs)))) F3 (encs rest) [y0, y1, y2, y3, y4, some (.ref k), y6, some (dS s), y8, y9, y10, some (.ref q), y12, x13] S := fun x13 => law2_loop ho h16 hq hk rest (some (dS s)) x13 (fun s hs => hv s (List.mem_cons_of_mem _ hs)) hn
    show for3 (gN 7) _ _ F3 (dS s :: encs rest) _ S
    refine for3_N.mpr ⟨hq, ?_⟩
    refine .inr ⟨_, _, _, hk, d1, tb_in vv, ?_⟩
    by_cases c : lab card labs s = .none
    · have e : rkT card vs (lab card labs) s = .none := if_pos c
      rw [e]
      refine ⟨rfl, .inr ⟨_, _, _, hq, d1, tb_in vv, rfl, ?_⟩⟩
      rw [c]
      refine ⟨rfl, ?_⟩
      exact ih _
    · rw [rk_some c]
      have b1 := sf_bound (vs := vs) (L := lab card labs) (card.sum - s.sum + 1) s ho vv (Nat.lt_succ_self _)
      have b2 : (((sfT card vs (lab card labs) s : Nat) : Int)).natAbs.log2 < 1920 := by
        rw [Int.natAbs_natCast]
        have := Nat.log2_le_self (sfT card vs (lab card labs) s)
        omega
      refine ⟨rfl, .inr ⟨_, _, _, hq, d1, tb_in vv, rfl, ?_⟩⟩
      show if (!decide (false = isN (D.k (lab card labs s)))) = true then _ else _
      rw [isN_k, decide_eq_false c]
      refine ⟨rfl, b2, ?_⟩
      have e : (if (((sfT card vs (lab card labs) s : Nat) : Int)) < 0 then -((sfT card vs (lab card labs) s : Nat) : Int) else ((sfT card vs (lab card labs) s : Nat) : Int)) = ((sfT card vs (lab card labs) s : Nat) : Int) := if_neg (by omega)
      show (if (((sfT card vs (lab card labs) s : Nat) : Int)) < 0 then -((sfT card vs (lab card labs) s : Nat) : Int) else ((sfT card vs (lab card labs) s : Nat) : Int)).natAbs.log2 < 1920 ∧ rEq3 (!·) _ (.k (.text (toString (if (((sfT card vs (lab card labs) s : Nat) : Int)) < 0 then -((sfT card vs (lab card labs) s : Nat) : Int) else ((sfT card vs (lab card labs) s : Nat) : Int))))) S _
      rw [e]
      refine ⟨b2, rfl, ?_⟩
      rw [decide_eq_true (rfl : (NestedKey.text (toString ((sfT card vs (lab card labs) s : Nat) : Int) : String)) = .text (toString ((sfT card vs (lab card labs) s : Nat) : Int) : String))]
      exact ih _
end
end L3
/-! ## S29 -/
namespace L3
open PySem PySem.Spec L2
open PyProof.Rows hiding St
set_option hygiene false in
local macro_rules | `(tactic| walk_at "rd3") => `(tactic| simp only [a1, a2, asB, asI, asK, asP, asR, asT, asOwn, cN, cP, gN, gP, iD3, iE3, iL3, iR3, iS3, iT3, iZ3, rAbs3, rAdd3, rAll3, rApp3, rDictP3, rDictZ3, rEq3, rExt3, rI03, rI3, rIn3, rInt3, rIs3, rIsi3, rIx3, rLen3, rList3, rListD3, rListZ3, rMaxL3, rMin23, rMinL3, rNeg3, rPop3, rPopAt3, rRepr3, rSet3, rSl3, rSum3, rTuple3, rTupleW3, rdS, tAnd3, tAndV3, tAsg3, tB3, tBack3, tBreak3, tCall3, tChain3, tCons3, tDict0, tDisp3, tDrop3, tFld3, tFor3, tFst3, tGet3, tIf3, tIfS3, tK, tLc3, tLk3, tLkE3, tLst3, tM0, tM1, tMake3, tMeth3, tNever3, tNext3, tNil3, tNo3, tNot3, tNotV3, tOp3, tOr3, tOrV3, tOwn3, tPairs3, tPar3, tPar33, tRep3, tRet3, tSFld3, tSeq3, tSet3, tSl3, tSm3, tSortK3, tSub3, tT, tTup3, tUn3, tV, tWk3, tYes3, three, two, nks, Option.map, List.getElem?_cons_zero, List.getElem?_cons_succ, List.set_cons_zero, List.set_cons_succ, if_true, if_false, Bool.false_eq_true, ite_true, ite_false, reduceIte, List.length_cons, List.length_nil, Nat.zero_add, Nat.reduceAdd, true_and, and_true])
/-! the law, the whole -/
def spotD (tbl : List (NK × D)) : D → Option D
  | .k x => match dlook tbl x with
    | some d => if isN d = true then none else some (.k x)
    | none => none
  | _ => none
theorem filter_spots (card : List Nat) (labs : List NK) : (encs (sts card)).filterMap (spotD (tb card (lab card labs))) = encs (spots card labs) := filterMap_encs fun s hs => by
  unfold spotD
  simp only [tb_in (mem_sts.mp hs), isN_k, decide_eq_true_eq]
  by_cases c : lab card labs s = .none
  · rw [if_pos c, if_neg (by simpa using c)]
  · rw [if_neg c, if_pos (by simpa using c)]
section
variable {p fa ca q k : Addr} {card : List Nat} {labs vs : List NK} {D3 : Ends3} {x0 x2 x3 x5 x6 x7 x8 x9 x10 x12 x13 : Option D} {S : Sto}
theorem rd_lw7 {sa : Addr} (ok : CodeOk card labs) (hu : Uniq labs vs) (hqk : q ≠ k) (A : LawAt p fa ca q k sa card labs vs S)
    (h : ∀ σ S', Dw p fa ca S S' → σ.length = 14 → σ[1]? = some (some (.ref p)) → D3.nx σ S') :
    lw7 D3 [x0, some (.ref p), x2, x3, some (codeD card labs), some (.ref k), some (.ref sa), x7, x8, x9, x10, some (.ref q), x12, x13] S := by
  refine ⟨q, _, A.a.hq, fun l => ⟨l, _, put_same, ?_⟩⟩
  rw [tb_walk]
  have back : put (put S q (.dic (some l) (tb card (lab card labs)))) q (.dic none (tb card (lab card labs))) = S := by
    funext b
    by_cases c : b = q
    · rw [c, put_same, A.a.hq]
    · rw [put_ne c, put_ne c]
  refine law2_loop (vs := vs) (hu.oth ok _) ok.sum put_same ((put_ne (Ne.symm hqk)).trans A.a.hk) (sts card) _ _ (fun s hs => mem_sts.mp hs) fun x7 x13 => ⟨put_same, ?_⟩
  rw [back]
  exact rd_lw8 ok hu hqk A fun y8 y9 y10 S' d => h _ S' d rfl rfl
theorem rd_lw6 (ok : CodeOk card labs) (hu : Uniq labs vs) (hqk : q ≠ k) (A : PlayAt p fa ca q k card labs vs S)
    (h : ∀ σ S', Dw p fa ca S S' → σ.length = 14 → σ[1]? = some (some (.ref p)) → D3.nx σ S') :
    lw6 D3 [x0, some (.ref p), x2, x3, some (codeD card labs), some (.ref k), x6, x7, x8, x9, x10, some (.ref q), x12, x13] S := by
  have z27 := ok.sz
  refine ⟨q, _, A.hq, fun l => ⟨l, _, put_same, ?_⟩⟩
  rw [tb_walk]
  have hq1 : put S q (.dic (some l) (tb card (lab card labs))) q = some (.dic (some l) (tb card (lab card labs))) := put_same
  have old : ∀ b o, b ≠ q → S b = some o → put S q (.dic (some l) (tb card (lab card labs))) b = some o := fun b o n e => (put_ne n).trans e
  generalize put S q (.dic (some l) (tb card (lab card labs))) = S1 at hq1 old
  refine lc3_map (S0 := S1) (spotD (tb card (lab card labs))) _ _ _ (Sub.refl S1) (fun d hd S2 h2 K L' hK hL => ?_) (fun S2 h2 => h2 _ _ hq1) (by unfold encs; rw [List.length_nil, List.length_map, sts_len]; omega) fun S2 h2 g ng => ?_
  · obtain ⟨s, hs, rfl⟩ := List.mem_map.mp hd
    have vv := mem_sts.mp hs
    have ef : spotD (tb card (lab card labs)) (dS s) = if isN (D.k (lab card labs s)) = true then none else some (dS s) := by
      unfold spotD
      simp only [tb_in vv]
    refine .inr ⟨_, _, _, h2 _ _ hq1, Nat.le_trans (enc_depth s) (by decide), tb_in vv, rfl, ?_⟩
    show if (!isN (D.k (lab card labs s))) = true then _ else _
    cases c : isN (D.k (lab card labs s)) with
    | true =>
      rw [if_neg (by decide)]
      exact hL S2 (ef.trans (if_pos c)) (Sub.refl S2)
    | false =>
      rw [if_pos (by decide)]
      exact hK _ S2 (ef.trans (if_neg (by rw [c]; exact Bool.false_ne_true))) (Sub.refl S2)
  · rw [List.nil_append, filter_spots]
    have h3 : Sub S1 (put S2 g (.lst (encs (spots card labs)))) := h2.add ng
    have eg : put S2 g (.lst (encs (spots card labs))) g = some (.lst (encs (spots card labs))) := put_same
    have nqg : q ≠ g := fun z => by rw [← z, h2 _ _ hq1] at ng; cases ng
    have ng0 : S g = none := by
      cases e : S g with
      | none => rfl
      | some o =>
        have := h2 _ _ (old g o (Ne.symm nqg) e)
        rw [this] at ng
        cases ng
    refine ⟨h3 _ _ hq1, ?_⟩
    generalize put S2 g (.lst (encs (spots card labs))) = S3 at h3 eg
    have h4 : Sub S (put S3 q (.dic none (tb card (lab card labs)))) := fun b o e => by
      by_cases c : b = q
      · rw [c, put_same, ← e, c, A.hq]
      · rw [put_ne c]
        exact h3 _ _ (old b o c e)
    have d := A.s.dw h4
    exact rd_lw7 ok hu hqk ⟨A.dw d, (put_ne (Ne.symm nqg)).trans eg, (A.s.off ng0).2.1⟩ fun σ S' d' => h σ S' (d.trans d')
theorem rd_lw5 (ok : CodeOk card labs) (hu : Uniq labs vs) (s0 : Spl S p fa ca) (hq : S q = some (.dic none (tb card (lab card labs)))) (qp : q ≠ p)
    (h : ∀ σ S', Dw p fa ca S S' → σ.length = 14 → σ[1]? = some (some (.ref p)) → D3.nx σ S') :
    lw5 D3 [x0, some (.ref p), x2, x3, some (codeD card labs), x5, x6, x7, x8, x9, x10, some (.ref q), some (Dt ((sts card).map (rkT card vs (lab card labs)))), x13] S := by
  refine ⟨_, _, hq, fun a na => ?_⟩
  have d1 := s0.dw ((Sub.refl S).add (o := .lst (encs (sts card))) na)
  refine ⟨(sts card).map enc, by rw [put_same, tb_walk, encs_k], fun b nb => ?_⟩
  rw [tb_walk] at nb ⊢
  have d2 := d1.add (o := .lst (zipD ((sts card).map enc) ((sts card).map (rkT card vs (lab card labs))))) nb
  refine ⟨_, tb card (rkT card vs (lab card labs)), put_same, pairs_of _ _, tb_depth, fun k nk => ?_⟩
  rw [tb_dputs]
  have d3 := d2.add (o := .dic none (tb card (rkT card vs (lab card labs)))) nk
  obtain ⟨k0, k1, k2, k3⟩ := d2.gone nk
  have hqk : q ≠ k := fun z => by rw [← z, hq] at k0; cases k0
  exact rd_lw6 ok hu hqk ⟨d3.s, d3.x _ _ qp (s0.offD hq).1 hq, put_same, qp, k1⟩ fun σ S' d' => h σ S' (d3.trans d')
theorem rd_lw4 (ok : CodeOk card labs) (hu : Uniq labs vs) (s0 : Spl S p fa ca) (hq : S q = some (.dic none (tb card (lab card labs)))) (qp : q ≠ p)
    (h : ∀ σ S', Dw p fa ca S S' → σ.length = 14 → σ[1]? = some (some (.ref p)) → D3.nx σ S') :
    lw4 D3 [x0, some (.ref p), x2, x3, some (codeD card labs), x5, x6, x7, x8, x9, x10, some (.ref q), some (Dt ((sts card).map (rkT card vs (lab card labs)))), x13] S := by
  refine ⟨.inr (.inr (.inr rfl)), ?_⟩
  refine .inr ⟨_, _, hq, rfl, ?_⟩
  show if (!decide (NestedKey.num (((sts card).map (rkT card vs (lab card labs))).length : Nat) = .num ((tb card (lab card labs)).length : Nat))) = true then _ else _
  have e : ((sts card).map (rkT card vs (lab card labs))).length = (tb card (lab card labs)).length := by unfold tb; rw [List.length_map, List.length_map]
  rw [e, if_neg (by simp)]
  exact rd_lw5 ok hu s0 hq qp h
theorem rd_lw3 {x11 : Option D} (ok : CodeOk card labs) (s0 : Spl S p fa ca)
    (h : ∀ σ S', Dw p fa ca S S' → σ.length = 14 → σ[1]? = some (some (.ref p)) → D3.nx σ S') :
    lw3 D3 [x0, some (.ref p), x2, x3, some (codeD card labs), x5, x6, x7, x8, x9, x10, x11, x12, x13] S := by
  have c4 := ok.cl
  have z27 := ok.sz
  refine ⟨rfl, card, labs, rfl, by omega, by omega, ok.len, fun q S1 nq h1 hq => ?_⟩
  refine ⟨rfl, card, labs, rfl, ok, fun vs S2 hu h2 => ?_⟩
  have d := s0.dw (h1.trans h2)
  exact rd_lw4 ok hu d.s (h2 _ _ hq) (s0.off nq).1 fun σ S' d' => h σ S' (d.trans d')
theorem mem_mosts {x : D} (h : x ∈ ([Dn 12, Dn 12, Dn 27] : List D)) : ∃ t : Nat, x = Dn t ∧ 5 ≤ t ∧ t ≤ 27 := by
  simp only [List.mem_cons, List.not_mem_nil, or_false] at h
  rcases h with rfl | rfl | rfl
  · exact ⟨12, rfl, by decide, by decide⟩
  · exact ⟨12, rfl, by decide, by decide⟩
  · exact ⟨27, rfl, by decide, by decide⟩
theorem rd_lw2 {i : Int} {m : Nat} {x4 x11 : Option D} (hi : i = 0 ∨ i = 1) (m2 : 2 ≤ m) (m4 : m ≤ 4) (s0 : Spl S p fa ca)
    (h : ∀ σ S', Dw p fa ca S S' → σ.length = 14 → σ[1]? = some (some (.ref p)) → D3.nx σ S') :
    lw2 D3 [x0, some (.ref p), some (Dn i), some (Dn m), x4, x5, x6, x7, x8, x9, x10, x11, x12, x13] S := by
  refine ⟨by decide, fun g ng => ?_⟩
  have d1 := s0.dw ((Sub.refl S).add (o := .lst [Dn 12, Dn 12, Dn 27]) ng)
  have o1 := s0.off ng
  refine ⟨rfl, p, fa, ca, g, _, rfl, d1.s, o1.2.1, put_same, by simp, by decide, fun x S1 hx d2 => ?_⟩
  obtain ⟨t, rfl, t5, t27⟩ := mem_mosts hx
  have d3 := d1.trans d2
  refine ⟨(by decide : 2 ≤ 1000), fun g2 n2 => ?_⟩
  have d4 := d3.add (o := .lst [Dn t, Dn 12]) n2
  obtain ⟨most, hm, b5, b27⟩ : ∃ most : Nat, atI [Dn (t : Nat), Dn 12] i = some (Dn most) ∧ 5 ≤ most ∧ most ≤ 27 := by
    rcases hi with rfl | rfl
    · exact ⟨t, rfl, t5, t27⟩
    · exact ⟨12, rfl, by decide, by decide⟩
  refine .inl ⟨_, _, _, put_same, rfl, hm, ?_⟩
  refine ⟨rfl, p, fa, ca, most, rfl, d4.s, b5, b27, fun card S2 c4 ct cz cz2 d5 => ?_⟩
  have d6 := d4.trans d5
  refine ⟨rfl, p, fa, ca, card, m, rfl, d6.s, m2, m4, c4, ct, by omega, cz2, fun labs S3 ok d7 => ?_⟩
  have d8 := d6.trans d7
  exact rd_lw3 ok d8.s fun σ S' d' => h σ S' (d8.trans d')
end
theorem rd_turn {D3 : Ends3} {F : Sd → Sto → Prop} {p fa ca : Addr} {i : Int} {σ : Sd} {S : Sto} (hi : i = 0 ∨ i = 1) (hl : σ.length = 14) (hp : σ[1]? = some (some (.ref p))) (s0 : Spl S p fa ca)
    (h : ∀ σ S', Dw p fa ca S S' → σ.length = 14 → σ[1]? = some (some (.ref p)) → F σ S') :
    r_law_1 sp_l_spool sp_l_draw sp_l_pick sp_l_card sp_l_code sp_l_table sp_safe_strengths sp_l_mixed sp_l_is_shown sp_l_is_played { D3 with nx := F, ct := F, bk := D3.nx } (σ.set 2 (some (Dn i))) S := by
  match σ, hl, hp with
  | [x0, x1, x2, x3, x4, x5, x6, x7, x8, x9, x10, x11, x12, x13], _, hp =>
    have hp : x1 = some (.ref p) := Option.some.inj hp
    subst hp
    rw [lw1]
    refine seqset ?_
    refine ⟨rfl, ?_⟩
    show if decide (NestedKey.num i = .num 0) = true then _ else _
    rcases hi with rfl | rfl
    · exact rd_lw2 (m := 2) (.inl rfl) (by decide) (by decide) s0 h
    · refine ⟨rfl, p, fa, ca, 3, rfl, s0, by decide, by decide, fun j S1 j0 j3 d => ?_⟩
      obtain ⟨n, rfl⟩ := Int.eq_ofNat_of_zero_le j0
      have e : (2 : Int) + ((n : Nat) : Int) = ((2 + n : Nat) : Int) := by omega
      show lw2 _ ([x0, some (.ref p), some (Dn 1), some (Dn (2 + ((n : Nat) : Int))), x4, x5, x6, x7, x8, x9, x10, x11, x12, x13]) S1
      rw [e]
      exact rd_lw2 (m := 2 + n) (.inr rfl) (by omega) (by omega) d.s fun σ S' d' => h σ S' (d.trans d')
end L3
/-! ## S30 -/
namespace L3
open PySem PySem.Spec L2
open PyProof.Rows hiding St
set_option hygiene false in
local macro_rules | `(tactic| walk_at "rd3") => `(tactic| simp only [a1, a2, asB, asI, asK, asP, asR, asT, asOwn, cN, cP, gN, gP, iD3, iE3, iL3, iR3, iS3, iT3, iZ3, rAbs3, rAdd3, rAll3, rApp3, rDictP3, rDictZ3, rEq3, rExt3, rI03, rI3, rIn3, rInt3, rIs3, rIsi3, rIx3, rLen3, rList3, rListD3, rListZ3, rMaxL3, rMin23, rMinL3, rNeg3, rPop3, rPopAt3, rRepr3, rSet3, rSl3, rSum3, rTuple3, rTupleW3, rdS, tAnd3, tAndV3, tAsg3, tB3, tBack3, tBreak3, tCall3, tChain3, tCons3, tDict0, tDisp3, tDrop3, tFld3, tFor3, tFst3, tGet3, tIf3, tIfS3, tK, tLc3, tLk3, tLkE3, tLst3, tM0, tM1, tMake3, tMeth3, tNever3, tNext3, tNil3, tNo3, tNot3, tNotV3, tOp3, tOr3, tOrV3, tOwn3, tPairs3, tPar3, tPar33, tRep3, tRet3, tSFld3, tSeq3, tSet3, tSl3, tSm3, tSortK3, tSub3, tT, tTup3, tUn3, tV, tWk3, tYes3, three, two, nks, Option.map, List.getElem?_cons_zero, List.getElem?_cons_succ, List.set_cons_zero, List.set_cons_succ, if_true, if_false, Bool.false_eq_true, ite_true, ite_false, reduceIte, List.length_cons, List.length_nil, Nat.zero_add, Nat.reduceAdd, true_and, and_true])
/-! the law: its promise -/
def sp_law : Sp3 := fun ds _ R => ∃ ns : List Int, ds = [.sq ns] ∧ ns.length ≤ 63 ∧ ∀ S', R (.bl true) S'
theorem rd_law (ds : List D) (S : Sto) (R : VK3) (hl : ds.length = 1) (h : sp_law ds S R) : r_law sp_l_spool sp_l_draw sp_l_pick sp_l_card sp_l_code sp_l_table sp_safe_strengths sp_l_mixed sp_l_is_shown sp_l_is_played { nx := fun _ S' => R Dz S', rt := R } (start3 n_law ds) S := by
  obtain ⟨ns, rfl, hn, h⟩ := h
  refine ⟨rfl, ns, rfl, hn, fun p fa ca S1 np h1 s1 => ?_⟩
  refine ⟨by decide, by decide, ?_⟩
  show for3 (gN 2) _ (fun _ => True) _ [Dn 0, Dn 1] [some (.sq ns), some (.ref p), none, none, none, none, none, none, none, none, none, none, none, none] S1
  refine for3_N.mpr ⟨trivial, ?_⟩
  refine rd_turn (σ := [some (.sq ns), some (.ref p), none, none, none, none, none, none, none, none, none, none, none, none]) (.inl rfl) rfl rfl s1 fun σ S2 d2 l2 p2 => ?_
  refine for3_N.mpr ⟨trivial, ?_⟩
  refine rd_turn (.inr rfl) l2 p2 d2.s fun σ S3 d3 l3 p3 => ?_
  exact ⟨trivial, h S3⟩
theorem law_start {K : PySem.W.Frag} {w : World} {H : Hp} {a : Addr} {ns : List Int} (hn : ns.length ≤ 63) (hO : Only H) (hS : SqL K H a (ns.map V.int)) : upSp K w 1 sp_law [.ref a] H (fun v _ => v = .bl true) fun _ _ _ => False := by
  refine ⟨rfl, [.sq ns], fun _ => none, fun d _ => d = .bl true, (fun _ _ e => by cases e), .cons ⟨a, rfl, ?_⟩ .nil, ⟨ns, rfl, hn, fun _ => rfl⟩, fun v H' d S' _ _ hd e => ?_⟩
  · rcases hS with (r | r) | r
    · rcases hO a with z | ⟨o, xs, z⟩
      · rw [z] at r; cases r
      · rw [z] at r; cases r
    · exact .inl r
    · exact .inr fun _ => .inr r
  · subst e
    exact hd
end L3
/-! ## S31 -/
namespace L3
open PySem PySem.Spec L2
open PyProof.Rows hiding St
set_option hygiene false in
local macro_rules | `(tactic| walk_at "rd3") => `(tactic| simp only [a1, a2, asB, asI, asK, asP, asR, asT, asOwn, cN, cP, gN, gP, iD3, iE3, iL3, iR3, iS3, iT3, iZ3, rAbs3, rAdd3, rAll3, rApp3, rDictP3, rDictZ3, rEq3, rExt3, rI03, rI3, rIn3, rInt3, rIs3, rIsi3, rIx3, rLen3, rList3, rListD3, rListZ3, rMaxL3, rMin23, rMinL3, rNeg3, rPop3, rPopAt3, rRepr3, rSet3, rSl3, rSum3, rTuple3, rTupleW3, rdS, tAnd3, tAndV3, tAsg3, tB3, tBack3, tBreak3, tCall3, tChain3, tCons3, tDict0, tDisp3, tDrop3, tFld3, tFor3, tFst3, tGet3, tIf3, tIfS3, tK, tLc3, tLk3, tLkE3, tLst3, tM0, tM1, tMake3, tMeth3, tNever3, tNext3, tNil3, tNo3, tNot3, tNotV3, tOp3, tOr3, tOrV3, tOwn3, tPairs3, tPar3, tPar33, tRep3, tRet3, tSFld3, tSeq3, tSet3, tSl3, tSm3, tSortK3, tSub3, tT, tTup3, tUn3, tV, tWk3, tYes3, three, two, nks, Option.map, List.getElem?_cons_zero, List.getElem?_cons_succ, List.set_cons_zero, List.set_cons_succ, if_true, if_false, Bool.false_eq_true, ite_true, ite_false, reduceIte, List.length_cons, List.length_nil, Nat.zero_add, Nat.reduceAdd, true_and, and_true])
/-! all defs of the text -/
structure Facts (K : PySem.W.Frag) (mg : Str → Option Value) (C : Addr) : Prop where
  f_is_integer : FunIn K mg "is_integer" s_is_integer p_is_integer
  f_is_word : FunIn K mg "is_word" s_is_word p_is_word
  f_is_plain : FunIn K mg "is_plain" s_is_plain p_is_plain
  f_is_value : FunIn K mg "is_value" s_is_value p_is_value
  f_value_rank : FunIn K mg "value_rank" s_value_rank p_value_rank
  f_states : FunIn K mg "states" s_states p_states
  f_is_state : FunIn K mg "is_state" s_is_state p_is_state
  f_place_of : FunIn K mg "place_of" s_place_of p_place_of
  f_above : FunIn K mg "above" s_above p_above
  f_unlike_values : FunIn K mg "unlike_values" s_unlike_values p_unlike_values
  f_label : FunIn K mg "label" s_label p_label
  f_values_of : FunIn K mg "values_of" s_values_of p_values_of
  f_t_worth : MethIn K C "worth" "SafeTable.worth" s_t_worth p_t_worth
  f_t_best_step : MethIn K C "best_step" "SafeTable.best_step" s_t_best_step p_t_best_step
  f_t_fill : MethIn K C "fill" "SafeTable.fill" s_t_fill p_t_fill
  f_t_init : InitIn K C "SafeTable.__init__" s_t_init p_t_init
  f_t_way : MethIn K C "way" "SafeTable.way" s_t_way p_t_way
  f_safe_strengths : FunIn K mg "safe_strengths" s_safe_strengths p_safe_strengths
  f_safe_way : FunIn K mg "safe_way" s_safe_way p_safe_way
  f_l_spool : FunIn K mg "_law_spool" s_l_spool p_l_spool
  f_l_draw : FunIn K mg "_law_draw" s_l_draw p_l_draw
  f_l_pick : FunIn K mg "_law_pick" s_l_pick p_l_pick
  f_l_mixed : FunIn K mg "_law_mixed" s_l_mixed p_l_mixed
  f_l_states : FunIn K mg "_law_states" s_l_states p_l_states
  f_l_card : FunIn K mg "_law_card" s_l_card p_l_card
  f_l_values : FunIn K mg "_law_values" s_l_values p_l_values
  f_l_code : FunIn K mg "_law_code" s_l_code p_l_code
  f_l_table : FunIn K mg "_law_table" s_l_table p_l_table
  f_l_named : FunIn K mg "_law_named" s_l_named p_l_named
  f_l_steps : FunIn K mg "_law_steps" s_l_steps p_l_steps
  f_l_way : FunIn K mg "_law_way" s_l_way p_l_way
  f_l_is_shown : FunIn K mg "_law_is_shown" s_l_is_shown p_l_is_shown
  f_l_is_safe : FunIn K mg "_law_is_safe" s_l_is_safe p_l_is_safe
  f_l_is_played : FunIn K mg "_law_is_played" s_l_is_played p_l_is_played
section
variable {P : Program} {w : World} {K : PySem.W.Frag} {mg : Str → Option Value} {base : Heap}
theorem Cal.never {x : Str} {st : Stmt} {ps : List Str} (F : FunIn K mg x st ps) : Cal P w K mg base 0 x ps (fun _ _ _ => False) :=
  let ⟨f, fd, _, h1, h2, h3⟩ := F; ⟨f, fd, ⟨fun _ _ _ _ h => h.1, fun _ _ _ _ _ _ _ _ _ _ _ _ _ hs => by
    obtain ⟨_, _, _, _, _, _, no, _⟩ := hs
    exact no.elim⟩, h1, h2, h3⟩
theorem law_fn {C : Addr} {f : Addr} {fd : FuncData} (T : Txt K mg C) (F : Facts K mg C) (hF : Fun K "law" "law" s_law f fd) : Fn3 P w K mg base 10 f fd p_law sp_law := by
  have c_is_integer : Cal P w K mg base 1 "is_integer" p_is_integer sp_is_integer := Cal.of F.f_is_integer sc_is_integer (w_is_integer T) rd_is_integer
  have c_is_word : Cal P w K mg base 1 "is_word" p_is_word sp_is_word := Cal.of F.f_is_word sc_is_word (w_is_word T) rd_is_word
  have c_is_plain : Cal P w K mg base 2 "is_plain" p_is_plain sp_is_plain := Cal.of F.f_is_plain sc_is_plain (w_is_plain _ _ T c_is_word c_is_integer) rd_is_plain
  have c_is_value : Cal P w K mg base 3 "is_value" p_is_value sp_is_value := Cal.of F.f_is_value sc_is_value (w_is_value _ T c_is_plain) rd_is_value
  have c0 : Cal P w K mg base 0 "value_rank" p_value_rank (fun _ _ _ => False) := Cal.never F.f_value_rank
  have c1 : Cal P w K mg base 1 "value_rank" p_value_rank sp_rank1 := Cal.of F.f_value_rank sc_value_rank (w_value_rank _ T c0) rd_rank1
  have c_value_rank : Cal P w K mg base 2 "value_rank" p_value_rank rankSp := Cal.of F.f_value_rank sc_value_rank (w_value_rank _ T c1) rd_rank2
  have c_states : Cal P w K mg base 1 "states" p_states sp_states := Cal.of F.f_states sc_states (w_states T) rd_states
  have c_is_state : Cal P w K mg base 2 "is_state" p_is_state sp_is_state := Cal.of F.f_is_state sc_is_state (w_is_state _ T c_is_integer) rd_is_state
  have c_place_of : Cal P w K mg base 3 "place_of" p_place_of sp_place_of := Cal.of F.f_place_of sc_place_of (w_place_of _ T c_is_state) rd_place_of
  have c_above : Cal P w K mg base 1 "above" p_above sp_above := Cal.of F.f_above sc_above (w_above T) rd_above
  have c_unlike_values : Cal P w K mg base 4 "unlike_values" p_unlike_values sp_unlike := Cal.of F.f_unlike_values sc_unlike_values (w_unlike_values T c_value_rank) rd_unlike
  have c_label : Cal P w K mg base 4 "label" p_label sp_label := Cal.of F.f_label sc_label (w_label _ T c_place_of) rd_label
  have c_values_of : Cal P w K mg base 5 "values_of" p_values_of sp_values_of := Cal.of F.f_values_of sc_values_of (w_values_of _ T c_unlike_values) rd_values_of
  have c_t_worth : CalM P w K mg base 1 C "worth" p_t_worth (sp_t_worth C) := CalM.of F.f_t_worth sc_t_worth (w_t_worth C T) rd_worth
  have c_t_best_step : CalM P w K mg base 2 C "best_step" p_t_best_step (sp_t_best C) := CalM.of F.f_t_best_step sc_t_best_step (w_t_best_step C _ _ T c_above c_t_worth) rd_best
  have c_t_fill : CalM P w K mg base 3 C "fill" p_t_fill (sp_t_fill C) := CalM.of F.f_t_fill sc_t_fill (w_t_fill C _ T c_t_best_step) rd_fill
  have c_t_init : CalC P w K mg base 6 C p_t_init (sp_t_init C) := CalC.of F.f_t_init sc_t_init (w_t_init C _ _ _ T c_states c_values_of c_t_fill) rd_init
  have c_t_way : CalM P w K mg base 1 C "way" p_t_way (sp_t_way C) := CalM.of F.f_t_way sc_t_way (w_t_way C T) rd_way
  have c_safe_strengths : Cal P w K mg base 8 "safe_strengths" p_safe_strengths sp_safe_strengths := Cal.of F.f_safe_strengths sc_safe_strengths (w_safe_strengths C _ _ T c_states c_t_init) rd_safe_strengths
  have c_safe_way : Cal P w K mg base 8 "safe_way" p_safe_way sp_safe_way := Cal.of F.f_safe_way sc_safe_way (w_safe_way C _ _ _ _ _ T c_label c_is_value c_values_of c_t_way c_t_init) rd_safe_way
  have c_l_spool : Cal P w K mg base 1 "_law_spool" p_l_spool sp_l_spool := Cal.of F.f_l_spool sc_l_spool (w_l_spool T) rd_l_spool
  have c_l_draw : Cal P w K mg base 1 "_law_draw" p_l_draw sp_l_draw := Cal.of F.f_l_draw sc_l_draw (w_l_draw T) rd_l_draw
  have c_l_pick : Cal P w K mg base 2 "_law_pick" p_l_pick sp_l_pick := Cal.of F.f_l_pick sc_l_pick (w_l_pick _ T c_l_draw) rd_l_pick
  have c_l_mixed : Cal P w K mg base 2 "_law_mixed" p_l_mixed sp_l_mixed := Cal.of F.f_l_mixed sc_l_mixed (w_l_mixed _ T c_l_draw) rd_l_mixed
  have c_l_states : Cal P w K mg base 1 "_law_states" p_l_states sp_l_states := Cal.of F.f_l_states sc_l_states (w_l_states T) rd_l_states
  have c_l_card : Cal P w K mg base 3 "_law_card" p_l_card sp_l_card := Cal.of F.f_l_card sc_l_card (w_l_card _ T c_l_pick) rd_l_card
  have c_l_values : Cal P w K mg base 3 "_law_values" p_l_values sp_l_values := Cal.of F.f_l_values sc_l_values (w_l_values _ T c_l_mixed) rd_l_values
  have c_l_code : Cal P w K mg base 4 "_law_code" p_l_code sp_l_code := Cal.of F.f_l_code sc_l_code (w_l_code _ _ _ _ T c_l_values c_l_draw c_l_states c_l_pick) rd_l_code
  have c_l_table : Cal P w K mg base 2 "_law_table" p_l_table sp_l_table := Cal.of F.f_l_table sc_l_table (w_l_table _ T c_l_states) rd_l_table
  have c_l_named : Cal P w K mg base 1 "_law_named" p_l_named sp_l_named := Cal.of F.f_l_named sc_l_named (w_l_named T) rd_l_named
  have c_l_steps : Cal P w K mg base 1 "_law_steps" p_l_steps sp_l_steps := Cal.of F.f_l_steps sc_l_steps (w_l_steps T) rd_l_steps
  have c_l_way : Cal P w K mg base 2 "_law_way" p_l_way sp_l_way := Cal.of F.f_l_way sc_l_way (w_l_way _ T c_l_steps) rd_l_way
  have c_l_is_shown : Cal P w K mg base 3 "_law_is_shown" p_l_is_shown sp_l_is_shown := Cal.of F.f_l_is_shown sc_l_is_shown (w_l_is_shown _ _ T c_l_named c_l_way) rd_l_is_shown
  have c_l_is_safe : Cal P w K mg base 2 "_law_is_safe" p_l_is_safe sp_l_is_safe := Cal.of F.f_l_is_safe sc_l_is_safe (w_l_is_safe _ T c_l_steps) rd_l_is_safe
  have c_l_is_played : Cal P w K mg base 9 "_law_is_played" p_l_is_played sp_l_is_played := Cal.of F.f_l_is_played sc_l_is_played (w_l_is_played _ _ _ _ T c_l_named c_l_pick c_safe_way c_l_is_safe) rd_l_is_played
  exact Fn3.by hF sc_law (w_law _ _ _ _ _ _ _ _ _ _ T c_l_spool c_l_draw c_l_pick c_l_card c_l_code c_l_table c_safe_strengths c_l_mixed c_l_is_shown c_l_is_played) rd_law
end
end L3
/-! ## S32 -/
namespace L3
open PySem PySem.Spec L2
open PyProof.Rows hiding St
set_option hygiene false in
local macro_rules | `(tactic| walk_at "rd3") => `(tactic| simp only [a1, a2, asB, asI, asK, asP, asR, asT, asOwn, cN, cP, gN, gP, iD3, iE3, iL3, iR3, iS3, iT3, iZ3, rAbs3, rAdd3, rAll3, rApp3, rDictP3, rDictZ3, rEq3, rExt3, rI03, rI3, rIn3, rInt3, rIs3, rIsi3, rIx3, rLen3, rList3, rListD3, rListZ3, rMaxL3, rMin23, rMinL3, rNeg3, rPop3, rPopAt3, rRepr3, rSet3, rSl3, rSum3, rTuple3, rTupleW3, rdS, tAnd3, tAndV3, tAsg3, tB3, tBack3, tBreak3, tCall3, tChain3, tCons3, tDict0, tDisp3, tDrop3, tFld3, tFor3, tFst3, tGet3, tIf3, tIfS3, tK, tLc3, tLk3, tLkE3, tLst3, tM0, tM1, tMake3, tMeth3, tNever3, tNext3, tNil3, tNo3, tNot3, tNotV3, tOp3, tOr3, tOrV3, tOwn3, tPairs3, tPar3, tPar33, tRep3, tRet3, tSFld3, tSeq3, tSet3, tSl3, tSm3, tSortK3, tSub3, tT, tTup3, tUn3, tV, tWk3, tYes3, three, two, nks, Option.map, List.getElem?_cons_zero, List.getElem?_cons_succ, List.set_cons_zero, List.set_cons_succ, if_true, if_false, Bool.false_eq_true, ite_true, ite_false, reduceIte, List.length_cons, List.length_nil, Nat.zero_add, Nat.reduceAdd, true_and, and_true])
/-! what the top leaves, and the end -/
def GFn (K : PySem.W.Frag) (x : Str) (st : Stmt) : Prop := ∃ (f : Addr) (oc : Value) (od an : Option Addr) (osl : Array (Option Value)) (kV doc pm cdv ct : Value),
  PySem.W.nsIn K mainGlobals x = some (some (.ref f)) ∧ K.lookup f = some ⟨oc, od, .func (PySem.W.fnOf x x (defArgs st) (defBody st) (defScope st) .none kV doc pm an cdv ct), osl⟩ ∧ PySem.W.codeIn K cdv x = true ∧ PySem.W.keepIn K (.ref f) = true
def CFn (K : PySem.W.Frag) (C : Addr) (m qual : Str) (st : Stmt) : Prop := ∃ (f : Addr) (oc : Value) (od an : Option Addr) (osl : Array (Option Value)) (kV doc pm cdv ct : Value),
  PySem.W.findIn K (.ref C) m = some (some (.ref f)) ∧ PySem.W.isFn K (.ref f) = true ∧ K.lookup f = some ⟨oc, od, .func (PySem.W.fnOf m qual (defArgs st) (defBody st) (defScope st) .none kV doc pm an cdv ct), osl⟩ ∧ PySem.W.codeIn K cdv qual = true ∧ PySem.W.keepIn K (.ref f) = true
abbrev BindH (x qual : Str) (st : Stmt) (ps : List Str) : Prop := ∀ (kV doc pm : Value) (an : Option Addr) (cdv ct : Value) (us : List Value), us.length = ps.length → bindArgs (PySem.W.fnOf x qual (defArgs st) (defBody st) (defScope st) .none kV doc pm an cdv ct) ⟨us, []⟩ = pure (ps.zip us)
section
variable {K : PySem.W.Frag} {h : Heap} {mg : Str → Option Value} {C : Addr}
theorem GFn.found {x : Str} {st : Stmt} {ps : List Str} (g : GFn K x st) (X : K.In h) (G : h.Ns mainGlobals mg) (b : BindH x x st ps) : FunIn K mg x st ps :=
  let ⟨f, _, _, _, _, _, _, _, _, _, h1, h2, h3, h4⟩ := g
  ⟨f, _, fun_mk h2 h3 h4, PySem.W.mg_of X G h1, h4, (fun_mk h2 h3 h4).binds b⟩
theorem CFn.found {m qual : Str} {st : Stmt} {ps : List Str} (g : CFn K C m qual st) (b : BindH m qual st ps) : MethIn K C m qual st ps :=
  let ⟨f, _, _, _, _, _, _, _, _, _, h1, h2, h3, h4, h5⟩ := g
  ⟨f, _, fun_mk h3 h4 h5, ⟨h1, h2, h5⟩, (fun_mk h3 h4 h5).binds b⟩
theorem CFn.first {qual : Str} {st : Stmt} {ps : List Str} (g : CFn K C "__init__" qual st) (mk : PySem.W.makesIn K C = true) (kc : PySem.W.keepIn K (.ref C) = true) (b : BindH "__init__" qual st ps) : InitIn K C qual st ps :=
  let ⟨f, _, _, _, _, _, _, _, _, _, h1, h2, h3, h4, h5⟩ := g
  ⟨f, _, fun_mk h3 h4 h5, ⟨mk, h1, h2, kc⟩, (fun_mk h3 h4 h5).binds b⟩
end
theorem all_found {P : Program} {w : World} {K : PySem.W.Frag} {h : Heap} {mg : Str → Option Value} {fa C : Addr} (X : K.In h) (G : h.Ns mainGlobals mg) (hfa : mg "law" = some (.ref fa))
    (hC : PySem.W.nsIn K mainGlobals "SafeTable" = some (some (.ref C))) (pg : PySem.W.plainGet K C Str.empty = true) (hd : PySem.W.hasDictIn K C = true) (po : PySem.W.plainOver K C = true) (sa : PySem.W.findIn K (.ref C) "__setattr__" = some (some (.builtin "object.__setattr__"))) (mk : PySem.W.makesIn K C = true) (kc : PySem.W.keepIn K (.ref C) = true) (n_card : PySem.W.findIn K (.ref C) "card" = some none) (n_labels : PySem.W.findIn K (.ref C) "labels" = some none) (n_code_values : PySem.W.findIn K (.ref C) "code_values" = some none) (n_safe : PySem.W.findIn K (.ref C) "safe" = some none) (n_first_steps : PySem.W.findIn K (.ref C) "first_steps" = some none) (z_len : PySem.W.nsIn K mainGlobals "len" = some none) (z_int : PySem.W.nsIn K mainGlobals "int" = some none) (z_abs : PySem.W.nsIn K mainGlobals "abs" = some none) (z_sum : PySem.W.nsIn K mainGlobals "sum" = some none) (z_all : PySem.W.nsIn K mainGlobals "all" = some none) (z_isinstance : PySem.W.nsIn K mainGlobals "isinstance" = some none) (z_max : PySem.W.nsIn K mainGlobals "max" = some none) (z_min : PySem.W.nsIn K mainGlobals "min" = some none) (z_repr : PySem.W.nsIn K mainGlobals "repr" = some none) (z_list : PySem.W.nsIn K mainGlobals "list" = some none) (z_dict : PySem.W.nsIn K mainGlobals "dict" = some none) (z_tuple : PySem.W.nsIn K mainGlobals "tuple" = some none) (z_zip : PySem.W.nsIn K mainGlobals "zip" = some none) (z_range : PySem.W.nsIn K mainGlobals "range" = some none) (z_enumerate : PySem.W.nsIn K mainGlobals "enumerate" = some none) (z_sorted : PySem.W.nsIn K mainGlobals "sorted" = some none) (z_bool : PySem.W.nsIn K mainGlobals "bool" = some none) (z_str : PySem.W.nsIn K mainGlobals "str" = some none) (v_MAX_NUMBER : ∃ t : Tok, PySem.W.nsIn K mainGlobals "MAX_NUMBER" = some (some (.int 999 t))) (v_MAX_WORD : ∃ t : Tok, PySem.W.nsIn K mainGlobals "MAX_WORD" = some (some (.int 8 t))) (v_MAX_ITEMS : ∃ t : Tok, PySem.W.nsIn K mainGlobals "MAX_ITEMS" = some (some (.int 4 t))) (v_LETTERS : ∃ t : Tok, PySem.W.nsIn K mainGlobals "LETTERS" = some (some (.str "abcdefghijklmnopqrstuvwxyz" t)))
    (g_is_integer : GFn K "is_integer" s_is_integer)
    (g_is_word : GFn K "is_word" s_is_word)
    (g_is_plain : GFn K "is_plain" s_is_plain)
    (g_is_value : GFn K "is_value" s_is_value)
    (g_value_rank : GFn K "value_rank" s_value_rank)
    (g_states : GFn K "states" s_states)
    (g_is_state : GFn K "is_state" s_is_state)
    (g_place_of : GFn K "place_of" s_place_of)
    (g_above : GFn K "above" s_above)
    (g_unlike_values : GFn K "unlike_values" s_unlike_values)
    (g_label : GFn K "label" s_label)
    (g_values_of : GFn K "values_of" s_values_of)
    (g_t_worth : CFn K C "worth" "SafeTable.worth" s_t_worth)
    (g_t_best_step : CFn K C "best_step" "SafeTable.best_step" s_t_best_step)
    (g_t_fill : CFn K C "fill" "SafeTable.fill" s_t_fill)
    (g_t_init : CFn K C "__init__" "SafeTable.__init__" s_t_init)
    (g_t_way : CFn K C "way" "SafeTable.way" s_t_way)
    (g_safe_strengths : GFn K "safe_strengths" s_safe_strengths)
    (g_safe_way : GFn K "safe_way" s_safe_way)
    (g_l_spool : GFn K "_law_spool" s_l_spool)
    (g_l_draw : GFn K "_law_draw" s_l_draw)
    (g_l_pick : GFn K "_law_pick" s_l_pick)
    (g_l_mixed : GFn K "_law_mixed" s_l_mixed)
    (g_l_states : GFn K "_law_states" s_l_states)
    (g_l_card : GFn K "_law_card" s_l_card)
    (g_l_values : GFn K "_law_values" s_l_values)
    (g_l_code : GFn K "_law_code" s_l_code)
    (g_l_table : GFn K "_law_table" s_l_table)
    (g_l_named : GFn K "_law_named" s_l_named)
    (g_l_steps : GFn K "_law_steps" s_l_steps)
    (g_l_way : GFn K "_law_way" s_l_way)
    (g_l_is_shown : GFn K "_law_is_shown" s_l_is_shown)
    (g_l_is_safe : GFn K "_law_is_safe" s_l_is_safe)
    (g_l_is_played : GFn K "_law_is_played" s_l_is_played)
    (g_law : GFn K "law" s_law) :
    ∃ fd : FuncData, (∀ (s : Shared) (v : Value), BindsTo s fd ⟨[v], []⟩ [("_law_script", v)]) ∧ ∀ base : Heap, K.In base → base.Ns mainGlobals mg → FnOk P w K mg base CX0 10 fa fd ["_law_script"] (upSp K w 1 sp_law) := by
  have T : Txt K mg C := by
    refine { cl := ⟨pg, hd, po, sa⟩, mgC := PySem.W.mg_of X G hC, n_card := n_card, n_labels := n_labels, n_code_values := n_code_values, n_safe := n_safe, n_first_steps := n_first_steps, z_len := PySem.W.mg_none_of X G z_len, z_int := PySem.W.mg_none_of X G z_int, z_abs := PySem.W.mg_none_of X G z_abs, z_sum := PySem.W.mg_none_of X G z_sum, z_all := PySem.W.mg_none_of X G z_all, z_isinstance := PySem.W.mg_none_of X G z_isinstance, z_max := PySem.W.mg_none_of X G z_max, z_min := PySem.W.mg_none_of X G z_min, z_repr := PySem.W.mg_none_of X G z_repr, z_list := PySem.W.mg_none_of X G z_list, z_dict := PySem.W.mg_none_of X G z_dict, z_tuple := PySem.W.mg_none_of X G z_tuple, z_zip := PySem.W.mg_none_of X G z_zip, z_range := PySem.W.mg_none_of X G z_range, z_enumerate := PySem.W.mg_none_of X G z_enumerate, z_sorted := PySem.W.mg_none_of X G z_sorted, z_bool := PySem.W.mg_none_of X G z_bool, z_str := PySem.W.mg_none_of X G z_str, MAX_NUMBER := v_MAX_NUMBER.imp fun _ e => PySem.W.mg_of X G e, MAX_WORD := v_MAX_WORD.imp fun _ e => PySem.W.mg_of X G e, MAX_ITEMS := v_MAX_ITEMS.imp fun _ e => PySem.W.mg_of X G e, LETTERS := v_LETTERS.imp fun _ e => PySem.W.mg_of X G e }
  have F : Facts K mg C := by
    refine { f_is_integer := g_is_integer.found X G (fun _ _ _ _ _ _ us hl => match us, hl with | [_], _ => rfl), f_is_word := g_is_word.found X G (fun _ _ _ _ _ _ us hl => match us, hl with | [_], _ => rfl), f_is_plain := g_is_plain.found X G (fun _ _ _ _ _ _ us hl => match us, hl with | [_], _ => rfl), f_is_value := g_is_value.found X G (fun _ _ _ _ _ _ us hl => match us, hl with | [_], _ => rfl), f_value_rank := g_value_rank.found X G (fun _ _ _ _ _ _ us hl => match us, hl with | [_], _ => rfl), f_states := g_states.found X G (fun _ _ _ _ _ _ us hl => match us, hl with | [_], _ => rfl), f_is_state := g_is_state.found X G (fun _ _ _ _ _ _ us hl => match us, hl with | [_, _], _ => rfl), f_place_of := g_place_of.found X G (fun _ _ _ _ _ _ us hl => match us, hl with | [_, _], _ => rfl), f_above := g_above.found X G (fun _ _ _ _ _ _ us hl => match us, hl with | [_, _], _ => rfl), f_unlike_values := g_unlike_values.found X G (fun _ _ _ _ _ _ us hl => match us, hl with | [_], _ => rfl), f_label := g_label.found X G (fun _ _ _ _ _ _ us hl => match us, hl with | [_, _], _ => rfl), f_values_of := g_values_of.found X G (fun _ _ _ _ _ _ us hl => match us, hl with | [_], _ => rfl), f_t_worth := g_t_worth.found (fun _ _ _ _ _ _ us hl => match us, hl with | [_, _, _, _], _ => rfl), f_t_best_step := g_t_best_step.found (fun _ _ _ _ _ _ us hl => match us, hl with | [_, _, _], _ => rfl), f_t_fill := g_t_fill.found (fun _ _ _ _ _ _ us hl => match us, hl with | [_, _], _ => rfl), f_t_init := g_t_init.first mk kc (fun _ _ _ _ _ _ us hl => match us, hl with | [_, _], _ => rfl), f_t_way := g_t_way.found (fun _ _ _ _ _ _ us hl => match us, hl with | [_, _, _], _ => rfl), f_safe_strengths := g_safe_strengths.found X G (fun _ _ _ _ _ _ us hl => match us, hl with | [_], _ => rfl), f_safe_way := g_safe_way.found X G (fun _ _ _ _ _ _ us hl => match us, hl with | [_, _, _], _ => rfl), f_l_spool := g_l_spool.found X G (fun _ _ _ _ _ _ us hl => match us, hl with | [_], _ => rfl), f_l_draw := g_l_draw.found X G (fun _ _ _ _ _ _ us hl => match us, hl with | [_, _], _ => rfl), f_l_pick := g_l_pick.found X G (fun _ _ _ _ _ _ us hl => match us, hl with | [_, _], _ => rfl), f_l_mixed := g_l_mixed.found X G (fun _ _ _ _ _ _ us hl => match us, hl with | [_, _], _ => rfl), f_l_states := g_l_states.found X G (fun _ _ _ _ _ _ us hl => match us, hl with | [_], _ => rfl), f_l_card := g_l_card.found X G (fun _ _ _ _ _ _ us hl => match us, hl with | [_, _], _ => rfl), f_l_values := g_l_values.found X G (fun _ _ _ _ _ _ us hl => match us, hl with | [_, _], _ => rfl), f_l_code := g_l_code.found X G (fun _ _ _ _ _ _ us hl => match us, hl with | [_, _, _], _ => rfl), f_l_table := g_l_table.found X G (fun _ _ _ _ _ _ us hl => match us, hl with | [_], _ => rfl), f_l_named := g_l_named.found X G (fun _ _ _ _ _ _ us hl => match us, hl with | [_], _ => rfl), f_l_steps := g_l_steps.found X G (fun _ _ _ _ _ _ us hl => match us, hl with | [_, _], _ => rfl), f_l_way := g_l_way.found X G (fun _ _ _ _ _ _ us hl => match us, hl with | [_, _, _, _], _ => rfl), f_l_is_shown := g_l_is_shown.found X G (fun _ _ _ _ _ _ us hl => match us, hl with | [_, _, _], _ => rfl), f_l_is_safe := g_l_is_safe.found X G (fun _ _ _ _ _ _ us hl => match us, hl with | [_, _, _, _], _ => rfl), f_l_is_played := g_l_is_played.found X G (fun _ _ _ _ _ _ us hl => match us, hl with | [_, _, _, _, _], _ => rfl) }
  obtain ⟨f, oc, od, an, osl, kV, doc, pm, cdv, ct, h1, h2, h3, h4⟩ := g_law
  have e := hfa.symm.trans (PySem.W.mg_of X G h1)
  cases e
  exact ⟨_, fun s v => .of_eq rfl, fun base _ _ => law_fn T F (fun_mk (st := s_law) h2 h3 h4)⟩
theorem ends {l : PySem.W.OpenLaw} {q : Program} {loose : List Str} {XP : (Str → Option Value) → Heap → Prop} {YP : World → Heap → Prop} {d : DefRec} {K : Params → PySem.W.Frag} (m63 : l.most = some 63) (nodef : d.params.defaults = [])
    (kin : ∀ (w : World) (h : Heap), YP w h → (K w.params).In h)
    (all : ∀ (w : World) (mg : Str → Option Value) (fa : Addr) (h : Heap), (K w.params).In h → h.Ns mainGlobals mg → mg d.name = some (.ref fa) →
      ∃ fd : FuncData, (∀ (s : Shared) (v : Value), BindsTo s fd ⟨[v], []⟩ [("_law_script", v)]) ∧ ∀ base : Heap, (K w.params).In base → base.Ns mainGlobals mg → FnOk l.prog w (K w.params) mg base CX0 10 fa fd ["_law_script"] (upSp (K w.params) w 1 sp_law)) :
    PySem.W.WalkO q loose XP YP l.row.toRowW d [] (fun f vs => PySem.call f vs) :=
  L2.walk_of (n := 63) (k := 10) (x := "_law_script") (CX := fun _ => CX0) (sp := fun w => upSp (K w.params) w 1 sp_law) m63 (by decide) nodef ⟨rfl, by decide, by decide⟩ kin all (fun _ _ _ _ hl hO hS => law_start hl hO hS) fun _ _ _ _ _ z => z
end L3
/-! ## Fin -/
open PySem PySem.W PyProof.Rows in
set_option maxRecDepth 100000 in
set_option maxHeartbeats 0 in
theorem PySem.Challenge.cw_onlyhigher_k60_whole_tries_played_holds : PySem.Challenge.rw_onlyhigher_k60_whole_tries_played.Holds := by
  w_on; o_law; k_head; (case hw => w_witness2)
  k_fill
  refine L3.ends (l := PySem.Challenge.rw_onlyhigher_k60_whole_tries_played) rfl rfl (fun w h Y => PySem.W.kIn_of Y) ?all
  case all =>
    intro w mg fa h KX G hmg
    refine' L3.all_found KX G hmg ?hC ?pg ?hd ?po ?sa ?mk ?kc ?n_card ?n_labels ?n_code_values ?n_safe ?n_first_steps ?z_len ?z_int ?z_abs ?z_sum ?z_all ?z_isinstance ?z_max ?z_min ?z_repr ?z_list ?z_dict ?z_tuple ?z_zip ?z_range ?z_enumerate ?z_sorted ?z_bool ?z_str ?v_MAX_NUMBER ?v_MAX_WORD ?v_MAX_ITEMS ?v_LETTERS ?g_is_integer ?g_is_word ?g_is_plain ?g_is_value ?g_value_rank ?g_states ?g_is_state ?g_place_of ?g_above ?g_unlike_values ?g_label ?g_values_of ?g_t_worth ?g_t_best_step ?g_t_fill ?g_t_init ?g_t_way ?g_safe_strengths ?g_safe_way ?g_l_spool ?g_l_draw ?g_l_pick ?g_l_mixed ?g_l_states ?g_l_card ?g_l_values ?g_l_code ?g_l_table ?g_l_named ?g_l_steps ?g_l_way ?g_l_is_shown ?g_l_is_safe ?g_l_is_played ?g_law
    (case hC => first | exact rfl | k_is)
    (case pg => first | exact rfl | k_is)
    (case hd => first | exact rfl | k_is)
    (case po => first | exact rfl | k_is)
    (case sa => first | exact rfl | k_is)
    (case mk => first | exact rfl | k_is)
    (case kc => first | exact rfl | k_is)
    (case n_card => first | exact rfl | k_is)
    (case n_labels => first | exact rfl | k_is)
    (case n_code_values => first | exact rfl | k_is)
    (case n_safe => first | exact rfl | k_is)
    (case n_first_steps => first | exact rfl | k_is)
    (case z_len => first | exact rfl | k_is)
    (case z_int => first | exact rfl | k_is)
    (case z_abs => first | exact rfl | k_is)
    (case z_sum => first | exact rfl | k_is)
    (case z_all => first | exact rfl | k_is)
    (case z_isinstance => first | exact rfl | k_is)
    (case z_max => first | exact rfl | k_is)
    (case z_min => first | exact rfl | k_is)
    (case z_repr => first | exact rfl | k_is)
    (case z_list => first | exact rfl | k_is)
    (case z_dict => first | exact rfl | k_is)
    (case z_tuple => first | exact rfl | k_is)
    (case z_zip => first | exact rfl | k_is)
    (case z_range => first | exact rfl | k_is)
    (case z_enumerate => first | exact rfl | k_is)
    (case z_sorted => first | exact rfl | k_is)
    (case z_bool => first | exact rfl | k_is)
    (case z_str => first | exact rfl | k_is)
    (case v_MAX_NUMBER => exact ⟨_, rfl⟩)
    (case v_MAX_WORD => exact ⟨_, rfl⟩)
    (case v_MAX_ITEMS => exact ⟨_, rfl⟩)
    (case v_LETTERS => exact ⟨_, rfl⟩)
    (case g_is_integer => exact ⟨_, _, _, _, _, _, _, _, _, _, rfl, rfl, rfl, rfl⟩)
    (case g_is_word => exact ⟨_, _, _, _, _, _, _, _, _, _, rfl, rfl, rfl, rfl⟩)
    (case g_is_plain => exact ⟨_, _, _, _, _, _, _, _, _, _, rfl, rfl, rfl, rfl⟩)
    (case g_is_value => exact ⟨_, _, _, _, _, _, _, _, _, _, rfl, rfl, rfl, rfl⟩)
    (case g_value_rank => exact ⟨_, _, _, _, _, _, _, _, _, _, rfl, rfl, rfl, rfl⟩)
    (case g_states => exact ⟨_, _, _, _, _, _, _, _, _, _, rfl, rfl, rfl, rfl⟩)
    (case g_is_state => exact ⟨_, _, _, _, _, _, _, _, _, _, rfl, rfl, rfl, rfl⟩)
    (case g_place_of => exact ⟨_, _, _, _, _, _, _, _, _, _, rfl, rfl, rfl, rfl⟩)
    (case g_above => exact ⟨_, _, _, _, _, _, _, _, _, _, rfl, rfl, rfl, rfl⟩)
    (case g_unlike_values => exact ⟨_, _, _, _, _, _, _, _, _, _, rfl, rfl, rfl, rfl⟩)
    (case g_label => exact ⟨_, _, _, _, _, _, _, _, _, _, rfl, rfl, rfl, rfl⟩)
    (case g_values_of => exact ⟨_, _, _, _, _, _, _, _, _, _, rfl, rfl, rfl, rfl⟩)
    (case g_t_worth => exact ⟨_, _, _, _, _, _, _, _, _, _, rfl, rfl, rfl, rfl, rfl⟩)
    (case g_t_best_step => exact ⟨_, _, _, _, _, _, _, _, _, _, rfl, rfl, rfl, rfl, rfl⟩)
    (case g_t_fill => exact ⟨_, _, _, _, _, _, _, _, _, _, rfl, rfl, rfl, rfl, rfl⟩)
    (case g_t_init => exact ⟨_, _, _, _, _, _, _, _, _, _, rfl, rfl, rfl, rfl, rfl⟩)
    (case g_t_way => exact ⟨_, _, _, _, _, _, _, _, _, _, rfl, rfl, rfl, rfl, rfl⟩)
    (case g_safe_strengths => exact ⟨_, _, _, _, _, _, _, _, _, _, rfl, rfl, rfl, rfl⟩)
    (case g_safe_way => exact ⟨_, _, _, _, _, _, _, _, _, _, rfl, rfl, rfl, rfl⟩)
    (case g_l_spool => exact ⟨_, _, _, _, _, _, _, _, _, _, rfl, rfl, rfl, rfl⟩)
    (case g_l_draw => exact ⟨_, _, _, _, _, _, _, _, _, _, rfl, rfl, rfl, rfl⟩)
    (case g_l_pick => exact ⟨_, _, _, _, _, _, _, _, _, _, rfl, rfl, rfl, rfl⟩)
    (case g_l_mixed => exact ⟨_, _, _, _, _, _, _, _, _, _, rfl, rfl, rfl, rfl⟩)
    (case g_l_states => exact ⟨_, _, _, _, _, _, _, _, _, _, rfl, rfl, rfl, rfl⟩)
    (case g_l_card => exact ⟨_, _, _, _, _, _, _, _, _, _, rfl, rfl, rfl, rfl⟩)
    (case g_l_values => exact ⟨_, _, _, _, _, _, _, _, _, _, rfl, rfl, rfl, rfl⟩)
    (case g_l_code => exact ⟨_, _, _, _, _, _, _, _, _, _, rfl, rfl, rfl, rfl⟩)
    (case g_l_table => exact ⟨_, _, _, _, _, _, _, _, _, _, rfl, rfl, rfl, rfl⟩)
    (case g_l_named => exact ⟨_, _, _, _, _, _, _, _, _, _, rfl, rfl, rfl, rfl⟩)
    (case g_l_steps => exact ⟨_, _, _, _, _, _, _, _, _, _, rfl, rfl, rfl, rfl⟩)
    (case g_l_way => exact ⟨_, _, _, _, _, _, _, _, _, _, rfl, rfl, rfl, rfl⟩)
    (case g_l_is_shown => exact ⟨_, _, _, _, _, _, _, _, _, _, rfl, rfl, rfl, rfl⟩)
    (case g_l_is_safe => exact ⟨_, _, _, _, _, _, _, _, _, _, rfl, rfl, rfl, rfl⟩)
    (case g_l_is_played => exact ⟨_, _, _, _, _, _, _, _, _, _, rfl, rfl, rfl, rfl⟩)
    (case g_law => exact ⟨_, _, _, _, _, _, _, _, _, _, rfl, rfl, rfl, rfl⟩)
