import PyProof.Rows.All
import HandS.ForMost
import HandS.Walk
import HandS.Deep
import HandS.TupAny
import HandS.TupMul
import HandS.Small
import HandS.TupLen
import HandS.DictComp
import HandS.IsInst
import HandS.Codes
import HandS.Conv
import HandS.SortInts
import HandS.WideBits
import HandS.Zip
import HandS.Strs
import KE.GoesMore
import KE.GoesEnum
import KE.KDictPairs
import KE.KDictDisplayH
import HandS.TupSets
import KE.KDictSum
import KE.KDictWalk
import PyProof.TupleOfSeq
import PyProof.WalksMore
import PyProof.DictUpdate
import HandS.SetFor
import HandS.NoneIn
import HandS.Style
import PySem.Challenge.RW_movegroups_k73_whole_maps_by_images
section
set_option Elab.async false
set_option linter.all false
set_option maxRecDepth 100000
set_option maxHeartbeats 4000000
namespace DL
open PySem PySem.Spec PyProof.Rows L2

abbrev St := L2.St
/-! ### data -/
inductive D where
  | non | bl (b : Bool) | int (i : Int) | str (x : Str) | ty (n : String) | ref (a : Addr)
  | tup (ds : List D) | tupX (ds : List D) | lst (ds : List D) | rol (ds : List D)
  | dK (kvs : List (Key × D)) | dT (kvs : List (List Key × D))
  | obj (C : Addr) (fs : List (Str × D))

/-- what stands for good: addresses whose objects no one changes any more -/
abbrev Im := Addr → Option HO
def Ext (Z Z' : Im) : Prop := ∀ a o, Z a = some o → Z' a = some o
theorem Ext.rfl' {Z : Im} : Ext Z Z := fun _ _ h => h
theorem Ext.trans {Z Z1 Z2 : Im} (a : Ext Z Z1) (b : Ext Z1 Z2) : Ext Z Z2 := fun c o h => b c o (a c o h)

/-- a tuple (a list) that stands for good -/
def ImT (K : PySem.W.Frag) (Z : Im) (a : Addr) (xs : List V) : Prop :=
  Z a = some (.tup xs)
def ImL (K : PySem.W.Frag) (Z : Im) (a : Addr) (xs : List V) : Prop :=
  Z a = some (.lst xs)

/-- a list that no one changes, it may stand in the written part -/
def ImR (K : PySem.W.Frag) (Z : Im) (a : Addr) (xs : List V) : Prop :=
  (∃ u, Z a = some u ∧ (u = .lst xs ∨ ∃ o, u = .frz o (.lst xs))) ∨ ∀ H, SqL K H a xs

mutual
inductive Rep (K : PySem.W.Frag) (Z : Im) : D → V → Prop
  | non : Rep K Z .non .non
  | bl (b : Bool) : Rep K Z (.bl b) (.bl b)
  | int (i : Int) : Rep K Z (.int i) (.int i)
  | str (x : Str) : Rep K Z (.str x) (.str x)
  | ty (n : String) : Rep K Z (.ty n) (.ty n)
  | ref (a : Addr) : Rep K Z (.ref a) (.ref a)
  | tup (a : Addr) (vs : List V) (ds : List D) : ImT K Z a vs → Reps K Z ds vs → Rep K Z (.tup ds) (.ref a)
  | tupX (a : Addr) (o : Obj) (vs : List V) (ds : List D) : Z a = some (.frz o (.tup vs)) → o.dict = none → Reps K Z ds vs → Rep K Z (.tupX ds) (.ref a)
  | lst (a : Addr) (vs : List V) (ds : List D) : ImL K Z a vs → Reps K Z ds vs → Rep K Z (.lst ds) (.ref a)
  | rol (a : Addr) (vs : List V) (ds : List D) : ImR K Z a vs → Reps K Z ds vs → Rep K Z (.rol ds) (.ref a)
  | dK (a : Addr) (vs : List (Key × V)) (ds : List (Key × D)) : Z a = some (.dK vs) → RepP K Z Key ds vs → Rep K Z (.dK ds) (.ref a)
  | dT (a : Addr) (vs : List (List Key × V)) (ds : List (List Key × D)) : Z a = some (.dT vs) → RepP K Z (List Key) ds vs → Rep K Z (.dT ds) (.ref a)
  | obj (a C dx : Addr) (vs : List (Str × V)) (ds : List (Str × D)) : Z a = some (.ins C dx vs) → RepP K Z Str ds vs → Rep K Z (.obj C ds) (.ref a)
inductive Reps (K : PySem.W.Frag) (Z : Im) : List D → List V → Prop
  | nil : Reps K Z [] []
  | cons {d : D} {v : V} {ds : List D} {vs : List V} : Rep K Z d v → Reps K Z ds vs → Reps K Z (d :: ds) (v :: vs)
inductive RepP (K : PySem.W.Frag) (Z : Im) : (κ : Type) → List (κ × D) → List (κ × V) → Prop
  | nil {κ : Type} : RepP K Z κ [] []
  | cons {κ : Type} {k : κ} {d : D} {v : V} {ds : List (κ × D)} {vs : List (κ × V)} : Rep K Z d v → RepP K Z κ ds vs → RepP K Z κ ((k, d) :: ds) ((k, v) :: vs)
end

section
variable {K : PySem.W.Frag} {Z Z' : Im}
theorem ImT.mono {a : Addr} {xs : List V} (e : Ext Z Z') (h : ImT K Z a xs) : ImT K Z' a xs := e _ _ h
theorem ImL.mono {a : Addr} {xs : List V} (e : Ext Z Z') (h : ImL K Z a xs) : ImL K Z' a xs := e _ _ h
mutual
theorem Rep.mono (e : Ext Z Z') : ∀ {d : D} {v : V}, Rep K Z d v → Rep K Z' d v
  | _, _, .non => .non
  | _, _, .bl b => .bl b
  | _, _, .int b => .int b
  | _, _, .str b => .str b
  | _, _, .ty b => .ty b
  | _, _, .ref b => .ref b
  | _, _, .tup a vs ds h r => .tup a vs ds (h.mono e) (Reps.mono e r)
  | _, _, .tupX a o vs ds h hd r => .tupX a o vs ds (e _ _ h) hd (Reps.mono e r)
  | _, _, .lst a vs ds h r => .lst a vs ds (h.mono e) (Reps.mono e r)
  | _, _, .rol a vs ds h r => .rol a vs ds (h.imp (fun ⟨u, h1, h2⟩ => ⟨u, e _ _ h1, h2⟩) id) (Reps.mono e r)
  | _, _, .dK a vs ds h r => .dK a vs ds (e _ _ h) (RepP.mono e r)
  | _, _, .dT a vs ds h r => .dT a vs ds (e _ _ h) (RepP.mono e r)
  | _, _, .obj a C dx vs ds h r => .obj a C dx vs ds (e _ _ h) (RepP.mono e r)
theorem Reps.mono (e : Ext Z Z') : ∀ {d : List D} {v : List V}, Reps K Z d v → Reps K Z' d v
  | _, _, .nil => .nil
  | _, _, .cons h r => .cons (Rep.mono e h) (Reps.mono e r)
theorem RepP.mono (e : Ext Z Z') : ∀ {κ : Type} {d : List (κ × D)} {v : List (κ × V)}, RepP K Z κ d v → RepP K Z' κ d v
  | _, _, _, .nil => .nil
  | _, _, _, .cons h r => .cons (Rep.mono e h) (RepP.mono e r)
end
theorem Reps.length : ∀ {ds : List D} {vs : List V}, Reps K Z ds vs → ds.length = vs.length
  | _, _, .nil => rfl
  | _, _, .cons _ r => congrArg (· + 1) (Reps.length r)
theorem Reps.get : ∀ {ds : List D} {vs : List V} {i : Nat} {d : D}, Reps K Z ds vs → ds[i]? = some d → ∃ v, vs[i]? = some v ∧ Rep K Z d v
  | _, _, i, _, .nil, e => by simp at e
  | _, _, 0, _, .cons h _, e => by simp at e; subst e; exact ⟨_, rfl, h⟩
  | _, _, i + 1, d, .cons _ r, e => by
    obtain ⟨v, h1, h2⟩ := Reps.get (i := i) (d := d) r (by simpa using e)
    exact ⟨v, by simpa using h1, h2⟩
theorem Reps.getV : ∀ {ds : List D} {vs : List V} {i : Nat} {v : V}, Reps K Z ds vs → vs[i]? = some v → ∃ d, ds[i]? = some d ∧ Rep K Z d v
  | _, _, i, _, .nil, e => by simp at e
  | _, _, 0, _, .cons h _, e => by simp at e; subst e; exact ⟨_, rfl, h⟩
  | _, _, i + 1, d, .cons _ r, e => by
    obtain ⟨v, h1, h2⟩ := Reps.getV (i := i) (v := d) r (by simpa using e)
    exact ⟨v, by simpa using h1, h2⟩
theorem Reps.append : ∀ {ds es : List D} {vs us : List V}, Reps K Z ds vs → Reps K Z es us → Reps K Z (ds ++ es) (vs ++ us)
  | _, _, _, _, .nil, s => s
  | _, _, _, _, .cons h r, s => .cons h (Reps.append r s)
theorem Reps.set {d : D} {v : V} (h : Rep K Z d v) : ∀ {ds : List D} {vs : List V} (i : Nat), Reps K Z ds vs → Reps K Z (ds.set i d) (vs.set i v)
  | _, _, _, .nil => .nil
  | _, _, 0, .cons _ r => .cons h r
  | _, _, i + 1, .cons q r => .cons q (Reps.set h i r)
theorem Reps.take : ∀ {ds : List D} {vs : List V} (n : Nat), Reps K Z ds vs → Reps K Z (ds.take n) (vs.take n)
  | _, _, 0, _ => .nil
  | _, _, _ + 1, .nil => .nil
  | _, _, n + 1, .cons h r => .cons h (Reps.take n r)
theorem Reps.drop : ∀ {ds : List D} {vs : List V} (n : Nat), Reps K Z ds vs → Reps K Z (ds.drop n) (vs.drop n)
  | _, _, 0, h => h
  | _, _, _ + 1, .nil => .nil
  | _, _, n + 1, .cons _ r => Reps.drop n r
theorem Reps.eraseIdx : ∀ {ds : List D} {vs : List V} (n : Nat), Reps K Z ds vs → Reps K Z (ds.eraseIdx n) (vs.eraseIdx n)
  | _, _, _, .nil => .nil
  | _, _, 0, .cons _ r => r
  | _, _, n + 1, .cons h r => .cons h (Reps.eraseIdx n r)
theorem Reps.dropLast {ds : List D} {vs : List V} (h : Reps K Z ds vs) : Reps K Z ds.dropLast vs.dropLast := by
  rw [List.dropLast_eq_take, List.dropLast_eq_take, h.length]; exact h.take _
theorem Reps.reverse : ∀ {ds : List D} {vs : List V}, Reps K Z ds vs → Reps K Z ds.reverse vs.reverse
  | _, _, .nil => .nil
  | _, _, .cons h r => by rw [List.reverse_cons, List.reverse_cons]; exact (Reps.reverse r).append (.cons h .nil)
theorem Reps.ints : ∀ {ns : List Int} {vs : List V}, Reps K Z (ns.map D.int) vs → vs = ns.map V.int
  | [], _, .nil => rfl
  | n :: ns, _, .cons h r => by cases h; rw [Reps.ints r]; rfl
theorem Reps.ofInts : ∀ (ns : List Int), Reps K Z (ns.map D.int) (ns.map V.int)
  | [] => .nil
  | n :: ns => .cons (.int n) (Reps.ofInts ns)
theorem Reps.bls : ∀ {ns : List Bool} {vs : List V}, Reps K Z (ns.map D.bl) vs → vs = ns.map V.bl
  | [], _, .nil => rfl
  | n :: ns, _, .cons h r => by cases h; rw [Reps.bls r]; rfl
theorem RepP.length : ∀ {κ : Type} {ds : List (κ × D)} {vs : List (κ × V)}, RepP K Z κ ds vs → ds.length = vs.length
  | _, _, _, .nil => rfl
  | _, _, _, .cons _ r => congrArg (· + 1) (RepP.length r)
end

/-! ### the memory: what may change -/
inductive MO where
  | lst (ds : List D) | dK (kvs : List (Key × D)) | dT (kvs : List (List Key × D)) | ins (C : Addr) (fs : List (Str × D)) | rol (ds : List D)
abbrev Mem := Addr → Option MO
def mupd (M : Mem) (a : Addr) (o : MO) : Mem := fun b => if b = a then some o else M b
@[simp] theorem mupd_same {M : Mem} {a : Addr} {o : MO} : mupd M a o a = some o := by unfold mupd; rw [if_pos rfl]
theorem mupd_ne {M : Mem} {a b : Addr} {o : MO} (h : b ≠ a) : mupd M a o b = M b := by unfold mupd; rw [if_neg h]
theorem mupd_mupd {M : Mem} {a : Addr} {o u : MO} : mupd (mupd M a o) a u = mupd M a u := by
  funext b; unfold mupd; split <;> rfl
theorem mupd_comm {M : Mem} {a b : Addr} {o u : MO} (h : a ≠ b) : mupd (mupd M a o) b u = mupd (mupd M b u) a o := by
  funext c; unfold mupd
  by_cases e1 : c = b
  · subst e1; rw [if_pos rfl, if_neg (Ne.symm h), if_pos rfl]
  · rw [if_neg e1]; split
    · rfl
    · rfl
theorem mupd_self {M : Mem} {a : Addr} {o : MO} (h : M a = some o) : mupd M a o = M := by
  funext b; unfold mupd; split
  · rename_i e; rw [e, h]
  · rfl

def MOk (K : PySem.W.Frag) (Z : Im) (H : Hp) (a : Addr) : MO → Prop
  | .lst ds => ∃ vs, H a = some (.lst vs) ∧ Reps K Z ds vs
  | .dK ds => ∃ vs, H a = some (.dK vs) ∧ RepP K Z Key ds vs
  | .dT ds => ∃ vs, H a = some (.dT vs) ∧ RepP K Z (List Key) ds vs
  | .ins C ds => ∃ dx vs, H a = some (.ins C dx vs) ∧ RepP K Z Str ds vs
  | .rol ds => ∃ vs, Rd H a (.lst vs) ∧ Reps K Z ds vs
structure Rel (K : PySem.W.Frag) (Z : Im) (M : Mem) (H : Hp) : Prop where
  im : ∀ a o, Z a = some o → H a = some o
  mu : ∀ a o, M a = some o → Z a = none ∧ MOk K Z H a o

section
variable {K : PySem.W.Frag} {Z Z' : Im} {M M' : Mem} {H H' : Hp} {a p : Addr}
theorem MOk.there {o : MO} (h : MOk K Z H a o) : H a ≠ none := by
  cases o with
  | lst _ => obtain ⟨_, e, _⟩ := h; rw [e]; simp
  | dK _ => obtain ⟨_, e, _⟩ := h; rw [e]; simp
  | dT _ => obtain ⟨_, e, _⟩ := h; rw [e]; simp
  | ins _ _ => obtain ⟨_, _, e, _⟩ := h; rw [e]; simp
  | rol _ => obtain ⟨_, e, _⟩ := h; rcases e with e | ⟨_, e⟩ <;> (rw [e]; simp)
theorem MOk.step {o : MO} (h : MOk K Z H a o) (e : Ext Z Z') (k : H' a = H a) : MOk K Z' H' a o := by
  cases o with
  | lst _ => obtain ⟨vs, q, r⟩ := h; exact ⟨vs, k.trans q, r.mono e⟩
  | dK _ => obtain ⟨vs, q, r⟩ := h; exact ⟨vs, k.trans q, r.mono e⟩
  | dT _ => obtain ⟨vs, q, r⟩ := h; exact ⟨vs, k.trans q, r.mono e⟩
  | ins _ _ => obtain ⟨dx, vs, q, r⟩ := h; exact ⟨dx, vs, k.trans q, r.mono e⟩
  | rol _ =>
    obtain ⟨vs, q, r⟩ := h
    refine ⟨vs, ?_, r.mono e⟩
    rcases q with q | ⟨o, q⟩
    · exact .inl (k.trans q)
    · exact .inr ⟨o, k.trans q⟩
theorem Rel.free (R : Rel K Z M H) (h : H p = none) : M p = none ∧ Z p = none := by
  refine ⟨?_, ?_⟩
  · cases q : M p with
    | none => rfl
    | some o => exact absurd h (R.mu p o q).2.there
  · cases q : Z p with
    | none => rfl
    | some o => have := R.im p o q; rw [h] at this; cases this
def zupd (Z : Im) (a : Addr) (o : HO) : Im := fun b => if b = a then some o else Z b
theorem zupd_same {o : HO} : zupd Z a o a = some o := by unfold zupd; rw [if_pos rfl]
theorem zupd_ne {b : Addr} {o : HO} (h : b ≠ a) : zupd Z a o b = Z b := by unfold zupd; rw [if_neg h]
theorem Ext.zupd {o : HO} (h : Z a = none) : Ext Z (zupd Z a o) := fun b u e => by
  rw [zupd_ne]; exact e
  rintro rfl; rw [h] at e; cases e
/-- a new thing that stands for good -/
theorem Rel.newI (R : Rel K Z M H) (h : H p = none) (o : HO) : Rel K (zupd Z p o) M (upd H p o) := by
  obtain ⟨hM, hZ⟩ := R.free h
  refine ⟨fun a u e => ?_, fun a u e => ?_⟩
  · by_cases q : a = p
    · subst q; rw [zupd_same] at e; rw [upd_same]; exact e
    · rw [zupd_ne q] at e; rw [upd_ne q]; exact R.im a u e
  · have q : a ≠ p := by rintro rfl; rw [hM] at e; cases e
    obtain ⟨h1, h2⟩ := R.mu a u e
    exact ⟨by rw [zupd_ne q]; exact h1, h2.step (Ext.zupd hZ) (upd_ne q)⟩
/-- a new thing that no one speaks of -/
theorem Rel.newN (R : Rel K Z M H) (h : H p = none) (o : HO) : Rel K Z M (upd H p o) := by
  obtain ⟨hM, hZ⟩ := R.free h
  refine ⟨fun a u e => ?_, fun a u e => ?_⟩
  · have q : a ≠ p := by rintro rfl; rw [hZ] at e; cases e
    rw [upd_ne q]; exact R.im a u e
  · have q : a ≠ p := by rintro rfl; rw [hM] at e; cases e
    obtain ⟨h1, h2⟩ := R.mu a u e
    exact ⟨h1, h2.step Ext.rfl' (upd_ne q)⟩
/-- a new thing that may change; also a change of what may change -/
theorem Rel.put (R : Rel K Z M H) (hZ : Z p = none) {o : MO} {u : HO} (hm : MOk K Z (upd H p u) p o) : Rel K Z (mupd M p o) (upd H p u) := by
  refine ⟨fun a u e => ?_, fun a u e => ?_⟩
  · have q : a ≠ p := by rintro rfl; rw [hZ] at e; cases e
    rw [upd_ne q]; exact R.im a u e
  · by_cases q : a = p
    · subst q; rw [mupd_same] at e; cases e; exact ⟨hZ, hm⟩
    · rw [mupd_ne q] at e
      obtain ⟨h1, h2⟩ := R.mu a u e
      exact ⟨h1, h2.step Ext.rfl' (upd_ne q)⟩
/-- forgetting -/
theorem Rel.less (R : Rel K Z M H) (h : ∀ a o, M' a = some o → M a = some o) : Rel K Z M' H := ⟨R.im, fun a o e => R.mu a o (h a o e)⟩
/-- forgetting what stands for good, too, at one place -/
theorem Rel.frz {u : HO} (R : Rel K Z M H) (h : H p = some u) (hZ : Z p = none) (hM : M' p = none) (hl : ∀ a o, M' a = some o → M a = some o) : Rel K (zupd Z p u) M' H := by
  refine ⟨fun a w e => ?_, fun a w e => ?_⟩
  · by_cases q : a = p
    · subst q; rw [zupd_same] at e; cases e; exact h
    · rw [zupd_ne q] at e; exact R.im a w e
  · have q : a ≠ p := by rintro rfl; rw [hM] at e; cases e
    obtain ⟨h1, h2⟩ := R.mu a w (hl a w e)
    exact ⟨by rw [zupd_ne q]; exact h1, h2.step (Ext.zupd hZ) rfl⟩
theorem ImT.sq {xs : List V} (h : ImT K Z a xs) (R : Rel K Z M H) : SqT K H a xs := .inl (.inl (R.im _ _ h))
theorem ImR.sq {xs : List V} (h : ImR K Z a xs) (R : Rel K Z M H) : SqL K H a xs := by
  rcases h with ⟨u, h1, h2 | ⟨o, h2⟩⟩ | h
  · subst h2; exact .inl (.inl (R.im _ _ h1))
  · subst h2; exact .inl (.inr ⟨o, R.im _ _ h1⟩)
  · exact h H
theorem ImL.sq {xs : List V} (h : ImL K Z a xs) (R : Rel K Z M H) : SqL K H a xs := .inl (.inl (R.im _ _ h))
end

/-! ### the names' values -/
abbrev DEnv := List (Option D)
def dget : DEnv → Nat → Option D
  | [], _ => none
  | d :: _, 0 => d
  | _ :: t, n + 1 => dget t n
def dset : DEnv → Nat → D → DEnv
  | [], _, _ => []
  | _ :: t, 0, d => some d :: t
  | h :: t, n + 1, d => h :: dset t n d
inductive EnvR (K : PySem.W.Frag) (Z : Im) : DEnv → St → Prop
  | nil : EnvR K Z [] []
  | no {v : Option V} {δ : DEnv} {σ : St} : EnvR K Z δ σ → EnvR K Z (none :: δ) (v :: σ)
  | so {d : D} {v : V} {δ : DEnv} {σ : St} : Rep K Z d v → EnvR K Z δ σ → EnvR K Z (some d :: δ) (some v :: σ)
section
variable {K : PySem.W.Frag} {Z Z' : Im}
theorem EnvR.mono (e : Ext Z Z') : ∀ {δ : DEnv} {σ : St}, EnvR K Z δ σ → EnvR K Z' δ σ
  | _, _, .nil => .nil
  | _, _, .no r => .no (EnvR.mono e r)
  | _, _, .so h r => .so (h.mono e) (EnvR.mono e r)
theorem EnvR.get : ∀ {δ : DEnv} {σ : St} {i : Nat} {d : D}, EnvR K Z δ σ → dget δ i = some d → ∃ v, σ[i]? = some (some v) ∧ Rep K Z d v
  | _, _, i, _, .nil, e => by cases e
  | _, _, 0, _, .no r, e => by cases e
  | _, _, i + 1, d, .no r, e => by
    obtain ⟨v, h1, h2⟩ := EnvR.get (i := i) (d := d) r e
    exact ⟨v, by simpa using h1, h2⟩
  | _, _, 0, _, .so h r, e => by cases e; exact ⟨_, rfl, h⟩
  | _, _, i + 1, d, .so _ r, e => by
    obtain ⟨v, h1, h2⟩ := EnvR.get (i := i) (d := d) r e
    exact ⟨v, by simpa using h1, h2⟩
theorem EnvR.set {d : D} {v : V} (h : Rep K Z d v) : ∀ {δ : DEnv} {σ : St} (i : Nat), EnvR K Z δ σ → EnvR K Z (dset δ i d) (σ.set i (some v))
  | _, _, _, .nil => .nil
  | _, _, 0, .no r => .so h r
  | _, _, i + 1, .no r => .no (EnvR.set h i r)
  | _, _, 0, .so _ r => .so h r
  | _, _, i + 1, .so q r => .so q (EnvR.set h i r)
theorem EnvR.args : ∀ {ds : List D} {vs : List V}, Reps K Z ds vs → ∀ (n : Nat), EnvR K Z (ds.map some ++ List.replicate n none) (vs.map some ++ List.replicate n none)
  | _, _, .nil, 0 => .nil
  | _, _, .nil, n + 1 => .no (EnvR.args .nil n)
  | _, _, .cons h r, n => .so h (EnvR.args r n)
theorem EnvR.length : ∀ {δ : DEnv} {σ : St}, EnvR K Z δ σ → δ.length = σ.length
  | _, _, .nil => rfl
  | _, _, .no r => congrArg (· + 1) (EnvR.length r)
  | _, _, .so _ r => congrArg (· + 1) (EnvR.length r)
end
/-- forgetting the slots of a comprehension's own names -/
def dclr : DEnv → Nat → DEnv
  | [], _ => []
  | _ :: t, 0 => none :: t
  | h :: t, n + 1 => h :: dclr t n
def dwipe (δ : DEnv) : List Nat → DEnv
  | [] => δ
  | i :: is => dclr (dwipe δ is) i
section
variable {K : PySem.W.Frag} {Z Z' : Im}
theorem EnvR.clr : ∀ {δ : DEnv} {σ : St} (i : Nat), EnvR K Z δ σ → EnvR K Z (dclr δ i) (σ.set i none)
  | _, _, _, .nil => .nil
  | _, _, 0, .no r => .no r
  | _, _, 0, .so _ r => .no r
  | _, _, i + 1, .no r => .no (EnvR.clr i r)
  | _, _, i + 1, .so h r => .so h (EnvR.clr i r)
theorem EnvR.wipe {δ : DEnv} {σ : St} (r : EnvR K Z δ σ) : ∀ vs : List Nat, EnvR K Z (dwipe δ vs) (L2.wipe σ vs)
  | [] => r
  | v :: vs => (EnvR.wipe r vs).clr v
end

/-! ### readings over data, and their lifts -/
abbrev KD := D → Mem → Prop
abbrev TED := DEnv → Mem → KD → Prop
abbrev TTD := DEnv → Mem → (Bool → Mem → Prop) → Prop
abbrev TAD := DEnv → Mem → (List D → Mem → Prop) → Prop
structure DEnds where
  nx : DEnv → Mem → Prop
  rt : KD
  bk : DEnv → Mem → Prop := fun _ _ => False
  ct : DEnv → Mem → Prop := fun _ _ => False
abbrev TSD := DEnds → DEnv → Mem → Prop
abbrev TGD := D → DEnv → Mem → (DEnv → Mem → Prop) → Prop

/-- from one state to a later one: what stood for good does, nothing was touched but what the memory tells -/
structure Stp (K : PySem.W.Frag) (Z : Im) (M : Mem) (H : Hp) (Z' : Im) (M' : Mem) (H' : Hp) : Prop where
  ext : Ext Z Z'
  rel : Rel K Z' M' H'
  frm : ∀ a o, H a = some o → M a = none → M' a = none ∧ H' a = some o ∧ ((∀ vs, o ≠ .tup vs) → Z' a = Z a)
section
variable {K : PySem.W.Frag} {Z Z1 Z2 : Im} {M M1 M2 : Mem} {H H1 H2 : Hp}
theorem Stp.refl (R : Rel K Z M H) : Stp K Z M H Z M H := ⟨Ext.rfl', R, fun _ _ h m => ⟨m, h, fun _ => rfl⟩⟩
theorem Stp.trans (a : Stp K Z M H Z1 M1 H1) (b : Stp K Z1 M1 H1 Z2 M2 H2) : Stp K Z M H Z2 M2 H2 :=
  ⟨a.ext.trans b.ext, b.rel, fun c o h m => let ⟨m1, h1, z1⟩ := a.frm c o h m; let ⟨m2, h2, z2⟩ := b.frm c o h1 m1; ⟨m2, h2, fun n => (z2 n).trans (z1 n)⟩⟩
/-- a new thing that stands for good -/
theorem Stp.newI (R : Rel K Z M H) {p : Addr} (h : H p = none) (o : HO) : Stp K Z M H (zupd Z p o) M (upd H p o) :=
  ⟨Ext.zupd (R.free h).2, R.newI h o, fun a u e m => ⟨m, by rw [upd_ne (ne_of_none e h)]; exact e, fun _ => zupd_ne (ne_of_none e h)⟩⟩
theorem Stp.newN (R : Rel K Z M H) {p : Addr} (h : H p = none) (o : HO) : Stp K Z M H Z M (upd H p o) :=
  ⟨Ext.rfl', R.newN h o, fun a u e m => ⟨m, by rw [upd_ne (ne_of_none e h)]; exact e, fun _ => rfl⟩⟩
/-- a new thing that may change -/
theorem Stp.newM (R : Rel K Z M H) {p : Addr} (h : H p = none) {o : MO} {u : HO} (hm : MOk K Z (upd H p u) p o) : M p = none ∧ Stp K Z M H Z (mupd M p o) (upd H p u) :=
  ⟨(R.free h).1, Ext.rfl', R.put (R.free h).2 hm, fun a w e m => by
    have q := ne_of_none e h
    exact ⟨by rw [mupd_ne q]; exact m, by rw [upd_ne q]; exact e, fun _ => rfl⟩⟩
/-- a change -/
theorem Stp.put (R : Rel K Z M H) {p : Addr} {o0 : MO} (h : M p = some o0) {o : MO} {u : HO} (hm : MOk K Z (upd H p u) p o) : Stp K Z M H Z (mupd M p o) (upd H p u) :=
  ⟨Ext.rfl', R.put (R.mu _ _ h).1 hm, fun a w e m => by
    have q : a ≠ p := by rintro rfl; rw [h] at m; cases m
    exact ⟨by rw [mupd_ne q]; exact m, by rw [upd_ne q]; exact e, fun _ => rfl⟩⟩
/-- a change of what no one speaks of -/
theorem Rel.side (R : Rel K Z M H) {p : Addr} (hM : M p = none) (hZ : Z p = none) (u : HO) : Rel K Z M (upd H p u) := by
  refine ⟨fun a o e => ?_, fun a o e => ?_⟩
  · have q : a ≠ p := by rintro rfl; rw [hZ] at e; cases e
    rw [upd_ne q]; exact R.im a o e
  · have q : a ≠ p := by rintro rfl; rw [hM] at e; cases e
    obtain ⟨h1, h2⟩ := R.mu a o e
    exact ⟨h1, h2.step Ext.rfl' (upd_ne q)⟩
/-- .. that was new -/
theorem Stp.side (s : Stp K Z M H Z1 M1 H1) {p : Addr} (h : H p = none) (hM : M1 p = none) (hZ : Z1 p = none) (u : HO) : Stp K Z M H Z1 M1 (upd H1 p u) :=
  ⟨s.ext, s.rel.side hM hZ u, fun a o e m => let ⟨m1, h1, z1⟩ := s.frm a o e m; ⟨m1, by rw [upd_ne (ne_of_none e h)]; exact h1, z1⟩⟩
/-- .. and now stands for good -/
theorem Stp.frz (s : Stp K Z M H Z1 M1 H1) {p : Addr} {u : HO} (h : H p = none) (h1 : H1 p = some u) (hM : M1 p = none) (hZ : Z1 p = none) : Stp K Z M H (zupd Z1 p u) M1 H1 :=
  ⟨s.ext.trans (Ext.zupd hZ), s.rel.frz h1 hZ hM fun _ _ q => q, fun a o e m => let ⟨m1, h1, z1⟩ := s.frm a o e m; ⟨m1, h1, fun n => by rw [zupd_ne (ne_of_none e h)]; exact z1 n⟩⟩
/-- all tuples that are there stand for good -/
def zall (Z : Im) (H : Hp) : Im := fun a => match Z a with
  | some o => some o
  | none => match H a with
    | some (.tup vs) => some (.tup vs)
    | _ => none
theorem zall_some {o : HO} (h : Z a = some o) : zall Z H a = some o := by unfold zall; rw [h]
theorem zall_ne {o : HO} (h : H a = some o) (n : ∀ vs, o ≠ .tup vs) : zall Z H a = Z a := by
  unfold zall
  cases e : Z a with
  | some u => rfl
  | none =>
    dsimp only
    split
    · rename_i vs e2; rw [h] at e2; exact absurd (Option.some.inj e2) (n vs)
    · rfl
theorem zall_tup {vs : List V} (R : Rel K Z M H) (h : H a = some (.tup vs)) : zall Z H a = some (.tup vs) := by
  cases e : Z a with
  | some u => rw [zall_some e]; have := R.im _ _ e; rw [h] at this; exact this.symm
  | none => unfold zall; rw [e]; dsimp only; rw [h]
theorem MOk.notTup {o : MO} {u : HO} (h : MOk K Z H a o) (e : H a = some u) : ∀ vs, u ≠ .tup vs := by
  rintro vs rfl
  cases o with
  | lst _ => obtain ⟨_, q, _⟩ := h; rw [e] at q; cases q
  | dK _ => obtain ⟨_, q, _⟩ := h; rw [e] at q; cases q
  | dT _ => obtain ⟨_, q, _⟩ := h; rw [e] at q; cases q
  | ins _ _ => obtain ⟨_, _, q, _⟩ := h; rw [e] at q; cases q
  | rol _ => obtain ⟨_, q, _⟩ := h; rcases q with q | ⟨_, q⟩ <;> (rw [e] at q; cases q)
theorem Ext.zall : Ext Z (zall Z H) := fun a o e => zall_some e
theorem Stp.tups (R : Rel K Z M H) : Stp K Z M H (zall Z H) M H := by
  refine ⟨Ext.zall, ⟨fun a o e => ?_, fun a o e => ?_⟩, fun a o h m => ⟨m, h, fun n => zall_ne h n⟩⟩
  · cases q : Z a with
    | some u => rw [zall_some q] at e; cases e; exact R.im _ _ q
    | none =>
      unfold DL.zall at e
      rw [q] at e
      dsimp only at e
      split at e
      · rename_i vs e2; cases e; exact e2
      · cases e
  · obtain ⟨h1, h2⟩ := R.mu a o e
    cases q : H a with
    | none => exact absurd q h2.there
    | some u => exact ⟨by rw [zall_ne q (h2.notTup q)]; exact h1, h2.step Ext.zall rfl⟩
end
def Kon (K : PySem.W.Frag) (Z : Im) (M : Mem) (H : Hp) (Qd : KD) (Q : VK) : Prop := ∀ Z' d M' v H', Stp K Z M H Z' M' H' → Rep K Z' d v → Qd d M' → Q v H'
def KonT (K : PySem.W.Frag) (Z : Im) (M : Mem) (H : Hp) (Qd : Bool → Mem → Prop) (Q : Bool → Hp → Prop) : Prop := ∀ Z' b M' H', Stp K Z M H Z' M' H' → Qd b M' → Q b H'
def KonA (K : PySem.W.Frag) (Z : Im) (M : Mem) (H : Hp) (Qd : List D → Mem → Prop) (Q : List V → Hp → Prop) : Prop := ∀ Z' ds M' vs H', Stp K Z M H Z' M' H' → Reps K Z' ds vs → Qd ds M' → Q vs H'
def KonG (K : PySem.W.Frag) (Z : Im) (M : Mem) (H : Hp) (Qd : DEnv → Mem → Prop) (Q : St → Hp → Prop) : Prop := ∀ Z' δ' M' σ' H', Stp K Z M H Z' M' H' → EnvR K Z' δ' σ' → Qd δ' M' → Q σ' H'
structure KonS (K : PySem.W.Frag) (Z : Im) (M : Mem) (H : Hp) (Dd : DEnds) (D : Ends) : Prop where
  nx : KonG K Z M H Dd.nx D.nx
  rt : Kon K Z M H Dd.rt D.rt
  bk : KonG K Z M H Dd.bk D.bk
  ct : KonG K Z M H Dd.ct D.ct
section
variable {K : PySem.W.Frag} {Z Z1 Z2 : Im} {M M1 M2 : Mem} {H H1 H2 : Hp}
theorem Kon.mono {Qd : KD} {Q : VK} (h : Kon K Z M H Qd Q) (e : Stp K Z M H Z1 M1 H1) : Kon K Z1 M1 H1 Qd Q := fun Z' d M' v H' x => h Z' d M' v H' (e.trans x)
theorem KonT.mono {Qd : Bool → Mem → Prop} {Q : Bool → Hp → Prop} (h : KonT K Z M H Qd Q) (e : Stp K Z M H Z1 M1 H1) : KonT K Z1 M1 H1 Qd Q := fun Z' d M' H' x => h Z' d M' H' (e.trans x)
theorem KonA.mono {Qd : List D → Mem → Prop} {Q : List V → Hp → Prop} (h : KonA K Z M H Qd Q) (e : Stp K Z M H Z1 M1 H1) : KonA K Z1 M1 H1 Qd Q := fun Z' d M' v H' x => h Z' d M' v H' (e.trans x)
theorem KonG.mono {Qd : DEnv → Mem → Prop} {Q : St → Hp → Prop} (h : KonG K Z M H Qd Q) (e : Stp K Z M H Z1 M1 H1) : KonG K Z1 M1 H1 Qd Q := fun Z' d M' v H' x => h Z' d M' v H' (e.trans x)
theorem KonS.mono {Dd : DEnds} {D : Ends} (h : KonS K Z M H Dd D) (e : Stp K Z M H Z1 M1 H1) : KonS K Z1 M1 H1 Dd D := ⟨h.nx.mono e, h.rt.mono e, h.bk.mono e, h.ct.mono e⟩
end

def liftE (K : PySem.W.Frag) (t : TED) : TE := fun σ H Q => ∃ Z δ M Qd, Rel K Z M H ∧ EnvR K Z δ σ ∧ t δ M Qd ∧ Kon K Z M H Qd Q
def liftT (K : PySem.W.Frag) (t : TTD) : TT := fun σ H Q => ∃ Z δ M Qd, Rel K Z M H ∧ EnvR K Z δ σ ∧ t δ M Qd ∧ KonT K Z M H Qd Q
def liftA (K : PySem.W.Frag) (t : TAD) : TA := fun σ H Q => ∃ Z δ M Qd, Rel K Z M H ∧ EnvR K Z δ σ ∧ t δ M Qd ∧ KonA K Z M H Qd Q
def liftS (K : PySem.W.Frag) (t : TSD) : TS := fun D σ H => ∃ Z δ M Dd, Rel K Z M H ∧ EnvR K Z δ σ ∧ t Dd δ M ∧ KonS K Z M H Dd D
def liftG (K : PySem.W.Frag) (t : TGD) : TG := fun v σ H Q => ∃ Z δ M d Qd, Rel K Z M H ∧ EnvR K Z δ σ ∧ Rep K Z d v ∧ t d δ M Qd ∧ KonG K Z M H Qd Q

abbrev QE (X : Cx) (e : Expr) (t : TED) : Prop := PE X e (liftE X.K t)
abbrev QT (X : Cx) (e : Expr) (t : TTD) : Prop := PT X e (liftT X.K t)
abbrev QW (X : Cx) (e : Expr) (t : TTD) : Prop := PW X e (liftT X.K t)
abbrev QA (X : Cx) (es : List Expr) (t : TAD) : Prop := PA X es (liftA X.K t)
abbrev QS (X : Cx) (st : Stmt) (t : TSD) : Prop := PS X st (liftS X.K t)
abbrev QSs (X : Cx) (st : List Stmt) (t : TSD) : Prop := PSs X st (liftS X.K t)
abbrev QG (X : Cx) (tg : Expr) (t : TGD) : Prop := PG X tg (liftG X.K t)

section
variable {X : Cx}
theorem pe_mono {e : Expr} {t t' : TE} (h : PE X e t) (m : ∀ σ H Q, t' σ H Q → t σ H Q) : PE X e t' := ⟨fun pins s σ H Q I q => h.run pins s σ H Q I (m σ H Q q)⟩
theorem pt_mono {e : Expr} {t t' : TT} (h : PT X e t) (m : ∀ σ H Q, t' σ H Q → t σ H Q) : PT X e t' := ⟨fun pins s σ H Q I q => h.run pins s σ H Q I (m σ H Q q)⟩
theorem pw_mono {e : Expr} {t t' : TT} (h : PW X e t) (m : ∀ σ H Q, t' σ H Q → t σ H Q) : PW X e t' := ⟨fun wh pins s σ H Q I q => h.run wh pins s σ H Q I (m σ H Q q)⟩
theorem pa_mono {es : List Expr} {t t' : TA} (h : PA X es t) (m : ∀ σ H Q, t' σ H Q → t σ H Q) : PA X es t' := ⟨fun po pins s σ H Q I q => h.run po pins s σ H Q I (m σ H Q q)⟩
theorem ps_mono {st : Stmt} {t t' : TS} (h : PS X st t) (m : ∀ D σ H, t' D σ H → t D σ H) : PS X st t' := ⟨fun pins s σ H D I q => h.run pins s σ H D I (m D σ H q)⟩
theorem pss_mono {st : List Stmt} {t t' : TS} (h : PSs X st t) (m : ∀ D σ H, t' D σ H → t D σ H) : PSs X st t' := ⟨fun pins s σ H D I q => h.run pins s σ H D I (m D σ H q)⟩
theorem pg_mono {tg : Expr} {t t' : TG} (h : PG X tg t) (m : ∀ v σ H Q, t' v σ H Q → t v σ H Q) : PG X tg t' := ⟨fun pins s σ H v u Q I r q => h.run pins s σ H v u Q I r (m v σ H Q q)⟩
end
end DL
end
section
set_option Elab.async false
set_option linter.all false
set_option maxRecDepth 100000
set_option maxHeartbeats 4000000
namespace DL
open PySem PySem.Spec PyProof.Rows L2

/-! ### what a value means -/
def seqM : Option MO → Option (List D)
  | some (.lst ds) => some ds
  | some (.rol ds) => some ds
  | _ => none
def lstD (M : Mem) : D → Option (List D)
  | .lst ds => some ds
  | .rol ds => some ds
  | .ref a => seqM (M a)
  | _ => none
def tupK : D → Option (List D)
  | .tup ds => some ds
  | _ => none
def tupOf : D → Option (List D)
  | .tup ds => some ds
  | .tupX ds => some ds
  | _ => none
def seqD (M : Mem) : D → Option (List D)
  | .tup ds => some ds
  | .tupX ds => some ds
  | .lst ds => some ds
  | .rol ds => some ds
  | .ref a => seqM (M a)
  | _ => none
def truM : Option MO → Option Bool
  | some (.lst ds) => some (!ds.isEmpty)
  | some (.rol ds) => some (!ds.isEmpty)
  | some (.dK ds) => some (!ds.isEmpty)
  | _ => none
def truD (M : Mem) : D → Option Bool
  | .non => some false
  | .bl b => some b
  | .int i => some (i != 0)
  | .tup ds => some (!ds.isEmpty)
  | .tupX ds => some (!ds.isEmpty)
  | .lst ds => some (!ds.isEmpty)
  | .dK ds => some (!ds.isEmpty)
  | .ref a => truM (M a)
  | _ => none
def isNon : D → Bool
  | .non => true
  | _ => false
section
variable {K : PySem.W.Frag} {Z Z' : Im} {M M' : Mem} {H H' : Hp} {a p : Addr}
theorem Rel.lst (R : Rel K Z M H) {ds : List D} (h : M a = some (.lst ds)) : ∃ vs, H a = some (.lst vs) ∧ Reps K Z ds vs := (R.mu _ _ h).2
theorem Rel.rol (R : Rel K Z M H) {ds : List D} (h : M a = some (.rol ds)) : ∃ vs, Rd H a (.lst vs) ∧ Reps K Z ds vs := (R.mu _ _ h).2
theorem Rel.dK (R : Rel K Z M H) {ds : List (Key × D)} (h : M a = some (.dK ds)) : ∃ vs, H a = some (.dK vs) ∧ RepP K Z Key ds vs := (R.mu _ _ h).2
theorem Rel.dT (R : Rel K Z M H) {ds : List (List Key × D)} (h : M a = some (.dT ds)) : ∃ vs, H a = some (.dT vs) ∧ RepP K Z (List Key) ds vs := (R.mu _ _ h).2
theorem Rel.ins (R : Rel K Z M H) {C : Addr} {ds : List (Str × D)} (h : M a = some (.ins C ds)) : ∃ dx vs, H a = some (.ins C dx vs) ∧ RepP K Z Str ds vs := (R.mu _ _ h).2
theorem Rel.zn (R : Rel K Z M H) {o : MO} (h : M a = some o) : Z a = none := (R.mu _ _ h).1
/-- a sequence's value -/
theorem seq_sq (R : Rel K Z M H) {d : D} {v : V} {ds : List D} (r : Rep K Z d v) (h : seqD M d = some ds) : ∃ a vs, v = .ref a ∧ (SqL K H a vs ∨ SqT K H a vs) ∧ Reps K Z ds vs := by
  cases r with
  | tup a vs _ im rr => cases h; exact ⟨a, vs, rfl, .inr (im.sq R), rr⟩
  | tupX a o vs _ im _ rr => cases h; exact ⟨a, vs, rfl, .inr (.inl (.inr ⟨o, R.im _ _ im⟩)), rr⟩
  | lst a vs _ im rr => cases h; exact ⟨a, vs, rfl, .inl (im.sq R), rr⟩
  | rol a vs _ im rr => cases h; exact ⟨a, vs, rfl, .inl (im.sq R), rr⟩
  | ref a =>
    unfold seqD seqM at h
    dsimp only at h
    split at h
    · rename_i e; cases h; obtain ⟨vs, q, rr⟩ := R.lst e; exact ⟨a, vs, rfl, .inl (SqL.of q), rr⟩
    · rename_i e; cases h; obtain ⟨vs, q, rr⟩ := R.rol e; exact ⟨a, vs, rfl, .inl (.inl q), rr⟩
    · cases h
  | _ => cases h
theorem lst_sq (R : Rel K Z M H) {d : D} {v : V} {ds : List D} (r : Rep K Z d v) (h : lstD M d = some ds) : ∃ a vs, v = .ref a ∧ SqL K H a vs ∧ Reps K Z ds vs := by
  cases r with
  | lst a vs _ im rr => cases h; exact ⟨a, vs, rfl, im.sq R, rr⟩
  | rol a vs _ im rr => cases h; exact ⟨a, vs, rfl, im.sq R, rr⟩
  | ref a =>
    unfold lstD seqM at h
    dsimp only at h
    split at h
    · rename_i e; cases h; obtain ⟨vs, q, rr⟩ := R.lst e; exact ⟨a, vs, rfl, SqL.of q, rr⟩
    · rename_i e; cases h; obtain ⟨vs, q, rr⟩ := R.rol e; exact ⟨a, vs, rfl, .inl q, rr⟩
    · cases h
  | _ => cases h
theorem tupk_sq (R : Rel K Z M H) {d : D} {v : V} {ds : List D} (r : Rep K Z d v) (h : tupK d = some ds) : ∃ a vs, v = .ref a ∧ Z a = some (.tup vs) ∧ SqT K H a vs ∧ Reps K Z ds vs := by
  cases r with
  | tup a vs _ im rr => cases h; exact ⟨a, vs, rfl, im, im.sq R, rr⟩
  | _ => cases h
theorem tup_sq (R : Rel K Z M H) {d : D} {v : V} {ds : List D} (r : Rep K Z d v) (h : tupOf d = some ds) : ∃ a vs, v = .ref a ∧ True ∧ SqT K H a vs ∧ Reps K Z ds vs := by
  cases r with
  | tup a vs _ im rr => cases h; exact ⟨a, vs, rfl, trivial, im.sq R, rr⟩
  | tupX a o vs _ im _ rr => cases h; exact ⟨a, vs, rfl, trivial, .inl (.inr ⟨o, R.im _ _ im⟩), rr⟩
  | _ => cases h
theorem isEmpty_reps {ds : List D} {vs : List V} (r : Reps K Z ds vs) : vs.isEmpty = ds.isEmpty := by cases r <;> rfl
theorem isEmpty_repP {κ : Type} {ds : List (κ × D)} {vs : List (κ × V)} (r : RepP K Z κ ds vs) : vs.isEmpty = ds.isEmpty := by cases r <;> rfl
theorem tru_tru (R : Rel K Z M H) {d : D} {v : V} {k : Bool} (r : Rep K Z d v) (h : truD M d = some k) : TruV K v H k := by
  cases r with
  | non => cases h; rfl
  | bl b => cases h; rfl
  | int b => cases h; rfl
  | tup a vs _ im rr => cases h; exact .inr (.inl ⟨vs, im.sq R, by rw [isEmpty_reps rr]⟩)
  | tupX a o vs _ im _ rr => cases h; exact .inr (.inl ⟨vs, .inl (.inr ⟨o, R.im _ _ im⟩), by rw [isEmpty_reps rr]⟩)
  | lst a vs _ im rr => cases h; exact .inl ⟨vs, im.sq R, by rw [isEmpty_reps rr]⟩
  | dK a vs _ im rr => cases h; exact .inr (.inr ⟨vs, R.im _ _ im, by rw [isEmpty_repP rr]⟩)
  | ref a =>
    unfold truD truM at h
    dsimp only at h
    split at h
    · rename_i e; cases h; obtain ⟨vs, q, rr⟩ := R.lst e; exact .inl ⟨vs, SqL.of q, by rw [isEmpty_reps rr]⟩
    · rename_i e; cases h; obtain ⟨vs, q, rr⟩ := R.rol e; exact .inl ⟨vs, .inl q, by rw [isEmpty_reps rr]⟩
    · rename_i e; cases h; obtain ⟨vs, q, rr⟩ := R.dK e; exact .inr (.inr ⟨vs, q, by rw [isEmpty_repP rr]⟩)
    · cases h
  | _ => cases h
end

/-! ### names, constants -/
def dVar (i : Nat) : TED := fun δ M Q => match dget δ i with
  | some d => Q d M
  | none => False
def dC (d : D) : TED := fun _ M Q => Q d M
section
variable {X : Cx}
theorem qv (i : Nat) {x : Str} {pos : Pos} (hN : X.N[i]? = some x := by rfl) (hv : Vis X.env.scope x := by first | exact Or.inl rfl | exact Or.inr (Or.inl rfl) | exact Or.inr (Or.inr rfl)) (hd : (x == ("__debug__" : Str)) = false := by decide)
    (hcd : (x == ("__classdict__" : Str)) = false := by decide) : QE X (.Name x pos) (dVar i) := by
  refine pe_mono (pe_var hN hv hd hcd) fun σ H Q ⟨Z, δ, M, Qd, R, E, h, k⟩ => ?_
  unfold dVar at h
  cases e : dget δ i with
  | none => rw [e] at h; exact h.elim
  | some d =>
    rw [e] at h
    obtain ⟨v, q, r⟩ := E.get e
    exact ⟨v, q, k Z d M v H (.refl R) r h⟩
theorem q_const {e : Expr} {d : D} {v : V} (h : PE X e (tC v)) (r : ∀ Z, Rep X.K Z d v) : QE X e (dC d) :=
  pe_mono h fun σ H Q ⟨Z, δ, M, Qd, R, E, h, k⟩ => k Z d M v H (.refl R) (r Z) h
theorem qe_int {i j pos} : QE X (.Constant (.int i) j pos) (dC (.int i)) := q_const pe_int fun _ => .int i
theorem qe_bl {b j pos} : QE X (.Constant (.bool b) j pos) (dC (.bl b)) := q_const pe_bl fun _ => .bl b
theorem qe_non {j pos} : QE X (.Constant .none j pos) (dC .non) := q_const pe_non fun _ => .non
theorem qe_str {x j pos} : QE X (.Constant (.str x) j pos) (dC (.str x)) := q_const pe_str fun _ => .str x
theorem qe_glob {x : Str} {v : V} {d : D} {u : Value} {pos : Pos} (hg : Gl X x) (hm : X.mg x = some u) (r : RelV v u) (rd : ∀ Z, Rep X.K Z d v) (hd : (x == ("__debug__" : Str)) = false := by decide) : QE X (.Name x pos) (dC d) :=
  q_const (pe_glob hg hm r hd) rd
theorem qe_bltn {x : Str} {v : V} {d : D} {u : Value} {pos : Pos} (hg : Gl X x) (hm : X.mg x = none) (hv : bootBuiltins x = some u) (r : RelV v u) (rd : ∀ Z, Rep X.K Z d v) (hn : x ≠ "__name__" := by decide) (hd : (x == ("__debug__" : Str)) = false := by decide) : QE X (.Name x pos) (dC d) :=
  q_const (pe_bltn hg hm hv r hn hd) rd
end

/-! ### two values, one value: by value -/
/-- an operator over data: the memory is read, the answer is data; nothing is changed -/
abbrev FD2 := Mem → D → D → (D → Prop) → Prop
abbrev FD1 := Mem → D → (D → Prop) → Prop
def dBin (f : FD2) (ta tb : TED) : TED := fun δ M Q => ta δ M fun x M1 => tb δ M1 fun y M2 => f M2 x y fun z => Q z M2
def dUn (f : FD1) (ta : TED) : TED := fun δ M Q => ta δ M fun x M1 => f M1 x fun z => Q z M1
/-- the operator's reading serves the data's -/
def OpD (K : PySem.W.Frag) (r : R2) (f : FD2) : Prop := ∀ Z M H x y u v (Qd : D → Prop) (Q : VK), Rel K Z M H → Rep K Z x u → Rep K Z y v → f M x y Qd →
  (∀ Z' d w H', Stp K Z M H Z' M H' → Rep K Z' d w → Qd d → Q w H') → r u v H Q
def UnD (K : PySem.W.Frag) (r : V → Hp → VK → Prop) (f : FD1) : Prop := ∀ Z M H x u (Qd : D → Prop) (Q : VK), Rel K Z M H → Rep K Z x u → f M x Qd →
  (∀ Z' d w H', Stp K Z M H Z' M H' → Rep K Z' d w → Qd d → Q w H') → r u H Q
section
variable {X : Cx} {a b : Expr} {ta tb : TED} {pos : Pos}
theorem bin_lift {r : R2} {f : FD2} (hf : OpD X.K r f) {σ : St} {H : Hp} {Q : VK} (h : liftE X.K (dBin f ta tb) σ H Q) : tOp r (liftE X.K ta) (liftE X.K tb) σ H Q := by
  obtain ⟨Z, δ, M, Qd, R, E, h, k⟩ := h
  refine ⟨Z, δ, M, _, R, E, h, fun Z1 x M1 u H1 s1 r1 h1 => ?_⟩
  refine ⟨Z1, δ, M1, _, s1.rel, E.mono s1.ext, h1, fun Z2 y M2 v H2 s2 r2 h2 => ?_⟩
  exact hf Z2 M2 H2 x y u v _ Q s2.rel (r1.mono s2.ext) r2 h2 fun Z3 d w H3 s3 r3 h3 => k Z3 d M2 w H3 ((s1.trans s2).trans s3) r3 h3
theorem un_lift {r : V → Hp → VK → Prop} {f : FD1} (hf : UnD X.K r f) {σ : St} {H : Hp} {Q : VK} (h : liftE X.K (dUn f ta) σ H Q) : tUn r (liftE X.K ta) σ H Q := by
  obtain ⟨Z, δ, M, Qd, R, E, h, k⟩ := h
  refine ⟨Z, δ, M, _, R, E, h, fun Z1 x M1 u H1 s1 r1 h1 => ?_⟩
  exact hf Z1 M1 H1 x u _ Q s1.rel r1 h1 fun Z3 d w H3 s3 r3 h3 => k Z3 d M1 w H3 (s1.trans s3) r3 h3
theorem qe_op {op : Operator} {r : R2} {f : FD2} (ho : OpR X (binaryOp op) r) (hf : OpD X.K r f) (ha : QE X a ta) (hb : QE X b tb) : QE X (.BinOp a op b pos) (dBin f ta tb) :=
  pe_mono (pe_op ho ha hb) fun σ H Q h => bin_lift hf h
theorem qe_un {op : UnaryOp} {r : V → Hp → VK → Prop} {f : FD1} (ho : UnR X (unaryOp op) r) (hf : UnD X.K r f) (ha : QE X a ta) : QE X (.UnaryOp op a pos) (dUn f ta) :=
  pe_mono (pe_un ho ha) fun σ H Q h => un_lift hf h
theorem qe_cmp {op : CmpOp} {r : R2} {f : FD2} (ho : OpR X (compareOp op) r) (hf : OpD X.K r f) (ha : QE X a ta) (hb : QE X b tb) (hm : behindInMarks op b = false) : QE X (.Compare a [op] [b] pos) (dBin f ta tb) :=
  pe_mono (pe_cmpR ho ha hb hm) fun σ H Q h => bin_lift hf h
/-- a value that is a truth, as a test -/
def dTest (t : TED) : TTD := fun δ M Q => t δ M fun x M1 => match x with
  | .bl k => Q k M1
  | _ => False
theorem test_lift {t : TED} {σ : St} {H : Hp} {Q : Bool → Hp → Prop} (h : liftT X.K (dTest t) σ H Q) : tTest (liftE X.K t) σ H Q := by
  obtain ⟨Z, δ, M, Qd, R, E, h, k⟩ := h
  refine ⟨Z, δ, M, _, R, E, h, fun Z1 x M1 u H1 s1 r1 h1 => ?_⟩
  cases r1 with
  | bl c => exact ⟨c, rfl, k Z1 c M1 H1 s1 h1⟩
  | _ => exact h1.elim
theorem bin_test {op : CmpOp} {r : R2} {f : FD2} (ho : OpR X (compareOp op) r) (hf : OpD X.K r f) (ha : QE X a ta) (hb : QE X b tb) (hm : behindInMarks op b = false) : QT X (.Compare a [op] [b] pos) (dTest (dBin f ta tb)) := by
  refine pt_mono (pt_cmpR ho ha hb hm) fun σ H Q h => ?_
  obtain ⟨Z, δ, M, Qd, R, E, h, k⟩ := h
  refine bin_lift hf ⟨Z, δ, M, _, R, E, h, fun Z1 x M1 u H1 s1 r1 h1 => ?_⟩
  cases r1 with
  | bl c => exact ⟨c, rfl, k Z1 c M1 H1 s1 h1⟩
  | _ => exact h1.elim
abbrev qt_cmp {op : CmpOp} {r : R2} {f : FD2} (ho : OpR X (compareOp op) r) (hf : OpD X.K r f) (ha : QE X a ta) (hb : QE X b tb) (hm : behindInMarks op b = false) := bin_test (pos := pos) ho hf ha hb hm
/-- any expression whose value is a truth -/
theorem qt_val {e : Expr} {t : TED} (h : QE X e t) (he : ∀ whole, isTrue e X.env whole = (do let v ← whole; standAt e.pos; holding [v] (truthy v)) := by intro _; rfl) : QT X e (dTest t) :=
  pt_mono (pt_val h he) fun σ H Q h => test_lift h
/-- any expression, by its truth -/
def dTru (t : TED) : TTD := fun δ M Q => t δ M fun x M1 => match truD M1 x with
  | some k => Q k M1
  | none => False
theorem qt_tru {e : Expr} {t : TED} (h : QE X e t) (he : ∀ whole, isTrue e X.env whole = (do let v ← whole; standAt e.pos; holding [v] (truthy v)) := by intro _; rfl) : QT X e (dTru t) := by
  refine pt_mono (pt_truth h he) fun σ H Q ⟨Z, δ, M, Qd, R, E, h, k⟩ => ?_
  refine ⟨Z, δ, M, _, R, E, h, fun Z1 x M1 u H1 s1 r1 h1 => ?_⟩
  cases e : truD M1 x with
  | none => rw [e] at h1; exact h1.elim
  | some c => rw [e] at h1; exact ⟨c, tru_tru s1.rel r1 e, k Z1 c M1 H1 s1 h1⟩
end

/-! ### and, or, not -/
section
variable {X : Cx} {a b c : Expr} {ta tb tc : TED} {t u : TTD} {pos : Pos} {rest : List Expr}
def dAnd (t u : TTD) : TTD := fun δ M Q => t δ M fun c M1 => if c = true then u δ M1 Q else Q false M1
def dOr (t u : TTD) : TTD := fun δ M Q => t δ M fun c M1 => if c = true then Q true M1 else u δ M1 Q
def dNot (t : TTD) : TTD := fun δ M Q => t δ M fun c M1 => Q (!c) M1
theorem qw_and1 (ha : QT X a t) : QW X (.BoolOp .And [a] pos) t := pw_and1 ha
theorem qw_or1 (ha : QT X a t) : QW X (.BoolOp .Or [a] pos) t := pw_or1 ha
theorem qw_and (ha : QT X a t) (hb : QW X (.BoolOp .And (b :: rest) pos) u) : QW X (.BoolOp .And (a :: b :: rest) pos) (dAnd t u) := by
  refine pw_mono (pw_and ha hb) fun σ H Q ⟨Z, δ, M, Qd, R, E, h, k⟩ => ?_
  refine ⟨Z, δ, M, _, R, E, h, fun Z1 x M1 H1 s1 h1 => ?_⟩
  cases x with
  | true => rw [if_pos rfl] at h1 ⊢; exact ⟨Z1, δ, M1, Qd, s1.rel, E.mono s1.ext, h1, k.mono s1⟩
  | false => rw [if_neg Bool.false_ne_true] at h1 ⊢; exact k Z1 _ M1 H1 s1 h1
theorem qw_or (ha : QT X a t) (hb : QW X (.BoolOp .Or (b :: rest) pos) u) : QW X (.BoolOp .Or (a :: b :: rest) pos) (dOr t u) := by
  refine pw_mono (pw_or ha hb) fun σ H Q ⟨Z, δ, M, Qd, R, E, h, k⟩ => ?_
  refine ⟨Z, δ, M, _, R, E, h, fun Z1 x M1 H1 s1 h1 => ?_⟩
  cases x with
  | false => rw [if_neg Bool.false_ne_true] at h1 ⊢; exact ⟨Z1, δ, M1, Qd, s1.rel, E.mono s1.ext, h1, k.mono s1⟩
  | true => rw [if_pos rfl] at h1 ⊢; exact k Z1 _ M1 H1 s1 h1
theorem qt_w {e : Expr} (h : QW X e t) : QT X e t := h.pt
theorem qt_not (ha : QT X a t) : QT X (.UnaryOp .Not a pos) (dNot t) := by
  refine pt_mono (pt_not ha) fun σ H Q ⟨Z, δ, M, Qd, R, E, h, k⟩ => ?_
  exact ⟨Z, δ, M, _, R, E, h, fun Z1 x M1 H1 s1 h1 => k Z1 _ M1 H1 s1 h1⟩
/-- as values -/
def dAndV (ta tb : TED) : TED := fun δ M Q => ta δ M fun x M1 => match x with
  | .bl true => tb δ M1 Q
  | .bl false => Q (.bl false) M1
  | _ => False
def dOrV (ta tb : TED) : TED := fun δ M Q => ta δ M fun x M1 => match x with
  | .bl false => tb δ M1 Q
  | .bl true => Q (.bl true) M1
  | _ => False
def dNotV (ta : TED) : TED := fun δ M Q => ta δ M fun x M1 => match x with
  | .bl k => Q (.bl (!k)) M1
  | _ => False
theorem qe_one {op} (h : QE X a ta) : QE X (.BoolOp op [a] pos) ta := pe_one h
theorem qe_and (ha : QE X a ta) (hb : QE X (.BoolOp .And (b :: rest) pos) tb) : QE X (.BoolOp .And (a :: b :: rest) pos) (dAndV ta tb) := by
  refine pe_mono (pe_and ha hb) fun σ H Q ⟨Z, δ, M, Qd, R, E, h, k⟩ => ?_
  refine ⟨Z, δ, M, _, R, E, h, fun Z1 x M1 u H1 s1 r1 h1 => ?_⟩
  cases r1 with
  | bl c =>
    refine ⟨c, rfl, ?_⟩
    cases c with
    | true => rw [if_pos rfl]; exact ⟨Z1, δ, M1, Qd, s1.rel, E.mono s1.ext, h1, k.mono s1⟩
    | false => rw [if_neg Bool.false_ne_true]; exact k Z1 _ M1 _ H1 s1 (.bl false) h1
  | _ => exact h1.elim
theorem qe_or (ha : QE X a ta) (hb : QE X (.BoolOp .Or (b :: rest) pos) tb) : QE X (.BoolOp .Or (a :: b :: rest) pos) (dOrV ta tb) := by
  refine pe_mono (pe_or ha hb) fun σ H Q ⟨Z, δ, M, Qd, R, E, h, k⟩ => ?_
  refine ⟨Z, δ, M, _, R, E, h, fun Z1 x M1 u H1 s1 r1 h1 => ?_⟩
  cases r1 with
  | bl c =>
    refine ⟨c, rfl, ?_⟩
    cases c with
    | false => rw [if_neg Bool.false_ne_true]; exact ⟨Z1, δ, M1, Qd, s1.rel, E.mono s1.ext, h1, k.mono s1⟩
    | true => rw [if_pos rfl]; exact k Z1 _ M1 _ H1 s1 (.bl true) h1
  | _ => exact h1.elim
theorem qe_not (ha : QE X a ta) : QE X (.UnaryOp .Not a pos) (dNotV ta) := by
  refine pe_mono (pe_not ha) fun σ H Q ⟨Z, δ, M, Qd, R, E, h, k⟩ => ?_
  refine ⟨Z, δ, M, _, R, E, h, fun Z1 x M1 u H1 s1 r1 h1 => ?_⟩
  cases r1 with
  | bl c => exact ⟨c, rfl, k Z1 _ M1 _ H1 s1 (.bl _) h1⟩
  | _ => exact h1.elim
def dIf (t : TTD) (ta tb : TED) : TED := fun δ M Q => t δ M fun c M1 => if c = true then ta δ M1 Q else tb δ M1 Q
theorem qe_if (hc : QT X c t) (ha : QE X a ta) (hb : QE X b tb) : QE X (.IfExp c a b pos) (dIf t ta tb) := by
  refine pe_mono (pe_ifExp hc ha hb) fun σ H Q ⟨Z, δ, M, Qd, R, E, h, k⟩ => ?_
  refine ⟨Z, δ, M, _, R, E, h, fun Z1 x M1 H1 s1 h1 => ?_⟩
  cases x with
  | true => rw [if_pos rfl] at h1 ⊢; exact ⟨Z1, δ, M1, Qd, s1.rel, E.mono s1.ext, h1, k.mono s1⟩
  | false => rw [if_neg Bool.false_ne_true] at h1 ⊢; exact ⟨Z1, δ, M1, Qd, s1.rel, E.mono s1.ext, h1, k.mono s1⟩
/-- a < b <= c -/
def dChain (f g : FD2) (ta tb tc : TED) : TED := fun δ M Q => ta δ M fun x M1 => tb δ M1 fun y M2 => f M2 x y fun z => match z with
  | .bl true => tc δ M2 fun w M3 => g M3 y w fun o => Q o M3
  | .bl false => Q (.bl false) M2
  | _ => False
theorem chain_lift {r r' : R2} {f g : FD2} (hf : OpD X.K r f) (hg : OpD X.K r' g) {σ : St} {H : Hp} {Q : VK} (h : liftE X.K (dChain f g ta tb tc) σ H Q) : tChain r r' (liftE X.K ta) (liftE X.K tb) (liftE X.K tc) σ H Q := by
  obtain ⟨Z, δ, M, Qd, R, E, h, k⟩ := h
  refine ⟨Z, δ, M, _, R, E, h, fun Z1 x M1 u H1 s1 r1 h1 => ?_⟩
  refine ⟨Z1, δ, M1, _, s1.rel, E.mono s1.ext, h1, fun Z2 y M2 v H2 s2 r2 h2 => ?_⟩
  refine hf Z2 M2 H2 x y u v _ _ s2.rel (r1.mono s2.ext) r2 h2 fun Z3 d w H3 s3 r3 h3 => ?_
  cases r3 with
  | bl c =>
    refine ⟨c, rfl, ?_⟩
    cases c with
    | true =>
      rw [if_pos rfl]
      refine ⟨Z3, δ, M2, _, s3.rel, E.mono ((s1.trans s2).trans s3).ext, h3, fun Z4 w' M4 v' H4 s4 r4 h4 => ?_⟩
      exact hg Z4 M4 H4 y w' v v' _ Q s4.rel ((r2.mono s3.ext).mono s4.ext) r4 h4 fun Z5 d5 w5 H5 s5 r5 h5 => k Z5 d5 M4 w5 H5 ((((s1.trans s2).trans s3).trans s4).trans s5) r5 h5
    | false => rw [if_neg Bool.false_ne_true]; exact k Z3 _ M2 _ H3 ((s1.trans s2).trans s3) (.bl false) h3
  | _ => exact h3.elim
theorem qe_chain {op op' : CmpOp} {r r' : R2} {f g : FD2} (ho : OpR X (compareOp op) r) (hf : OpD X.K r f) (ho' : OpR X (compareOp op') r') (hg : OpD X.K r' g) (ha : QE X a ta) (hb : QE X b tb) (hc : QE X c tc) (hm : lastMarks [op, op'] [b, c] = false := by rfl) : QE X (.Compare a [op, op'] [b, c] pos) (dChain f g ta tb tc) :=
  pe_mono (pe_chain ho ho' ha hb hc (hm := hm)) fun σ H Q h => chain_lift hf hg h
theorem qt_chain {op op' : CmpOp} {r r' : R2} {f g : FD2} (ho : OpR X (compareOp op) r) (hf : OpD X.K r f) (ho' : OpR X (compareOp op') r') (hg : OpD X.K r' g) (ha : QE X a ta) (hb : QE X b tb) (hc : QE X c tc) (hm : lastMarks [op, op'] [b, c] = false := by rfl) : QT X (.Compare a [op, op'] [b, c] pos) (dTest (dChain f g ta tb tc)) := by
  refine pt_mono (pt_chain ho ho' ha hb hc (hm := hm)) fun σ H Q ⟨Z, δ, M, Qd, R, E, h, k⟩ => ?_
  refine chain_lift hf hg ⟨Z, δ, M, _, R, E, h, fun Z1 x M1 u H1 s1 r1 h1 => ?_⟩
  cases r1 with
  | bl c => exact ⟨c, rfl, k Z1 c M1 H1 s1 h1⟩
  | _ => exact h1.elim
end

/-! ### operators -/
def fII (g : Int → Int → Int) : FD2 := fun _ x y Q => match x, y with
  | .int i, .int j => Q (.int (g i j))
  | _, _ => False
def fIIc (c : Int → Int → Prop) (g : Int → Int → Int) : FD2 := fun _ x y Q => match x, y with
  | .int i, .int j => c i j ∧ Q (.int (g i j))
  | _, _ => False
def fIB (g : Int → Int → Bool) : FD2 := fun _ x y Q => match x, y with
  | .int i, .int j => Q (.bl (g i j))
  | _, _ => False
section
variable {K : PySem.W.Frag}
theorem od_II {g : Int → Int → Int} : OpD K (rI0 fun i j => .int (g i j)) (fII g) := fun Z M H x y u v Qd Q R r1 r2 h k => by
  cases r1 <;> first | exact h.elim | skip
  cases r2 <;> first | exact h.elim | skip
  exact ⟨_, _, rfl, rfl, k Z _ _ H (.refl R) (.int _) h⟩
theorem od_IIc {c : Int → Int → Prop} {g : Int → Int → Int} : OpD K (rI c fun i j => .int (g i j)) (fIIc c g) := fun Z M H x y u v Qd Q R r1 r2 h k => by
  cases r1 <;> first | exact h.elim | skip
  cases r2 <;> first | exact h.elim | skip
  exact ⟨_, _, rfl, rfl, h.1, k Z _ _ H (.refl R) (.int _) h.2⟩
theorem od_IB {g : Int → Int → Bool} : OpD K (rI0 fun i j => .bl (g i j)) (fIB g) := fun Z M H x y u v Qd Q R r1 r2 h k => by
  cases r1 <;> first | exact h.elim | skip
  cases r2 <;> first | exact h.elim | skip
  exact ⟨_, _, rfl, rfl, k Z _ _ H (.refl R) (.bl _) h⟩
end
abbrev fAdd : FD2 := fII fun i j => i + j
abbrev fSub : FD2 := fII fun i j => i - j
abbrev fMul : FD2 := fIIc CMul fun i j => i * j
abbrev fDiv : FD2 := fIIc CDiv fun i j => i / j
abbrev fMod : FD2 := fIIc (fun _ j => 0 < j) fun i j => i % j
abbrev fPow : FD2 := fIIc CPow fun i j => i ^ j.toNat
abbrev fLt : FD2 := fIB fun i j => decide (i < j)
abbrev fLe : FD2 := fIB fun i j => decide (i ≤ j)
abbrev fGt : FD2 := fIB fun i j => decide (j < i)
abbrev fGe : FD2 := fIB fun i j => decide (j ≤ i)
/-- ==, != of plain values -/
def scalD : D → Option V
  | .non => some .non
  | .bl b => some (.bl b)
  | .int i => some (.int i)
  | .str x => some (.str x)
  | _ => none
def fEqS (neg : Bool) : FD2 := fun _ x y Q => match scalD x, scalD y with
  | some u, some v => scal u v = true ∧ Q (.bl (xor neg (decide (u = v))))
  | _, _ => False
def fIsN (neg : Bool) : FD2 := fun _ x y Q => match y with
  | .non => Q (.bl (xor neg (isNon x)))
  | _ => False
section
variable {K : PySem.W.Frag}
theorem scalD_rep {Z : Im} {d : D} {v u : V} (r : Rep K Z d v) (h : scalD d = some u) : v = u := by
  cases r <;> first | (cases h; rfl) | cases h
theorem od_eqS : OpD K rEq (fEqS false) := fun Z M H x y u v Qd Q R r1 r2 h k => by
  unfold fEqS at h
  cases e1 : scalD x with
  | none => rw [e1] at h; exact h.elim
  | some u' =>
    cases e2 : scalD y with
    | none => rw [e1, e2] at h; exact h.elim
    | some v' =>
      rw [e1, e2] at h
      rw [scalD_rep r1 e1, scalD_rep r2 e2]
      exact ⟨h.1, k Z _ _ H (.refl R) (.bl _) (by simpa using h.2)⟩
theorem od_neS : OpD K rNe (fEqS true) := fun Z M H x y u v Qd Q R r1 r2 h k => by
  unfold fEqS at h
  cases e1 : scalD x with
  | none => rw [e1] at h; exact h.elim
  | some u' =>
    cases e2 : scalD y with
    | none => rw [e1, e2] at h; exact h.elim
    | some v' =>
      rw [e1, e2] at h
      rw [scalD_rep r1 e1, scalD_rep r2 e2]
      exact ⟨h.1, k Z _ _ H (.refl R) (.bl _) (by simpa using h.2)⟩
theorem rep_isN {Z : Im} {d : D} {v : V} (r : Rep K Z d v) : decide (v = .non) = isNon d := by
  cases r <;> rfl
theorem od_isN : OpD K (fun x y H Q => y = .non ∧ Q (.bl (decide (x = .non))) H) (fIsN false) := fun Z M H x y u v Qd Q R r1 r2 h k => by
  cases r2 <;> first | exact h.elim | skip
  exact ⟨rfl, k Z _ _ H (.refl R) (.bl _) (by rw [rep_isN r1]; simpa [fIsN] using h)⟩
theorem od_notN : OpD K (fun x y H Q => y = .non ∧ Q (.bl (!decide (x = .non))) H) (fIsN true) := fun Z M H x y u v Qd Q R r1 r2 h k => by
  cases r2 <;> first | exact h.elim | skip
  exact ⟨rfl, k Z _ _ H (.refl R) (.bl _) (by rw [rep_isN r1]; simpa [fIsN] using h)⟩
end

/-! ### statements -/
section
variable {X : Cx} {st : Stmt} {rest : List Stmt} {t u : TSD} {e c : Expr} {te : TED} {tc : TTD} {pos : Pos}
def dNext : TSD := fun D δ M => D.nx δ M
def dSeq (t u : TSD) : TSD := fun D δ M => t { D with nx := u D } δ M
theorem qs_nil : QSs X [] dNext := pss_mono pss_nil fun D σ H ⟨Z, δ, M, Dd, R, E, h, k⟩ => k.nx Z δ M σ H (.refl R) E h
theorem qs_cons (h1 : QS X st t) (h2 : QSs X rest u) : QSs X (st :: rest) (dSeq t u) := by
  refine pss_mono (pss_cons h1 h2) fun D σ H ⟨Z, δ, M, Dd, R, E, h, k⟩ => ?_
  exact ⟨Z, δ, M, { Dd with nx := u Dd }, R, E, h, ⟨fun Z1 δ1 M1 σ1 H1 s1 E1 h1 => ⟨Z1, δ1, M1, Dd, s1.rel, E1, h1, k.mono s1⟩, k.rt, k.bk, k.ct⟩⟩
theorem qs_one (h1 : QS X st t) : QSs X [st] t := pss_one h1
def dBreak : TSD := fun D δ M => D.bk δ M
def dCont : TSD := fun D δ M => D.ct δ M
theorem qs_pass : QS X (.Pass pos) dNext := ps_mono ps_pass fun D σ H ⟨Z, δ, M, Dd, R, E, h, k⟩ => k.nx Z δ M σ H (.refl R) E h
theorem qs_break : QS X (.Break pos) dBreak := ps_mono ps_break fun D σ H ⟨Z, δ, M, Dd, R, E, h, k⟩ => k.bk Z δ M σ H (.refl R) E h
theorem qs_continue : QS X (.Continue pos) dCont := ps_mono ps_continue fun D σ H ⟨Z, δ, M, Dd, R, E, h, k⟩ => k.ct Z δ M σ H (.refl R) E h
def dDrop (te : TED) : TSD := fun D δ M => te δ M fun _ M1 => D.nx δ M1
theorem qs_expr (he : QE X e te) (hs : swapsWith e none pos.line X.env = pure false := by rfl) : QS X (.Expr e pos) (dDrop te) := by
  refine ps_mono (ps_expr he hs) fun D σ H ⟨Z, δ, M, Dd, R, E, h, k⟩ => ?_
  exact ⟨Z, δ, M, _, R, E, h, fun Z1 d M1 v H1 s1 r1 h1 => k.nx Z1 δ M1 σ H1 s1 (E.mono s1.ext) h1⟩
def dRet (te : TED) : TSD := fun D δ M => te δ M D.rt
theorem qs_ret (he : QE X e te) : QS X (.Return (some e) pos) (dRet te) := by
  refine ps_mono (ps_ret he) fun D σ H ⟨Z, δ, M, Dd, R, E, h, k⟩ => ?_
  exact ⟨Z, δ, M, _, R, E, h, k.rt⟩
def dRetN : TSD := fun D _ M => D.rt .non M
theorem qs_retN : QS X (.Return none pos) dRetN := ps_mono ps_retN fun D σ H ⟨Z, δ, M, Dd, R, E, h, k⟩ => k.rt Z .non M .non H (.refl R) .non h
def dIfS (c : TTD) (t u : TSD) : TSD := fun D δ M => c δ M fun b M1 => if b = true then t D δ M1 else u D δ M1
theorem qs_if {a b : List Stmt} (hc : QT X c tc) (ha : QSs X a t) (hb : QSs X b u) : QS X (.If c a b pos) (dIfS tc t u) := by
  refine ps_mono (ps_if hc ha hb) fun D σ H ⟨Z, δ, M, Dd, R, E, h, k⟩ => ?_
  refine ⟨Z, δ, M, _, R, E, h, fun Z1 x M1 H1 s1 h1 => ?_⟩
  cases x with
  | true => rw [if_pos rfl] at h1 ⊢; exact ⟨Z1, δ, M1, Dd, s1.rel, E.mono s1.ext, h1, k.mono s1⟩
  | false => rw [if_neg Bool.false_ne_true] at h1 ⊢; exact ⟨Z1, δ, M1, Dd, s1.rel, E.mono s1.ext, h1, k.mono s1⟩
def dNever : TSD := fun _ _ _ => False
theorem qs_never : QS X st dNever := ps_mono ps_never fun D σ H ⟨Z, δ, M, Dd, R, E, h, k⟩ => h.elim
theorem qss_never {sts : List Stmt} : QSs X sts dNever := pss_mono pss_never fun D σ H ⟨Z, δ, M, Dd, R, E, h, k⟩ => h.elim
/-- name = e -/
def dSet (i : Nat) (te : TED) : TSD := fun D δ M => te δ M fun d M1 => D.nx (dset δ i d) M1
theorem qs_set {i : Nat} {x : Str} {pos' : Pos} (hN : X.N.Nodup) (hi : X.N[i]? = some x) (hx : Loc X.env.scope x) (he : QE X e te) (hs : swapsWith e (some (.Name x pos')) pos.line X.env = pure false := by rfl) (hf : X.fn x = true ∨ X.env.scope.names.lookup x = some .local := by first | exact .inl rfl | exact .inr rfl | assumption) :
    QS X (.Assign [.Name x pos'] e pos) (dSet i te) := by
  refine ps_mono (ps_set hN hi hx he hs hf) fun D σ H ⟨Z, δ, M, Dd, R, E, h, k⟩ => ?_
  exact ⟨Z, δ, M, _, R, E, h, fun Z1 d M1 v H1 s1 r1 h1 => k.nx Z1 _ M1 _ H1 s1 ((E.mono s1.ext).set r1 i) h1⟩
/-- a, b = x, y -/
def dPar (i j : Nat) (ta : TAD) : TSD := fun D δ M => ta δ M fun ds M1 => match ds with
  | [x, y] => D.nx (dset (dset δ i x) j y) M1
  | _ => False
theorem qs_par {i j : Nat} {x y : Str} {a b : Expr} {ta : TAD} {px py pt : Pos} {kt k2 pt2} (hc : X.calm = true) (hN : X.N.Nodup) (hi : X.N[i]? = some x) (hj : X.N[j]? = some y) (hij : i ≠ j)
    (hx : X.env.scope.names.lookup x = some .local) (hy : X.env.scope.names.lookup y = some .local) (ha : QA X [a, b] ta)
    (hw : swappedStores [.Tuple [.Name x px, .Name y py] kt pt] (.Tuple [a, b] k2 pt2) X.env = pure (some [x, y]))
    (hs : swapsWithSole [.Tuple [.Name x px, .Name y py] kt pt] (.Tuple [a, b] k2 pt2) pos.line X.env = pure false := by rfl) :
    QS X (.Assign [.Tuple [.Name x px, .Name y py] kt pt] (.Tuple [a, b] k2 pt2) pos) (dPar i j ta) := by
  refine ps_mono (ps_par hc hN hi hj hij hx hy ha hw hs) fun D σ H ⟨Z, δ, M, Dd, R, E, h, k⟩ => ?_
  refine ⟨Z, δ, M, _, R, E, h, fun Z1 ds M1 vs H1 s1 r1 h1 => ?_⟩
  cases r1 with
  | nil => exact h1.elim
  | cons q1 r1 =>
    cases r1 with
    | nil => exact h1.elim
    | cons q2 r1 =>
      cases r1 with
      | cons _ _ => exact h1.elim
      | nil => exact ⟨_, _, rfl, k.nx Z1 _ M1 _ H1 s1 (((E.mono s1.ext).set q1 i).set q2 j) h1⟩
/-- name op= e -/
def dAug (i : Nat) (f : FD2) (te : TED) : TSD := fun D δ M => match dget δ i with
  | some x => te δ M fun y M1 => f M1 x y fun z => D.nx (dset δ i z) M1
  | none => False
theorem qs_aug {i : Nat} {x : Str} {op : Operator} {f : FD2} {r : TIp} {pos' : Pos} (hN : X.N.Nodup) (hi : X.N[i]? = some x) (hx : Loc X.env.scope x) (ho : PIp X op r) (hf : OpD X.K r f) (he : QE X e te) (hfn : X.fn x = true ∨ X.env.scope.names.lookup x = some .local := by first | exact .inl rfl | exact .inr rfl | assumption) :
    QS X (.AugAssign (.Name x pos') op e pos) (dAug i f te) := by
  refine ps_mono (ps_aug hN hi hx he ho hfn) fun D σ H ⟨Z, δ, M, Dd, R, E, h, k⟩ => ?_
  unfold dAug at h
  cases eg : dget δ i with
  | none => rw [eg] at h; exact h.elim
  | some d =>
    rw [eg] at h
    obtain ⟨v, q, r0⟩ := E.get eg
    refine ⟨v, q, Z, δ, M, _, R, E, h, fun Z1 y M1 w H1 s1 r1 h1 => ?_⟩
    exact hf Z1 M1 H1 d y v w _ _ s1.rel (r0.mono s1.ext) r1 h1 fun Z2 z w2 H2 s2 r2 h2 => k.nx Z2 _ M1 _ H2 (s1.trans s2) ((E.mono (s1.trans s2).ext).set r2 i) h2
end

/-! ### arguments, displays -/
section
variable {X : Cx} {e : Expr} {es : List Expr} {te : TED} {t : TAD} {pos : Pos}
def dNil : TAD := fun _ M Q => Q [] M
def dCons (ta : TED) (tr : TAD) : TAD := fun δ M Q => ta δ M fun x M1 => tr δ M1 fun xs M2 => Q (x :: xs) M2
theorem qa_nil : QA X [] dNil := pa_mono pa_nil fun σ H Q ⟨Z, δ, M, Qd, R, E, h, k⟩ => k Z [] M [] H (.refl R) .nil h
theorem qa_cons (ha : QE X e te) (hr : QA X es t) (hs : starEach (e :: es) X.env = (false, eval e X.env) :: starEach es X.env := by rfl) : QA X (e :: es) (dCons te t) := by
  refine pa_mono (pa_cons ha hr hs) fun σ H Q ⟨Z, δ, M, Qd, R, E, h, k⟩ => ?_
  refine ⟨Z, δ, M, _, R, E, h, fun Z1 x M1 u H1 s1 r1 h1 => ?_⟩
  exact ⟨Z1, δ, M1, _, s1.rel, E.mono s1.ext, h1, fun Z2 ds M2 vs H2 s2 r2 h2 => k Z2 _ M2 _ H2 (s1.trans s2) (.cons (r1.mono s2.ext) r2) h2⟩
def dTup (t : TAD) : TED := fun δ M Q => t δ M fun ds M1 => ds.length ≤ sizeLine ∧ Q (.tup ds) M1
/-- a list that nobody will change -/
def dLstI (t : TAD) : TED := fun δ M Q => t δ M fun ds M1 => ds.length ≤ sizeLine ∧ Q (.lst ds) M1
/-- a list that may change -/
def dLstM (t : TAD) : TED := fun δ M Q => t δ M fun ds M1 => ds.length ≤ sizeLine ∧ ∀ p, M1 p = none → Q (.ref p) (mupd M1 p (.lst ds))
theorem qe_tup {x1} (h : QA X es t) : QE X (.Tuple es x1 pos) (dTup t) := by
  refine pe_mono (pe_tup h) fun σ H Q ⟨Z, δ, M, Qd, R, E, h, k⟩ => ?_
  refine ⟨Z, δ, M, _, R, E, h, fun Z1 ds M1 vs H1 s1 r1 h1 => ⟨by rw [← r1.length]; exact h1.1, fun p hp => ?_⟩⟩
  have sn := Stp.newI s1.rel hp (.tup vs)
  exact k _ _ M1 _ _ (s1.trans sn) (.tup p vs ds zupd_same (r1.mono sn.ext)) h1.2
theorem qe_lstI (h : QA X es t) : QE X (.List es pos) (dLstI t) := by
  refine pe_mono (pe_lst h) fun σ H Q ⟨Z, δ, M, Qd, R, E, h, k⟩ => ?_
  refine ⟨Z, δ, M, _, R, E, h, fun Z1 ds M1 vs H1 s1 r1 h1 => ⟨by rw [← r1.length]; exact h1.1, fun p hp => ?_⟩⟩
  have sn := Stp.newI s1.rel hp (.lst vs)
  exact k _ _ M1 _ _ (s1.trans sn) (.lst p vs ds zupd_same (r1.mono sn.ext)) h1.2
theorem qe_lstM (h : QA X es t) : QE X (.List es pos) (dLstM t) := by
  refine pe_mono (pe_lst h) fun σ H Q ⟨Z, δ, M, Qd, R, E, h, k⟩ => ?_
  refine ⟨Z, δ, M, _, R, E, h, fun Z1 ds M1 vs H1 s1 r1 h1 => ⟨by rw [← r1.length]; exact h1.1, fun p hp => ?_⟩⟩
  obtain ⟨f1, f2⟩ := Stp.newM s1.rel hp (o := .lst ds) (u := .lst vs) ⟨vs, upd_same, r1⟩
  exact k _ _ _ _ _ (s1.trans f2) (.ref p) (h1.2 p f1)
end

/-! ### while -/
section
variable {X : Cx} {pos : Pos}
def whileGo (c : TTD) (tb : TSD) (D : DEnds) : Nat → DEnv → Mem → Prop
  | 0, _, _ => False
  | n + 1, δ, M => c δ M fun b M1 => if b = true then tb { nx := whileGo c tb D n, rt := D.rt, bk := D.nx, ct := whileGo c tb D n } δ M1 else D.nx δ M1
def dWhile (c : TTD) (tb : TSD) : TSD := fun D δ M => ∃ n, whileGo c tb D n δ M
theorem qs_while {c : Expr} {body : List Stmt} {tc : TTD} {tb : TSD} (hp : PassesOwn (model X.prog X.w) X.A X.env X.xe) (hc : QT X c tc) (hb : QSs X body tb) : QS X (.While c body [] pos) (dWhile tc tb) := by
  refine ps_mono (ps_while hp hc hb) fun D σ H ⟨Z, δ, M, Dd, R, E, ⟨n, h⟩, k⟩ => ?_
  refine ⟨fun m σ1 H1 => ∃ Z1 δ1 M1, Stp X.K Z M H Z1 M1 H1 ∧ EnvR X.K Z1 δ1 σ1 ∧ whileGo tc tb Dd m δ1 M1, ⟨n, Z, δ, M, .refl R, E, h⟩, ?_⟩
  rintro m σ1 H1 ⟨Z1, δ1, M1, s1, E1, h1⟩
  cases m with
  | zero => exact h1.elim
  | succ m =>
    refine ⟨Z1, δ1, M1, _, s1.rel, E1, h1, fun Z2 x M2 H2 s2 h2 => ?_⟩
    cases x with
    | false => rw [if_neg Bool.false_ne_true] at h2 ⊢; exact k.nx Z2 δ1 M2 σ1 H2 (s1.trans s2) (E1.mono s2.ext) h2
    | true =>
      rw [if_pos rfl] at h2 ⊢
      refine ⟨fun σ' H' => ∃ Z1 δ1 M1, Stp X.K Z M H Z1 M1 H' ∧ EnvR X.K Z1 δ1 σ' ∧ whileGo tc tb Dd m δ1 M1, fun σ' H' q => ⟨m, Nat.lt_succ_self m, q⟩, ?_⟩
      have s12 := s1.trans s2
      exact ⟨Z2, δ1, M2, _, s2.rel, E1.mono s2.ext, h2, ⟨fun Z3 δ3 M3 σ3 H3 s3 E3 h3 => ⟨Z3, δ3, M3, s12.trans s3, E3, h3⟩, k.rt.mono s12, k.nx.mono s12, fun Z3 δ3 M3 σ3 H3 s3 E3 h3 => ⟨Z3, δ3, M3, s12.trans s3, E3, h3⟩⟩⟩
end
end DL
end
section
set_option Elab.async false
set_option linter.all false
set_option maxRecDepth 100000
set_option maxHeartbeats 4000000
namespace DL
open PySem PySem.Spec PyProof.Rows L2

/-! ### plain data: ints, texts, None, tuples and lists of such -/
mutual
def plainD : D → Bool
  | .non => true
  | .int _ => true
  | .str x => PyData.canLay0 (.str x)
  | .tup ds => plainDs ds
  | .tupX ds => plainDs ds
  | .lst ds => plainDs ds
  | _ => false
def plainDs : List D → Bool
  | [] => true
  | d :: ds => plainD d && plainDs ds
end
mutual
def depD : D → Nat
  | .tup ds => depDs ds + 1
  | .tupX ds => depDs ds + 1
  | .lst ds => depDs ds + 1
  | _ => 0
def depDs : List D → Nat
  | [] => 0
  | d :: ds => max (depD d) (depDs ds)
end
mutual
def toPy : D → PyData
  | .int i => .int i
  | .str x => .str x
  | .tup ds => .tuple (toPys ds)
  | .tupX ds => .tuple (toPys ds)
  | .lst ds => .list (toPys ds)
  | _ => .none
def toPys : List D → List PyData
  | [] => []
  | d :: ds => toPy d :: toPys ds
end
mutual
theorem plain_lay : ∀ d : D, plainD d = true → (toPy d).canLay0 = true
  | .non, _ => by simp [toPy, PyData.canLay0]
  | .int _, _ => by simp [toPy, PyData.canLay0]
  | .str x, h => by simpa [toPy, plainD] using h
  | .tup ds, h => by simp only [toPy, PyData.canLay0]; exact plains_lay ds (by simpa [plainD] using h)
  | .tupX ds, h => by simp only [toPy, PyData.canLay0]; exact plains_lay ds (by simpa [plainD] using h)
  | .lst ds, h => by simp only [toPy, PyData.canLay0]; exact plains_lay ds (by simpa [plainD] using h)
  | .bl _, h => by simp [plainD] at h
  | .rol _, h => by simp [plainD] at h
  | .ty _, h => by simp [plainD] at h
  | .ref _, h => by simp [plainD] at h
  | .dK _, h => by simp [plainD] at h
  | .dT _, h => by simp [plainD] at h
  | .obj _ _, h => by simp [plainD] at h
theorem plains_lay : ∀ ds : List D, plainDs ds = true → PyData.canLayAll0 (toPys ds) = true
  | [], _ => by simp [toPys, PyData.canLayAll0]
  | d :: ds, h => by
    have h' : plainD d = true ∧ plainDs ds = true := by simpa [plainDs] using h
    simp only [toPys, PyData.canLayAll0, plain_lay d h'.1, plains_lay ds h'.2, Bool.and_self]
end
mutual
theorem plain_dep : ∀ d : D, (toPy d).depth ≤ depD d
  | .non => by simp [toPy, PyData.depth]
  | .int _ => by simp [toPy, PyData.depth]
  | .str x => by simp [toPy, PyData.depth]
  | .tup ds => by simp only [toPy, PyData.depth, depD]; exact Nat.succ_le_succ (plains_dep ds)
  | .tupX ds => by simp only [toPy, PyData.depth, depD]; exact Nat.succ_le_succ (plains_dep ds)
  | .lst ds => by simp only [toPy, PyData.depth, depD]; exact Nat.succ_le_succ (plains_dep ds)
  | .bl _ => by simp [toPy, PyData.depth]
  | .rol _ => by simp [toPy, PyData.depth]
  | .ty _ => by simp [toPy, PyData.depth]
  | .ref _ => by simp [toPy, PyData.depth]
  | .dK _ => by simp [toPy, PyData.depth]
  | .dT _ => by simp [toPy, PyData.depth]
  | .obj _ _ => by simp [toPy, PyData.depth]
theorem plains_dep : ∀ ds : List D, PyData.depthAll (toPys ds) ≤ depDs ds
  | [] => by simp [toPys, PyData.depthAll]
  | d :: ds => by
    simp only [toPys, PyData.depthAll, depDs]
    have h1 := plain_dep d
    have h2 := plains_dep ds
    omega
end
theorem plain_shaped {d : D} (h : plainD d = true) (h2 : depD d ≤ 64) : SeqAt.shaped (toPy d) = true := by
  unfold SeqAt.shaped
  rw [plain_lay d h, Bool.true_and]
  exact decide_eq_true (Nat.le_trans (plain_dep d) h2)
mutual
/-- the value, whichever way the tuple was made -/
def nrm : D → D
  | .tup ds => .tup (nrms ds)
  | .tupX ds => .tup (nrms ds)
  | .lst ds => .lst (nrms ds)
  | d => d
def nrms : List D → List D
  | [] => []
  | d :: ds => nrm d :: nrms ds
end
theorem nrms_map : ∀ ds : List D, nrms ds = ds.map nrm
  | [] => by simp [nrms]
  | d :: ds => by simp [nrms, nrms_map ds]
theorem nrms_ints (ns : List Int) : nrms (ns.map D.int) = ns.map D.int := by
  rw [nrms_map, List.map_map]
  exact List.map_congr_left fun n _ => by simp [nrm]
mutual
theorem eqv_iff : ∀ d e : D, plainD d = true → plainD e = true → (PyData.eqv (toPy d) (toPy e) = true ↔ nrm d = nrm e)
  | .non, .non, _, _ => by simp [toPy, PyData.eqv, nrm]
  | .non, .int _, _, _ => by simp [toPy, PyData.eqv, nrm]
  | .non, .str _, _, _ => by simp [toPy, PyData.eqv, nrm]
  | .non, .tup _, _, _ => by simp [toPy, PyData.eqv, nrm]
  | .non, .tupX _, _, _ => by simp [toPy, PyData.eqv, nrm]
  | .non, .lst _, _, _ => by simp [toPy, PyData.eqv, nrm]
  | .int _, .non, _, _ => by simp [toPy, PyData.eqv, nrm]
  | .int _, .int _, _, _ => by simp [toPy, PyData.eqv, nrm]
  | .int _, .str _, _, _ => by simp [toPy, PyData.eqv, nrm]
  | .int _, .tup _, _, _ => by simp [toPy, PyData.eqv, nrm]
  | .int _, .tupX _, _, _ => by simp [toPy, PyData.eqv, nrm]
  | .int _, .lst _, _, _ => by simp [toPy, PyData.eqv, nrm]
  | .str _, .non, _, _ => by simp [toPy, PyData.eqv, nrm]
  | .str _, .int _, _, _ => by simp [toPy, PyData.eqv, nrm]
  | .str _, .str _, _, _ => by simp [toPy, PyData.eqv, nrm]
  | .str _, .tup _, _, _ => by simp [toPy, PyData.eqv, nrm]
  | .str _, .tupX _, _, _ => by simp [toPy, PyData.eqv, nrm]
  | .str _, .lst _, _, _ => by simp [toPy, PyData.eqv, nrm]
  | .tup _, .non, _, _ => by simp [toPy, PyData.eqv, nrm]
  | .tup _, .int _, _, _ => by simp [toPy, PyData.eqv, nrm]
  | .tup _, .str _, _, _ => by simp [toPy, PyData.eqv, nrm]
  | .tup ds, .tup es, h1, h2 => by
    simp only [toPy, PyData.eqv, nrm, D.tup.injEq]
    exact eqvs_iff ds es (by simpa [plainD] using h1) (by simpa [plainD] using h2)
  | .tup ds, .tupX es, h1, h2 => by
    simp only [toPy, PyData.eqv, nrm, D.tup.injEq]
    exact eqvs_iff ds es (by simpa [plainD] using h1) (by simpa [plainD] using h2)
  | .tup _, .lst _, _, _ => by simp [toPy, PyData.eqv, nrm]
  | .tupX _, .non, _, _ => by simp [toPy, PyData.eqv, nrm]
  | .tupX _, .int _, _, _ => by simp [toPy, PyData.eqv, nrm]
  | .tupX _, .str _, _, _ => by simp [toPy, PyData.eqv, nrm]
  | .tupX ds, .tup es, h1, h2 => by
    simp only [toPy, PyData.eqv, nrm, D.tup.injEq]
    exact eqvs_iff ds es (by simpa [plainD] using h1) (by simpa [plainD] using h2)
  | .tupX ds, .tupX es, h1, h2 => by
    simp only [toPy, PyData.eqv, nrm, D.tup.injEq]
    exact eqvs_iff ds es (by simpa [plainD] using h1) (by simpa [plainD] using h2)
  | .tupX _, .lst _, _, _ => by simp [toPy, PyData.eqv, nrm]
  | .lst _, .non, _, _ => by simp [toPy, PyData.eqv, nrm]
  | .lst _, .int _, _, _ => by simp [toPy, PyData.eqv, nrm]
  | .lst _, .str _, _, _ => by simp [toPy, PyData.eqv, nrm]
  | .lst _, .tup _, _, _ => by simp [toPy, PyData.eqv, nrm]
  | .lst _, .tupX _, _, _ => by simp [toPy, PyData.eqv, nrm]
  | .lst ds, .lst es, h1, h2 => by
    simp only [toPy, PyData.eqv, nrm, D.lst.injEq]
    exact eqvs_iff ds es (by simpa [plainD] using h1) (by simpa [plainD] using h2)
  | .bl _, _, h, _ => by simp [plainD] at h
  | .rol _, _, h, _ => by simp [plainD] at h
  | .ty _, _, h, _ => by simp [plainD] at h
  | .ref _, _, h, _ => by simp [plainD] at h
  | .dK _, _, h, _ => by simp [plainD] at h
  | .dT _, _, h, _ => by simp [plainD] at h
  | .obj _ _, _, h, _ => by simp [plainD] at h
  | _, .bl _, _, h => by simp [plainD] at h
  | _, .rol _, _, h => by simp [plainD] at h
  | _, .ty _, _, h => by simp [plainD] at h
  | _, .ref _, _, h => by simp [plainD] at h
  | _, .dK _, _, h => by simp [plainD] at h
  | _, .dT _, _, h => by simp [plainD] at h
  | _, .obj _ _, _, h => by simp [plainD] at h
theorem eqvs_iff : ∀ ds es : List D, plainDs ds = true → plainDs es = true → (PyData.eqvAll (toPys ds) (toPys es) = true ↔ nrms ds = nrms es)
  | [], [], _, _ => by simp [toPys, PyData.eqvAll, nrms]
  | [], _ :: _, _, _ => by simp [toPys, PyData.eqvAll, nrms]
  | _ :: _, [], _, _ => by simp [toPys, PyData.eqvAll, nrms]
  | d :: ds, e :: es, h1, h2 => by
    have h1' : plainD d = true ∧ plainDs ds = true := by simpa [plainDs] using h1
    have h2' : plainD e = true ∧ plainDs es = true := by simpa [plainDs] using h2
    simp only [toPys, PyData.eqvAll, nrms, Bool.and_eq_true, List.cons.injEq]
    rw [eqv_iff d e h1'.1 h2'.1, eqvs_iff ds es h1'.2 h2'.2]
end
open Classical in
theorem eqv_dec {d e : D} (h1 : plainD d = true) (h2 : plainD e = true) : PyData.eqv (toPy d) (toPy e) = decide (nrm d = nrm e) := by
  by_cases q : nrm d = nrm e
  · rw [decide_eq_true q]; exact (eqv_iff d e h1 h2).mpr q
  · rw [decide_eq_false q]
    exact Bool.eq_false_iff.mpr fun z => q ((eqv_iff d e h1 h2).mp z)
section
variable {K : PySem.W.Frag} {Z : Im} {M : Mem} {H : Hp}
mutual
theorem rep_dp (R : Rel K Z M H) : ∀ {d : D} {v : V}, Rep K Z d v → plainD d = true → Dp K H v (toPy d)
  | _, _, .non, _ => by simp only [toPy]; exact .non
  | _, _, .int i, _ => by simp only [toPy]; exact .int i
  | _, _, .str x, _ => by simp only [toPy]; exact .str x
  | _, _, .tup a vs ds im r, h => by simp only [toPy]; exact .tup (im.sq R) (reps_dp R r (by simpa [plainD] using h))
  | _, _, .tupX a o vs ds im _ r, h => by simp only [toPy]; exact .tup (.inl (.inr ⟨o, R.im _ _ im⟩)) (reps_dp R r (by simpa [plainD] using h))
  | _, _, .lst a vs ds im r, h => by simp only [toPy]; exact .lst (im.sq R) (reps_dp R r (by simpa [plainD] using h))
  | _, _, .bl _, h => by simp [plainD] at h
  | _, _, .rol _ _ _ _ _, h => by simp [plainD] at h
  | _, _, .ty _, h => by simp [plainD] at h
  | _, _, .ref _, h => by simp [plainD] at h
  | _, _, .dK _ _ _ _ _, h => by simp [plainD] at h
  | _, _, .dT _ _ _ _ _, h => by simp [plainD] at h
  | _, _, .obj _ _ _ _ _ _ _, h => by simp [plainD] at h
theorem reps_dp (R : Rel K Z M H) : ∀ {ds : List D} {vs : List V}, Reps K Z ds vs → plainDs ds = true → DpAll K H vs (toPys ds)
  | _, _, .nil, _ => by simp only [toPys]; exact .nil
  | _, _, .cons (d := d) (ds := ds) r rr, h => by
    have h' : plainD d = true ∧ plainDs ds = true := by simpa [plainDs] using h
    simp only [toPys]
    exact .cons (rep_dp R r h'.1) (reps_dp R rr h'.2)
end
end
/-- a list that may change, as data -/
def valM (a : Addr) : Option MO → D
  | some (.lst ds) => .lst ds
  | some (.rol ds) => .lst ds
  | _ => .ref a
def valD (M : Mem) : D → D
  | .ref a => valM a (M a)
  | d => d
def okD (d : D) : Prop := plainD d = true ∧ depD d ≤ 64
section
variable {K : PySem.W.Frag} {Z : Im} {M : Mem} {H : Hp}
theorem val_dp (R : Rel K Z M H) {d : D} {v : V} (r : Rep K Z d v) (h : plainD (valD M d) = true) : Dp K H v (toPy (valD M d)) := by
  cases r with
  | ref a =>
    unfold valD valM at h ⊢
    dsimp only at h ⊢
    split at h
    · rename_i e; obtain ⟨vs, q, rr⟩ := R.lst e; simp only [toPy]; exact .lst (SqL.of q) (reps_dp R rr (by simpa [plainD] using h))
    · rename_i e; obtain ⟨vs, q, rr⟩ := R.rol e; simp only [toPy]; exact .lst (.inl q) (reps_dp R rr (by simpa [plainD] using h))
    · simp [plainD] at h
  | tup a vs ds im rr => exact rep_dp R (.tup a vs ds im rr) h
  | tupX a o vs ds im hd rr => exact rep_dp R (.tupX a o vs ds im hd rr) h
  | lst a vs ds im rr => exact rep_dp R (.lst a vs ds im rr) h
  | rol a vs ds im rr => exact rep_dp R (.rol a vs ds im rr) h
  | non => exact rep_dp R .non h
  | int i => exact rep_dp R (.int i) h
  | str x => exact rep_dp R (.str x) h
  | bl b => exact rep_dp R (.bl b) h
  | ty b => exact rep_dp R (.ty b) h
  | dK a vs ds im rr => exact rep_dp R (.dK a vs ds im rr) h
  | dT a vs ds im rr => exact rep_dp R (.dT a vs ds im rr) h
  | obj a C dx vs ds im rr => exact rep_dp R (.obj a C dx vs ds im rr) h
end

/-! ### == and != : of truths, of plain data -/
open Classical in
def fEq (neg : Bool) : FD2 := fun M x y Q => match x, y with
  | .bl a, .bl b => Q (.bl (xor neg (a == b)))
  | _, _ => okD (valD M x) ∧ okD (valD M y) ∧ Q (.bl (xor neg (decide (nrm (valD M x) = nrm (valD M y)))))
section
variable {X : Cx}
theorem od_eq : OpD X.K (fun x y H Q => rEq x y H Q ∨ rEqD X.K x y H Q) (fEq false) := fun Z M H x y u v Qd Q R r1 r2 h k => by
  unfold fEq at h
  split at h
  · cases r1; cases r2
    refine .inl ⟨rfl, k Z _ _ H (.refl R) (.bl _) ?_⟩
    rw [dec_bl]
    simpa using h
  · obtain ⟨⟨p1, q1⟩, ⟨p2, q2⟩, h⟩ := h
    refine .inr ⟨_, _, val_dp R r1 p1, val_dp R r2 p2, plain_shaped p1 q1, plain_shaped p2 q2, ?_⟩
    rw [eqv_dec p1 p2]
    exact k Z _ _ H (.refl R) (.bl _) (by simpa using h)
theorem od_ne : OpD X.K (fun x y H Q => rNe x y H Q ∨ rNeD X.K x y H Q) (fEq true) := fun Z M H x y u v Qd Q R r1 r2 h k => by
  unfold fEq at h
  split at h
  · rename_i a b
    cases r1; cases r2
    refine .inl ⟨rfl, ?_⟩
    refine k Z _ _ H (.refl R) (.bl _) ?_
    rw [dec_bl]
    simpa using h
  · obtain ⟨⟨p1, q1⟩, ⟨p2, q2⟩, h⟩ := h
    refine .inr ⟨_, _, val_dp R r1 p1, val_dp R r2 p2, plain_shaped p1 q1, plain_shaped p2 q2, ?_⟩
    rw [eqv_dec p1 p2]
    exact k Z _ _ H (.refl R) (.bl _) (by simpa using h)
theorem or_eq (hu : X.A.units + 64 < cLine) : OpR X (compareOp .Eq) (fun x y H Q => rEq x y H Q ∨ rEqD X.K x y H Q) := op_eq.or (op_eqD hu)
theorem or_ne (hu : X.A.units + 64 < cLine) : OpR X (compareOp .NotEq) (fun x y H Q => rNe x y H Q ∨ rNeD X.K x y H Q) := op_ne.or (op_neD hu)
end

/-! ### dicts as data -/
def keyD : D → Option Key
  | .int i => some (.inl i)
  | .str x => some (.inr x)
  | _ => none
def keysD : List D → Option (List Key)
  | [] => some []
  | d :: ds => match keyD d, keysD ds with
    | some k, some ks => some (k :: ks)
    | _, _ => none
def dkM : Option MO → Option (List (Key × D))
  | some (.dK kvs) => some kvs
  | _ => none
def dtM : Option MO → Option (List (List Key × D))
  | some (.dT kvs) => some kvs
  | _ => none
def dictK (M : Mem) : D → Option (List (Key × D))
  | .dK kvs => some kvs
  | .ref a => dkM (M a)
  | _ => none
def dictT (M : Mem) : D → Option (List (List Key × D))
  | .dT kvs => some kvs
  | .ref a => dtM (M a)
  | _ => none
section
variable {K : PySem.W.Frag} {Z : Im} {M : Mem} {H : Hp}
theorem dk_sq (R : Rel K Z M H) {d : D} {v : V} {kvs : List (Key × D)} (r : Rep K Z d v) (h : dictK M d = some kvs) : ∃ a vs, v = .ref a ∧ H a = some (.dK vs) ∧ RepP K Z Key kvs vs := by
  cases r with
  | dK a vs ds im rr => cases h; exact ⟨a, vs, rfl, R.im _ _ im, rr⟩
  | ref a =>
    unfold dictK dkM at h
    dsimp only at h
    split at h
    · rename_i e; cases h; obtain ⟨vs, q, rr⟩ := R.dK e; exact ⟨a, vs, rfl, q, rr⟩
    · cases h
  | _ => cases h
theorem dt_sq (R : Rel K Z M H) {d : D} {v : V} {kvs : List (List Key × D)} (r : Rep K Z d v) (h : dictT M d = some kvs) : ∃ a vs, v = .ref a ∧ H a = some (.dT vs) ∧ RepP K Z (List Key) kvs vs := by
  cases r with
  | dT a vs ds im rr => cases h; exact ⟨a, vs, rfl, R.im _ _ im, rr⟩
  | ref a =>
    unfold dictT dtM at h
    dsimp only at h
    split at h
    · rename_i e; cases h; obtain ⟨vs, q, rr⟩ := R.dT e; exact ⟨a, vs, rfl, q, rr⟩
    · cases h
  | _ => cases h
end
section
variable {κ : Type} [DecidableEq κ]
def valA (kvs : List (κ × D)) (k : κ) : Option D := (kvs.find? fun kv => decide (kv.1 = k)).map (·.2)
def putA (kvs : List (κ × D)) (k : κ) (v : D) : List (κ × D) :=
  if (kvs.any fun kv => decide (kv.1 = k)) = true then kvs.map fun kv => if kv.1 = k then (kv.1, v) else kv else kvs ++ [(k, v)]
end
section
variable {K : PySem.W.Frag} {Z : Im} {M : Mem} {H : Hp}
theorem rep_key {d : D} {v : V} {k : Key} (r : Rep K Z d v) (h : keyD d = some k) : v = kV k := by
  cases r <;> first | (cases h; rfl) | cases h
theorem reps_keys : ∀ {ds : List D} {vs : List V} {ks : List Key}, Reps K Z ds vs → keysD ds = some ks → vs = ks.map kV
  | _, _, ks, .nil, h => by cases h; rfl
  | _, _, ks, .cons (d := d) (ds := ds) r rr, h => by
    unfold keysD at h
    split at h
    · rename_i k ks' e1 e2
      cases h
      rw [rep_key r e1, reps_keys rr e2]; rfl
    · cases h
theorem repP_val {κ : Type} [DecidableEq κ] (k : κ) : ∀ {ds : List (κ × D)} {vs : List (κ × V)}, RepP K Z κ ds vs → (valA ds k = none → valV vs k = none) ∧ ∀ d, valA ds k = some d → ∃ v, valV vs k = some v ∧ Rep K Z d v
  | _, _, .nil => ⟨fun _ => rfl, fun d h => by cases h⟩
  | _, _, .cons (k := k0) (ds := ds) (vs := vs) r rr => by
    have ih := repP_val k rr
    by_cases e : k0 = k
    · refine ⟨fun h => ?_, fun d h => ?_⟩
      · simp [valA, List.find?_cons, e] at h
      · rw [valV_pos e]
        have h2 : ∀ d1, valA ((k0, d1) :: ds) k = some d1 := fun d1 => by simp [valA, List.find?_cons, e]
        rw [h2] at h; cases h
        exact ⟨_, rfl, r⟩
    · have h1 : ∀ d, valA ((k0, d) :: ds) k = valA ds k := fun d => by simp [valA, List.find?_cons, e]
      rw [h1, valV_neg e]
      exact ih
theorem repP_any {κ : Type} [DecidableEq κ] (k : κ) : ∀ {ds : List (κ × D)} {vs : List (κ × V)}, RepP K Z κ ds vs → (ds.any fun kv => decide (kv.1 = k)) = vs.any fun kv => decide (kv.1 = k)
  | _, _, .nil => rfl
  | _, _, .cons r rr => by rw [List.any_cons, List.any_cons, repP_any k rr]
theorem repP_repl {κ : Type} [DecidableEq κ] (k : κ) {d : D} {v : V} (r0 : Rep K Z d v) : ∀ {ds : List (κ × D)} {vs : List (κ × V)}, RepP K Z κ ds vs →
    RepP K Z κ (ds.map fun kv => if kv.1 = k then (kv.1, d) else kv) (vs.map fun kv => if kv.1 = k then (kv.1, v) else kv)
  | _, _, .nil => .nil
  | _, _, .cons (k := k0) r rr => by
    rw [List.map_cons, List.map_cons]
    by_cases e : k0 = k
    · rw [if_pos e, if_pos e]; exact .cons r0 (repP_repl k r0 rr)
    · rw [if_neg e, if_neg e]; exact .cons r (repP_repl k r0 rr)
theorem RepP.append {κ : Type} : ∀ {ds es : List (κ × D)} {vs us : List (κ × V)}, RepP K Z κ ds vs → RepP K Z κ es us → RepP K Z κ (ds ++ es) (vs ++ us)
  | _, _, _, _, .nil, s => s
  | _, _, _, _, .cons r rr, s => .cons r (RepP.append rr s)
theorem repP_put {κ : Type} [DecidableEq κ] (k : κ) {d : D} {v : V} (r0 : Rep K Z d v) {ds : List (κ × D)} {vs : List (κ × V)} (r : RepP K Z κ ds vs) : RepP K Z κ (putA ds k d) (putK vs k v) := by
  unfold putA putK
  rw [repP_any k r]
  split
  · exact repP_repl k r0 r
  · exact r.append (.cons r0 .nil)
/-- the tuple key at its address -/
theorem tup_key (R : Rel K Z M H) {ds : List D} {b : Addr} {vs : List V} {ks : List Key} (h : Z b = some (.tup vs)) (rr : Reps K Z ds vs) (hk : keysD ds = some ks) : H b = some (.tup (ks.map kV)) := by
  rw [← reps_keys rr hk]; exact R.im _ _ h
end

/-- what stands in a dict for a key; none of the outer option: not to be told -/
def lookK (M : Mem) (x y : D) : Option (Option D) := (dictK M x).bind fun kvs => (keyD y).map fun k => valA kvs k
def lookT (M : Mem) (x y : D) : Option (Option D) := (dictT M x).bind fun kvs => ((tupK y).bind keysD).map fun ks => valA kvs ks
def lookD (M : Mem) (x y : D) : Option (Option D) := match lookK M x y with
  | some o => some o
  | none => lookT M x y
/-- what a dict tells of a key, by the heap -/
theorem look_get {K : PySem.W.Frag} {Z : Im} {M : Mem} {H : Hp} (R : Rel K Z M H) {x y : D} {u v : V} {o : Option D} (r1 : Rep K Z x u) (r2 : Rep K Z y v) (h : lookD M x y = some o) :
    ∃ a, u = .ref a ∧ (∃ ov, DGet H a v ov ∧ (o = none → ov = none) ∧ ∀ d, o = some d → ∃ w, ov = some w ∧ Rep K Z d w) := by
  have hK : lookK M x y = some o → ∃ a, u = .ref a ∧ (∃ ov, DGet H a v ov ∧ (o = none → ov = none) ∧ ∀ d, o = some d → ∃ w, ov = some w ∧ Rep K Z d w) := fun h => by
    obtain ⟨kvs, e1, h⟩ := Option.bind_eq_some_iff.mp h
    obtain ⟨k, e2, h⟩ := Option.map_eq_some_iff.mp h
    subst h
    obtain ⟨a, vs, eu, ha, rr⟩ := dk_sq R r1 e1
    obtain ⟨p1, p2⟩ := repP_val k rr
    exact ⟨a, eu, valV vs k, by rw [rep_key r2 e2]; exact DGet.k ha, p1, p2⟩
  unfold lookD at h
  split at h
  · rename_i o' e
    cases h
    exact hK e
  · obtain ⟨kvs, e1, h⟩ := Option.bind_eq_some_iff.mp h
    obtain ⟨k, e2, h⟩ := Option.map_eq_some_iff.mp h
    obtain ⟨ds, e3, e2⟩ := Option.bind_eq_some_iff.mp e2
    subst h
    obtain ⟨a, vs, eu, ha, rr⟩ := dt_sq R r1 e1
    obtain ⟨p1, p2⟩ := repP_val k rr
    obtain ⟨b, us, ev, zb, _, r3⟩ := tupk_sq R r2 e3
    subst ev
    exact ⟨a, eu, valV vs k, DGet.t ha (tup_key R zb r3 e2), p1, p2⟩
end DL
end
section
set_option Elab.async false
set_option linter.all false
set_option maxRecDepth 100000
set_option maxHeartbeats 4000000
namespace DL
open PySem PySem.Spec PyProof.Rows L2

/-! ### x[i] -/
def fIx : FD2 := fun M x y Q => match seqD M x with
  | some ds => match y with
    | .int i => match atI ds i with
      | some d => Q d
      | none => False
    | _ => False
  | none => match lookD M x y with
    | some (some d) => Q d
    | _ => match x, y with
      | .str z, .int i => z.length ≤ sizeLine ∧ match atI z.cps.toList i with
        | some c => Q (.str ⟨#[c]⟩)
        | none => False
      | _, _ => False
section
variable {X : Cx}
theorem atI_rep {K : PySem.W.Frag} {Z : Im} {ds : List D} {vs : List V} {i : Int} {d : D} (r : Reps K Z ds vs) (h : atI ds i = some d) : ∃ v, atI vs i = some v ∧ Rep K Z d v := by
  unfold atI at h ⊢
  rw [← r.length]
  cases e : ixN ds.length i with
  | none => rw [e] at h; cases h
  | some j =>
    rw [e] at h
    obtain ⟨v, q, rr⟩ := r.get (show ds[j]? = some d from h)
    exact ⟨v, q, rr⟩
def rIxDct : R2 := fun x y H Q => ∃ a v, x = .ref a ∧ DGet H a y (some v) ∧ Q v H
theorem ix_dct (hu : X.A.units + 1 < cLine) : IxR X rIxDct := by
  intro value slice pins s σ H x y v u Q I rx ry ⟨a, w, ex, g, q⟩ hs
  subst ex
  obtain rfl : v = Value.ref a := rx
  have hT := dict_typeIs I g
  unfold subscriptTail
  refine wpAny_bind ?_
  rw [getitemInPython_of_ne hT.not_modules]
  refine wpAny_bind (wpAny_specialOf hT PySem.F.slot_dict_getitem.lookup ?_)
  have fin : wpAny (model X.prog X.w) X.A (subscripted slice false (.ref a) u) (fun r s₃ => wpAny (model X.prog X.w) X.A (letTemporaryGo value (.ref a) r >>= fun _ => pure r) (EP X pins σ Q) X.xe s₃) X.xe s := by
    rw [hs]
    exact wpAny_operating (wpAny_mono (d_getItem (Q := EP X pins σ Q) hu I g ry fun w' s' I' rw' => ⟨w, H, I', rw', q⟩) (fun r s₃ h₃ => wpAny_bind (wpAny_letTemporaryGo (wpAny_pure h₃))) fun _ _ x => x)
  first
    | exact wpAny_pure (wpAny_bind fin)
    | exact wpAny_bind (wpAny_pure (wpAny_bind fin))
    | exact wpAny_bind fin
theorem or_ix (hu : X.A.units + 1 < cLine) : IxR X (fun x y H Q => rIx X.K x y H Q ∨ rIxDct x y H Q) := ix_seq.or (ix_dct hu)
theorem od_ix : OpD X.K (fun x y H Q => rIx X.K x y H Q ∨ rIxDct x y H Q) fIx := fun Z M H x y u v Qd Q R r1 r2 h k => by
  unfold fIx at h
  split at h
  · rename_i ds e1
    split at h
    · rename_i i
      split at h
      · rename_i d e2
        obtain ⟨a, vs, eu, hs, rr⟩ := seq_sq R r1 e1
        obtain ⟨w, e3, rw'⟩ := atI_rep rr e2
        cases r2
        have fin := k Z d w H (.refl R) rw' h
        rcases hs with hs | hs
        · exact .inl (.inl ⟨a, vs, i, w, eu, rfl, hs, e3, fin⟩)
        · exact .inl (.inr (.inl ⟨a, vs, i, w, eu, rfl, hs, e3, fin⟩))
      · exact h.elim
    · exact h.elim
  · split at h
    · rename_i d e1
      obtain ⟨a, eu, ov, g, _, p⟩ := look_get R r1 r2 e1
      obtain ⟨w, e2, rw'⟩ := p d rfl
      rw [e2] at g
      exact .inr ⟨a, w, eu, g, k Z d w H (.refl R) rw' h⟩
    · cases r1 <;> first | exact h.elim | skip
      cases r2 <;> first | exact h.elim | skip
      obtain ⟨hz, h⟩ := h
      split at h
      · rename_i c e
        exact .inl (.inr (.inr ⟨_, _, c, rfl, rfl, hz, e, k Z _ _ H (.refl R) (.str _) h⟩))
      · exact h.elim
theorem qe_ix {a b : Expr} {ta tb : TED} {pos : Pos} (hu : X.A.units + 1 < cLine) (ha : QE X a ta) (hb : QE X b tb) (hs : PlainIx b) : QE X (.Subscript a b pos) (dBin fIx ta tb) :=
  pe_mono (pe_ix (or_ix hu) ha hb hs) fun σ H Q h => bin_lift od_ix h
end

/-! ### x[lo:hi] -/
def cutD (xs : List D) (lo hi : Option Int) : List D := (xs.drop (HT.sIx xs.length 0 lo)).take (HT.sIx xs.length xs.length hi - HT.sIx xs.length 0 lo)
abbrev TOD := DEnv → Mem → (Option Int → Mem → Prop) → Prop
def liftO (K : PySem.W.Frag) (t : TOD) : TO := fun σ H Q => ∃ Z δ M Qd, Rel K Z M H ∧ EnvR K Z δ σ ∧ t δ M Qd ∧ ∀ Z' o M' H', Stp K Z M H Z' M' H' → Qd o M' → Q o H'
abbrev QO (X : Cx) (e : Option Expr) (t : TOD) : Prop := PO X e (liftO X.K t)
def dNoPart : TOD := fun _ M Q => Q none M
def dPart (t : TED) : TOD := fun δ M Q => t δ M fun x M1 => match x with
  | .int i => Q (some i) M1
  | _ => False
theorem po_mono {X : Cx} {e : Option Expr} {t t' : TO} (h : PO X e t) (m : ∀ σ H Q, t' σ H Q → t σ H Q) : PO X e t' := by
  obtain ⟨h⟩ := h
  exact ⟨fun pins s σ H Q I q => h pins s σ H Q I (m σ H Q q)⟩
/-- a slice: of a list a list that nobody changes -/
def fSl (M : Mem) (x : D) (lo hi : Option Int) (Q : D → Prop) : Prop := match tupK x with
  | some ds => Q (.tup (cutD ds lo hi))
  | none => match lstD M x with
    | some ds => Q (.lst (cutD ds lo hi))
    | none => False
def dSl (te : TED) (tl th : TOD) : TED := fun δ M Q => te δ M fun x M1 => tl δ M1 fun l M2 => th δ M2 fun u M3 => fSl M3 x l u fun z => Q z M3
section
variable {X : Cx} {e : Expr} {lo hi : Option Expr} {te : TED} {tl th : TOD} {pos p2 : Pos}
theorem qo_none : QO X none dNoPart := po_mono po_none fun σ H Q ⟨Z, δ, M, Qd, R, E, h, k⟩ => k Z _ M H (.refl R) h
theorem qo_some (h : QE X e te) : QO X (some e) (dPart te) := by
  refine po_mono (po_some h) fun σ H Q ⟨Z, δ, M, Qd, R, E, h, k⟩ => ?_
  refine ⟨Z, δ, M, _, R, E, h, fun Z1 x M1 u H1 s1 r1 h1 => ?_⟩
  cases r1 with
  | int i => exact ⟨i, rfl, k Z1 _ M1 H1 s1 h1⟩
  | _ => exact h1.elim
theorem reps_cut {K : PySem.W.Frag} {Z : Im} {ds : List D} {vs : List V} (r : Reps K Z ds vs) (lo hi : Option Int) : Reps K Z (cutD ds lo hi) (cutV vs lo hi) := by
  unfold cutD cutV
  rw [← r.length]
  exact (r.drop _).take _
theorem cut_whole {ds : List D} {lo hi : Option Int} (h : HT.sIx ds.length 0 lo = 0 ∧ HT.sIx ds.length ds.length hi = ds.length) : cutD ds lo hi = ds := by
  unfold cutD
  rw [h.1, h.2, List.drop_zero, Nat.sub_zero, List.take_length]
theorem qe_slice (he : QE X e te) (hl : QO X lo tl) (hh : QO X hi th) : QE X (.Subscript e (.Slice lo hi none p2) pos) (dSl te tl th) := by
  refine pe_mono (pe_slice (sl_tupA.or sl_list) he hl hh) fun σ H Q ⟨Z, δ, M, Qd, R, E, h, k⟩ => ?_
  refine ⟨Z, δ, M, _, R, E, h, fun Z1 x M1 u H1 s1 r1 h1 => ?_⟩
  refine ⟨Z1, δ, M1, _, s1.rel, E.mono s1.ext, h1, fun Z2 l M2 H2 s2 h2 => ?_⟩
  refine ⟨Z2, δ, M2, _, s2.rel, E.mono (s1.trans s2).ext, h2, fun Z3 w M3 H3 s3 h3 => ?_⟩
  have s13 := (s1.trans s2).trans s3
  have r3 := r1.mono (s2.trans s3).ext
  unfold fSl at h3
  split at h3
  · rename_i ds e1
    obtain ⟨a, vs, eu, za, hs, rr⟩ := tupk_sq s3.rel r3 e1
    subst eu
    refine .inl ⟨a, vs, rfl, hs, fun hw => ?_, fun hw p hp => ?_⟩
    · rw [← rr.length] at hw
      rw [cut_whole hw] at h3
      exact k _ _ _ _ _ s13 (.tup a vs ds za rr) h3
    · have sn := Stp.newI s3.rel hp (.tup (cutV vs l w))
      exact k _ _ _ _ _ (s13.trans sn) (.tup p _ _ zupd_same (reps_cut (rr.mono sn.ext) l w)) h3
  · split at h3
    · rename_i ds e1
      obtain ⟨a, vs, eu, hs, rr⟩ := lst_sq s3.rel r3 e1
      refine .inr ⟨a, vs, eu, hs, fun p hp => ?_⟩
      have sn := Stp.newI s3.rel hp (.lst (cutV vs l w))
      exact k _ _ _ _ _ (s13.trans sn) (.lst p _ _ zupd_same (reps_cut (rr.mono sn.ext) l w)) h3
    · exact h3.elim
end
end DL
end
section
set_option Elab.async false
set_option linter.all false
set_option maxRecDepth 100000
set_option maxHeartbeats 4000000
namespace DL
open PySem PySem.Spec PyProof.Rows L2

/-! ### x in y -/
open Classical in
def fIn (neg : Bool) : FD2 := fun M x y Q => match seqD M y with
  | some ds => okD x ∧ plainDs ds = true ∧ depDs ds ≤ 63 ∧ Q (.bl (xor neg (decide (nrm x ∈ nrms ds))))
  | none => match lookD M y x with
    | some o => Q (.bl (xor neg o.isSome))
    | none => match x, y with
      | .str a, .str b => Q (.bl (xor neg (!(Builtin.Str.occurrences b a 0 b.length 1).isEmpty)))
      | _, _ => False
section
variable {X : Cx}
def rInDT (K : PySem.W.Frag) : R2 := fun x y H Q => ∃ d ds, Dp K H x d ∧ Dp K H y (.tuple ds) ∧ SeqAt.shaped d = true ∧ SeqAt.shaped (.tuple ds) = true ∧ Q (.bl (ds.any fun z => PyData.eqv z d)) H
def rNotInDT (K : PySem.W.Frag) : R2 := fun x y H Q => ∃ d ds, Dp K H x d ∧ Dp K H y (.tuple ds) ∧ SeqAt.shaped d = true ∧ SeqAt.shaped (.tuple ds) = true ∧ Q (.bl (!ds.any fun z => PyData.eqv z d)) H
theorem op_inDT (hu : X.A.units + 65 < cLine) : OpR X (compareOp .In) (rInDT X.K) := by
  intro pins s σ H x y v u Q I rx ry ⟨d, ds, hd, he, sd, se, q⟩
  obtain ⟨as, r1⟩ := Dp.reads I d x v hd rx
  obtain ⟨bs, r2⟩ := Dp.reads I (.tuple ds) y u he ry
  exact SeqAt.in_tuple_reads r2 r1 (SeqAt.canLay_of_shaped se) (SeqAt.canLay_of_shaped sd) (room_in_shaped sd hu) ⟨.bl _, H, I, rfl, q⟩
theorem op_notInDT (hu : X.A.units + 65 < cLine) : OpR X (compareOp .NotIn) (rNotInDT X.K) := by
  intro pins s σ H x y v u Q I rx ry ⟨d, ds, hd, he, sd, se, q⟩
  obtain ⟨as, r1⟩ := Dp.reads I d x v hd rx
  obtain ⟨bs, r2⟩ := Dp.reads I (.tuple ds) y u he ry
  exact SeqAt.notIn_tuple_reads r2 r1 (SeqAt.canLay_of_shaped se) (SeqAt.canLay_of_shaped sd) (room_in_shaped sd hu) ⟨.bl _, H, I, rfl, q⟩
def rInDct (neg : Bool) : R2 := fun y x H Q => ∃ a o, x = .ref a ∧ DGet H a y o ∧ Q (.bl (if neg then !o.isSome else o.isSome)) H
theorem op_inDct (hu : X.A.units + 1 < cLine) : OpR X (compareOp .In) (rInDct false) := by
  intro pins s σ H y x iv u Q I ry rx ⟨a, ov, ex, g, q2⟩
  subst ex
  obtain rfl : u = Value.ref a := rx
  exact d_in hu I g ry fun s3 I3 => ⟨.bl ov.isSome, H, I3, rfl, q2⟩
theorem op_notInDct (hu : X.A.units + 1 < cLine) : OpR X (compareOp .NotIn) (rInDct true) := by
  intro pins s σ H y x iv u Q I ry rx ⟨a, ov, ex, g, q2⟩
  subst ex
  obtain rfl : u = Value.ref a := rx
  exact d_notIn hu I g ry fun s3 I3 => ⟨.bl (!ov.isSome), H, I3, rfl, q2⟩
theorem or_in (hu : X.A.units + 65 < cLine) : OpR X (compareOp .In) (fun x y H Q => rInD X.K x y H Q ∨ (rInDT X.K x y H Q ∨ (rInDct false x y H Q ∨ ∃ i j, x = .str i ∧ y = .str j ∧ Q (.bl (!(Builtin.Str.occurrences j i 0 j.length 1).isEmpty)) H))) :=
  (op_inD hu).or ((op_inDT hu).or ((op_inDct (by omega)).or op_in_str))
theorem or_notIn (hu : X.A.units + 65 < cLine) : OpR X (compareOp .NotIn) (fun x y H Q => rNotInD X.K x y H Q ∨ (rNotInDT X.K x y H Q ∨ (rInDct true x y H Q ∨ ∃ i j, x = .str i ∧ y = .str j ∧ Q (.bl (!(!(Builtin.Str.occurrences j i 0 j.length 1).isEmpty))) H))) :=
  (op_notInD hu).or ((op_notInDT hu).or ((op_notInDct (by omega)).or op_notIn_str))
theorem any_toPys {x : D} (hx : plainD x = true) : ∀ ds : List D, plainDs ds = true → (((toPys ds).any fun z => PyData.eqv z (toPy x)) = true ↔ nrm x ∈ nrms ds)
  | [], _ => by simp [toPys, nrms]
  | d :: ds, h => by
    have h' : plainD d = true ∧ plainDs ds = true := by simpa [plainDs] using h
    simp only [toPys, nrms, List.any_cons, Bool.or_eq_true, List.mem_cons]
    rw [eqv_iff d x h'.1 hx, any_toPys hx ds h'.2]
    exact or_congr ⟨Eq.symm, Eq.symm⟩ Iff.rfl
open Classical in
theorem any_dec {x : D} (hx : plainD x = true) {ds : List D} (h : plainDs ds = true) : ((toPys ds).any fun z => PyData.eqv z (toPy x)) = decide (nrm x ∈ nrms ds) := by
  by_cases q : nrm x ∈ nrms ds
  · rw [decide_eq_true q]; exact (any_toPys hx ds h).mpr q
  · rw [decide_eq_false q]; exact Bool.eq_false_iff.mpr fun z => q ((any_toPys hx ds h).mp z)
theorem shaped_list {ds : List D} (h : plainDs ds = true) (h2 : depDs ds ≤ 63) : SeqAt.shaped (.list (toPys ds)) = true := by
  have := plain_shaped (d := .lst ds) (by simpa [plainD] using h) (by simp only [depD]; omega)
  simpa [toPy] using this
theorem shaped_tuple {ds : List D} (h : plainDs ds = true) (h2 : depDs ds ≤ 63) : SeqAt.shaped (.tuple (toPys ds)) = true := by
  have := plain_shaped (d := .tup ds) (by simpa [plainD] using h) (by simp only [depD]; omega)
  simpa [toPy] using this
theorem seq_or {M : Mem} {y : D} {ds : List D} (h : seqD M y = some ds) : lstD M y = some ds ∨ tupOf y = some ds := by
  cases y <;> first | exact .inl h | exact .inr h | cases h
theorem od_in : OpD X.K (fun x y H Q => rInD X.K x y H Q ∨ (rInDT X.K x y H Q ∨ (rInDct false x y H Q ∨ ∃ i j, x = .str i ∧ y = .str j ∧ Q (.bl (!(Builtin.Str.occurrences j i 0 j.length 1).isEmpty)) H))) (fIn false) := fun Z M H x y u v Qd Q R r1 r2 h k => by
  unfold fIn at h
  split at h
  · rename_i ds e
    obtain ⟨⟨p1, q1⟩, p2, q2, h⟩ := h
    have hd := rep_dp R r1 p1
    rcases seq_or e with e | e
    · obtain ⟨a, vs, eu, hs, rr⟩ := lst_sq R r2 e
      subst eu
      refine .inl ⟨_, _, hd, .lst hs (reps_dp R rr p2), plain_shaped p1 q1, shaped_list p2 q2, ?_⟩
      rw [any_dec p1 p2]
      exact k Z _ _ H (.refl R) (.bl _) (by simpa using h)
    · obtain ⟨a, vs, eu, za, hs, rr⟩ := tup_sq R r2 e
      subst eu
      refine .inr (.inl ⟨_, _, hd, .tup hs (reps_dp R rr p2), plain_shaped p1 q1, shaped_tuple p2 q2, ?_⟩)
      rw [any_dec p1 p2]
      exact k Z _ _ H (.refl R) (.bl _) (by simpa using h)
  · split at h
    · rename_i o e
      obtain ⟨a, eu, ov, g, p0, p1⟩ := look_get R r2 r1 e
      refine .inr (.inr (.inl ⟨a, ov, eu, g, ?_⟩))
      have : ov.isSome = o.isSome := by
        cases o with
        | none => rw [p0 rfl]; rfl
        | some d => obtain ⟨w, e, _⟩ := p1 d rfl; rw [e]; rfl
      rw [this]
      exact k Z _ _ H (.refl R) (.bl _) (by simpa using h)
    · cases r1 <;> first | exact h.elim | skip
      cases r2 <;> first | exact h.elim | skip
      exact .inr (.inr (.inr ⟨_, _, rfl, rfl, k Z _ _ H (.refl R) (.bl _) (by simpa using h)⟩))
theorem od_notIn : OpD X.K (fun x y H Q => rNotInD X.K x y H Q ∨ (rNotInDT X.K x y H Q ∨ (rInDct true x y H Q ∨ ∃ i j, x = .str i ∧ y = .str j ∧ Q (.bl (!(!(Builtin.Str.occurrences j i 0 j.length 1).isEmpty))) H))) (fIn true) := fun Z M H x y u v Qd Q R r1 r2 h k => by
  unfold fIn at h
  split at h
  · rename_i ds e
    obtain ⟨⟨p1, q1⟩, p2, q2, h⟩ := h
    have hd := rep_dp R r1 p1
    rcases seq_or e with e | e
    · obtain ⟨a, vs, eu, hs, rr⟩ := lst_sq R r2 e
      subst eu
      refine .inl ⟨_, _, hd, .lst hs (reps_dp R rr p2), plain_shaped p1 q1, shaped_list p2 q2, ?_⟩
      rw [any_dec p1 p2]
      exact k Z _ _ H (.refl R) (.bl _) (by simpa using h)
    · obtain ⟨a, vs, eu, za, hs, rr⟩ := tup_sq R r2 e
      subst eu
      refine .inr (.inl ⟨_, _, hd, .tup hs (reps_dp R rr p2), plain_shaped p1 q1, shaped_tuple p2 q2, ?_⟩)
      rw [any_dec p1 p2]
      exact k Z _ _ H (.refl R) (.bl _) (by simpa using h)
  · split at h
    · rename_i o e
      obtain ⟨a, eu, ov, g, p0, p1⟩ := look_get R r2 r1 e
      refine .inr (.inr (.inl ⟨a, ov, eu, g, ?_⟩))
      have : ov.isSome = o.isSome := by
        cases o with
        | none => rw [p0 rfl]; rfl
        | some d => obtain ⟨w, e, _⟩ := p1 d rfl; rw [e]; rfl
      rw [this]
      exact k Z _ _ H (.refl R) (.bl _) (by simpa using h)
    · cases r1 <;> first | exact h.elim | skip
      cases r2 <;> first | exact h.elim | skip
      exact .inr (.inr (.inr ⟨_, _, rfl, rfl, k Z _ _ H (.refl R) (.bl _) (by simpa using h)⟩))
end

/-! ### x + y, x * y -/
/-- a list that is tracked, not the script -/
def lstFM : Option MO → Option (List D)
  | some (.lst ds) => some ds
  | _ => none
def lstF (M : Mem) : D → Option (List D)
  | .lst ds => some ds
  | .ref a => lstFM (M a)
  | _ => none
/-- ints; texts; tuples; lists (a new one that nobody changes) -/
def fPlus : FD2 := fun M x y Q => match x, y with
  | .int i, .int j => Q (.int (i + j))
  | .str a, .str b => a.length + b.length ≤ sizeLine ∧ Q (.str (a ++ b))
  | .tup a, .tup b => a.length + b.length ≤ sizeLine ∧ Q (.tup (a ++ b))
  | x, y => match lstF M x, lstF M y with
    | some a, some b => a.length + b.length ≤ sizeLine ∧ Q (.lst (a ++ b))
    | _, _ => False
/-- ints; a list so often -/
def fTimes : FD2 := fun M x y Q => match x, y with
  | .int i, .int j => CMul i j ∧ Q (.int (i * j))
  | x, .int j => match lstF M x with
    | some a => -(2 ^ 63) ≤ j ∧ j < 2 ^ 63 ∧ a.length * j.toNat ≤ sizeLine ∧ Q (.lst (List.replicate j.toNat a).flatten)
    | none => False
  | _, _ => False
section
variable {X : Cx} {K : PySem.W.Frag} {Z : Im} {M : Mem} {H : Hp}
theorem lstF_sq (R : Rel K Z M H) {d : D} {v : V} {ds : List D} (r : Rep K Z d v) (h : lstF M d = some ds) : ∃ a vs, v = .ref a ∧ H a = some (.lst vs) ∧ Reps K Z ds vs := by
  cases r with
  | lst a vs _ im rr => cases h; exact ⟨a, vs, rfl, R.im _ _ im, rr⟩
  | ref a =>
    unfold lstF lstFM at h
    dsimp only at h
    split at h
    · rename_i e; cases h; obtain ⟨vs, q, rr⟩ := R.lst e; exact ⟨a, vs, rfl, q, rr⟩
    · cases h
  | _ => cases h
theorem or_plus : OpR X (binaryOp .Add) (fun x y H Q => (∃ i j, x = .int i ∧ y = .int j ∧ Q (.int (i + j)) H) ∨ ((∃ i j, x = .str i ∧ y = .str j ∧ i.length + j.length ≤ sizeLine ∧ Q (.str (i ++ j)) H) ∨ (rCatA X.K x y H Q ∨ rCat x y H Q))) :=
  OpR.or op_add (OpR.or op_add_str (OpR.or op_catA op_cat))
theorem od_plus : OpD K (fun x y H Q => (∃ i j, x = .int i ∧ y = .int j ∧ Q (.int (i + j)) H) ∨ ((∃ i j, x = .str i ∧ y = .str j ∧ i.length + j.length ≤ sizeLine ∧ Q (.str (i ++ j)) H) ∨ (rCatA K x y H Q ∨ rCat x y H Q))) fPlus := fun Z M H x y u v Qd Q R r1 r2 h k => by
  unfold fPlus at h
  split at h
  · cases r1; cases r2
    exact .inl ⟨_, _, rfl, rfl, k Z _ _ H (.refl R) (.int _) h⟩
  · cases r1; cases r2
    exact .inr (.inl ⟨_, _, rfl, rfl, h.1, k Z _ _ H (.refl R) (.str _) h.2⟩)
  · cases r1 with
    | tup a vs ds im rr =>
      cases r2 with
      | tup b us es im2 rr2 =>
        refine .inr (.inr (.inl ⟨a, b, vs, us, rfl, rfl, im.sq R, im2.sq R, by rw [← rr.length, ← rr2.length]; exact h.1, fun e => ?_, fun _ e => ?_, fun _ _ p hp => ?_⟩))
        · subst e
          cases rr
          exact k Z _ _ H (.refl R) (.tup b us _ im2 rr2) h.2
        · subst e
          cases rr2
          have h2 := h.2
          rw [List.append_nil] at h2
          exact k Z _ _ H (.refl R) (.tup a vs _ im rr) h2
        · have sn := Stp.newI R hp (.tup (vs ++ us))
          exact k _ _ _ _ sn (.tup p _ _ zupd_same ((rr.append rr2).mono sn.ext)) h.2
  · split at h
    · rename_i a b e1 e2
      obtain ⟨p1, vs, eu, h1, rr⟩ := lstF_sq R r1 e1
      obtain ⟨p2, us, ev, h2, rr2⟩ := lstF_sq R r2 e2
      refine .inr (.inr (.inr ⟨p1, p2, vs, us, eu, ev, h1, h2, by rw [← rr.length, ← rr2.length]; exact h.1, fun p hp => ?_⟩))
      have sn := Stp.newI R hp (.lst (vs ++ us))
      exact k _ _ _ _ sn (.lst p _ _ zupd_same ((rr.append rr2).mono sn.ext)) h.2
    · exact h.elim
theorem or_times : OpR X (binaryOp .Mult) (fun x y H Q => rI CMul (fun i j => .int (i * j)) x y H Q ∨ rRep x y H Q) := op_mul.or op_rep
theorem reps_rep {ds : List D} {vs : List V} (r : Reps K Z ds vs) : ∀ n : Nat, Reps K Z (List.replicate n ds).flatten (List.replicate n vs).flatten
  | 0 => .nil
  | n + 1 => by rw [List.replicate_succ, List.replicate_succ, List.flatten_cons, List.flatten_cons]; exact r.append (reps_rep r n)
theorem od_times : OpD K (fun x y H Q => rI CMul (fun i j => .int (i * j)) x y H Q ∨ rRep x y H Q) fTimes := fun Z M H x y u v Qd Q R r1 r2 h k => by
  unfold fTimes at h
  split at h
  · cases r1; cases r2
    exact .inl ⟨_, _, rfl, rfl, h.1, k Z _ _ H (.refl R) (.int _) h.2⟩
  · rename_i j _
    cases r2
    split at h
    · rename_i a e1
      obtain ⟨p1, vs, eu, h1, rr⟩ := lstF_sq R r1 e1
      refine .inr ⟨p1, j, vs, eu, rfl, h1, h.1, h.2.1, by rw [← rr.length]; exact h.2.2.1, fun p hp => ?_⟩
      have sn := Stp.newI R hp (.lst (List.replicate j.toNat vs).flatten)
      exact k _ _ _ _ sn (.lst p _ _ zupd_same ((reps_rep rr _).mono sn.ext)) h.2.2.2
    · exact h.elim
  · exact h.elim
end

/-! ### calls of built-ins, by value -/
abbrev FDn := Mem → List D → KD → Prop
def CallD (K : PySem.W.Frag) (r : List V → Hp → VK → Prop) (f : FDn) : Prop := ∀ Z M H xs us (Qd : KD) (Q : VK), Rel K Z M H → Reps K Z xs us → f M xs Qd → Kon K Z M H Qd Q → r us H Q
def dCB (f : FDn) (t : TAD) : TED := fun δ M Q => t δ M fun xs M1 => f M1 xs Q
section
variable {X : Cx} {e : Expr} {es : List Expr} {t : TAD} {x : Str} {p pos : Pos} {id : String} {r : List V → Hp → VK → Prop} {f : FDn}
theorem cb_lift (hf : CallD X.K r f) {σ : St} {H : Hp} {Q : VK} (h : liftE X.K (dCB f t) σ H Q) : tCB r (liftA X.K t) σ H Q := by
  obtain ⟨Z, δ, M, Qd, R, E, h, k⟩ := h
  exact ⟨Z, δ, M, _, R, E, h, fun Z1 ds M1 vs H1 s1 r1 h1 => hf Z1 M1 H1 ds vs Qd Q s1.rel r1 h1 (k.mono s1)⟩
theorem qe_callB (hc : CallR X (.builtin id) r) (hf : CallD X.K r f) (hg : Gl X x) (hm : X.mg x = none) (hv : bootBuiltins x = some (.builtin id)) (ha : QA X (e :: es) t) (hn : x ≠ "__name__" := by decide) (hdb : (x == ("__debug__" : Str)) = false := by decide)
    (he : starEach (e :: es) X.env = (false, eval e X.env) :: starEach es X.env := by rfl) (hpl : (backTo pos (starEach es X.env)).any (·.1) = false := by rfl) : QE X (.Call (.Name x p) (e :: es) [] pos) (dCB f t) :=
  pe_mono (pe_callB hc hg hm hv ha hn hdb he hpl) fun σ H Q h => cb_lift hf h
theorem qe_callTy (hc : CallR X (.type id) r) (hf : CallD X.K r f) (hg : Gl X x) (hm : X.mg x = none) (hv : bootBuiltins x = some (.type id)) (ha : QA X (e :: es) t) (hn : x ≠ "__name__" := by decide) (hdb : (x == ("__debug__" : Str)) = false := by decide)
    (he : starEach (e :: es) X.env = (false, eval e X.env) :: starEach es X.env := by rfl) (hpl : (backTo pos (starEach es X.env)).any (·.1) = false := by rfl) : QE X (.Call (.Name x p) (e :: es) [] pos) (dCB f t) :=
  pe_mono (pe_callTy hc hg hm hv ha hn hdb he hpl) fun σ H Q h => cb_lift hf h
end
/-- a built-in of one value -/
def f1 (g : Mem → D → KD → Prop) : FDn := fun M xs Q => match xs with
  | [x] => g M x Q
  | _ => False
def f2 (g : Mem → D → D → KD → Prop) : FDn := fun M xs Q => match xs with
  | [x, y] => g M x y Q
  | _ => False
theorem call1 {K : PySem.W.Frag} {r : List V → Hp → VK → Prop} {g : Mem → D → KD → Prop} (h : ∀ Z M H x u (Qd : KD) (Q : VK), Rel K Z M H → Rep K Z x u → g M x Qd → Kon K Z M H Qd Q → r [u] H Q) : CallD K r (f1 g) :=
  fun Z M H xs us Qd Q R rr hg k => by
    cases rr with
    | nil => exact hg.elim
    | cons r1 rr =>
      cases rr with
      | nil => exact h Z M H _ _ Qd Q R r1 hg k
      | cons _ _ => exact hg.elim
theorem call2 {K : PySem.W.Frag} {r : List V → Hp → VK → Prop} {g : Mem → D → D → KD → Prop} (h : ∀ Z M H x y u v (Qd : KD) (Q : VK), Rel K Z M H → Rep K Z x u → Rep K Z y v → g M x y Qd → Kon K Z M H Qd Q → r [u, v] H Q) : CallD K r (f2 g) :=
  fun Z M H xs us Qd Q R rr hg k => by
    cases rr with
    | nil => exact hg.elim
    | cons r1 rr =>
      cases rr with
      | nil => exact hg.elim
      | cons r2 rr =>
        cases rr with
        | nil => exact h Z M H _ _ _ _ Qd Q R r1 r2 hg k
        | cons _ _ => exact hg.elim
/-- len of texts, lists, tuples, dicts -/
def lenD (M : Mem) (x : D) : Option Nat := match seqD M x with
  | some ds => some ds.length
  | none => match dictK M x with
    | some kvs => some kvs.length
    | none => match dictT M x with
      | some kvs => some kvs.length
      | none => match x with
        | .str z => if z.length ≤ sizeLine then some z.length else none
        | _ => none
def gLen (M : Mem) (x : D) (Q : KD) : Prop := match lenD M x with
  | some n => Q (.int n) M
  | none => False
section
variable {X : Cx}
abbrev rLen (K : PySem.W.Frag) : List V → Hp → VK → Prop := fun xs H Q => (∃ x n, xs = [x] ∧ LenV K x H n ∧ Q (.int n) H) ∨ ((∃ a kvs, xs = [V.ref a] ∧ H a = some (.dK kvs) ∧ Q (.int kvs.length) H) ∨ rLenT xs H Q)
theorem cr_len : CallR X (.builtin "len") (rLen X.K) := call_len.or (call_lenD.or call_len_dT)
theorem cd_len : CallD X.K (rLen X.K) (f1 gLen) := call1 fun Z M H x u Qd Q R r h k => by
  unfold gLen lenD at h
  cases e1 : seqD M x with
  | some ds =>
    rw [e1] at h
    rcases seq_or e1 with e | e
    · obtain ⟨a, vs, eu, hs, rr⟩ := lst_sq R r e
      subst eu
      exact .inl ⟨_, ds.length, rfl, .inl ⟨vs, hs, rr.length⟩, k Z _ _ _ H (.refl R) (.int _) h⟩
    · obtain ⟨a, vs, eu, za, hs, rr⟩ := tup_sq R r e
      subst eu
      exact .inl ⟨_, ds.length, rfl, .inr ⟨vs, hs, rr.length⟩, k Z _ _ _ H (.refl R) (.int _) h⟩
  | none =>
    rw [e1] at h
    dsimp only at h
    cases e2 : dictK M x with
    | some kvs =>
      rw [e2] at h
      obtain ⟨a, vs, eu, ha, rr⟩ := dk_sq R r e2
      subst eu
      refine .inr (.inl ⟨a, vs, rfl, ha, ?_⟩)
      rw [← rr.length]
      exact k Z _ _ _ H (.refl R) (.int _) h
    | none =>
      rw [e2] at h
      dsimp only at h
      cases e3 : dictT M x with
      | some kvs =>
        rw [e3] at h
        obtain ⟨a, vs, eu, ha, rr⟩ := dt_sq R r e3
        subst eu
        refine .inr (.inr ⟨a, vs, rfl, ha, ?_⟩)
        rw [← rr.length]
        exact k Z _ _ _ H (.refl R) (.int _) h
      | none =>
        rw [e3] at h
        dsimp only at h
        cases r <;> first | exact h.elim | skip
        rename_i z
        by_cases hz : z.length ≤ sizeLine
        · dsimp only at h
          rw [if_pos hz] at h
          exact .inl ⟨_, _, rfl, ⟨hz, rfl⟩, k Z _ _ _ H (.refl R) (.int _) h⟩
        · dsimp only at h
          rw [if_neg hz] at h
          exact h.elim
end
end DL
end
section
set_option Elab.async false
set_option linter.all false
set_option maxRecDepth 100000
set_option maxHeartbeats 4000000
namespace DL
open PySem PySem.Spec PyProof.Rows L2

/-! ### defs: promises over data -/
abbrev SpD := List D → Mem → KD → Prop
def liftSp (K : PySem.W.Frag) (sp : SpD) : Sp := fun vs H Q _ => ∃ Z ds M Qd, Rel K Z M H ∧ Reps K Z ds vs ∧ sp ds M Qd ∧ Kon K Z M H Qd Q
def dstart (N : List Str) (ds : List D) : DEnv := ds.map some ++ List.replicate (N.length - ds.length) none
section
variable {P : Program} {w : World} {K : PySem.W.Frag} {mg : Str → Option Value} {base : Heap}
theorem fn_ok {x qual : Str} {st : Stmt} {f : Addr} {fd : FuncData} {N ps : List Str} {k : Nat} {sp : SpD} (F : Fun K x qual st f fd) (S : FnScope N ps (defScope st)) (hl : ∀ ds M Q, sp ds M Q → ds.length = ps.length)
    (body : ∀ (cdv : Value) (A : Around) (outer : List Env) (s : Shared) (H : Hp) (E : XK), Room k (A.deeper (envOfC qual (defScope st) s.heap.objs.size f cdv)) →
      ∃ t, QSs (cxOf CX0 P w K mg base N qual (defScope st) f cdv A outer s H E).nox (defBody st) t ∧ ∀ ds M Q, sp ds M Q → t { nx := fun _ M' => Q .non M', rt := Q } (dstart N ds) M) :
    FnOk P w K mg base CX0 (k + 1) f fd ps (liftSp K sp) := by
  refine F.ok S (fun vs H Q E ⟨Z, ds, M, Qd, R, rr, h, k⟩ => by rw [← rr.length]; exact hl _ _ _ h) (fun cdv A outer s H vs Q E hr h => ?_)
  obtain ⟨t, h1, h2⟩ := body cdv A outer s H E hr
  refine ⟨_, h1, ?_⟩
  obtain ⟨Z, ds, M, Qd, R, rr, hs, k⟩ := h
  refine ⟨Z, dstart N ds, M, _, R, ?_, h2 ds M Qd hs, ⟨fun Z1 δ1 M1 σ1 H1 s1 E1 q => k Z1 .non M1 .non H1 s1 .non q, k, fun _ _ _ _ _ _ _ q => q.elim, fun _ _ _ _ _ _ _ q => q.elim⟩⟩
  show EnvR K Z (dstart N ds) (L2.start N vs)
  unfold dstart L2.start
  rw [rr.length]
  exact EnvR.args rr _
/-- a weaker promise -/
theorem fn_imp {CX : CXT} {k : Nat} {f : Addr} {fd : FuncData} {ps : List Str} {sp sp' : SpD} (F : FnOk P w K mg base CX k f fd ps (liftSp K sp)) (h : ∀ ds M Q, sp' ds M Q → sp ds M Q) : FnOk P w K mg base CX k f fd ps (liftSp K sp') :=
  F.imp fun vs H Q E ⟨Z, ds, M, Qd, R, rr, q, k⟩ => ⟨Z, ds, M, Qd, R, rr, h _ _ _ q, k⟩
end
/-- a call, dds the defaults' data -/
def dCall (sp : SpD) (dds : List D) (t : TAD) : TED := fun δ M Q => t δ M fun ds M1 => sp (ds ++ dds) M1 Q
section
variable {X : Cx} {CX : CXT} {k : Nat} {f C : Addr} {fd : FuncData} {ps : List Str} {sp : SpD} {dvs : List V} {ds : List Value} {dds : List D} {E : XK} {x m : Str} {p pos apos : Pos} {e o : Expr} {es : List Expr} {ta : TED} {t : TAD}
theorem call_lift {ta : TAD} (hdd : ∀ Z, Reps X.K Z dds dvs) {σ : St} {H : Hp} {Q : VK} (h : liftE X.K (dCall sp dds ta) σ H Q) : tCall (liftSp X.K sp) dvs E (liftA X.K ta) σ H Q := by
  obtain ⟨Z, δ, M, Qd, R, En, h, k⟩ := h
  exact ⟨Z, δ, M, _, R, En, h, fun Z1 ds M1 vs H1 s1 r1 h1 => ⟨Z1, ds ++ dds, M1, Qd, s1.rel, r1.append (hdd Z1), h1, k.mono s1⟩⟩
theorem qe_call (F : FnOk X.prog X.w X.K X.mg X.base CX k f fd ps (liftSp X.K sp)) (hr : Room k X.A) (hg : Gl X x) (hm : X.mg x = some (.ref f)) (hk : PySem.W.keepIn X.K (.ref f) = true) (hb : Binds X.K fd ps ds) (hd : Vals dvs ds) (hdd : ∀ Z, Reps X.K Z dds dvs) (hx : Passes CX X E)
    (ha : QA X (e :: es) t) (hdb : (x == ("__debug__" : Str)) = false := by decide) (he : starEach (e :: es) X.env = (false, eval e X.env) :: starEach es X.env := by rfl) (hpl : (backTo pos (starEach es X.env)).any (·.1) = false := by rfl) :
    QE X (.Call (.Name x p) (e :: es) [] pos) (dCall sp dds t) :=
  pe_mono (pe_call F hr hg hm hk hb hd hx ha hdb he hpl) fun σ H Q h => call_lift hdd h
theorem qe_call0 (F : FnOk X.prog X.w X.K X.mg X.base CX k f fd ps (liftSp X.K sp)) (hr : Room k X.A) (hg : Gl X x) (hm : X.mg x = some (.ref f)) (hk : PySem.W.keepIn X.K (.ref f) = true) (hb : Binds X.K fd ps ds) (hd : Vals dvs ds) (hdd : ∀ Z, Reps X.K Z dds dvs) (hx : Passes CX X E)
    (hdb : (x == ("__debug__" : Str)) = false := by decide) : QE X (.Call (.Name x p) [] [] pos) (dCall sp dds dNil) :=
  pe_mono (pe_call0 F hr hg hm hk hb hd hx hdb) fun σ H Q ⟨Z, δ, M, Qd, R, En, h, k⟩ => ⟨Z, [] ++ dds, M, Qd, R, hdd Z, h, k⟩

/-! ### instances -/
def insM : Option MO → Option (Addr × List (Str × D))
  | some (.ins C fs) => some (C, fs)
  | _ => none
/-- an instance's class and fields -/
def insD (M : Mem) : D → Option (Addr × List (Str × D))
  | .obj C fs => some (C, fs)
  | .ref a => insM (M a)
  | _ => none
theorem ins_sq {K : PySem.W.Frag} {Z : Im} {M : Mem} {H : Hp} (R : Rel K Z M H) {d : D} {v : V} {C : Addr} {fs : List (Str × D)} (r : Rep K Z d v) (h : insD M d = some (C, fs)) : ∃ a dx vs, v = .ref a ∧ H a = some (.ins C dx vs) ∧ RepP K Z Str fs vs := by
  cases r with
  | obj a C' dx vs ds im rr => cases h; exact ⟨a, dx, vs, rfl, R.im _ _ im, rr⟩
  | ref a =>
    unfold insD insM at h
    dsimp only at h
    split at h
    · rename_i e; cases h; obtain ⟨dx, vs, q, rr⟩ := R.ins e; exact ⟨a, dx, vs, rfl, q, rr⟩
    · cases h
  | _ => cases h
theorem repP_look {K : PySem.W.Frag} {Z : Im} {f : Str} : ∀ {ds : List (Str × D)} {vs : List (Str × V)} {d : D}, RepP K Z Str ds vs → ds.lookup f = some d → ∃ v, vs.lookup f = some v ∧ Rep K Z d v
  | _, _, _, .nil, h => by cases h
  | _, _, d, .cons (k := k0) r rr, h => by
    rw [List.lookup_cons] at h ⊢
    cases e : f == k0 with
    | true => rw [e] at h; cases h; exact ⟨_, rfl, r⟩
    | false => rw [e] at h; exact repP_look rr h
theorem repP_lookN {K : PySem.W.Frag} {Z : Im} {f : Str} : ∀ {ds : List (Str × D)} {vs : List (Str × V)}, RepP K Z Str ds vs → ds.lookup f = none → vs.lookup f = none
  | _, _, .nil, h => rfl
  | _, _, .cons (k := k0) r rr, h => by
    rw [List.lookup_cons] at h ⊢
    cases e : f == k0 with
    | true => rw [e] at h; cases h
    | false => rw [e] at h; exact repP_lookN rr h
/-- e.f, of an instance of one of the classes that Pc tells -/
def dFld (Pc : Addr → Prop) (f : Str) (te : TED) : TED := fun δ M Q => te δ M fun x M1 => match insD M1 x with
  | some (C, fs) => Pc C ∧ match fs.lookup f with
    | some d => Q d M1
    | none => False
  | none => False
theorem qe_fld {Pc : Addr → Prop} {f : Str} (hP : ∀ C, Pc C → Cls X.K C ∧ NoAttr X.K C f) (he : QE X e ta) (hb : attributeBase e f X.env (eval e X.env) = eval e X.env := by rfl) : QE X (.Attribute e f pos) (dFld Pc f ta) := by
  refine pe_mono (pe_fld he hb) fun σ H Q ⟨Z, δ, M, Qd, R, En, h, k⟩ => ?_
  refine ⟨Z, δ, M, _, R, En, h, fun Z1 x M1 u H1 s1 r1 h1 => ?_⟩
  split at h1
  · rename_i C fs e1
    obtain ⟨hC, h1⟩ := h1
    split at h1
    · rename_i d e2
      obtain ⟨a, dx, vs, eu, ha, rr⟩ := ins_sq s1.rel r1 e1
      obtain ⟨v, e3, rv⟩ := repP_look rr e2
      exact ⟨a, C, dx, vs, v, eu, ha, (hP C hC).1, (hP C hC).2, e3, k Z1 d M1 v H1 s1 rv h1⟩
    · exact h1.elim
  · exact h1.elim
/-- e.f = value -/
def putFD (f : Str) (d : D) : List (Str × D) → List (Str × D)
  | [] => [(f, d)]
  | (g, e) :: r => if g = f then (g, d) :: r else (g, e) :: putFD f d r
def dFldSet (Pc : Addr → Prop) (f : Str) (to tv : TED) : TSD := fun D δ M => tv δ M fun y M1 => to δ M1 fun x M2 => match x with
  | .ref a => match insM (M2 a) with
    | some (C, fs) => Pc C ∧ fs.length < 1000 ∧ D.nx δ (mupd M2 a (.ins C (putFD f y fs)))
    | none => False
  | _ => False
theorem putF_eq (f : Str) (v : V) : ∀ (g : Str) (u : V) (r : List (Str × V)), putF f v ((g, u) :: r) = if g = f then (g, v) :: r else (g, u) :: putF f v r := by
  intro g u r
  first
    | rfl
    | simp [putF]
theorem repP_putF {K : PySem.W.Frag} {Z : Im} {f : Str} {d : D} {v : V} (r0 : Rep K Z d v) : ∀ {ds : List (Str × D)} {vs : List (Str × V)}, RepP K Z Str ds vs → RepP K Z Str (putFD f d ds) (putF f v vs)
  | _, _, .nil => .cons r0 .nil
  | _, _, .cons (k := g) r rr => by
    rw [putF_eq]
    unfold putFD
    by_cases e : g = f
    · rw [if_pos e, if_pos e]; exact .cons r0 rr
    · rw [if_neg e, if_neg e]; exact .cons r (repP_putF r0 rr)
theorem qs_fld {Pc : Addr → Prop} {f : Str} {value : Expr} {tv : TED} {pos' : Pos} (hP : ∀ C, Pc C → Cls X.K C ∧ NoAttr X.K C f) (ho : QE X o ta) (hv : QE X value tv) (hs : swapsWith value (some (.Attribute o f pos')) pos.line X.env = pure false := by rfl) :
    QS X (.Assign [.Attribute o f pos'] value pos) (dFldSet Pc f ta tv) := by
  refine ps_mono (ps_fld ho hv hs) fun D σ H ⟨Z, δ, M, Dd, R, En, h, k⟩ => ?_
  refine ⟨Z, δ, M, _, R, En, h, fun Z1 y M1 u H1 s1 r1 h1 => ?_⟩
  refine ⟨Z1, δ, M1, _, s1.rel, En.mono s1.ext, h1, fun Z2 x M2 v H2 s2 r2 h2 => ?_⟩
  cases r2 with
  | ref a =>
    dsimp only at h2
    split at h2
    · rename_i C fs e
      obtain ⟨hC, hlen, h2⟩ := h2
      have e' : M2 a = some (.ins C fs) := by
        unfold insM at e
        split at e
        · rename_i q; cases e; exact q
        · cases e
      obtain ⟨dx, vs, ha, rr⟩ := s2.rel.ins e'
      have sp := Stp.put s2.rel e' (o := .ins C (putFD f y fs)) (u := .ins C dx (putF f u vs)) ⟨dx, _, upd_same, repP_putF (r1.mono s2.ext) rr⟩
      exact ⟨a, C, dx, vs, rfl, ha, (hP C hC).1, (hP C hC).2, by rw [← rr.length]; exact hlen, k.nx _ _ _ _ _ ((s1.trans s2).trans sp) (En.mono (s1.trans s2).ext) h2⟩
    · exact h2.elim
  | _ => exact h2.elim
/-- C(..): an instance that may change; one that won't -/
def dMake (C : Addr) (sp : SpD) (dds : List D) (t : TAD) : TED := fun δ M Q => t δ M fun ds M1 => ∀ p, M1 p = none → sp (.ref p :: (ds ++ dds)) (mupd M1 p (.ins C [])) fun d M2 => isNon d = true ∧ Q (.ref p) M2
def mdel (M : Mem) (a : Addr) : Mem := fun b => if b = a then none else M b
theorem mdel_same {M : Mem} {a : Addr} : mdel M a a = none := by unfold mdel; rw [if_pos rfl]
theorem mdel_ne {M : Mem} {a b : Addr} (h : b ≠ a) : mdel M a b = M b := by unfold mdel; rw [if_neg h]
theorem mdel_mupd {M : Mem} {a : Addr} {o : MO} (h : M a = none) : mdel (mupd M a o) a = M := by
  funext b
  by_cases e : b = a
  · subst e; rw [mdel_same, h]
  · rw [mdel_ne e, mupd_ne e]
def dMakeI (C : Addr) (sp : SpD) (dds : List D) (t : TAD) : TED := fun δ M Q => t δ M fun ds M1 => ∀ p, M1 p = none → sp (.ref p :: (ds ++ dds)) (mupd M1 p (.ins C [])) fun d M2 => isNon d = true ∧ match insM (M2 p) with
  | some (C', fs) => Q (.obj C' fs) (mdel M2 p)
  | none => False
theorem new_ins {K : PySem.W.Frag} {Z : Im} {M : Mem} {H : Hp} (R : Rel K Z M H) {x dx C : Addr} (hx : H x = none) (hdx : H dx = none) (hne : dx ≠ x) : M x = none ∧ Stp K Z M H Z (mupd M x (.ins C [])) (upd (upd H dx (.own x)) x (.ins C dx [])) := by
  have s1 := Stp.newN R hdx (.own x)
  have hx' : (upd H dx (.own x)) x = none := by rw [upd_ne (Ne.symm hne)]; exact hx
  obtain ⟨h1, h2⟩ := Stp.newM s1.rel hx' (o := .ins C []) (u := .ins C dx []) ⟨dx, [], upd_same, .nil⟩
  exact ⟨h1, s1.trans h2⟩
theorem isNon_rep {K : PySem.W.Frag} {Z : Im} {d : D} {v : V} (r : Rep K Z d v) (h : isNon d = true) : v = .non := by
  cases r <;> first | rfl | cases h
theorem qe_make (Mk0 : Mk X.K C f) (F : FnOk X.prog X.w X.K X.mg X.base CX k f fd ps (liftSp X.K sp)) (hr : Room (k + 1) X.A) (hg : Gl X x) (hm : X.mg x = some (.ref C)) (hb : Binds X.K fd ps ds) (hd : Vals dvs ds) (hdd : ∀ Z, Reps X.K Z dds dvs) (hx : Passes CX X E)
    (ha : QA X (e :: es) t) (hdb : (x == ("__debug__" : Str)) = false := by decide) (he : starEach (e :: es) X.env = (false, eval e X.env) :: starEach es X.env := by rfl) (hpl : (backTo pos (starEach es X.env)).any (·.1) = false := by rfl) :
    QE X (.Call (.Name x p) (e :: es) [] pos) (dMake C sp dds t) := by
  refine pe_mono (pe_make Mk0 F hr hg hm hb hd hx ha hdb he hpl) fun σ H Q ⟨Z, δ, M, Qd, R, En, h, k⟩ => ?_
  refine ⟨Z, δ, M, _, R, En, h, fun Z1 as M1 vs H1 s1 r1 h1 y dx hy hdx hne => ?_⟩
  obtain ⟨hM, sn⟩ := new_ins (C := C) s1.rel hy hdx hne
  refine ⟨Z1, _, _, _, sn.rel, .cons (.ref y) (r1.append (hdd Z1)), h1 y hM, fun Z2 d M2 v H2 s2 r2 ⟨hn, h2⟩ => ⟨isNon_rep r2 hn, ?_⟩⟩
  exact k _ _ _ _ _ ((s1.trans sn).trans s2) (.ref y) h2
theorem qe_makeI (Mk0 : Mk X.K C f) (F : FnOk X.prog X.w X.K X.mg X.base CX k f fd ps (liftSp X.K sp)) (hr : Room (k + 1) X.A) (hg : Gl X x) (hm : X.mg x = some (.ref C)) (hb : Binds X.K fd ps ds) (hd : Vals dvs ds) (hdd : ∀ Z, Reps X.K Z dds dvs) (hx : Passes CX X E)
    (ha : QA X (e :: es) t) (hdb : (x == ("__debug__" : Str)) = false := by decide) (he : starEach (e :: es) X.env = (false, eval e X.env) :: starEach es X.env := by rfl) (hpl : (backTo pos (starEach es X.env)).any (·.1) = false := by rfl) :
    QE X (.Call (.Name x p) (e :: es) [] pos) (dMakeI C sp dds t) := by
  refine pe_mono (pe_make Mk0 F hr hg hm hb hd hx ha hdb he hpl) fun σ H Q ⟨Z, δ, M, Qd, R, En, h, k⟩ => ?_
  refine ⟨Z, δ, M, _, R, En, h, fun Z1 as M1 vs H1 s1 r1 h1 y dx hy hdx hne => ?_⟩
  obtain ⟨hM, sn⟩ := new_ins (C := C) s1.rel hy hdx hne
  refine ⟨Z1, _, _, _, sn.rel, .cons (.ref y) (r1.append (hdd Z1)), h1 y hM, fun Z2 d M2 v H2 s2 r2 ⟨hn, h2⟩ => ⟨isNon_rep r2 hn, ?_⟩⟩
  split at h2
  · rename_i C' fs e
    have e' : M2 y = some (.ins C' fs) := by
      unfold insM at e
      split at e
      · rename_i q; cases e; exact q
      · cases e
    obtain ⟨dx', us, ha, rr⟩ := s2.rel.ins e'
    have hz := s2.rel.zn e'
    have s3 := (s1.trans sn).trans s2
    have ex : Ext Z2 (zupd Z2 y (.ins C' dx' us)) := Ext.zupd hz
    refine k _ _ (mdel M2 y) _ _ ⟨s3.ext.trans ex, s2.rel.frz ha hz mdel_same (fun a o q => ?_), fun a o q m => ?_⟩ (.obj y C' dx' us fs zupd_same (rr.mono ex)) h2
    · by_cases z : a = y
      · subst z; rw [mdel_same] at q; cases q
      · rw [mdel_ne z] at q; exact q
    · -- what was there stays
      by_cases z : a = y
      · subst z
        obtain ⟨_, q1, _⟩ := s1.frm a o q m
        rw [hy] at q1; cases q1
      · obtain ⟨q1, q2, q3⟩ := s3.frm a o q m
        exact ⟨by rw [mdel_ne z]; exact q1, q2, fun n => by rw [zupd_ne z]; exact q3 n⟩
  · exact h2.elim
/-- o.m(..) -/
def dMeth (C : Addr) (m : Str) (sp : SpD) (dds : List D) (to : TED) (t : TAD) : TED := fun δ M Q => to δ M fun x M1 => match insD M1 x with
  | some (C', fs) => C' = C ∧ fs.lookup m = none ∧ t δ M1 fun ds M2 => sp (x :: (ds ++ dds)) M2 Q
  | none => False
theorem meth_lift {ta : TED} {t : TAD} (hdd : ∀ Z, Reps X.K Z dds dvs) {σ : St} {H : Hp} {Q : VK} (h : liftE X.K (dMeth C m sp dds ta t) σ H Q) : tMeth C m (liftSp X.K sp) dvs E (liftE X.K ta) (liftA X.K t) σ H Q := by
  obtain ⟨Z, δ, M, Qd, R, En, h, k⟩ := h
  refine ⟨Z, δ, M, _, R, En, h, fun Z1 x M1 u H1 s1 r1 h1 => ?_⟩
  split at h1
  · rename_i C' fs e1
    obtain ⟨eC, hl, h1⟩ := h1
    subst eC
    obtain ⟨a, dx, vs, eu, ha, rr⟩ := ins_sq s1.rel r1 e1
    refine ⟨a, dx, vs, eu, ha, repP_lookN rr hl, Z1, δ, M1, _, s1.rel, En.mono s1.ext, h1, fun Z2 as M2 ws H2 s2 r2 h2 => ?_⟩
    exact ⟨Z2, _, M2, Qd, s2.rel, .cons (r1.mono s2.ext) (r2.append (hdd Z2)), h2, k.mono (s1.trans s2)⟩
  · exact h1.elim
theorem qe_meth {pl : Sem Bool} (he : QE X o ta) (c : Cls X.K C) (hm : Meth X.K C m f) (F : FnOk X.prog X.w X.K X.mg X.base CX k f fd ps (liftSp X.K sp)) (hr : Room k X.A) (hb : Binds X.K fd ps ds) (hd : Vals dvs ds) (hdd : ∀ Z, Reps X.K Z dds dvs) (hx : Passes CX X E) (ha : QA X (e :: es) t)
    (hst : starEach (e :: es) X.env = (false, eval e X.env) :: starEach es X.env := by rfl) (hpl : (backTo pos (starEach es X.env)).any (·.1) = false := by rfl)
    (ht : eval (.Call (.Attribute o m apos) (e :: es) [] pos) X.env = (do
      let ov ← eval o X.env
      standAt apos.atName
      let (f, first) ← holding [ov] (getMethod ov m pl)
      callWith pos f first (backTo pos (starEach (e :: es) X.env)) (backToKw pos (keywordEach [] X.env))) := by rfl) : QE X (.Call (.Attribute o m apos) (e :: es) [] pos) (dMeth C m sp dds ta t) :=
  pe_mono (pe_meth (pl := pl) he c hm F hr hb hd hx ha hst hpl ht) fun σ H Q h => meth_lift hdd h
theorem qe_meth0 {pl : Sem Bool} (he : QE X o ta) (c : Cls X.K C) (hm : Meth X.K C m f) (F : FnOk X.prog X.w X.K X.mg X.base CX k f fd ps (liftSp X.K sp)) (hr : Room k X.A) (hb : Binds X.K fd ps ds) (hd : Vals dvs ds) (hdd : ∀ Z, Reps X.K Z dds dvs) (hx : Passes CX X E)
    (ht : eval (.Call (.Attribute o m apos) [] [] pos) X.env = (do
      let ov ← eval o X.env
      standAt apos.atName
      let (f, first) ← holding [ov] (getMethod ov m pl)
      callWith pos f first (backTo pos (starEach [] X.env)) (backToKw pos (keywordEach [] X.env))) := by rfl) : QE X (.Call (.Attribute o m apos) [] [] pos) (dMeth C m sp dds ta dNil) := by
  refine pe_mono (pe_meth0 (pl := pl) he c hm F hr hb hd hx ht) fun σ H Q h => ?_
  obtain ⟨Z, δ, M, Qd, R, En, h, k⟩ := h
  refine ⟨Z, δ, M, _, R, En, h, fun Z1 x M1 u H1 s1 r1 h1 => ?_⟩
  split at h1
  · rename_i C' fs e1
    obtain ⟨eC, hl, h1⟩ := h1
    subst eC
    obtain ⟨a, dx, vs, eu, ha, rr⟩ := ins_sq s1.rel r1 e1
    exact ⟨a, dx, vs, eu, ha, repP_lookN rr hl, Z1, _, M1, Qd, s1.rel, .cons r1 (hdd Z1), h1, k.mono s1⟩
  · exact h1.elim
end

/-! ### methods of built-in types -/
abbrev FMt := Mem → D → List D → KD → Prop
end DL
end
section
set_option Elab.async false
set_option linter.all false
set_option maxRecDepth 100000
set_option maxHeartbeats 4000000
namespace DL
open PySem PySem.Spec PyProof.Rows L2

/-! ### methods of built-in types -/
/-- the built-in type of a thing (where its methods are told) -/
def tyD (T : String) (M : Mem) (x : D) : Prop :=
  (T = "list" ∧ (lstD M x).isSome = true) ∨ (T = "dict" ∧ ((dictK M x).isSome = true ∨ (dictT M x).isSome = true)) ∨ (T = "str" ∧ ∃ z, x = .str z)
theorem tyD_tyV {K : PySem.W.Frag} {Z : Im} {M : Mem} {H : Hp} {T : String} (R : Rel K Z M H) {x : D} {u : V} (r : Rep K Z x u) (h : tyD T M x) : tyV K T u H := by
  rcases h with ⟨e, h⟩ | ⟨e, h⟩ | ⟨e, z, h⟩
  · obtain ⟨ds, e1⟩ := Option.isSome_iff_exists.mp h
    obtain ⟨a, vs, eu, hs, _⟩ := lst_sq R r e1
    subst eu
    exact .inl ⟨e, vs, hs⟩
  · rcases h with h | h
    · obtain ⟨ds, e1⟩ := Option.isSome_iff_exists.mp h
      obtain ⟨a, vs, eu, hs, _⟩ := dk_sq R r e1
      subst eu
      exact .inr (.inr (.inl ⟨e, .inl ⟨vs, hs⟩⟩))
    · obtain ⟨ds, e1⟩ := Option.isSome_iff_exists.mp h
      obtain ⟨a, vs, eu, hs, _⟩ := dt_sq R r e1
      subst eu
      exact .inr (.inr (.inl ⟨e, .inr ⟨vs, hs⟩⟩))
  · subst h
    cases r
    exact e
def MtD (K : PySem.W.Frag) (r : V → List V → Hp → VK → Prop) (f : FMt) : Prop := ∀ Z M H x u xs us (Qd : KD) (Q : VK), Rel K Z M H → Rep K Z x u → Reps K Z xs us → f M x xs Qd → Kon K Z M H Qd Q → r u us H Q
def dBM (T : String) (f : FMt) (to : TED) (t : TAD) : TED := fun δ M Q => to δ M fun x M1 => tyD T M1 x ∧ t δ M1 fun xs M2 => f M2 x xs Q
section
variable {X : Cx} {o e : Expr} {es : List Expr} {to : TED} {t : TAD} {name : Str} {apos cpos : Pos} {T id : String} {r : V → List V → Hp → VK → Prop} {f : FMt}
theorem qe_bm0 (pa : PlainAttrs T) (slot : Slot T name id) (hty : typeOf (.builtin id) = pure (.type "method_descriptor")) (hm : MtR X id r) (hf : MtD X.K r f) (ho : QE X o to)
    (hbase : attributeBase o name X.env (eval o X.env) = eval o X.env := by rfl) (hline : (apos.endLine == cpos.line) = true := by rfl) : QE X (.Call (.Attribute o name apos) [] [] cpos) (dBM T f to dNil) := by
  refine pe_mono (pe_bm0 pa slot hty hm ho hbase hline) fun σ H Q ⟨Z, δ, M, Qd, R, E, h, k⟩ => ?_
  refine ⟨Z, δ, M, _, R, E, h, fun Z1 x M1 u H1 s1 r1 h1 => ⟨tyD_tyV s1.rel r1 h1.1, ?_⟩⟩
  exact hf Z1 M1 H1 x u [] [] Qd Q s1.rel r1 .nil h1.2 (k.mono s1)
theorem qe_bm (pa : PlainAttrs T) (slot : Slot T name id) (hty : typeOf (.builtin id) = pure (.type "method_descriptor")) (hm : MtR X id r) (hf : MtD X.K r f) (ho : QE X o to) (ha : QA X (e :: es) t)
    (hbase : attributeBase o name X.env (eval o X.env) = eval o X.env := by rfl)
    (hfew : ((backTo cpos (starEach (e :: es) X.env)).all (fun x => !x.1) && (backToKw cpos (keywordEach [] X.env)).all (fun x => x.1.isSome)
      && decide ((e :: es).length + ([] : List Keyword).length + (if ([] : List Keyword).isEmpty then 0 else 1) < 30)) = true := by rfl)
    (hline : (apos.endLine == cpos.line) = true := by rfl) (hs : starEach (e :: es) X.env = (false, eval e X.env) :: starEach es X.env := by rfl) (hplain : (backTo cpos (starEach es X.env)).any (·.1) = false := by rfl) :
    QE X (.Call (.Attribute o name apos) (e :: es) [] cpos) (dBM T f to t) := by
  refine pe_mono (pe_bm pa slot hty hm ho ha hbase hfew hline hs hplain) fun σ H Q ⟨Z, δ, M, Qd, R, E, h, k⟩ => ?_
  refine ⟨Z, δ, M, _, R, E, h, fun Z1 x M1 u H1 s1 r1 h1 => ⟨tyD_tyV s1.rel r1 h1.1, ?_⟩⟩
  refine ⟨Z1, δ, M1, _, s1.rel, E.mono s1.ext, h1.2, fun Z2 xs M2 us H2 s2 r2 h2 => ?_⟩
  exact hf Z2 M2 H2 x u xs us Qd Q s2.rel (r1.mono s2.ext) r2 h2 (k.mono (s1.trans s2))
end
/-- of a list that may change -/
def lmut (M : Mem) : D → Option (Addr × List D)
  | .ref a => (lstFM (M a)).map fun ds => (a, ds)
  | _ => none
theorem lmut_sq {K : PySem.W.Frag} {Z : Im} {M : Mem} {H : Hp} (R : Rel K Z M H) {d : D} {v : V} {a : Addr} {ds : List D} (r : Rep K Z d v) (h : lmut M d = some (a, ds)) : v = .ref a ∧ M a = some (.lst ds) ∧ ∃ vs, H a = some (.lst vs) ∧ Reps K Z ds vs := by
  cases r with
  | ref b =>
    unfold lmut lstFM at h
    dsimp only at h
    split at h
    · rename_i e
      cases h
      obtain ⟨vs, q, rr⟩ := R.lst e
      exact ⟨rfl, e, vs, q, rr⟩
    · cases h
  | _ => cases h
def mAppend : FMt := fun M x xs Q => match lmut M x, xs with
  | some (a, ds), [y] => ds.length < sizeLine ∧ Q .non (mupd M a (.lst (ds ++ [y])))
  | _, _ => False
def mPop : FMt := fun M x xs Q => match lmut M x, xs with
  | some (a, ds), [] => match ds[ds.length - 1]? with
    | some y => Q y (mupd M a (.lst ds.dropLast))
    | none => False
  | _, _ => False
/-- pop(i), 0 <= i -/
def mPopAt : FMt := fun M x xs Q => match lmut M x, xs with
  | some (a, ds), [.int i] => 0 ≤ i ∧ i < 2 ^ 62 ∧ match ds[i.toNat]? with
    | some y => Q y (mupd M a (.lst (ds.eraseIdx i.toNat)))
    | none => False
  | _, _ => False
def mExtend : FMt := fun M x xs Q => match lmut M x, xs with
  | some (a, ds), [y] => match lstF M y with
    | some es => ds.length + es.length ≤ sizeLine ∧ Q .non (mupd M a (.lst (ds ++ es)))
    | none => False
  | _, _ => False
section
variable {X : Cx}
theorem md_append : MtD X.K rAppend mAppend := fun Z M H x u xs us Qd Q R r rr h k => by
  unfold mAppend at h
  split at h
  · rename_i a ds y e1
    obtain ⟨eu, hM, vs, ha, rv⟩ := lmut_sq R r e1
    cases rr with
    | cons ry rr =>
      cases rr
      have sp := Stp.put R hM (o := .lst (ds ++ [y])) (u := .lst (vs ++ [_])) ⟨_, upd_same, rv.append (.cons ry .nil)⟩
      exact ⟨a, vs, _, eu, rfl, ha, by rw [← rv.length]; exact h.1, k _ _ _ _ _ sp .non h.2⟩
  · exact h.elim
theorem md_pop : MtD X.K rPop mPop := fun Z M H x u xs us Qd Q R r rr h k => by
  unfold mPop at h
  split at h
  · rename_i a ds e1
    obtain ⟨eu, hM, vs, ha, rv⟩ := lmut_sq R r e1
    cases rr
    split at h
    · rename_i y e2
      obtain ⟨w, e3, rw'⟩ := rv.get e2
      have sp := Stp.put R hM (o := .lst ds.dropLast) (u := .lst vs.dropLast) ⟨_, upd_same, rv.dropLast⟩
      exact ⟨a, vs, w, eu, rfl, ha, by rw [← rv.length]; exact e3, k _ _ _ _ _ sp rw' h⟩
    · exact h.elim
  · exact h.elim
theorem md_popAt : MtD X.K rPopAt mPopAt := fun Z M H x u xs us Qd Q R r rr h k => by
  unfold mPopAt at h
  split at h
  · rename_i a ds i e1
    obtain ⟨eu, hM, vs, ha, rv⟩ := lmut_sq R r e1
    obtain ⟨h0, h1, h⟩ := h
    cases rr with
    | cons ry rr =>
      cases rr
      cases ry
      split at h
      · rename_i y e2
        obtain ⟨w, e3, rw'⟩ := rv.get e2
        have hlt : i.toNat < vs.length := (List.getElem?_eq_some_iff.mp e3).1
        have sp := Stp.put R hM (o := .lst (ds.eraseIdx i.toNat)) (u := .lst (vs.eraseIdx i.toNat)) ⟨_, upd_same, rv.eraseIdx _⟩
        refine ⟨a, vs, i, i.toNat, w, eu, rfl, ha, by omega, by omega, ?_, e3, k _ _ _ _ _ sp rw' h⟩
        have e0 : i = (i.toNat : Int) := by omega
        have hx : ixN vs.length i = some i.toNat := by
          unfold ixN
          rw [if_pos h0, if_pos (by omega)]
        exact (ixN_seq hx).1
      · exact h.elim
  · exact h.elim
theorem md_extend : MtD X.K rExtend mExtend := fun Z M H x u xs us Qd Q R r rr h k => by
  unfold mExtend at h
  split at h
  · rename_i a ds y e1
    obtain ⟨eu, hM, vs, ha, rv⟩ := lmut_sq R r e1
    cases rr with
    | cons ry rr =>
      cases rr
      split at h
      · rename_i es e2
        obtain ⟨b, ws, ev, hb, rw'⟩ := lstF_sq R ry e2
        subst ev
        have sp := Stp.put R hM (o := .lst (ds ++ es)) (u := .lst (vs ++ ws)) ⟨_, upd_same, rv.append rw'⟩
        exact ⟨a, b, vs, ws, eu, rfl, ha, hb, by rw [← rv.length, ← rw'.length]; exact h.1, k _ _ _ _ _ sp .non h.2⟩
      · exact h.elim
  · exact h.elim
end

/-! ### o[i] = v -/
abbrev FSet := Mem → D → D → D → (Mem → Prop) → Prop
/-- a list that may change, by a place; a dict that may change -/
def fSet : FSet := fun M o i v Q => match o with
  | .ref a => match M a with
    | some (.lst ds) => match i with
      | .int k => match ixN ds.length k with
        | some j => Q (mupd M a (.lst (ds.set j v)))
        | none => False
      | _ => False
    | some (.dK kvs) => match keyD i with
      | some k => kvs.length < sizeLine ∧ Q (mupd M a (.dK (putA kvs k v)))
      | none => False
    | some (.dT kvs) => match (tupK i).bind keysD with
      | some k => kvs.length < sizeLine ∧ Q (mupd M a (.dT (putA kvs k v)))
      | none => False
    | _ => False
  | _ => False
section
variable {X : Cx}
theorem pset_or {r r' : TSet} (h : PSet X r) (h' : PSet X r') : PSet X fun o i v H Q => r o i v H Q ∨ r' o i v H Q := by
  intro pins s σ H o i v ov iv u Q I ro ri rv q
  rcases q with q | q
  · exact h pins s σ H o i v ov iv u Q I ro ri rv q
  · exact h' pins s σ H o i v ov iv u Q I ro ri rv q
def SetD (K : PySem.W.Frag) (r : TSet) (f : FSet) : Prop := ∀ Z M H o i v ov iv u (Qd : Mem → Prop) (Q : Hp → Prop), Rel K Z M H → Rep K Z o ov → Rep K Z i iv → Rep K Z v u → f M o i v Qd →
  (∀ M' H', Stp K Z M H Z M' H' → Qd M' → Q H') → r ov iv u H Q
theorem or_set (hu : X.A.units + 1 < cLine) : PSet X fun o i v H Q => rSetL o i v H Q ∨ rSetD o i v H Q := pset_or set_list (set_dict hu)
theorem sd_set : SetD X.K (fun o i v H Q => rSetL o i v H Q ∨ rSetD o i v H Q) fSet := fun Z M H o i v ov iv u Qd Q R ro ri rv h k => by
  unfold fSet at h
  cases ro <;> first | exact h.elim | skip
  rename_i a
  dsimp only at h
  split at h
  · rename_i ds e
    cases ri <;> first | exact h.elim | skip
    rename_i kk
    dsimp only at h
    split at h
    · rename_i j ej
      obtain ⟨vs, ha, rr⟩ := R.lst e
      have sp := Stp.put R e (o := .lst (ds.set j v)) (u := .lst (vs.set j u)) ⟨_, upd_same, rr.set rv j⟩
      exact .inl ⟨a, vs, kk, j, rfl, rfl, ha, by rw [← rr.length]; exact ej, k _ _ sp h⟩
    · exact h.elim
  · rename_i kvs e
    split at h
    · rename_i kk ek
      obtain ⟨vs, ha, rr⟩ := R.dK e
      have sp := Stp.put R e (o := .dK (putA kvs kk v)) (u := .dK (putK vs kk u)) ⟨_, upd_same, repP_put kk rv rr⟩
      refine .inr ⟨a, _, rfl, ?_, k _ _ sp h.2⟩
      rw [rep_key ri ek]
      exact DPut.k ha (by rw [← rr.length]; exact h.1)
    · exact h.elim
  · rename_i kvs e
    split at h
    · rename_i kk ek
      obtain ⟨es, e1, e2⟩ := Option.bind_eq_some_iff.mp ek
      obtain ⟨vs, ha, rr⟩ := R.dT e
      obtain ⟨b, us, ev, zb, _, r3⟩ := tupk_sq R ri e1
      subst ev
      have sp := Stp.put R e (o := .dT (putA kvs kk v)) (u := .dT (putK vs kk u)) ⟨_, upd_same, repP_put kk rv rr⟩
      exact .inr ⟨a, _, rfl, DPut.t ha (tup_key R zb r3 e2) (by rw [← rr.length]; exact h.1), k _ _ sp h.2⟩
    · exact h.elim
  · exact h.elim

/-! ### targets -/
variable {o i : Expr} {to ti : TED} {pos : Pos}
def gdName (i : Nat) : TGD := fun d δ M Q => Q (dset δ i d) M
theorem qg_name {i : Nat} {x : Str} (hN : X.N.Nodup) (hi : X.N[i]? = some x) (hx : Loc X.env.scope x) (hf : X.fn x = true ∨ X.env.scope.names.lookup x = some .local := by first | exact .inl rfl | exact .inr rfl | assumption) : QG X (.Name x pos) (gdName i) :=
  pg_mono (pg_name hN hi hx hf) fun v σ H Q ⟨Z, δ, M, d, Qd, R, E, r, h, k⟩ => k Z _ M _ H (.refl R) (E.set r i) h
abbrev TGDs := List D → DEnv → Mem → (DEnv → Mem → Prop) → Prop
def liftGs (K : PySem.W.Frag) (t : TGDs) : TGs := fun vs σ H Q => ∃ Z δ M ds Qd, Rel K Z M H ∧ EnvR K Z δ σ ∧ Reps K Z ds vs ∧ t ds δ M Qd ∧ KonG K Z M H Qd Q
abbrev QGs (X : Cx) (es : List Expr) (t : TGDs) : Prop := PGs X es (liftGs X.K t)
def gdNil : TGDs := fun ds δ M Q => match ds with
  | [] => Q δ M
  | _ => False
def gdCons (t : TGD) (u : TGDs) : TGDs := fun ds δ M Q => match ds with
  | d :: r => t d δ M fun δ1 M1 => u r δ1 M1 Q
  | [] => False
theorem pgs_mono {es : List Expr} {t t' : TGs} (h : PGs X es t) (m : ∀ vs σ H Q, t' vs σ H Q → t vs σ H Q) : PGs X es t' := ⟨fun pins s σ H vs us Q I r q => h.run pins s σ H vs us Q I r (m vs σ H Q q)⟩
theorem qgs_nil : QGs X [] gdNil := pgs_mono pgs_nil fun vs σ H Q ⟨Z, δ, M, ds, Qd, R, E, r, h, k⟩ => by
  cases r with
  | nil => exact ⟨rfl, k Z δ M σ H (.refl R) E h⟩
  | cons _ _ => exact h.elim
theorem qgs_cons {e : Expr} {es : List Expr} {t : TGD} {u : TGDs} (h1 : QG X e t) (h2 : QGs X es u)
    (hs : (assignEach (e :: es) X.env).map (·.2) = assign e X.env :: (assignEach es X.env).map (·.2) := by rfl) : QGs X (e :: es) (gdCons t u) := pgs_mono (pgs_cons h1 h2 hs) fun vs σ H Q ⟨Z, δ, M, ds, Qd, R, E, r, h, k⟩ => by
  cases r with
  | nil => exact h.elim
  | cons r rr =>
    refine ⟨_, _, rfl, Z, δ, M, _, _, R, E, r, h, fun Z1 δ1 M1 σ1 H1 s1 E1 h1 => ?_⟩
    exact ⟨Z1, δ1, M1, _, Qd, s1.rel, E1, rr.mono s1.ext, h1, k.mono s1⟩
def gdTup (n : Nat) (t : TGDs) : TGD := fun d δ M Q => match tupOf d with
  | some ds => ds.length = n ∧ t ds δ M Q
  | none => False
/-- a target of several -/
theorem qg_tup {es : List Expr} {kk : Nat} {t : TGDs} {n : Nat} (hc : X.calm = true) (h : QGs X es t)
    (hn : (assignEach es X.env).length = n := by rfl) (hst : (assignEach es X.env).findIdx? (·.1) = none := by rfl) : QG X (.Tuple es kk pos) (gdTup n t) :=
  pg_mono (pg_tup hc h hn hst) fun v σ H Q ⟨Z, δ, M, d, Qd, R, E, r, h, k⟩ => by
    unfold gdTup at h
    split at h
    · rename_i ds e
      obtain ⟨a, vs, eu, za, hs, rr⟩ := tup_sq R r e
      exact ⟨a, vs, eu, hs, by rw [← rr.length]; exact h.1, Z, δ, M, ds, Qd, R, E, rr, h.2, k⟩
    · exact h.elim
/-- o[i] = .. -/
def gdSub (to ti : TED) : TGD := fun d δ M Q => to δ M fun o M1 => ti δ M1 fun i M2 => fSet M2 o i d fun M3 => Q δ M3
theorem qg_sub (hu : X.A.units + 1 < cLine) (ho : QE X o to) (hi : QE X i ti)
    (ha : ∀ v, assign (.Subscript o i pos) X.env v = (do
      let ov ← holding [v] (eval o X.env)
      let iv ← holding [v, ov] (eval i X.env)
      standAt pos
      holding [v, ov, iv] (setItem ov iv v)
      release [v, ov, iv] []) := by intro _; rfl) : QG X (.Subscript o i pos) (gdSub to ti) :=
  pg_mono (pg_sub ho hi (or_set hu) ha) fun v σ H Q ⟨Z, δ, M, d, Qd, R, E, r, h, k⟩ => by
    refine ⟨Z, δ, M, _, R, E, h, fun Z1 x M1 u H1 s1 r1 h1 => ?_⟩
    refine ⟨Z1, δ, M1, _, s1.rel, E.mono s1.ext, h1, fun Z2 y M2 w H2 s2 r2 h2 => ?_⟩
    have s12 := s1.trans s2
    exact sd_set Z2 M2 H2 x y d u w v _ _ s2.rel (r1.mono s2.ext) r2 (r.mono s12.ext) h2 fun M3 H3 s3 h3 => k Z2 δ M3 σ H3 (s12.trans s3) (E.mono s12.ext) h3
/-- target = value -/
def dAsg (te : TED) (g : TGD) : TSD := fun D δ M => te δ M fun d M1 => g d δ M1 D.nx
theorem qs_asg {tg e : Expr} {te : TED} {g : TGD} (he : QE X e te) (hg : QG X tg g) (hs : swapsWithSole [tg] e pos.line X.env = pure false := by rfl) (hw : swappedStores [tg] e X.env = pure none := by rfl)
    (h1 : (assignEach [tg] X.env).map (·.2) = [assign tg X.env] := by rfl) : QS X (.Assign [tg] e pos) (dAsg te g) := by
  refine ps_mono (ps_asg he hg hs hw h1) fun D σ H ⟨Z, δ, M, Dd, R, E, h, k⟩ => ?_
  refine ⟨Z, δ, M, _, R, E, h, fun Z1 d M1 v H1 s1 r1 h1 => ?_⟩
  exact ⟨Z1, δ, M1, d, _, s1.rel, E.mono s1.ext, r1, h1, k.nx.mono s1⟩
end

/-! ### walks -/
structure ItD where
  items : List D
  alive : Mem → Prop
def WalkD (K : PySem.W.Frag) (Z : Im) (J : It) (jd : ItD) : Prop := ∀ Z1 M1 H1, Ext Z Z1 → Rel K Z1 M1 H1 → jd.alive M1 →
  (∀ i, i < jd.items.length → J.go i H1) ∧ J.stop jd.items.length H1 ∧
    ∀ i x H2, i < jd.items.length → J.yld i H1 x H2 → ∃ Z2 d, Stp K Z1 M1 H1 Z2 M1 H2 ∧ jd.items[i]? = some d ∧ Rep K Z2 d x
abbrev TID := DEnv → Mem → (ItD → Mem → Prop) → Prop
def liftI (K : PySem.W.Frag) (t : TID) : TI := fun σ H R => ∃ Z δ M Rd, Rel K Z M H ∧ EnvR K Z δ σ ∧ t δ M Rd ∧ ∀ Z' J jd M' H', Stp K Z M H Z' M' H' → WalkD K Z' J jd → Rd jd M' → R J H'
abbrev QI (X : Cx) (tg iter : Expr) (t : TID) : Prop := PI X tg iter (liftI X.K t)
theorem pi_mono {X : Cx} {tg iter : Expr} {t t' : TI} (h : PI X tg iter t) (m : ∀ σ H R, t' σ H R → t σ H R) : PI X tg iter t' := ⟨fun pins s σ H R I q => h.run pins s σ H R I (m σ H R q)⟩
/-- a list, a tuple -/
def dISeq (tl : TED) : TID := fun δ M R => tl δ M fun x M1 => match seqD M1 x with
  | some ds => R ⟨ds, fun M' => seqD M' x = some ds⟩ M1
  | none => False
section
variable {X : Cx} {tg : Expr}
theorem pi_seq {l : Expr} {tl : TE} (hl : PE X l tl) : PI X tg l fun σ H R => tl σ H fun x H1 => (∃ a, x = .ref a ∧ (∃ xs, SqL X.K H1 a xs) ∧ R (Itl X.K a) H1) ∨ ∃ a, x = .ref a ∧ (∃ xs, SqT X.K H1 a xs) ∧ R (Itt X.K a) H1 := by
  refine ⟨fun pins s σ H R I h => ?_⟩
  refine thn (hl.run pins s σ H _ I h) fun v s1 ⟨x, H1, I1, r1, q1⟩ => ?_
  have fp : ∀ b ∈ [s1.heap.objs.size], FpOk X pins H1 b := fun b hb => by
    obtain rfl : b = s1.heap.objs.size := List.mem_singleton.mp hb
    exact I1.fpOk (Nat.le_refl _) (I1.hok.fresh (Nat.le_refl _))
  rcases q1 with ⟨a, e, ⟨xs, hq⟩, q⟩ | ⟨a, e, ⟨xs, hq⟩, q⟩
  · subst e
    cases r1
    obtain ⟨its, rv, p, hz⟩ := I1.list hq
    exact wpAny_pyIter_list p.isList ⟨_, [_], _, _, H1, rfl, I1.kept (t' := s1.toks) fun b o e => Heap.get?_push_of_some _ e, turn_list a _, ⟨_, Heap.get?_push_size _ rfl, rfl, rfl⟩, fp, q⟩
  · subst e
    cases r1
    obtain ⟨its, rv, p, hz⟩ := I1.tuple hq
    exact wpAny_pyIter_tuple (show s1.heap.IsTuple a its.toArray from p) ⟨_, [_], _, _, H1, rfl, I1.kept (t' := s1.toks) fun b o e => Heap.get?_push_of_some _ e, turn_tuple a _, ⟨_, Heap.get?_push_size _ rfl, rfl, rfl⟩, fp, q⟩
theorem walkD_lst {K : PySem.W.Frag} {Z : Im} {d : D} {a : Addr} {ds : List D} (r : Rep K Z d (.ref a)) (hl : ∀ M, seqD M d = some ds → lstD M d = some ds) : WalkD K Z (Itl K a) ⟨ds, fun M' => seqD M' d = some ds⟩ := by
  intro Z1 M1 H1 e R al
  obtain ⟨a', vs, eu, hs, rr⟩ := lst_sq R (r.mono e) (hl _ al)
  cases eu
  have W := walk_list (K := K) (a := a) (xs := vs)
  rw [← rr.length] at W
  refine ⟨fun i hi => W.goes i H1 hi hs, W.stops H1 hs, fun i x H2 hi y => ?_⟩
  obtain ⟨eH, ex⟩ := W.yields i H1 x H2 hi hs y
  subst eH
  obtain ⟨d', e1, r1⟩ := rr.getV ex
  exact ⟨Z1, d', .refl R, e1, r1⟩
theorem walkD_tup {K : PySem.W.Frag} {Z : Im} {d : D} {a : Addr} {ds : List D} (r : Rep K Z d (.ref a)) (hl : tupOf d = some ds) : WalkD K Z (Itt K a) ⟨ds, fun M' => seqD M' d = some ds⟩ := by
  intro Z1 M1 H1 e R al
  obtain ⟨a', vs, eu, _, hs, rr⟩ := tup_sq R (r.mono e) hl
  cases eu
  have W := walk_tup (K := K) (a := a) (xs := vs)
  rw [← rr.length] at W
  refine ⟨fun i hi => W.goes i H1 hi hs, W.stops H1 hs, fun i x H2 hi y => ?_⟩
  obtain ⟨eH, ex⟩ := W.yields i H1 x H2 hi hs y
  subst eH
  obtain ⟨d', e1, r1⟩ := rr.getV ex
  exact ⟨Z1, d', .refl R, e1, r1⟩
theorem qi_seq {l : Expr} {tl : TED} (hl : QE X l tl) : QI X tg l (dISeq tl) := by
  refine pi_mono (pi_seq hl) fun σ H R ⟨Z, δ, M, Rd, R0, E, h, k⟩ => ?_
  refine ⟨Z, δ, M, _, R0, E, h, fun Z1 x M1 u H1 s1 r1 h1 => ?_⟩
  split at h1
  · rename_i ds e
    rcases seq_or e with e1 | e1
    · obtain ⟨a, vs, eu, hs, rr⟩ := lst_sq s1.rel r1 e1
      subst eu
      refine .inl ⟨a, rfl, ⟨vs, hs⟩, k Z1 _ _ M1 H1 s1 (walkD_lst r1 fun M' q => ?_) h1⟩
      cases x <;> first | exact q | cases e1
    · obtain ⟨a, vs, eu, _, hs, rr⟩ := tup_sq s1.rel r1 e1
      subst eu
      exact .inr ⟨a, rfl, ⟨vs, hs⟩, k Z1 _ _ M1 H1 s1 (walkD_tup r1 e1) h1⟩
  · exact h1.elim
/-- range -/
def rgD (lo hi : Int) : List D := (List.range (hi - lo).toNat).map fun (i : Nat) => D.int (lo + i)
def dIRng1 (ta : TAD) : TID := fun δ M R => ta δ M fun ds M1 => match ds with
  | [.int j] => -(2 ^ 62) ≤ j ∧ j < 2 ^ 62 ∧ R ⟨rgD 0 j, fun _ => True⟩ M1
  | _ => False
def dIRng2 (ta : TAD) : TID := fun δ M R => ta δ M fun ds M1 => match ds with
  | [.int i, .int j] => (-(2 ^ 62) ≤ i ∧ i < 2 ^ 62 ∧ -(2 ^ 62) ≤ j ∧ j < 2 ^ 62) ∧ R ⟨rgD i j, fun _ => True⟩ M1
  | _ => False
theorem walkD_rng {K : PySem.W.Frag} {Z : Im} {lo hi : Int} {n : Nat} (hn : n = (hi - lo).toNat) : WalkD K Z (Itr lo n) ⟨rgD lo hi, fun _ => True⟩ := by
  intro Z1 M1 H1 e R _
  have hl : (rgD lo hi).length = n := by unfold rgD; rw [List.length_map, List.length_range, hn]
  dsimp only
  rw [hl]
  refine ⟨fun i hi => hi, Nat.le_refl n, fun i x H2 hi y => ?_⟩
  obtain ⟨eH, ex⟩ := y
  subst eH
  subst ex
  refine ⟨Z1, .int (lo + i), .refl R, ?_, .int _⟩
  unfold rgD
  rw [List.getElem?_map, List.getElem?_range (by omega)]
  rfl
theorem qi_rng1 {a : Expr} {ta : TAD} {p pos : Pos} (hg : Gl X "range") (hm : X.mg "range" = none) (ha : QA X [a] ta) (hs : starEach [a] X.env = [(false, eval a X.env)] := by rfl) : QI X tg (.Call (.Name "range" p) [a] [] pos) (dIRng1 ta) := by
  refine pi_mono (pi_range1 hg hm ha hs) fun σ H R ⟨Z, δ, M, Rd, R0, E, h, k⟩ => ?_
  refine ⟨Z, δ, M, _, R0, E, h, fun Z1 ds M1 us H1 s1 r1 h1 => ?_⟩
  split at h1
  · rename_i j
    cases r1 with
    | cons r rr =>
      cases rr
      cases r
      exact ⟨j, rfl, h1.1, h1.2.1, k Z1 _ _ M1 H1 s1 (walkD_rng (by omega)) h1.2.2⟩
  · exact h1.elim
theorem qi_rng2 {a b : Expr} {ta : TAD} {p pos : Pos} (hg : Gl X "range") (hm : X.mg "range" = none) (ha : QA X [a, b] ta) (hs : starEach [a, b] X.env = [(false, eval a X.env), (false, eval b X.env)] := by rfl) (hs2 : starEach [b] X.env = [(false, eval b X.env)] := by rfl) :
    QI X tg (.Call (.Name "range" p) [a, b] [] pos) (dIRng2 ta) := by
  refine pi_mono (pi_range2 hg hm ha hs hs2) fun σ H R ⟨Z, δ, M, Rd, R0, E, h, k⟩ => ?_
  refine ⟨Z, δ, M, _, R0, E, h, fun Z1 ds M1 us H1 s1 r1 h1 => ?_⟩
  split at h1
  · rename_i i j
    cases r1 with
    | cons r rr =>
      cases rr with
      | cons r' rr =>
        cases rr
        cases r
        cases r'
        exact ⟨i, j, rfl, h1.1, k Z1 _ _ M1 H1 s1 (walkD_rng rfl) h1.2⟩
  · exact h1.elim
/-- range down by ones -/
def rgDn (lo : Int) (n : Nat) : List D := (List.range n).map fun (i : Nat) => D.int (lo - i)
def dIRng3 (ta : TAD) : TID := fun δ M R => ta δ M fun ds M1 => match ds with
  | [.int i, .int j, .int c] => c = -1 ∧ (-(2 ^ 62) ≤ i ∧ i < 2 ^ 62 ∧ -(2 ^ 62) ≤ j ∧ j < 2 ^ 62) ∧ R ⟨rgDn i (i - j).toNat, fun _ => True⟩ M1
  | _ => False
end

/-! ### for -/
def forGo (alive : Mem → Prop) (g : TGD) (tb : TSD) (De : DEnds) : List D → DEnv → Mem → Prop
  | [], δ, M => alive M ∧ De.nx δ M
  | d :: ds, δ, M => alive M ∧ g d δ M fun δ1 M1 => tb { nx := forGo alive g tb De ds, rt := De.rt, bk := De.nx, ct := forGo alive g tb De ds } δ1 M1
def dFor (ti : TID) (g : TGD) (tb : TSD) : TSD := fun D δ M => ti δ M fun jd M1 => forGo jd.alive g tb D jd.items δ M1
section
variable {X : Cx}
theorem qs_for {tg iter : Expr} {body : List Stmt} {ti : TID} {g : TGD} {tb : TSD} {pos : Pos} (hp : PassesOwn (model X.prog X.w) X.A X.env X.xe) (hc : X.calm = true) (hi : QI X tg iter ti) (hg : QG X tg g) (hb : QSs X body tb)
    (hs : ∀ x, foldedSetIterable iter X.env x = pure x := by intro _; rfl) : QS X (.For tg iter body [] pos) (dFor ti g tb) := by
  refine ps_mono (ps_for hp hc hi hg hb hs) fun D σ H ⟨Z, δ, M, Dd, R, E, h, k⟩ => ?_
  refine ⟨Z, δ, M, _, R, E, h, fun Z0 J jd M0 H0 s0 W h0 => ?_⟩
  refine ⟨fun i m σ1 H1 => m = jd.items.length - i ∧ i ≤ jd.items.length ∧ ∃ Z1 δ1 M1, Stp X.K Z M H Z1 M1 H1 ∧ Ext Z0 Z1 ∧ EnvR X.K Z1 δ1 σ1 ∧ forGo jd.alive g tb Dd (jd.items.drop i) δ1 M1, ⟨_, rfl, Nat.zero_le _, Z0, δ, M0, s0, Ext.rfl', E.mono s0.ext, by rw [List.drop_zero]; exact h0⟩, ?_⟩
  rintro i m σ1 H1 ⟨rfl, hi, Z1, δ1, M1, s1, e1, E1, h1⟩
  by_cases hlt : i < jd.items.length
  · have hd := List.drop_eq_getElem_cons hlt
    rw [hd] at h1
    obtain ⟨al, h1⟩ := h1
    obtain ⟨w1, w2, w3⟩ := W Z1 M1 H1 e1 s1.rel al
    refine .inr ⟨w1 i hlt, fun σ2 H2 => ∃ Z2 δ2 M2, Stp X.K Z M H Z2 M2 H2 ∧ Ext Z0 Z2 ∧ EnvR X.K Z2 δ2 σ2 ∧ forGo jd.alive g tb Dd (jd.items.drop (i + 1)) δ2 M2, fun σ2 H2 q => ⟨jd.items.length - (i + 1), by omega, rfl, hlt, q⟩, fun x H2 y => ?_⟩
    obtain ⟨Z2, d, s2, ed, rd⟩ := w3 i x H2 hlt y
    have e0 : jd.items[i] = d := by
      rw [List.getElem?_eq_getElem hlt] at ed
      exact Option.some.inj ed
    rw [e0] at h1
    have s12 := s1.trans s2
    refine ⟨Z2, δ1, M1, d, _, s2.rel, E1.mono s2.ext, rd, h1, fun Z3 δ3 M3 σ3 H3 s3 E3 h3 => ?_⟩
    have s13 := s12.trans s3
    have e03 := (e1.trans s2.ext).trans s3.ext
    refine ⟨Z3, δ3, M3, _, s3.rel, E3, h3, ⟨fun Z4 δ4 M4 σ4 H4 s4 E4 h4 => ⟨Z4, δ4, M4, s13.trans s4, e03.trans s4.ext, E4, h4⟩, k.rt.mono s13, k.nx.mono s13, fun Z4 δ4 M4 σ4 H4 s4 E4 h4 => ⟨Z4, δ4, M4, s13.trans s4, e03.trans s4.ext, E4, h4⟩⟩⟩
  · have e : i = jd.items.length := by omega
    subst e
    rw [List.drop_length] at h1
    obtain ⟨al, h1⟩ := h1
    obtain ⟨w1, w2, w3⟩ := W Z1 M1 H1 e1 s1.rel al
    exact .inl ⟨w2, k.nx _ _ _ _ _ s1 E1 h1⟩
end
end DL
end
section
set_option Elab.async false
set_option linter.all false
set_option maxRecDepth 100000
set_option maxHeartbeats 4000000
namespace DL
open PySem PySem.Spec PyProof.Rows L2

/-! ### comprehensions -/
/-- a comprehension's target: it stores its own names alone -/
def GOk (K : PySem.W.Frag) (vs : List Nat) (g : TG) (gd : TGD) : Prop := ∀ Z δ M H σ d v (Qd : DEnv → Mem → Prop) (Q : St → Hp → Prop), Rel K Z M H → EnvR K Z δ σ → Rep K Z d v → gd d δ M Qd →
  (∀ δ' σ', EnvR K Z δ' σ' → wipe σ' vs = wipe σ vs → Qd δ' M → Q σ' H) → g v σ H Q
theorem set_set_none (l : St) (i : Nat) (x : Option V) : (l.set i x).set i none = l.set i none := by rw [List.set_set]
theorem wipe_set {i : Nat} {x : Option V} : ∀ {vs : List Nat} {σ : St}, i ∈ vs → wipe (σ.set i x) vs = wipe σ vs
  | [], _, h => by cases h
  | v :: vs, σ, h => by
    unfold wipe
    by_cases e : i ∈ vs
    · rw [wipe_set e]
    · have hv : i = v := by
        rcases List.mem_cons.mp h with h | h
        · exact h
        · exact absurd h e
      subst hv
      have key : ∀ (us : List Nat) (τ : St), i ∉ us → wipe (τ.set i x) us = (wipe τ us).set i x := by
        intro us
        induction us with
        | nil => intro τ _; rfl
        | cons u us ih =>
          intro τ hu
          unfold wipe
          rw [ih τ (fun z => hu (List.mem_cons_of_mem _ z)), List.set_comm _ _ (fun z : i = u => hu (z ▸ List.mem_cons_self))]
      rw [key vs σ e, List.set_set]
theorem wipe_wipe : ∀ {us vs : List Nat} {σ : St}, (∀ i ∈ us, i ∈ vs) → wipe (wipe σ us) vs = wipe σ vs
  | [], _, _, _ => rfl
  | u :: us, vs, σ, h => by
    show wipe ((wipe σ us).set u none) vs = wipe σ vs
    rw [wipe_set (h u List.mem_cons_self), wipe_wipe fun i hi => h i (List.mem_cons_of_mem _ hi)]
theorem gok_name {K : PySem.W.Frag} {vs : List Nat} {i : Nat} (hi : i ∈ vs := by decide) : GOk K vs (gName i) (gdName i) := fun Z δ M H σ d v Qd Q R E r h k => k _ _ (E.set r i) (wipe_set hi) h
def GsOk (K : PySem.W.Frag) (vs : List Nat) (g : TGs) (gd : TGDs) : Prop := ∀ Z δ M H σ ds ws (Qd : DEnv → Mem → Prop) (Q : St → Hp → Prop), Rel K Z M H → EnvR K Z δ σ → Reps K Z ds ws → gd ds δ M Qd →
  (∀ δ' σ', EnvR K Z δ' σ' → wipe σ' vs = wipe σ vs → Qd δ' M → Q σ' H) → g ws σ H Q
theorem gsok_nil {K : PySem.W.Frag} {vs : List Nat} : GsOk K vs gNil gdNil := fun Z δ M H σ ds ws Qd Q R E r h k => by
  cases r with
  | nil => exact ⟨rfl, k δ σ E rfl h⟩
  | cons _ _ => exact h.elim
theorem gsok_cons {K : PySem.W.Frag} {vs : List Nat} {g : TG} {gd : TGD} {gs : TGs} {gds : TGDs} (h1 : GOk K vs g gd) (h2 : GsOk K vs gs gds) : GsOk K vs (gCons g gs) (gdCons gd gds) := fun Z δ M H σ ds ws Qd Q R E r h k => by
  cases r with
  | nil => exact h.elim
  | cons r rr =>
    refine ⟨_, _, rfl, h1 Z δ M H σ _ _ _ _ R E r h fun δ1 σ1 E1 w1 h1 => ?_⟩
    exact h2 Z δ1 M H σ1 _ _ Qd Q R E1 rr h1 fun δ2 σ2 E2 w2 h2 => k δ2 σ2 E2 (w2.trans w1) h2
theorem gok_tup {K : PySem.W.Frag} {vs : List Nat} {n : Nat} {gs : TGs} {gds : TGDs} (h : GsOk K vs gs gds) : GOk K vs (gTup K n gs) (gdTup n gds) := fun Z δ M H σ d v Qd Q R E r h1 k => by
  unfold gdTup at h1
  split at h1
  · rename_i ds e
    obtain ⟨a, ws, eu, za, hs, rr⟩ := tup_sq R r e
    exact ⟨a, ws, eu, hs, by rw [← rr.length]; exact h1.1, h Z δ M H σ ds ws Qd Q R E rr h1.2 k⟩
  · exact h1.elim
abbrev QTs (X : Cx) (ifs : List Expr) (t : TTD) : Prop := PTs X ifs (liftT X.K t)
def dYes : TTD := fun _ M Q => Q true M
theorem pts_mono {X : Cx} {ifs : List Expr} {t t' : TT} (h : PTs X ifs t) (m : ∀ σ H Q, t' σ H Q → t σ H Q) : PTs X ifs t' := by
  obtain ⟨h⟩ := h
  exact ⟨fun pins s σ H Q I q => h pins s σ H Q I (m σ H Q q)⟩
theorem qts_nil {X : Cx} : QTs X [] dYes := pts_mono pts_nil fun σ H Q ⟨Z, δ, M, Qd, R, E, h, k⟩ => k Z true M H (.refl R) h
theorem qts_one {X : Cx} {c : Expr} {t : TTD} (h : QT X c t) : QTs X [c] t := pts_one h

def lcGo (alive : Mem → Prop) (g : TGD) (tt : TTD) (te : TED) (δ0 : DEnv) : List D → List D → Mem → (List D → Mem → Prop) → Prop
  | [], acc, M, Q => alive M ∧ Q acc M
  | d :: ds, acc, M, Q => alive M ∧ g d δ0 M fun δ1 M1 => tt δ1 M1 fun b M2 => if b = true then te δ1 M2 fun y M3 => acc.length < sizeLine ∧ lcGo alive g tt te δ0 ds (acc ++ [y]) M3 Q else lcGo alive g tt te δ0 ds acc M2 Q
/-- a list that nobody changes; one that may change -/
def dLc (ti : TID) (g : TGD) (tt : TTD) (te : TED) (vs : List Nat) : TED := fun δ M Q => ti δ M fun jd M1 => lcGo jd.alive g tt te (dwipe δ vs) jd.items [] M1 fun acc M2 => Q (.lst acc) M2
def dLcM (ti : TID) (g : TGD) (tt : TTD) (te : TED) (vs : List Nat) : TED := fun δ M Q => ti δ M fun jd M1 => lcGo jd.alive g tt te (dwipe δ vs) jd.items [] M1 fun acc M2 => ∀ p, M2 p = none → Q (.ref p) (mupd M2 p (.lst acc))
section
variable {K : PySem.W.Frag} {ti : TID} {g : TG} {gd : TGD} {tt : TTD} {te : TED} {vs : List Nat}
/-- the state of a comprehension's loop: the new list at D -/
structure LcSt (K : PySem.W.Frag) (Z0 : Im) (M0 : Mem) (H0 : Hp) (D : Addr) (Z1 : Im) (M1 : Mem) (H1 : Hp) (acc : List DL.D) (ws : List V) : Prop where
  st : Stp K Z0 M0 H0 Z1 M1 H1
  mn : M1 D = none
  zn : Z1 D = none
  at_ : H1 D = some (.lst ws)
  rep : Reps K Z1 acc ws
theorem LcSt.more {Z0 Z1 Z2 : Im} {M0 M1 M2 : Mem} {H0 H1 H2 : Hp} {D : Addr} {acc : List DL.D} {ws : List V} (s : LcSt K Z0 M0 H0 D Z1 M1 H1 acc ws) (s2 : Stp K Z1 M1 H1 Z2 M2 H2) : LcSt K Z0 M0 H0 D Z2 M2 H2 acc ws := by
  obtain ⟨m2, h2, z2⟩ := s2.frm D _ s.at_ s.mn
  exact ⟨s.st.trans s2, m2, (z2 (fun vs q => nomatch q)).trans s.zn, h2, s.rep.mono s2.ext⟩
theorem LcSt.app {Z0 Z1 : Im} {M0 M1 : Mem} {H0 H1 : Hp} {D : Addr} {acc : List DL.D} {ws : List V} (s : LcSt K Z0 M0 H0 D Z1 M1 H1 acc ws) (hD : H0 D = none) {yd : DL.D} {yv : V} (ry : Rep K Z1 yd yv) :
    LcSt K Z0 M0 H0 D Z1 M1 (upd H1 D (.lst (ws ++ [yv]))) (acc ++ [yd]) (ws ++ [yv]) :=
  ⟨s.st.side hD s.mn s.zn _, s.mn, s.zn, upd_same, s.rep.append (.cons ry .nil)⟩
/-- the loop of a comprehension from any state of its -/
theorem lc_loopG (hg : GOk K vs g gd) {δ : DEnv} {σ : St} {Nd : Hp → Prop} {Qd : List D → Mem → Prop} {Z0 Z1 : Im} {M0 M1 : Mem} {H0 H1 : Hp} {J : It} {jd : ItD} {D : Addr} {acc : List DL.D} {ws : List V} (hD : H0 D = none) (s : LcSt K Z0 M0 H0 D Z1 M1 H1 acc ws)
    (E : EnvR K Z1 δ σ) (W : WalkD K Z1 J jd) (h0 : lcGo jd.alive gd tt te (dwipe δ vs) jd.items acc M1 Qd)
    (fin : ∀ Z2 M2 H2 acc ws, LcSt K Z0 M0 H0 D Z2 M2 H2 acc ws → Ext Z1 Z2 → Qd acc M2 → Nd H2) :
    ∃ W : Nat → Nat → Hp → Prop, (∃ m, W 0 m H1) ∧ ∀ i m H, W i m H →
      (J.stop i H ∧ Nd H) ∨ (J.go i H ∧ ∃ Nx : Hp → Prop, (∀ H', Nx H' → ∃ m', m' < m ∧ W (i + 1) m' H') ∧ ∀ x H', J.yld i H x H' → g x (wipe σ vs) H' fun σ2 H2 => wipe σ2 vs = wipe σ vs ∧ liftT K tt σ2 H2 fun b H3 =>
        if b = true then liftE K te σ2 H3 fun y H4 => ∃ acc, H4 D = some (.lst acc) ∧ acc.length < sizeLine ∧ Nx (upd H4 D (.lst (acc ++ [y]))) else Nx H3) := by
  let Sn (i : Nat) (H2 : Hp) : Prop := ∃ Z2 M2 acc ws, LcSt K Z0 M0 H0 D Z2 M2 H2 acc ws ∧ Ext Z1 Z2 ∧ lcGo jd.alive gd tt te (dwipe δ vs) (jd.items.drop i) acc M2 Qd
  refine ⟨fun i m H2 => m = jd.items.length - i ∧ i ≤ jd.items.length ∧ Sn i H2, ⟨_, rfl, Nat.zero_le _, Z1, M1, acc, ws, s, Ext.rfl', by rw [List.drop_zero]; exact h0⟩, ?_⟩
  rintro i m H2 ⟨rfl, hi, Z2, M2, acc, ws, s2, e2, go⟩
  by_cases hlt : i < jd.items.length
  · rw [List.drop_eq_getElem_cons hlt] at go
    obtain ⟨al, go⟩ := go
    obtain ⟨w1, w2, w3⟩ := W Z2 M2 H2 e2 s2.st.rel al
    refine .inr ⟨w1 i hlt, Sn (i + 1), fun H2 q => ⟨jd.items.length - (i + 1), by omega, rfl, hlt, q⟩, fun x H3 y => ?_⟩
    obtain ⟨Z3, d, t3, ed, rd⟩ := w3 i x H3 hlt y
    have e0 : jd.items[i] = d := by
      rw [List.getElem?_eq_getElem hlt] at ed
      exact Option.some.inj ed
    rw [e0] at go
    have s3 := s2.more t3
    refine hg Z3 _ M2 H3 (wipe σ vs) d x _ _ t3.rel ((E.mono (e2.trans t3.ext)).wipe vs) rd go fun δ4 σ4 E4 w4 go => ⟨w4.trans (wipe_wipe fun _ z => z), ?_⟩
    refine ⟨Z3, δ4, M2, _, t3.rel, E4, go, fun Z5 b M5 H5 t5 go => ?_⟩
    have s5 := s3.more t5
    have e5 := (e2.trans t3.ext).trans t5.ext
    cases b with
    | false =>
      rw [if_neg Bool.false_ne_true] at go
      show Sn (i + 1) H5
      exact ⟨Z5, M5, acc, ws, s5, e5, go⟩
    | true =>
      rw [if_pos rfl] at go
      refine iteT ?_
      refine ⟨Z5, δ4, M5, _, t5.rel, E4.mono t5.ext, go, fun Z6 yd M6 yv H6 t6 ry ⟨hlen, go⟩ => ?_⟩
      have s6 := s5.more t6
      exact ⟨ws, s6.at_, by rw [← s6.rep.length]; exact hlen, Z6, M6, acc ++ [yd], ws ++ [yv], s6.app hD ry, e5.trans t6.ext, go⟩
  · have e : i = jd.items.length := by omega
    subst e
    rw [List.drop_length] at go
    obtain ⟨al, go⟩ := go
    obtain ⟨w1, w2, w3⟩ := W Z2 M2 H2 e2 s2.st.rel al
    exact .inl ⟨w2, fin Z2 M2 H2 acc ws s2 e2 go⟩
theorem LcSt.new {Z0 : Im} {M0 : Mem} {H0 : Hp} (R0 : Rel K Z0 M0 H0) {D : Addr} (hD : H0 D = none) : LcSt K Z0 M0 H0 D Z0 M0 (upd H0 D (.lst [])) [] [] := by
  obtain ⟨mD, zD⟩ := R0.free hD
  exact ⟨(Stp.refl R0).side hD mD zD _, mD, zD, upd_same, .nil⟩
theorem LcSt.endI {Z0 Z1 : Im} {M0 M1 : Mem} {H0 H1 : Hp} {D : Addr} {acc : List DL.D} {ws : List V} (s : LcSt K Z0 M0 H0 D Z1 M1 H1 acc ws) (hD : H0 D = none) : Stp K Z0 M0 H0 (zupd Z1 D (.lst ws)) M1 H1 ∧ Rep K (zupd Z1 D (.lst ws)) (.lst acc) (.ref D) :=
  ⟨s.st.frz hD s.at_ s.mn s.zn, .lst D ws acc zupd_same (s.rep.mono (Ext.zupd s.zn))⟩
theorem LcSt.endM {Z0 Z1 : Im} {M0 M1 : Mem} {H0 H1 : Hp} {D : Addr} {acc : List DL.D} {ws : List V} (s : LcSt K Z0 M0 H0 D Z1 M1 H1 acc ws) (hD : H0 D = none) : Stp K Z0 M0 H0 Z1 (mupd M1 D (.lst acc)) H1 := by
  have rel : Rel K Z1 (mupd M1 D (.lst acc)) H1 := by
    have r := s.st.rel.put (p := D) s.zn (o := .lst acc) (u := .lst ws) ⟨ws, upd_same, s.rep⟩
    have e : upd H1 D (.lst ws) = H1 := by
      funext b; unfold upd; split
      · rename_i e; rw [e, s.at_]
      · rfl
    rw [e] at r
    exact r
  refine ⟨s.st.ext, rel, fun a o e m => ?_⟩
  obtain ⟨q1, q2, q3⟩ := s.st.frm a o e m
  exact ⟨by rw [mupd_ne (ne_of_none e hD)]; exact q1, q2, q3⟩
theorem lc_lift (hg : GOk K vs g gd) {σ : St} {H : Hp} {Q : VK} (h : liftE K (dLc ti gd tt te vs) σ H Q) : tLc (liftI K ti) g (liftT K tt) (liftE K te) vs σ H Q := by
  obtain ⟨Z, δ, M, Qd, R, E, h, k⟩ := h
  refine ⟨Z, δ, M, _, R, E, h, fun Z0 J jd M0 H0 s0 W h0 D hD => ?_⟩
  refine lc_loopG hg hD (LcSt.new s0.rel hD) (E.mono s0.ext) W h0 fun Z1 M1 H1 acc ws s1 _ q => ?_
  obtain ⟨sf, r⟩ := s1.endI hD
  exact k _ _ _ _ _ (s0.trans sf) r q
theorem lcM_lift (hg : GOk K vs g gd) {σ : St} {H : Hp} {Q : VK} (h : liftE K (dLcM ti gd tt te vs) σ H Q) : tLc (liftI K ti) g (liftT K tt) (liftE K te) vs σ H Q := by
  obtain ⟨Z, δ, M, Qd, R, E, h, k⟩ := h
  refine ⟨Z, δ, M, _, R, E, h, fun Z0 J jd M0 H0 s0 W h0 D hD => ?_⟩
  refine lc_loopG hg hD (LcSt.new s0.rel hD) (E.mono s0.ext) W h0 fun Z1 M1 H1 acc ws s1 _ q => ?_
  exact k _ _ _ _ _ (s0.trans (s1.endM hD)) (.ref D) (q D s1.mn)
end
section
variable {X : Cx} {elt tg iter : Expr} {ifs : List Expr} {scope : Scope} {own : List (Str × Nat)} {pos spos : Pos} {ti : TID} {g : TG} {gd : TGD} {tt : TTD} {te : TED}
theorem qe_lc (hc : X.calm = true) (hN : X.N.Nodup) (hi : QI X tg iter ti) (ok : BlkOk X.N X.env.scope scope own)
    (hg : ∀ (s : Shared) (H : Hp) (C : Addr) (cl : List (Str × Addr)) (fp : List Addr), PG (X.blk s H scope (compEnvC scope cl C X.env) fp) tg g) (hgd : GOk X.K (own.map (·.2)) g gd) (ht : ∀ (s : Shared) (H : Hp) (C : Addr) (cl : List (Str × Addr)) (fp : List Addr), QTs (X.blk s H scope (compEnvC scope cl C X.env) fp) ifs tt)
    (he : ∀ (s : Shared) (H : Hp) (C : Addr) (cl : List (Str × Addr)) (fp : List Addr), QE (X.blk s H scope (compEnvC scope cl C X.env) fp) elt te) (hs : ∀ x, foldedSetIterable iter X.env x = pure x := by intro _; rfl) :
    QE X (.ListComp elt [⟨tg, iter, ifs, 0⟩] scope pos) (dLc ti gd tt te (own.map (·.2))) :=
  pe_mono (pe_lc hc hN hi ok hg ht he hs) fun σ H Q h => lc_lift hgd h
theorem qe_lcM (hc : X.calm = true) (hN : X.N.Nodup) (hi : QI X tg iter ti) (ok : BlkOk X.N X.env.scope scope own)
    (hg : ∀ (s : Shared) (H : Hp) (C : Addr) (cl : List (Str × Addr)) (fp : List Addr), PG (X.blk s H scope (compEnvC scope cl C X.env) fp) tg g) (hgd : GOk X.K (own.map (·.2)) g gd) (ht : ∀ (s : Shared) (H : Hp) (C : Addr) (cl : List (Str × Addr)) (fp : List Addr), QTs (X.blk s H scope (compEnvC scope cl C X.env) fp) ifs tt)
    (he : ∀ (s : Shared) (H : Hp) (C : Addr) (cl : List (Str × Addr)) (fp : List Addr), QE (X.blk s H scope (compEnvC scope cl C X.env) fp) elt te) (hs : ∀ x, foldedSetIterable iter X.env x = pure x := by intro _; rfl) :
    QE X (.ListComp elt [⟨tg, iter, ifs, 0⟩] scope pos) (dLcM ti gd tt te (own.map (·.2))) :=
  pe_mono (pe_lc hc hN hi ok hg ht he hs) fun σ H Q h => lcM_lift hgd h
/-- name = [..] -/
theorem qs_setLc {i : Nat} {y : Str} {py : Pos} (hc : X.calm = true) (hN : X.N.Nodup) (hy : X.N[i]? = some y) (hyl : X.env.scope.names.lookup y = some .local)
    (hsw : swapsWith (.ListComp elt [⟨tg, iter, ifs, 0⟩] scope pos) (some (.Name y py)) spos.line X.env = pure true) (hi : QI X tg iter ti) (ok : BlkOk X.N X.env.scope scope own)
    (hg : ∀ (s : Shared) (H : Hp) (C : Addr) (cl : List (Str × Addr)) (fp : List Addr), PG (X.blk s H scope (compEnvC scope cl C X.env) fp) tg g) (hgd : GOk X.K (own.map (·.2)) g gd) (ht : ∀ (s : Shared) (H : Hp) (C : Addr) (cl : List (Str × Addr)) (fp : List Addr), QTs (X.blk s H scope (compEnvC scope cl C X.env) fp) ifs tt)
    (he : ∀ (s : Shared) (H : Hp) (C : Addr) (cl : List (Str × Addr)) (fp : List Addr), QE (X.blk s H scope (compEnvC scope cl C X.env) fp) elt te) (hs : ∀ x, foldedSetIterable iter X.env x = pure x := by intro _; rfl) :
    QS X (.Assign [.Name y py] (.ListComp elt [⟨tg, iter, ifs, 0⟩] scope pos) spos) (dSet i (dLc ti gd tt te (own.map (·.2)))) := by
  refine ps_mono (ps_setLc (tt := liftT X.K tt) (te := liftE X.K te) hc hN hy hyl hsw hi ok hg ht he hs) fun D σ H ⟨Z, δ, M, Dd, R, E, h, k⟩ => ?_
  exact lc_lift hgd (Q := fun x H1 => D.nx (σ.set i (some x)) H1) ⟨Z, δ, M, _, R, E, h, fun Z1 d M1 v H1 s1 r1 h1 => k.nx _ _ _ _ _ s1 ((E.mono s1.ext).set r1 i) h1⟩
theorem qs_setLcM {i : Nat} {y : Str} {py : Pos} (hc : X.calm = true) (hN : X.N.Nodup) (hy : X.N[i]? = some y) (hyl : X.env.scope.names.lookup y = some .local)
    (hsw : swapsWith (.ListComp elt [⟨tg, iter, ifs, 0⟩] scope pos) (some (.Name y py)) spos.line X.env = pure true) (hi : QI X tg iter ti) (ok : BlkOk X.N X.env.scope scope own)
    (hg : ∀ (s : Shared) (H : Hp) (C : Addr) (cl : List (Str × Addr)) (fp : List Addr), PG (X.blk s H scope (compEnvC scope cl C X.env) fp) tg g) (hgd : GOk X.K (own.map (·.2)) g gd) (ht : ∀ (s : Shared) (H : Hp) (C : Addr) (cl : List (Str × Addr)) (fp : List Addr), QTs (X.blk s H scope (compEnvC scope cl C X.env) fp) ifs tt)
    (he : ∀ (s : Shared) (H : Hp) (C : Addr) (cl : List (Str × Addr)) (fp : List Addr), QE (X.blk s H scope (compEnvC scope cl C X.env) fp) elt te) (hs : ∀ x, foldedSetIterable iter X.env x = pure x := by intro _; rfl) :
    QS X (.Assign [.Name y py] (.ListComp elt [⟨tg, iter, ifs, 0⟩] scope pos) spos) (dSet i (dLcM ti gd tt te (own.map (·.2)))) := by
  refine ps_mono (ps_setLc (tt := liftT X.K tt) (te := liftE X.K te) hc hN hy hyl hsw hi ok hg ht he hs) fun D σ H ⟨Z, δ, M, Dd, R, E, h, k⟩ => ?_
  exact lcM_lift hgd (Q := fun x H1 => D.nx (σ.set i (some x)) H1) ⟨Z, δ, M, _, R, E, h, fun Z1 d M1 v H1 s1 r1 h1 => k.nx _ _ _ _ _ s1 ((E.mono s1.ext).set r1 i) h1⟩
end

/-! ### two fors -/
def lc2Go (alive : Mem → Prop) (g : TGD) (tt : TTD) (ti1 : TID) (g1 : TGD) (tt1 : TTD) (te : TED) (δ0 : DEnv) (vs1 : List Nat) : List D → List D → Mem → (List D → Mem → Prop) → Prop
  | [], acc, M, Q => alive M ∧ Q acc M
  | d :: ds, acc, M, Q => alive M ∧ g d δ0 M fun δ1 M1 => tt δ1 M1 fun b M2 => if b = true then ti1 δ1 M2 fun jd M3 => lcGo jd.alive g1 tt1 te (dwipe δ1 vs1) jd.items acc M3 fun acc' M4 => lc2Go alive g tt ti1 g1 tt1 te δ0 vs1 ds acc' M4 Q
      else lc2Go alive g tt ti1 g1 tt1 te δ0 vs1 ds acc M2 Q
def dLc2 (ti : TID) (g : TGD) (tt : TTD) (ti1 : TID) (g1 : TGD) (tt1 : TTD) (te : TED) (vs vs1 : List Nat) : TED := fun δ M Q => ti δ M fun jd M1 => lc2Go jd.alive g tt ti1 g1 tt1 te (dwipe δ vs) vs1 jd.items [] M1 fun acc M2 => Q (.lst acc) M2
section
variable {K : PySem.W.Frag} {ti ti1 : TID} {g g1 : TG} {gd gd1 : TGD} {tt tt1 : TTD} {te : TED} {vs vs1 : List Nat}
theorem lc2_lift (hg : GOk K vs g gd) (hg1 : GOk K vs1 g1 gd1) {σ : St} {H : Hp} {Q : VK} (h : liftE K (dLc2 ti gd tt ti1 gd1 tt1 te vs vs1) σ H Q) : tLc2 (liftI K ti) g (liftT K tt) (liftI K ti1) g1 (liftT K tt1) (liftE K te) vs vs1 σ H Q := by
  obtain ⟨Z, δ, M, Qd, R, E, h, k⟩ := h
  refine ⟨Z, δ, M, _, R, E, h, fun Z0 J jd M0 H0 s0 W h0 D hD => ?_⟩
  let Sn (i : Nat) (H2 : Hp) : Prop := ∃ Z2 M2 acc ws, LcSt K Z0 M0 H0 D Z2 M2 H2 acc ws ∧ lc2Go jd.alive gd tt ti1 gd1 tt1 te (dwipe δ vs) vs1 (jd.items.drop i) acc M2 fun acc M2 => Qd (.lst acc) M2
  refine ⟨fun i m H2 => m = jd.items.length - i ∧ i ≤ jd.items.length ∧ Sn i H2, ⟨_, rfl, Nat.zero_le _, Z0, M0, [], [], LcSt.new s0.rel hD, by rw [List.drop_zero]; exact h0⟩, ?_⟩
  rintro i m H2 ⟨rfl, hi, Z2, M2, acc, ws, s2, go⟩
  by_cases hlt : i < jd.items.length
  · rw [List.drop_eq_getElem_cons hlt] at go
    obtain ⟨al, go⟩ := go
    obtain ⟨w1, w2, w3⟩ := W Z2 M2 H2 s2.st.ext s2.st.rel al
    refine .inr ⟨w1 i hlt, Sn (i + 1), fun H2 q => ⟨jd.items.length - (i + 1), by omega, rfl, hlt, q⟩, fun x H3 y => ?_⟩
    obtain ⟨Z3, d, t3, ed, rd⟩ := w3 i x H3 hlt y
    have e0 : jd.items[i] = d := by
      rw [List.getElem?_eq_getElem hlt] at ed
      exact Option.some.inj ed
    rw [e0] at go
    have s3 := s2.more t3
    refine hg Z3 _ M2 H3 (wipe σ vs) d x _ _ t3.rel ((E.mono (s0.ext.trans (s2.st.ext.trans t3.ext))).wipe vs) rd go fun δ4 σ4 E4 w4 go => ⟨w4.trans (wipe_wipe fun _ z => z), ?_⟩
    refine ⟨Z3, δ4, M2, _, t3.rel, E4, go, fun Z5 b M5 H5 t5 go => ?_⟩
    have s5 := s3.more t5
    cases b with
    | false =>
      rw [if_neg Bool.false_ne_true] at go
      show Sn (i + 1) H5
      exact ⟨Z5, M5, acc, ws, s5, go⟩
    | true =>
      rw [if_pos rfl] at go
      refine iteT ?_
      refine ⟨Z5, δ4, M5, _, t5.rel, E4.mono t5.ext, go, fun Z6 J1 jd1 M6 H6 t6 W1 go => ?_⟩
      have s6 := s5.more t6
      exact lc_loopG hg1 hD s6 (E4.mono (t5.ext.trans t6.ext)) W1 go fun Z7 M7 H7 acc7 ws7 s7 _ go => ⟨Z7, M7, acc7, ws7, s7, go⟩
  · have e : i = jd.items.length := by omega
    subst e
    rw [List.drop_length] at go
    obtain ⟨al, go⟩ := go
    obtain ⟨w1, w2, w3⟩ := W Z2 M2 H2 s2.st.ext s2.st.rel al
    obtain ⟨sf, r⟩ := s2.endI hD
    exact .inl ⟨w2, k _ _ _ _ _ (s0.trans sf) r go⟩
end
section
variable {X : Cx} {elt tg iter tg1 iter1 : Expr} {ifs ifs1 : List Expr} {scope : Scope} {own : List (Str × Nat)} {vs1 : List Nat} {pos spos : Pos} {ti ti1 : TID} {g g1 : TG} {gd gd1 : TGD} {tt tt1 : TTD} {te : TED}
theorem qe_lc2 (hc : X.calm = true) (hN : X.N.Nodup) (hi : QI X tg iter ti) (ok : BlkOk X.N X.env.scope scope own) (hv : ∀ i ∈ vs1, i ∈ own.map (·.2))
    (hg : ∀ (s : Shared) (H : Hp) (C : Addr) (cl : List (Str × Addr)) (fp : List Addr), PG (X.blk s H scope (compEnvC scope cl C X.env) fp) tg g) (hgd : GOk X.K (own.map (·.2)) g gd) (ht : ∀ (s : Shared) (H : Hp) (C : Addr) (cl : List (Str × Addr)) (fp : List Addr), QTs (X.blk s H scope (compEnvC scope cl C X.env) fp) ifs tt)
    (hi1 : ∀ (s : Shared) (H : Hp) (C : Addr) (cl : List (Str × Addr)) (fp : List Addr), QI (X.blk s H scope (compEnvC scope cl C X.env) fp) tg1 iter1 ti1)
    (hg1 : ∀ (s : Shared) (H : Hp) (C : Addr) (cl : List (Str × Addr)) (fp : List Addr), PG (X.blk s H scope (compEnvC scope cl C X.env) fp) tg1 g1) (hgd1 : GOk X.K vs1 g1 gd1) (ht1 : ∀ (s : Shared) (H : Hp) (C : Addr) (cl : List (Str × Addr)) (fp : List Addr), QTs (X.blk s H scope (compEnvC scope cl C X.env) fp) ifs1 tt1)
    (he : ∀ (s : Shared) (H : Hp) (C : Addr) (cl : List (Str × Addr)) (fp : List Addr), QE (X.blk s H scope (compEnvC scope cl C X.env) fp) elt te) (hs : ∀ x, foldedSetIterable iter X.env x = pure x := by intro _; rfl) (hs1 : ∀ env x, foldedSetIterable iter1 env x = pure x := by intro _ _; rfl) :
    QE X (.ListComp elt [⟨tg, iter, ifs, 0⟩, ⟨tg1, iter1, ifs1, 0⟩] scope pos) (dLc2 ti gd tt ti1 gd1 tt1 te (own.map (·.2)) vs1) :=
  pe_mono (pe_lc2 (wi := liftI X.K ti) (wi1 := liftI X.K ti1) (tt := liftT X.K tt) (tt1 := liftT X.K tt1) (te := liftE X.K te) hc hN hi ok hv hg ht hi1 hg1 ht1 he hs hs1) fun σ H Q h => lc2_lift hgd hgd1 h
theorem qs_setLc2 {i : Nat} {y : Str} {py : Pos} (hc : X.calm = true) (hN : X.N.Nodup) (hy : X.N[i]? = some y) (hyl : X.env.scope.names.lookup y = some .local)
    (hsw : swapsWith (.ListComp elt [⟨tg, iter, ifs, 0⟩, ⟨tg1, iter1, ifs1, 0⟩] scope pos) (some (.Name y py)) spos.line X.env = pure true) (hi : QI X tg iter ti) (ok : BlkOk X.N X.env.scope scope own) (hv : ∀ i ∈ vs1, i ∈ own.map (·.2))
    (hg : ∀ (s : Shared) (H : Hp) (C : Addr) (cl : List (Str × Addr)) (fp : List Addr), PG (X.blk s H scope (compEnvC scope cl C X.env) fp) tg g) (hgd : GOk X.K (own.map (·.2)) g gd) (ht : ∀ (s : Shared) (H : Hp) (C : Addr) (cl : List (Str × Addr)) (fp : List Addr), QTs (X.blk s H scope (compEnvC scope cl C X.env) fp) ifs tt)
    (hi1 : ∀ (s : Shared) (H : Hp) (C : Addr) (cl : List (Str × Addr)) (fp : List Addr), QI (X.blk s H scope (compEnvC scope cl C X.env) fp) tg1 iter1 ti1)
    (hg1 : ∀ (s : Shared) (H : Hp) (C : Addr) (cl : List (Str × Addr)) (fp : List Addr), PG (X.blk s H scope (compEnvC scope cl C X.env) fp) tg1 g1) (hgd1 : GOk X.K vs1 g1 gd1) (ht1 : ∀ (s : Shared) (H : Hp) (C : Addr) (cl : List (Str × Addr)) (fp : List Addr), QTs (X.blk s H scope (compEnvC scope cl C X.env) fp) ifs1 tt1)
    (he : ∀ (s : Shared) (H : Hp) (C : Addr) (cl : List (Str × Addr)) (fp : List Addr), QE (X.blk s H scope (compEnvC scope cl C X.env) fp) elt te) (hs : ∀ x, foldedSetIterable iter X.env x = pure x := by intro _; rfl) (hs1 : ∀ env x, foldedSetIterable iter1 env x = pure x := by intro _ _; rfl) :
    QS X (.Assign [.Name y py] (.ListComp elt [⟨tg, iter, ifs, 0⟩, ⟨tg1, iter1, ifs1, 0⟩] scope pos) spos) (dSet i (dLc2 ti gd tt ti1 gd1 tt1 te (own.map (·.2)) vs1)) := by
  refine ps_mono (ps_setLc2 (wi := liftI X.K ti) (wi1 := liftI X.K ti1) (tt := liftT X.K tt) (tt1 := liftT X.K tt1) (te := liftE X.K te) hc hN hy hyl hsw hi ok hv hg ht hi1 hg1 ht1 he hs hs1) fun D σ H ⟨Z, δ, M, Dd, R, E, h, k⟩ => ?_
  exact lc2_lift hgd hgd1 (Q := fun x H1 => D.nx (σ.set i (some x)) H1) ⟨Z, δ, M, _, R, E, h, fun Z1 d M1 v H1 s1 r1 h1 => k.nx _ _ _ _ _ s1 ((E.mono s1.ext).set r1 i) h1⟩
end
end DL
end
section
set_option Elab.async false
set_option linter.all false
set_option maxRecDepth 100000
set_option maxHeartbeats 4000000
namespace DL
open PySem PySem.Spec PyProof.Rows L2
section
variable {X : Cx}
/-! ### all, any -/
def isBl : D → Bool
  | .bl _ => true
  | _ => false
def trD : D → Bool
  | .bl b => b
  | _ => false
theorem bls_of {K : PySem.W.Frag} {Z : Im} : ∀ {ds : List D} {vs : List V}, Reps K Z ds vs → ds.all isBl = true → vs = (ds.map trD).map V.bl
  | _, _, .nil, _ => rfl
  | _, _, .cons (d := d) r rr, h => by
    rw [List.all_cons, Bool.and_eq_true] at h
    cases r <;> first | (rw [bls_of rr h.2]; rfl) | (cases h.1)
def gAll (M : Mem) (x : D) (Q : KD) : Prop := match lstD M x with
  | some ds => ds.all isBl = true ∧ Q (.bl (ds.all trD)) M
  | none => False
def gAny (M : Mem) (x : D) (Q : KD) : Prop := match lstD M x with
  | some ds => ds.all isBl = true ∧ Q (.bl (ds.any trD)) M
  | none => False
theorem cd_all : CallD X.K (rAll X.K) (f1 gAll) := call1 fun Z M H x u Qd Q R r h k => by
  unfold gAll at h
  split at h
  · rename_i ds e
    obtain ⟨a, vs, eu, hs, rr⟩ := lst_sq R r e
    subst eu
    refine ⟨a, ds.map trD, rfl, by rw [← bls_of rr h.1]; exact hs, ?_⟩
    have e1 : (ds.map trD).all id = ds.all trD := by rw [List.all_map]; rfl
    rw [e1]
    exact k _ _ _ _ _ (.refl R) (.bl _) h.2
  · exact h.elim
theorem cd_any : CallD X.K (rAny X.K) (f1 gAny) := call1 fun Z M H x u Qd Q R r h k => by
  unfold gAny at h
  split at h
  · rename_i ds e
    obtain ⟨a, vs, eu, hs, rr⟩ := lst_sq R r e
    subst eu
    refine ⟨a, ds.map trD, rfl, by rw [← bls_of rr h.1]; exact hs, ?_⟩
    have e1 : (ds.map trD).any id = ds.any trD := by rw [List.any_map]; rfl
    rw [e1]
    exact k _ _ _ _ _ (.refl R) (.bl _) h.2
  · exact h.elim

/-! ### tuple(x), list(x) -/
def gTupOf (M : Mem) (x : D) (Q : KD) : Prop := match tupOf x with
  | some _ => Q x M
  | none => match lstD M x with
    | some ds => Q (.tup ds) M
    | none => False
/-- a list nobody changes -/
def gLstOf (M : Mem) (x : D) (Q : KD) : Prop := match seqD M x with
  | some ds => Q (.lst ds) M
  | none => False
def gLstOfM (M : Mem) (x : D) (Q : KD) : Prop := match seqD M x with
  | some ds => ∀ p, M p = none → Q (.ref p) (mupd M p (.lst ds))
  | none => False
abbrev rTupOf (K : PySem.W.Frag) : List V → Hp → VK → Prop := fun xs H Q => ∃ p ys, xs = [.ref p] ∧ ((SqL K H p ys ∧ ∀ l, H l = none → Q (.ref l) (upd H l (.tup ys))) ∨ (SqT K H p ys ∧ Q (.ref p) H))
abbrev rLstOf (K : PySem.W.Frag) : List V → Hp → VK → Prop := fun xs H Q => ∃ p ys, xs = [.ref p] ∧ (SqL K H p ys ∨ SqT K H p ys) ∧ ∀ l, H l = none → Q (.ref l) (upd H l (.lst ys))
theorem cd_tupOf : CallD X.K (rTupOf X.K) (f1 gTupOf) := call1 fun Z M H x u Qd Q R r h k => by
  unfold gTupOf at h
  split at h
  · rename_i ds e
    obtain ⟨a, vs, eu, za, hs, rr⟩ := tup_sq R r e
    subst eu
    exact ⟨a, vs, rfl, .inr ⟨hs, k _ _ _ _ _ (.refl R) r h⟩⟩
  · split at h
    · rename_i ds e
      obtain ⟨a, vs, eu, hs, rr⟩ := lst_sq R r e
      subst eu
      refine ⟨a, vs, rfl, .inl ⟨hs, fun l hl => ?_⟩⟩
      have sn := Stp.newI R hl (.tup vs)
      exact k _ _ _ _ _ sn (.tup l vs ds zupd_same (rr.mono sn.ext)) h
    · exact h.elim
theorem cd_lstOf : CallD X.K (rLstOf X.K) (f1 gLstOf) := call1 fun Z M H x u Qd Q R r h k => by
  unfold gLstOf at h
  split at h
  · rename_i ds e
    obtain ⟨a, vs, eu, hs, rr⟩ := seq_sq R r e
    subst eu
    refine ⟨a, vs, rfl, hs, fun l hl => ?_⟩
    have sn := Stp.newI R hl (.lst vs)
    exact k _ _ _ _ _ sn (.lst l vs ds zupd_same (rr.mono sn.ext)) h
  · exact h.elim
theorem cd_lstOfM : CallD X.K (rLstOf X.K) (f1 gLstOfM) := call1 fun Z M H x u Qd Q R r h k => by
  unfold gLstOfM at h
  split at h
  · rename_i ds e
    obtain ⟨a, vs, eu, hs, rr⟩ := seq_sq R r e
    subst eu
    refine ⟨a, vs, rfl, hs, fun l hl => ?_⟩
    obtain ⟨f1, f2⟩ := Stp.newM R hl (o := .lst ds) (u := .lst vs) ⟨vs, upd_same, rr⟩
    exact k _ _ _ _ _ f2 (.ref l) (h l f1)
  · exact h.elim

/-! ### abs, min, max, int, divmod, sum -/
def gAbs (M : Mem) (x : D) (Q : KD) : Prop := match x with
  | .int i => Q (.int (if i < 0 then -i else i)) M
  | _ => False
theorem cd_abs : CallD X.K (fun xs H Q => ∃ i, xs = [.int i] ∧ Q (.int (if i < 0 then -i else i)) H) (f1 gAbs) := call1 fun Z M H x u Qd Q R r h k => by
  cases r <;> first | exact h.elim | skip
  exact ⟨_, rfl, k _ _ _ _ _ (.refl R) (.int _) h⟩
def gMin2 (M : Mem) (x y : D) (Q : KD) : Prop := match x, y with
  | .int i, .int j => Q (.int (if j < i then j else i)) M
  | _, _ => False
def gMax2 (M : Mem) (x y : D) (Q : KD) : Prop := match x, y with
  | .int i, .int j => Q (.int (if j > i then j else i)) M
  | _, _ => False
theorem cd_min2 : CallD X.K (fun xs H Q => ∃ i j, xs = [.int i, .int j] ∧ Q (.int (if j < i then j else i)) H) (f2 gMin2) := call2 fun Z M H x y u v Qd Q R r r2 h k => by
  cases r <;> first | exact h.elim | skip
  cases r2 <;> first | exact h.elim | skip
  exact ⟨_, _, rfl, k _ _ _ _ _ (.refl R) (.int _) h⟩
theorem cd_max2 : CallD X.K (fun xs H Q => ∃ i j, xs = [.int i, .int j] ∧ Q (.int (if j > i then j else i)) H) (f2 gMax2) := call2 fun Z M H x y u v Qd Q R r r2 h k => by
  cases r <;> first | exact h.elim | skip
  cases r2 <;> first | exact h.elim | skip
  exact ⟨_, _, rfl, k _ _ _ _ _ (.refl R) (.int _) h⟩
/-- int of an int, of a truth -/
def gInt (M : Mem) (x : D) (Q : KD) : Prop := match x with
  | .int i => Q (.int i) M
  | .bl b => Q (.int (if b then 1 else 0)) M
  | _ => False
theorem cd_int : CallD X.K (fun xs H Q => (∃ i, xs = [.int i] ∧ Q (.int i) H) ∨ ∃ k, xs = [.bl k] ∧ Q (.int (if k then 1 else 0)) H) (f1 gInt) := call1 fun Z M H x u Qd Q R r h k => by
  cases r <;> first | exact h.elim | skip
  · exact .inr ⟨_, rfl, k _ _ _ _ _ (.refl R) (.int _) h⟩
  · exact .inl ⟨_, rfl, k _ _ _ _ _ (.refl R) (.int _) h⟩
def gDivmod (M : Mem) (x y : D) (Q : KD) : Prop := match x, y with
  | .int i, .int j => CDiv i j ∧ Q (.tup [.int (i / j), .int (i % j)]) M
  | _, _ => False
theorem cd_divmod : CallD X.K (fun xs H Q => ∃ i j, xs = [.int i, .int j] ∧ CDiv i j ∧ ∀ p, H p = none → Q (.ref p) (upd H p (.tup [.int (i / j), .int (i % j)]))) (f2 gDivmod) := call2 fun Z M H x y u v Qd Q R r r2 h k => by
  cases r <;> first | exact h.elim | skip
  cases r2 <;> first | exact h.elim | skip
  rename_i i j
  refine ⟨i, j, rfl, h.1, fun p hp => ?_⟩
  have sn := Stp.newI R hp (.tup [.int (i / j), .int (i % j)])
  exact k _ _ _ _ _ sn (.tup p _ _ zupd_same (.cons (.int _) (.cons (.int _) .nil))) h.2
/-- the ints of a list -/
def intsD : List D → Option (List Int)
  | [] => some []
  | .int i :: ds => (intsD ds).map (i :: ·)
  | _ => none
theorem intsD_map : ∀ ns : List Int, intsD (ns.map D.int) = some ns
  | [] => rfl
  | n :: ns => by
    show (intsD (ns.map D.int)).map (n :: ·) = some (n :: ns)
    rw [intsD_map ns]; rfl
theorem ints_of {K : PySem.W.Frag} {Z : Im} : ∀ {ds : List D} {vs : List V} {ns : List Int}, Reps K Z ds vs → intsD ds = some ns → vs = ns.map V.int
  | _, _, ns, .nil, h => by cases h; rfl
  | _, _, ns, .cons (d := d) r rr, h => by
    cases d with
    | int i =>
      cases r
      obtain ⟨ms, e, e2⟩ := Option.map_eq_some_iff.mp (show (intsD _).map (i :: ·) = some ns from h)
      subst e2
      rw [ints_of rr e]; rfl
    | _ => cases h
/-- min, max of a list of ints: one of them, none less (greater) -/
def gMinL (M : Mem) (x : D) (Q : KD) : Prop := match (lstD M x).bind intsD with
  | some ns => 0 < ns.length ∧ ∀ m, m ∈ ns → (∀ y, y ∈ ns → m ≤ y) → Q (.int m) M
  | none => False
def gMaxL (M : Mem) (x : D) (Q : KD) : Prop := match (lstD M x).bind intsD with
  | some ns => 0 < ns.length ∧ ∀ m, m ∈ ns → (∀ y, y ∈ ns → y ≤ m) → Q (.int m) M
  | none => False
def gSum (M : Mem) (x : D) (Q : KD) : Prop := match (lstD M x).bind intsD with
  | some ns => Q (.int ns.sum) M
  | none => False
theorem cd_minL : CallD X.K (rMin X.K) (f1 gMinL) := call1 fun Z M H x u Qd Q R r h k => by
  unfold gMinL at h
  split at h
  · rename_i ns e
    obtain ⟨ds, e1, e2⟩ := Option.bind_eq_some_iff.mp e
    obtain ⟨a, vs, eu, hs, rr⟩ := lst_sq R r e1
    subst eu
    exact ⟨a, ns, rfl, by rw [← ints_of rr e2]; exact hs, h.1, fun m hm hy => k _ _ _ _ _ (.refl R) (.int m) (h.2 m hm hy)⟩
  · exact h.elim
theorem cd_maxL : CallD X.K (rMax X.K) (f1 gMaxL) := call1 fun Z M H x u Qd Q R r h k => by
  unfold gMaxL at h
  split at h
  · rename_i ns e
    obtain ⟨ds, e1, e2⟩ := Option.bind_eq_some_iff.mp e
    obtain ⟨a, vs, eu, hs, rr⟩ := lst_sq R r e1
    subst eu
    exact ⟨a, ns, rfl, by rw [← ints_of rr e2]; exact hs, h.1, fun m hm hy => k _ _ _ _ _ (.refl R) (.int m) (h.2 m hm hy)⟩
  · exact h.elim
theorem cd_sum : CallD X.K (rSum X.K) (f1 gSum) := call1 fun Z M H x u Qd Q R r h k => by
  unfold gSum at h
  split at h
  · rename_i ns e
    obtain ⟨ds, e1, e2⟩ := Option.bind_eq_some_iff.mp e
    obtain ⟨a, vs, eu, hs, rr⟩ := lst_sq R r e1
    subst eu
    exact ⟨a, ns, rfl, by rw [← ints_of rr e2]; exact hs, k _ _ _ _ _ (.refl R) (.int _) h⟩
  · exact h.elim

/-! ### sorted: of ints, a list or a tuple; of a dict's keys -/
def isSorted (ns' ns : List Int) : Prop := ns'.Perm ns ∧ ns'.Pairwise (· ≤ ·)
def gSortI (M : Mem) (x : D) (Q : KD) : Prop := match (lstD M x).bind intsD with
  | some ns => ∀ ns', isSorted ns' ns → Q (.lst (ns'.map D.int)) M
  | none => match dictK M x with
    | some kvs => kvs.length < 64 ∧ match intsD (kvs.map fun kv => match kv.1 with | .inl i => D.int i | .inr z => D.str z) with
      | some ns => ∀ ns', isSorted ns' ns → Q (.lst (ns'.map D.int)) M
      | none => False
    | none => False
abbrev rSortDI : List V → Hp → VK → Prop := fun xs H Q => ∃ (a : Addr) (kvs : List (Key × V)) (ks : List Int), xs = [.ref a] ∧ Rd H a (.dK kvs) ∧ kvs.map (·.1) = ks.map Sum.inl ∧ ks.length < 64 ∧
    ∀ (ys : List Int) (p : Addr), ys.Perm ks → ys.Pairwise (· ≤ ·) → H p = none → Q (.ref p) (upd H p (.lst (ys.map V.int)))
theorem keys_ints {K : PySem.W.Frag} {Z : Im} : ∀ {kvs : List (Key × D)} {vs : List (Key × V)} {ns : List Int}, RepP K Z Key kvs vs → intsD (kvs.map fun kv => match kv.1 with | .inl i => D.int i | .inr z => D.str z) = some ns → vs.map (·.1) = ns.map Sum.inl
  | _, _, ns, .nil, h => by cases h; rfl
  | _, _, ns, .cons (k := k0) r rr, h => by
    cases k0 with
    | inr z => cases h
    | inl i =>
      obtain ⟨ms, e, e2⟩ := Option.map_eq_some_iff.mp (show (intsD _).map (i :: ·) = some ns from h)
      subst e2
      rw [List.map_cons, keys_ints rr e]; rfl
theorem cr_sortI (hc : X.calm = true) : CallR X (.builtin "sorted") (fun xs H Q => rSortedI X.K xs H Q ∨ rSortDI xs H Q) := cr_sortedI.or (call_sortedDI hc)
theorem cd_sortI : CallD X.K (fun xs H Q => rSortedI X.K xs H Q ∨ rSortDI xs H Q) (f1 gSortI) := call1 fun Z M H x u Qd Q R r h k => by
  unfold gSortI at h
  split at h
  · rename_i ns e
    obtain ⟨ds, e1, e2⟩ := Option.bind_eq_some_iff.mp e
    obtain ⟨a, vs, eu, hs, rr⟩ := lst_sq R r e1
    subst eu
    refine .inl ⟨a, ns, rfl, by rw [← ints_of rr e2]; exact hs, fun ns' p h1 h2 hp => ?_⟩
    have sn := Stp.newI R hp (.lst (ns'.map V.int))
    exact k _ _ _ _ _ sn (.lst p _ _ zupd_same (Reps.ofInts ns')) (h ns' ⟨h1, h2⟩)
  · split at h
    · rename_i kvs e
      obtain ⟨a, vs, eu, ha, rr⟩ := dk_sq R r e
      subst eu
      obtain ⟨h64, h⟩ := h
      split at h
      · rename_i ns e2
        have hk := keys_ints rr e2
        have hl : ns.length = kvs.length := by
          have := congrArg List.length hk
          rw [List.length_map, List.length_map] at this
          rw [← this, rr.length]
        refine .inr ⟨a, vs, ns, rfl, .inl ha, hk, by omega, fun ns' p h1 h2 hp => ?_⟩
        have sn := Stp.newI R hp (.lst (ns'.map V.int))
        exact k _ _ _ _ _ sn (.lst p _ _ zupd_same (Reps.ofInts ns')) (h ns' ⟨h1, h2⟩)
      · exact h.elim
    · exact h.elim
end
end DL
end
section
set_option Elab.async false
set_option linter.all false
set_option maxRecDepth 100000
set_option maxHeartbeats 4000000
namespace DL
open PySem PySem.Spec PyProof.Rows L2
section
variable {X : Cx}
/-! ### isinstance -/
def tyM : Option MO → Option String
  | some (.lst _) => some "list"
  | some (.rol _) => some "list"
  | some (.dK _) => some "dict"
  | some (.dT _) => some "dict"
  | _ => none
def tyD1 (M : Mem) : D → Option String
  | .non => some "NoneType"
  | .bl _ => some "bool"
  | .int _ => some "int"
  | .str _ => some "str"
  | .tup _ => some "tuple"
  | .tupX _ => some "tuple"
  | .lst _ => some "list"
  | .dK _ => some "dict"
  | .dT _ => some "dict"
  | .ref a => tyM (M a)
  | _ => none
theorem ty_of {K : PySem.W.Frag} {Z : Im} {M : Mem} {H : Hp} (R : Rel K Z M H) {d : D} {v : V} {n : String} (r : Rep K Z d v) (h : tyD1 M d = some n) : TyX K H v (.type n) := by
  cases r with
  | non => cases h; exact .base .non
  | bl b => cases h; exact .base (.bl b)
  | int b => cases h; exact .base (.int b)
  | str b => cases h; exact .base (.str b)
  | tup a vs _ im rr => cases h; exact .base (.tup (R.im _ _ im))
  | tupX a o vs _ im _ rr => cases h; exact .fTuple (R.im _ _ im)
  | lst a vs _ im rr => cases h; exact .base (.lst (R.im _ _ im))
  | dK a vs _ im rr => cases h; exact .base (.dK (R.im _ _ im))
  | dT a vs _ im rr => cases h; exact .base (.dT (R.im _ _ im))
  | ref a =>
    unfold tyD1 tyM at h
    dsimp only at h
    split at h
    · rename_i e; cases h; obtain ⟨vs, q, rr⟩ := R.lst e; exact .base (.lst q)
    · rename_i e; cases h; obtain ⟨vs, q, rr⟩ := R.rol e
      rcases q with q | ⟨o, q⟩
      · exact .base (.lst q)
      · exact .base (.frz q)
    · rename_i e; cases h; obtain ⟨vs, q, rr⟩ := R.dK e; exact .base (.dK q)
    · rename_i e; cases h; obtain ⟨vs, q, rr⟩ := R.dT e; exact .base (.dT q)
    · cases h
  | _ => cases h
/-- what isinstance asks of a class of instances -/
structure ICls (K : PySem.W.Frag) (C : Addr) : Prop where
  cl : Cls K C
  ha : PySem.W.findIn K (.ref C) "__class__" = some (some (.builtin "object.__class__"))
  hn : PySem.W.specialIn K (.builtin "object.__class__") "__get__" = some (some (.builtin "getset_descriptor.__get__"))
  ht : PySem.W.takesIn K (.builtin "object.__class__") = some true
  hm : PySem.W.mroIn K C (.type "object") = some true
/-- isinstance of a value of a built-in type by a built-in type; of an instance of the class C by C -/
def gIsi (Pc : Addr → Prop) (M : Mem) (x c : D) (Q : KD) : Prop := match c with
  | .ty n => (match tyD1 M x with
    | some m => (match kitB m n with
      | some b => Q (.bl b) M
      | none => False)
    | none => False)
  | .ref C => (match insD M x with
    | some (C', _) => C' = C ∧ Pc C ∧ Q (.bl true) M
    | none => False)
  | _ => False
theorem cd_isi {Pc : Addr → Prop} (hP : ∀ C, Pc C → ICls X.K C) : CallD X.K (rIsi X.K) (f2 (gIsi Pc)) := call2 fun Z M H x y u v Qd Q R r r2 h k => by
  unfold gIsi at h
  split at h
  · rename_i n
    split at h
    · rename_i m e
      split at h
      · rename_i b e2
        cases r2
        exact ⟨u, _, _, _, b, rfl, .ty n, ty_of R r e, kit_ty e2, k _ _ _ _ _ (.refl R) (.bl _) h⟩
      · exact h.elim
    · exact h.elim
  · rename_i C
    split at h
    · rename_i C' fs e
      obtain ⟨eC, hp, h⟩ := h
      subst eC
      obtain ⟨a, dx, vs, eu, ha, rr⟩ := ins_sq R r e
      subst eu
      cases r2
      have c := hP _ hp
      refine ⟨_, _, _, _, true, rfl, .own C', .base (.ins ha c.cl c.ha c.hn c.ht c.hm), ?_, k _ _ _ _ _ (.refl R) (.bl _) h⟩
      unfold PySem.W.kitOne
      rw [if_pos (by simp)]
    · exact h.elim
  · exact h.elim

/-! ### len of an instance, by its class's def -/
def rLenOwn (C : Addr) (sp : Sp) (E : XK) : List V → Hp → VK → Prop := fun xs H Q => ∃ a dx vs, xs = [V.ref a] ∧ H a = some (.ins C dx vs) ∧ sp [.ref a] H (fun z H' => ∃ i : Int, z = .int i ∧ 0 ≤ i ∧ i < 2 ^ 63 ∧ Q z H') E
theorem call_lenOwn {CX : CXT} {C f : Addr} {fd : FuncData} {ps : List Str} {n : Nat} {sp : Sp} {E : XK} (hs : PySem.W.findIn X.K (.ref C) "__len__" = some (some (.ref f))) (hf : PySem.W.isFn X.K (.ref f) = true)
    (F : FnOk X.prog X.w X.K X.mg X.base CX n f fd ps sp) (hb : Binds X.K fd ps []) (hr : Room (n + 1) X.A) (hx : Passes CX X E) : CallR X (.builtin "len") (rLenOwn C sp E) := by
  intro pins s σ H xs us Q I r h
  obtain ⟨a, dx, vs, rfl, ha, q⟩ := h
  obtain ⟨u, rfl, ru⟩ := r.one
  cases (show u = Value.ref a from ru)
  obtain ⟨mA, J, _⟩ := ins_get I.hok ha
  obtain ⟨od, J, _⟩ := J.look
  obtain ⟨m, hF⟩ := I.fr
  have hl := F.len _ _ _ _ q
  have r2 : Vals [V.ref a] [Value.ref a] := .cons rfl .nil
  refine PySem.W.len_K hF I.ok.mod.kin J hs hf (wpAny_call (codeAny_mono (F.run X.A.in1 X.stack s H ⟨[.ref a], []⟩ [.ref a] [.ref a] _ E hr.in1 I.env0.in1 (by
    have := hb s [.ref a] I.kIn (by simpa using hl)
    simpa using this) r2 q) fun r s' hq => ?_))
  cases r with
  | error e => exact hx pins σ H s e s' I hq
  | ok fl =>
    cases fl with
    | ret w =>
      obtain ⟨z, H', I', rz, i, ez, h0, h1, qz⟩ := I.after hq
      subst ez
      obtain ⟨t, e⟩ := (show ∃ t, w = Value.int i t from rz)
      cases e
      exact ⟨⟨h0, h1⟩, .int i, H', I'.tok _, ⟨_, rfl⟩, qz⟩
    | next => exact False.elim hq
    | brk => exact False.elim hq
    | cont => exact False.elim hq
/-- len: of what is built in; of an instance of C -/
def gLenC (C : Addr) (sp : SpD) (M : Mem) (x : D) (Q : KD) : Prop := match insD M x with
  | some (C', _) => C' = C ∧ sp [x] M fun z M' => match z with
    | .int i => 0 ≤ i ∧ i < 2 ^ 63 ∧ Q (.int i) M'
    | _ => False
  | none => gLen M x Q
theorem cr_lenC {CX : CXT} {C f : Addr} {fd : FuncData} {ps : List Str} {n : Nat} {sp : SpD} {E : XK} (hs : PySem.W.findIn X.K (.ref C) "__len__" = some (some (.ref f))) (hf : PySem.W.isFn X.K (.ref f) = true)
    (F : FnOk X.prog X.w X.K X.mg X.base CX n f fd ps (liftSp X.K sp)) (hb : Binds X.K fd ps []) (hr : Room (n + 1) X.A) (hx : Passes CX X E) : CallR X (.builtin "len") (fun xs H Q => rLen X.K xs H Q ∨ rLenOwn C (liftSp X.K sp) E xs H Q) :=
  cr_len.or (call_lenOwn hs hf F hb hr hx)
theorem cd_lenC {C : Addr} {sp : SpD} {E : XK} : CallD X.K (fun xs H Q => rLen X.K xs H Q ∨ rLenOwn C (liftSp X.K sp) E xs H Q) (f1 (gLenC C sp)) := call1 fun Z M H x u Qd Q R r h k => by
  unfold gLenC at h
  split at h
  · rename_i C' fs e
    obtain ⟨eC, h⟩ := h
    subst eC
    obtain ⟨a, dx, vs, eu, ha, rr⟩ := ins_sq R r e
    subst eu
    refine .inr ⟨a, dx, vs, rfl, ha, Z, [x], M, _, R, .cons r .nil, h, fun Z1 z M1 w H1 s1 rz hz => ?_⟩
    cases rz with
    | int i => exact ⟨i, rfl, hz.1, hz.2.1, k _ _ _ _ _ s1 (.int i) hz.2.2⟩
    | _ => exact hz.elim
  · exact .inl (cd_len Z M H [x] [u] Qd Q R (.cons r .nil) h k)
end
end DL
end
section
set_option Elab.async false
set_option linter.all false
set_option maxRecDepth 100000
set_option maxHeartbeats 4000000
namespace DL
open PySem PySem.Spec PyProof.Rows L2
section
variable {X : Cx}
/-! ### tuple(list), the tuple's object known -/
def rTupX (K : PySem.W.Frag) : List V → Hp → VK → Prop := fun xs H Q => ∃ p ys, xs = [.ref p] ∧ SqL K H p ys ∧ ∀ l o, H l = none → o.dict = none → Q (.ref l) (upd H l (.frz o (.tup ys)))
theorem call_tupX : CallR X (.type "tuple") (rTupX X.K) := by
  intro pins s σ H xs us Q I r h
  obtain ⟨p, ys, rfl, hs, q⟩ := h
  obtain ⟨u, rfl, ru⟩ := r.one
  cases (show u = Value.ref p from ru)
  obtain ⟨its, rv, pl, hz⟩ := I.list hs
  refine call_tuple_list pl.isList (fun h' hk => ?_) (by rw [List.size_toArray, ← rv.length]; exact hz)
  have I1 : Inv X pins σ H { s with heap := h' } := I.kept (t' := s.toks) hk
  have I2 : Inv X pins σ (upd H h'.objs.size (.frz { cls := .type "tuple", data := .seq its.toArray } (.tup ys))) { s with heap := h'.push { cls := .type "tuple", data := .seq its.toArray } } :=
    I1.laid (t' := s.toks) (fun b o e => Heap.get?_push_of_some _ e) (Nat.le_refl _) (show ObjOk X.prog X.w _ _ _ (.frz _ (.tup ys)) from ⟨Heap.get?_push_size _ rfl, hz, its, rv, IsTup.new _ _⟩)
  exact ⟨.ref h'.objs.size, _, I2, rfl, q _ _ (I1.hok.fresh (Nat.le_refl _)) rfl⟩
def gTupX (M : Mem) (x : D) (Q : KD) : Prop := match lstD M x with
  | some ds => Q (.tupX ds) M
  | none => False
theorem cd_tupX : CallD X.K (rTupX X.K) (f1 gTupX) := call1 fun Z M H x u Qd Q R r h k => by
  unfold gTupX at h
  split at h
  · rename_i ds e
    obtain ⟨a, vs, eu, hs, rr⟩ := lst_sq R r e
    subst eu
    refine ⟨a, vs, rfl, hs, fun l o hl ho => ?_⟩
    have sn := Stp.newI R hl (.frz o (.tup vs))
    exact k _ _ _ _ _ sn (.tupX l o vs ds zupd_same ho (rr.mono sn.ext)) h
  · exact h.elim

/-! ### index, of ints -/
def idxOf (i : Int) : List Int → Option Nat
  | [] => none
  | j :: ns => if j = i then some 0 else (idxOf i ns).map (· + 1)
theorem idxOf_spec {i : Int} : ∀ {ns : List Int} {j : Nat}, idxOf i ns = some j → ns[j]? = some i ∧ ∀ m, m < j → ns[m]? ≠ some i
  | [], _, h => by cases h
  | n :: ns, j, h => by
    unfold idxOf at h
    by_cases e : n = i
    · rw [if_pos e] at h
      cases h
      exact ⟨by simp [e], fun m hm => absurd hm (Nat.not_lt_zero _)⟩
    · rw [if_neg e] at h
      obtain ⟨k, e1, e2⟩ := Option.map_eq_some_iff.mp h
      subst e2
      obtain ⟨h1, h2⟩ := idxOf_spec e1
      refine ⟨by simpa using h1, fun m hm => ?_⟩
      cases m with
      | zero => simpa using e
      | succ m => simpa using h2 m (by omega)
theorem idxOf_mem {i : Int} : ∀ {ns : List Int}, i ∈ ns → ∃ j, idxOf i ns = some j
  | n :: ns, h => by
    unfold idxOf
    by_cases e : n = i
    · exact ⟨0, if_pos e⟩
    · obtain ⟨j, q⟩ := idxOf_mem (ns := ns) (by
        rcases List.mem_cons.mp h with h | h
        · exact absurd h.symm e
        · exact h)
      exact ⟨j + 1, by rw [if_neg e, q]; rfl⟩
theorem flat_ints (ns : List Int) : (ns.map V.int).all flatV = true := by
  rw [List.all_map]
  exact List.all_eq_true.mpr fun _ _ => rfl
/-- t.index(i), t a tuple of ints -/
def rTupIdx : V → List V → Hp → VK → Prop := fun x xs H Q => ∃ (p : Addr) (ns : List Int) (i : Int) (j : Nat), x = .ref p ∧ xs = [.int i] ∧ Rd H p (.tup (ns.map V.int)) ∧ ns[j]? = some i ∧ (∀ m, m < j → ns[m]? ≠ some i) ∧ Q (.int (j : Nat)) H
theorem mt_tupIdx : MtR X "tuple.index" rTupIdx := by
  intro pins s σ H x xs v us Q I rx rs h
  obtain ⟨p, ns, i, j, rfl, rfl, hq, hy, hno, q⟩ := h
  cases rx
  obtain ⟨u, rfl, ru⟩ := vals1 rs
  obtain ⟨t, rfl⟩ := (show ∃ t, u = Value.int i t from ru)
  obtain ⟨its, r, pl, hz⟩ := I.tuple (show SqT X.K H p (ns.map V.int) from .inl hq)
  obtain ⟨⟨cls, dd, dt, sl⟩, ho, hc, n, hd⟩ := pl
  simp only at hc hd
  subst hc
  subst hd
  have hl : its.toArray.size = ns.length := by rw [List.size_toArray, ← r.length, List.length_map]
  have hj : j < its.toArray.size := by rw [hl]; exact (List.getElem?_eq_some_iff.mp hy).1
  have at' : ∀ (m : Nat) (hm : m < its.toArray.size), ∃ y t', ns[m]? = some y ∧ its.toArray[m] = Value.int y t' := fun m hm => by
    have hm' : m < ns.length := by rw [← hl]; exact hm
    obtain ⟨w, hw, t', hw'⟩ := r.get (i := m) (x := .int ns[m]) (by simp [hm'])
    refine ⟨ns[m], t', List.getElem?_eq_getElem hm', ?_⟩
    have e := (List.getElem?_eq_some_iff.mp hw).2
    rw [← hw', ← e]
    simp
  refine call_meets PySem.F.slot_tuple_index ⟨_, ho, rfl⟩ PySem.F.entry_tuple_index (PySem.F.args_tuple_index_2 _ _) (TI.tuple_indexAt p its.toArray n dd sl (.int i t) (eqU (.int i)) j hj ?_ ?_)
    ⟨ho, fun w hw => mem_eqAt (x := .int i) ⟨t, rfl⟩ rfl r (flat_ints ns) w (by simpa using hw), ⟨.int (j : Nat), H, I.tok _, ⟨_, rfl⟩, q⟩⟩
  · obtain ⟨y, t', h1, h2⟩ := at' j hj
    rw [hy] at h1
    cases h1
    rw [h2]
    show (i == i) = true
    exact beq_self_eq_true i
  · intro m hm hmj
    obtain ⟨y, t', h1, h2⟩ := at' m hm
    rw [h2]
    show (y == i) = false
    exact beq_eq_false_iff_ne.mpr fun e => hno m hmj (e ▸ h1)
def mTupIdx : FMt := fun M x xs Q => match x, xs with
  | .tupX ds, [.int i] => match (intsD ds).bind (idxOf i) with
    | some j => Q (.int j) M
    | none => False
  | _, _ => False
def exT (x : V) (H : Hp) : Prop := ∃ a o xs, x = .ref a ∧ H a = some (.frz o (.tup xs)) ∧ o.dict = none
/-- t.index(..): a method of a tuple whose object is known -/
theorem pe_bmX {o e : Expr} {es : List Expr} {to : TE} {t : TA} {name : Str} {apos cpos : Pos} {id : String} {r : V → List V → Hp → VK → Prop} (pa : PlainAttrs "tuple") (slot : Slot "tuple" name id) (hty : typeOf (.builtin id) = pure (.type "method_descriptor")) (hm : MtR X id r) (ho : PE X o to) (ha : PA X (e :: es) t)
    (hbase : attributeBase o name X.env (eval o X.env) = eval o X.env := by rfl)
    (hfew : ((backTo cpos (starEach (e :: es) X.env)).all (fun x => !x.1) && (backToKw cpos (keywordEach [] X.env)).all (fun x => x.1.isSome)
      && decide ((e :: es).length + ([] : List Keyword).length + (if ([] : List Keyword).isEmpty then 0 else 1) < 30)) = true := by rfl)
    (hline : (apos.endLine == cpos.line) = true := by rfl) (hs : starEach (e :: es) X.env = (false, eval e X.env) :: starEach es X.env := by rfl) (hplain : (backTo cpos (starEach es X.env)).any (·.1) = false := by rfl) :
    PE X (.Call (.Attribute o name apos) (e :: es) [] cpos) (fun σ H Q => to σ H fun x H1 => exT x H1 ∧ t σ H1 fun xs H2 => r x xs H2 Q) := by
  refine ⟨fun pins s σ H Q I h => ?_⟩
  refine wpAny_Call_method_late hbase hfew hline rfl (thn (ho.run pins s σ H _ I h) fun v s1 ⟨x, H1, I1, r1, ⟨a, ob, ys, ex, hq, hd⟩, q1⟩ => ?_)
  subst ex
  cases r1
  obtain ⟨hob, hz, its, rv, hp⟩ := (show ObjOk X.prog X.w H1 s1.heap a (.frz ob (.tup ys)) from I1.hok a _ hq)
  refine ⟨"tuple", id, pa, slot, hty, ?_, fun b e => ?_, ?_⟩
  · obtain ⟨o2, e2, c2, _⟩ := hp
    exact ⟨o2, e2, c2⟩
  · cases e
    exact ⟨ob, hob, hd⟩
  have hA := ha.run cpos pins s1 σ H1 _ I1 q1
  rw [hs] at hA ⊢
  refine Calls.callWith_builtin (by show (false || (backTo cpos (starEach es X.env)).any (·.1)) = false; rw [hplain] <;> rfl) (Calls.evalArgs_plain ?_)
  exact thn hA fun us s2 ⟨vs, H2, I2, r2, q2⟩ => hm pins s2 σ H2 (.ref a) vs (.ref a) us Q I2 rfl r2 q2
def dBMX (f : FMt) (to : TED) (t : TAD) : TED := fun δ M Q => to δ M fun x M1 => (∃ ds, x = .tupX ds) ∧ t δ M1 fun xs M2 => f M2 x xs Q
theorem md_tupIdx : MtD X.K rTupIdx mTupIdx := fun Z M H x u xs us Qd Q R r rr h k => by
  unfold mTupIdx at h
  split at h
  · rename_i ds i
    split at h
    · rename_i j e
      obtain ⟨ns, e1, e2⟩ := Option.bind_eq_some_iff.mp e
      obtain ⟨e3, e4⟩ := idxOf_spec e2
      cases r with
      | tupX a o vs _ im hd rv =>
        cases rr with
        | cons r1 rr =>
          cases rr
          cases r1
          rw [ints_of rv e1] at im
          exact ⟨a, ns, i, j, rfl, rfl, .inr ⟨o, R.im _ _ im⟩, e3, e4, k _ _ _ _ _ (.refl R) (.int _) h⟩
    · exact h.elim
  · exact h.elim
theorem qe_bmX {o e : Expr} {es : List Expr} {to : TED} {t : TAD} {name : Str} {apos cpos : Pos} {id : String} {r : V → List V → Hp → VK → Prop} {f : FMt} (pa : PlainAttrs "tuple") (slot : Slot "tuple" name id) (hty : typeOf (.builtin id) = pure (.type "method_descriptor")) (hm : MtR X id r) (hf : MtD X.K r f) (ho : QE X o to) (ha : QA X (e :: es) t)
    (hbase : attributeBase o name X.env (eval o X.env) = eval o X.env := by rfl)
    (hfew : ((backTo cpos (starEach (e :: es) X.env)).all (fun x => !x.1) && (backToKw cpos (keywordEach [] X.env)).all (fun x => x.1.isSome)
      && decide ((e :: es).length + ([] : List Keyword).length + (if ([] : List Keyword).isEmpty then 0 else 1) < 30)) = true := by rfl)
    (hline : (apos.endLine == cpos.line) = true := by rfl) (hs : starEach (e :: es) X.env = (false, eval e X.env) :: starEach es X.env := by rfl) (hplain : (backTo cpos (starEach es X.env)).any (·.1) = false := by rfl) :
    QE X (.Call (.Attribute o name apos) (e :: es) [] cpos) (dBMX f to t) := by
  refine pe_mono (pe_bmX pa slot hty hm ho ha hbase hfew hline hs hplain) fun σ H Q ⟨Z, δ, M, Qd, R, E, h, k⟩ => ?_
  refine ⟨Z, δ, M, _, R, E, h, fun Z1 x M1 u H1 s1 r1 ⟨⟨ds, ex⟩, h1⟩ => ?_⟩
  subst ex
  refine ⟨?_, Z1, δ, M1, _, s1.rel, E.mono s1.ext, h1, fun Z2 xs M2 us H2 s2 r2 h2 => hf Z2 M2 H2 _ u xs us Qd Q s2.rel (r1.mono s2.ext) r2 h2 (k.mono (s1.trans s2))⟩
  cases r1 with
  | tupX a o vs _ im hd rv => exact ⟨a, o, vs, rfl, s1.rel.im _ _ im, hd⟩
/-- l.index(i), l a list of ints -/
def mLstIdx : FMt := fun M x xs Q => match xs with
  | [.int i] => (match ((lstD M x).bind intsD).bind (idxOf i) with
    | some j => Q (.int j) M
    | none => False)
  | _ => False
theorem md_lstIdx : MtD X.K (rIndex X.K) mLstIdx := fun Z M H x u xs us Qd Q R r rr h k => by
  unfold mLstIdx at h
  split at h
  · rename_i i
    split at h
    · rename_i j e
      obtain ⟨ns, e1, e2⟩ := Option.bind_eq_some_iff.mp e
      obtain ⟨ds, e3, e4⟩ := Option.bind_eq_some_iff.mp e1
      obtain ⟨e5, e6⟩ := idxOf_spec e2
      obtain ⟨a, vs, eu, hs, rv⟩ := lst_sq R r e3
      subst eu
      rw [ints_of rv e4] at hs
      cases rr with
      | cons r1 rr =>
        cases rr
        cases r1
        refine ⟨a, _, .int i, j, .int i, rfl, rfl, hs, rfl, flat_ints ns, by rw [List.getElem?_map, e5]; rfl, by show (i == i) = true; exact beq_self_eq_true i, fun m z' hm hz => ?_, k _ _ _ _ _ (.refl R) (.int _) h⟩
        rw [List.getElem?_map] at hz
        obtain ⟨y, ey, ez⟩ := Option.map_eq_some_iff.mp hz
        subst ez
        show (y == i) = false
        exact beq_eq_false_iff_ne.mpr fun e => e6 m hm (e ▸ ey)
    · exact h.elim
  · exact h.elim
end
end DL
end
section
set_option Elab.async false
set_option linter.all false
set_option maxRecDepth 100000
set_option maxHeartbeats 4000000
namespace DL
open PySem PySem.Spec PyProof.Rows L2
set_option maxHeartbeats 4000000 in
theorem meets_enum1 {v : Value} {o : Obj} {H : Heap → Prop} (B : Begins v o H) :
    Meets (Builtin.«enumerate.__new__» ⟨[.type "enumerate", v], []⟩) (fun _ R s => H s.heap ∧
      R (.ok (.ret (.ref (s.heap.push o).objs.size))) { s with heap := (s.heap.push o).push { cls := .type "enumerate", data := .fields #[.none, .bool false, .ref s.heap.objs.size, rawInt 0, .none, .none] } }) :=
  .of_wp fun prog w A R s h => by
    obtain ⟨hp, g, d, tk, os⟩ := s; obtain ⟨h1, h⟩ := h
    have hsub := sub_enumerate
    have q1 : ∀ {A' : Around} {E : Value → Shared → Prop} {Q : Value → Shared → Prop}, Q (.ref hp.objs.size) ⟨hp.push o, g, d, tk, os⟩ → wpAny (model prog w) A' (pyIter v) Q E ⟨hp, g, d, tk, os⟩ :=
      fun q => B.iter prog w _ _ ⟨hp, g, d, tk, os⟩ _ h1 q
    wp_walk using q1
    refine wpAny_stack_any fun st => wpAny_pure ?_
    split
    · rename_i c _ _ _ _ _
      cases (c == Value.type "enumerate")
      · wp_walk using q1
        exact ⟨_, rfl, h⟩
      · wp_walk using q1
        exact ⟨_, rfl, h⟩
    · wp_walk using q1
      exact ⟨_, rfl, h⟩
theorem enum1_begins {prog : Program} {w : World} {A : Around} {E : Value → Shared → Prop} {s : Shared} {v : Value} {o : Obj} {H : Heap → Prop} {Q : Value → Shared → Prop} (B : Begins v o H) (h1 : H s.heap)
    (h : ∀ h', IsEnum h' (s.heap.objs.size + 1) s.heap.objs.size 0 .none → h'.get? s.heap.objs.size = some o → h'.objs.size = s.heap.objs.size + 2 →
      (∀ b o, s.heap.get? b = some o → h'.get? b = some o) → Q (.ref (s.heap.objs.size + 1)) { s with heap := h' }) :
    wpAny (model prog w) A (call (.type "enumerate") [v]) Q E s := by
  refine callType_new F.called_enumerate (by decide) (F.typeCall_enumerate_1 _) (F.newCall_enumerate_1 _) (fun obj => F.args_object_init_2 obj _) F.entry_enumerate_new (meets_enum1 B) ⟨h1, ?_⟩
  have hz : (s.heap.push o).objs.size = s.heap.objs.size + 1 := Heap.size_push ..
  show _ ∧ _
  rw [hz]
  have he : IsEnum ((s.heap.push o).push { cls := .type "enumerate", data := .fields #[.none, .bool false, .ref s.heap.objs.size, rawInt 0, .none, .none] }) (s.heap.objs.size + 1) s.heap.objs.size 0 .none := by
    have := Heap.get?_push_size (s.heap.push o) (o := { cls := .type "enumerate", data := .fields #[.none, .bool false, .ref s.heap.objs.size, rawInt 0, .none, .none] }) rfl
    rw [hz] at this; exact this
  exact ⟨⟨_, he, rfl⟩, h _ he (Heap.get?_push_of_some _ (Heap.get?_push_size _ B.free)) (by rw [Heap.size_push, hz]) fun b o x => Heap.get?_push_of_some _ (Heap.get?_push_of_some _ x)⟩
/-- the tuple at a, each item in a new pair -/
def ItEnT (K : PySem.W.Frag) (a : Addr) : It :=
  ⟨fun i H => ∃ (xs : List V) (x : V), SqT K H a xs ∧ xs[i]? = some x, fun i H v H' => ∃ T x, v = .ref T ∧ H T = none ∧ H' = upd H T (.tup [.int (i : Nat), x]) ∧ ∀ xs, SqT K H a xs → xs[i]? = some x, fun i H => ∃ xs : List V, SqT K H a xs ∧ xs.length = i⟩
theorem turn_enT {P : Program} {w : World} {K : PySem.W.Frag} {elts : List Expr} {kk : Nat} {tpos : Pos} (a e it : Addr) (hai : a ≠ it) (hae : a ≠ e) :
    Turn P w K (.Tuple elts kk tpos) (ItEnT K a) [e, it] e (fun i h => (∃ old, IsEnum h e it ((i : Nat) : Int) old) ∧ h.IsTupleIter it a i ∧ e ≠ it) where
  mem := by simp
  obj := fun i h st b hb => by
    obtain ⟨⟨old, he⟩, ⟨o, ho, hc, hd⟩, _⟩ := st
    have e' : b = e ∨ b = it := by simpa using hb
    rcases e' with z | z
    · rw [z]; exact ⟨_, he, fun v q => nomatch q⟩
    · rw [z]; exact ⟨o, ho, fun v q => by rw [hd] at q; cases q⟩
  keep := fun i h h' st k => let ⟨⟨old, he⟩, hi, hne⟩ := st; ⟨⟨old, k e (by simp) _ he⟩, hi.at fun o q => k it (by simp) o q, hne⟩
  item := by
    intro X hP hw hK hc i pins s σ H E I hf st hg
    subst hP hw hK
    obtain ⟨⟨old, he⟩, hit, hne⟩ := st
    obtain ⟨xs, x, hq, hx⟩ := hg
    obtain ⟨its, rv, p, hz⟩ := I.tuple hq
    have hel : e < s.heap.objs.size := Heap.lt_size he
    have hil : it < s.heap.objs.size := by obtain ⟨_, q, _⟩ := hit; exact Heap.lt_size q
    have hlt : i < its.toArray.size := by
      have := (List.getElem?_eq_some_iff.mp hx).1
      rw [List.size_toArray, ← rv.length]; exact this
    have hh : X.A.in1.handled = none := I.ok.hd hc
    have DD := PySem.Draws.tuple (prog := X.prog) (w := X.w) hh it a hai its.toArray
    refine wpAny_pyNext_enum_itemD DD he ⟨hit, p⟩ hlt hne (by simp [hne, Ne.symm hae]) fun u h' tk hu ho st' hT hsz hk => ?_
    obtain ⟨u', hu', ru⟩ := rv.get hx
    have eu : u = u' := by
      rw [show its.toArray[i]? = its[i]? by simp, hu'] at hu
      exact (Option.some.inj hu).symm
    subst eu
    refine ⟨_, rfl, wpAny_letOwnedTupleGo_enum (s := { s with heap := h', toks := tk + 1 }) ho fun h'' he' sb => ?_⟩
    have hT2 : h''.get? s.heap.objs.size = some { cls := .type "tuple", data := .seq #[.int i tk, u] } := (sb.2 _ (Nat.ne_of_gt hel)).trans hT
    have new : ObjOk X.prog X.w (upd H s.heap.objs.size (.tup [.int (i : Nat), x])) h'' s.heap.objs.size (.tup [.int (i : Nat), x]) :=
      ⟨by show 2 ≤ sizeLine; decide, [.int i tk, u], .cons ⟨_, rfl⟩ (.cons ru .nil), ⟨_, hT2, rfl, _, rfl⟩⟩
    have I1 : Inv X pins σ (upd H s.heap.objs.size (.tup [.int (i : Nat), x])) { s with heap := h'', toks := tk + 1 } :=
      I.turnedNew (ch := [e, it]) (fun b ob hb q => (sb.2 b (fun z => hb (by simp [z]))).trans (hk b ob (fun z => hb (by simp [z])) (fun z => hb (by simp [z])) q)) hf (Nat.le_refl _) new
    refine ⟨.ref s.heap.objs.size, _, I1, rfl, ⟨_, x, rfl, I.hok.fresh (Nat.le_refl _), rfl, fun ys hy => by rw [I.tuple_inj hy hq]; exact hx⟩, ⟨⟨u, ?_⟩, st'.1.at fun o q => (sb.2 it (Ne.symm hne)).trans q, hne⟩, fun b hb => ?_⟩
    · have e1 : ((i + 1 : Nat) : Int) = (i : Int) + 1 := by omega
      rw [e1]; exact he'
    · have hb' : b < s.heap.objs.size := by
        have e' : b = e ∨ b = it := by simpa using hb
        rcases e' with z | z
        · rw [z]; exact hel
        · rw [z]; exact hil
      rw [upd_ne (Nat.ne_of_lt hb')]
      exact (hf b hb).1
  done := by
    intro X hP hw hK hc i pins s σ H E I hf st hg
    subst hP hw hK
    obtain ⟨⟨old, he⟩, hit, hne⟩ := st
    obtain ⟨xs, hq, hx⟩ := hg
    obtain ⟨its, rv, p, hz⟩ := I.tuple hq
    obtain ⟨f0, f1, f2, f3, f4, f5⟩ := hf it (by simp)
    have hl := rv.length
    have hh : X.A.in1.handled = none := I.ok.hd hc
    have hT : s.TypeIs (.ref e) "enumerate" := ⟨_, he, rfl⟩
    have DD := PySem.Draws.tuple (prog := X.prog) (w := X.w) hh it a hai its.toArray
    have ei : i = its.toArray.size := by rw [List.size_toArray, ← hl, hx]
    rw [ei] at hit
    exact wpAny_pyNext_enum_endD DD he ⟨hit, p⟩ fun h' eb => ⟨rfl, I.turned (t' := s.toks) (fun b o hb q => eb b o hb q) f0 f1 f3 f4 f5⟩
  self := fun A i s Q E st h => let ⟨⟨_, he⟩, _⟩ := st; wpAny_pyIter_enum he h
def iEnumA (K : PySem.W.Frag) (ta : TA) : TI := fun σ H R => ta σ H fun vs H1 => ∃ a xs, vs = [.ref a] ∧ ((SqL K H1 a xs ∧ R (Ite K a) H1) ∨ (SqT K H1 a xs ∧ R (ItEnT K a) H1))
theorem pi_enumA {X : Cx} {e : Expr} {ta : TA} {p pos tpos : Pos} {elts : List Expr} {kk : Nat} (hg : Gl X "enumerate") (hm : X.mg "enumerate" = none) (ha : PA X [e] ta) (hs : starEach [e] X.env = [(false, eval e X.env)] := by rfl) :
    PI X (.Tuple elts kk tpos) (.Call (.Name "enumerate" p) [e] [] pos) (iEnumA X.K ta) := by
  refine ⟨fun pins s σ H R I h => ?_⟩
  refine Call_ (ld_blt I hg hm boot_enumerate (PyProof.Rows.callWith_type1 (thn (ha.run pos pins s σ H _ I h) fun us s1 ⟨vs, H1, I1, r1, q1⟩ => ?_) hs rfl))
  obtain ⟨a, xs, ex, q1⟩ := q1
  subst ex
  cases r1 with
  | cons r rr =>
    cases rr
    cases r
    have fresh2 : ∀ b, b ∈ [s1.heap.objs.size + 1, s1.heap.objs.size] → FpOk X pins H1 b := fun b hb => by
      have e' : b = s1.heap.objs.size + 1 ∨ b = s1.heap.objs.size := by simpa using hb
      have hle : s1.heap.objs.size ≤ b := by
        rcases e' with z | z
        · rw [z]; exact Nat.le_add_right _ _
        · rw [z]; exact Nat.le_refl _
      exact I1.fpOk hle (I1.hok.fresh hle)
    rcases q1 with ⟨hq, q⟩ | ⟨hq, q⟩
    · obtain ⟨its, rv, p', hz⟩ := I1.list hq
      refine call_enumerate_list p'.isList fun h' he hit hsz hk => wpAny_pyIter_enum he ?_
      have I2 : Inv X pins σ H1 { s1 with heap := h' } := I1.kept (t' := s1.toks) hk
      exact ⟨s1.heap.objs.size + 1, [s1.heap.objs.size + 1, s1.heap.objs.size], _, _, H1, rfl, I2, turn_enum a (s1.heap.objs.size + 1) s1.heap.objs.size, ⟨⟨.none, he⟩, hit, Nat.succ_ne_self _⟩, fresh2, q⟩
    · obtain ⟨its, rv, p', hz⟩ := I1.tuple hq
      obtain ⟨o1, ho1, _⟩ := id p'
      have hal : a < s1.heap.objs.size := Heap.lt_size ho1
      refine enum1_begins (begins_tuple a its.toArray) (show s1.heap.IsTuple a its.toArray from p') fun h' he hit hsz hk => wpAny_pyIter_enum he ?_
      have I2 : Inv X pins σ H1 { s1 with heap := h' } := I1.kept (t' := s1.toks) hk
      exact ⟨s1.heap.objs.size + 1, [s1.heap.objs.size + 1, s1.heap.objs.size], _, _, H1, rfl, I2, turn_enT a (s1.heap.objs.size + 1) s1.heap.objs.size (Nat.ne_of_lt hal) (Nat.ne_of_lt (Nat.lt_succ_of_lt hal)), ⟨⟨.none, he⟩, ⟨_, hit, rfl, rfl⟩, Nat.succ_ne_self _⟩, fresh2, q⟩
/-- the pairs -/
def enPairs (ds : List D) : List D := (List.range ds.length).map fun i => .tup [.int (i : Nat), ds.getD i .non]
theorem enPairs_len (ds : List D) : (enPairs ds).length = ds.length := by unfold enPairs; rw [List.length_map, List.length_range]
theorem enPairs_get {ds : List D} {i : Nat} {d : D} (h : ds[i]? = some d) : (enPairs ds)[i]? = some (.tup [.int (i : Nat), d]) := by
  have hi := (List.getElem?_eq_some_iff.mp h).1
  unfold enPairs
  rw [List.getElem?_map, List.getElem?_range hi]
  simp [List.getD, h]
def dIEnum (ta : TAD) : TID := fun δ M R => ta δ M fun xs M1 => match xs with
  | [x] => (match seqD M1 x with
    | some ds => R ⟨enPairs ds, fun M' => seqD M' x = some ds⟩ M1
    | none => False)
  | _ => False
theorem walkD_enL {K : PySem.W.Frag} {Z : Im} {d : D} {a : Addr} {ds : List D} (r : Rep K Z d (.ref a)) (hl : ∀ M, seqD M d = some ds → lstD M d = some ds) : WalkD K Z (Ite K a) ⟨enPairs ds, fun M' => seqD M' d = some ds⟩ := by
  intro Z1 M1 H1 e R al
  obtain ⟨a', vs, eu, hs, rr⟩ := lst_sq R (r.mono e) (hl _ al)
  cases eu
  dsimp only
  rw [enPairs_len]
  refine ⟨fun i hi => ?_, ⟨vs, hs, Nat.le_of_eq rr.length.symm⟩, fun i x H2 hi y => ?_⟩
  · have hi2 : i < vs.length := by rw [← rr.length]; exact hi
    exact ⟨vs, _, hs, List.getElem?_eq_getElem hi2⟩
  · obtain ⟨T, x', ex, hT, eH, hx⟩ := y
    obtain ⟨d', e1, r1⟩ := rr.getV (hx vs hs)
    have sn := Stp.newI R hT (.tup [.int (i : Nat), x'])
    subst ex eH
    exact ⟨_, _, sn, enPairs_get e1, .tup T _ _ zupd_same (.cons (.int _) (.cons (r1.mono sn.ext) .nil))⟩
theorem walkD_enT {K : PySem.W.Frag} {Z : Im} {d : D} {a : Addr} {ds : List D} (r : Rep K Z d (.ref a)) (hl : tupOf d = some ds) : WalkD K Z (ItEnT K a) ⟨enPairs ds, fun M' => seqD M' d = some ds⟩ := by
  intro Z1 M1 H1 e R al
  obtain ⟨a', vs, eu, _, hs, rr⟩ := tup_sq R (r.mono e) hl
  cases eu
  dsimp only
  rw [enPairs_len]
  refine ⟨fun i hi => ?_, ⟨vs, hs, rr.length.symm⟩, fun i x H2 hi y => ?_⟩
  · have hi2 : i < vs.length := by rw [← rr.length]; exact hi
    exact ⟨vs, _, hs, List.getElem?_eq_getElem hi2⟩
  · obtain ⟨T, x', ex, hT, eH, hx⟩ := y
    obtain ⟨d', e1, r1⟩ := rr.getV (hx vs hs)
    have sn := Stp.newI R hT (.tup [.int (i : Nat), x'])
    subst ex eH
    exact ⟨_, _, sn, enPairs_get e1, .tup T _ _ zupd_same (.cons (.int _) (.cons (r1.mono sn.ext) .nil))⟩
section
variable {X : Cx}
theorem qi_enum {e : Expr} {ta : TAD} {p pos tpos : Pos} {elts : List Expr} {kk : Nat} (hg : Gl X "enumerate") (hm : X.mg "enumerate" = none) (ha : QA X [e] ta) (hs : starEach [e] X.env = [(false, eval e X.env)] := by rfl) :
    QI X (.Tuple elts kk tpos) (.Call (.Name "enumerate" p) [e] [] pos) (dIEnum ta) := by
  refine pi_mono (pi_enumA hg hm ha hs) fun σ H R ⟨Z, δ, M, Rd, R0, E, h, k⟩ => ?_
  refine ⟨Z, δ, M, _, R0, E, h, fun Z1 xs M1 us H1 s1 r1 h1 => ?_⟩
  split at h1
  · rename_i x
    cases r1 with
    | cons r rr =>
      cases rr
      split at h1
      · rename_i ds e
        rcases seq_or e with e1 | e1
        · obtain ⟨a, vs, eu, hs, rr⟩ := lst_sq s1.rel r e1
          subst eu
          refine ⟨a, vs, rfl, .inl ⟨hs, k Z1 _ _ M1 H1 s1 (walkD_enL r fun M' q => ?_) h1⟩⟩
          cases x <;> first | exact q | cases e1
        · obtain ⟨a, vs, eu, _, hs, rr⟩ := tup_sq s1.rel r e1
          subst eu
          exact ⟨a, vs, rfl, .inr ⟨hs, k Z1 _ _ M1 H1 s1 (walkD_enT r e1) h1⟩⟩
      · exact h1.elim
  · exact h1.elim
/-! ### zip, of two lists or two tuples -/
def zipPairs (xs ys : List D) : List D := (List.range (min xs.length ys.length)).map fun i => .tup [xs.getD i .non, ys.getD i .non]
theorem zipPairs_len (xs ys : List D) : (zipPairs xs ys).length = min xs.length ys.length := by unfold zipPairs; rw [List.length_map, List.length_range]
theorem zipPairs_get {xs ys : List D} {i : Nat} {x y : D} (h : xs[i]? = some x) (h2 : ys[i]? = some y) : (zipPairs xs ys)[i]? = some (.tup [x, y]) := by
  have hi := (List.getElem?_eq_some_iff.mp h).1
  have hi2 := (List.getElem?_eq_some_iff.mp h2).1
  unfold zipPairs
  rw [List.getElem?_map, List.getElem?_range (by omega)]
  simp [List.getD, h, h2]
def bothL (M : Mem) (x y : D) : Option (List D × List D) := match tupOf x, tupOf y with
  | some a, some b => some (a, b)
  | none, none => (match lstD M x, lstD M y with
    | some a, some b => some (a, b)
    | _, _ => none)
  | _, _ => none
def dIZip (ta : TAD) : TID := fun δ M R => ta δ M fun xs M1 => match xs with
  | [x, y] => (match bothL M1 x y with
    | some (a, b) => R ⟨zipPairs a b, fun M' => bothL M' x y = some (a, b)⟩ M1
    | none => False)
  | _ => False
theorem both_cases {M : Mem} {x y : D} {a b : List D} (h : bothL M x y = some (a, b)) : (tupOf x = some a ∧ tupOf y = some b) ∨ (tupOf x = none ∧ tupOf y = none ∧ lstD M x = some a ∧ lstD M y = some b) := by
  unfold bothL at h
  cases e1 : tupOf x with
  | some p =>
    cases e2 : tupOf y with
    | some q => rw [e1, e2] at h; cases h; exact .inl ⟨rfl, rfl⟩
    | none => rw [e1, e2] at h; cases h
  | none =>
    cases e2 : tupOf y with
    | some q => rw [e1, e2] at h; cases h
    | none =>
      rw [e1, e2] at h
      dsimp only at h
      cases e3 : lstD M x with
      | none => rw [e3] at h; cases h
      | some p =>
        cases e4 : lstD M y with
        | none => rw [e3, e4] at h; cases h
        | some q => rw [e3, e4] at h; cases h; exact .inr ⟨rfl, rfl, rfl, rfl⟩
theorem walkD_zipT {K : PySem.W.Frag} {Z : Im} {x y : D} {a b : Addr} {ds es : List D} (r : Rep K Z x (.ref a)) (r2 : Rep K Z y (.ref b)) (h1 : tupOf x = some ds) (h2 : tupOf y = some es) {al : Mem → Prop} : WalkD K Z (RZ.ItzT K a b) ⟨zipPairs ds es, al⟩ := by
  intro Z1 M1 H1 e R _
  obtain ⟨a', vs, eu, _, hs, rr⟩ := tup_sq R (r.mono e) h1
  obtain ⟨b', us, ev, _, hs2, rr2⟩ := tup_sq R (r2.mono e) h2
  cases eu
  cases ev
  dsimp only
  rw [zipPairs_len]
  have l1 := rr.length
  have l2 := rr2.length
  refine ⟨fun i hi => ?_, ⟨vs, us, hs, hs2, by omega⟩, fun i x H2 hi y => ?_⟩
  · exact ⟨vs, us, _, _, hs, hs2, List.getElem?_eq_getElem (by omega), List.getElem?_eq_getElem (by omega)⟩
  · obtain ⟨T, x', y', ex, hT, eH, hx, hy⟩ := y
    obtain ⟨d', e1, r1⟩ := rr.getV (hx vs hs)
    obtain ⟨d2, e2, r2⟩ := rr2.getV (hy us hs2)
    have sn := Stp.newI R hT (.tup [x', y'])
    subst ex eH
    exact ⟨_, _, sn, zipPairs_get e1 e2, .tup T _ _ zupd_same (.cons (r1.mono sn.ext) (.cons (r2.mono sn.ext) .nil))⟩
theorem walkD_zipL {K : PySem.W.Frag} {Z : Im} {x y : D} {a b : Addr} {ds es : List D} (r : Rep K Z x (.ref a)) (r2 : Rep K Z y (.ref b)) (h1 : tupOf x = none) (h2 : tupOf y = none) : WalkD K Z (Itz K a b) ⟨zipPairs ds es, fun M' => bothL M' x y = some (ds, es)⟩ := by
  intro Z1 M1 H1 e R al
  rcases both_cases al with ⟨q, _⟩ | ⟨_, _, q1, q2⟩
  · rw [h1] at q; cases q
  obtain ⟨a', vs, eu, hs, rr⟩ := lst_sq R (r.mono e) q1
  obtain ⟨b', us, ev, hs2, rr2⟩ := lst_sq R (r2.mono e) q2
  cases eu
  cases ev
  dsimp only
  rw [zipPairs_len]
  have l1 := rr.length
  have l2 := rr2.length
  refine ⟨fun i hi => ?_, ⟨vs, us, hs, hs2, by omega⟩, fun i x H2 hi y => ?_⟩
  · exact ⟨vs, us, _, _, hs, hs2, List.getElem?_eq_getElem (by omega), List.getElem?_eq_getElem (by omega)⟩
  · obtain ⟨T, x', y', ex, hT, eH, hx, hy⟩ := y
    obtain ⟨d', e1, r1⟩ := rr.getV (hx vs hs)
    obtain ⟨d2, e2, r2⟩ := rr2.getV (hy us hs2)
    have sn := Stp.newI R hT (.tup [x', y'])
    subst ex eH
    exact ⟨_, _, sn, zipPairs_get e1 e2, .tup T _ _ zupd_same (.cons (r1.mono sn.ext) (.cons (r2.mono sn.ext) .nil))⟩
theorem qi_zip {e e2 : Expr} {ta : TAD} {p pos tpos : Pos} {elts : List Expr} {kk : Nat} (hg : Gl X "zip") (hm : X.mg "zip" = none) (ha : QA X [e, e2] ta)
    (hs : starEach [e, e2] X.env = (false, eval e X.env) :: starEach [e2] X.env := by rfl) (hpl : (backTo pos (starEach [e2] X.env)).any (·.1) = false := by rfl) :
    QI X (.Tuple elts kk tpos) (.Call (.Name "zip" p) [e, e2] [] pos) (dIZip ta) := by
  refine pi_mono (RZ.pi_zipA hg hm ha hs hpl) fun σ H R ⟨Z, δ, M, Rd, R0, E, h, k⟩ => ?_
  refine ⟨Z, δ, M, _, R0, E, h, fun Z1 xs M1 us H1 s1 r1 h1 => ?_⟩
  split at h1
  · rename_i x y
    cases r1 with
    | cons r rr =>
      cases rr with
      | cons r2 rr =>
        cases rr
        split at h1
        · rename_i a b e
          rcases both_cases e with ⟨e1, e2⟩ | ⟨e1, e2, e3, e4⟩
          · obtain ⟨p1, vs, eu, _, hs, rr⟩ := tup_sq s1.rel r e1
            obtain ⟨p2, us, ev, _, hs2, rr2⟩ := tup_sq s1.rel r2 e2
            subst eu ev
            exact ⟨p1, p2, vs, us, rfl, .inr ⟨hs, hs2, k Z1 _ _ M1 H1 s1 (walkD_zipT r r2 e1 e2) h1⟩⟩
          · obtain ⟨p1, vs, eu, hs, rr⟩ := lst_sq s1.rel r e3
            obtain ⟨p2, us, ev, hs2, rr2⟩ := lst_sq s1.rel r2 e4
            subst eu ev
            exact ⟨p1, p2, vs, us, rfl, .inl ⟨hs, hs2, k Z1 _ _ M1 H1 s1 (walkD_zipL r r2 e1 e2) h1⟩⟩
        · exact h1.elim
  · exact h1.elim
/-! ### range down -/
theorem walkD_dn {K : PySem.W.Frag} {Z : Im} {lo : Int} {n : Nat} : WalkD K Z (Itc lo (-1) n) ⟨rgDn lo n, fun _ => True⟩ := by
  intro Z1 M1 H1 e R _
  have hl : (rgDn lo n).length = n := by unfold rgDn; rw [List.length_map, List.length_range]
  dsimp only
  rw [hl]
  refine ⟨fun i hi => hi, Nat.le_refl n, fun i x H2 hi y => ?_⟩
  obtain ⟨eH, ex⟩ := y
  subst eH
  subst ex
  refine ⟨Z1, .int (lo - i), .refl R, ?_, ?_⟩
  · unfold rgDn
    rw [List.getElem?_map, List.getElem?_range (by omega)]
    rfl
  · have e : lo + (i : Nat) * (-1) = lo - (i : Nat) := by omega
    rw [e]; exact .int _
theorem qi_rng3 {tg a b c : Expr} {ta : TAD} {p pos : Pos} (hg : Gl X "range") (hm : X.mg "range" = none) (ha : QA X [a, b, c] ta)
    (hs : starEach [a, b, c] X.env = (false, eval a X.env) :: starEach [b, c] X.env := by rfl) (hpl : (backTo pos (starEach [b, c] X.env)).any (·.1) = false := by rfl) : QI X tg (.Call (.Name "range" p) [a, b, c] [] pos) (dIRng3 ta) := by
  refine pi_mono (pi_range3 hg hm ha hs hpl) fun σ H R ⟨Z, δ, M, Rd, R0, E, h, k⟩ => ?_
  refine ⟨Z, δ, M, _, R0, E, h, fun Z1 ds M1 us H1 s1 r1 h1 => ?_⟩
  split at h1
  · rename_i i j c
    cases r1 with
    | cons r rr =>
      cases rr with
      | cons r' rr =>
        cases rr with
        | cons r'' rr =>
          cases rr
          cases r
          cases r'
          cases r''
          obtain ⟨ec, ⟨b1, b2, b3, b4⟩, h1⟩ := h1
          subst ec
          exact ⟨i, j, -1, _, rfl, .neg b1 b2 b3 b4, k Z1 _ _ M1 H1 s1 walkD_dn h1⟩
  · exact h1.elim
end
end DL
end
section
set_option Elab.async false
set_option linter.all false
set_option maxRecDepth 100000
set_option maxHeartbeats 4000000
namespace DL
open PySem PySem.Spec PyProof.Rows L2
section
variable {X : Cx}
/-! ### list(range(..)), tuple(range(..)) -/
abbrev TRD := DEnv → Mem → (Int → Int → Mem → Prop) → Prop
def liftR (K : PySem.W.Frag) (t : TRD) : St → Hp → (Int → Int → Hp → Prop) → Prop := fun σ H Q => ∃ Z δ M Qd, Rel K Z M H ∧ EnvR K Z δ σ ∧ t δ M Qd ∧ ∀ Z' a b M' H', Stp K Z M H Z' M' H' → Qd a b M' → Q a b H'
abbrev QRg (X : Cx) (e : Expr) (t : TRD) : Prop := PRg X e (liftR X.K t)
theorem prg_mono {e : Expr} {t t' : St → Hp → (Int → Int → Hp → Prop) → Prop} (h : PRg X e t) (m : ∀ σ H Q, t' σ H Q → t σ H Q) : PRg X e t' := fun pins s σ H Q I q => h pins s σ H Q I (m σ H Q q)
def dRg1 (ta : TED) : TRD := fun δ M Q => ta δ M fun x M1 => match x with
  | .int n => Q 0 n M1
  | _ => False
def dRg2 (ta tb : TED) : TRD := fun δ M Q => ta δ M fun x M1 => tb δ M1 fun y M2 => match x, y with
  | .int i, .int j => Q i j M2
  | _, _ => False
theorem qrg_1 {a : Expr} {ta : TED} {p pos : Pos} (hg : Gl X "range") (hm : X.mg "range" = none) (ha : QE X a ta) (na : starEach [a] X.env = (false, eval a X.env) :: starEach [] X.env := by rfl) : QRg X (.Call (.Name "range" p) [a] [] pos) (dRg1 ta) := by
  refine prg_mono (prg_1 hg hm ha na) fun σ H Q ⟨Z, δ, M, Qd, R, E, h, k⟩ => ?_
  refine ⟨Z, δ, M, _, R, E, h, fun Z1 x M1 u H1 s1 r1 h1 => ?_⟩
  cases r1 <;> first | exact h1.elim | skip
  exact ⟨_, rfl, k _ _ _ _ _ s1 h1⟩
theorem qrg_2 {a b : Expr} {ta tb : TED} {p pos : Pos} (hg : Gl X "range") (hm : X.mg "range" = none) (ha : QE X a ta) (hb : QE X b tb) (na : starEach [a, b] X.env = (false, eval a X.env) :: starEach [b] X.env := by rfl)
    (nb : starEach [b] X.env = (false, eval b X.env) :: starEach [] X.env := by rfl) (hp : (backTo pos (starEach [b] X.env)).any (·.1) = false := by rfl) : QRg X (.Call (.Name "range" p) [a, b] [] pos) (dRg2 ta tb) := by
  refine prg_mono (prg_2 hg hm ha hb na nb hp) fun σ H Q ⟨Z, δ, M, Qd, R, E, h, k⟩ => ?_
  refine ⟨Z, δ, M, _, R, E, h, fun Z1 x M1 u H1 s1 r1 h1 => ?_⟩
  refine ⟨Z1, δ, M1, _, s1.rel, E.mono s1.ext, h1, fun Z2 y M2 v H2 s2 r2 h2 => ?_⟩
  cases r1 <;> first | exact h2.elim | skip
  cases r2 <;> first | exact h2.elim | skip
  exact ⟨_, _, rfl, rfl, k _ _ _ _ _ (s1.trans s2) h2⟩
theorem rgD_reps {K : PySem.W.Frag} {Z : Im} (a b : Int) : Reps K Z (rgD a b) (rgV a b) := by
  have e1 : rgD a b = ((List.range (b - a).toNat).map fun (i : Nat) => a + (i : Int)).map D.int := by unfold rgD; rw [List.map_map]; rfl
  have e2 : rgV a b = ((List.range (b - a).toNat).map fun (i : Nat) => a + (i : Int)).map V.int := by unfold rgV; rw [List.map_map]; rfl
  rw [e1, e2]
  exact Reps.ofInts _
def dLstRg (te : TRD) : TED := fun δ M Q => te δ M fun a b M1 => RgOk a b ∧ Q (.lst (rgD a b)) M1
def dLstRgM (te : TRD) : TED := fun δ M Q => te δ M fun a b M1 => RgOk a b ∧ ∀ p, M1 p = none → Q (.ref p) (mupd M1 p (.lst (rgD a b)))
def dTupRg (te : TRD) : TED := fun δ M Q => te δ M fun a b M1 => RgOk a b ∧ Q (.tup (rgD a b)) M1
theorem qe_lstRg {e : Expr} {te : TRD} {p pos : Pos} (hc : X.calm = true) (hg : Gl X "list") (hm : X.mg "list" = none) (he : QRg X e te) (na : starEach [e] X.env = (false, eval e X.env) :: starEach [] X.env := by rfl) : QE X (.Call (.Name "list" p) [e] [] pos) (dLstRg te) := by
  refine pe_mono (pe_listRg hc hg hm he na) fun σ H Q ⟨Z, δ, M, Qd, R, E, h, k⟩ => ?_
  refine ⟨Z, δ, M, _, R, E, h, fun Z1 a b M1 H1 s1 h1 => ⟨h1.1, fun q hq => ?_⟩⟩
  have sn := Stp.newI s1.rel hq (.lst (rgV a b))
  exact k _ _ _ _ _ (s1.trans sn) (.lst q _ _ zupd_same (rgD_reps a b)) h1.2
theorem qe_lstRgM {e : Expr} {te : TRD} {p pos : Pos} (hc : X.calm = true) (hg : Gl X "list") (hm : X.mg "list" = none) (he : QRg X e te) (na : starEach [e] X.env = (false, eval e X.env) :: starEach [] X.env := by rfl) : QE X (.Call (.Name "list" p) [e] [] pos) (dLstRgM te) := by
  refine pe_mono (pe_listRg hc hg hm he na) fun σ H Q ⟨Z, δ, M, Qd, R, E, h, k⟩ => ?_
  refine ⟨Z, δ, M, _, R, E, h, fun Z1 a b M1 H1 s1 h1 => ⟨h1.1, fun q hq => ?_⟩⟩
  obtain ⟨f1, f2⟩ := Stp.newM s1.rel hq (o := .lst (rgD a b)) (u := .lst (rgV a b)) ⟨_, upd_same, rgD_reps a b⟩
  exact k _ _ _ _ _ (s1.trans f2) (.ref q) (h1.2 q f1)
theorem qe_tupRg {e : Expr} {te : TRD} {p pos : Pos} (hc : X.calm = true) (hg : Gl X "tuple") (hm : X.mg "tuple" = none) (he : QRg X e te) (na : starEach [e] X.env = (false, eval e X.env) :: starEach [] X.env := by rfl) : QE X (.Call (.Name "tuple" p) [e] [] pos) (dTupRg te) := by
  refine pe_mono (pe_tupRg hc hg hm he na) fun σ H Q ⟨Z, δ, M, Qd, R, E, h, k⟩ => ?_
  refine ⟨Z, δ, M, _, R, E, h, fun Z1 a b M1 H1 s1 h1 => ⟨h1.1, fun q hq => ?_⟩⟩
  have sn := Stp.newI s1.rel hq (.tup (rgV a b))
  exact k _ _ _ _ _ (s1.trans sn) (.tup q _ _ zupd_same (rgD_reps a b)) h1.2

/-! ### t += u, tuples -/
theorem noI_tup_add : typeLookup (.type "tuple") (dunderI "add") = pure none := by rw [typeLookup_type, builtinLookup_eq_fast]; kernel_rfl
theorem ip_catA : PIp X .Add (rCatA X.K) := by
  intro pins s σ H x y v u Q I rx ry h
  obtain ⟨a, b, xs, ys, rfl, rfl, ha, hb, hz, q0, q1, q2⟩ := h
  cases rx
  cases ry
  obtain ⟨its, r1, p1, _⟩ := I.tuple ha
  obtain ⟨its2, r2, p2, _⟩ := I.tuple hb
  obtain ⟨⟨cls, dd, data, sl⟩, ho, hc, n, hd⟩ := id p1
  obtain ⟨⟨cls2, dd2, data2, sl2⟩, ho2, hc2, n2, hd2⟩ := id p2
  simp only at hc hd hc2 hd2
  subst hc hd hc2 hd2
  have ta : s.TypeIs (.ref a) "tuple" := ⟨_, ho, rfl⟩
  have tb : s.TypeIs (.ref b) "tuple" := ⟨_, ho2, rfl⟩
  refine wpAny_inplaceOp_concat ta tb noI_tup_add noFill_tuple_add seq_tuple_add ?_
  by_cases hx : xs = []
  · subst hx
    cases r1
    exact call_meets PySem.F.slot_tuple_add ta PySem.F.entry_tuple_add (PySem.F.args_tuple_add_2 _ _)
      (tuple_addW0 a b ([] : List Value).toArray its2.toArray n n2 dd dd2 sl sl2 (by simp)) ⟨ho, ho2, .ref b, H, I, rfl, q0 rfl⟩
  · have hv : its ≠ [] := fun z => hx (r1.nil_iff.mp z)
    by_cases hy : ys = []
    · exact call_meets PySem.F.slot_tuple_add ta PySem.F.entry_tuple_add (PySem.F.args_tuple_add_2 _ _)
        (tuple_addW1 a b its.toArray its2.toArray n n2 dd dd2 sl sl2 (by simpa using hv) (by simp [r2.nil_iff.mpr hy])) ⟨ho, ho2, .ref a, H, I, rfl, q1 hx hy⟩
    · have hw : its2 ≠ [] := fun z => hy (r2.nil_iff.mp z)
      have e : its.toArray ++ its2.toArray = (its ++ its2).toArray := by simp
      refine call_meets PySem.F.slot_tuple_add ta PySem.F.entry_tuple_add (PySem.F.args_tuple_add_2 _ _)
        (tuple_addW2 a b its.toArray its2.toArray n n2 dd dd2 sl sl2 (by simpa using hv) (by simpa using hw) (by rw [List.size_toArray, List.size_toArray, ← r1.length, ← r2.length]; exact hz)) ⟨ho, ho2, ?_⟩
      rw [e]
      refine ⟨.ref s.heap.objs.size, _, I.laid (t' := s.toks) (o := .tup (xs ++ ys)) (fun b ob q => Heap.get?_push_of_some _ q) (Nat.le_refl _) ?_, rfl, q2 hx hy _ (I.hok.fresh (Nat.le_refl _))⟩
      exact ⟨by rw [List.length_append]; exact hz, _, r1.append r2, IsTup.new _ _⟩
def fCatT : FD2 := fun M x y Q => match x, y with
  | .tup a, .tup b => a.length + b.length ≤ sizeLine ∧ Q (.tup (a ++ b))
  | _, _ => False
theorem od_catT : OpD X.K (rCatA X.K) fCatT := fun Z M H x y u v Qd Q R r1 r2 h k => by
  unfold fCatT at h
  split at h
  · cases r1 with
    | tup a vs ds im rr =>
      cases r2 with
      | tup b us es im2 rr2 =>
        refine ⟨a, b, vs, us, rfl, rfl, im.sq R, im2.sq R, by rw [← rr.length, ← rr2.length]; exact h.1, fun e => ?_, fun _ e => ?_, fun _ _ p hp => ?_⟩
        · subst e
          cases rr
          exact k Z _ _ H (.refl R) (.tup b us _ im2 rr2) h.2
        · subst e
          cases rr2
          have h2 := h.2
          rw [List.append_nil] at h2
          exact k Z _ _ H (.refl R) (.tup a vs _ im rr) h2
        · have sn := Stp.newI R hp (.tup (vs ++ us))
          exact k _ _ _ _ sn (.tup p _ _ zupd_same ((rr.append rr2).mono sn.ext)) h.2
  · exact h.elim

/-! ### {k: v}, one pair -/
/-- a thing of its own, hidden from the memory, at p -/
structure HidSt (K : PySem.W.Frag) (Z0 : Im) (M0 : Mem) (H0 : Hp) (p : Addr) (o : HO) (Z1 : Im) (M1 : Mem) (H1 : Hp) : Prop where
  st : Stp K Z0 M0 H0 Z1 M1 H1
  mn : M1 p = none
  zn : Z1 p = none
  at_ : H1 p = some o
  nt : ∀ vs, o ≠ .tup vs
theorem HidSt.new {K : PySem.W.Frag} {Z : Im} {M : Mem} {H : Hp} (R : Rel K Z M H) {p : Addr} (hp : H p = none) (o : HO) (hn : ∀ vs, o ≠ .tup vs) : HidSt K Z M H p o Z M (upd H p o) :=
  ⟨Stp.newN R hp o, (R.free hp).1, (R.free hp).2, upd_same, hn⟩
theorem HidSt.more {K : PySem.W.Frag} {Z0 Z1 Z2 : Im} {M0 M1 M2 : Mem} {H0 H1 H2 : Hp} {p : Addr} {o : HO} (s : HidSt K Z0 M0 H0 p o Z1 M1 H1) (s2 : Stp K Z1 M1 H1 Z2 M2 H2) : HidSt K Z0 M0 H0 p o Z2 M2 H2 := by
  obtain ⟨m2, h2, z2⟩ := s2.frm p _ s.at_ s.mn
  exact ⟨s.st.trans s2, m2, (z2 s.nt).trans s.zn, h2, s.nt⟩
/-- it is shown, changed, to the memory -/
theorem HidSt.show_ {K : PySem.W.Frag} {Z0 Z1 : Im} {M0 M1 : Mem} {H0 H1 : Hp} {p : Addr} {o u : HO} (s : HidSt K Z0 M0 H0 p o Z1 M1 H1) (hp : H0 p = none) {m : MO} (hm : MOk K Z1 (upd H1 p u) p m) : Stp K Z0 M0 H0 Z1 (mupd M1 p m) (upd H1 p u) := by
  refine ⟨s.st.ext, s.st.rel.put s.zn hm, fun a w e m => ?_⟩
  obtain ⟨q1, q2, q3⟩ := s.st.frm a w e m
  have ne := ne_of_none e hp
  exact ⟨by rw [mupd_ne ne]; exact q1, by rw [upd_ne ne]; exact q2, q3⟩
/-- .. of an int or a text -/
def dDisp1K (tk tv : TED) : TED := fun δ M Q => tk δ M fun x M1 => tv δ M1 fun y M2 => match keyD x with
  | some k => ∀ p, M2 p = none → Q (.ref p) (mupd M2 p (.dK [(k, y)]))
  | none => False
def dDisp1T (tk tv : TED) : TED := fun δ M Q => tk δ M fun x M1 => tv δ M1 fun y M2 => match (tupK x).bind keysD with
  | some ks => ∀ p, M2 p = none → Q (.ref p) (mupd M2 p (.dT [(ks, y)]))
  | none => False
theorem qe_disp1K {a b : Expr} {ta tb : TED} {pos : Pos} (ha : QE X a ta) (hb : QE X b tb) : QE X (.Dict [some a] [b] pos) (dDisp1K ta tb) := by
  refine pe_mono (pe_disp (pps_cons ha hb pps_nil) rfl rfl (by simp) (Nat.le_of_ble_eq_true rfl)) fun σ H Q ⟨Z, δ, M, Qd, R, E, h, k⟩ => ?_
  intro p hp
  have s0 := HidSt.new R hp (.dK []) (fun vs q => nomatch q)
  refine ⟨Z, δ, M, _, s0.st.rel, E, h, fun Z1 x M1 u H1 s1 r1 h1 => ?_⟩
  refine ⟨Z1, δ, M1, _, s1.rel, E.mono s1.ext, h1, fun Z2 y M2 v H2 s2 r2 h2 => ?_⟩
  have s3 := (s0.more s1).more s2
  split at h2
  · rename_i kk ek
    have hm : MOk X.K Z2 (upd H2 p (.dK [(kk, v)])) p (.dK [(kk, y)]) := ⟨_, upd_same, .cons r2 .nil⟩
    refine ⟨s3.at_, [(kk, v)], by rw [rep_key r1 ek]; rfl, Nat.le_of_ble_eq_true rfl, ?_⟩
    have e : mergeK [] [(kk, v)] = [(kk, v)] := rfl
    rw [e]
    exact k _ _ _ _ _ (s3.show_ hp hm) (.ref p) (h2 p s3.mn)
  · exact h2.elim
/-- a display of one pair, the key a tuple of ints and texts -/
def tDisp1T (tk tv : TE) : TE := fun σ H Q => ∀ p, H p = none → tk σ (upd H p (.dT [])) fun x H1 => tv σ H1 fun y H2 => H2 p = some (.dT []) ∧ ∃ (b : Addr) (ks : List Key), x = .ref b ∧ H2 b = some (.tup (ks.map kV)) ∧ Q (.ref p) (upd H2 p (.dT [(ks, y)]))
theorem pe_disp1T {a b : Expr} {ta tb : TE} {pos : Pos} (hu : X.A.units + 1 < cLine) (ha : PE X a ta) (hb : PE X b tb) : PE X (.Dict [some a] [b] pos) (tDisp1T ta tb) := by
  refine ⟨fun pins s σ H Q I q => ?_⟩
  have hn := I.hok.fresh (Nat.le_refl s.heap.objs.size)
  have I1 := I.laid (a := s.heap.objs.size) (o := .dT []) (h' := s.heap.push { cls := .type "dict", data := .dict #[] }) (t' := s.toks) (fun _ _ q => Heap.get?_push_of_some _ q) (Nat.le_refl _) (dt_empty s.heap I.big)
  have hshape := zip_pairTrees [some a] [b] X.env pos rfl rfl
  have h0 : pairTrees [some a] [b] X.env pos ≠ [] := by simp [pairTrees]
  have hlen : (pairTrees [some a] [b] X.env pos).length ≤ 15 := by simp [pairTrees]
  rw [arm_eval_Dict, hshape, dictDisplay_pairs _ h0 (by omega)]
  refine wpAny_bind (wpAny_standAt (wpAny_bind (wpAny_subDictH (knd := tupleKind (mixKind X.prog X.w)) (Q := fun d s' => wpAny (model X.prog X.w) X.A (pure (Value.ref d)) (EP X pins σ Q) X.xe s') (show X.A.units < cLine by omega) hlen ?_)))
  refine pairTrees_cons_walk (thn (ha.run pins _ σ _ _ I1 (q _ hn)) fun u s1 ⟨x, H1, I2, rx, q1⟩ => thn (hb.run pins s1 σ H1 _ I2 q1) fun w2 s2 ⟨y, H2, I3, ry, e0, bb, ks, ex, eb, q2⟩ => pairTrees_nil_walk ?_)
  subst ex
  cases rx
  obtain ⟨z, hd, xs, rel, dd⟩ := dt_of I3.hok e0
  cases rel
  refine ⟨[(ks, bb, w2)], ⟨rfl, rfl, key_of I3.hok eb, True.intro⟩, dd, fun h' tk dd' hs => wpAny_pure ?_⟩
  have r1 : KT H2 [(ks, y)] [(ks, bb, w2)] := .cons ⟨rfl, eb, ry⟩ .nil
  obtain ⟨o, es, ep, hq, h2, h3, h4, h5, h6⟩ := dd'
  refine ⟨.ref s.heap.objs.size, _, d_write I3 (by rw [e0]; exact True.intro) hs ⟨o, hq⟩ (show ObjOk X.prog X.w (upd H2 s.heap.objs.size (.dT [(ks, y)])) h' s.heap.objs.size (.dT [(ks, y)]) from ⟨Nat.le_of_ble_eq_true rfl, hd, _, r1.keeps fun c ys ec => ?_, o, es, ep, hq, h2, h3, h4, h6⟩), rfl, q2⟩
  rw [upd_ne (ne_of ec e0 (fun z => nomatch z))]
  exact ec
theorem qe_disp1T {a b : Expr} {ta tb : TED} {pos : Pos} (hu : X.A.units + 1 < cLine) (ha : QE X a ta) (hb : QE X b tb) : QE X (.Dict [some a] [b] pos) (dDisp1T ta tb) := by
  refine pe_mono (pe_disp1T hu ha hb) fun σ H Q ⟨Z, δ, M, Qd, R, E, h, k⟩ => ?_
  intro p hp
  have s0 := HidSt.new R hp (.dT []) (fun vs q => nomatch q)
  refine ⟨Z, δ, M, _, s0.st.rel, E, h, fun Z1 x M1 u H1 s1 r1 h1 => ?_⟩
  refine ⟨Z1, δ, M1, _, s1.rel, E.mono s1.ext, h1, fun Z2 y M2 v H2 s2 r2 h2 => ?_⟩
  have s3 := (s0.more s1).more s2
  split at h2
  · rename_i ks ek
    obtain ⟨es, e1, e2⟩ := Option.bind_eq_some_iff.mp ek
    obtain ⟨bb, us, ev, zb, _, r3⟩ := tupk_sq s2.rel (r1.mono s2.ext) e1
    subst ev
    have hm : MOk X.K Z2 (upd H2 p (.dT [(ks, v)])) p (.dT [(ks, y)]) := ⟨_, upd_same, .cons r2 .nil⟩
    exact ⟨s3.at_, bb, ks, rfl, tup_key s2.rel zb r3 e2, k _ _ _ _ _ (s3.show_ hp hm) (.ref p) (h2 p s3.mn)⟩
  · exact h2.elim
end
end DL
end
section
set_option Elab.async false
set_option linter.all false
set_option maxRecDepth 100000
set_option maxHeartbeats 4000000
namespace DL
open PySem PySem.Spec PyProof.Rows L2
/-- merging, any kind of key -/
def mrg {κ : Type} [DecidableEq κ] (more : List (κ × V)) (kvs : List (κ × V)) : List (κ × V) := more.foldl (fun acc kv => putK acc kv.1 kv.2) kvs
def mrgD {κ : Type} [DecidableEq κ] (more : List (κ × D)) (kvs : List (κ × D)) : List (κ × D) := more.foldl (fun acc kv => putA acc kv.1 kv.2) kvs
theorem mrg_eqK (more kvs : List (Key × V)) : mergeK kvs more = mrg more kvs := rfl
theorem repP_mrg {K : PySem.W.Frag} {Z : Im} {κ : Type} [DecidableEq κ] : ∀ {more : List (κ × D)} {vs : List (κ × V)} {kvs : List (κ × D)} {us : List (κ × V)}, RepP K Z κ more vs → RepP K Z κ kvs us → RepP K Z κ (mrgD more kvs) (mrg vs us)
  | _, _, _, _, .nil, r => r
  | (_, d) :: more, (_, v) :: vs, kvs, us, .cons (k := k) r0 rr, r => by
    show RepP K Z κ (mrgD more (putA kvs k d)) (mrg vs (putK us k v))
    exact repP_mrg rr (repP_put k r0 r)
theorem mrg_len {κ : Type} [DecidableEq κ] : ∀ (more kvs : List (κ × V)), (mrg more kvs).length ≤ kvs.length + more.length
  | [], kvs => Nat.le_refl _
  | p :: r, kvs => by
    have h1 := mrg_len r (putK kvs p.1 p.2)
    have h2 := length_putK kvs p.1 p.2
    show (mrg r (putK kvs p.1 p.2)).length ≤ _
    rw [List.length_cons]; omega
section
variable {X : Cx}
/-- dict(xs), xs a list of pairs whose keys are tuples of ints and texts -/
def rDictT (K : PySem.W.Frag) : List V → Hp → VK → Prop := fun xs H Q => ∃ (a : Addr) (ps : List Addr) (qs : List (List Key × Addr × V)), xs = [.ref a] ∧ SqL K H a (ps.map V.ref) ∧
  Paired (fun (p : Addr) (q : List Key × Addr × V) => SqT K H p [.ref q.2.1, q.2.2] ∧ H q.2.1 = some (.tup (q.1.map kV))) ps qs ∧ ∀ p, H p = none → Q (.ref p) (upd H p (.dT (mrg (qs.map fun q => (q.1, q.2.2)) [])))
theorem trips_of {pins : List (Addr × Obj)} {σ : L2.St} {H : Hp} {s : Shared} (I : Inv X pins σ H s) : ∀ {ps : List Addr} {qs : List (List Key × Addr × V)}, Paired (fun (p : Addr) (q : List Key × Addr × V) => SqT X.K H p [.ref q.2.1, q.2.2] ∧ H q.2.1 = some (.tup (q.1.map kV))) ps qs →
    ∃ ts : List (List Key × Addr × Value), ts.length = ps.length ∧ KT H (qs.map fun q => (q.1, q.2.2)) ts ∧ (∀ x ∈ ts, (tupleKind (mixKind X.prog X.w)).is s.heap x.1 x.2.1) ∧
      ∀ (j : Nat) (t : List Key × Addr × Value), ts[j]? = some t → ∃ b, ps[j]? = some b ∧ s.heap.IsTuple b #[.ref t.2.1, t.2.2]
  | _, _, .nil => ⟨[], rfl, .nil, (fun _ h => nomatch h), fun j t e => by simp at e⟩
  | _, _, .cons (a := p) (b := q) h t => by
    obtain ⟨ts, hl, rel, hk, hp⟩ := trips_of I t
    obtain ⟨its, rv, ht, _⟩ := I.tuple h.1
    obtain ⟨u, y, ei, ru, ry⟩ := vals2 rv
    subst ei
    cases (show u = Value.ref q.2.1 from ru)
    refine ⟨(q.1, q.2.1, y) :: ts, by rw [List.length_cons, List.length_cons, hl], .cons ⟨rfl, h.2, ry⟩ rel, fun x hx => ?_, fun j t e => ?_⟩
    · rcases List.mem_cons.mp hx with e | hx
      · subst e; exact key_of I.hok h.2
      · exact hk x hx
    · cases j with
      | zero =>
        have e' := Option.some.inj e
        subst e'
        exact ⟨p, rfl, ht⟩
      | succ j =>
        obtain ⟨b, e1, e2⟩ := hp j t (by simpa using e)
        exact ⟨b, by simpa using e1, e2⟩
theorem KT.mrg {H : Hp} : ∀ {more : List (List Key × V)} {ts : List (List Key × Addr × Value)} {kvs : List (List Key × V)} {us : List (List Key × Addr × Value)}, KT H more ts → KT H kvs us → KT H (mrg more kvs) (storedAllH us ts) := by
  intro more ts kvs us r
  induction r generalizing kvs us with
  | nil => intro q; exact q
  | @cons p q ps qs h t ih =>
    intro r0
    obtain ⟨h1, h2, h3⟩ := h
    have e := L2.KT.put r0 p.1 h2 h3
    rw [show storedH us p.1 q.2.1 q.2.2 = storedH us q.1 q.2.1 q.2.2 by rw [h1]] at e
    exact ih e
theorem call_dictT (hcalm : X.calm = true) (hu : X.A.units + 2 < cLine) : CallR X (.type "dict") (rDictT X.K) := by
  intro pins s σ H xs us Q I r q
  obtain ⟨a, ps, qs, ex, hq, hp, q⟩ := q
  subst ex
  obtain ⟨u, eu, rx⟩ := vals1 r
  subst eu
  cases rx
  obtain ⟨its, rv, pl, hz⟩ := I.list hq
  have ei := refs_at rv
  subst ei
  rw [List.length_map] at hz
  obtain ⟨ts, hl, rel, hk, hp⟩ := trips_of I hp
  obtain ⟨o, n, ho, hc, hd, hdat⟩ := pl
  have P := PairArg.list (prog := X.prog) (w := X.w) a (ps.map Value.ref).toArray (fun j => ps.getD j 0) (ts.map fun t => (Value.ref t.2.1, t.2.2))
  have hn : (ts.map fun t => (Value.ref t.2.1, t.2.2)).length = ts.length := by rw [List.length_map]
  refine PySem.call_dict_pairsH (knd := tupleKind (mixKind X.prog X.w)) (ps := ts) P (I.ok.hd hcalm) (show X.A.in1.in1.units < cLine from hu) ⟨⟨o, n, ho, hc, hd, hdat⟩, ?_, fun j k v e => ?_⟩ ⟨hn.symm, fun j key v e => ?_⟩ (fun h' hk' x hx => ?_) (by rw [hn, hl]; exact hz) fun h' tk dd' k => ?_
  · rw [hn, hl]; simp
  · rw [List.getElem?_map] at e
    obtain ⟨t, e1, e2⟩ := Option.map_eq_some_iff.mp e
    obtain ⟨b, e3, e4⟩ := hp j t e1
    cases e2
    have e5 : ps.getD j 0 = b := by simp [List.getD, e3]
    dsimp only
    rw [e5]
    exact ⟨by simp [e3], .inl e4⟩
  · rw [show PairRel _ j key v = ((ts.map fun t => (Value.ref t.2.1, t.2.2))[j]? = some (key, v)) from rfl, List.getElem?_map] at e
    obtain ⟨t, e1, e2⟩ := Option.map_eq_some_iff.mp e
    cases e2
    exact ⟨t.1, t.2.1, e1, rfl⟩
  · obtain ⟨o', its', n', h1, h2, h3, h4⟩ := hk x hx
    exact ⟨o', its', n', hk' _ _ (Nat.ne_of_lt (Heap.lt_size h1)) (by simp) h1, h2, h3, h4⟩
  · have hm : (s.heap.objs.size == sysModules) = false := beq_eq_false_iff_ne.mpr (Nat.ne_of_gt I.big)
    have k' : ∀ b o, s.heap.get? b = some o → h'.get? b = some o := fun b o e => k b o (by simp) e
    obtain ⟨o, es, ep, hq', h2, h3, h4, h5, h6⟩ := dd'
    have hfr := I.hok.fresh (Nat.le_refl s.heap.objs.size)
    have rel2 := KT.mrg rel (show KT H [] [] from .nil)
    have hlen : (mrg (qs.map fun q => (q.1, q.2.2)) []).length ≤ sizeLine := by
      refine Nat.le_trans (mrg_len _ []) ?_
      rw [Paired.length rel, hl, List.length_nil, Nat.zero_add]
      exact hz
    refine ⟨.ref s.heap.objs.size, upd H s.heap.objs.size (.dT (mrg (qs.map fun q => (q.1, q.2.2)) [])), I.laid (t' := tk) k' (Nat.le_refl _) (show ObjOk X.prog X.w _ _ _ (.dT _) from ⟨hlen, hm, _, L2.KT.keeps rel2 fun c ys ec => ?_, o, es, ep, hq', h2, h3, h4, h6⟩), rfl, q _ hfr⟩
    rw [upd_ne (ne_of_none ec hfr)]
    exact ec
end
end DL
end
section
set_option Elab.async false
set_option linter.all false
set_option maxRecDepth 100000
set_option maxHeartbeats 4000000
namespace DL
open PySem PySem.Spec PyProof.Rows L2
/-! ### dict(xs) over data -/
def prT : D → Option (List Key × D)
  | .tup [k, v] => ((tupK k).bind keysD).map fun ks => (ks, v)
  | _ => none
def prK : D → Option (Key × D)
  | .tup [k, v] => (keyD k).map fun ks => (ks, v)
  | _ => none
def prs {α : Type} (f : D → Option α) : List D → Option (List α)
  | [] => some []
  | d :: ds => match f d, prs f ds with
    | some x, some xs => some (x :: xs)
    | _, _ => none
theorem prs_map {α β : Type} {f : D → Option α} {g : β → D} {k : β → α} (h : ∀ b, f (g b) = some (k b)) : ∀ bs : List β, prs f (bs.map g) = some (bs.map k)
  | [] => rfl
  | b :: bs => by
    show (match f (g b), prs f (bs.map g) with | some x, some xs => some (x :: xs) | _, _ => none) = _
    rw [h b, prs_map h bs]; rfl
def gDictT (M : Mem) (x : D) (Q : KD) : Prop := match (lstD M x).bind (prs prT) with
  | some kvs => Q (.dT (mrgD kvs [])) M
  | none => False
def gDictK (M : Mem) (x : D) (Q : KD) : Prop := match (lstD M x).bind (prs prK) with
  | some kvs => Q (.dK (mrgD kvs [])) M
  | none => False
theorem prT_rep {K : PySem.W.Frag} {Z : Im} {M : Mem} {H : Hp} (R : Rel K Z M H) {d : D} {v : V} {kv : List Key × D} (r : Rep K Z d v) (h : prT d = some kv) : ∃ p b w, v = .ref p ∧ SqT K H p [.ref b, w] ∧ H b = some (.tup (kv.1.map kV)) ∧ Rep K Z kv.2 w := by
  unfold prT at h
  split at h
  · rename_i k w
    obtain ⟨ks, e1, e2⟩ := Option.map_eq_some_iff.mp h
    obtain ⟨ds, e3, e4⟩ := Option.bind_eq_some_iff.mp e1
    subst e2
    cases r with
    | tup a vs _ im rr =>
      cases rr with
      | cons r1 rr =>
        cases rr with
        | cons r2 rr =>
          cases rr
          obtain ⟨b, us, ev, zb, _, r3⟩ := tupk_sq R r1 e3
          subst ev
          exact ⟨a, b, _, rfl, im.sq R, tup_key R zb r3 e4, r2⟩
  · cases h
theorem prT_reps {K : PySem.W.Frag} {Z : Im} {M : Mem} {H : Hp} (R : Rel K Z M H) : ∀ {ds : List D} {vs : List V} {kvs : List (List Key × D)}, Reps K Z ds vs → prs prT ds = some kvs →
    ∃ (ps : List Addr) (qs : List (List Key × Addr × V)), vs = ps.map V.ref ∧ Paired (fun (p : Addr) (q : List Key × Addr × V) => SqT K H p [.ref q.2.1, q.2.2] ∧ H q.2.1 = some (.tup (q.1.map kV))) ps qs ∧ RepP K Z (List Key) kvs (qs.map fun q => (q.1, q.2.2))
  | _, _, kvs, .nil, h => by cases h; exact ⟨[], [], rfl, .nil, .nil⟩
  | d :: ds, v :: vs, kvs, .cons r rr, h => by
    unfold prs at h
    split at h
    · rename_i x xs e1 e2
      cases h
      obtain ⟨p, b, w, ev, h1, h2, h3⟩ := prT_rep R r e1
      obtain ⟨ps, qs, e3, h4, h5⟩ := prT_reps R rr e2
      exact ⟨p :: ps, (x.1, b, w) :: qs, by rw [ev, e3]; rfl, .cons ⟨h1, h2⟩ h4, .cons h3 h5⟩
    · cases h
theorem prK_rep {K : PySem.W.Frag} {Z : Im} {M : Mem} {H : Hp} (R : Rel K Z M H) {d : D} {v : V} {kv : Key × D} (r : Rep K Z d v) (h : prK d = some kv) : ∃ p w, v = .ref p ∧ SqT K H p [kV kv.1, w] ∧ Rep K Z kv.2 w := by
  unfold prK at h
  split at h
  · rename_i k w
    obtain ⟨ks, e1, e2⟩ := Option.map_eq_some_iff.mp h
    subst e2
    cases r with
    | tup a vs _ im rr =>
      cases rr with
      | cons r1 rr =>
        cases rr with
        | cons r2 rr =>
          cases rr
          refine ⟨a, _, rfl, ?_, r2⟩
          have := im.sq R
          rw [rep_key r1 e1] at this
          exact this
  · cases h
theorem prK_reps {K : PySem.W.Frag} {Z : Im} {M : Mem} {H : Hp} (R : Rel K Z M H) : ∀ {ds : List D} {vs : List V} {kvs : List (Key × D)}, Reps K Z ds vs → prs prK ds = some kvs →
    ∃ (ps : List Addr) (qs : List (Key × V)), vs = ps.map V.ref ∧ Paired (fun (p : Addr) (q : Key × V) => SqT K H p [kV q.1, q.2]) ps qs ∧ RepP K Z Key kvs qs
  | _, _, kvs, .nil, h => by cases h; exact ⟨[], [], rfl, .nil, .nil⟩
  | d :: ds, v :: vs, kvs, .cons r rr, h => by
    unfold prs at h
    split at h
    · rename_i x xs e1 e2
      cases h
      obtain ⟨p, w, ev, h1, h3⟩ := prK_rep R r e1
      obtain ⟨ps, qs, e3, h4, h5⟩ := prK_reps R rr e2
      exact ⟨p :: ps, (x.1, w) :: qs, by rw [ev, e3]; rfl, .cons h1 h4, .cons h3 h5⟩
    · cases h
section
variable {X : Cx}
theorem cd_dictT : CallD X.K (rDictT X.K) (f1 gDictT) := call1 fun Z M H x u Qd Q R r h k => by
  unfold gDictT at h
  split at h
  · rename_i kvs e
    obtain ⟨ds, e1, e2⟩ := Option.bind_eq_some_iff.mp e
    obtain ⟨a, vs, eu, hs, rr⟩ := lst_sq R r e1
    subst eu
    obtain ⟨ps, qs, ev, h1, h2⟩ := prT_reps R rr e2
    subst ev
    refine ⟨a, ps, qs, rfl, hs, h1, fun p hp => ?_⟩
    have sn := Stp.newI R hp (.dT (mrg (qs.map fun q => (q.1, q.2.2)) []))
    exact k _ _ _ _ _ sn (.dT p _ _ zupd_same ((repP_mrg h2 .nil).mono sn.ext)) h
  · exact h.elim
abbrev rDictK (K : PySem.W.Frag) : List V → Hp → VK → Prop := fun xs H Q => ∃ (a : Addr) (ps : List Addr) (kvs : List (Key × V)), xs = [.ref a] ∧ SqL K H a (ps.map V.ref) ∧ Paired (fun p kv => SqT K H p [kV kv.1, kv.2]) ps kvs ∧
    ∀ p, H p = none → Q (.ref p) (upd H p (.dK (mergeK [] kvs)))
theorem cd_dictK : CallD X.K (rDictK X.K) (f1 gDictK) := call1 fun Z M H x u Qd Q R r h k => by
  unfold gDictK at h
  split at h
  · rename_i kvs e
    obtain ⟨ds, e1, e2⟩ := Option.bind_eq_some_iff.mp e
    obtain ⟨a, vs, eu, hs, rr⟩ := lst_sq R r e1
    subst eu
    obtain ⟨ps, qs, ev, h1, h2⟩ := prK_reps R rr e2
    subst ev
    refine ⟨a, ps, qs, rfl, hs, h1, fun p hp => ?_⟩
    have sn := Stp.newI R hp (.dK (mrg qs []))
    exact k _ _ _ _ _ sn (.dK p _ _ zupd_same ((repP_mrg h2 .nil).mono sn.ext)) h
  · exact h.elim
end

/-! ### the keys of a dict, whatever they are, as a list -/
theorem kdl_raw {prog : Program} {w : World} {d : Addr} {es : Array DictEntry} {ep : Nat} (lo : (d == sysModules) = false) : PySem.W.KdlSrc prog w "dict" d d es.size (fun i v => ∃ hi : i < es.size, v = es[i].key) (fun h => h.DictRaw d es ep) where
  type := fun _ hm => hm.typeIs
  there := fun _ hm => let ⟨o, ho, _⟩ := hm; ⟨Heap.lt_size ho, Heap.lt_size ho⟩
  keep := fun _ _ hm hk => hm.at fun o e => hk d (.inl rfl) o e
  notList := by decide
  notTuple := by decide
  hint := fun _ _ _ _ hm hq => PySem.W.kdl_hint_dict hm.typeIs hq
  iter := fun _ s hh hm => ⟨_, _, (fun _ _ hq => wpAny_pyIter_dict_raw lo hm hq), Walks.rawKeys hh _ d (let ⟨o, ho, _⟩ := hm; Nat.ne_of_lt (Heap.lt_size ho)) es ep, ⟨⟨_, Heap.get?_push_size _ rfl, rfl, rfl⟩, hm.at fun o e => Heap.get?_push_of_some _ e⟩⟩

theorem paired_get {α β : Type} {F : α → β → Prop} : ∀ {l₁ : List α} {l₂ : List β}, Paired F l₁ l₂ → ∀ {i : Nat} {a : α}, l₁[i]? = some a → ∃ b, l₂[i]? = some b ∧ F a b
  | _, _, .nil, _, _, e => by simp at e
  | _, _, .cons h t, 0, _, e => by simp at e; subst e; exact ⟨_, rfl, h⟩
  | _, _, .cons h t, i + 1, a, e => by
    obtain ⟨b, h1, h2⟩ := paired_get t (i := i) (a := a) (by simpa using e)
    exact ⟨b, by simpa using h1, h2⟩
/-! ### sorted(d), the keys tuples of ints -/
def rSortDT : List V → Hp → VK → Prop := fun xs H Q => ∃ (a : Addr) (kvs : List (List Key × V)) (nss : List (List Int)) (d : Nat) (B : Int), xs = [.ref a] ∧ Rd H a (.dT kvs) ∧ kvs.map (·.1) = nss.map (fun ns => ns.map Sum.inl) ∧ nss.length < 64 ∧ 1 ≤ d ∧ (∀ ns ∈ nss, ns.length = d ∧ TS.Bd B ns) ∧
  ∀ (bs : List Addr) (ns' : List (List Int)) (p : Addr), ns'.Perm nss → ns'.Pairwise (fun x y => TS.code B x ≤ TS.code B y) → Paired (fun b ns => H b = some (.tup (ns.map V.int))) bs ns' → H p = none → Q (.ref p) (upd H p (.lst (bs.map V.ref)))
theorem kt_at {H : Hp} : ∀ {kvs : List (List Key × V)} {xs : List (List Key × Addr × Value)} {nss : List (List Int)}, KT H kvs xs → kvs.map (·.1) = nss.map (fun ns => ns.map Sum.inl) → Paired (fun (x : List Key × Addr × Value) ns => H x.2.1 = some (.tup (ns.map V.int))) xs nss
  | _, _, [], .nil, _ => .nil
  | _, _, _ :: _, .nil, e => by cases e
  | _, _, [], .cons h t, e => by cases e
  | p :: ps, q :: qs, ns :: nss, .cons h t, e => by
    rw [List.map_cons, List.map_cons] at e
    injection e with e1 e2
    refine .cons ?_ (kt_at t e2)
    rw [h.2.1, e1, List.map_map]
    rfl
theorem tup_ints {X : Cx} {pins : List (Addr × Obj)} {σ : L2.St} {H : Hp} {s : Shared} (I : Inv X pins σ H s) {b : Addr} {ns : List Int} (e : H b = some (.tup (ns.map V.int))) : TS.TupInts s.heap (.ref b) ns := by
  obtain ⟨_, its, rv, ht⟩ := (show ObjOk X.prog X.w H s.heap b (.tup (ns.map V.int)) from I.hok b _ e)
  exact ⟨b, its.toArray, rfl, ht, by simpa using rv.ints⟩
/-- the values of addresses -/
def refsOf : List Value → List Addr
  | [] => []
  | .ref b :: vs => b :: refsOf vs
  | _ :: vs => 0 :: refsOf vs
theorem refsOf_eq : ∀ {vs : List Value}, (∀ v ∈ vs, ∃ b, v = .ref b) → vs = (refsOf vs).map Value.ref
  | [], _ => rfl
  | v :: vs, h => by
    obtain ⟨b, e⟩ := h v List.mem_cons_self
    subst e
    show Value.ref b :: vs = Value.ref b :: (refsOf vs).map Value.ref
    rw [← refsOf_eq fun v hv => h v (List.mem_cons_of_mem _ hv)]
theorem vals_refs : ∀ bs : List Addr, Vals (bs.map V.ref) (bs.map Value.ref)
  | [] => .nil
  | b :: bs => .cons rfl (vals_refs bs)
section
variable {X : Cx}
theorem call_sortedDT (hcalm : X.calm = true) : CallR X (.builtin "sorted") rSortDT := by
  intro pins s σ H xs us Q I r q
  obtain ⟨a, kvs, nss, d, B, ex, hd, hks, h64, hd1, hns, q⟩ := q
  subst ex
  obtain ⟨u, eu, rx⟩ := vals1 r
  subst eu
  cases rx
  obtain ⟨z, lo, ts, rel, dd⟩ := dt_rd I.hok hd
  obtain ⟨es, ep, hraw, hsz, hent⟩ := dd.raw
  have hat := kt_at rel hks
  have hl : es.size = nss.length := by rw [hsz]; exact Paired.length hat
  refine Calls.call_function_entry PyProof.Rows.kind_sorted PyProof.Rows.plain_sorted PyProof.Rows.entry_sorted (PyProof.Rows.args_sorted1 _) ?_
  unfold Builtin.«sorted»
  refine wpAny_bind (m := checkCount "sorted" 1 1 _) (wpAny_pure ?_)
  refine wpAny_bind (PySem.W.kdu_collect (A := X.A.in1) (kdl_raw (es := es) (ep := ep) lo) (I.ok.hd hcalm) hraw (by rw [hl, sizeLine_eq]; omega) fun h' tk acc hk hacc => ?_)
  have I1 : Inv X pins σ H { s with heap := h', toks := tk } := I.kept hk
  have hal : acc.toList.length = nss.length := by rw [Array.length_toList, hacc.1, hl]
  have hitem : ∀ (j : Nat) (v : Value), acc.toList[j]? = some v → ∃ b ns, v = .ref b ∧ nss[j]? = some ns ∧ H b = some (.tup (ns.map V.int)) := fun j v e => by
    obtain ⟨hi, ev⟩ := hacc.2 j v (by rw [← Array.getElem?_toList]; exact e)
    obtain ⟨y, e1, e2, _⟩ := hent j hi
    obtain ⟨ns, e3, e4⟩ := paired_get hat e1
    exact ⟨y.2.1, ns, by rw [ev, e2], e3, e4⟩
  refine wpAny_bind (wpAny_newList ?_ (by rw [hal, sizeLine_eq]; omega))
  have hoL : (h'.push (seqObj "list" acc.toList.toArray 0)).get? h'.objs.size = some (seqObj "list" acc.toList.toArray 0) := Heap.get?_push_size _ rfl
  show wpAny _ _ _ _ _ { s with heap := h'.push (seqObj "list" acc.toList.toArray 0), toks := tk }
  have kp : ∀ b o, h'.get? b = some o → (h'.push (seqObj "list" acc.toList.toArray 0)).get? b = some o := fun b o e => Heap.get?_push_of_some _ e
  have hti : ∀ v ∈ acc.toList, ∃ b ns, v = .ref b ∧ ns ∈ nss ∧ H b = some (.tup (ns.map V.int)) ∧ TS.TupInts (h'.push (seqObj "list" acc.toList.toArray 0)) v ns := fun v hv => by
    obtain ⟨j, hj, e⟩ := List.getElem_of_mem hv
    obtain ⟨b, ns, e1, e2, e3⟩ := hitem j v (by rw [List.getElem?_eq_getElem hj, e])
    exact ⟨b, ns, e1, List.mem_of_getElem? e2, e3, by rw [e1]; exact (tup_ints I1 e3).keeps fun c o e _ => kp c o e⟩
  have hto : TS.TupsOk (h'.push (seqObj "list" acc.toList.toArray 0)) d B acc.toList := fun v hv => by
    obtain ⟨b, ns, e1, e2, e3, e4⟩ := hti v hv
    exact ⟨ns, e4, hns ns e2⟩
  refine wpAny_bind (wpAny_holding (wpAny_call_entry PyProof.Rows.slot_list_sort ⟨_, hoL, rfl⟩ PyProof.Rows.entry_list_sort
    (TS.sort_tups (s := { s with heap := h'.push (seqObj "list" acc.toList.toArray 0), toks := tk }) hoL (by rw [hal]; exact h64) hd1 hto (fun v => TS.code B (TS.intsOf (h'.push (seqObj "list" acc.toList.toArray 0)) v)) (fun v _ ns t => by
      show TS.code B (TS.intsOf _ v) = TS.code B ns
      rw [t.ints]) fun out g1 g2 => ⟨_, rfl, ?_⟩) (PyProof.Rows.args_list_sort _)))
  obtain ⟨e', he'⟩ := PyProof.Rows.sortedHeap_at (vs := acc.toList) (out := out) hoL
  have hmap : acc.toList.map (TS.intsOf (h'.push (seqObj "list" acc.toList.toArray 0))) = nss := by
    refine List.ext_getElem? fun j => ?_
    rw [List.getElem?_map]
    cases e : acc.toList[j]? with
    | none =>
      have h1 := List.getElem?_eq_none_iff.mp e
      rw [List.getElem?_eq_none_iff.mpr (by omega)]
      rfl
    | some v =>
      obtain ⟨b, ns, e1, e2, e3⟩ := hitem j v e
      rw [e2]
      show some (TS.intsOf _ v) = some ns
      have t : TS.TupInts (h'.push (seqObj "list" acc.toList.toArray 0)) v ns := by rw [e1]; exact (tup_ints I1 e3).keeps fun c o e _ => kp c o e
      rw [t.ints]
  have hout : ∀ v ∈ out.toList, ∃ b, v = .ref b := fun v hv => by
    obtain ⟨b, _, e, _⟩ := hti v (g1.mem_iff.mp hv)
    exact ⟨b, e⟩
  have eo := refsOf_eq hout
  have hlen : ((refsOf out.toList).map V.ref).length ≤ sizeLine := by
    have : ((refsOf out.toList).map Value.ref).length = acc.toList.length := by rw [← eo]; exact g1.length_eq
    rw [List.length_map] at this
    rw [List.length_map, this, hal, sizeLine_eq]; omega
  refine wpAny_pure ⟨_, rfl, .ref h'.objs.size, upd H h'.objs.size (.lst ((refsOf out.toList).map V.ref)), I1.laid (t' := tk) (fun b u e => ?_) (Nat.le_refl _)
    (show ObjOk X.prog X.w _ _ _ (.lst ((refsOf out.toList).map V.ref)) from ⟨hlen, (refsOf out.toList).map Value.ref, e', vals_refs _, by rw [← eo, Array.toArray_toList]; exact he'⟩), rfl,
    q (refsOf out.toList) (out.toList.map (TS.intsOf (h'.push (seqObj "list" acc.toList.toArray 0)))) _ ?_ ?_ ?_ (I1.hok.fresh (Nat.le_refl _))⟩
  · have hb : b < h'.objs.size := Heap.lt_size e
    rw [PyProof.Rows.sortedHeap_old (Nat.ne_of_lt hb) (by rw [size_push']; exact Nat.lt_succ_of_lt hb)]
    exact Heap.get?_push_of_some _ e
  · rw [← hmap]; exact g1.map _
  · exact List.pairwise_map.mpr g2
  · have pr : ∀ l : List Value, (∀ v ∈ l, v ∈ acc.toList) → Paired (fun b ns => H b = some (.tup (ns.map V.int))) (refsOf l) (l.map (TS.intsOf (h'.push (seqObj "list" acc.toList.toArray 0)))) := by
      intro l
      induction l with
      | nil => intro _; exact .nil
      | cons v l ih =>
        intro hl
        obtain ⟨b, ns, e1, e2, e3, e4⟩ := hti v (hl v List.mem_cons_self)
        have ih' := ih fun v hv => hl v (List.mem_cons_of_mem _ hv)
        have e5 := e4.ints
        subst e1
        show Paired _ (b :: refsOf l) (TS.intsOf _ (.ref b) :: _)
        rw [e5]
        exact .cons e3 ih'
    exact pr _ fun v hv => g1.mem_iff.mp hv
end
end DL
namespace DL
open PySem PySem.Spec PyProof.Rows L2
def tupI (ns : List Int) : D := .tup (ns.map D.int)
def kInts : List Key → Option (List Int)
  | [] => some []
  | .inl i :: ks => (kInts ks).map (i :: ·)
  | _ => none
theorem kInts_eq : ∀ {ks : List Key} {ns : List Int}, kInts ks = some ns → ks = ns.map Sum.inl
  | [], ns, h => by cases h; rfl
  | .inl i :: ks, ns, h => by
    obtain ⟨ms, e1, e2⟩ := Option.map_eq_some_iff.mp (show (kInts ks).map (i :: ·) = some ns from h)
    subst e2
    rw [kInts_eq e1]; rfl
  | .inr _ :: _, _, h => by cases h
theorem kInts_map : ∀ ns : List Int, kInts (ns.map Sum.inl) = some ns
  | [] => rfl
  | n :: ns => by
    show (kInts (ns.map Sum.inl)).map (n :: ·) = some (n :: ns)
    rw [kInts_map ns]; rfl
def optAll {α : Type} : List (Option α) → Option (List α)
  | [] => some []
  | some x :: r => (optAll r).map (x :: ·)
  | none :: _ => none
theorem optAll_map {α β : Type} {f : α → Option β} {g : α → β} : ∀ {l : List α}, (∀ a ∈ l, f a = some (g a)) → optAll (l.map f) = some (l.map g)
  | [], _ => rfl
  | a :: l, h => by
    rw [List.map_cons, h a List.mem_cons_self]
    show (optAll (l.map f)).map (g a :: ·) = _
    rw [optAll_map fun b hb => h b (List.mem_cons_of_mem _ hb)]; rfl
/-- the keys of a dict, all tuples of ints -/
def keyss (kvs : List (List Key × D)) : Option (List (List Int)) := optAll (kvs.map fun kv => kInts kv.1)
theorem keyss_eq : ∀ {kvs : List (List Key × D)} {nss : List (List Int)}, keyss kvs = some nss → kvs.map (·.1) = nss.map (fun ns => ns.map Sum.inl)
  | [], nss, h => by cases h; rfl
  | kv :: kvs, nss, h => by
    unfold keyss at h
    rw [List.map_cons] at h
    cases e : kInts kv.1 with
    | none => rw [e] at h; cases h
    | some ns =>
      rw [e] at h
      obtain ⟨ms, e1, e2⟩ := Option.map_eq_some_iff.mp (show (optAll _).map (ns :: ·) = some nss from h)
      subst e2
      rw [List.map_cons, List.map_cons, keyss_eq (kvs := kvs) e1, kInts_eq e]
/-- in order -/
def SortedT (B : Int) (ns' nss : List (List Int)) : Prop := ns'.Perm nss ∧ ns'.Pairwise (fun x y => TS.code B x ≤ TS.code B y)
def gSortT (M : Mem) (x : D) (Q : KD) : Prop := match (dictT M x).bind keyss with
  | some nss => nss.length < 64 ∧ ∃ (d : Nat) (B : Int), 1 ≤ d ∧ (∀ ns ∈ nss, ns.length = d ∧ TS.Bd B ns) ∧ ∀ ns', SortedT B ns' nss → Q (.lst (ns'.map tupI)) M
  | none => False
theorem repP_keys {K : PySem.W.Frag} {Z : Im} : ∀ {kvs : List (List Key × D)} {vs : List (List Key × V)}, RepP K Z (List Key) kvs vs → vs.map (·.1) = kvs.map (·.1)
  | _, _, .nil => rfl
  | _, _, .cons r rr => by rw [List.map_cons, List.map_cons, repP_keys rr]
theorem reps_tups {K : PySem.W.Frag} {Z : Im} {M : Mem} {H : Hp} (R : Rel K Z M H) : ∀ {bs : List Addr} {nss : List (List Int)}, Paired (fun b ns => H b = some (.tup (ns.map V.int))) bs nss → Reps K (zall Z H) (nss.map tupI) (bs.map V.ref)
  | _, _, .nil => .nil
  | _, _, .cons h t => .cons (.tup _ _ _ (zall_tup R h) (Reps.ofInts _)) (reps_tups R t)
theorem cd_sortT {K : PySem.W.Frag} : CallD K rSortDT (f1 gSortT) := call1 fun Z M H x u Qd Q R r h k => by
  unfold gSortT at h
  split at h
  · rename_i nss e
    obtain ⟨kvs, e1, e2⟩ := Option.bind_eq_some_iff.mp e
    obtain ⟨h64, d, B, hd, hns, h⟩ := h
    obtain ⟨a, vs, eu, ha, rr⟩ := dt_sq R r e1
    subst eu
    refine ⟨a, vs, nss, d, B, rfl, .inl ha, by rw [repP_keys rr, keyss_eq e2], h64, hd, hns, fun bs ns' p hp hs hpr hf => ?_⟩
    have s1 := Stp.tups R
    have sn := Stp.newI s1.rel hf (.lst (bs.map V.ref))
    exact k _ _ _ _ _ (s1.trans sn) (.lst p _ _ zupd_same ((reps_tups R hpr).mono sn.ext)) (h ns' ⟨hp, hs⟩)
  · exact h.elim
end DL
end
section
set_option Elab.async false
set_option linter.all false
set_option maxRecDepth 100000
set_option maxHeartbeats 4000000
namespace DL
open PySem PySem.Spec PyProof.Rows L2
section
variable {X : Cx}
/-! ### sorted(t), sum(t), t a tuple of ints -/
def rSortTI (K : PySem.W.Frag) : List V → Hp → VK → Prop := fun vs H Q => ∃ (a : Addr) (ns : List Int), vs = [V.ref a] ∧ SqT K H a (ns.map V.int) ∧
  ∀ (ns' : List Int) (p : Addr), ns'.Perm ns → ns'.Pairwise (· ≤ ·) → H p = none → Q (.ref p) (upd H p (.lst (ns'.map V.int)))
theorem cr_sortTI : CallR X (.builtin "sorted") (rSortTI X.K) := by
  intro pins s σ H vs us Q I r h
  obtain ⟨a, ns, rfl, hs, q⟩ := h
  obtain ⟨its, rv, ht, hz⟩ := I.tuple hs
  rw [Vals.ref1 r]
  have hi := rv.ints
  have hz' : its.length ≤ sizeLine := by rw [← rv.length]; exact hz
  obtain ⟨o, ho, hc, n, hd⟩ := id ht
  refine Calls.call_function_entry PyProof.Rows.kind_sorted PyProof.Rows.plain_sorted PyProof.Rows.entry_sorted (PyProof.Rows.args_sorted1 _) ?_
  unfold Builtin.«sorted»
  refine wpAny_bind (m := checkCount "sorted" 1 1 _) (wpAny_pure ?_)
  refine wpAny_bind (wpAny_collect_seq a (T := "tuple") (.inr rfl) ho hc hd (fun h' hk => ?_) (by simpa using hz'))
  have I1 : Inv X pins σ H { s with heap := h' } := I.kept (t' := s.toks) hk
  refine wpAny_bind (wpAny_newList ?_ (by simpa using hz'))
  have hoL : (h'.push (seqObj "list" its.toArray 0)).get? h'.objs.size = some (seqObj "list" its.toArray 0) := Heap.get?_push_size _ rfl
  show wpAny _ _ _ _ _ { s with heap := h'.push (seqObj "list" its.toArray.toList.toArray 0) }
  rw [show its.toArray.toList.toArray = its.toArray by simp]
  refine wpAny_bind (wpAny_holding (wpAny_call_entry PyProof.Rows.slot_list_sort ⟨_, hoL, rfl⟩ PyProof.Rows.entry_list_sort
    (SrtO.list_sort_ord (s := { s with heap := h'.push (seqObj "list" its.toArray 0) }) SrtO.swo_int hoL hz' (fun h2 => SrtO.ints_sortable hi h2) fun out h1 h2 => ⟨_, rfl, ?_⟩) (PyProof.Rows.args_list_sort _)))
  obtain ⟨k1, k2, k3⟩ := SrtO.ints_out hi h1 h2
  obtain ⟨ep, he'⟩ := PyProof.Rows.sortedHeap_at (vs := its) (out := out.toArray) hoL
  have hlen : ((out.map SrtO.iv).map V.int).length ≤ sizeLine := by
    rw [List.length_map, k2.length_eq]
    rw [List.length_map] at hz
    exact hz
  refine wpAny_pure ⟨_, rfl, .ref h'.objs.size, upd H h'.objs.size (.lst ((out.map SrtO.iv).map V.int)), I1.laid (t' := s.toks) (fun b u e => ?_) (Nat.le_refl _)
    (show ObjOk X.prog X.w _ _ _ (.lst ((out.map SrtO.iv).map V.int)) from ⟨hlen, out, ep, vals_of_ints k1, he'⟩), rfl, q _ _ k2 k3 (I1.hok.fresh (Nat.le_refl _))⟩
  have hb : b < h'.objs.size := Heap.lt_size e
  rw [PyProof.Rows.sortedHeap_old (Nat.ne_of_lt hb) (by rw [size_push']; exact Nat.lt_succ_of_lt hb)]
  exact Heap.get?_push_of_some _ e
def gSortTI (M : Mem) (x : D) (Q : KD) : Prop := match (tupOf x).bind intsD with
  | some ns => ∀ ns', isSorted ns' ns → Q (.lst (ns'.map D.int)) M
  | none => False
theorem cd_sortTI : CallD X.K (rSortTI X.K) (f1 gSortTI) := call1 fun Z M H x u Qd Q R r h k => by
  unfold gSortTI at h
  split at h
  · rename_i ns e
    obtain ⟨ds, e1, e2⟩ := Option.bind_eq_some_iff.mp e
    obtain ⟨a, vs, eu, _, hs, rr⟩ := tup_sq R r e1
    subst eu
    refine ⟨a, ns, rfl, by rw [← ints_of rr e2]; exact hs, fun ns' p h1 h2 hp => ?_⟩
    have sn := Stp.newI R hp (.lst (ns'.map V.int))
    exact k _ _ _ _ _ sn (.lst p _ _ zupd_same (Reps.ofInts ns')) (h ns' ⟨h1, h2⟩)
  · exact h.elim
def rSumT (K : PySem.W.Frag) : List V → Hp → VK → Prop := fun vs H Q => ∃ (a : Addr) (ns : List Int), vs = [V.ref a] ∧ SqT K H a (ns.map V.int) ∧ Q (.int ns.sum) H
theorem cr_sumT (hc : X.calm = true) : CallR X (.builtin "sum") (rSumT X.K) := by
  intro pins s σ H vs us Q I r h
  obtain ⟨a, ns, rfl, hs, q⟩ := h
  obtain ⟨its, rv, ht, hz⟩ := I.tuple hs
  rw [Vals.ref1 r]
  have hi := rv.ints
  obtain ⟨xs, e⟩ := hi.allInts.items
  have hn : numsOf (intItems xs).toList = ns := by rw [← e]; exact hi.numsOf
  rw [nums_intItems] at hn
  have ht' : s.heap.IsTuple a (intItems xs) := by rw [← e]; exact ht
  have hh : X.A.in1.handled = none := I.ok.hd hc
  obtain ⟨o, ho, _⟩ := id ht
  have hal : a < s.heap.objs.size := Heap.lt_size ho
  refine PySem.call_sum_walkG (wpAny_pyIter_tuple ht' ?_)
  refine ⟨_, _, _, _, _, _, numAt xs, rfl, Walks.tuple (A := X.A.in1) hh s.heap.objs.size a (Nat.ne_of_lt hal) (intItems xs), ⟨⟨_, Heap.get?_push_size _ rfl, rfl, rfl⟩, ht'.at fun o e => Heap.get?_push_of_some _ e⟩, fun b hb => ?_, (fun _ _ => intItems_at), fun h' tk t' hk => ?_⟩
  · have e' : b = s.heap.objs.size ∨ b = a := by simpa using hb
    show b < (s.heap.push _).objs.size
    rw [Heap.size_push]
    rcases e' with e' | e'
    · rw [e']; exact Nat.lt_succ_self _
    · rw [e']; exact Nat.lt_succ_of_lt hal
  · have hk' : ∀ b o, s.heap.get? b = some o → h'.get? b = some o := fun b o e => hk b o (fun z => absurd (Heap.lt_size e) (by rw [List.mem_singleton.mp z]; exact Nat.lt_irrefl _)) (Heap.get?_push_of_some _ e)
    refine ⟨.int ns.sum, H, I.kept (t' := tk) hk', ⟨t', ?_⟩, q⟩
    rw [preSum_eq, List.take_of_length_le (by simp [intItems]), hn]
def gSumT (M : Mem) (x : D) (Q : KD) : Prop := match (tupOf x).bind intsD with
  | some ns => Q (.int ns.sum) M
  | none => False
theorem cd_sumT : CallD X.K (rSumT X.K) (f1 gSumT) := call1 fun Z M H x u Qd Q R r h k => by
  unfold gSumT at h
  split at h
  · rename_i ns e
    obtain ⟨ds, e1, e2⟩ := Option.bind_eq_some_iff.mp e
    obtain ⟨a, vs, eu, _, hs, rr⟩ := tup_sq R r e1
    subst eu
    exact ⟨a, ns, rfl, by rw [← ints_of rr e2]; exact hs, k _ _ _ _ _ (.refl R) (.int _) h⟩
  · exact h.elim

/-! ### d.update(e), the keys ints and texts -/
def rUpdate : V → List V → Hp → VK → Prop := fun x xs H Q => ∃ a b kvs ls, x = .ref a ∧ xs = [.ref b] ∧ a ≠ b ∧ H a = some (.dK kvs) ∧ H b = some (.dK ls) ∧ kvs.length + ls.length ≤ sizeLine ∧ Q .non (upd H a (.dK (mrg ls kvs)))
theorem mt_update : MtR X "dict.update" rUpdate := by
  intro pins s σ H x xs v us Q I rx rs h
  obtain ⟨a, b, kvs, ls, rfl, rfl, hab, ha, hb, hz, q⟩ := h
  cases rx
  obtain ⟨u, rfl, ru⟩ := vals1 rs
  cases (show u = Value.ref b from ru)
  obtain ⟨z1, d1, vs, r1, dd1⟩ := dk_of I.hok ha
  obtain ⟨z2, d2, ws, r2, dd2⟩ := dk_of I.hok hb
  refine call_meetsIn PySem.F.slot_dict_update dd1.typeIs PySem.F.entry_dict_update (PySem.F.args_dict_update_2 _ _) (meets_dict_update (mixKind X.prog X.w) a b hab d2) ⟨vs, ws, dd1, dd2, by rw [← r1.length, ← r2.length]; exact hz, fun h' dd' _ hs => ?_⟩
  have he : ∃ q, h'.get? a = some q := let ⟨q, _, _, hq, _⟩ := dd'; ⟨q, hq⟩
  have hl : (mergeK kvs ls).length ≤ kvs.length + ls.length := mrg_len ls kvs
  exact ⟨.non, _, d_write (t' := s.toks) I (by rw [ha]; exact True.intro) hs he (dk_new (by omega) d1 (KV.merge r2 r1) dd'), rfl, q⟩
def dkMut (M : Mem) : D → Option (Addr × List (Key × D))
  | .ref a => (dkM (M a)).map fun ds => (a, ds)
  | _ => none
def mUpdate : FMt := fun M x xs Q => match xs with
  | [y] => (match dkMut M x, dkMut M y with
    | some (a, kvs), some (b, ls) => a ≠ b ∧ kvs.length + ls.length ≤ sizeLine ∧ Q .non (mupd M a (.dK (mrgD ls kvs)))
    | _, _ => False)
  | _ => False
theorem dkMut_sq {K : PySem.W.Frag} {Z : Im} {M : Mem} {H : Hp} (R : Rel K Z M H) {d : D} {v : V} {a : Addr} {ds : List (Key × D)} (r : Rep K Z d v) (h : dkMut M d = some (a, ds)) : v = .ref a ∧ M a = some (.dK ds) ∧ ∃ vs, H a = some (.dK vs) ∧ RepP K Z Key ds vs := by
  cases r with
  | ref b =>
    unfold dkMut dkM at h
    dsimp only at h
    split at h
    · rename_i e
      cases h
      obtain ⟨vs, q, rr⟩ := R.dK e
      exact ⟨rfl, e, vs, q, rr⟩
    · cases h
  | _ => cases h
theorem md_update : MtD X.K rUpdate mUpdate := fun Z M H x u xs us Qd Q R r rr h k => by
  unfold mUpdate at h
  split at h
  · cases rr with
    | cons r1 rr =>
      cases rr
      split at h
      · rename_i a kvs b ls e1 e2
        obtain ⟨eu, hM, vs, ha, rv⟩ := dkMut_sq R r e1
        obtain ⟨ew, hM2, ws, hb, rw'⟩ := dkMut_sq R r1 e2
        subst eu ew
        have sp := Stp.put R hM (o := .dK (mrgD ls kvs)) (u := .dK (mrg ws vs)) ⟨_, upd_same, repP_mrg rw' rv⟩
        exact ⟨a, b, vs, ws, rfl, rfl, h.1, ha, hb, by rw [← rv.length, ← rw'.length]; exact h.2.1, k _ _ _ _ _ sp .non h.2.2⟩
      · exact h.elim
  · exact h.elim

/-! ### {} -/
def dNewK : TED := fun δ M Q => ∀ p, M p = none → Q (.ref p) (mupd M p (.dK []))
theorem qe_newK {pos : Pos} : QE X (.Dict [] [] pos) dNewK := pe_mono pe_dnewK fun σ H Q ⟨Z, δ, M, Qd, R, E, h, k⟩ p hp => by
  obtain ⟨f1, f2⟩ := Stp.newM R hp (o := .dK []) (u := .dK []) ⟨[], upd_same, .nil⟩
  exact k _ _ _ _ _ f2 (.ref p) (h p f1)

/-! ### x * n, a list that may change -/
def dTimesM (ta tb : TED) : TED := fun δ M Q => ta δ M fun x M1 => tb δ M1 fun y M2 => match lstF M2 x, y with
  | some a, .int j => -(2 ^ 63) ≤ j ∧ j < 2 ^ 63 ∧ a.length * j.toNat ≤ sizeLine ∧ ∀ p, M2 p = none → Q (.ref p) (mupd M2 p (.lst (List.replicate j.toNat a).flatten))
  | _, _ => False
theorem qe_timesM {a b : Expr} {ta tb : TED} {pos : Pos} (ha : QE X a ta) (hb : QE X b tb) : QE X (.BinOp a .Mult b pos) (dTimesM ta tb) := by
  refine pe_mono (pe_op op_rep ha hb) fun σ H Q ⟨Z, δ, M, Qd, R, E, h, k⟩ => ?_
  refine ⟨Z, δ, M, _, R, E, h, fun Z1 x M1 u H1 s1 r1 h1 => ?_⟩
  refine ⟨Z1, δ, M1, _, s1.rel, E.mono s1.ext, h1, fun Z2 y M2 v H2 s2 r2 h2 => ?_⟩
  split at h2
  · rename_i xs j e
    obtain ⟨p1, vs, eu, h3, rr⟩ := lstF_sq s2.rel (r1.mono s2.ext) e
    cases r2
    refine ⟨p1, j, vs, eu, rfl, h3, h2.1, h2.2.1, by rw [← rr.length]; exact h2.2.2.1, fun p hp => ?_⟩
    obtain ⟨f1, f2⟩ := Stp.newM s2.rel hp (o := .lst (List.replicate j.toNat xs).flatten) (u := .lst (List.replicate j.toNat vs).flatten) ⟨_, upd_same, reps_rep rr _⟩
    exact k _ _ _ _ _ ((s1.trans s2).trans f2) (.ref p) (h2.2.2.2 p f1)
  · exact h2.elim
end
end DL
end
section
set_option Elab.async false
set_option linter.all false
set_option maxRecDepth 100000
set_option maxHeartbeats 4000000
namespace DL
open PySem PySem.Spec PyProof.Rows L2
/-! ### the built-ins' names -/
theorem bt_len : bootBuiltins "len" = some (.builtin "len") := by decide +kernel
theorem bt_all : bootBuiltins "all" = some (.builtin "all") := by decide +kernel
theorem bt_any : bootBuiltins "any" = some (.builtin "any") := by decide +kernel
theorem bt_sum : bootBuiltins "sum" = some (.builtin "sum") := by decide +kernel
theorem bt_min : bootBuiltins "min" = some (.builtin "min") := by decide +kernel
theorem bt_max : bootBuiltins "max" = some (.builtin "max") := by decide +kernel
theorem bt_abs : bootBuiltins "abs" = some (.builtin "abs") := by decide +kernel
theorem bt_divmod : bootBuiltins "divmod" = some (.builtin "divmod") := by decide +kernel
theorem bt_sorted : bootBuiltins "sorted" = some (.builtin "sorted") := by decide +kernel
theorem bt_isinstance : bootBuiltins "isinstance" = some (.builtin "isinstance") := by decide +kernel
theorem bt_int : bootBuiltins "int" = some (.type "int") := by decide +kernel
theorem bt_bool : bootBuiltins "bool" = some (.type "bool") := by decide +kernel
theorem bt_str : bootBuiltins "str" = some (.type "str") := by decide +kernel
theorem bt_tuple : bootBuiltins "tuple" = some (.type "tuple") := by decide +kernel
theorem bt_list : bootBuiltins "list" = some (.type "list") := by decide +kernel
theorem bt_dict : bootBuiltins "dict" = some (.type "dict") := by decide +kernel
theorem bt_set : bootBuiltins "set" = some (.type "set") := by decide +kernel
theorem hu1 {k : Nat} {A : Around} (hr : Room k A) : A.units + 1 < cLine := by have := hr.un; omega
theorem hu2 {k : Nat} {A : Around} (hr : Room k A) : A.units + 2 < cLine := by have := hr.un; omega
theorem hu64 {k : Nat} {A : Around} (hr : Room k A) : A.units + 64 < cLine := by have := hr.un; omega
theorem hu65 {k : Nat} {A : Around} (hr : Room k A) : A.units + 65 < cLine := by have := hr.un; omega
def fNeg : FD1 := fun _ x Q => match x with
  | .int i => Q (.int (-i))
  | _ => False
theorem ud_neg {K : PySem.W.Frag} : UnD K (rU fun i => .int (-i)) fNeg := fun Z M H x u Qd Q R r h k => by
  cases r <;> first | exact h.elim | skip
  exact ⟨_, rfl, k _ _ _ _ (.refl R) (.int _) h⟩
theorem op_dv {X : Cx} : OpR X (binaryOp .FloorDiv) (rI CDiv fun i j => .int (i / j)) := by
  first
    | exact op_fdiv
    | exact op_floordiv
    | exact op_div
/-- a type, as a value -/
theorem qe_type {X : Cx} {x : Str} {n : String} {pos : Pos} (hg : Gl X x) (hm : X.mg x = none) (hv : bootBuiltins x = some (.type n)) (hn : x ≠ "__name__" := by decide) (hd : (x == ("__debug__" : Str)) = false := by decide) : QE X (.Name x pos) (dC (.ty n)) :=
  qe_bltn (v := .ty n) hg hm hv rfl (fun _ => .ty n) hn hd
/-- an int of the module -/
theorem qe_gint {X : Cx} {x : Str} {i : Int} {t : Tok} {pos : Pos} (hg : Gl X x) (hm : X.mg x = some (.int i t)) (hd : (x == ("__debug__" : Str)) = false := by decide) : QE X (.Name x pos) (dC (.int i)) :=
  qe_glob (v := .int i) hg hm ⟨t, rfl⟩ (fun _ => .int i) hd
/-- a class of the module -/
theorem qe_gref {X : Cx} {x : Str} {a : Addr} {pos : Pos} (hg : Gl X x) (hm : X.mg x = some (.ref a)) (hd : (x == ("__debug__" : Str)) = false := by decide) : QE X (.Name x pos) (dC (.ref a)) :=
  qe_glob (v := .ref a) hg hm rfl (fun _ => .ref a) hd
/-! ### what a def forgets -/
def Forget (Q : KD) : KD := fun d M' => ∃ M1 : Mem, (∀ a o, M1 a = some o → M' a = some o) ∧ Q d M1
section
variable {P : Program} {w : World} {K : PySem.W.Frag} {mg : Str → Option Value} {base : Heap}
theorem Stp.forget {Z Z' : Im} {M M' M1 : Mem} {H H' : Hp} (s : Stp K Z M H Z' M' H') (h1 : ∀ a o, M1 a = some o → M' a = some o) : Stp K Z M H Z' M1 H' :=
  ⟨s.ext, s.rel.less h1, fun a o h m => by
    obtain ⟨q1, q2, q3⟩ := s.frm a o h m
    refine ⟨?_, q2, q3⟩
    cases e : M1 a with
    | none => rfl
    | some u => rw [h1 a u e] at q1; cases q1⟩
/-- a def: what it made and does not hand out is forgotten -/
theorem fn_okF {x qual : Str} {st : Stmt} {f : Addr} {fd : FuncData} {N ps : List Str} {k : Nat} {sp : SpD} (F : Fun K x qual st f fd) (S : FnScope N ps (defScope st)) (hl : ∀ ds M Q, sp ds M Q → ds.length = ps.length)
    (body : ∀ (cdv : Value) (A : Around) (outer : List Env) (s : Shared) (H : Hp) (E : XK), Room k (A.deeper (envOfC qual (defScope st) s.heap.objs.size f cdv)) →
      ∃ t, QSs (cxOf CX0 P w K mg base N qual (defScope st) f cdv A outer s H E).nox (defBody st) t ∧ ∀ ds M Q, sp ds M Q → t { nx := fun _ M' => Forget Q .non M', rt := Forget Q } (dstart N ds) M) :
    FnOk P w K mg base CX0 (k + 1) f fd ps (liftSp K sp) := by
  refine F.ok S (fun vs H Q E ⟨Z, ds, M, Qd, R, rr, h, k⟩ => by rw [← rr.length]; exact hl _ _ _ h) (fun cdv A outer s H vs Q E hr h => ?_)
  obtain ⟨t, h1, h2⟩ := body cdv A outer s H E hr
  refine ⟨_, h1, ?_⟩
  obtain ⟨Z, ds, M, Qd, R, rr, hs, k⟩ := h
  have kf : Kon K Z M H (Forget Qd) Q := fun Z' d M' v H' s' r' ⟨M1, q1, q3⟩ => k Z' d M1 v H' (s'.forget q1) r' q3
  refine ⟨Z, dstart N ds, M, _, R, ?_, h2 ds M Qd hs, ⟨fun Z1 δ1 M1 σ1 H1 s1 E1 q => kf Z1 .non M1 .non H1 s1 .non q, kf, fun _ _ _ _ _ _ _ q => q.elim, fun _ _ _ _ _ _ _ q => q.elim⟩⟩
  show EnvR K Z (dstart N ds) (L2.start N vs)
  unfold dstart L2.start
  rw [rr.length]
  exact EnvR.args rr _
end
/-! ### loops by an invariant -/
theorem for_inv {alive : Mem → Prop} {g : TGD} {tb : TSD} {De : DEnds} {items : List D} {δ : DEnv} {M : Mem} (I : Nat → DEnv → Mem → Prop) (h0 : I 0 δ M)
    (hs : ∀ i d δ M (Nx : DEnv → Mem → Prop), items[i]? = some d → I i δ M → (∀ δ' M', I (i + 1) δ' M' → Nx δ' M') → alive M ∧ g d δ M fun δ1 M1 => tb { nx := Nx, rt := De.rt, bk := De.nx, ct := Nx } δ1 M1)
    (he : ∀ δ M, I items.length δ M → alive M ∧ De.nx δ M) : forGo alive g tb De items δ M := by
  have key : ∀ (n : Nat) (δ : DEnv) (M : Mem), n ≤ items.length → I (items.length - n) δ M → forGo alive g tb De (items.drop (items.length - n)) δ M := by
    intro n
    induction n with
    | zero =>
      intro δ M _ h
      rw [Nat.sub_zero] at h ⊢
      rw [List.drop_length]
      exact he δ M h
    | succ n ih =>
      intro δ M hn h
      have hlt : items.length - (n + 1) < items.length := by omega
      rw [List.drop_eq_getElem_cons hlt]
      have e : items.length - (n + 1) + 1 = items.length - n := by omega
      refine hs _ _ δ M _ (List.getElem?_eq_getElem hlt) h fun δ' M' h' => ?_
      rw [e] at h' ⊢
      exact ih δ' M' (by omega) h'
  have := key items.length δ M (Nat.le_refl _) (by rw [Nat.sub_self]; exact h0)
  rw [Nat.sub_self, List.drop_zero] at this
  exact this
theorem while_inv {c : TTD} {tb : TSD} {D : DEnds} {δ : DEnv} {M : Mem} (I : Nat → DEnv → Mem → Prop) (m : Nat) (h0 : I m δ M)
    (hs : ∀ m δ M (Nx : DEnv → Mem → Prop), I m δ M → (∀ m' δ' M', m' < m → I m' δ' M' → Nx δ' M') → c δ M fun b M1 => if b = true then tb { nx := Nx, rt := D.rt, bk := D.nx, ct := Nx } δ M1 else D.nx δ M1) : dWhile c tb D δ M := by
  refine ⟨m + 1, ?_⟩
  have key : ∀ (n m : Nat), m < n → ∀ (δ : DEnv) (M : Mem), I m δ M → whileGo c tb D n δ M := by
    intro n
    induction n with
    | zero => intro m h; exact absurd h (Nat.not_lt_zero _)
    | succ n ih =>
      intro m hm δ M h
      exact hs m δ M _ h fun m' δ' M' hl h' => ih m' (by omega) δ' M' h'
  exact key (m + 1) m (Nat.lt_succ_self m) δ M h0
theorem lc_inv {alive : Mem → Prop} {g : TGD} {tt : TTD} {te : TED} {δ0 : DEnv} {items : List D} {acc : List D} {M : Mem} {Q : List D → Mem → Prop} (I : Nat → List D → Mem → Prop) (h0 : I 0 acc M)
    (hs : ∀ i d acc M (Nx : List D → Mem → Prop), items[i]? = some d → I i acc M → (∀ acc' M', I (i + 1) acc' M' → Nx acc' M') → alive M ∧ g d δ0 M fun δ1 M1 => tt δ1 M1 fun b M2 => if b = true then te δ1 M2 fun y M3 => acc.length < sizeLine ∧ Nx (acc ++ [y]) M3 else Nx acc M2)
    (he : ∀ acc M, I items.length acc M → alive M ∧ Q acc M) : lcGo alive g tt te δ0 items acc M Q := by
  have key : ∀ (n : Nat) (acc : List D) (M : Mem), n ≤ items.length → I (items.length - n) acc M → lcGo alive g tt te δ0 (items.drop (items.length - n)) acc M Q := by
    intro n
    induction n with
    | zero =>
      intro acc M _ h
      rw [Nat.sub_zero] at h ⊢
      rw [List.drop_length]
      exact he acc M h
    | succ n ih =>
      intro acc M hn h
      have hlt : items.length - (n + 1) < items.length := by omega
      rw [List.drop_eq_getElem_cons hlt]
      have e : items.length - (n + 1) + 1 = items.length - n := by omega
      refine hs _ _ acc M (fun acc' M' => lcGo alive g tt te δ0 (items.drop (items.length - (n + 1) + 1)) acc' M' Q) (List.getElem?_eq_getElem hlt) h fun acc' M' h' => ?_
      rw [e] at h' ⊢
      exact ih acc' M' (by omega) h'
  have := key items.length acc M (Nat.le_refl _) (by rw [Nat.sub_self]; exact h0)
  rw [Nat.sub_self, List.drop_zero] at this
  exact this
theorem lc2_inv {alive : Mem → Prop} {g : TGD} {tt : TTD} {ti1 : TID} {g1 : TGD} {tt1 : TTD} {te : TED} {δ0 : DEnv} {vs1 : List Nat} {items : List D} {acc : List D} {M : Mem} {Q : List D → Mem → Prop} (I : Nat → List D → Mem → Prop) (h0 : I 0 acc M)
    (hs : ∀ i d acc M (Nx : List D → Mem → Prop), items[i]? = some d → I i acc M → (∀ acc' M', I (i + 1) acc' M' → Nx acc' M') → alive M ∧ g d δ0 M fun δ1 M1 => tt δ1 M1 fun b M2 => if b = true then ti1 δ1 M2 fun jd M3 => lcGo jd.alive g1 tt1 te (dwipe δ1 vs1) jd.items acc M3 Nx else Nx acc M2)
    (he : ∀ acc M, I items.length acc M → alive M ∧ Q acc M) : lc2Go alive g tt ti1 g1 tt1 te δ0 vs1 items acc M Q := by
  have key : ∀ (n : Nat) (acc : List D) (M : Mem), n ≤ items.length → I (items.length - n) acc M → lc2Go alive g tt ti1 g1 tt1 te δ0 vs1 (items.drop (items.length - n)) acc M Q := by
    intro n
    induction n with
    | zero =>
      intro acc M _ h
      rw [Nat.sub_zero] at h ⊢
      rw [List.drop_length]
      exact he acc M h
    | succ n ih =>
      intro acc M hn h
      have hlt : items.length - (n + 1) < items.length := by omega
      rw [List.drop_eq_getElem_cons hlt]
      have e : items.length - (n + 1) + 1 = items.length - n := by omega
      refine hs _ _ acc M (fun acc' M' => lc2Go alive g tt ti1 g1 tt1 te δ0 vs1 (items.drop (items.length - (n + 1) + 1)) acc' M' Q) (List.getElem?_eq_getElem hlt) h fun acc' M' h' => ?_
      rw [e] at h' ⊢
      exact ih acc' M' (by omega) h'
  have := key items.length acc M (Nat.le_refl _) (by rw [Nat.sub_self]; exact h0)
  rw [Nat.sub_self, List.drop_zero] at this
  exact this
/-- a comprehension that just maps -/
theorem lc_map {alive : Mem → Prop} {g : TGD} {te : TED} {δ0 : DEnv} {items : List D} {M : Mem} {Q : List D → Mem → Prop} (φ : Nat → D) (hal : alive M) (hlen : items.length ≤ sizeLine)
    (hs : ∀ i d (Nx : KD), items[i]? = some d → Nx (φ i) M → g d δ0 M fun δ1 M1 => te δ1 M1 Nx) (he : Q ((List.range items.length).map φ) M) : lcGo alive g dYes te δ0 items [] M Q := by
  refine lc_inv (fun i acc M' => M' = M ∧ acc = (List.range i).map φ) ⟨rfl, rfl⟩ (fun i d acc M' Nx hd hI hn => ?_) (fun acc M' hI => ?_)
  · obtain ⟨e1, e2⟩ := hI
    subst e1 e2
    refine ⟨hal, ?_⟩
    refine hs i d (fun y M3 => ((List.range i).map φ).length < sizeLine ∧ Nx ((List.range i).map φ ++ [y]) M3) hd ⟨?_, ?_⟩
    · have := (List.getElem?_eq_some_iff.mp hd).1
      rw [List.length_map, List.length_range]; omega
    · refine hn _ _ ⟨rfl, ?_⟩
      rw [List.range_succ, List.map_append]; rfl
  · obtain ⟨e1, e2⟩ := hI
    subst e1 e2
    exact ⟨hal, he⟩
end DL
end
section
set_option Elab.async false
set_option linter.all false
set_option maxRecDepth 100000
set_option maxHeartbeats 4000000
namespace DL
open PySem PySem.Spec PyProof.Rows L2
/-! ### the law's promise -/
def spLaw : SpD := fun ds M Q => ∃ ns : List Int, ds = [.rol (ns.map D.int)] ∧ ns.length ≤ 63 ∧ ∀ M', Q (.bl true) M'
theorem law_in {K : PySem.W.Frag} {H : Hp} {a : Addr} {ns : List Int} {E : XK} (hl : ns.length ≤ 63) (hS : SqL K H a (ns.map V.int)) : liftSp K spLaw [.ref a] H (fun v _ => v = .bl true) E := by
  have fin : ∀ Z : Im, Rel K Z (fun _ => none) H → ImR K Z a (ns.map V.int) → liftSp K spLaw [.ref a] H (fun v _ => v = .bl true) E := fun Z R im => by
    refine ⟨Z, [.rol (ns.map D.int)], fun _ => none, fun d _ => d = .bl true, R, .cons (.rol a _ _ im (Reps.ofInts ns)) .nil, ⟨ns, rfl, hl, fun _ => rfl⟩, fun Z' d M' v H' s r e => ?_⟩
    subst e
    cases r; rfl
  rcases hS with h | ⟨o, its, n, h⟩
  · refine fin (fun b => if b = a then H a else none) ⟨fun b o e => ?_, fun b o e => by cases e⟩ (.inl ?_)
    · by_cases q : b = a
      · subst q
        simpa using e
      · rw [if_neg q] at e; cases e
    · rcases h with h | ⟨o, h⟩
      · exact ⟨_, (if_pos rfl).trans h, .inl rfl⟩
      · exact ⟨_, (if_pos rfl).trans h, .inr ⟨o, rfl⟩⟩
  · exact fin (fun _ => none) ⟨(fun b o e => by cases e), (fun b o e => by cases e)⟩ (.inr fun H' => .inr ⟨o, its, n, h⟩)
/-! ### len(set(t)), t a tuple of ints -/
/-- how many unlike ones -/
def uniq : List Int → List Int
  | [] => []
  | n :: ns => if n ∈ ns then uniq ns else n :: uniq ns
theorem uniq_mem {i : Int} : ∀ {ns : List Int}, i ∈ uniq ns ↔ i ∈ ns
  | [] => Iff.rfl
  | n :: ns => by
    unfold uniq
    by_cases h : n ∈ ns
    · rw [if_pos h, uniq_mem, List.mem_cons]
      exact ⟨Or.inr, fun q => q.elim (fun e => e ▸ h) id⟩
    · rw [if_neg h, List.mem_cons, List.mem_cons, uniq_mem]
theorem uniq_nodup : ∀ ns : List Int, (uniq ns).Nodup
  | [] => List.nodup_nil
  | n :: ns => by
    unfold uniq
    by_cases h : n ∈ ns
    · rw [if_pos h]; exact uniq_nodup ns
    · rw [if_neg h, List.nodup_cons]
      exact ⟨fun q => h (uniq_mem.mp q), uniq_nodup ns⟩
theorem nodup_len {l m : List Int} (h1 : l.Nodup) (h2 : m.Nodup) (h : ∀ k, k ∈ l ↔ k ∈ m) : l.length = m.length :=
  ((List.perm_ext_iff_of_nodup h1 h2).mpr h).length_eq
section
variable {X : Cx}
def tLenSetTI (K : PySem.W.Frag) (ta : TE) : TE := fun σ H Q => ta σ H fun x H1 => ∃ (l : Addr) (ns : List Int), x = .ref l ∧ SqT K H1 l (ns.map V.int) ∧ ns.length ≤ 4000 ∧ Q (.int ((uniq ns).length : Nat)) H1
theorem pe_lenSetTI {a : Expr} {ta : TE} {p p2 q pos : Pos} (hc : X.calm = true) (hg : Gl X "len") (hm : X.mg "len" = none) (hg2 : Gl X "set") (hm2 : X.mg "set" = none) (ha : PE X a ta)
    (na : starEach [a] X.env = (false, eval a X.env) :: starEach [] X.env := by rfl) : PE X (.Call (.Name "len" p) [.Call (.Name "set" p2) [a] [] q] [] pos) (tLenSetTI X.K ta) := by
  refine ⟨fun pins s σ H Q I h => ?_⟩
  refine Call_ (ld_blt I hg hm bt_len ?_)
  refine PyProof.Rows.callWith_builtin1 (PyProof.Rows.args_cons ?_ rfl) rfl rfl
  refine Call_ (ld_blt I hg2 hm2 bt_set ?_)
  refine PyProof.Rows.callWith_type1 (PyProof.Rows.args_cons (thn (ha.run pins s σ H _ I h) fun v s1 ⟨x, H1, I1, r1, q1⟩ => PyProof.Rows.args_nil ?_) na) na rfl
  obtain ⟨l, ns, rfl, hq, hl, q1⟩ := q1
  cases r1
  obtain ⟨its, r, pl, hz⟩ := I1.tuple hq
  refine call_set_tupI ns (I1.ok.hd hc) (show s1.heap.IsTuple l its.toArray from pl) (by simpa using r.ints) (by unfold scanBound; omega) fun h' tk c hS hle hk => ?_
  refine PyProof.Rows.args_nil ?_
  obtain ⟨o, es, ep, t, ho, hex, hd, _, hnd, hmem, hb, hf, hn, _⟩ := hS
  have I2 : Inv X pins σ H1 { s1 with heap := h', toks := tk } := I1.kept hk
  have hlen : es.size = (uniq ns).length := by
    have := nodup_len hnd (uniq_nodup ns) fun k => by
      rw [← hmem k, uniq_mem, decide_eq_true_iff]
    rw [List.length_map, Array.length_toList] at this
    exact this
  exact call_len_set ho hex hd hf (by omega) ⟨.int (uniq ns).length, H1, I2.tok _, ⟨_, by rw [hlen]⟩, q1⟩
def dLenSetTI (ta : TED) : TED := fun δ M Q => ta δ M fun x M1 => match (tupOf x).bind intsD with
  | some ns => ns.length ≤ 4000 ∧ Q (.int ((uniq ns).length : Nat)) M1
  | none => False
theorem qe_lenSetTI {a : Expr} {ta : TED} {p p2 q pos : Pos} (hc : X.calm = true) (hg : Gl X "len") (hm : X.mg "len" = none) (hg2 : Gl X "set") (hm2 : X.mg "set" = none) (ha : QE X a ta)
    (na : starEach [a] X.env = (false, eval a X.env) :: starEach [] X.env := by rfl) : QE X (.Call (.Name "len" p) [.Call (.Name "set" p2) [a] [] q] [] pos) (dLenSetTI ta) := by
  refine pe_mono (pe_lenSetTI hc hg hm hg2 hm2 ha na) fun σ H Q ⟨Z, δ, M, Qd, R, E, h, k⟩ => ?_
  refine ⟨Z, δ, M, _, R, E, h, fun Z1 x M1 u H1 s1 r1 h1 => ?_⟩
  split at h1
  · rename_i ns e
    obtain ⟨ds, e1, e2⟩ := Option.bind_eq_some_iff.mp e
    obtain ⟨a', vs, eu, _, hs, rr⟩ := tup_sq s1.rel r1 e1
    subst eu
    exact ⟨a', ns, rfl, by rw [← ints_of rr e2]; exact hs, h1.1, k _ _ _ _ _ s1 (.int _) h1.2⟩
  · exact h1.elim
end
end DL
end
section
set_option Elab.async false
set_option linter.all false
set_option maxRecDepth 100000
set_option maxHeartbeats 4000000
/-! Sets of tuples of ints, pairwise unlike, any number of them up to 4000: the table (by the mask alone). -/
namespace BS
open PySem PySem.Spec PyProof.Rows L2
/-! ### the round i -> 5 i + 1 -/
def orb (m : Nat) : Nat → Nat → List Nat
  | 0, _ => []
  | n + 1, i => i :: orb m n ((i * 5 + 1) % (m + 1))
def msk : List Nat → Nat → Nat
  | [], a => a
  | j :: l, a => msk l (a ||| (1 <<< j))
theorem msk_bit (j : Nat) : ∀ (l : List Nat) (a : Nat), (msk l a).testBit j = true → a.testBit j = true ∨ j ∈ l
  | [], a, h => .inl h
  | i :: l, a, h => by
    rcases msk_bit j l _ h with h | h
    · rw [Nat.testBit_or, Bool.or_eq_true] at h
      rcases h with h | h
      · exact .inl h
      · right
        have e : i = j := by
          by_cases q : i = j
          · exact q
          · exfalso
            rw [Nat.one_shiftLeft] at h
            have := Nat.testBit_two_pow_of_ne q
            rw [this] at h
            cases h
        rw [e]; exact List.mem_cons_self
    · exact .inr (List.mem_cons_of_mem _ h)
theorem lcgI_step (m i : Nat) : ∀ k, lcgI m ((i * 5 + 1) % (m + 1)) k = lcgI m i (k + 1)
  | 0 => rfl
  | k + 1 => by
    show (lcgI m ((i * 5 + 1) % (m + 1)) k * 5 + 1) % (m + 1) = (lcgI m i (k + 1) * 5 + 1) % (m + 1)
    rw [lcgI_step m i k]
theorem orb_mem (m : Nat) : ∀ (n i j : Nat), j ∈ orb m n i → ∃ k, k < n ∧ lcgI m i k = j
  | 0, _, _, h => by cases h
  | n + 1, i, j, h => by
    rcases List.mem_cons.mp h with e | h
    · exact ⟨0, Nat.succ_pos _, e.symm⟩
    · obtain ⟨k, hk, e⟩ := orb_mem m n _ _ h
      exact ⟨k + 1, Nat.succ_lt_succ hk, by rw [← lcgI_step]; exact e⟩
theorem lcgI_add (m i a : Nat) : ∀ k, lcgI m (lcgI m i a) k = lcgI m i (a + k)
  | 0 => rfl
  | k + 1 => by
    show (lcgI m (lcgI m i a) k * 5 + 1) % (m + 1) = (lcgI m i (a + k) * 5 + 1) % (m + 1)
    rw [lcgI_add m i a k]
/-- the masks that come -/
def MK (m : Nat) : Prop := m = 7 ∨ m = 31 ∨ m = 127 ∨ m = 511 ∨ m = 2047 ∨ m = 8191
def chk (m : Nat) : Bool := (msk (orb m (m + 1) 0) 0 == 2 ^ (m + 1) - 1) && ((orb m (m + 2) 0).getLast? == some 0)
set_option maxRecDepth 1000000 in
theorem chk7 : chk 7 = true := by decide +kernel
set_option maxRecDepth 1000000 in
theorem chk31 : chk 31 = true := by decide +kernel
set_option maxRecDepth 1000000 in
theorem chk127 : chk 127 = true := by decide +kernel
set_option maxRecDepth 1000000 in
theorem chk511 : chk 511 = true := by decide +kernel
set_option maxRecDepth 1000000 in
theorem chk2047 : chk 2047 = true := by decide +kernel
set_option maxRecDepth 1000000 in
theorem chk8191 : chk 8191 = true := by decide +kernel
theorem chk_of {m : Nat} (h : MK m) : chk m = true := by
  rcases h with e | e | e | e | e | e <;> subst e
  · exact chk7
  · exact chk31
  · exact chk127
  · exact chk511
  · exact chk2047
  · exact chk8191
theorem MK.odd {m : Nat} (h : MK m) : m % 2 = 1 := by rcases h with e | e | e | e | e | e <;> subst e <;> rfl
theorem MK.le {m : Nat} (h : MK m) : m ≤ 8191 := by rcases h with e | e | e | e | e | e <;> omega
theorem orb_last (m : Nat) : ∀ (n i : Nat), (orb m (n + 1) i).getLast? = some (lcgI m i n)
  | 0, i => rfl
  | n + 1, i => by
    have ih := orb_last m n ((i * 5 + 1) % (m + 1))
    show (i :: orb m (n + 1) ((i * 5 + 1) % (m + 1))).getLast? = _
    rw [← lcgI_step, ← ih]
    show (i :: ((i * 5 + 1) % (m + 1)) :: orb m n _).getLast? = _
    rw [List.getLast?_cons_cons]
    rfl
theorem from0 {m : Nat} (h : MK m) {j : Nat} (hj : j ≤ m) : ∃ k, k ≤ m ∧ lcgI m 0 k = j := by
  have c := chk_of h
  unfold chk at c
  rw [Bool.and_eq_true, beq_iff_eq] at c
  have hb : (msk (orb m (m + 1) 0) 0).testBit j = true := by
    rw [c.1, Nat.testBit_two_pow_sub_one]
    exact decide_eq_true (Nat.lt_succ_of_le hj)
  rcases msk_bit j _ _ hb with q | q
  · rw [Nat.zero_testBit] at q; cases q
  · obtain ⟨k, hk, e⟩ := orb_mem m _ _ _ q
    exact ⟨k, Nat.le_of_lt_succ hk, e⟩
theorem back0 {m : Nat} (h : MK m) : lcgI m 0 (m + 1) = 0 := by
  have c := chk_of h
  unfold chk at c
  rw [Bool.and_eq_true, beq_iff_eq, beq_iff_eq, orb_last] at c
  exact Option.some.inj c.2
theorem per0 {m : Nat} (h : MK m) (k : Nat) : lcgI m 0 (m + 1 + k) = lcgI m 0 k := by
  rw [← lcgI_add, back0 h]
theorem all_met {m : Nat} (h : MK m) {i j : Nat} (hi : i ≤ m) (hj : j ≤ m) : ∃ k, k ≤ m ∧ lcgI m i k = j := by
  obtain ⟨a, ha, ea⟩ := from0 h hi
  obtain ⟨b, hb, eb⟩ := from0 h hj
  rw [← ea]
  by_cases c : a ≤ b
  · exact ⟨b - a, by omega, by rw [lcgI_add, show a + (b - a) = b by omega]; exact eb⟩
  · exact ⟨b + (m + 1) - a, by omega, by rw [lcgI_add, show a + (b + (m + 1) - a) = m + 1 + b by omega, per0 h]; exact eb⟩
theorem runs_meet {m : Nat} (hm : MK m) (h : Int) {j : Nat} (hj : j ≤ m) : ∃ n, n ≤ m + 12 ∧ runI m (SetTable.bits h) n = j := by
  obtain ⟨k, hk, e⟩ := all_met hm (runI_le m (SetTable.bits h) 12) hj
  exact ⟨12 + k, by omega, by rw [runI_tail (bits_lt h)]; exact e⟩
/-- each slot is met, within the search's bound -/
theorem meets {m : Nat} (hm : MK m) (h : Int) {j : Nat} (hj : j ≤ m) : ∃ k, k < 10 * SetTable.turns m ∧ way m h k = j := by
  obtain ⟨n, hn, e⟩ := runs_meet hm h hj
  obtain ⟨k, hk, e2⟩ := run_nth m (SetTable.bits h) n
  refine ⟨k, by unfold SetTable.turns; omega, ?_⟩
  show (nth m (runAt m (SetTable.bits h % (m + 1)) (SetTable.bits h)) k).j = j
  rw [e2]
  exact e
theorem wayLe {m : Nat} (h : Int) (k : Nat) : way m h k ≤ m := by
  have hi : SetTable.bits h % (m + 1) ≤ m := Nat.le_of_lt_succ (Nat.mod_lt _ (Nat.succ_pos _))
  have r := runEnd_bd hi
  have q := nth_in (m := m) k (runAt m (SetTable.bits h % (m + 1)) (SetTable.bits h)) (show SetTable.bits h % (m + 1) + (SetTable.runEnd m (SetTable.bits h % (m + 1)) - SetTable.bits h % (m + 1)) ≤ m by omega)
  exact Nat.le_trans (Nat.le_add_right _ _) q
/-- the first free slot on the way -/
theorem firstFree {m : Nat} (hm : MK m) (ps : List Nat) (hl : ps.length ≤ m) (h : Int) : ∃ K, K < 10 * SetTable.turns m ∧ way m h K ∉ ps ∧ ∀ k, k < K → way m h k ∈ ps := by
  obtain ⟨j, hj, hn⟩ := st_missing ps (m + 1) (by omega)
  obtain ⟨k, hk, e⟩ := meets hm h (Nat.le_of_lt_succ hj)
  obtain ⟨K, h1, h2, h3⟩ := st_least (p := fun k => way m h k ∉ ps) k (by show way m h k ∉ ps; rw [e]; exact hn)
  exact ⟨K, by omega, h2, fun k' hk' => Classical.byContradiction fun c => h3 k' hk' c⟩
/-! ### laying anew -/
theorem laysFree {m : Nat} (hm : MK m) (owner : Array (Option Nat)) (h : Int) {j : Nat} (hj : j ≤ m) (hf : oAt owner j = none) :
    ∃ i, i ≤ m ∧ oAt owner i = none ∧ SetTable.layClean.free m owner (SetTable.turns m) (SetTable.bits h % (m + 1)) (SetTable.bits h) = some i := by
  obtain ⟨n, hn, e⟩ := runs_meet hm h hj
  have at_n : way m h (off m (SetTable.bits h % (m + 1)) (SetTable.bits h) n) = j := by
    show (nth m (runAt m _ _) (off m _ _ n)).j = j
    rw [nth_off, itL_run]
    exact e
  obtain ⟨K, k1, k2, k3⟩ := st_least (p := fun k => oAt owner (way m h k) = none) _ (show oAt owner (way m h (off m (SetTable.bits h % (m + 1)) (SetTable.bits h) n)) = none by rw [at_n]; exact hf)
  refine ⟨way m h K, wayLe h K, k2, ?_⟩
  refine free_spec m owner (SetTable.turns m) n _ _ K (by unfold SetTable.turns; omega) k1 (fun k hk => ?_) ?_
  · cases z : oAt owner (nth m (runAt m (SetTable.bits h % (m + 1)) (SetTable.bits h)) k).j with
    | none => exact absurd z (k3 k hk)
    | some _ => rfl
  · have q : oAt owner (nth m (runAt m (SetTable.bits h % (m + 1)) (SetTable.bits h)) K).j = none := k2
    rw [q]; rfl
/-- n of them sit -/
structure Sit (m n : Nat) (owner : Array (Option Nat)) : Prop where
  sz : owner.size = m + 1
  all : ∀ k, k < n → ∃ j, j ≤ m ∧ oAt owner j = some k
  ps : ∃ ps : List Nat, ps.length = n ∧ ∀ j, j ≤ m → oAt owner j ≠ none → j ∈ ps
theorem Sit.step {m n : Nat} (hm : MK m) {owner : Array (Option Nat)} (W : Sit m n owner) (hl : n ≤ m) (h : Int) :
    ∃ j, SetTable.layClean.free m owner (SetTable.turns m) (SetTable.bits h % (m + 1)) (SetTable.bits h) = some j ∧ Sit m (n + 1) (owner.setIfInBounds j (some n)) := by
  obtain ⟨ps, hps, hin⟩ := W.ps
  obtain ⟨j0, h0, hn0⟩ := st_missing ps (m + 1) (by omega)
  have hj0 : oAt owner j0 = none := Classical.byContradiction fun c => hn0 (hin j0 (Nat.le_of_lt_succ h0) c)
  obtain ⟨i, hi, hf, e⟩ := laysFree hm owner h (Nat.le_of_lt_succ h0) hj0
  have his : i < owner.size := by rw [W.sz]; omega
  refine ⟨i, e, by rw [Array.size_setIfInBounds]; exact W.sz, fun k hk => ?_, i :: ps, by rw [List.length_cons, hps], fun j hj q => ?_⟩
  · by_cases c : k = n
    · subst c; exact ⟨i, hi, oAt_set_self _ his⟩
    · obtain ⟨j, hj, q⟩ := W.all k (by omega)
      refine ⟨j, hj, ?_⟩
      rw [oAt_set_ne _ (fun z => by rw [z, hf] at q; cases q)]
      exact q
  · by_cases c : j = i
    · rw [c]; exact List.mem_cons_self
    · rw [oAt_set_ne _ c] at q
      exact List.mem_cons_of_mem _ (hin j hj q)
theorem sit_fold {m : Nat} (hm : MK m) : ∀ (hs : List Int) (n : Nat) (owner : Array (Option Nat)), Sit m n owner → n + hs.length ≤ m + 1 →
    ∃ owner', hs.foldl (stepF m) (some (owner, n)) = some (owner', n + hs.length) ∧ Sit m (n + hs.length) owner'
  | [], n, owner, W, _ => ⟨owner, rfl, W⟩
  | h :: hs, n, owner, W, hl => by
    rw [List.length_cons] at hl
    obtain ⟨j, e, W'⟩ := W.step hm (by omega) h
    obtain ⟨owner', f, W2⟩ := sit_fold hm hs (n + 1) _ W' (by omega)
    rw [show n + 1 + hs.length = n + (h :: hs).length by rw [List.length_cons]; omega] at f W2
    exact ⟨owner', by rw [List.foldl_cons, stepF_some e]; exact f, W2⟩
theorem sit_clean {m : Nat} (hm : MK m) {hs : Array Int} (hn : hs.size ≤ m) : ∃ owner, SetTable.layClean m hs = some owner ∧ Sit m hs.size owner := by
  have W0 : Sit m 0 (Array.replicate (m + 1) none) := ⟨by simp, fun k hk => absurd hk (Nat.not_lt_zero _), [], rfl, fun j hj e => absurd (oAt_init hj) e⟩
  obtain ⟨owner, f, W⟩ := sit_fold hm hs.toList 0 _ W0 (by rw [Array.length_toList]; omega)
  rw [Nat.zero_add, Array.length_toList] at W
  refine ⟨owner, ?_, W⟩
  rw [layClean_eq, f]
  rfl
/-- a table's slots -/
structure TB (t : SetTable) (n : Nat) : Prop where
  ris : Ris t.place.toList
  dm : t.dummies = #[]
  sz : t.place.size = n
  mok : MK t.mask
  bd : ∀ x ∈ t.place.toList, x ≤ t.mask
theorem tb_relaid (t : SetTable) {hs : Array Int} {wanted M : Nat} (hw : SetTable.sizeAbove wanted - 1 = M) (hM : MK M) (hn : hs.size ≤ M) :
    ∃ t' order, t.relaid hs wanted = some (t', order) ∧ order.toList.Perm (List.range hs.size) ∧ TB t' hs.size ∧ t'.mask = M ∧ t'.led = t.led ∧ t'.plain = t.plain := by
  obtain ⟨owner, e, W⟩ := sit_clean hM hn
  have hr : t.relaid hs wanted = some (tabOf t M owner, ((liveOf M owner).map (·.2)).toArray) := by
    rw [relaid_eq, hw, e]; rfl
  have ris := ris_live (fun j => owner.getD j none) (List.range (M + 1)) (by
    unfold Ris
    first | exact List.pairwise_lt_range | exact List.pairwise_lt_range _)
  have r1 : Ris ((liveOf M owner).map (·.1)) := ris.1
  have r2 : ∀ x ∈ (liveOf M owner).map (·.1), x ∈ List.range (M + 1) := ris.2
  have nd : ((liveOf M owner).map (·.1)).Nodup := List.Pairwise.imp (fun h => Nat.ne_of_lt h) r1
  have has : ∀ k, k < hs.size → k ∈ (liveOf M owner).map (·.2) := fun k hk => by
    obtain ⟨j, b1, b2⟩ := W.all k hk
    exact List.mem_map.mpr ⟨(j, k), (mem_live W.sz).2 ⟨b1, b2⟩, rfl⟩
  have hlen : (liveOf M owner).length = hs.size := by
    obtain ⟨ps, p1, p2⟩ := W.ps
    have a := nat_nodup_len ((liveOf M owner).map (·.1)) ps nd fun x hx => by
      obtain ⟨⟨y, k⟩, hq, ey⟩ := List.mem_map.mp hx
      obtain rfl : y = x := ey
      obtain ⟨b1, b2⟩ := (mem_live W.sz).1 hq
      exact p2 y b1 (by rw [b2]; exact fun z => nomatch z)
    have b := nat_nodup_len (List.range hs.size) ((liveOf M owner).map (·.2)) List.nodup_range fun k hk => has k (List.mem_range.mp hk)
    rw [List.length_map, p1] at a
    rw [List.length_map, List.length_range] at b
    omega
  refine ⟨_, _, hr, perm_range hs.size _ ?_ has, ⟨r1, rfl, ?_, hM, fun x hx => Nat.le_of_lt_succ (List.mem_range.mp (r2 x hx))⟩, rfl, rfl, rfl⟩
  · show ((liveOf M owner).map (·.2)).length = hs.size
    rw [List.length_map]; exact hlen
  · show ((liveOf M owner).map (·.1)).toArray.size = hs.size
    rw [List.size_toArray, List.length_map]; exact hlen
theorem TB.put {t : SetTable} {n : Nat} (T : TB t n) {j : Nat} (hj : j ≤ t.mask) (hn : j ∉ t.place.toList) : TB (t.put j).1 (n + 1) ∧ (t.put j).1.mask = t.mask ∧ (t.put j).1.led = t.led ∧ (t.put j).1.plain = t.plain := by
  have hp := put_place t j
  obtain ⟨c1, c2, c3⟩ := below_cut T.ris j
  refine ⟨⟨?_, put_dm T.dm j, ?_, T.mok, fun x hx => ?_⟩, rfl, rfl, rfl⟩
  · rw [hp]
    generalize SetTable.below t.place j = p at c1 c2 c3 ⊢
    have r := T.ris
    unfold Ris at r ⊢
    rw [← List.take_append_drop p t.place.toList, List.pairwise_append] at r
    obtain ⟨r1, r2, r3⟩ := r
    rw [List.pairwise_append]
    have lt1 : ∀ x ∈ t.place.toList.take p, x < j := fun x hx => by
      obtain ⟨i, hi, e⟩ := List.mem_take_iff_getElem.mp hx
      exact c2 i x (by rw [List.getElem?_eq_getElem (by omega)]; exact congrArg some e) (by omega)
    have lt2 : ∀ x ∈ t.place.toList.drop p, j < x := fun x hx => by
      obtain ⟨i, hi, e⟩ := List.mem_drop_iff_getElem.mp hx
      have q := c3 (p + i) x (by rw [List.getElem?_eq_getElem (by omega)]; exact congrArg some e) (Nat.le_add_right _ _)
      rcases Nat.lt_or_ge j x with z | z
      · exact z
      · exfalso
        have : x = j := by omega
        exact hn (this ▸ List.mem_of_mem_drop hx)
    refine ⟨r1, List.pairwise_cons.mpr ⟨lt2, r2⟩, fun a ha b hb => ?_⟩
    rcases List.mem_cons.mp hb with e | hb
    · rw [e]; exact lt1 a ha
    · exact r3 a ha b hb
  · have := congrArg List.length hp
    rw [Array.length_toList, len_ins _ (by rw [Array.length_toList]; exact c1), Array.length_toList, T.sz] at this
    exact this
  · rw [hp] at hx
    rcases mem_ins.mp hx with e | hx
    · rw [e]; exact hj
    · exact T.bd x hx
end BS
end
section
set_option Elab.async false
set_option linter.all false
set_option maxRecDepth 100000
set_option maxHeartbeats 4000000
namespace BS
open PySem PySem.Spec PyProof.Rows L2
/-- the set at a, of the tuples L, unlike -/
structure At (P : Program) (w : World) (h : Heap) (a : Addr) (L : List (Addr × List Int)) (es : Array (Int × Value)) (ep : Nat) (t : SetTable) : Prop where
  ob : ∃ o, h.get? a = some o ∧ o.ExactSet ∧ o.data = .set es ep t
  rows : es.toList = rowsOf P w L
  tab : TB t L.length
  nd : (L.map (·.2)).Nodup
  tup : ∀ p ∈ L, IsT P w h p.2 p.1
  plain : t.plain = true
  led : w.params.followText "set-order" = true ∨ t.led = true
  room : L.length * 5 < t.mask * 3
section
variable {P : Program} {w : World} {A : Around} {E : Value → Shared → Prop} {s : Shared} {a : Addr} {L : List (Addr × List Int)} {es : Array (Int × Value)} {ep : Nat} {t : SetTable}
theorem rows_size (hr : es.toList = rowsOf P w L) : es.size = L.length := by
  have h := congrArg List.length hr
  unfold rowsOf at h
  rw [Array.length_toList, List.length_map] at h
  exact h
theorem tb_fits {n : Nat} (T : TB t n) (h : n ≤ t.mask) : t.fits n = true := by
  unfold SetTable.fits SetTable.fill
  rw [T.dm, Bool.and_eq_true, beq_iff_eq, decide_eq_true_eq]
  exact ⟨T.sz, by rw [T.sz]; exact h⟩
theorem At.size (R : At P w s.heap a L es ep t) : es.size = L.length := rows_size R.rows
theorem At.fits (R : At P w s.heap a L es ep t) : t.fits es.size = true := by
  rw [R.size]
  have := R.room
  exact tb_fits R.tab (by omega)
theorem At.entry (R : At P w s.heap a L es ep t) {i : Nat} {p : Addr × List Int} (h : L[i]? = some p) : es[i]? = some (thash P w p.2, Value.ref p.1) := by
  rw [← Array.getElem?_toList, R.rows]
  unfold rowsOf
  rw [List.getElem?_map, h]; rfl
theorem At.gw (R : At P w s.heap a L es ep t) : ¬ t.gaveWay = true := by
  unfold SetTable.gaveWay
  rw [R.tab.mok.odd]
  decide
theorem nth_dummy (m : Nat) : ∀ (n : Nat) (p : SetTable.Probe), p.dummy = none → (nth m p n).dummy = none
  | 0, _, h => h
  | n + 1, p, h => nth_dummy m n (adv m p) (by unfold adv; split <;> exact h)
/-- the start of a search -/
abbrev st0 (m : Nat) (h : Int) : SetTable.Probe := runAt m (SetTable.bits h % (m + 1)) (SetTable.bits h)
/-- a search for a tuple that isn't there ends at the first free slot -/
theorem seek (R : At P w s.heap a L es ep t) {x : Addr} {k : List Int} (hx : IsT P w s.heap k x) (hu : A.units < cLine) (hk : k ∉ L.map (·.2)) {K : Nat} (hKf : K < 10 * SetTable.turns t.mask)
    (hK : way t.mask (thash P w k) K ∉ t.place.toList) (hKb : ∀ c, c < K → way t.mask (thash P w k) c ∈ t.place.toList) {Q : SetFound → Shared → Prop}
    (hQ : Q (.free (way t.mask (thash P w k) K) false) s) :
    ∀ (f c : Nat) (stand : Option SetTable.Probe), stand.getD (t.probeStart (thash P w k)) = nth t.mask (st0 t.mask (thash P w k)) c → c ≤ K → K - c < f →
      wpAny (model P w) A (setSearchFrom a (.ref x) (thash P w k) true f stand) Q E s := by
  obtain ⟨o, ho, hex, hd⟩ := R.ob
  have hstate : ∀ {Q : Array (Int × Value) × Nat × SetTable → Shared → Prop}, Q (es, ep, t) s → wpAny (model P w) A (setState a) Q E s := fun h => wpAny_setState_of ho hd R.fits h
  intro f
  induction f with
  | zero => intro c stand _ _ h; exact absurd h (Nat.not_lt_zero _)
  | succ f ih =>
    intro c stand hst hc hf
    have jAt : ∀ q, (nth t.mask (nth t.mask (st0 t.mask (thash P w k)) c) q).j = way t.mask (thash P w k) (c + q) := fun q => congrArg SetTable.Probe.j (nth_add t.mask c _ q).symm
    rw [setSearchFrom_succ]
    refine wpAny_bind (hstate ?_)
    dsimp only
    refine wp_if_neg R.gw ?_
    try refine wpAny_bind (wpAny_pure ?_)
    rcases go_spec t R.tab.ris R.tab.dm (fun i => (es[i]?.map (·.1)).getD 0) (thash P w k) (10 * SetTable.turns t.mask) (K - c) _ (nth_dummy t.mask c (st0 t.mask (thash P w k)) rfl) (by omega)
      (fun q hq => by rw [jAt]; exact hKb (c + q) (by omega)) (by rw [jAt, show c + (K - c) = K by omega]; exact hK) with ⟨q, i, hq, hi, _, _, hpr⟩ | ⟨_, hpr⟩
    · rw [jAt] at hi
      have hprobe : t.probe (fun i => (es[i]?.map (·.1)).getD 0) (thash P w k) (stand.getD (t.probeStart (thash P w k))) = some (.candidate (way t.mask (thash P w k) (c + q)) i (nth t.mask (st0 t.mask (thash P w k)) (c + (q + 1)))) := by
        rw [hst, ← jAt, nth_add t.mask c _ (q + 1)]
        exact hpr
      rw [hprobe]
      dsimp only
      have hil : i < L.length := by
        have h1 := (List.getElem?_eq_some_iff.mp hi).1
        rw [Array.length_toList, R.tab.sz] at h1
        exact h1
      obtain ⟨p, hp⟩ : ∃ p, L[i]? = some p := ⟨_, List.getElem?_eq_getElem hil⟩
      have hmem : p ∈ L := List.mem_of_getElem? hp
      have hne : p.2 ≠ k := fun e => hk (List.mem_map.mpr ⟨p, hmem, e⟩)
      have onward : wpAny (model P w) A (searchRest a (.ref x) (thash P w k) true f es t (way t.mask (thash P w k) (c + q)) i (nth t.mask (st0 t.mask (thash P w k)) (c + (q + 1)))) Q E s := by
        unfold searchRest
        rw [R.entry hp]
        dsimp only
        refine wpAny_bind (wpAny_holding (wpAny_eqBool_tuple hu (R.tup p hmem) hx ?_))
        refine wpAny_bind (hstate ?_)
        dsimp only
        refine wp_if_neg (by simp [hne]) ?_
        try refine wpAny_bind (wpAny_pure ?_)
        rw [sameMem]
        dsimp only
        simp only [if_true, slot_live R.tab.ris hi, R.entry hp]
        refine wpAny_bind (wpAny_isSame_ref_self (wpAny_bind (wpAny_pure ?_)))
        simp only [if_true]
        refine wp_if_neg (by simp [hne]) ?_
        exact ih (c + (q + 1)) _ rfl (by omega) (by omega)
      by_cases hl : t.led = true
      · refine wp_if_neg (by simp [hl]) ?_
        try refine wpAny_bind (wpAny_pure ?_)
        exact onward
      · refine wp_if_pos (by simp [hl]) ?_
        refine wpAny_bind (seen_tup hx (fun y hy => ?_) ?_)
        · obtain ⟨e, he, ee⟩ := List.mem_map.mp hy
          have he1 : e ∈ es ∧ e.1 = thash P w k := by simpa using he
          have he2 : e ∈ es.toList := by simpa using he1.1
          rw [R.rows] at he2
          obtain ⟨p2, hp2, e2⟩ := List.mem_map.mp he2
          exact ⟨p2.2, p2.1, by rw [← ee, ← e2], R.tup p2 hp2⟩
        · refine wp_if_neg (by decide) ?_
          try refine wpAny_bind (wpAny_pure ?_)
          exact onward
    · have hprobe : t.probe (fun i => (es[i]?.map (·.1)).getD 0) (thash P w k) (stand.getD (t.probeStart (thash P w k))) = some (.empty (way t.mask (thash P w k) K) none) := by
        have e2 : way t.mask (thash P w k) K = (nth t.mask (nth t.mask (st0 t.mask (thash P w k)) c) (K - c)).j := by
          rw [jAt, show c + (K - c) = K by omega]
        rw [hst, e2]
        exact hpr
      rw [hprobe]
      dsimp only
      exact wpAny_pure hQ
/-- the table laid anew -/
theorem relay (o : Obj) (ho : s.heap.get? a = some o) (hex : o.ExactSet) (hd : o.data = .set es ep t) (hr : es.toList = rowsOf P w L) (T : TB t L.length) (hfl : L.length ≤ t.mask) (nd : (L.map (·.2)).Nodup) (tup : ∀ p ∈ L, IsT P w s.heap p.2 p.1)
    (pl : t.plain = true) (ld : w.params.followText "set-order" = true ∨ t.led = true) {wanted M : Nat} (hw : SetTable.sizeAbove wanted = M + 1) (hM : MK M) (hn : L.length * 5 < M * 3) {Q : Unit → Shared → Prop}
    (hQ : ∀ h' L' es' ep' t', Heap.SameBut a s.heap h' → At P w h' a L' es' ep' t' → L'.Perm L → Q () { s with heap := h' }) : wpAny (model P w) A (setRelay a wanted) Q E s := by
  have hsl := rows_size hr
  obtain ⟨t', order, e, hp, T', em, el, epl⟩ := tb_relaid t (hs := es.map (·.1)) (wanted := wanted) (M := M) (by omega) hM (by rw [Array.size_map, hsl]; omega)
  rw [Array.size_map, hsl] at hp T'
  obtain ⟨L2, r1, r2, _⟩ := order_rows L es order hr hp
  have hs2 : (order.filterMap (es[·]?)).size = es.size := by rw [rows_size r1, r2.length_eq, hsl]
  rw [setRelay_eq]
  refine wpAny_bind (wpAny_setState_of ho hd (by rw [hsl]; exact tb_fits T hfl) ?_)
  dsimp only
  refine wp_if_neg (by rw [hw, sizeLine_eq]; have := hM.le; omega) ?_
  try refine wpAny_bind (wpAny_pure ?_)
  rw [e]
  dsimp only
  refine wpAny_bind ?_
  refine wp_if_neg (by rw [hs2]; simp) ?_
  try refine wpAny_bind (wpAny_pure ?_)
  refine wpAny_pure ?_
  dsimp only
  refine wpAny_storeSet_of ho hd ?_ (by rw [hs2, hsl, sizeLine_eq]; have := hM.le; omega)
  have sb : Heap.SameBut a s.heap (s.heap.update a (Obj.putSet (order.filterMap (es[·]?)) t')) := Heap.SameBut.update ..
  refine hQ _ L2 _ (ep + 1) t' sb ⟨⟨_, store_at ho hd, ⟨hex.1, hex.2.1, hex.2.2⟩, rfl⟩, r1, by rw [r2.length_eq]; exact T', (r2.map (·.2)).nodup_iff.mpr nd, fun p hpm => isT_same (tup p (r2.mem_iff.mp hpm)) ho hd sb, by rw [epl]; exact pl, by rw [el]; exact ld, by rw [r2.length_eq, em]; exact hn⟩ r2
theorem sz5 : SetTable.sizeAbove (SetTable.grown 5) = 31 + 1 := by decide +kernel
theorem sz19 : SetTable.sizeAbove (SetTable.grown 19) = 127 + 1 := by decide +kernel
theorem sz77 : SetTable.sizeAbove (SetTable.grown 77) = 511 + 1 := by decide +kernel
theorem sz307 : SetTable.sizeAbove (SetTable.grown 307) = 2047 + 1 := by decide +kernel
theorem sz1229 : SetTable.sizeAbove (SetTable.grown 1229) = 8191 + 1 := by decide +kernel
/-- one more -/
theorem add (R : At P w s.heap a L es ep t) {x : Addr} {k : List Int} (hx : IsT P w s.heap k x) (hu : A.units < cLine) (hk : k ∉ L.map (·.2)) (hfew : L.length + 1 ≤ 4000) {Q : Bool → Shared → Prop}
    (hQ : ∀ h' L' es' ep' t', Heap.SameBut a s.heap h' → At P w h' a L' es' ep' t' → L'.Perm ((x, k) :: L) → Q true { s with heap := h' }) :
    wpAny (model P w) A (setAddHashed a (.ref x) (thash P w k)) Q E s := by
  obtain ⟨o, ho, hex, hd⟩ := R.ob
  have hsl := R.size
  have hroom := R.room
  obtain ⟨K, hKf, hK, hKb⟩ := firstFree R.tab.mok t.place.toList (by rw [Array.length_toList, R.tab.sz]; omega) (thash P w k)
  have hbig : K < 100000 := by
    have := R.tab.mok.le
    unfold SetTable.turns at hKf
    omega
  unfold setAddHashed
  refine wpAny_holding ?_
  rw [show (100000 : Nat) = 99999 + 1 from rfl, setAddHashedIn_succ]
  refine wpAny_bind (wpAny_setState_of ho hd R.fits ?_)
  dsimp only
  refine wp_if_neg (by simp [byScan, Value.scannable]) ?_
  try refine wpAny_bind (wpAny_pure ?_)
  unfold setSearch
  refine wpAny_bind (seek R hx hu hk hKf hK hKb ?_ 100000 0 none rfl (Nat.zero_le _) (by omega))
  dsimp only
  refine wpAny_bind (wpAny_setState_of ho hd R.fits ?_)
  dsimp only
  obtain ⟨T1, em, el, epl⟩ := R.tab.put (wayLe (thash P w k) K) hK
  have hp1 : (t.put (way t.mask (thash P w k) K)).1.plain = true := by rw [epl]; exact R.plain
  have hp2 : (t.put (way t.mask (thash P w k) K)).2 = SetTable.below t.place (way t.mask (thash P w k) K) := rfl
  generalize t.put (way t.mask (thash P w k) K) = pt at T1 em el hp1 hp2 ⊢
  obtain ⟨t1, p⟩ := pt
  dsimp only at T1 em el hp1 hp2 ⊢
  subst hp2
  first
    | (refine wpAny_bind ?_; refine wp_if_pos hp1 ?_; refine hashBy_tup hx ?_)
    | refine wp_if_pos hp1 (wpAny_bind (hashBy_tup hx ?_))
  simp only [if_true]
  have hin : (SetTable.insertAt es (SetTable.below t.place (way t.mask (thash P w k) K)) (thash P w k, Value.ref x)).toList = rowsOf P w (L.take (SetTable.below t.place (way t.mask (thash P w k) K)) ++ (x, k) :: L.drop (SetTable.below t.place (way t.mask (thash P w k) K))) := by
    rw [SetTable.toList_insertAt, rows_put, R.rows]
  have pm := put_perm L (SetTable.below t.place (way t.mask (thash P w k) K)) (x, k)
  generalize SetTable.insertAt es (SetTable.below t.place (way t.mask (thash P w k) K)) (thash P w k, Value.ref x) = es1 at hin ⊢
  generalize L.take (SetTable.below t.place (way t.mask (thash P w k) K)) ++ (x, k) :: L.drop (SetTable.below t.place (way t.mask (thash P w k) K)) = L1 at pm hin
  have hlen : L1.length = L.length + 1 := pm.length_eq
  have hes : es1.size = L.length + 1 := by rw [rows_size hin, hlen]
  have nd1 : (L1.map (·.2)).Nodup := (pm.map (·.2)).nodup_iff.mpr (List.nodup_cons.mpr ⟨hk, R.nd⟩)
  refine wpAny_bind (wpAny_storeSet_of ho hd ?_ (by rw [hes, sizeLine_eq]; omega))
  have sb : Heap.SameBut a s.heap (s.heap.update a (Obj.putSet es1 t1)) := Heap.SameBut.update ..
  have ho1 := store_at (es' := es1) (t' := t1) ho hd
  generalize s.heap.update a (Obj.putSet es1 t1) = h1 at sb ho1 ⊢
  have tup1 : ∀ p ∈ L1, IsT P w h1 p.2 p.1 := fun p hp => by
    rcases List.mem_cons.mp (pm.mem_iff.mp hp) with e | hp
    · rw [e]; exact isT_same hx ho hd sb
    · exact isT_same (R.tup p hp) ho hd sb
  have ld1 : w.params.followText "set-order" = true ∨ t1.led = true := by rw [el]; exact R.led
  have hfill : t1.fill = L.length + 1 := by
    unfold SetTable.fill
    rw [T1.dm, T1.sz]; rfl
  have hT1 : TB t1 L1.length := by rw [hlen]; exact T1
  by_cases hf : t1.tooFull = true
  · first
      | (refine wpAny_bind ?_; refine wp_if_pos (by simp [hf]) ?_)
      | (refine wp_if_pos (by simp [hf]) ?_; refine wpAny_bind ?_)
    have hfull : (L.length + 1) * 5 ≥ t1.mask * 3 := by
      have h := hf
      unfold SetTable.tooFull at h
      rw [decide_eq_true_eq, hfill] at h
      exact h
    rw [hsl]
    rw [em] at hfull
    have hle : L1.length ≤ t1.mask := by rw [hlen, em]; rcases R.tab.mok with e | e | e | e | e | e <;> (rw [e] at hroom ⊢; omega)
    have go : ∀ M, SetTable.sizeAbove (SetTable.grown (L.length + 1)) = M + 1 → MK M → (L.length + 1) * 5 < M * 3 →
        wpAny (model P w) A (setRelay a (SetTable.grown (L.length + 1))) (fun _ s' => wpAny (model P w) A (pure true) Q E s') E { s with heap := h1 } := fun M h1' h2' h4' =>
      relay (s := { s with heap := h1 }) _ ho1 ⟨hex.1, hex.2.1, hex.2.2⟩ rfl hin hT1 hle nd1 tup1 hp1 ld1 h1' h2' (by rw [hlen]; exact h4') fun h2 L2 es2 ep2 t2 sb2 R2 pm2 => wpAny_pure (hQ h2 L2 es2 ep2 t2 (sb.trans sb2) R2 (pm2.trans pm))
    rcases R.tab.mok with e | e | e | e | e | e
    · have e2 : L.length = 4 := by rw [e] at hroom hfull; omega
      exact go 31 (by rw [e2]; exact sz5) (.inr (.inl rfl)) (by omega)
    · have e2 : L.length = 18 := by rw [e] at hroom hfull; omega
      exact go 127 (by rw [e2]; exact sz19) (.inr (.inr (.inl rfl))) (by omega)
    · have e2 : L.length = 76 := by rw [e] at hroom hfull; omega
      exact go 511 (by rw [e2]; exact sz77) (.inr (.inr (.inr (.inl rfl)))) (by omega)
    · have e2 : L.length = 306 := by rw [e] at hroom hfull; omega
      exact go 2047 (by rw [e2]; exact sz307) (.inr (.inr (.inr (.inr (.inl rfl))))) (by omega)
    · have e2 : L.length = 1228 := by rw [e] at hroom hfull; omega
      exact go 8191 (by rw [e2]; exact sz1229) (.inr (.inr (.inr (.inr (.inr rfl))))) (by omega)
    · exfalso; rw [e] at hfull; omega
  · first
      | refine wp_if_neg (by simp [hf]) ?_
      | (refine wpAny_bind ?_; refine wp_if_neg (by simp [hf]) ?_; refine wpAny_pure ?_)
    refine wpAny_pure (hQ h1 L1 es1 (ep + 1) t1 sb ⟨⟨_, ho1, ⟨hex.1, hex.2.1, hex.2.2⟩, rfl⟩, hin, hT1, nd1, tup1, hp1, ld1, ?_⟩ pm)
    have h := hf
    unfold SetTable.tooFull at h
    rw [decide_eq_true_eq, hfill] at h
    rw [hlen]
    omega
end
end BS
end
section
set_option Elab.async false
set_option linter.all false
set_option maxRecDepth 100000
set_option maxHeartbeats 4000000
namespace BS
open PySem PySem.Spec PyProof.Rows L2
section
variable {P : Program} {w : World} {A : Around} {E : Value → Shared → Prop} {s : Shared}
theorem At.keep {h h' : Heap} {a : Addr} {L : List (Addr × List Int)} {es : Array (Int × Value)} {ep : Nat} {t : SetTable} (R : At P w h a L es ep t) (ha : ∀ o, h.get? a = some o → h'.get? a = some o) (ht : ∀ p ∈ L, IsT P w h' p.2 p.1) : At P w h' a L es ep t := by
  obtain ⟨o, ho, r⟩ := R.ob
  exact ⟨⟨o, ha o ho, r⟩, R.rows, R.tab, R.nd, ht, R.plain, R.led, R.room⟩
abbrev newSet (w : World) : Obj := { cls := .type "set", dict := none, data := .set #[] 0 (.fresh 0 0 (!w.params.followText "set-order")) }
theorem at_new {h : Heap} {a : Addr} (ho : h.get? a = some (newSet w)) : At P w h a [] #[] 0 (.fresh 0 0 (!w.params.followText "set-order")) where
  ob := ⟨_, ho, ⟨rfl, rfl, rfl⟩, rfl⟩
  rows := rfl
  tab := ⟨List.Pairwise.nil, rfl, rfl, .inl rfl, fun x hx => (by cases hx)⟩
  nd := List.nodup_nil
  tup := fun p hp => (by cases hp)
  plain := rfl
  led := by
    show _ ∨ (!w.params.followText "set-order") = true
    cases w.params.followText "set-order"
    · exact .inr rfl
    · exact .inl rfl
  room := by show 0 * 5 < 7 * 3; decide
/-- set.update's loop, unlike tuples -/
theorem upd_loop {I : Addr} {fp wr : List Addr} {G : Array GenState → Array GenState → Prop} {n : Nat} {Pv : Nat → Value → Prop} {St : Nat → Shared → Prop} {R : Result → Shared → Prop}
    (W : WalksS P w A.in1 I fp wr G n Pv St) (S : Addr) (hSf : S ∉ fp) (ks : List (Addr × List Int)) (hn : n = ks.length) (hfew : ks.length ≤ 4000) (hnd : (ks.map (·.2)).Nodup) (hval : ∀ i v, Pv i v → ∃ p, ks[i]? = some p ∧ v = .ref p.1)
    (h0 : Heap) (hk : ∀ p ∈ ks, IsT P w h0 p.2 p.1) (hS0 : h0.get? S = none) (hw0 : ∀ b ∈ wr, h0.get? b = none) (hu : A.in1.units < cLine) :
    ∀ (k i : Nat) (s : Shared), n - i = k → i ≤ n → St i s → (∀ b o, h0.get? b = some o → s.heap.get? b = some o) → (∃ L es ep t, At P w s.heap S L es ep t ∧ L.Perm (ks.take i)) →
      (∀ s' L es ep t, Moved (S :: wr) G s s' → At P w s'.heap S L es ep t → L.Perm ks → (∀ b o, h0.get? b = some o → s'.heap.get? b = some o) → R (.ok (.ret .none)) s') →
      codeAny (model P w) A (.builtin "set.update.loop" ⟨[.ref S, .ref I], []⟩) R s := by
  have hSw : S ∉ wr := fun h => hSf (W.sub _ h)
  have hsub : ∀ b ∈ wr, b ∈ S :: wr := fun b hb => List.mem_cons_of_mem _ hb
  have keepM : ∀ {s s' : Shared}, Moved wr G s s' → (∀ b o, h0.get? b = some o → s.heap.get? b = some o) → ∀ b o, h0.get? b = some o → s'.heap.get? b = some o := fun hm hkp b o e =>
    hm.heap b o (fun hb => by rw [hw0 b hb] at e; cases e) (hkp b o e)
  intro k
  induction k with
  | zero =>
    intro i s hk' hi hst hkp ⟨L, es, ep, t, hS, g⟩ hR
    have hin : i = n := by omega
    subst hin
    rw [hn, List.take_length] at g
    refine codeAny_builtin F.entry_set_update_loop ?_
    rw [Around.under_plainId F.plain_set_update_loop _]
    show wpAny _ A.in1 (pyNext (.ref I) >>= _) _ _ s
    refine wpAny_bind (W.done s _ _ hst fun s' hm => ?_)
    show wpAny _ A.in1 (ret Value.none) _ _ s'
    have hkp' := keepM hm hkp
    exact wpAny_pure (hR s' L es ep t (hm.mono hsub) (hS.keep (fun o e => hm.heap S o hSw e) fun p hp => isT_keep (hk p (g.mem_iff.mp hp)) hkp') g hkp')
  | succ k ih =>
    intro i s hk' hi hst hkp ⟨L, es, ep, t, hS, g⟩ hR
    have hlt : i < n := by omega
    refine codeAny_builtin F.entry_set_update_loop ?_
    rw [Around.under_plainId F.plain_set_update_loop _]
    show wpAny _ A.in1 (pyNext (.ref I) >>= _) _ _ s
    refine wpAny_bind (W.item i s _ _ hlt hst fun v s' hP hst' hm => ?_)
    obtain ⟨p, hp, rfl⟩ := hval i v hP
    have hkp' := keepM hm hkp
    have hS' : At P w s'.heap S L es ep t := hS.keep (fun o e => hm.heap S o hSw e) fun q hq => isT_keep (hk q (List.mem_of_mem_take (g.mem_iff.mp hq))) hkp'
    have hx : IsT P w s'.heap p.2 p.1 := isT_keep (hk p (List.mem_of_getElem? hp)) hkp'
    have hlen : L.length = i := by
      rw [g.length_eq, List.length_take]
      omega
    have hnew : p.2 ∉ L.map (·.2) := fun hm2 => by
      have h2 : p.2 ∈ (ks.take i).map (·.2) := (g.map (·.2)).mem_iff.mp hm2
      obtain ⟨q, hq, e⟩ := List.mem_map.mp h2
      obtain ⟨j, hj, ej⟩ := List.mem_take_iff_getElem.mp hq
      have hil : i < ks.length := by omega
      have hji : j < i := by omega
      have hp' : ks[i] = p := by rw [List.getElem?_eq_getElem hil] at hp; exact Option.some.inj hp
      have pw := List.pairwise_iff_getElem.mp hnd j i (by rw [List.length_map]; omega) (by rw [List.length_map]; exact hil) hji
      rw [List.getElem_map, List.getElem_map, hp'] at pw
      exact pw (by rw [ej]; exact e)
    show wpAny _ A.in1 (holding [Value.ref p.1] (setAdd S (.ref p.1)) >>= _) _ _ s'
    refine wpAny_bind (wpAny_holding ?_)
    unfold setAdd
    refine wpAny_holding ?_
    refine wpAny_bind (wpAny_pyHash_tuple hu hx ?_)
    refine add (s := { s' with toks := s'.toks + (p.2.length + 1) }) hS' hx hu hnew (by omega) fun h' L' es' ep' t' hsb hS2 pm => ?_
    have g' : L'.Perm (ks.take (i + 1)) := by
      rw [take_next hp]
      exact pm.trans ((g.cons p).trans (List.perm_append_singleton p _).symm)
    have hkp2 : ∀ b o, h0.get? b = some o → h'.get? b = some o := fun b o e => (hsb.2 b (fun z => by rw [z, hS0] at e; cases e)).trans (hkp' b o e)
    refine wpAny_pure ⟨plainId_quiet F.plain_set_update_loop _, ih (i + 1) _ (by omega) hlt (W.frame _ s' _ _ hst' (Nat.le_add_right _ _) fun b hb o e => ?_) hkp2 ⟨L', es', ep', t', hS2, g'⟩ fun s'' L2 es2 ep2 t2 hm'' hS'' g'' hkp'' => ?_⟩
    · rw [hsb.2 b (fun h : b = S => hSf (by rw [← h]; exact hb))]; exact e
    · refine hR s'' L2 es2 ep2 t2 (Moved.trans W.gtrans ((hm.mono hsub).then_heap (Nat.le_add_right _ _) fun b o hb e => ?_) hm'') hS'' g'' hkp''
      rw [hsb.2 b (fun h : b = S => hb (by rw [h]; exact List.mem_cons_self))]; exact e
set_option maxRecDepth 100000 in
set_option maxHeartbeats 3200000 in
/-- set(t), t a tuple of unlike tuples of ints -/
theorem call_set_tup {l : Addr} {items : Array Value} (ks : List (Addr × List Int)) {Q : Value → Shared → Prop} (hh : A.handled = none) (hl : s.heap.IsTuple l items) (hit : items.toList = ks.map fun p => Value.ref p.1)
    (hk : ∀ p ∈ ks, IsT P w s.heap p.2 p.1) (hfew : ks.length ≤ 4000) (hnd : (ks.map (·.2)).Nodup) (hu : A.units + 3 < cLine)
    (h : ∀ (h' : Heap) (tk : Nat) L es ep t, At P w h' s.heap.objs.size L es ep t → L.Perm ks → (∀ b o, s.heap.get? b = some o → h'.get? b = some o) → Q (.ref s.heap.objs.size) { s with heap := h', toks := tk }) :
    wpAny (model P w) A (call (.type "set") [.ref l]) Q E s := by
  have hisz : items.size = ks.length := by
    have q := congrArg List.length hit
    rw [Array.length_toList, List.length_map] at q
    exact q
  obtain ⟨c, tl, hmro⟩ := F.called_set.mro
  have hmade := F.called_set.made
  have hsub := F.called_set.sub
  refine wpAny_call (codeAny_of_tree ?_)
  show wpAny _ _ (callAny (.type "set") _) _ _ _
  refine wpAny_pure ⟨Code.quiet_builtin _ (by decide +kernel), codeAny_builtin F.entry_type_call ?_⟩
  rw [Around.under_plain (weight_type_call_type "set" [.ref l] []) rfl]
  have h1 := F.called_set.notType
  have h2 := F.called_set.canCreate
  have hct := F.typeCall_set_1 (.ref l)
  repeat (any_goals (first | assumption | wp_step))

  refine codeAny_mono (code_set_led1 (.ref l) (E := E) (Q₁ := fun obj s₁ => obj = .ref s.heap.objs.size ∧ s₁ = { s with heap := s.heap.push (newSet w) }) ⟨rfl, rfl⟩) fun r s₁ hr => ?_
  cases r with
  | error e => exact hr
  | ok fl =>
    cases fl with
    | ret obj =>
      obtain ⟨rfl, rfl⟩ := hr
      have hS : (s.heap.push (newSet w)).get? s.heap.objs.size = some (newSet w) := Heap.get?_push_size _ rfl
      have hT : Shared.TypeIs { s with heap := s.heap.push (newSet w) } (.ref s.heap.objs.size) "set" := ⟨_, hS, rfl⟩
      have hli := F.called_set.init.lookup
      have hbi := F.called_set.init.bind (.ref s.heap.objs.size)
      repeat (any_goals (first | assumption | wp_step))

      refine codeAny_mono (codeAny_call_builtin (R := wants (fun r s₂ => r = .none ∧ ∃ h' tk L es ep t, s₂ = { s with heap := h', toks := tk } ∧ At P w h' s.heap.objs.size L es ep t ∧ L.Perm ks ∧
          (∀ b o, s.heap.get? b = some o → h'.get? b = some o)) E) F.called_set.init.plain F.entry_set_init (check_set_init_1 hT ?_)) fun r₂ s₂ hr₂ => ?_
      · obtain ⟨ol, hol, hcl, nl, hdl⟩ := hl
        obtain ⟨ocls, odict, odata, oslots⟩ := ol
        simp only at hcl hdl
        subst hcl; subst hdl
        have hol' : (s.heap.push (newSet w)).get? l = some { cls := .type "tuple", dict := odict, data := .seq items nl, slots := oslots } := Heap.get?_push_of_some _ hol
        have hsls := F.sub_tuple_set
        have hslf := F.sub_tuple_frozenset
        have hne : (Value.type "tuple" == Value.type "dict") = false := by decide
        have hl1 : (s.heap.push (newSet w)).IsTuple l items := ⟨_, hol', rfl, nl, rfl⟩
        unfold Builtin.«set.__init__» noKeywords Builtin.Frozenset.updateFrom
        generalize hPI : pyIter = PI
        wp_walk
        subst hPI

        refine wpAny_pyIter_tuple hl1 ?_
        refine wpAny_bind (wpAny_runValue ?_)
        have hlS : l < s.heap.objs.size := Heap.lt_size hol
        have hh3 : A.in1.in1.in1.handled = none := by simp [hh]
        have hneI : l ≠ (s.heap.push (newSet w)).objs.size := by
          rw [Heap.size_push]; exact Nat.ne_of_lt (Nat.lt_succ_of_lt hlS)
        have hSf : s.heap.objs.size ∉ [(s.heap.push (newSet w)).objs.size, l] := by
          rw [Heap.size_push]; simp only [List.mem_cons, List.mem_singleton, List.not_mem_nil, or_false, not_or]
          exact ⟨Nat.ne_of_lt (Nat.lt_succ_self _), Nat.ne_of_gt hlS⟩
        have hval : ∀ (i : Nat) (v : Value), items[i]? = some v → ∃ p, ks[i]? = some p ∧ v = .ref p.1 := fun i v hv => by
          have q : items.toList[i]? = some v := by rw [Array.getElem?_toList]; exact hv
          rw [hit, List.getElem?_map] at q
          obtain ⟨p, e1, e2⟩ := Option.map_eq_some_iff.mp q
          exact ⟨p, e1, e2.symm⟩
        have none_of : ∀ b, s.heap.objs.size ≤ b → s.heap.get? b = none := fun b hb => Heap.get?_none_of_le hb
        refine upd_loop ((Walks.tuple hh3 _ l hneI items).toS) s.heap.objs.size
          hSf ks hisz hfew hnd hval s.heap hk (none_of _ (Nat.le_refl _)) (fun b hb => none_of b (by
            rw [List.mem_singleton.mp hb, Heap.size_push]
            exact Nat.le_succ _)) hu (items.size - 0) 0 _ (by omega) (Nat.zero_le _)
          ⟨⟨_, Heap.get?_push_size _ rfl, rfl, rfl⟩, (hl1.push _)⟩ (fun b o e => Heap.get?_push_of_some _ (Heap.get?_push_of_some _ e)) ?hS0 ?hR
        case hS0 =>
          have hget : ((s.heap.push (newSet w)).push { cls := .type "tuple_iterator", data := .fields #[.ref l, .int 0 0] }).get? s.heap.objs.size = some (newSet w) := Heap.get?_push_of_some _ hS
          exact ⟨[], #[], 0, _, at_new hget, .refl _⟩
        case hR =>
          intro s' L es ep t hm hS' g' hkp
          obtain ⟨h', g2, d', tk', os'⟩ := s'
          have eg : g2 = s.gens := hm.gens
          have ed : d' = s.drawn := hm.drawn
          have eo : os' = s.os := hm.os
          subst eg; subst ed; subst eo
          show wpAny _ _ _ _ _ _
          refine wpAny_pure ?_
          show wpAny _ _ (ret Value.none) _ _ _
          exact wpAny_pure ⟨rfl, h', tk', L, es, ep, t, rfl, hS', g', hkp⟩

      · cases r₂ with
        | error e => exact hr₂
        | ok fl₂ =>
          cases fl₂ with
          | ret r =>
            obtain ⟨rfl, h', tk, L, es, ep, t, rfl, hS', g', hk'⟩ := hr₂
            repeat (any_goals (first | assumption | wp_step))
            exact h _ _ _ _ _ _ hS' g' hk'
          | _ => exact hr₂.elim
    | _ => exact hr.elim
/-! ### sorted, any number of tuples -/
theorem swo_code (f : Value → Int) : SrtO.Swo fun u v => decide (f u < f v) := by
  refine ⟨fun x y h => ?_, fun x y z h1 h2 => ?_⟩
  · have := of_decide_eq_true h
    exact decide_eq_false (by omega)
  · have a := of_decide_eq_false h1
    have b := of_decide_eq_false h2
    exact decide_eq_false (by omega)
theorem tups_sortable {a : Addr} {vs : List Value} {d : Nat} {B : Int} (hd : 1 ≤ d) (h2 : 2 ≤ vs.length) (x : TS.TupsOk s.heap d B vs) (ha : ∀ o, s.heap.get? a = some o → o.cls ≠ .type "tuple") (f : Value → Int) (hf : ∀ v, v ∈ vs → ∀ ns, TS.TupInts s.heap v ns → f v = TS.code B ns) :
    SrtO.SortableO P w A s a vs fun u v => decide (f u < f v) := by
  intro h' keep
  have kp : ∀ b o, s.heap.get? b = some o → o.cls = .type "tuple" → h'.get? b = some o := fun b o e c => keep b o (fun z => by subst z; exact ha o e c) e
  have x' : TS.TupsOk h' d B vs := x.keeps kp
  obtain ⟨fs, k1, k2, k3⟩ := TS.firsts_of hd vs x'
  refine ⟨tuples' true, fun Q E hq => ?_, fun p q hp hq => ?_⟩
  · refine PySem.W.kat_kind (T := .type "int") k1 (by omega) (fun g hm => ?_) (by rfl) ?_
    · obtain ⟨n, t, rfl⟩ := k3 g hm
      exact PySem.W.Looks.of_pure rfl
    · have e : (Value.type "int" != Value.type "tuple") = true := by first | decide +kernel | rfl | decide
      rw [e]
      exact hq
  · obtain ⟨ns, tp, lp, bp⟩ := x _ hp
    obtain ⟨ms, tq, lq, bq⟩ := x _ hq
    have ep := hf _ hp _ tp
    have eq2 := hf _ hq _ tq
    have tp' := tp.keeps kp
    have tq' := tq.keeps kp
    show wpAny (model P w) A (keyLt' (tuples' true) p.1 q.1) (fun r s' => s' = { s with heap := h' } ∧ r = decide (f p.1 < f q.1)) (fun _ _ => False) { s with heap := h' }
    rw [ep, eq2]
    obtain ⟨b1, xs, e1, ⟨o, ho, hc, n, hdt⟩, i⟩ := tp'
    obtain ⟨b2, ys, e2, ⟨o', ho', hc', n', hdt'⟩, i'⟩ := tq'
    rw [e1, e2]
    refine PySem.W.kat_lt ho hdt ho' hdt' ?_
    have sz : decide (xs.size < ys.size) = false := by
      have l1 := i.length
      have l2 := i'.length
      rw [Array.length_toList] at l1 l2
      exact decide_eq_false (by omega)
    rw [sz]
    exact TS.lex_ints 0 i i' (by omega) bp bq ⟨rfl, rfl⟩
end
end BS
end
section
set_option Elab.async false
set_option linter.all false
set_option maxRecDepth 100000
set_option maxHeartbeats 4000000
namespace BS
open PySem PySem.Spec PyProof.Rows L2
section
variable {P : Program} {w : World} {A : Around} {E : Value → Shared → Prop} {s : Shared} {a : Addr} {L : List (Addr × List Int)} {es : Array (Int × Value)} {ep : Nat} {t : SetTable}
/-- sorted(set) -/
theorem sorted_at {Q : Value → Shared → Prop} (R : At P w s.heap a L es ep t) (hh : A.handled = none) (hfew : L.length ≤ 4000)
    {d : Nat} {B : Int} (hd1 : 1 ≤ d) (hB : ∀ p ∈ L, p.2.length = d ∧ TS.Bd B p.2)
    (hQ : ∀ s' p (out : List Value) (c : Nat), (∀ b o, s.heap.get? b = some o → s'.heap.get? b = some o) → s'.gens = s.gens → s'.os = s.os → s.heap.objs.size ≤ p →
      s'.heap.get? p = some (seqObj "list" out.toArray c) → out.Perm (L.map fun q => Value.ref q.1) → (∀ q ∈ L, TS.intsOf s'.heap (.ref q.1) = q.2) → out.Pairwise (fun u v => TS.code B (TS.intsOf s'.heap u) ≤ TS.code B (TS.intsOf s'.heap v)) → Q (.ref p) s') :
    wpAny (model P w) A (call (.builtin "sorted") [.ref a]) Q E s := by
  obtain ⟨o, ho, hex, hd⟩ := R.ob
  have hsz := R.size
  refine Calls.call_function_entry kind_sorted plain_sorted entry_sorted (args_sorted1 _) ?_
  unfold Builtin.«sorted»
  refine wpAny_bind (m := checkCount "sorted" 1 1 _) (wpAny_pure ?_)
  refine wpAny_bind (collect_set (A := A.in1) hh ⟨o, ho, hex.1, hd⟩ R.fits (by unfold scanBound; omega) R.tab.ris R.led fun s1 vs k1 hz g1 o1 pm => ?_)
  have hes : es.toList.map (·.2) = L.map fun q => Value.ref q.1 := by
    rw [R.rows]
    unfold rowsOf
    rw [List.map_map]; rfl
  rw [hes] at pm
  have hvl : vs.length = L.length := by rw [pm.length_eq, List.length_map]
  refine wpAny_bind (wpAny_newList ?_ (by rw [sizeLine_eq]; omega))
  have hoL : (s1.heap.push (seqObj "list" vs.toArray 0)).get? s1.heap.objs.size = some (seqObj "list" vs.toArray 0) := Heap.get?_push_size _ rfl
  have tk : ∀ q ∈ L, TS.TupInts (s1.heap.push (seqObj "list" vs.toArray 0)) (.ref q.1) q.2 := fun q hq => tupInts_of (P := P) (w := w) (isT_keep (R.tup q hq) fun b u e => Heap.get?_push_of_some _ (k1 b u e))
  have x : TS.TupsOk (s1.heap.push (seqObj "list" vs.toArray 0)) d B vs := fun v hv => by
    obtain ⟨q, hq, e⟩ := List.mem_map.mp (pm.mem_iff.mp hv)
    rw [← e]
    exact ⟨q.2, tk q hq, (hB q hq).1, (hB q hq).2⟩
  refine wpAny_bind (wpAny_holding (wpAny_call_entry slot_list_sort ⟨_, hoL, rfl⟩ entry_list_sort
    (SrtO.list_sort_ord (s := { s1 with heap := s1.heap.push (seqObj "list" vs.toArray 0) }) (swo_code fun v => TS.code B (TS.intsOf (s1.heap.push (seqObj "list" vs.toArray 0)) v)) hoL (by rw [hvl, sizeLine_eq]; omega)
      (fun h2 => tups_sortable hd1 h2 x (fun o e => ?_) _ fun v _ ns t => ?_) fun out a1 a2 => ⟨_, rfl, ?_⟩) (args_list_sort _)))
  · have e' : some o = some (seqObj "list" vs.toArray 0) := e.symm.trans hoL
    cases e'
    intro c
    exact absurd (Value.type.inj c) (by decide)
  · show TS.code B (TS.intsOf _ v) = TS.code B ns
    rw [t.ints]
  · obtain ⟨c, hc⟩ := sortedHeap_at (vs := vs) (out := out.toArray) hoL
    have kp : ∀ b u, s1.heap.get? b = some u → (sortedHeap (s1.heap.push (seqObj "list" vs.toArray 0)) s1.heap.objs.size vs out.toArray).get? b = some u := fun b u e => by
      have hlt := Heap.lt_size e
      rw [sortedHeap_old (Nat.ne_of_lt hlt) (by rw [size_push']; exact Nat.lt_succ_of_lt hlt)]
      exact Heap.get?_push_of_some _ e
    have tk2 : ∀ q ∈ L, TS.TupInts (sortedHeap (s1.heap.push (seqObj "list" vs.toArray 0)) s1.heap.objs.size vs out.toArray) (.ref q.1) q.2 := fun q hq => tupInts_of (P := P) (w := w) (isT_keep (R.tup q hq) fun b u e => kp b u (k1 b u e))
    refine wpAny_pure ⟨_, rfl, hQ _ s1.heap.objs.size out c (fun b u e => kp b u (k1 b u e)) g1 o1 hz hc (a2.perm.trans pm) (fun q hq => (tk2 q hq).ints) ?_⟩
    refine List.Pairwise.imp_of_mem (fun {u v} hu hv h => ?_) a1
    obtain ⟨q, hq, e⟩ := List.mem_map.mp (pm.mem_iff.mp (a2.perm.mem_iff.mp hu))
    obtain ⟨r, hr, e2⟩ := List.mem_map.mp (pm.mem_iff.mp (a2.perm.mem_iff.mp hv))
    subst e e2
    have h' := of_decide_eq_false (p := _ < _) h
    rw [(tk q hq).ints, (tk r hr).ints] at h'
    rw [(tk2 q hq).ints, (tk2 r hr).ints]
    omega
end
end BS
end
section
set_option Elab.async false
set_option linter.all false
set_option maxRecDepth 100000
set_option maxHeartbeats 4000000
namespace DL
open PySem PySem.Spec PyProof.Rows L2
theorem perm_map_inv {α β : Type} {f : α → β} {m : List α} {l : List β} (h : l.Perm (m.map f)) : ∃ m' : List α, m'.Perm m ∧ m'.map f = l := by
  have key : ∀ (a b : List β), a.Perm b → ∀ m : List α, m.map f = a → ∃ m' : List α, m'.Perm m ∧ m'.map f = b := by
    intro a b h
    induction h with
    | nil => intro m e; exact ⟨m, .refl _, e⟩
    | @cons x l1 l2 _ ih =>
      intro m e
      obtain ⟨y, m1, rfl, e1, e2⟩ := List.map_eq_cons_iff.mp e
      obtain ⟨m', p, e3⟩ := ih m1 e2
      exact ⟨y :: m', p.cons y, by rw [List.map_cons, e1, e3]⟩
    | @swap x y l1 =>
      intro m e
      obtain ⟨y', m1, rfl, e1, e2⟩ := List.map_eq_cons_iff.mp e
      obtain ⟨x', m2, rfl, e3, e4⟩ := List.map_eq_cons_iff.mp e2
      exact ⟨x' :: y' :: m2, .swap _ _ _, by rw [List.map_cons, List.map_cons, e1, e3, e4]⟩
    | @trans l1 l2 l3 _ _ ih1 ih2 =>
      intro m e
      obtain ⟨m1, p1, e1⟩ := ih1 m e
      obtain ⟨m2, p2, e2⟩ := ih2 m1 e1
      exact ⟨m2, p2.trans p1, e2⟩
  exact key _ _ h.symm m rfl
section
variable {X : Cx}
/-- sorted(set(t)), t a tuple of unlike tuples of ints -/
def tSortSet (K : PySem.W.Frag) (ta : TE) : TE := fun σ H Q => ta σ H fun x H1 => ∃ (l : Addr) (T : List (D × Addr × List Int)) (d : Nat) (B : Int), x = .ref l ∧ SqT K H1 l (T.map fun q => V.ref q.2.1) ∧ (∀ q ∈ T, SqT K H1 q.2.1 (q.2.2.map V.int)) ∧ T.length ≤ 4000 ∧ (T.map (·.2.2)).Nodup ∧ 1 ≤ d ∧
  (∀ q ∈ T, q.2.2.length = d ∧ TS.Bd B q.2.2) ∧ ∀ (T' : List (D × Addr × List Int)) (p : Addr), T'.Perm T → T'.Pairwise (fun q r => TS.code B q.2.2 ≤ TS.code B r.2.2) → H1 p = none → Q (.ref p) (upd H1 p (.lst (T'.map fun q => V.ref q.2.1)))
theorem pe_sortSet {a : Expr} {ta : TE} {p p2 q pos : Pos} (hc : X.calm = true) (hu : X.A.units + 64 < cLine) (hg : Gl X "sorted") (hm : X.mg "sorted" = none) (hg2 : Gl X "set") (hm2 : X.mg "set" = none) (ha : PE X a ta)
    (na : starEach [a] X.env = (false, eval a X.env) :: starEach [] X.env := by rfl) : PE X (.Call (.Name "sorted" p) [.Call (.Name "set" p2) [a] [] q] [] pos) (tSortSet X.K ta) := by
  refine ⟨fun pins s σ H Q I h => ?_⟩
  refine Call_ (ld_blt I hg hm bt_sorted ?_)
  refine PyProof.Rows.callWith_builtin1 (PyProof.Rows.args_cons ?_ rfl) rfl rfl
  refine Call_ (ld_blt I hg2 hm2 bt_set ?_)
  refine PyProof.Rows.callWith_type1 (PyProof.Rows.args_cons (thn (ha.run pins s σ H _ I h) fun v s1 ⟨x, H1, I1, r1, q1⟩ => PyProof.Rows.args_nil ?_) na) na rfl
  obtain ⟨l, T, d, B, rfl, hq, hk, hl, hnd, hd, hB, q1⟩ := q1
  cases r1
  obtain ⟨its, r, pl, hz⟩ := I1.tuple hq
  have hits : its = (T.map (·.2)).map fun p => Value.ref p.1 := by
    rw [List.map_map]
    have := refs_of_vals (ks := T.map (·.2)) (us := its) (by rw [List.map_map]; exact r)
    rw [List.map_map] at this
    exact this
  refine BS.call_set_tup (P := X.prog) (w := X.w) (T.map (·.2)) (I1.ok.hd hc) (show s1.heap.IsTuple l its.toArray from pl) (by simpa using hits) (fun p hp => ?_) (by rw [List.length_map]; exact hl) (by rw [List.map_map]; exact hnd) (by omega) fun h' tk L es ep t R pm hk' => ?_
  · obtain ⟨q, hq, e⟩ := List.mem_map.mp hp
    subst e
    exact I1.isT (hk q hq)
  refine PyProof.Rows.args_nil ?_
  have I2 : Inv X pins σ H1 { s1 with heap := h', toks := tk } := I1.kept hk'
  have hBL : ∀ p ∈ L, p.2.length = d ∧ TS.Bd B p.2 := fun p hp => by
    obtain ⟨q, hq, e⟩ := List.mem_map.mp (pm.mem_iff.mp hp)
    rw [← e]; exact hB q hq
  refine BS.sorted_at R (I1.ok.hd hc) (by rw [pm.length_eq, List.length_map]; exact hl) hd hBL fun s' pn out c k g o hp hg hout hint pw => ?_
  have hout2 : out.Perm (T.map fun q => Value.ref q.2.1) := by
    have := hout.trans (pm.map fun q => Value.ref q.1)
    rw [List.map_map] at this
    exact this
  obtain ⟨T', pT, eT⟩ := perm_map_inv hout2
  have hlen : (T'.map fun q => V.ref q.2.1).length ≤ sizeLine := by rw [List.length_map, pT.length_eq, sizeLine_eq]; omega
  have hn : H1 pn = none := I2.hok.fresh hp
  have hv : Vals (T'.map fun q => V.ref q.2.1) out := by
    rw [← eT]
    have := vals_of_refs (T'.map (·.2))
    rw [List.map_map, List.map_map] at this
    exact this
  have J : Inv X pins σ (upd H1 pn (.lst (T'.map fun q => V.ref q.2.1))) { s1 with heap := s'.heap, gens := s'.gens, drawn := s'.drawn, toks := s'.toks } :=
    Inv.call (s := { s1 with heap := h', toks := tk }) I2 (ch := []) (Un.laid k hp hn) (I2.hok.laid k hp ⟨hlen, out, c, hv, hg⟩) (by rw [g]; exact I1.bare) (fun _ z => nomatch z)
  have e : s' = { s1 with heap := s'.heap, gens := s'.gens, drawn := s'.drawn, toks := s'.toks } := by
    cases s'
    cases s1
    cases o
    rfl
  rw [e]
  refine ⟨.ref pn, _, J, rfl, q1 T' pn pT ?_ hn⟩
  rw [← eT, List.pairwise_map] at pw
  refine List.Pairwise.imp_of_mem (fun {q r} hq hr h => ?_) pw
  have m1 : q.2 ∈ L := pm.mem_iff.mpr (List.mem_map.mpr ⟨q, pT.mem_iff.mp hq, rfl⟩)
  have m2 : r.2 ∈ L := pm.mem_iff.mpr (List.mem_map.mpr ⟨r, pT.mem_iff.mp hr, rfl⟩)
  rw [hint _ m1, hint _ m2] at h
  exact h
/-- the ints of a tuple -/
def tI (d : D) : List Int := ((tupOf d).bind intsD).getD []
def isTI (d : D) : Prop := ∃ ns, (tupOf d).bind intsD = some ns
def dSortSet (ta : TED) : TED := fun δ M Q => ta δ M fun x M1 => match tupOf x with
  | some ds => (∀ y ∈ ds, isTI y) ∧ ds.length ≤ 4000 ∧ (ds.map tI).Nodup ∧ ∃ (d : Nat) (B : Int), 1 ≤ d ∧ (∀ y ∈ ds, (tI y).length = d ∧ TS.Bd B (tI y)) ∧
      ∀ ds' : List D, ds'.Perm ds → ds'.Pairwise (fun x y => TS.code B (tI x) ≤ TS.code B (tI y)) → Q (.lst ds') M1
  | none => False
theorem reps_T {K : PySem.W.Frag} {Z : Im} {M : Mem} {H : Hp} (R : Rel K Z M H) : ∀ {ds : List D} {vs : List V}, Reps K Z ds vs → (∀ y ∈ ds, isTI y) →
    ∃ T : List (D × Addr × List Int), T.map (·.1) = ds ∧ vs = T.map (fun q => V.ref q.2.1) ∧ ∀ q ∈ T, q.2.2 = tI q.1 ∧ SqT K H q.2.1 (q.2.2.map V.int) ∧ Rep K Z q.1 (.ref q.2.1)
  | _, _, .nil, _ => ⟨[], rfl, rfl, fun q h => nomatch h⟩
  | _, _, .cons (d := d) r rr, h => by
    obtain ⟨T, e1, e2, e3⟩ := reps_T R rr fun y hy => h y (List.mem_cons_of_mem _ hy)
    obtain ⟨ns, e⟩ := h d List.mem_cons_self
    obtain ⟨es, e4, e5⟩ := Option.bind_eq_some_iff.mp e
    obtain ⟨a, us, eu, _, hs, rv⟩ := tup_sq R r e4
    subst eu
    refine ⟨(d, a, ns) :: T, by rw [List.map_cons, e1], by rw [List.map_cons, e2], fun q hq => ?_⟩
    rcases List.mem_cons.mp hq with z | hq
    · subst z
      exact ⟨by unfold tI; rw [e]; rfl, by rw [← ints_of rv e5]; exact hs, r⟩
    · exact e3 q hq
theorem reps_of_T {K : PySem.W.Frag} {Z : Im} : ∀ {T : List (D × Addr × List Int)}, (∀ q ∈ T, Rep K Z q.1 (.ref q.2.1)) → Reps K Z (T.map (·.1)) (T.map fun q => V.ref q.2.1)
  | [], _ => .nil
  | q :: T, h => .cons (h q List.mem_cons_self) (reps_of_T fun r hr => h r (List.mem_cons_of_mem _ hr))
theorem qe_sortSet {a : Expr} {ta : TED} {p p2 q pos : Pos} (hc : X.calm = true) (hu : X.A.units + 64 < cLine) (hg : Gl X "sorted") (hm : X.mg "sorted" = none) (hg2 : Gl X "set") (hm2 : X.mg "set" = none) (ha : QE X a ta)
    (na : starEach [a] X.env = (false, eval a X.env) :: starEach [] X.env := by rfl) : QE X (.Call (.Name "sorted" p) [.Call (.Name "set" p2) [a] [] q] [] pos) (dSortSet ta) := by
  refine pe_mono (pe_sortSet hc hu hg hm hg2 hm2 ha na) fun σ H Q ⟨Z, δ, M, Qd, R, E, h, k⟩ => ?_
  refine ⟨Z, δ, M, _, R, E, h, fun Z1 x M1 u H1 s1 r1 h1 => ?_⟩
  split at h1
  · rename_i ds e
    obtain ⟨h2, h3, h4, d, B, hd, hB, h5⟩ := h1
    obtain ⟨l, vs, eu, _, hs, rr⟩ := tup_sq s1.rel r1 e
    subst eu
    obtain ⟨T, e1, e2, e3⟩ := reps_T s1.rel rr h2
    subst e1 e2
    refine ⟨l, T, d, B, rfl, hs, fun q hq => (e3 q hq).2.1, by rw [List.length_map] at h3; exact h3, ?_, hd, fun q hq => ?_, fun T' pn pT pw hn => ?_⟩
    · rw [List.map_map] at h4
      rw [show T.map (·.2.2) = T.map (tI ∘ fun q => q.1) from List.map_congr_left fun q hq => (e3 q hq).1]
      exact h4
    · rw [(e3 q hq).1]; exact hB _ (List.mem_map.mpr ⟨q, hq, rfl⟩)
    · have sn := Stp.newI s1.rel hn (.lst (T'.map fun q => V.ref q.2.1))
      refine k _ _ _ _ _ (s1.trans sn) (.lst pn _ _ zupd_same ((reps_of_T fun q hq => (e3 q (pT.mem_iff.mp hq)).2.2).mono sn.ext)) (h5 (T'.map (·.1)) (pT.map _) (List.pairwise_map.mpr (List.Pairwise.imp_of_mem (fun {q r} hq hr h => ?_) pw)))
      rw [← (e3 q (pT.mem_iff.mp hq)).1, ← (e3 r (pT.mem_iff.mp hr)).1]
      exact h
  · exact h1.elim
end
end DL
end
section
set_option Elab.async false
set_option linter.all false
set_option maxRecDepth 100000
set_option maxHeartbeats 4000000
/-! Steps forward: what serves a reading. -/
namespace DL
open PySem PySem.Spec PyProof.Rows L2
section
variable {M : Mem} {x y d v : D} {ds es : List D} {i j : Int} {a : Addr} {Q : D → Prop} {Qk : KD}
theorem seq_def {t u : TSD} {De : DEnds} {δ : DEnv} : dSeq t u De δ M = t { De with nx := u De } δ M := rfl
theorem ixn_nat {n j : Nat} (hj : j < n) : ixN n (j : Int) = some j := by
  unfold ixN
  rw [if_pos (by omega), if_pos (by omega)]
  simp
theorem ix_at (h : seqD M x = some ds) (h2 : atI ds i = some d) (q : Q d) : fIx M x (.int i) Q := by
  unfold fIx; rw [h]; dsimp only; rw [h2]; exact q
theorem ix_nat {k : Nat} (h : seqD M x = some ds) (h2 : ds[k]? = some d) (q : Q d) : fIx M x (.int (k : Nat)) Q := ix_at h (atI_nat h2) q
theorem ix_dict (h : seqD M x = none) (h2 : lookD M x y = some (some d)) (q : Q d) : fIx M x y Q := by
  unfold fIx; rw [h]; dsimp only; rw [h2]; exact q
theorem ix_dK {kvs : List (Key × D)} (h : M a = some (.dK kvs)) (h2 : valA kvs (.inl i) = some d) (q : Q d) : fIx M (.ref a) (.int i) Q := by
  refine ix_dict (by simp [seqD, seqM, h]) ?_ q
  simp [lookD, lookK, dictK, dkM, h, keyD, h2]
theorem set_lst {k : Nat} {P : Mem → Prop} (h : M a = some (.lst ds)) (h2 : ixN ds.length i = some k) (q : P (mupd M a (.lst (ds.set k v)))) : fSet M (.ref a) (.int i) v P := by
  unfold fSet; dsimp only; rw [h]; dsimp only; rw [h2]; exact q
theorem set_nat {k : Nat} {P : Mem → Prop} (h : M a = some (.lst ds)) (h2 : k < ds.length) (q : P (mupd M a (.lst (ds.set k v)))) : fSet M (.ref a) (.int (k : Nat)) v P :=
  set_lst h (ixn_nat h2) q
theorem set_dK {kvs : List (Key × D)} {P : Mem → Prop} (h : M a = some (.dK kvs)) (h2 : kvs.length < sizeLine) (q : P (mupd M a (.dK (putA kvs (.inl i) v)))) : fSet M (.ref a) (.int i) v P := by
  unfold fSet; dsimp only; rw [h]; exact ⟨h2, q⟩
theorem set_dT {kvs : List (List Key × D)} {ks : List Key} {P : Mem → Prop} (h : M a = some (.dT kvs)) (hk : (tupK y).bind keysD = some ks) (h2 : kvs.length < sizeLine) (q : P (mupd M a (.dT (putA kvs ks v)))) : fSet M (.ref a) y v P := by
  unfold fSet; dsimp only; rw [h]; dsimp only; rw [hk]; exact ⟨h2, q⟩
theorem plus_int (q : Q (.int (i + j))) : fPlus M (.int i) (.int j) Q := q
theorem plus_tup (h : ds.length + es.length ≤ sizeLine) (q : Q (.tup (ds ++ es))) : fPlus M (.tup ds) (.tup es) Q := ⟨h, q⟩
theorem times_int (h : CMul i j) (q : Q (.int (i * j))) : fTimes M (.int i) (.int j) Q := ⟨h, q⟩
theorem mul_small (h1 : -(2 ^ 64) < i) (h2 : i < 2 ^ 64) : CMul i j := .inl ⟨h1, h2⟩
theorem mul_small2 (h1 : -(2 ^ 64) < j) (h2 : j < 2 ^ 64) : CMul i j := .inr ⟨h1, h2⟩
theorem eq_int (q : Q (.bl (decide (i = j)))) : fEq false M (.int i) (.int j) Q := by
  unfold fEq
  refine ⟨⟨rfl, Nat.zero_le _⟩, ⟨rfl, Nat.zero_le _⟩, ?_⟩
  have e : (nrm (valD M (.int i)) = nrm (valD M (.int j))) ↔ i = j := by
    rw [show valD M (.int i) = .int i from rfl, show valD M (.int j) = .int j from rfl, show nrm (.int i) = .int i by simp [nrm], show nrm (.int j) = .int j by simp [nrm], D.int.injEq]
  rw [Bool.false_xor, decide_eq_decide.mpr e]
  exact q
theorem ne_int (q : Q (.bl (!decide (i = j)))) : fEq true M (.int i) (.int j) Q := by
  unfold fEq
  refine ⟨⟨rfl, Nat.zero_le _⟩, ⟨rfl, Nat.zero_le _⟩, ?_⟩
  have e : (nrm (valD M (.int i)) = nrm (valD M (.int j))) ↔ i = j := by
    rw [show valD M (.int i) = .int i from rfl, show valD M (.int j) = .int j from rfl, show nrm (.int i) = .int i by simp [nrm], show nrm (.int j) = .int j by simp [nrm], D.int.injEq]
  rw [Bool.true_xor, decide_eq_decide.mpr e]
  exact q
open Classical in
/-- == of data, by what it means -/
theorem eq_val {b : Bool} (h1 : okD (valD M x)) (h2 : okD (valD M y)) (hx : ∀ c, x ≠ .bl c) (hb : b = true ↔ nrm (valD M x) = nrm (valD M y)) (q : Q (.bl b)) : fEq false M x y Q := by
  unfold fEq
  split
  · exact absurd rfl (hx _)
  · refine ⟨h1, h2, ?_⟩
    rw [Bool.false_xor]
    have : decide (nrm (valD M x) = nrm (valD M y)) = b := by
      cases b with
      | true => exact decide_eq_true (hb.mp rfl)
      | false => exact decide_eq_false fun z => Bool.noConfusion (hb.mpr z)
    rw [this]; exact q
open Classical in
theorem ne_val {b : Bool} (h1 : okD (valD M x)) (h2 : okD (valD M y)) (hx : ∀ c, x ≠ .bl c) (hb : b = true ↔ nrm (valD M x) = nrm (valD M y)) (q : Q (.bl (!b))) : fEq true M x y Q := by
  unfold fEq
  split
  · exact absurd rfl (hx _)
  · refine ⟨h1, h2, ?_⟩
    rw [Bool.true_xor]
    have : decide (nrm (valD M x) = nrm (valD M y)) = b := by
      cases b with
      | true => exact decide_eq_true (hb.mp rfl)
      | false => exact decide_eq_false fun z => Bool.noConfusion (hb.mpr z)
    rw [this]; exact q
theorem plain_ints (ns : List Int) : plainDs (ns.map D.int) = true := by
  induction ns with
  | nil => rfl
  | cons n ns ih => simp [plainDs, plainD, ih]
theorem dep_ints (ns : List Int) : depDs (ns.map D.int) = 0 := by
  induction ns with
  | nil => rfl
  | cons n ns ih => simp [depDs, depD, ih]
theorem mem_ints {ns : List Int} : D.int i ∈ nrms (ns.map D.int) ↔ i ∈ ns := by
  rw [nrms_ints, List.mem_map]
  exact ⟨fun ⟨j, h, e⟩ => (D.int.inj e) ▸ h, fun h => ⟨i, h, rfl⟩⟩
theorem in_ints {ns : List Int} (h : seqD M y = some (ns.map D.int)) (q : Q (.bl (decide (i ∈ ns)))) : fIn false M (.int i) y Q := by
  unfold fIn; rw [h]; dsimp only
  refine ⟨⟨rfl, Nat.zero_le _⟩, plain_ints ns, by rw [dep_ints]; exact Nat.zero_le _, ?_⟩
  rw [Bool.false_xor, show nrm (.int i) = .int i by simp [nrm], decide_eq_decide.mpr mem_ints]
  exact q
theorem nin_ints {ns : List Int} (h : seqD M y = some (ns.map D.int)) (q : Q (.bl (!decide (i ∈ ns)))) : fIn true M (.int i) y Q := by
  unfold fIn; rw [h]; dsimp only
  refine ⟨⟨rfl, Nat.zero_le _⟩, plain_ints ns, by rw [dep_ints]; exact Nat.zero_le _, ?_⟩
  rw [Bool.true_xor, show nrm (.int i) = .int i by simp [nrm], decide_eq_decide.mpr mem_ints]
  exact q
theorem nin_dK {kvs : List (Key × D)} (h : M a = some (.dK kvs)) (q : Q (.bl (!(valA kvs (.inl i)).isSome))) : fIn true M (.int i) (.ref a) Q := by
  unfold fIn
  rw [show seqD M (.ref a) = none by simp [seqD, seqM, h]]
  dsimp only
  rw [show lookD M (.ref a) (.int i) = some (valA kvs (.inl i)) by simp [lookD, lookK, dictK, dkM, h, keyD]]
  dsimp only
  rw [Bool.true_xor]; exact q
theorem nin_dT {kvs : List (List Key × D)} {ks : List Key} (h : M a = some (.dT kvs)) (hk : (tupK x).bind keysD = some ks) (q : Q (.bl (!(valA kvs ks).isSome))) : fIn true M x (.ref a) Q := by
  unfold fIn
  rw [show seqD M (.ref a) = none by simp [seqD, seqM, h]]
  dsimp only
  rw [show lookD M (.ref a) x = some (valA kvs ks) by simp [lookD, lookK, lookT, dictK, dkM, dictT, dtM, h, hk]]
  dsimp only
  rw [Bool.true_xor]; exact q
theorem app_ (h : M a = some (.lst ds)) (h2 : ds.length < sizeLine) (q : Qk .non (mupd M a (.lst (ds ++ [y])))) : mAppend M (.ref a) [y] Qk := by
  unfold mAppend
  rw [show lmut M (.ref a) = some (a, ds) by simp [lmut, lstFM, h]]
  exact ⟨h2, q⟩
theorem pop_ (h : M a = some (.lst (ds ++ [y]))) (q : Qk y (mupd M a (.lst ds))) : mPop M (.ref a) [] Qk := by
  unfold mPop
  rw [show lmut M (.ref a) = some (a, ds ++ [y]) by simp [lmut, lstFM, h]]
  dsimp only
  rw [show (ds ++ [y])[(ds ++ [y]).length - 1]? = some y by simp]
  dsimp only
  rw [List.dropLast_concat]
  exact q
theorem len_seq (h : seqD M x = some ds) (q : Qk (.int ds.length) M) : gLen M x Qk := by
  unfold gLen lenD; rw [h]; exact q
theorem len_dT {kvs : List (List Key × D)} (h : M a = some (.dT kvs)) (q : Qk (.int kvs.length) M) : gLen M (.ref a) Qk := by
  unfold gLen lenD
  rw [show seqD M (.ref a) = none by simp [seqD, seqM, h], show dictK M (.ref a) = none by simp [dictK, dkM, h], show dictT M (.ref a) = some kvs by simp [dictT, dtM, h]]
  exact q
theorem isi_ty {P : Addr → Prop} {m n : String} {b : Bool} (h : tyD1 M x = some m) (h2 : kitB m n = some b) (q : Qk (.bl b) M) : gIsi P M x (.ty n) Qk := by
  unfold gIsi; dsimp only; rw [h]; dsimp only; rw [h2]; exact q
theorem isi_obj {P : Addr → Prop} {C : Addr} {fs : List (Str × D)} (h : insD M x = some (C, fs)) (h2 : P C) (q : Qk (.bl true) M) : gIsi P M x (.ref C) Qk := by
  unfold gIsi; dsimp only; rw [h]; exact ⟨rfl, h2, q⟩
theorem all_ {bs : List Bool} (h : lstD M x = some (bs.map D.bl)) (q : Qk (.bl (bs.all id)) M) : gAll M x Qk := by
  unfold gAll; rw [h]; dsimp only
  refine ⟨by rw [List.all_map]; exact List.all_eq_true.mpr fun _ _ => rfl, ?_⟩
  rw [List.all_map]
  exact q
theorem any_ {bs : List Bool} (h : lstD M x = some (bs.map D.bl)) (q : Qk (.bl (bs.any id)) M) : gAny M x Qk := by
  unfold gAny; rw [h]; dsimp only
  refine ⟨by rw [List.all_map]; exact List.all_eq_true.mpr fun _ _ => rfl, ?_⟩
  rw [List.any_map]
  exact q
theorem ki1 : kitB "int" "int" = some true := by decide +kernel
theorem ki2 : kitB "int" "bool" = some false := by decide +kernel
theorem ki3 : kitB "tuple" "tuple" = some true := by decide +kernel
theorem ki4 : kitB "list" "tuple" = some false := by decide +kernel
theorem divmod_ (h : 0 < j) (h2 : j < 1073741824) (q : Qk (.tup [.int (i / j), .int (i % j)]) M) : gDivmod M (.int i) (.int j) Qk := ⟨⟨h, h2⟩, q⟩
end
end DL
end
section
set_option Elab.async false
set_option linter.all false
set_option maxRecDepth 100000
namespace T74
open DL PySem PySem.Spec PyProof.Rows L2
/-- the reading of _law_pool -/
def N_law_pool : List Str := ["cell", "digits"]
def r_law_pool  : TSD := (dSeq (dSet 1 (dC (.int 0)))
  (dSeq (dIfS (dOr (dTest (dBin fLt (dVar 0) (dC (.int 0)))) (dTest (dBin fGe (dVar 0) (dBin fPow (dC (.int 10)) (dC (.int 18))))))
  (dSet 1 (dCB (f1 gAbs) (dCons (dVar 0) dNil)))
  dNext)
  (dRet (dLstM (dCons (dBin fMod (dVar 0) (dC (.int 2147483423))) (dCons (dVar 1) (dCons (dC (.int 0)) dNil)))))))
/-- the reading of _law_cell -/
def N_law_cell : List Str := ["script", "k", "state", "cell"]
def r_law_cell  : TSD := (dSeq (dIfS (dTest (dBin fLt (dVar 1) (dCB (f1 gLen) (dCons (dVar 0) dNil))))
  (dRet (dBin fIx (dVar 0) (dVar 1)))
  dNext)
  (dSeq (dSet 2 (dBin fMod (dBin fTimes (dC (.int 50021)) (dBin fPlus (dBin fPlus (dBin fTimes (dVar 1) (dVar 1)) (dBin fTimes (dC (.int 9)) (dVar 1))) (dC (.int 5)))) (dC (.int 2147483423))))
  (dSeq (dFor (dISeq (dSl (dVar 0) dNoPart (dPart (dC (.int 3))))) (gdName 3)
  (dSet 2 (dBin fMod (dBin fPlus (dBin fTimes (dVar 2) (dC (.int 43013))) (dVar 3)) (dC (.int 2147483423)))))
  (dRet (dVar 2)))))
/-- the reading of is_number -/
def N_is_number : List Str := ["thing", "most"]
def r_is_number (C_Table : Addr) : TSD := (dRet (dAndV (dCB (f2 (gIsi (· = C_Table))) (dCons (dVar 0) (dCons (dC (.ty "int")) dNil))) (dAndV (dNotV (dCB (f2 (gIsi (· = C_Table))) (dCons (dVar 0) (dCons (dC (.ty "bool")) dNil)))) (dChain fLe fLt (dC (.int 0)) (dVar 0) (dVar 1)))))
/-- the reading of has_form -/
def N_has_form : List Str := ["lines", "line", "number"]
def r_has_form (C_Table : Addr) (sp_is_number : SpD) : TSD := (dSeq (dIfS (dOr (dNot (dTest (dCB (f2 (gIsi (· = C_Table))) (dCons (dVar 0) (dCons (dC (.ty "tuple")) dNil))))) (dNot (dTest (dChain fLe fLe (dC (.int 1)) (dCB (f1 gLen) (dCons (dVar 0) dNil)) (dC (.int 48))))))
  (dRet (dC (.bl false)))
  dNext)
  (dSeq (dIfS (dNot (dTest (dCB (f1 gAll) (dCons (dLc (dISeq (dVar 0)) (gdName 1) dYes (dAndV (dCB (f2 (gIsi (· = C_Table))) (dCons (dVar 1) (dCons (dC (.ty "tuple")) dNil))) (dBin (fEq false) (dCB (f1 gLen) (dCons (dVar 1) dNil)) (dCB (f1 gLen) (dCons (dVar 0) dNil)))) [1]) dNil))))
  (dRet (dC (.bl false)))
  dNext)
  (dRet (dCB (f1 gAll) (dCons (dLc2 (dISeq (dVar 0)) (gdName 1) dYes (dISeq (dVar 1)) (gdName 2) dYes (dCall sp_is_number [] (dCons (dVar 2) (dCons (dCB (f1 gLen) (dCons (dVar 0) dNil)) dNil))) [1, 2] [2]) dNil)))))
/-- the reading of first_neutral -/
def N_first_neutral : List Str := ["lines", "one", "line"]
def r_first_neutral  : TSD := (dSeq (dFor (dIEnum (dCons (dVar 0) dNil)) (gdTup 2 (gdCons (gdName 1) (gdCons (gdName 2) gdNil)))
  (dIfS (dOr (dTest (dBin (fEq true) (dBin fIx (dVar 2) (dC (.int 0))) (dVar 1))) (dTest (dBin (fEq true) (dBin fIx (dBin fIx (dVar 0) (dC (.int 0))) (dVar 1)) (dVar 1))))
  (dRet (dVar 1))
  dNext))
  (dRet (dC .non)))
/-- the reading of first_back -/
def N_first_back : List Str := ["lines", "one", "line"]
def r_first_back  : TSD := (dSeq (dFor (dIEnum (dCons (dVar 0) dNil)) (gdTup 2 (gdCons (gdName 1) (gdCons (gdName 2) gdNil)))
  (dIfS (dTest (dBin (fIn true) (dC (.int 0)) (dVar 2)))
  (dRet (dVar 1))
  dNext))
  (dRet (dC .non)))
/-- the reading of first_threes -/
def N_first_threes : List Str := ["lines", "one", "line", "other", "both", "whole", "beside", "third", "last"]
def r_first_threes  : TSD := (dSeq (dFor (dIEnum (dCons (dVar 0) dNil)) (gdTup 2 (gdCons (gdName 1) (gdCons (gdName 2) gdNil)))
  (dFor (dIEnum (dCons (dVar 2) dNil)) (gdTup 2 (gdCons (gdName 3) (gdCons (gdName 4) gdNil)))
  (dSeq (dPar 5 6 (dCons (dBin fIx (dVar 0) (dVar 4)) (dCons (dBin fIx (dVar 0) (dVar 3)) dNil)))
  (dFor (dIEnum (dCons (dVar 6) dNil)) (gdTup 2 (gdCons (gdName 7) (gdCons (gdName 8) gdNil)))
  (dIfS (dTest (dBin (fEq true) (dBin fIx (dVar 5) (dVar 7)) (dBin fIx (dVar 2) (dVar 8))))
  (dRet (dTup (dCons (dVar 1) (dCons (dVar 3) (dCons (dVar 7) dNil)))))
  dNext)))))
  (dRet (dC .non)))
/-- the reading of fault -/
def N_fault : List Str := ["lines", "one", "three"]
def r_fault (sp_has_form : SpD) (sp_first_neutral : SpD) (sp_first_back : SpD) (sp_first_threes : SpD) : TSD := (dSeq (dIfS (dNot (dTest (dCall sp_has_form [] (dCons (dVar 0) dNil))))
  (dRet (dTup (dCons (dC (.str "form")) dNil)))
  dNext)
  (dSeq (dSet 1 (dCall sp_first_neutral [] (dCons (dVar 0) dNil)))
  (dSeq (dIfS (dTest (dBin (fIsN true) (dVar 1) (dC .non)))
  (dRet (dTup (dCons (dC (.str "neutral")) (dCons (dVar 1) dNil))))
  dNext)
  (dSeq (dSet 1 (dCall sp_first_back [] (dCons (dVar 0) dNil)))
  (dSeq (dIfS (dTest (dBin (fIsN true) (dVar 1) (dC .non)))
  (dRet (dTup (dCons (dC (.str "back")) (dCons (dVar 1) dNil))))
  dNext)
  (dSeq (dSet 2 (dCall sp_first_threes [] (dCons (dVar 0) dNil)))
  (dRet (dIf (dTest (dBin (fIsN false) (dVar 2) (dC .non))) (dC .non) (dBin fPlus (dTup (dCons (dC (.str "threes")) dNil)) (dVar 2))))))))))
/-- the reading of Table.__init__ -/
def N_table_init : List Str := ["self", "lines", "wrong"]
def r_table_init (C_Table : Addr) (sp_fault : SpD) : TSD := (dSeq (dSet 2 (dCall sp_fault [] (dCons (dVar 1) dNil)))
  (dSeq (dIfS (dTest (dBin (fIsN true) (dVar 2) (dC .non)))
  dNever
  dNext)
  (dFldSet (· = C_Table) "lines" (dVar 0) (dVar 1))))
/-- the reading of check_table -/
def N_check_table : List Str := ["thing"]
def r_check_table (C_Table : Addr) : TSD := (dIfS (dNot (dTest (dCB (f2 (gIsi (· = C_Table))) (dCons (dVar 0) (dCons (dC (.ref C_Table)) dNil)))))
  dNever
  dNext)
/-- the reading of Table.__len__ -/
def N_table_len : List Str := ["self"]
def r_table_len (C_Table : Addr) : TSD := (dRet (dCB (f1 gLen) (dCons (dFld (· = C_Table) "lines" (dVar 0)) dNil)))
/-- the reading of check_small -/
def N_check_small : List Str := ["table"]
def r_check_small (C_Table : Addr) (sp_check_table : SpD) (sp_table_len : SpD) : TSD := (dSeq (dDrop (dCall sp_check_table [] (dCons (dVar 0) dNil)))
  (dIfS (dTest (dBin fGt (dCB (f1 (gLenC C_Table sp_table_len)) (dCons (dVar 0) dNil)) (dC (.int 12))))
  dNever
  dNext))
/-- the reading of spread -/
def N_spread : List Str := ["table", "part", "known", "waiting", "one", "other", "made"]
def r_spread (C_Table : Addr) : TSD := (dSeq (dPar 2 3 (dCons (dDisp1K (dC (.int 0)) (dC (.bl true))) (dCons (dLstM (dCons (dC (.int 0)) dNil)) dNil)))
  (dSeq (dWhile (dTru (dVar 3))
  (dSeq (dSet 4 (dBM "list" mPop (dVar 3) dNil))
  (dFor (dISeq (dVar 1)) (gdName 5)
  (dSeq (dSet 6 (dBin fIx (dBin fIx (dFld (· = C_Table) "lines" (dVar 0)) (dVar 4)) (dVar 5)))
  (dIfS (dTest (dBin (fIn true) (dVar 6) (dVar 2)))
  (dSeq (dAsg (dC (.bl true)) (gdSub (dVar 2) (dVar 6)))
  (dDrop (dBM "list" mAppend (dVar 3) (dCons (dVar 6) dNil))))
  dNext)))))
  (dRet (dCB (f1 gTupOf) (dCons (dCB (f1 gSortI) (dCons (dVar 2) dNil)) dNil)))))
/-- the reading of leading_of -/
def N_leading_of : List Str := ["table", "found", "reached", "one"]
def r_leading_of (C_Table : Addr) (sp_table_len : SpD) (sp_spread : SpD) : TSD := (dSeq (dAsg (dTup (dCons (dTup dNil) (dCons (dTup (dCons (dC (.int 0)) dNil)) dNil))) (gdTup 2 (gdCons (gdName 1) (gdCons (gdName 2) gdNil))))
  (dSeq (dWhile (dTest (dBin fLt (dCB (f1 gLen) (dCons (dVar 2) dNil)) (dCB (f1 (gLenC C_Table sp_table_len)) (dCons (dVar 0) dNil))))
  (dSeq (dAug 1 fCatT (dTup (dCons (dCB (f1 gMinL) (dCons (dLc (dIRng1 (dCons (dCB (f1 (gLenC C_Table sp_table_len)) (dCons (dVar 0) dNil)) dNil)) (gdName 3) (dTest (dBin (fIn true) (dVar 3) (dVar 2))) (dVar 3) [3]) dNil)) dNil)))
  (dSet 2 (dCall sp_spread [] (dCons (dVar 0) (dCons (dVar 1) dNil))))))
  (dRet (dVar 1))))
/-- the reading of grown -/
def N_grown : List Str := ["one", "other", "leads", "images", "known", "waiting", "member", "lead", "aim", "made", "goal"]
def r_grown (C_Table : Addr) : TSD := (dSeq (dPar 4 5 (dCons (dDisp1K (dC (.int 0)) (dC (.int 0))) (dCons (dLstM (dCons (dC (.int 0)) dNil)) dNil)))
  (dSeq (dWhile (dTest (dBin (fEq true) (dVar 5) (dLstI dNil)))
  (dSeq (dSet 6 (dBM "list" mPop (dVar 5) dNil))
  (dFor (dIZip (dCons (dVar 2) (dCons (dVar 3) dNil))) (gdTup 2 (gdCons (gdName 7) (gdCons (gdName 8) gdNil)))
  (dSeq (dPar 9 10 (dCons (dBin fIx (dBin fIx (dFld (· = C_Table) "lines" (dVar 0)) (dVar 6)) (dVar 7)) (dCons (dBin fIx (dBin fIx (dFld (· = C_Table) "lines" (dVar 1)) (dBin fIx (dVar 4) (dVar 6))) (dVar 8)) dNil)))
  (dIfS (dTest (dBin (fIn true) (dVar 9) (dVar 4)))
  (dSeq (dAsg (dVar 10) (gdSub (dVar 4) (dVar 9)))
  (dDrop (dBM "list" mAppend (dVar 5) (dCons (dVar 9) dNil))))
  (dIfS (dTest (dBin (fEq true) (dBin fIx (dVar 4) (dVar 9)) (dVar 10)))
  (dRet (dC .non))
  dNext))))))
  (dRet (dVar 4))))
/-- the reading of all_grown -/
def N_all_grown : List Str := ["one", "other", "leads", "choices", "rows", "place", "some", "longer", "row", "aim"]
def r_all_grown (sp_grown : SpD) : TSD := (dSeq (dSet 4 (dLstI (dCons (dTup dNil) dNil)))
  (dSeq (dFor (dIEnum (dCons (dVar 3) dNil)) (gdTup 2 (gdCons (gdName 5) (gdCons (gdName 6) gdNil)))
  (dSeq (dSet 7 (dLstM dNil))
  (dSeq (dFor (dISeq (dVar 4)) (gdName 8)
  (dFor (dISeq (dVar 6)) (gdName 9)
  (dIfS (dTest (dBin (fIsN true) (dCall sp_grown [] (dCons (dVar 0) (dCons (dVar 1) (dCons (dSl (dVar 2) dNoPart (dPart (dBin fPlus (dVar 5) (dC (.int 1))))) (dCons (dBin fPlus (dVar 8) (dTup (dCons (dVar 9) dNil))) dNil))))) (dC .non)))
  (dDrop (dBM "list" mAppend (dVar 7) (dCons (dBin fPlus (dVar 8) (dTup (dCons (dVar 9) dNil))) dNil)))
  dNext)))
  (dSet 4 (dVar 7)))))
  (dRet (dVar 4))))
/-- the reading of homs_of -/
def N_homs_of : List Str := ["one", "other", "leads", "found", "row", "known", "lead", "member"]
def r_homs_of (C_Table : Addr) (sp_leading_of : SpD) (sp_all_grown : SpD) (sp_table_len : SpD) (sp_grown : SpD) : TSD := (dSeq (dSet 2 (dCall sp_leading_of [] (dCons (dVar 0) dNil)))
  (dSeq (dSet 3 (dLstM dNil))
  (dSeq (dFor (dISeq (dCall sp_all_grown [] (dCons (dVar 0) (dCons (dVar 1) (dCons (dVar 2) (dCons (dLc (dISeq (dVar 2)) (gdName 6) dYes (dLstRg (dRg1 (dCB (f1 (gLenC C_Table sp_table_len)) (dCons (dVar 1) dNil)))) [6]) dNil)))))) (gdName 4)
  (dSeq (dSet 5 (dCall sp_grown [] (dCons (dVar 0) (dCons (dVar 1) (dCons (dVar 2) (dCons (dVar 4) dNil))))))
  (dDrop (dBM "list" mAppend (dVar 3) (dCons (dCB (f1 gTupX) (dCons (dLc (dIRng1 (dCons (dCB (f1 (gLenC C_Table sp_table_len)) (dCons (dVar 0) dNil)) dNil)) (gdName 7) dYes (dBin fIx (dVar 5) (dVar 7)) [7]) dNil)) dNil)))))
  (dRet (dCB (f1 gTupOf) (dCons (dVar 3) dNil))))))
/-- the reading of autos -/
def N_autos : List Str := ["table", "row"]
def r_autos (C_Table : Addr) (sp_check_small : SpD) (sp_homs_of : SpD) (sp_table_len : SpD) : TSD := (dSeq (dDrop (dCall sp_check_small [] (dCons (dVar 0) dNil)))
  (dRet (dCB (f1 gTupOf) (dCons (dLc (dISeq (dCall sp_homs_of [] (dCons (dVar 0) (dCons (dVar 0) dNil)))) (gdName 1) (dTest (dBin (fEq false) (dLenSetTI (dVar 1)) (dCB (f1 (gLenC C_Table sp_table_len)) (dCons (dVar 0) dNil)))) (dVar 1) [1]) dNil))))
/-- the reading of _law_take -/
def N_law_take : List Str := ["pool", "many", "state", "digit"]
def r_law_take  : TSD := (dSeq (dAsg (dBin fPlus (dBin fIx (dVar 0) (dC (.int 2))) (dC (.int 1))) (gdSub (dVar 0) (dC (.int 2))))
  (dSeq (dSet 2 (dBin fIx (dVar 0) (dC (.int 0))))
  (dSeq (dAsg (dBin fMod (dBin fPlus (dBin fTimes (dVar 2) (dBin fPlus (dBin fMod (dVar 2) (dC (.int 45007))) (dC (.int 31019)))) (dBin fTimes (dC (.int 70009)) (dBin fIx (dVar 0) (dC (.int 2))))) (dC (.int 2147483423))) (gdSub (dVar 0) (dC (.int 0))))
  (dSeq (dIfS (dTest (dBin fGt (dBin fIx (dVar 0) (dC (.int 1))) (dC (.int 0))))
  (dSeq (dAsg (dCB (f2 gDivmod) (dCons (dBin fIx (dVar 0) (dC (.int 1))) (dCons (dVar 1) dNil))) (gdTup 2 (gdCons (gdSub (dVar 0) (dC (.int 1))) (gdCons (gdName 3) gdNil))))
  (dRet (dVar 3)))
  dNext)
  (dRet (dBin fMod (dBin fDiv (dBin fIx (dVar 0) (dC (.int 0))) (dC (.int 64))) (dVar 1)))))))
/-- the reading of is_whole -/
def N_is_whole : List Str := ["thing"]
def r_is_whole (C_Table : Addr) : TSD := (dRet (dAndV (dCB (f2 (gIsi (· = C_Table))) (dCons (dVar 0) (dCons (dC (.ty "int")) dNil))) (dNotV (dCB (f2 (gIsi (· = C_Table))) (dCons (dVar 0) (dCons (dC (.ty "bool")) dNil))))))
/-- the reading of check_member -/
def N_check_member : List Str := ["table", "thing"]
def r_check_member (C_Table : Addr) (sp_is_whole : SpD) (sp_table_len : SpD) : TSD := (dIfS (dOr (dNot (dTest (dCall sp_is_whole [] (dCons (dVar 1) dNil)))) (dNot (dTest (dChain fLe fLt (dC (.int 0)) (dVar 1) (dCB (f1 (gLenC C_Table sp_table_len)) (dCons (dVar 0) dNil))))))
  dNever
  dNext)
/-- the reading of powers_of -/
def N_powers_of : List Str := ["table", "one", "found", "last"]
def r_powers_of (C_Table : Addr) : TSD := (dSeq (dSet 2 (dLstM (dCons (dC (.int 0)) dNil)))
  (dSeq (dSet 3 (dVar 1))
  (dSeq (dWhile (dTest (dBin (fEq true) (dVar 3) (dC (.int 0))))
  (dSeq (dDrop (dBM "list" mAppend (dVar 2) (dCons (dVar 3) dNil)))
  (dSet 3 (dBin fIx (dBin fIx (dFld (· = C_Table) "lines" (dVar 0)) (dVar 3)) (dVar 1)))))
  (dRet (dVar 2)))))
/-- the reading of order_of -/
def N_order_of : List Str := ["table", "one"]
def r_order_of (sp_check_table : SpD) (sp_check_member : SpD) (sp_powers_of : SpD) : TSD := (dSeq (dDrop (dCall sp_check_table [] (dCons (dVar 0) dNil)))
  (dSeq (dDrop (dCall sp_check_member [] (dCons (dVar 0) (dCons (dVar 1) dNil))))
  (dRet (dCB (f1 gLen) (dCons (dCall sp_powers_of [] (dCons (dVar 0) (dCons (dVar 1) dNil))) dNil)))))
/-- the reading of back_of -/
def N_back_of : List Str := ["table", "one"]
def r_back_of (C_Table : Addr) : TSD := (dRet (dBMX mTupIdx (dBin fIx (dFld (· = C_Table) "lines" (dVar 0)) (dVar 1)) (dCons (dC (.int 0)) dNil)))
/-- the reading of led_by -/
def N_led_by : List Str := ["table", "one", "by"]
def r_led_by (C_Table : Addr) (sp_back_of : SpD) : TSD := (dRet (dBin fIx (dBin fIx (dFld (· = C_Table) "lines" (dVar 0)) (dBin fIx (dBin fIx (dFld (· = C_Table) "lines" (dVar 0)) (dCall sp_back_of [] (dCons (dVar 0) (dCons (dVar 2) dNil)))) (dVar 1))) (dVar 2)))
/-- the reading of conjugate -/
def N_conjugate : List Str := ["table", "one", "by"]
def r_conjugate (sp_check_table : SpD) (sp_check_member : SpD) (sp_led_by : SpD) : TSD := (dSeq (dDrop (dCall sp_check_table [] (dCons (dVar 0) dNil)))
  (dSeq (dDrop (dCall sp_check_member [] (dCons (dVar 0) (dCons (dVar 1) dNil))))
  (dSeq (dDrop (dCall sp_check_member [] (dCons (dVar 0) (dCons (dVar 2) dNil))))
  (dRet (dCall sp_led_by [] (dCons (dVar 0) (dCons (dVar 1) (dCons (dVar 2) dNil))))))))
/-- the reading of _law_turned -/
def N_law_turned : List Str := ["lines", "row", "back_row", "member", "come", "one", "line", "other"]
def r_law_turned  : TSD := (dSeq (dSet 2 (dTimesM (dLstI (dCons (dC (.int 0)) dNil)) (dCB (f1 gLen) (dCons (dVar 1) dNil))))
  (dSeq (dFor (dIRng1 (dCons (dCB (f1 gLen) (dCons (dVar 1) dNil)) dNil)) (gdName 3)
  (dAsg (dVar 3) (gdSub (dVar 2) (dBin fIx (dVar 1) (dVar 3)))))
  (dSeq (dSet 4 (dLstM dNil))
  (dSeq (dFor (dISeq (dVar 2)) (gdName 5)
  (dSeq (dSet 6 (dBin fIx (dVar 0) (dVar 5)))
  (dDrop (dBM "list" mAppend (dVar 4) (dCons (dCB (f1 gTupX) (dCons (dLc (dISeq (dVar 2)) (gdName 7) dYes (dBin fIx (dVar 1) (dBin fIx (dVar 6) (dVar 7))) [7]) dNil)) dNil)))))
  (dRet (dCB (f1 gTupX) (dCons (dVar 4) dNil)))))))
/-- the reading of _law_called -/
def N_law_called : List Str := ["pool", "many", "row", "place", "other"]
def r_law_called (sp_law_take : SpD) : TSD := (dSeq (dSet 2 (dLstRgM (dRg1 (dVar 1))))
  (dSeq (dFor (dIRng3 (dCons (dBin fSub (dVar 1) (dC (.int 1))) (dCons (dC (.int 1)) (dCons (dUn fNeg (dC (.int 1))) dNil)))) (gdName 3)
  (dSeq (dSet 4 (dBin fPlus (dC (.int 1)) (dCall sp_law_take [] (dCons (dVar 0) (dCons (dVar 3) dNil)))))
  (dAsg (dTup (dCons (dBin fIx (dVar 2) (dVar 4)) (dCons (dBin fIx (dVar 2) (dVar 3)) dNil))) (gdTup 2 (gdCons (gdSub (dVar 2) (dVar 3)) (gdCons (gdSub (dVar 2) (dVar 4)) gdNil))))))
  (dRet (dCB (f1 gTupOf) (dCons (dVar 2) dNil)))))
/-- the reading of _law_right -/
def N_law_right : List Str := ["pool", "lines", "table", "turn", "by", "rows", "numbers", "backwards", "one", "other", "member", "aim"]
def r_law_right (C_Table : Addr) (sp_table_init : SpD) (sp_autos : SpD) (sp_law_take : SpD) (sp_order_of : SpD) (sp_conjugate : SpD) (sp_law_turned : SpD) (sp_law_called : SpD) : TSD := (dSeq (dSet 2 (dMakeI C_Table sp_table_init [] (dCons (dVar 1) dNil)))
  (dSeq (dPar 5 6 (dCons (dCall sp_autos [] (dCons (dVar 2) dNil)) (dCons (dLstRg (dRg1 (dCB (f1 gLen) (dCons (dVar 1) dNil)))) dNil)))
  (dSeq (dIfS (dOr (dTest (dBin (fIn true) (dCB (f1 gTupOf) (dCons (dVar 6) dNil)) (dVar 5))) (dTest (dBin (fEq true) (dCB (f1 gLstOf) (dCons (dVar 5) dNil)) (dSortSet (dVar 5)))))
  (dRet (dC (.bl false)))
  dNext)
  (dSeq (dFor (dIRng1 (dCons (dC (.int 8)) dNil)) (gdName 3)
  (dSeq (dAsg (dTup (dCons (dBin fIx (dVar 5) (dCall sp_law_take [] (dCons (dVar 0) (dCons (dCB (f1 gLen) (dCons (dVar 5) dNil)) dNil)))) (dCons (dBin fIx (dVar 5) (dCall sp_law_take [] (dCons (dVar 0) (dCons (dCB (f1 gLen) (dCons (dVar 5) dNil)) dNil)))) dNil))) (gdTup 2 (gdCons (gdName 8) (gdCons (gdName 9) gdNil))))
  (dSeq (dSet 7 (dCB (f1 gTupOf) (dCons (dLc (dISeq (dVar 6)) (gdName 10) dYes (dBMX mTupIdx (dVar 8) (dCons (dVar 10) dNil)) [10]) dNil)))
  (dSeq (dIfS (dOr (dTest (dBin (fIn true) (dCB (f1 gTupOf) (dCons (dLc (dISeq (dVar 8)) (gdName 11) dYes (dBin fIx (dVar 9) (dVar 11)) [11]) dNil)) (dVar 5))) (dTest (dBin (fIn true) (dVar 7) (dVar 5))))
  (dRet (dC (.bl false)))
  dNext)
  (dIfS (dTest (dCB (f1 gAny) (dCons (dLc (dISeq (dVar 6)) (gdName 10) dYes (dBin (fEq true) (dCall sp_order_of [] (dCons (dVar 2) (dCons (dBin fIx (dVar 8) (dVar 10)) dNil))) (dCall sp_order_of [] (dCons (dVar 2) (dCons (dVar 10) dNil)))) [10]) dNil)))
  (dRet (dC (.bl false)))
  dNext)))))
  (dSeq (dFor (dISeq (dVar 6)) (gdName 4)
  (dIfS (dTest (dBin (fIn true) (dCB (f1 gTupOf) (dCons (dLc (dISeq (dVar 6)) (gdName 10) dYes (dCall sp_conjugate [] (dCons (dVar 2) (dCons (dVar 10) (dCons (dVar 4) dNil)))) [10]) dNil)) (dVar 5)))
  (dRet (dC (.bl false)))
  dNext))
  (dRet (dBin (fEq false) (dCB (f1 gLen) (dCons (dCall sp_autos [] (dCons (dMakeI C_Table sp_table_init [] (dCons (dCall sp_law_turned [] (dCons (dVar 1) (dCons (dCall sp_law_called [] (dCons (dVar 0) (dCons (dCB (f1 gLen) (dCons (dVar 1) dNil)) dNil))) dNil))) dNil)) dNil)) dNil)) (dCB (f1 gLen) (dCons (dVar 5) dNil)))))))))
/-- the reading of _law_then -/
def N_law_then : List Str := ["one", "other", "goal"]
def r_law_then  : TSD := (dRet (dCB (f1 gTupOf) (dCons (dLc (dISeq (dVar 0)) (gdName 2) dYes (dBin fIx (dVar 1) (dVar 2)) [2]) dNil)))
/-- the reading of _law_lines -/
def N_law_lines : List Str := ["members", "ranks", "lines", "one", "k", "other"]
def r_law_lines (sp_law_then : SpD) : TSD := (dSeq (dSet 1 (dCB (f1 gDictT) (dCons (dLc (dIRng1 (dCons (dCB (f1 gLen) (dCons (dVar 0) dNil)) dNil)) (gdName 4) dYes (dTup (dCons (dBin fIx (dVar 0) (dVar 4)) (dCons (dVar 4) dNil))) [4]) dNil)))
  (dSeq (dSet 2 (dLstM dNil))
  (dSeq (dFor (dISeq (dVar 0)) (gdName 3)
  (dDrop (dBM "list" mAppend (dVar 2) (dCons (dCB (f1 gTupX) (dCons (dLc (dISeq (dVar 0)) (gdName 5) dYes (dBin fIx (dVar 1) (dCall sp_law_then [] (dCons (dVar 3) (dCons (dVar 5) dNil)))) [5]) dNil)) dNil))))
  (dRet (dCB (f1 gTupX) (dCons (dVar 2) dNil))))))
/-- the reading of _law_move -/
def N_law_move : List Str := ["pool", "points", "point", "images", "way", "other", "first", "last"]
def r_law_move (sp_law_take : SpD) : TSD := (dSeq (dAsg (dTup (dCons (dLstRgM (dRg1 (dVar 1))) (dCons (dCall sp_law_take [] (dCons (dVar 0) (dCons (dC (.int 8)) dNil))) dNil))) (gdTup 2 (gdCons (gdName 3) (gdCons (gdName 4) gdNil))))
  (dSeq (dIfS (dOr (dTest (dBin (fEq false) (dVar 4) (dC (.int 0)))) (dTest (dBin (fEq false) (dVar 1) (dC (.int 1)))))
  (dRet (dCB (f1 gTupOf) (dCons (dVar 3) dNil)))
  dNext)
  (dSeq (dIfS (dTest (dBin fLt (dVar 4) (dC (.int 3))))
  (dSeq (dPar 6 7 (dCons (dCall sp_law_take [] (dCons (dVar 0) (dCons (dVar 1) dNil))) (dCons (dCall sp_law_take [] (dCons (dVar 0) (dCons (dVar 1) dNil))) dNil)))
  (dSeq (dAsg (dTup (dCons (dBin fIx (dVar 3) (dVar 7)) (dCons (dBin fIx (dVar 3) (dVar 6)) dNil))) (gdTup 2 (gdCons (gdSub (dVar 3) (dVar 6)) (gdCons (gdSub (dVar 3) (dVar 7)) gdNil))))
  (dRet (dCB (f1 gTupOf) (dCons (dVar 3) dNil)))))
  dNext)
  (dSeq (dFor (dIRng3 (dCons (dBin fSub (dVar 1) (dC (.int 1))) (dCons (dC (.int 0)) (dCons (dUn fNeg (dC (.int 1))) dNil)))) (gdName 2)
  (dSeq (dSet 5 (dCall sp_law_take [] (dCons (dVar 0) (dCons (dBin fPlus (dVar 2) (dC (.int 1))) dNil))))
  (dAsg (dTup (dCons (dBin fIx (dVar 3) (dVar 5)) (dCons (dBin fIx (dVar 3) (dVar 2)) dNil))) (gdTup 2 (gdCons (gdSub (dVar 3) (dVar 2)) (gdCons (gdSub (dVar 3) (dVar 5)) gdNil))))))
  (dSeq (dIfS (dTest (dBin (fEq false) (dVar 4) (dC (.int 3))))
  (dRet (dCB (f1 gTupOf) (dCons (dLc (dIRng1 (dCons (dVar 1) dNil)) (gdName 2) dYes (dBin fIx (dVar 3) (dBin fMod (dBin fPlus (dBM "list" mLstIdx (dVar 3) (dCons (dVar 2) dNil)) (dC (.int 1))) (dVar 1))) [2]) dNil)))
  dNext)
  (dRet (dCB (f1 gTupOf) (dCons (dVar 3) dNil))))))))
/-- the reading of _law_members -/
def N_law_members : List Str := ["points", "moves", "limit", "known", "waiting", "one", "move", "two"]
def r_law_members (sp_law_then : SpD) : TSD := (dSeq (dPar 3 4 (dCons (dDisp1T (dTupRg (dRg1 (dVar 0))) (dC (.bl true))) (dCons (dLstM (dCons (dTupRg (dRg1 (dVar 0))) dNil)) dNil)))
  (dSeq (dWhile (dTest (dBin (fEq true) (dVar 4) (dLstI dNil)))
  (dSeq (dSet 5 (dBM "list" mPop (dVar 4) dNil))
  (dSeq (dFor (dISeq (dVar 1)) (gdName 6)
  (dSeq (dSet 7 (dCall sp_law_then [] (dCons (dVar 5) (dCons (dVar 6) dNil))))
  (dIfS (dTest (dBin (fIn true) (dVar 7) (dVar 3)))
  (dSeq (dAsg (dC (.bl true)) (gdSub (dVar 3) (dVar 7)))
  (dDrop (dBM "list" mAppend (dVar 4) (dCons (dVar 7) dNil))))
  dNext)))
  (dIfS (dTest (dBin fGt (dCB (f1 gLen) (dCons (dVar 3) dNil)) (dVar 2)))
  (dRet (dC .non))
  dNext))))
  (dRet (dCB (f1 gSortT) (dCons (dVar 3) dNil)))))
/-- the reading of _law_small -/
def N_law_small : List Str := ["pool", "most", "points", "moves", "members", "k"]
def r_law_small (sp_law_take : SpD) (sp_law_move : SpD) (sp_law_members : SpD) : TSD := (dSeq (dSet 2 (dBin fPlus (dC (.int 1)) (dCall sp_law_take [] (dCons (dVar 0) (dCons (dC (.int 7)) dNil)))))
  (dSeq (dSet 3 (dLc (dIRng1 (dCons (dCall sp_law_take [] (dCons (dVar 0) (dCons (dC (.int 4)) dNil))) dNil)) (gdName 5) dYes (dCall sp_law_move [] (dCons (dVar 0) (dCons (dVar 2) dNil))) [5]))
  (dSeq (dSet 4 (dCall sp_law_members [] (dCons (dVar 2) (dCons (dVar 3) (dCons (dVar 1) dNil)))))
  (dSeq (dWhile (dTest (dBin (fIsN false) (dVar 4) (dC .non)))
  (dSeq (dSet 3 (dSl (dVar 3) (dPart (dC (.int 1))) dNoPart))
  (dSet 4 (dCall sp_law_members [] (dCons (dVar 2) (dCons (dVar 3) (dCons (dVar 1) dNil)))))))
  (dRet (dVar 4))))))
/-- the reading of _law_round -/
def N_law_round : List Str := ["many", "one", "other"]
def r_law_round  : TSD := (dRet (dCB (f1 gTupX) (dCons (dLc (dIRng1 (dCons (dVar 0) dNil)) (gdName 1) dYes (dCB (f1 gTupX) (dCons (dLc (dIRng1 (dCons (dVar 0) dNil)) (gdName 2) dYes (dBin fMod (dBin fPlus (dVar 1) (dVar 2)) (dVar 0)) [2]) dNil)) [1]) dNil)))
/-- the reading of _law_product -/
def N_law_product : List Str := ["one", "other", "first", "wide", "lines", "line", "second", "made"]
def r_law_product  : TSD := (dSeq (dPar 3 4 (dCons (dCB (f1 gLen) (dCons (dVar 1) dNil)) (dCons (dLstM dNil) dNil)))
  (dSeq (dFor (dIRng1 (dCons (dBin fTimes (dCB (f1 gLen) (dCons (dVar 0) dNil)) (dVar 3)) dNil)) (gdName 2)
  (dSeq (dSet 5 (dLstM dNil))
  (dSeq (dFor (dIRng1 (dCons (dBin fTimes (dCB (f1 gLen) (dCons (dVar 0) dNil)) (dVar 3)) dNil)) (gdName 6)
  (dSeq (dSet 7 (dBin fIx (dBin fIx (dVar 0) (dBin fDiv (dVar 2) (dVar 3))) (dBin fDiv (dVar 6) (dVar 3))))
  (dDrop (dBM "list" mAppend (dVar 5) (dCons (dBin fPlus (dBin fTimes (dVar 7) (dVar 3)) (dBin fIx (dBin fIx (dVar 1) (dBin fMod (dVar 2) (dVar 3))) (dBin fMod (dVar 6) (dVar 3)))) dNil)))))
  (dDrop (dBM "list" mAppend (dVar 4) (dCons (dCB (f1 gTupX) (dCons (dVar 5) dNil)) dNil))))))
  (dRet (dCB (f1 gTupX) (dCons (dVar 4) dNil)))))
/-- the reading of _law_group -/
def N_law_group : List Str := ["pool", "most", "draw", "lines", "first"]
def r_law_group (sp_law_take : SpD) (sp_law_lines : SpD) (sp_law_small : SpD) (sp_law_round : SpD) (sp_law_product : SpD) (sp_law_turned : SpD) (sp_law_called : SpD) : TSD := (dSeq (dSet 2 (dCall sp_law_take [] (dCons (dVar 0) (dCons (dC (.int 6)) dNil))))
  (dSeq (dSet 3 (dCall sp_law_lines [] (dCons (dCall sp_law_small [] (dCons (dVar 0) (dCons (dVar 1) dNil))) dNil)))
  (dSeq (dIfS (dTest (dBin (fEq false) (dVar 2) (dC (.int 0))))
  (dSet 3 (dCall sp_law_round [] (dCons (dBin fPlus (dC (.int 1)) (dCall sp_law_take [] (dCons (dVar 0) (dCons (dVar 1) dNil)))) dNil)))
  dNext)
  (dSeq (dIfS (dTest (dBin (fEq false) (dVar 2) (dC (.int 1))))
  (dSeq (dSet 4 (dBin fPlus (dCall sp_law_take [] (dCons (dVar 0) (dCons (dC (.int 3)) dNil))) (dC (.int 1))))
  (dSet 3 (dCall sp_law_product [] (dCons (dCall sp_law_round [] (dCons (dVar 4) dNil)) (dCons (dCall sp_law_round [] (dCons (dBin fPlus (dC (.int 1)) (dCall sp_law_take [] (dCons (dVar 0) (dCons (dBin fDiv (dVar 1) (dVar 4)) dNil)))) dNil)) dNil)))))
  dNext)
  (dSeq (dIfS (dTest (dBin (fEq false) (dCall sp_law_take [] (dCons (dVar 0) (dCons (dC (.int 2)) dNil))) (dC (.int 0))))
  (dSet 3 (dCall sp_law_turned [] (dCons (dVar 3) (dCons (dCall sp_law_called [] (dCons (dVar 0) (dCons (dCB (f1 gLen) (dCons (dVar 3) dNil)) dNil))) dNil))))
  dNext)
  (dRet (dVar 3)))))))
/-- the reading of _law_share -/
def N_law_share : List Str := ["one", "other"]
def r_law_share  : TSD := (dSeq (dWhile (dTest (dBin fGt (dVar 1) (dC (.int 0))))
  (dPar 0 1 (dCons (dVar 1) (dCons (dBin fMod (dVar 0) (dVar 1)) dNil))))
  (dRet (dVar 0)))
/-- the reading of law -/
def N_law : List Str := ["script", "k", "pool", "wide", "due", "number"]
def r_law (C_Table : Addr) (sp_law_pool : SpD) (sp_law_cell : SpD) (sp_law_right : SpD) (sp_law_group : SpD) (sp_law_take : SpD) (sp_law_share : SpD) (sp_autos : SpD) (sp_table_init : SpD) (sp_law_round : SpD) : TSD := (dSeq (dFor (dIRng1 (dCons (dCB (f2 gMax2) (dCons (dC (.int 1)) (dCons (dCB (f2 gMin2) (dCons (dC (.int 4)) (dCons (dCB (f1 gLen) (dCons (dVar 0) dNil)) dNil))) dNil))) dNil)) (gdName 1)
  (dSeq (dSet 2 (dCall sp_law_pool [] (dCons (dCall sp_law_cell [] (dCons (dVar 0) (dCons (dVar 1) dNil))) dNil)))
  (dSeq (dIfS (dNot (dTest (dCall sp_law_right [] (dCons (dVar 2) (dCons (dCall sp_law_group [] (dCons (dVar 2) (dCons (dBin fIx (dLstI (dCons (dC (.int 8)) (dCons (dC (.int 12)) dNil))) (dCB (f1 gInt) (dCons (dBin (fEq false) (dCall sp_law_take [] (dCons (dVar 2) (dCons (dC (.int 8)) dNil))) (dC (.int 3))) dNil))) dNil))) dNil)))))
  (dRet (dC (.bl false)))
  dNext)
  (dSeq (dSet 3 (dBin fPlus (dC (.int 1)) (dCall sp_law_take [] (dCons (dVar 2) (dCons (dC (.int 12)) dNil)))))
  (dSeq (dSet 4 (dCB (f1 gLen) (dCons (dLc (dIRng2 (dCons (dC (.int 1)) (dCons (dBin fPlus (dVar 3) (dC (.int 1))) dNil))) (gdName 5) (dTest (dBin (fEq false) (dCall sp_law_share [] (dCons (dVar 5) (dCons (dVar 3) dNil))) (dC (.int 1)))) (dVar 5) [5]) dNil)))
  (dIfS (dTest (dBin (fEq true) (dCB (f1 gLen) (dCons (dCall sp_autos [] (dCons (dMakeI C_Table sp_table_init [] (dCons (dCall sp_law_round [] (dCons (dVar 3) dNil)) dNil)) dNil)) dNil)) (dVar 4)))
  (dRet (dC (.bl false)))
  dNext))))))
  (dRet (dC (.bl true))))
end T74
end
section
set_option Elab.async false
set_option linter.all false
set_option maxRecDepth 100000
set_option maxHeartbeats 4000000
namespace T74
open DL PySem PySem.Spec PyProof.Rows L2
theorem cut_map {α : Type} (f : α → D) (xs : List α) (lo hi : Option Int) : cutD (xs.map f) lo hi = ((xs.drop (HT.sIx xs.length 0 lo)).take (HT.sIx xs.length xs.length hi - HT.sIx xs.length 0 lo)).map f := by
  unfold DL.cutD
  simp only [List.map_drop, List.map_take, List.length_map]
theorem ints_at {ns : List Int} {i : Nat} {d : D} (h : (ns.map D.int)[i]? = some d) : ∃ z : Int, d = .int z := by
  rw [List.getElem?_map] at h
  cases e : ns[i]? with
  | none => rw [e] at h; cases h
  | some z => rw [e] at h; cases h; exact ⟨z, rfl⟩
theorem lc_def {ti : TID} {g : TGD} {tt : TTD} {te : TED} {vs : List Nat} {δ : DEnv} {M : Mem} {Q : KD} : dLc ti g tt te vs δ M Q = ti δ M fun jd M1 => lcGo jd.alive g tt te (dwipe δ vs) jd.items [] M1 fun acc M2 => Q (.lst acc) M2 := rfl
theorem lc2_def {ti ti1 : TID} {g g1 : TGD} {tt tt1 : TTD} {te : TED} {vs vs1 : List Nat} {δ : DEnv} {M : Mem} {Q : KD} : dLc2 ti g tt ti1 g1 tt1 te vs vs1 δ M Q = ti δ M fun jd M1 => lc2Go jd.alive g tt ti1 g1 tt1 te (dwipe δ vs) vs1 jd.items [] M1 fun acc M2 => Q (.lst acc) M2 := rfl
theorem dFor_def {ti : TID} {g : TGD} {tb : TSD} {De : DEnds} {δ : DEnv} {M : Mem} : dFor ti g tb De δ M = ti δ M fun jd M1 => forGo jd.alive g tb De jd.items δ M1 := rfl
/-- an instance of C is made -/
def MkT (C : Addr) (sp : SpD) (ds : List D) (M1 : Mem) (Q : KD) : Prop := ∀ p, M1 p = none → sp (.ref p :: ds) (mupd M1 p (.ins C [])) fun d M2 => isNon d = true ∧ match insM (M2 p) with
  | some (C', fs) => Q (.obj C' fs) (mdel M2 p)
  | none => False
theorem mk_def {C : Addr} {sp : SpD} {dds : List D} {t : TAD} {δ : DEnv} {M : Mem} {Q : KD} : dMakeI C sp dds t δ M Q = t δ M fun ds M1 => MkT C sp (ds ++ dds) M1 Q := rfl
/-! ### the pool -/
def plD (a b c : Int) : MO := .lst [.int a, .int b, .int c]
/-- the pool at p -/
def Pool (M : Mem) (p : Addr) : Prop := ∃ a b c, M p = some (plD a b c) ∧ 0 ≤ a ∧ a < 2147483648
/-- the pool has moved on -/
def PS (p : Addr) (M M' : Mem) : Prop := ∃ a b c, M' = mupd M p (plD a b c) ∧ 0 ≤ a ∧ a < 2147483648
theorem PS.pool {p : Addr} {M M' : Mem} (h : PS p M M') : Pool M' p := by
  obtain ⟨a, b, c, e, h1, h2⟩ := h
  subst e
  exact ⟨a, b, c, mupd_same, h1, h2⟩
theorem PS.trans {p : Addr} {M M' M'' : Mem} (h : PS p M M') (h' : PS p M' M'') : PS p M M'' := by
  obtain ⟨a, b, c, e, h1, h2⟩ := h
  obtain ⟨a', b', c', e', h1', h2'⟩ := h'
  subst e e'
  exact ⟨a', b', c', mupd_mupd, h1', h2'⟩
theorem PS.ne {p q : Addr} {M M' : Mem} (h : PS p M M') (hq : q ≠ p) : M' q = M q := by
  obtain ⟨a, b, c, e, _⟩ := h
  subst e
  exact mupd_ne hq
theorem Pool.ps {p : Addr} {M : Mem} (h : Pool M p) : PS p M M := by
  obtain ⟨a, b, c, e, h1, h2⟩ := h
  exact ⟨a, b, c, (mupd_self e).symm, h1, h2⟩
theorem PS.none {p q : Addr} {M M' : Mem} (h : PS p M M') (hp : Pool M p) : M' q = Option.none ↔ M q = Option.none := by
  by_cases e : q = p
  · subst e
    obtain ⟨_, _, _, e1, _⟩ := h.pool
    obtain ⟨_, _, _, e2, _⟩ := hp
    rw [e1, e2]
    exact ⟨(fun q => nomatch q), (fun q => nomatch q)⟩
  · rw [h.ne e]
theorem fg {Q : KD} {d : D} {M' : Mem} (h : Q d M') : Forget Q d M' := ⟨M', fun _ _ q => q, h⟩
theorem fg_to {M : Mem} {Q : KD} {d : D} {M' : Mem} (h : Q d M) (e : ∀ a o, M a = some o → M' a = some o) : Forget Q d M' := ⟨M, e, h⟩
theorem mupd_sup {M : Mem} {p : Addr} {o : MO} (h : M p = Option.none) : ∀ a u, M a = some u → mupd M p o a = some u := fun a u e => by
  rw [mupd_ne (fun z => by rw [z, h] at e; cases e)]; exact e
/-- where a def ends -/
abbrev dEnd (Q : KD) : DEnds := { nx := fun _ M' => Forget Q .non M', rt := Forget Q }
/-! ### _law_pool, _law_cell, _law_take -/
def sp_law_pool (C : Addr) : SpD := fun ds M Q => ∃ i : Int, ds = [.int i] ∧ ∀ p M', M p = Option.none → PS p M M' → Q (.ref p) M'
theorem hl_law_pool (C : Addr) : ∀ ds M Q, sp_law_pool C ds M Q → ds.length = 1 := fun _ _ _ ⟨_, e, _⟩ => by rw [e]; rfl
theorem ok_law_pool (C : Addr) : ∀ ds M Q, sp_law_pool C ds M Q → r_law_pool (dEnd Q) (dstart N_law_pool ds) M := by
  rintro ds M Q ⟨i, rfl, h⟩
  have fin : ∀ b : Int, (dRet (dLstM (dCons (dBin fMod (dVar 0) (dC (.int 2147483423))) (dCons (dVar 1) (dCons (dC (.int 0)) dNil))))) (dEnd Q) [some (.int i), some (.int b)] M := fun b => by
    simp only [dSeq, dFor_def, lc_def, lc2_def, dSet, dC, dVar, dIfS, dOr, dAnd, dNot, dTest, dTru, dBin, dUn, dCB, f1, f2, dCons, dNil, dRet, dRetN, dLstM, dLstI, dTup, dget, dset, dNext, dDrop, dBreak, dCont, dIf, dAndV, dOrV, dNotV, dChain, dPar, dAug, dAsg, gdName, gdTup, gdCons, gdNil, gdSub, dCall, dBM, dBMX, dSl, dNoPart, dPart, dNever, List.append_nil, dDisp1K, dDisp1T, dLstRg, dLstRgM, dTupRg, dRg1, dRg2, dTimesM, dNewK, dYes, mk_def, dFldSet, dISeq, dIRng1, dIRng2, dIRng3, dIEnum, dIZip, dwipe, dclr, fII, fIIc, fIB, fLt, fLe, fGt, fGe, fAdd, fSub, fMul, fDiv, fMod, fPow, fNeg]
    refine ⟨by decide, show 3 ≤ sizeLine by decide, fun p hp => ?_⟩
    have h0 := Int.emod_nonneg i (show (2147483423 : Int) ≠ 0 by decide)
    have h1 := Int.emod_lt_of_pos i (show (0 : Int) < 2147483423 by decide)
    exact fg (h p _ hp ⟨_, b, 0, rfl, h0, by omega⟩)
  unfold r_law_pool
  simp only [dSeq, dSet, dC, dIfS, dOr, dTest, dBin, dVar, dget, dset, fII, fIIc, fIB, fLt, fLe, fGt, fGe, fAdd, fSub, fMul, fDiv, fMod, fPow, fNeg, dstart, N_law_pool, List.map, List.length, List.replicate, List.append, HAppend.hAppend, Append.append, decide_eq_true_eq, if_true, if_false, dNext, dCB, f1, gAbs, dCons, dNil]
  split
  · exact fin _
  · refine ⟨⟨by decide, by decide, by decide⟩, ?_⟩
    split
    · exact fin _
    · exact fin _
def sp_law_cell (C : Addr) : SpD := fun ds M Q => ∃ (ns : List Int) (k : Nat), ds = [.rol (ns.map D.int), .int k] ∧ k < 1000 ∧ ns.length ≤ 63 ∧ ∀ r, Q (.int r) M
theorem hl_law_cell (C : Addr) : ∀ ds M Q, sp_law_cell C ds M Q → ds.length = 2 := fun _ _ _ ⟨_, _, e, _⟩ => by rw [e]; rfl
theorem ok_law_cell (C : Addr) : ∀ ds M Q, sp_law_cell C ds M Q → r_law_cell (dEnd Q) (dstart N_law_cell ds) M := by
  rintro ds M Q ⟨ns, k, rfl, hk, hn, h⟩
  unfold r_law_cell; simp only [dstart, N_law_cell, List.map, List.length, List.replicate, List.append, HAppend.hAppend, Append.append]
  (first | rw [seq_def] | (simp only [gdName, dset]; rw [seq_def])); simp only [dFor_def, lc_def, lc2_def, dSet, dC, dVar, dIfS, dOr, dAnd, dNot, dTest, dTru, dBin, dUn, dCB, f1, f2, dCons, dNil, dRet, dRetN, dLstM, dLstI, dTup, dget, dset, dNext, dDrop, dBreak, dCont, dIf, dAndV, dOrV, dNotV, dChain, dPar, dAug, dAsg, gdName, gdTup, gdCons, gdNil, gdSub, dCall, dBM, dBMX, dSl, dNoPart, dPart, dNever, List.append_nil, dDisp1K, dDisp1T, dLstRg, dLstRgM, dTupRg, dRg1, dRg2, dTimesM, dNewK, dYes, mk_def, dFldSet, dISeq, dIRng1, dIRng2, dIRng3, dIEnum, dIZip, dwipe, dclr, fII, fIIc, fIB, fLt, fLe, fGt, fGe, fAdd, fSub, fMul, fDiv, fMod, fPow, fNeg, f1, f2, dstart, List.map, List.length, List.replicate, decide_eq_true_eq, if_true, if_false, Bool.false_eq_true, Bool.not_true, Bool.not_false, reduceIte]
  refine len_seq rfl ?_
  simp only [decide_eq_true_eq]
  split
  · rename_i hlt
    have hlt' : k < ns.length := by
      rw [List.length_map] at hlt; omega
    exact ix_nat (d := .int ns[k]) rfl (by rw [List.getElem?_map, List.getElem?_eq_getElem hlt']; rfl) (fg (h _))
  · (first | rw [seq_def] | (simp only [gdName, dset]; rw [seq_def])); simp only [dFor_def, lc_def, lc2_def, dSet, dC, dVar, dIfS, dOr, dAnd, dNot, dTest, dTru, dBin, dUn, dCB, f1, f2, dCons, dNil, dRet, dRetN, dLstM, dLstI, dTup, dget, dset, dNext, dDrop, dBreak, dCont, dIf, dAndV, dOrV, dNotV, dChain, dPar, dAug, dAsg, gdName, gdTup, gdCons, gdNil, gdSub, dCall, dBM, dBMX, dSl, dNoPart, dPart, dNever, List.append_nil, dDisp1K, dDisp1T, dLstRg, dLstRgM, dTupRg, dRg1, dRg2, dTimesM, dNewK, dYes, mk_def, dFldSet, dISeq, dIRng1, dIRng2, dIRng3, dIEnum, dIZip, dwipe, dclr, fII, fIIc, fIB, fLt, fLe, fGt, fGe, fAdd, fSub, fMul, fDiv, fMod, fPow, fNeg, f1, f2, dstart, List.map, List.length, List.replicate, decide_eq_true_eq, if_true, if_false, Bool.false_eq_true, Bool.not_true, Bool.not_false, reduceIte]
    have m1 : ∀ j : Int, CMul k j := fun j => mul_small (by omega) (by omega)
    refine times_int (m1 _) (times_int (mul_small (by decide) (by decide)) (plus_int (plus_int (times_int (mul_small (by decide) (by decide)) ⟨by decide, ?_⟩))))
    (first | rw [seq_def] | (simp only [gdName, dset]; rw [seq_def])); simp only [dFor_def, lc_def, lc2_def, dSet, dC, dVar, dIfS, dOr, dAnd, dNot, dTest, dTru, dBin, dUn, dCB, f1, f2, dCons, dNil, dRet, dRetN, dLstM, dLstI, dTup, dget, dset, dNext, dDrop, dBreak, dCont, dIf, dAndV, dOrV, dNotV, dChain, dPar, dAug, dAsg, gdName, gdTup, gdCons, gdNil, gdSub, dCall, dBM, dBMX, dSl, dNoPart, dPart, dNever, List.append_nil, dDisp1K, dDisp1T, dLstRg, dLstRgM, dTupRg, dRg1, dRg2, dTimesM, dNewK, dYes, mk_def, dFldSet, dISeq, dIRng1, dIRng2, dIRng3, dIEnum, dIZip, dwipe, dclr, fII, fIIc, fIB, fLt, fLe, fGt, fGe, fAdd, fSub, fMul, fDiv, fMod, fPow, fNeg, f1, f2, dstart, List.map, List.length, List.replicate, decide_eq_true_eq, if_true, if_false, Bool.false_eq_true, Bool.not_true, Bool.not_false, reduceIte]
    simp only [fSl, tupK, lstD, seqD]
    refine for_inv (fun i δ M' => M' = M ∧ ∃ x y, δ = [some (.rol (ns.map D.int)), some (.int (k : Nat)), some (.int x), y]) ⟨rfl, _, _, rfl⟩ (fun i d δ M' Nx hd hI hn => ?_) (fun δ M' hI => ?_)
    · obtain ⟨rfl, x, y, rfl⟩ := hI
      refine ⟨(by trivial), ?_⟩
      have hd' : ∃ z : Int, d = .int z := by
        rw [cut_map] at hd
        exact ints_at hd
      obtain ⟨z, rfl⟩ := hd'
      (try simp only [dFor_def, lc_def, lc2_def, dSet, dC, dVar, dIfS, dOr, dAnd, dNot, dTest, dTru, dBin, dUn, dCB, f1, f2, dCons, dNil, dRet, dRetN, dLstM, dLstI, dTup, dget, dset, dNext, dDrop, dBreak, dCont, dIf, dAndV, dOrV, dNotV, dChain, dPar, dAug, dAsg, gdName, gdTup, gdCons, gdNil, gdSub, dCall, dBM, dBMX, dSl, dNoPart, dPart, dNever, List.append_nil, dDisp1K, dDisp1T, dLstRg, dLstRgM, dTupRg, dRg1, dRg2, dTimesM, dNewK, dYes, mk_def, dFldSet, dISeq, dIRng1, dIRng2, dIRng3, dIEnum, dIZip, dwipe, dclr, fII, fIIc, fIB, fLt, fLe, fGt, fGe, fAdd, fSub, fMul, fDiv, fMod, fPow, fNeg, f1, f2, dstart, List.map, List.length, List.replicate, decide_eq_true_eq, if_true, if_false, Bool.false_eq_true, Bool.not_true, Bool.not_false, reduceIte])
      exact times_int (mul_small2 (by decide) (by decide)) (plus_int ⟨by decide, hn _ _ ⟨rfl, _, _, rfl⟩⟩)
    · obtain ⟨rfl, x, y, rfl⟩ := hI
      exact ⟨(by trivial), fg (h x)⟩
def sp_law_take (C : Addr) : SpD := fun ds M Q => ∃ (p : Addr) (many : Int), ds = [.ref p, .int many] ∧ Pool M p ∧ 0 < many ∧ many < 1073741824 ∧ ∀ r M', 0 ≤ r → r < many → PS p M M' → Q (.int r) M'
theorem hl_law_take (C : Addr) : ∀ ds M Q, sp_law_take C ds M Q → ds.length = 2 := fun _ _ _ ⟨_, _, e, _⟩ => by rw [e]; rfl
theorem seq_lst {M : Mem} {a : Addr} {ds : List D} (h : M a = some (.lst ds)) : seqD M (.ref a) = some ds := by
  unfold seqD seqM; dsimp only; rw [h]
theorem ok_law_take (C : Addr) : ∀ ds M Q, sp_law_take C ds M Q → r_law_take (dEnd Q) (dstart N_law_take ds) M := by
  rintro ds M Q ⟨p, many, rfl, ⟨a, b, c, e, h1, h2⟩, hm, hm2, h⟩
  unfold r_law_take; simp only [dstart, N_law_take, List.map, List.length, List.replicate, List.append, HAppend.hAppend, Append.append]
  (first | rw [seq_def] | (simp only [gdName, dset]; rw [seq_def])); simp only [dFor_def, lc_def, lc2_def, dSet, dC, dVar, dIfS, dOr, dAnd, dNot, dTest, dTru, dBin, dUn, dCB, f1, f2, dCons, dNil, dRet, dRetN, dLstM, dLstI, dTup, dget, dset, dNext, dDrop, dBreak, dCont, dIf, dAndV, dOrV, dNotV, dChain, dPar, dAug, dAsg, gdName, gdTup, gdCons, gdNil, gdSub, dCall, dBM, dBMX, dSl, dNoPart, dPart, dNever, List.append_nil, dDisp1K, dDisp1T, dLstRg, dLstRgM, dTupRg, dRg1, dRg2, dTimesM, dNewK, dYes, mk_def, dFldSet, dISeq, dIRng1, dIRng2, dIRng3, dIEnum, dIZip, dwipe, dclr, fII, fIIc, fIB, fLt, fLe, fGt, fGe, fAdd, fSub, fMul, fDiv, fMod, fPow, fNeg, f1, f2, dstart, List.map, List.length, List.replicate, decide_eq_true_eq, if_true, if_false, Bool.false_eq_true, Bool.not_true, Bool.not_false, reduceIte]
  refine ix_at (seq_lst e) rfl (plus_int (set_lst e rfl ?_))
  generalize hM1 : mupd M p _ = M1
  have e1 : M1 p = some (plD a b (c + 1)) := by subst hM1; exact mupd_same
  (first | rw [seq_def] | (simp only [gdName, dset]; rw [seq_def])); simp only [dFor_def, lc_def, lc2_def, dSet, dC, dVar, dIfS, dOr, dAnd, dNot, dTest, dTru, dBin, dUn, dCB, f1, f2, dCons, dNil, dRet, dRetN, dLstM, dLstI, dTup, dget, dset, dNext, dDrop, dBreak, dCont, dIf, dAndV, dOrV, dNotV, dChain, dPar, dAug, dAsg, gdName, gdTup, gdCons, gdNil, gdSub, dCall, dBM, dBMX, dSl, dNoPart, dPart, dNever, List.append_nil, dDisp1K, dDisp1T, dLstRg, dLstRgM, dTupRg, dRg1, dRg2, dTimesM, dNewK, dYes, mk_def, dFldSet, dISeq, dIRng1, dIRng2, dIRng3, dIEnum, dIZip, dwipe, dclr, fII, fIIc, fIB, fLt, fLe, fGt, fGe, fAdd, fSub, fMul, fDiv, fMod, fPow, fNeg, f1, f2, dstart, List.map, List.length, List.replicate, decide_eq_true_eq, if_true, if_false, Bool.false_eq_true, Bool.not_true, Bool.not_false, reduceIte]
  refine ix_at (seq_lst e1) rfl ?_
  (first | rw [seq_def] | (simp only [gdName, dset]; rw [seq_def])); simp only [dFor_def, lc_def, lc2_def, dSet, dC, dVar, dIfS, dOr, dAnd, dNot, dTest, dTru, dBin, dUn, dCB, f1, f2, dCons, dNil, dRet, dRetN, dLstM, dLstI, dTup, dget, dset, dNext, dDrop, dBreak, dCont, dIf, dAndV, dOrV, dNotV, dChain, dPar, dAug, dAsg, gdName, gdTup, gdCons, gdNil, gdSub, dCall, dBM, dBMX, dSl, dNoPart, dPart, dNever, List.append_nil, dDisp1K, dDisp1T, dLstRg, dLstRgM, dTupRg, dRg1, dRg2, dTimesM, dNewK, dYes, mk_def, dFldSet, dISeq, dIRng1, dIRng2, dIRng3, dIEnum, dIZip, dwipe, dclr, fII, fIIc, fIB, fLt, fLe, fGt, fGe, fAdd, fSub, fMul, fDiv, fMod, fPow, fNeg, f1, f2, dstart, List.map, List.length, List.replicate, decide_eq_true_eq, if_true, if_false, Bool.false_eq_true, Bool.not_true, Bool.not_false, reduceIte]
  repeat (first | refine plus_int ?_ | refine times_int (mul_small (by omega) (by omega)) ?_ | refine ix_at (seq_lst (by assumption)) rfl ?_ | refine eq_int ?_ | refine ne_int ?_ | refine And.intro (by decide) ?_)
  refine set_lst e1 rfl ?_
  generalize hA : (a * _ + _) % (2147483423 : Int) = A
  have hA0 : 0 ≤ A := by rw [← hA]; exact Int.emod_nonneg _ (by decide)
  have hA1 : A < 2147483423 := by rw [← hA]; exact Int.emod_lt_of_pos _ (by decide)
  generalize hM2 : mupd M1 p _ = M2
  have e2 : M2 p = some (plD A b (c + 1)) := by subst hM2; exact mupd_same
  have hM2' : M2 = mupd M p (plD A b (c + 1)) := by subst hM2 hM1; exact mupd_mupd
  (first | rw [seq_def] | (simp only [gdName, dset]; rw [seq_def])); simp only [dFor_def, lc_def, lc2_def, dSet, dC, dVar, dIfS, dOr, dAnd, dNot, dTest, dTru, dBin, dUn, dCB, f1, f2, dCons, dNil, dRet, dRetN, dLstM, dLstI, dTup, dget, dset, dNext, dDrop, dBreak, dCont, dIf, dAndV, dOrV, dNotV, dChain, dPar, dAug, dAsg, gdName, gdTup, gdCons, gdNil, gdSub, dCall, dBM, dBMX, dSl, dNoPart, dPart, dNever, List.append_nil, dDisp1K, dDisp1T, dLstRg, dLstRgM, dTupRg, dRg1, dRg2, dTimesM, dNewK, dYes, mk_def, dFldSet, dISeq, dIRng1, dIRng2, dIRng3, dIEnum, dIZip, dwipe, dclr, fII, fIIc, fIB, fLt, fLe, fGt, fGe, fAdd, fSub, fMul, fDiv, fMod, fPow, fNeg, f1, f2, dstart, List.map, List.length, List.replicate, decide_eq_true_eq, if_true, if_false, Bool.false_eq_true, Bool.not_true, Bool.not_false, reduceIte]
  refine ix_at (seq_lst e2) rfl ?_
  (try simp only [dFor_def, lc_def, lc2_def, dSet, dC, dVar, dIfS, dOr, dAnd, dNot, dTest, dTru, dBin, dUn, dCB, f1, f2, dCons, dNil, dRet, dRetN, dLstM, dLstI, dTup, dget, dset, dNext, dDrop, dBreak, dCont, dIf, dAndV, dOrV, dNotV, dChain, dPar, dAug, dAsg, gdName, gdTup, gdCons, gdNil, gdSub, dCall, dBM, dBMX, dSl, dNoPart, dPart, dNever, List.append_nil, dDisp1K, dDisp1T, dLstRg, dLstRgM, dTupRg, dRg1, dRg2, dTimesM, dNewK, dYes, mk_def, dFldSet, dISeq, dIRng1, dIRng2, dIRng3, dIEnum, dIZip, dwipe, dclr, fII, fIIc, fIB, fLt, fLe, fGt, fGe, fAdd, fSub, fMul, fDiv, fMod, fPow, fNeg, f1, f2, dstart, List.map, List.length, List.replicate, decide_eq_true_eq, if_true, if_false, Bool.false_eq_true, Bool.not_true, Bool.not_false, reduceIte])
  split
  · (first | rw [seq_def] | (simp only [gdName, dset]; rw [seq_def])); simp only [dFor_def, lc_def, lc2_def, dSet, dC, dVar, dIfS, dOr, dAnd, dNot, dTest, dTru, dBin, dUn, dCB, f1, f2, dCons, dNil, dRet, dRetN, dLstM, dLstI, dTup, dget, dset, dNext, dDrop, dBreak, dCont, dIf, dAndV, dOrV, dNotV, dChain, dPar, dAug, dAsg, gdName, gdTup, gdCons, gdNil, gdSub, dCall, dBM, dBMX, dSl, dNoPart, dPart, dNever, List.append_nil, dDisp1K, dDisp1T, dLstRg, dLstRgM, dTupRg, dRg1, dRg2, dTimesM, dNewK, dYes, mk_def, dFldSet, dISeq, dIRng1, dIRng2, dIRng3, dIEnum, dIZip, dwipe, dclr, fII, fIIc, fIB, fLt, fLe, fGt, fGe, fAdd, fSub, fMul, fDiv, fMod, fPow, fNeg, f1, f2, dstart, List.map, List.length, List.replicate, decide_eq_true_eq, if_true, if_false, Bool.false_eq_true, Bool.not_true, Bool.not_false, reduceIte]
    refine ix_at (seq_lst e2) rfl (divmod_ hm hm2 ?_)
    refine ⟨rfl, ?_⟩
    refine set_lst e2 rfl ?_
    refine fg (h _ _ (Int.emod_nonneg _ (by omega)) (Int.emod_lt_of_pos _ hm) ?_)
    subst hM2'
    exact ⟨A, b / many, c + 1, mupd_mupd, hA0, by omega⟩
  · refine ix_at (seq_lst e2) rfl ?_
    exact ⟨⟨by decide, by decide⟩, hm, fg (h _ _ (Int.emod_nonneg _ (by omega)) (Int.emod_lt_of_pos _ hm) ⟨A, b, c + 1, hM2', hA0, by omega⟩)⟩
end T74
end
section
set_option Elab.async false
set_option linter.all false
set_option maxRecDepth 100000
set_option maxHeartbeats 4000000
namespace T74
open DL PySem PySem.Spec PyProof.Rows L2
abbrev N2 := Nat → Nat → Nat
def rowN (m : N2) (n i : Nat) : List Int := (List.range n).map fun j => ((m i j : Nat) : Int)
def rowD (m : N2) (n i : Nat) : List D := (rowN m n i).map D.int
def linesL (n : Nat) (m : N2) : List D := (List.range n).map fun i => .tupX (rowD m n i)
def linesD (n : Nat) (m : N2) : D := .tupX (linesL n m)
theorem rowN_len {m : N2} {n i : Nat} : (rowN m n i).length = n := by unfold rowN; rw [List.length_map, List.length_range]
theorem rowD_len {m : N2} {n i : Nat} : (rowD m n i).length = n := by unfold rowD; rw [List.length_map, rowN_len]
theorem linesL_len {m : N2} {n : Nat} : (linesL n m).length = n := by unfold linesL; rw [List.length_map, List.length_range]
theorem row_at {m : N2} {n i : Nat} (h : i < n) : (linesL n m)[i]? = some (.tupX (rowD m n i)) := by
  unfold linesL; rw [List.getElem?_map, List.getElem?_range h]; rfl
theorem row_inv {m : N2} {n i : Nat} {d : D} (h : (linesL n m)[i]? = some d) : i < n ∧ d = .tupX (rowD m n i) := by
  have h1 := (List.getElem?_eq_some_iff.mp h).1
  rw [linesL_len] at h1
  rw [row_at h1] at h
  cases h; exact ⟨h1, rfl⟩
theorem cell_at {m : N2} {n i j : Nat} (h : j < n) : (rowD m n i)[j]? = some (.int (m i j : Nat)) := by
  unfold rowD rowN; rw [List.getElem?_map, List.getElem?_map, List.getElem?_range h]; rfl
theorem cell_inv {m : N2} {n i j : Nat} {d : D} (h : (rowD m n i)[j]? = some d) : j < n ∧ d = .int (m i j : Nat) := by
  have h1 := (List.getElem?_eq_some_iff.mp h).1
  rw [rowD_len] at h1
  rw [cell_at h1] at h
  cases h; exact ⟨h1, rfl⟩
theorem ix_line {m : N2} {n i : Nat} {M : Mem} {Q : D → Prop} (h : i < n) (q : Q (.tupX (rowD m n i))) : fIx M (linesD n m) (.int (i : Nat)) Q := ix_nat rfl (row_at h) q
theorem ix_cell {m : N2} {n i j : Nat} {M : Mem} {Q : D → Prop} (h : j < n) (q : Q (.int (m i j : Nat))) : fIx M (.tupX (rowD m n i)) (.int (j : Nat)) Q := ix_nat rfl (cell_at h) q
theorem en_inv {ds : List D} {i : Nat} {d : D} (h : (enPairs ds)[i]? = some d) : ∃ e, ds[i]? = some e ∧ d = .tup [.int (i : Nat), e] := by
  have h1 := (List.getElem?_eq_some_iff.mp h).1
  rw [enPairs_len] at h1
  have e := List.getElem?_eq_getElem h1
  rw [enPairs_get e] at h
  cases h
  exact ⟨_, e, rfl⟩
theorem gd_pair {g1 g2 : TGD} {a b : D} {δ : DEnv} {M : Mem} {R : DEnv → Mem → Prop} (h : g1 a δ M fun δ1 M1 => g2 b δ1 M1 R) : gdTup 2 (gdCons g1 (gdCons g2 gdNil)) (.tup [a, b]) δ M R := ⟨rfl, h⟩
/-- a group's table -/
structure IsGrp (n : Nat) (m : N2) : Prop where
  pos : 0 < n
  clo : ∀ i j, i < n → j < n → m i j < n
  le0 : ∀ i, i < n → m 0 i = i
  ri0 : ∀ i, i < n → m i 0 = i
  ass : ∀ i j k, i < n → j < n → k < n → m (m i j) k = m i (m j k)
  inv : ∀ i, i < n → ∃ j, j < n ∧ m i j = 0
def sp_is_number (C : Addr) : SpD := fun ds M Q => ∃ i j : Int, ds = [.int i, .int j] ∧ 0 ≤ i ∧ i < j ∧ Q (.bl true) M
theorem hl_is_number (C : Addr) : ∀ ds M Q, sp_is_number C ds M Q → ds.length = 2 := fun _ _ _ ⟨_, _, e, _⟩ => by rw [e]; rfl
theorem ok_is_number (C : Addr) : ∀ ds M Q, sp_is_number C ds M Q → r_is_number C (dEnd Q) (dstart N_is_number ds) M := by
  rintro ds M Q ⟨i, j, rfl, h1, h2, h⟩
  unfold r_is_number; simp only [dstart, N_is_number, List.map, List.length, List.replicate, List.append, HAppend.hAppend, Append.append]
  (try simp only [dFor_def, lc_def, lc2_def, dSet, dC, dVar, dIfS, dOr, dAnd, dNot, dTest, dTru, dBin, dUn, dCB, f1, f2, dCons, dNil, dRet, dRetN, dLstM, dLstI, dTup, dget, dset, dNext, dDrop, dBreak, dCont, dIf, dAndV, dOrV, dNotV, dChain, dPar, dAug, dAsg, gdName, gdTup, gdCons, gdNil, gdSub, dCall, dBM, dBMX, dSl, dNoPart, dPart, dNever, List.append_nil, dDisp1K, dDisp1T, dLstRg, dLstRgM, dTupRg, dRg1, dRg2, dTimesM, dNewK, dYes, mk_def, dFldSet, dISeq, dIRng1, dIRng2, dIRng3, dIEnum, dIZip, dwipe, dclr, fII, fIIc, fIB, fLt, fLe, fGt, fGe, fAdd, fSub, fMul, fDiv, fMod, fPow, fNeg, f1, f2, dstart, List.map, List.length, List.replicate, decide_eq_true_eq, if_true, if_false, Bool.false_eq_true, Bool.not_true, Bool.not_false, reduceIte])
  refine isi_ty rfl ki1 ?_
  refine isi_ty rfl ki2 ?_
  simp only [decide_eq_true h1, decide_eq_true h2, Bool.not_false]
  exact fg h
def sp_has_form (C : Addr) : SpD := fun ds M Q => ∃ n m, ds = [linesD n m] ∧ IsGrp n m ∧ n ≤ 48 ∧ Q (.bl true) M
theorem hl_has_form (C : Addr) : ∀ ds M Q, sp_has_form C ds M Q → ds.length = 1 := fun _ _ _ ⟨_, _, e, _⟩ => by rw [e]; rfl
theorem ok_has_form (C : Addr) : ∀ ds M Q, sp_has_form C ds M Q → r_has_form C (sp_is_number C) (dEnd Q) (dstart N_has_form ds) M := by
  rintro ds M Q ⟨n, m, rfl, g, hn, h⟩
  unfold r_has_form; simp only [dstart, N_has_form, List.map, List.length, List.replicate, List.append, HAppend.hAppend, Append.append]
  (first | rw [seq_def] | (simp only [gdName, dset]; rw [seq_def])); simp only [dFor_def, lc_def, lc2_def, dSet, dC, dVar, dIfS, dOr, dAnd, dNot, dTest, dTru, dBin, dUn, dCB, f1, f2, dCons, dNil, dRet, dRetN, dLstM, dLstI, dTup, dget, dset, dNext, dDrop, dBreak, dCont, dIf, dAndV, dOrV, dNotV, dChain, dPar, dAug, dAsg, gdName, gdTup, gdCons, gdNil, gdSub, dCall, dBM, dBMX, dSl, dNoPart, dPart, dNever, List.append_nil, dDisp1K, dDisp1T, dLstRg, dLstRgM, dTupRg, dRg1, dRg2, dTimesM, dNewK, dYes, mk_def, dFldSet, dISeq, dIRng1, dIRng2, dIRng3, dIEnum, dIZip, dwipe, dclr, fII, fIIc, fIB, fLt, fLe, fGt, fGe, fAdd, fSub, fMul, fDiv, fMod, fPow, fNeg, f1, f2, dstart, List.map, List.length, List.replicate, decide_eq_true_eq, if_true, if_false, Bool.false_eq_true, Bool.not_true, Bool.not_false, reduceIte]
  refine isi_ty rfl ki3 ?_
  simp only [Bool.not_true, Bool.not_false, if_true, if_false, Bool.false_eq_true, decide_true, decide_false, reduceIte]
  refine len_seq (ds := linesL n m) rfl ?_
  have p1 : (1 : Int) ≤ (linesL n m).length := by rw [linesL_len]; have := g.pos; omega
  have p2 : ((linesL n m).length : Int) ≤ 48 := by rw [linesL_len]; omega
  simp only [decide_eq_true p1, decide_eq_true p2, Bool.not_true, if_false, Bool.false_eq_true]
  (first | rw [seq_def] | (simp only [gdName, dset]; rw [seq_def])); simp only [dFor_def, lc_def, lc2_def, dSet, dC, dVar, dIfS, dOr, dAnd, dNot, dTest, dTru, dBin, dUn, dCB, f1, f2, dCons, dNil, dRet, dRetN, dLstM, dLstI, dTup, dget, dset, dNext, dDrop, dBreak, dCont, dIf, dAndV, dOrV, dNotV, dChain, dPar, dAug, dAsg, gdName, gdTup, gdCons, gdNil, gdSub, dCall, dBM, dBMX, dSl, dNoPart, dPart, dNever, List.append_nil, dDisp1K, dDisp1T, dLstRg, dLstRgM, dTupRg, dRg1, dRg2, dTimesM, dNewK, dYes, mk_def, dFldSet, dISeq, dIRng1, dIRng2, dIRng3, dIEnum, dIZip, dwipe, dclr, fII, fIIc, fIB, fLt, fLe, fGt, fGe, fAdd, fSub, fMul, fDiv, fMod, fPow, fNeg, f1, f2, dstart, List.map, List.length, List.replicate, decide_eq_true_eq, if_true, if_false, Bool.false_eq_true, Bool.not_true, Bool.not_false, reduceIte]
  refine lc_map (fun i => .bl true) rfl (by rw [linesL_len]; have : 48 ≤ sizeLine := by decide
                                            omega) (fun i d Nx hd hn => ?_) ?_
  · obtain ⟨hi, rfl⟩ := row_inv hd
    (try simp only [dFor_def, lc_def, lc2_def, dSet, dC, dVar, dIfS, dOr, dAnd, dNot, dTest, dTru, dBin, dUn, dCB, f1, f2, dCons, dNil, dRet, dRetN, dLstM, dLstI, dTup, dget, dset, dNext, dDrop, dBreak, dCont, dIf, dAndV, dOrV, dNotV, dChain, dPar, dAug, dAsg, gdName, gdTup, gdCons, gdNil, gdSub, dCall, dBM, dBMX, dSl, dNoPart, dPart, dNever, List.append_nil, dDisp1K, dDisp1T, dLstRg, dLstRgM, dTupRg, dRg1, dRg2, dTimesM, dNewK, dYes, mk_def, dFldSet, dISeq, dIRng1, dIRng2, dIRng3, dIEnum, dIZip, dwipe, dclr, fII, fIIc, fIB, fLt, fLe, fGt, fGe, fAdd, fSub, fMul, fDiv, fMod, fPow, fNeg, f1, f2, dstart, List.map, List.length, List.replicate, decide_eq_true_eq, if_true, if_false, Bool.false_eq_true, Bool.not_true, Bool.not_false, reduceIte])
    refine isi_ty rfl ki3 ?_
    refine len_seq (ds := rowD m n i) rfl ?_
    refine len_seq (ds := linesL n m) rfl ?_
    refine eq_int ?_
    rw [rowD_len, linesL_len, decide_eq_true rfl]
    exact hn
  · refine all_ (bs := (List.range n).map fun _ => true) (by rw [linesL_len, List.map_map]; rfl) ?_
    simp only [show ((List.range n).map fun _ => true).all id = true by simp, Bool.not_true, if_false, Bool.false_eq_true]
    refine lc2_inv (fun i acc M' => M' = M ∧ acc = List.replicate (i * n) (.bl true)) ⟨rfl, by rw [Nat.zero_mul]; rfl⟩ (fun i d acc M' Nx hd hI hn => ?_) (fun acc M' hI => ?_)
    · obtain ⟨rfl, rfl⟩ := hI
      obtain ⟨hi, rfl⟩ := row_inv hd
      refine ⟨rfl, ?_⟩
      (try simp only [dFor_def, lc_def, lc2_def, dSet, dC, dVar, dIfS, dOr, dAnd, dNot, dTest, dTru, dBin, dUn, dCB, f1, f2, dCons, dNil, dRet, dRetN, dLstM, dLstI, dTup, dget, dset, dNext, dDrop, dBreak, dCont, dIf, dAndV, dOrV, dNotV, dChain, dPar, dAug, dAsg, gdName, gdTup, gdCons, gdNil, gdSub, dCall, dBM, dBMX, dSl, dNoPart, dPart, dNever, List.append_nil, dDisp1K, dDisp1T, dLstRg, dLstRgM, dTupRg, dRg1, dRg2, dTimesM, dNewK, dYes, mk_def, dFldSet, dISeq, dIRng1, dIRng2, dIRng3, dIEnum, dIZip, dwipe, dclr, fII, fIIc, fIB, fLt, fLe, fGt, fGe, fAdd, fSub, fMul, fDiv, fMod, fPow, fNeg, f1, f2, dstart, List.map, List.length, List.replicate, decide_eq_true_eq, if_true, if_false, Bool.false_eq_true, Bool.not_true, Bool.not_false, reduceIte])
      refine lc_inv (fun j acc M2 => M2 = M' ∧ acc = List.replicate (i * n + j) (.bl true)) ⟨rfl, rfl⟩ (fun j d acc M2 Nx2 hd2 hI2 hn2 => ?_) (fun acc M2 hI2 => ?_)
      · obtain ⟨rfl, rfl⟩ := hI2
        obtain ⟨hj, rfl⟩ := cell_inv hd2
        refine ⟨rfl, ?_⟩
        (try simp only [dFor_def, lc_def, lc2_def, dSet, dC, dVar, dIfS, dOr, dAnd, dNot, dTest, dTru, dBin, dUn, dCB, f1, f2, dCons, dNil, dRet, dRetN, dLstM, dLstI, dTup, dget, dset, dNext, dDrop, dBreak, dCont, dIf, dAndV, dOrV, dNotV, dChain, dPar, dAug, dAsg, gdName, gdTup, gdCons, gdNil, gdSub, dCall, dBM, dBMX, dSl, dNoPart, dPart, dNever, List.append_nil, dDisp1K, dDisp1T, dLstRg, dLstRgM, dTupRg, dRg1, dRg2, dTimesM, dNewK, dYes, mk_def, dFldSet, dISeq, dIRng1, dIRng2, dIRng3, dIEnum, dIZip, dwipe, dclr, fII, fIIc, fIB, fLt, fLe, fGt, fGe, fAdd, fSub, fMul, fDiv, fMod, fPow, fNeg, f1, f2, dstart, List.map, List.length, List.replicate, decide_eq_true_eq, if_true, if_false, Bool.false_eq_true, Bool.not_true, Bool.not_false, reduceIte])
        refine len_seq (ds := linesL n m) rfl ?_
        have hc := g.clo i j hi hj
        have hb : i * n + j < sizeLine := by
          have h1 : i * n ≤ 48 * 48 := Nat.mul_le_mul (by omega) (by omega)
          have : 48 * 48 + 48 < sizeLine := by decide
          omega
        refine ⟨_, _, rfl, by omega, by rw [linesL_len]; omega, ?_⟩
        refine ⟨by rw [List.length_replicate]; exact hb, hn2 _ _ ⟨rfl, ?_⟩⟩
        rw [← Nat.add_assoc, List.replicate_succ']
      · obtain ⟨rfl, rfl⟩ := hI2
        refine ⟨rfl, hn _ _ ⟨rfl, ?_⟩⟩
        rw [rowD_len, Nat.succ_mul]
    · obtain ⟨rfl, rfl⟩ := hI
      refine ⟨rfl, all_ (bs := List.replicate (n * n) true) ?_ ?_⟩
      · rw [linesL_len, List.map_replicate]; rfl
      · rw [show (List.replicate (n * n) true).all id = true by simp]
        exact fg h
def sp_first_neutral (C : Addr) : SpD := fun ds M Q => ∃ n m, ds = [linesD n m] ∧ IsGrp n m ∧ Q .non M
theorem hl_first_neutral (C : Addr) : ∀ ds M Q, sp_first_neutral C ds M Q → ds.length = 1 := fun _ _ _ ⟨_, _, e, _⟩ => by rw [e]; rfl
theorem ok_first_neutral (C : Addr) : ∀ ds M Q, sp_first_neutral C ds M Q → r_first_neutral (dEnd Q) (dstart N_first_neutral ds) M := by
  rintro ds M Q ⟨n, m, rfl, g, h⟩
  unfold r_first_neutral; simp only [dstart, N_first_neutral, List.map, List.length, List.replicate, List.append, HAppend.hAppend, Append.append]
  (first | rw [seq_def] | (simp only [gdName, dset]; rw [seq_def])); simp only [dFor_def, lc_def, lc2_def, dSet, dC, dVar, dIfS, dOr, dAnd, dNot, dTest, dTru, dBin, dUn, dCB, f1, f2, dCons, dNil, dRet, dRetN, dLstM, dLstI, dTup, dget, dset, dNext, dDrop, dBreak, dCont, dIf, dAndV, dOrV, dNotV, dChain, dPar, dAug, dAsg, gdName, gdTup, gdCons, gdNil, gdSub, dCall, dBM, dBMX, dSl, dNoPart, dPart, dNever, List.append_nil, dDisp1K, dDisp1T, dLstRg, dLstRgM, dTupRg, dRg1, dRg2, dTimesM, dNewK, dYes, mk_def, dFldSet, dISeq, dIRng1, dIRng2, dIRng3, dIEnum, dIZip, dwipe, dclr, fII, fIIc, fIB, fLt, fLe, fGt, fGe, fAdd, fSub, fMul, fDiv, fMod, fPow, fNeg, f1, f2, dstart, List.map, List.length, List.replicate, decide_eq_true_eq, if_true, if_false, Bool.false_eq_true, Bool.not_true, Bool.not_false, reduceIte]
  refine for_inv (fun i δ M' => M' = M ∧ ∃ y z, δ = [some (linesD n m), y, z]) ⟨rfl, _, _, rfl⟩ (fun i d δ M' Nx hd hI hn => ?_) (fun δ M' hI => ?_)
  · obtain ⟨rfl, x, y, rfl⟩ := hI
    obtain ⟨e, he, rfl⟩ := en_inv hd
    obtain ⟨hi, rfl⟩ := row_inv he
    refine ⟨rfl, gd_pair ?_⟩
    (try simp only [dFor_def, lc_def, lc2_def, dSet, dC, dVar, dIfS, dOr, dAnd, dNot, dTest, dTru, dBin, dUn, dCB, f1, f2, dCons, dNil, dRet, dRetN, dLstM, dLstI, dTup, dget, dset, dNext, dDrop, dBreak, dCont, dIf, dAndV, dOrV, dNotV, dChain, dPar, dAug, dAsg, gdName, gdTup, gdCons, gdNil, gdSub, dCall, dBM, dBMX, dSl, dNoPart, dPart, dNever, List.append_nil, dDisp1K, dDisp1T, dLstRg, dLstRgM, dTupRg, dRg1, dRg2, dTimesM, dNewK, dYes, mk_def, dFldSet, dISeq, dIRng1, dIRng2, dIRng3, dIEnum, dIZip, dwipe, dclr, fII, fIIc, fIB, fLt, fLe, fGt, fGe, fAdd, fSub, fMul, fDiv, fMod, fPow, fNeg, f1, f2, dstart, List.map, List.length, List.replicate, decide_eq_true_eq, if_true, if_false, Bool.false_eq_true, Bool.not_true, Bool.not_false, reduceIte])
    refine ix_cell (j := 0) g.pos (ne_int ?_)
    rw [g.ri0 i hi]
    simp only [decide_true, Bool.not_true, if_false, Bool.false_eq_true]
    refine ix_line (i := 0) g.pos (ix_cell hi (ne_int ?_))
    rw [g.le0 i hi]
    simp only [decide_true, Bool.not_true, if_false, Bool.false_eq_true]
    exact hn _ _ ⟨rfl, _, _, rfl⟩
  · obtain ⟨rfl, x, y, rfl⟩ := hI
    exact ⟨(by trivial), fg h⟩
def sp_first_back (C : Addr) : SpD := fun ds M Q => ∃ n m, ds = [linesD n m] ∧ IsGrp n m ∧ Q .non M
theorem hl_first_back (C : Addr) : ∀ ds M Q, sp_first_back C ds M Q → ds.length = 1 := fun _ _ _ ⟨_, _, e, _⟩ => by rw [e]; rfl
theorem ok_first_back (C : Addr) : ∀ ds M Q, sp_first_back C ds M Q → r_first_back (dEnd Q) (dstart N_first_back ds) M := by
  rintro ds M Q ⟨n, m, rfl, g, h⟩
  unfold r_first_back; simp only [dstart, N_first_back, List.map, List.length, List.replicate, List.append, HAppend.hAppend, Append.append]
  (first | rw [seq_def] | (simp only [gdName, dset]; rw [seq_def])); simp only [dFor_def, lc_def, lc2_def, dSet, dC, dVar, dIfS, dOr, dAnd, dNot, dTest, dTru, dBin, dUn, dCB, f1, f2, dCons, dNil, dRet, dRetN, dLstM, dLstI, dTup, dget, dset, dNext, dDrop, dBreak, dCont, dIf, dAndV, dOrV, dNotV, dChain, dPar, dAug, dAsg, gdName, gdTup, gdCons, gdNil, gdSub, dCall, dBM, dBMX, dSl, dNoPart, dPart, dNever, List.append_nil, dDisp1K, dDisp1T, dLstRg, dLstRgM, dTupRg, dRg1, dRg2, dTimesM, dNewK, dYes, mk_def, dFldSet, dISeq, dIRng1, dIRng2, dIRng3, dIEnum, dIZip, dwipe, dclr, fII, fIIc, fIB, fLt, fLe, fGt, fGe, fAdd, fSub, fMul, fDiv, fMod, fPow, fNeg, f1, f2, dstart, List.map, List.length, List.replicate, decide_eq_true_eq, if_true, if_false, Bool.false_eq_true, Bool.not_true, Bool.not_false, reduceIte]
  refine for_inv (fun i δ M' => M' = M ∧ ∃ y z, δ = [some (linesD n m), y, z]) ⟨rfl, _, _, rfl⟩ (fun i d δ M' Nx hd hI hn => ?_) (fun δ M' hI => ?_)
  · obtain ⟨rfl, x, y, rfl⟩ := hI
    obtain ⟨e, he, rfl⟩ := en_inv hd
    obtain ⟨hi, rfl⟩ := row_inv he
    refine ⟨rfl, gd_pair ?_⟩
    (try simp only [dFor_def, lc_def, lc2_def, dSet, dC, dVar, dIfS, dOr, dAnd, dNot, dTest, dTru, dBin, dUn, dCB, f1, f2, dCons, dNil, dRet, dRetN, dLstM, dLstI, dTup, dget, dset, dNext, dDrop, dBreak, dCont, dIf, dAndV, dOrV, dNotV, dChain, dPar, dAug, dAsg, gdName, gdTup, gdCons, gdNil, gdSub, dCall, dBM, dBMX, dSl, dNoPart, dPart, dNever, List.append_nil, dDisp1K, dDisp1T, dLstRg, dLstRgM, dTupRg, dRg1, dRg2, dTimesM, dNewK, dYes, mk_def, dFldSet, dISeq, dIRng1, dIRng2, dIRng3, dIEnum, dIZip, dwipe, dclr, fII, fIIc, fIB, fLt, fLe, fGt, fGe, fAdd, fSub, fMul, fDiv, fMod, fPow, fNeg, f1, f2, dstart, List.map, List.length, List.replicate, decide_eq_true_eq, if_true, if_false, Bool.false_eq_true, Bool.not_true, Bool.not_false, reduceIte])
    obtain ⟨j, hj, ej⟩ := g.inv i hi
    have e0 : (0 : Int) ∈ rowN m n i := by
      unfold rowN
      exact List.mem_map.mpr ⟨j, List.mem_range.mpr hj, by rw [ej]; rfl⟩
    refine nin_ints (ns := rowN m n i) rfl ?_
    simp only [decide_eq_true e0, Bool.not_true, if_false, Bool.false_eq_true]
    exact hn _ _ ⟨rfl, _, _, rfl⟩
  · obtain ⟨rfl, x, y, rfl⟩ := hI
    exact ⟨(by trivial), fg h⟩
def sp_first_threes (C : Addr) : SpD := fun ds M Q => ∃ n m, ds = [linesD n m] ∧ IsGrp n m ∧ Q .non M
theorem hl_first_threes (C : Addr) : ∀ ds M Q, sp_first_threes C ds M Q → ds.length = 1 := fun _ _ _ ⟨_, _, e, _⟩ => by rw [e]; rfl
theorem ok_first_threes (C : Addr) : ∀ ds M Q, sp_first_threes C ds M Q → r_first_threes (dEnd Q) (dstart N_first_threes ds) M := by
  rintro ds M Q ⟨n, m, rfl, g, h⟩
  unfold r_first_threes; simp only [dstart, N_first_threes, List.map, List.length, List.replicate, List.append, HAppend.hAppend, Append.append]
  (first | rw [seq_def] | (simp only [gdName, dset]; rw [seq_def])); simp only [dFor_def, lc_def, lc2_def, dSet, dC, dVar, dIfS, dOr, dAnd, dNot, dTest, dTru, dBin, dUn, dCB, f1, f2, dCons, dNil, dRet, dRetN, dLstM, dLstI, dTup, dget, dset, dNext, dDrop, dBreak, dCont, dIf, dAndV, dOrV, dNotV, dChain, dPar, dAug, dAsg, gdName, gdTup, gdCons, gdNil, gdSub, dCall, dBM, dBMX, dSl, dNoPart, dPart, dNever, List.append_nil, dDisp1K, dDisp1T, dLstRg, dLstRgM, dTupRg, dRg1, dRg2, dTimesM, dNewK, dYes, mk_def, dFldSet, dISeq, dIRng1, dIRng2, dIRng3, dIEnum, dIZip, dwipe, dclr, fII, fIIc, fIB, fLt, fLe, fGt, fGe, fAdd, fSub, fMul, fDiv, fMod, fPow, fNeg, f1, f2, dstart, List.map, List.length, List.replicate, decide_eq_true_eq, if_true, if_false, Bool.false_eq_true, Bool.not_true, Bool.not_false, reduceIte]
  refine for_inv (fun i δ M' => M' = M ∧ ∃ a b c d e f g h, δ = [some (linesD n m), a, b, c, d, e, f, g, h]) ⟨rfl, _, _, _, _, _, _, _, _, rfl⟩ (fun i d δ M' Nx hd hI hn => ?_) (fun δ M' hI => ?_)
  · obtain ⟨rfl, _, _, _, _, _, _, _, _, rfl⟩ := hI
    obtain ⟨e, he, rfl⟩ := en_inv hd
    obtain ⟨hi, rfl⟩ := row_inv he
    refine ⟨rfl, gd_pair ?_⟩
    (try simp only [dFor_def, lc_def, lc2_def, dSet, dC, dVar, dIfS, dOr, dAnd, dNot, dTest, dTru, dBin, dUn, dCB, f1, f2, dCons, dNil, dRet, dRetN, dLstM, dLstI, dTup, dget, dset, dNext, dDrop, dBreak, dCont, dIf, dAndV, dOrV, dNotV, dChain, dPar, dAug, dAsg, gdName, gdTup, gdCons, gdNil, gdSub, dCall, dBM, dBMX, dSl, dNoPart, dPart, dNever, List.append_nil, dDisp1K, dDisp1T, dLstRg, dLstRgM, dTupRg, dRg1, dRg2, dTimesM, dNewK, dYes, mk_def, dFldSet, dISeq, dIRng1, dIRng2, dIRng3, dIEnum, dIZip, dwipe, dclr, fII, fIIc, fIB, fLt, fLe, fGt, fGe, fAdd, fSub, fMul, fDiv, fMod, fPow, fNeg, f1, f2, dstart, List.map, List.length, List.replicate, decide_eq_true_eq, if_true, if_false, Bool.false_eq_true, Bool.not_true, Bool.not_false, reduceIte])
    refine for_inv (fun _ δ M'' => M'' = M' ∧ ∃ c d e f g h, δ = [some (linesD n m), some (.int (i : Nat)), some (.tupX (rowD m n i)), c, d, e, f, g, h]) ⟨rfl, _, _, _, _, _, _, rfl⟩ (fun j d δ M'' Nx2 hd2 hI2 hn2 => ?_) (fun δ M'' hI2 => ?_)
    · obtain ⟨rfl, _, _, _, _, _, _, rfl⟩ := hI2
      obtain ⟨e, he2, rfl⟩ := en_inv hd2
      obtain ⟨hj, rfl⟩ := cell_inv he2
      refine ⟨rfl, gd_pair ?_⟩
      (first | rw [seq_def] | (simp only [gdName, dset]; rw [seq_def])); simp only [dFor_def, lc_def, lc2_def, dSet, dC, dVar, dIfS, dOr, dAnd, dNot, dTest, dTru, dBin, dUn, dCB, f1, f2, dCons, dNil, dRet, dRetN, dLstM, dLstI, dTup, dget, dset, dNext, dDrop, dBreak, dCont, dIf, dAndV, dOrV, dNotV, dChain, dPar, dAug, dAsg, gdName, gdTup, gdCons, gdNil, gdSub, dCall, dBM, dBMX, dSl, dNoPart, dPart, dNever, List.append_nil, dDisp1K, dDisp1T, dLstRg, dLstRgM, dTupRg, dRg1, dRg2, dTimesM, dNewK, dYes, mk_def, dFldSet, dISeq, dIRng1, dIRng2, dIRng3, dIEnum, dIZip, dwipe, dclr, fII, fIIc, fIB, fLt, fLe, fGt, fGe, fAdd, fSub, fMul, fDiv, fMod, fPow, fNeg, f1, f2, dstart, List.map, List.length, List.replicate, decide_eq_true_eq, if_true, if_false, Bool.false_eq_true, Bool.not_true, Bool.not_false, reduceIte]
      refine ix_line (g.clo i j hi hj) (ix_line hj ?_)
      refine for_inv (fun _ δ M3 => M3 = M'' ∧ ∃ g h, δ = [some (linesD n m), some (.int (i : Nat)), some (.tupX (rowD m n i)), some (.int (j : Nat)), some (.int (m i j : Nat)), some (.tupX (rowD m n (m i j))), some (.tupX (rowD m n j)), g, h]) ⟨rfl, _, _, rfl⟩ (fun k d δ M3 Nx3 hd3 hI3 hn3 => ?_) (fun δ M3 hI3 => ?_)
      · obtain ⟨rfl, _, _, rfl⟩ := hI3
        obtain ⟨e, he3, rfl⟩ := en_inv hd3
        obtain ⟨hk, rfl⟩ := cell_inv he3
        refine ⟨rfl, gd_pair ?_⟩
        (try simp only [dFor_def, lc_def, lc2_def, dSet, dC, dVar, dIfS, dOr, dAnd, dNot, dTest, dTru, dBin, dUn, dCB, f1, f2, dCons, dNil, dRet, dRetN, dLstM, dLstI, dTup, dget, dset, dNext, dDrop, dBreak, dCont, dIf, dAndV, dOrV, dNotV, dChain, dPar, dAug, dAsg, gdName, gdTup, gdCons, gdNil, gdSub, dCall, dBM, dBMX, dSl, dNoPart, dPart, dNever, List.append_nil, dDisp1K, dDisp1T, dLstRg, dLstRgM, dTupRg, dRg1, dRg2, dTimesM, dNewK, dYes, mk_def, dFldSet, dISeq, dIRng1, dIRng2, dIRng3, dIEnum, dIZip, dwipe, dclr, fII, fIIc, fIB, fLt, fLe, fGt, fGe, fAdd, fSub, fMul, fDiv, fMod, fPow, fNeg, f1, f2, dstart, List.map, List.length, List.replicate, decide_eq_true_eq, if_true, if_false, Bool.false_eq_true, Bool.not_true, Bool.not_false, reduceIte])
        refine ix_cell hk (ix_cell (g.clo j k hj hk) (ne_int ?_))
        rw [g.ass i j k hi hj hk]
        simp only [decide_true, Bool.not_true, if_false, Bool.false_eq_true]
        exact hn3 _ _ ⟨rfl, _, _, rfl⟩
      · obtain ⟨rfl, _, _, rfl⟩ := hI3
        exact ⟨rfl, hn2 _ _ ⟨rfl, _, _, _, _, _, _, rfl⟩⟩
    · obtain ⟨rfl, _, _, _, _, _, _, rfl⟩ := hI2
      exact ⟨rfl, hn _ _ ⟨rfl, _, _, _, _, _, _, _, _, rfl⟩⟩
  · obtain ⟨rfl, _, _, _, _, _, _, _, _, rfl⟩ := hI
    exact ⟨(by trivial), fg h⟩
end T74
end
section
set_option Elab.async false
set_option linter.all false
namespace T74
theorem nodup_sub_len {α : Type} [DecidableEq α] : ∀ (l m : List α), l.Nodup → (∀ x ∈ l, x ∈ m) → l.length ≤ m.length
  | [], m, _, _ => Nat.zero_le _
  | x :: l, m, h1, h2 => by
    rw [List.nodup_cons] at h1
    have hx := h2 x List.mem_cons_self
    have ih := nodup_sub_len l (m.erase x) h1.2 fun y hy => by
      have hne : y ≠ x := fun e => h1.1 (e ▸ hy)
      exact (List.mem_erase_of_ne hne).mpr (h2 y (List.mem_cons_of_mem _ hy))
    rw [List.length_erase_of_mem hx] at ih
    have : 0 < m.length := List.length_pos_of_mem hx
    simp only [List.length_cons]
    omega
theorem nodup_lt {l : List Nat} {n : Nat} (h : l.Nodup) (h2 : ∀ x ∈ l, x < n) : l.length ≤ n := by
  have := nodup_sub_len l (List.range n) h fun x hx => List.mem_range.mpr (h2 x hx)
  rwa [List.length_range] at this
/-- two of n+1 numbers below n are alike -/
theorem pigeon {n : Nat} (f : Nat → Nat) (h : ∀ i, i ≤ n → f i < n) : ∃ i j, i < j ∧ j ≤ n ∧ f i = f j := by
  apply Classical.byContradiction
  intro hn
  have inj : ∀ i j, i < j → j ≤ n → f i ≠ f j := fun i j h1 h2 e => hn ⟨i, j, h1, h2, e⟩
  have nd : ((List.range (n + 1)).map f).Nodup := by
    rw [List.nodup_iff_pairwise_ne, List.pairwise_map]
    refine List.pairwise_iff_getElem.mpr fun i j hi hj hij => ?_
    rw [List.length_range] at hi hj
    rw [List.getElem_range, List.getElem_range]
    exact inj i j hij (by omega)
  have := nodup_lt nd fun x hx => by
    obtain ⟨i, hi, rfl⟩ := List.mem_map.mp hx
    exact h i (by have := List.mem_range.mp hi; omega)
  rw [List.length_map, List.length_range] at this
  omega
/-- an injection of n into n is onto -/
theorem inj_onto {n : Nat} {f : Nat → Nat} (h1 : ∀ i, i < n → f i < n) (h2 : ∀ i j, i < n → j < n → f i = f j → i = j) : ∀ k, k < n → ∃ i, i < n ∧ f i = k := by
  intro k hk
  apply Classical.byContradiction
  intro hn
  obtain ⟨i, j, hij, hj, e⟩ := pigeon (n := n) (fun i => if i = n then k else f i) fun i hi => by
    by_cases e : i = n
    · simp [e, hk]
    · simp [e]; exact h1 i (by omega)
  have hi : i ≠ n := by omega
  simp only [hi, if_false] at e
  by_cases ej : j = n
  · simp only [ej, if_true] at e
    exact hn ⟨i, by omega, e⟩
  · simp only [ej, if_false] at e
    have := h2 i j (by omega) (by omega) e
    omega
/-- the least number that has something -/
theorem least {P : Nat → Prop} (h : ∃ k, P k) : ∃ k, P k ∧ ∀ j, j < k → ¬ P j := by
  obtain ⟨k, hk⟩ := h
  induction k using Nat.strongRecOn with
  | _ k ih =>
    by_cases c : ∃ j, j < k ∧ P j
    · obtain ⟨j, hj, pj⟩ := c
      exact ih j hj pj
    · exact ⟨k, hk, fun j hj pj => c ⟨j, hj, pj⟩⟩
namespace IsGrp
variable {n : Nat} {m : N2} (g : IsGrp n m)
include g
theorem canR {a b c : Nat} (ha : a < n) (hb : b < n) (hc : c < n) (e : m a c = m b c) : a = b := by
  obtain ⟨d, hd, ed⟩ := g.inv c hc
  have h1 := g.ass a c d ha hc hd
  have h2 := g.ass b c d hb hc hd
  rw [ed, g.ri0 a ha] at h1
  rw [ed, g.ri0 b hb] at h2
  rw [← h1, ← h2, e]
theorem linv {a b : Nat} (ha : a < n) (hb : b < n) (e : m a b = 0) : m b a = 0 := by
  obtain ⟨c, hc, ec⟩ := g.inv b hb
  have h1 := g.ass a b c ha hb hc
  rw [e, ec, g.le0 c hc, g.ri0 a ha] at h1
  rw [← h1]; exact ec
theorem canL {a b c : Nat} (ha : a < n) (hb : b < n) (hc : c < n) (e : m c a = m c b) : a = b := by
  obtain ⟨d, hd, ed⟩ := g.inv c hc
  have e2 := g.linv hc hd ed
  have h1 := g.ass d c a hd hc ha
  have h2 := g.ass d c b hd hc hb
  rw [e2, g.le0 a ha] at h1
  rw [e2, g.le0 b hb] at h2
  rw [h1, h2, e]
end IsGrp
/-- powers -/
def pw (m : N2) (i : Nat) : Nat → Nat
  | 0 => 0
  | k + 1 => m (pw m i k) i
section
variable {n : Nat} {m : N2} (g : IsGrp n m) {i : Nat} (hi : i < n)
include g hi
theorem pw_lt : ∀ k, pw m i k < n
  | 0 => g.pos
  | k + 1 => g.clo _ _ (pw_lt k) hi
theorem pw_add (a : Nat) : ∀ b, pw m i (a + b) = m (pw m i a) (pw m i b)
  | 0 => by rw [Nat.add_zero]; exact (g.ri0 _ (pw_lt g hi a)).symm
  | b + 1 => by
    show m (pw m i (a + b)) i = m (pw m i a) (m (pw m i b) i)
    rw [pw_add a b, g.ass _ _ _ (pw_lt g hi a) (pw_lt g hi b) hi]
theorem pw_ex : ∃ k, 0 < k ∧ pw m i k = 0 := by
  obtain ⟨a, b, hab, _, e⟩ := pigeon (n := n) (pw m i) fun k _ => pw_lt g hi k
  refine ⟨b - a, by omega, ?_⟩
  have h1 := pw_add g hi a (b - a)
  rw [show a + (b - a) = b by omega, ← e] at h1
  exact (g.canL g.pos (pw_lt g hi (b - a)) (pw_lt g hi a) ((g.ri0 _ (pw_lt g hi a)).trans h1)).symm
end
def IsOrd (m : N2) (i r : Nat) : Prop := 0 < r ∧ pw m i r = 0 ∧ ∀ k, 0 < k → k < r → pw m i k ≠ 0
theorem IsOrd.uniq {m : N2} {i r s : Nat} (h1 : IsOrd m i r) (h2 : IsOrd m i s) : r = s := by
  obtain ⟨a1, a2, a3⟩ := h1
  obtain ⟨b1, b2, b3⟩ := h2
  rcases Nat.lt_trichotomy r s with h | h | h
  · exact absurd a2 (b3 r a1 h)
  · exact h
  · exact absurd b2 (a3 s b1 h)
theorem ord_ex {n : Nat} {m : N2} (g : IsGrp n m) {i : Nat} (hi : i < n) : ∃ r, IsOrd m i r := by
  obtain ⟨k, ⟨h1, h2⟩, h3⟩ := least (pw_ex g hi)
  exact ⟨k, h1, h2, fun j h4 h5 e => h3 j h5 ⟨h4, e⟩⟩
theorem ord_le {n : Nat} {m : N2} (g : IsGrp n m) {i r : Nat} (hi : i < n) (h : IsOrd m i r) : r ≤ n := by
  obtain ⟨a, b, hab, hb, e⟩ := pigeon (n := n) (pw m i) fun k _ => pw_lt g hi k
  have h1 := pw_add g hi a (b - a)
  rw [show a + (b - a) = b by omega, ← e] at h1
  have h2 := (g.canL g.pos (pw_lt g hi (b - a)) (pw_lt g hi a) ((g.ri0 _ (pw_lt g hi a)).trans h1)).symm
  apply Classical.byContradiction
  intro hn
  exact h.2.2 (b - a) (by omega) (by omega) h2
end T74
end
section
set_option Elab.async false
set_option linter.all false
namespace T74
/-- the place i of a row -/
abbrev ap (l : List Nat) (i : Nat) : Nat := l.getD i 0
structure IsPm (p : Nat) (l : List Nat) : Prop where
  len : l.length = p
  nd : l.Nodup
  lt : ∀ x ∈ l, x < p
theorem ap_eq {l : List Nat} {i : Nat} (h : i < l.length) : ap l i = l[i] := by
  simp [ap, List.getD, List.getElem?_eq_getElem h]
namespace IsPm
variable {p : Nat} {l : List Nat} (h : IsPm p l)
include h
theorem at_lt {i : Nat} (hi : i < p) : ap l i < p := by
  have : i < l.length := by rw [h.len]; exact hi
  rw [ap_eq this]; exact h.lt _ (List.getElem_mem _)
theorem inj {i j : Nat} (hi : i < p) (hj : j < p) (e : ap l i = ap l j) : i = j := by
  have h1 : i < l.length := by rw [h.len]; exact hi
  have h2 : j < l.length := by rw [h.len]; exact hj
  rw [ap_eq h1, ap_eq h2] at e
  have nd := List.nodup_iff_pairwise_ne.mp h.nd
  have pw := List.pairwise_iff_getElem.mp nd
  rcases Nat.lt_trichotomy i j with c | c | c
  · exact absurd e (pw i j h1 h2 c)
  · exact c
  · exact absurd e.symm (pw j i h2 h1 c)
theorem onto {k : Nat} (hk : k < p) : ∃ i, i < p ∧ ap l i = k := inj_onto (fun i hi => h.at_lt hi) (fun i j hi hj e => h.inj hi hj e) k hk
end IsPm
theorem isPm_of {p : Nat} {l : List Nat} (h1 : l.length = p) (h2 : ∀ i, i < p → ap l i < p) (h3 : ∀ i j, i < p → j < p → ap l i = ap l j → i = j) : IsPm p l := by
  refine ⟨h1, ?_, fun x hx => ?_⟩
  · rw [List.nodup_iff_pairwise_ne]
    refine List.pairwise_iff_getElem.mpr fun i j hi hj hij e => ?_
    have := h3 i j (by omega) (by omega) (by rw [ap_eq hi, ap_eq hj]; exact e)
    omega
  · obtain ⟨i, hi, rfl⟩ := List.mem_iff_getElem.mp hx
    have := h2 i (by omega)
    rwa [ap_eq hi] at this
theorem pm_range (p : Nat) : IsPm p (List.range p) := ⟨List.length_range, List.nodup_range, fun x hx => List.mem_range.mp hx⟩
theorem ap_range {p i : Nat} (h : i < p) : ap (List.range p) i = i := by
  rw [ap_eq (by rw [List.length_range]; exact h), List.getElem_range]
theorem ap_map {l : List Nat} {f : Nat → Nat} {i : Nat} (h : i < l.length) : ap (l.map f) i = f (ap l i) := by
  rw [ap_eq (by rw [List.length_map]; exact h), List.getElem_map, ap_eq h]
theorem ap_mapr {p : Nat} {f : Nat → Nat} {i : Nat} (h : i < p) : ap ((List.range p).map f) i = f i := by
  rw [ap_map (by rw [List.length_range]; exact h), ap_range h]
theorem ap_set {l : List Nat} {a v k : Nat} (h : k < l.length) : ap (l.set a v) k = if a = k then v else ap l k := by
  rw [ap_eq (by rw [List.length_set]; exact h), List.getElem_set, ap_eq h]
/-- rows are told apart by their places -/
theorem ap_ext {l m : List Nat} (h : l.length = m.length) (h2 : ∀ i, i < l.length → ap l i = ap m i) : l = m := by
  refine List.ext_getElem h fun i h1 h3 => ?_
  have := h2 i h1
  rwa [ap_eq h1, ap_eq h3] at this
/-- two places change -/
def swp (l : List Nat) (a b : Nat) : List Nat := (l.set a (ap l b)).set b (ap l a)
theorem swp_len {l : List Nat} {a b : Nat} : (swp l a b).length = l.length := by unfold swp; rw [List.length_set, List.length_set]
theorem ap_swp {l : List Nat} {a b k : Nat} (h : k < l.length) : ap (swp l a b) k = if b = k then ap l a else if a = k then ap l b else ap l k := by
  unfold swp
  rw [ap_set (by rw [List.length_set]; exact h), ap_set h]
theorem swp_pm {p : Nat} {l : List Nat} (h : IsPm p l) {a b : Nat} (ha : a < p) (hb : b < p) : IsPm p (swp l a b) := by
  have hl := h.len
  refine isPm_of (swp_len.trans h.len) (fun i hi => ?_) (fun i j hi hj e => ?_)
  · rw [ap_swp (by omega)]
    split
    · exact h.at_lt ha
    · split
      · exact h.at_lt hb
      · exact h.at_lt hi
  · rw [ap_swp (by omega), ap_swp (by omega)] at e
    split at e <;> split at e <;> (try split at e) <;> (try split at e) <;> (try have := h.inj (by assumption) (by assumption) e) <;> omega
/-- one, then the other -/
def comp (x y : List Nat) : List Nat := x.map fun g => ap y g
theorem comp_len {x y : List Nat} : (comp x y).length = x.length := List.length_map _
theorem ap_comp {x y : List Nat} {i : Nat} (h : i < x.length) : ap (comp x y) i = ap y (ap x i) := ap_map h
theorem comp_pm {p : Nat} {x y : List Nat} (h1 : IsPm p x) (h2 : IsPm p y) : IsPm p (comp x y) := by
  have hl := h1.len
  refine isPm_of (comp_len.trans h1.len) (fun i hi => ?_) (fun i j hi hj e => ?_)
  · rw [ap_comp (by omega)]; exact h2.at_lt (h1.at_lt hi)
  · rw [ap_comp (by omega), ap_comp (by omega)] at e
    exact h1.inj hi hj (h2.inj (h1.at_lt hi) (h1.at_lt hj) e)
theorem comp_ass {p : Nat} {x y z : List Nat} (h1 : IsPm p x) (h2 : IsPm p y) : comp (comp x y) z = comp x (comp y z) := by
  refine ap_ext (by rw [comp_len, comp_len, comp_len]) fun i hi => ?_
  rw [comp_len, comp_len] at hi
  have : ap x i < y.length := by rw [h2.len]; exact h1.at_lt (by rw [← h1.len]; exact hi)
  rw [ap_comp (by rw [comp_len]; exact hi), ap_comp hi, ap_comp hi, ap_comp this]
theorem comp_idL {p : Nat} {x : List Nat} (h : IsPm p x) : comp (List.range p) x = x := by
  refine ap_ext (by rw [comp_len, List.length_range, h.len]) fun i hi => ?_
  rw [comp_len, List.length_range] at hi
  rw [ap_comp (by rw [List.length_range]; exact hi), ap_range hi]
theorem comp_idR {p : Nat} {x : List Nat} (h : IsPm p x) : comp x (List.range p) = x := by
  refine ap_ext comp_len fun i hi => ?_
  rw [comp_len] at hi
  rw [ap_comp hi, ap_range (h.at_lt (by rw [← h.len]; exact hi))]
theorem comp_inj {p : Nat} {x y z : List Nat} (h1 : IsPm p x) (h2 : IsPm p y) (h3 : IsPm p z) (e : comp x y = comp x z) : y = z := by
  refine ap_ext (h2.len.trans h3.len.symm) fun k hk => ?_
  obtain ⟨i, hi, ei⟩ := h1.onto (k := k) (by rw [← h2.len]; exact hk)
  have : ap (comp x y) i = ap (comp x z) i := by rw [e]
  rw [ap_comp (by rw [h1.len]; exact hi), ap_comp (by rw [h1.len]; exact hi), ei] at this
  exact this
theorem comp_injR {p : Nat} {x y z : List Nat} (h1 : IsPm p x) (h2 : IsPm p y) (h3 : IsPm p z) (e : comp y x = comp z x) : y = z := by
  refine ap_ext (h2.len.trans h3.len.symm) fun k hk => ?_
  have hk' : k < p := by rw [← h2.len]; exact hk
  have : ap (comp y x) k = ap (comp z x) k := by rw [e]
  rw [ap_comp hk, ap_comp (by rw [h3.len]; exact hk')] at this
  exact h1.inj (h2.at_lt hk') (h3.at_lt hk') this
/-! ### tables made from others -/
theorem round_grp {k : Nat} (h : 0 < k) : IsGrp k fun i j => (i + j) % k where
  pos := h
  clo := fun _ _ _ _ => Nat.mod_lt _ h
  le0 := fun i hi => by rw [Nat.zero_add]; exact Nat.mod_eq_of_lt hi
  ri0 := fun i hi => Nat.mod_eq_of_lt hi
  ass := fun i j l _ _ _ => by
    show ((i + j) % k + l) % k = (i + (j + l) % k) % k
    rw [Nat.mod_add_mod, Nat.add_mod_mod, Nat.add_assoc]
  inv := fun i hi => ⟨(k - i) % k, Nat.mod_lt _ h, by
    show (i + (k - i) % k) % k = 0
    rw [Nat.add_mod_mod, show i + (k - i) = k by omega, Nat.mod_self]⟩
theorem prod_grp {a b : Nat} {s t : N2} (g : IsGrp a s) (f : IsGrp b t) : IsGrp (a * b) fun i j => s (i / b) (j / b) * b + t (i % b) (j % b) := by
  have hb := f.pos
  have hd : ∀ {i}, i < a * b → i / b < a := fun {i} h => Nat.div_lt_of_lt_mul (by rw [Nat.mul_comm]; exact h)
  have hm : ∀ i, i % b < b := fun i => Nat.mod_lt _ hb
  have e1 : ∀ x y, y < b → (x * b + y) / b = x := fun x y hy => by
    rw [Nat.mul_comm, Nat.mul_add_div hb, Nat.div_eq_of_lt hy, Nat.add_zero]
  have e2 : ∀ x y, y < b → (x * b + y) % b = y := fun x y hy => by
    rw [Nat.mul_comm, Nat.mul_add_mod, Nat.mod_eq_of_lt hy]
  have e3 : ∀ i, i / b * b + i % b = i := fun i => by rw [Nat.mul_comm]; exact Nat.div_add_mod i b
  have e4 : ∀ x y, x < a → y < b → x * b + y < a * b := fun x y hx hy => by
    have : (x + 1) * b ≤ a * b := Nat.mul_le_mul_right b hx
    rw [Nat.succ_mul] at this
    omega
  exact {
    pos := Nat.mul_pos g.pos hb
    clo := fun i j hi hj => e4 _ _ (g.clo _ _ (hd hi) (hd hj)) (f.clo _ _ (hm i) (hm j))
    le0 := fun i hi => by
      show s (0 / b) (i / b) * b + t (0 % b) (i % b) = i
      rw [Nat.zero_div, Nat.zero_mod, g.le0 _ (hd hi), f.le0 _ (hm i), e3]
    ri0 := fun i hi => by
      show s (i / b) (0 / b) * b + t (i % b) (0 % b) = i
      rw [Nat.zero_div, Nat.zero_mod, g.ri0 _ (hd hi), f.ri0 _ (hm i), e3]
    ass := fun i j l hi hj hl => by
      have c1 := f.clo _ _ (hm i) (hm j)
      have c2 := f.clo _ _ (hm j) (hm l)
      show s ((s (i / b) (j / b) * b + t (i % b) (j % b)) / b) (l / b) * b + t ((s (i / b) (j / b) * b + t (i % b) (j % b)) % b) (l % b) = s (i / b) ((s (j / b) (l / b) * b + t (j % b) (l % b)) / b) * b + t (i % b) ((s (j / b) (l / b) * b + t (j % b) (l % b)) % b)
      rw [e1 _ _ c1, e2 _ _ c1, e1 _ _ c2, e2 _ _ c2, g.ass _ _ _ (hd hi) (hd hj) (hd hl), f.ass _ _ _ (hm i) (hm j) (hm l)]
    inv := fun i hi => by
      obtain ⟨x, hx, ex⟩ := g.inv _ (hd hi)
      obtain ⟨y, hy, ey⟩ := f.inv _ (hm i)
      refine ⟨x * b + y, e4 x y hx hy, ?_⟩
      show s (i / b) ((x * b + y) / b) * b + t (i % b) ((x * b + y) % b) = 0
      rw [e1 _ _ hy, e2 _ _ hy, ex, ey, Nat.zero_mul] }
/-- a table turned by a row that leaves 0 -/
theorem turn_grp {n : Nat} {m m' : N2} {r : List Nat} (g : IsGrp n m) (h : IsPm n r) (h0 : ap r 0 = 0) (e : ∀ i j, i < n → j < n → m' (ap r i) (ap r j) = ap r (m i j)) : IsGrp n m' where
  pos := g.pos
  clo := fun i j hi hj => by
    obtain ⟨a, ha, rfl⟩ := h.onto hi
    obtain ⟨b, hb, rfl⟩ := h.onto hj
    rw [e a b ha hb]; exact h.at_lt (g.clo a b ha hb)
  le0 := fun i hi => by
    obtain ⟨a, ha, rfl⟩ := h.onto hi
    have := e 0 a g.pos ha
    rw [h0, g.le0 a ha] at this
    exact this
  ri0 := fun i hi => by
    obtain ⟨a, ha, rfl⟩ := h.onto hi
    have := e a 0 ha g.pos
    rw [h0, g.ri0 a ha] at this
    exact this
  ass := fun i j k hi hj hk => by
    obtain ⟨a, ha, rfl⟩ := h.onto hi
    obtain ⟨b, hb, rfl⟩ := h.onto hj
    obtain ⟨c, hc, rfl⟩ := h.onto hk
    rw [e a b ha hb, e b c hb hc, e _ _ (g.clo a b ha hb) hc, e _ _ ha (g.clo b c hb hc), g.ass a b c ha hb hc]
  inv := fun i hi => by
    obtain ⟨a, ha, rfl⟩ := h.onto hi
    obtain ⟨b, hb, eb⟩ := g.inv a ha
    exact ⟨ap r b, h.at_lt hb, by rw [e a b ha hb, eb, h0]⟩
end T74
end
section
set_option Elab.async false
set_option linter.all false
set_option maxRecDepth 100000
set_option maxHeartbeats 4000000
namespace T74
open DL PySem PySem.Spec PyProof.Rows L2
abbrev Sup (M M' : Mem) : Prop := ∀ a o, M a = some o → M' a = some o
theorem Sup.rfl' {M : Mem} : Sup M M := fun _ _ h => h
theorem Sup.trans {M M' M'' : Mem} (h : Sup M M') (h2 : Sup M' M'') : Sup M M'' := fun a o e => h2 a o (h a o e)
theorem Sup.upd {M M' : Mem} {p : Addr} {o : MO} (h : Sup M M') (hp : M p = none) : Sup M (mupd M' p o) := fun a u e => by
  rw [mupd_ne (fun z => by rw [z, hp] at e; cases e)]; exact h a u e
theorem Sup.new {M : Mem} {p : Addr} {o : MO} (hp : M p = none) : Sup M (mupd M p o) := Sup.rfl'.upd hp
theorem seq_sup {M M' : Mem} {d : D} {ds : List D} (h : Sup M M') (e : seqD M d = some ds) : seqD M' d = some ds := by
  cases d <;> try exact e
  rename_i a
  unfold seqD at e ⊢
  dsimp only at e ⊢
  cases c : M a with
  | none => rw [c] at e; cases e
  | some o => rw [h a o c, ← c]; exact e
theorem fg_sup {Q : KD} {d : D} {M M' : Mem} (h : Q d M) (s : Sup M M') : Forget Q d M' := ⟨M, s, h⟩
theorem forget_self {Q : KD} {d : D} {M : Mem} (h : Q d M) : Forget Q d M := fg h
theorem isn_non {M : Mem} {neg : Bool} {Q : D → Prop} (q : Q (.bl (!neg))) : fIsN neg M .non .non Q := by
  unfold fIsN
  cases neg <;> exact q
def tabD (C : Addr) (n : Nat) (m : N2) : D := .obj C [("lines", linesD n m)]
def sp_fault (C : Addr) : SpD := fun ds M Q => ∃ n m, ds = [linesD n m] ∧ IsGrp n m ∧ n ≤ 48 ∧ Q .non M
theorem hl_fault (C : Addr) : ∀ ds M Q, sp_fault C ds M Q → ds.length = 1 := fun _ _ _ ⟨_, _, e, _⟩ => by rw [e]; rfl
theorem ok_fault (C : Addr) : ∀ ds M Q, sp_fault C ds M Q → r_fault (sp_has_form C) (sp_first_neutral C) (sp_first_back C) (sp_first_threes C) (dEnd Q) (dstart N_fault ds) M := by
  rintro ds M Q ⟨n, m, rfl, g, hn, h⟩
  unfold r_fault; simp only [dstart, N_fault, List.map, List.length, List.replicate, List.append, HAppend.hAppend, Append.append]
  (first | rw [seq_def] | (simp only [gdName, dset]; rw [seq_def])); simp only [dFor_def, lc_def, lc2_def, dSet, dC, dVar, dIfS, dOr, dAnd, dNot, dTest, dTru, dBin, dUn, dCB, f1, f2, dCons, dNil, dRet, dRetN, dLstM, dLstI, dTup, dget, dset, dNext, dDrop, dBreak, dCont, dIf, dAndV, dOrV, dNotV, dChain, dPar, dAug, dAsg, gdName, gdTup, gdCons, gdNil, gdSub, dCall, dBM, dBMX, dSl, dNoPart, dPart, dNever, List.append_nil, dDisp1K, dDisp1T, dLstRg, dLstRgM, dTupRg, dRg1, dRg2, dTimesM, dNewK, dYes, mk_def, dFldSet, dISeq, dIRng1, dIRng2, dIRng3, dIEnum, dIZip, dwipe, dclr, fII, fIIc, fIB, fLt, fLe, fGt, fGe, fAdd, fSub, fMul, fDiv, fMod, fPow, fNeg, f1, f2, dstart, List.map, List.length, List.replicate, decide_eq_true_eq, if_true, if_false, Bool.false_eq_true, Bool.not_true, Bool.not_false, reduceIte]
  refine ⟨n, m, rfl, g, hn, ?_⟩
  simp only [Bool.not_true, Bool.not_false, if_true, if_false, Bool.false_eq_true, decide_true, decide_false, reduceIte]
  (first | rw [seq_def] | (simp only [gdName, dset]; rw [seq_def])); simp only [dFor_def, lc_def, lc2_def, dSet, dC, dVar, dIfS, dOr, dAnd, dNot, dTest, dTru, dBin, dUn, dCB, f1, f2, dCons, dNil, dRet, dRetN, dLstM, dLstI, dTup, dget, dset, dNext, dDrop, dBreak, dCont, dIf, dAndV, dOrV, dNotV, dChain, dPar, dAug, dAsg, gdName, gdTup, gdCons, gdNil, gdSub, dCall, dBM, dBMX, dSl, dNoPart, dPart, dNever, List.append_nil, dDisp1K, dDisp1T, dLstRg, dLstRgM, dTupRg, dRg1, dRg2, dTimesM, dNewK, dYes, mk_def, dFldSet, dISeq, dIRng1, dIRng2, dIRng3, dIEnum, dIZip, dwipe, dclr, fII, fIIc, fIB, fLt, fLe, fGt, fGe, fAdd, fSub, fMul, fDiv, fMod, fPow, fNeg, f1, f2, dstart, List.map, List.length, List.replicate, decide_eq_true_eq, if_true, if_false, Bool.false_eq_true, Bool.not_true, Bool.not_false, reduceIte]
  refine ⟨n, m, rfl, g, ?_⟩
  (first | rw [seq_def] | (simp only [gdName, dset]; rw [seq_def])); simp only [dFor_def, lc_def, lc2_def, dSet, dC, dVar, dIfS, dOr, dAnd, dNot, dTest, dTru, dBin, dUn, dCB, f1, f2, dCons, dNil, dRet, dRetN, dLstM, dLstI, dTup, dget, dset, dNext, dDrop, dBreak, dCont, dIf, dAndV, dOrV, dNotV, dChain, dPar, dAug, dAsg, gdName, gdTup, gdCons, gdNil, gdSub, dCall, dBM, dBMX, dSl, dNoPart, dPart, dNever, List.append_nil, dDisp1K, dDisp1T, dLstRg, dLstRgM, dTupRg, dRg1, dRg2, dTimesM, dNewK, dYes, mk_def, dFldSet, dISeq, dIRng1, dIRng2, dIRng3, dIEnum, dIZip, dwipe, dclr, fII, fIIc, fIB, fLt, fLe, fGt, fGe, fAdd, fSub, fMul, fDiv, fMod, fPow, fNeg, f1, f2, dstart, List.map, List.length, List.replicate, decide_eq_true_eq, if_true, if_false, Bool.false_eq_true, Bool.not_true, Bool.not_false, reduceIte]
  refine isn_non ?_
  simp only [Bool.not_true, Bool.not_false, if_true, if_false, Bool.false_eq_true, decide_true, decide_false, reduceIte]
  (first | rw [seq_def] | (simp only [gdName, dset]; rw [seq_def])); simp only [dFor_def, lc_def, lc2_def, dSet, dC, dVar, dIfS, dOr, dAnd, dNot, dTest, dTru, dBin, dUn, dCB, f1, f2, dCons, dNil, dRet, dRetN, dLstM, dLstI, dTup, dget, dset, dNext, dDrop, dBreak, dCont, dIf, dAndV, dOrV, dNotV, dChain, dPar, dAug, dAsg, gdName, gdTup, gdCons, gdNil, gdSub, dCall, dBM, dBMX, dSl, dNoPart, dPart, dNever, List.append_nil, dDisp1K, dDisp1T, dLstRg, dLstRgM, dTupRg, dRg1, dRg2, dTimesM, dNewK, dYes, mk_def, dFldSet, dISeq, dIRng1, dIRng2, dIRng3, dIEnum, dIZip, dwipe, dclr, fII, fIIc, fIB, fLt, fLe, fGt, fGe, fAdd, fSub, fMul, fDiv, fMod, fPow, fNeg, f1, f2, dstart, List.map, List.length, List.replicate, decide_eq_true_eq, if_true, if_false, Bool.false_eq_true, Bool.not_true, Bool.not_false, reduceIte]
  refine ⟨n, m, rfl, g, ?_⟩
  (first | rw [seq_def] | (simp only [gdName, dset]; rw [seq_def])); simp only [dFor_def, lc_def, lc2_def, dSet, dC, dVar, dIfS, dOr, dAnd, dNot, dTest, dTru, dBin, dUn, dCB, f1, f2, dCons, dNil, dRet, dRetN, dLstM, dLstI, dTup, dget, dset, dNext, dDrop, dBreak, dCont, dIf, dAndV, dOrV, dNotV, dChain, dPar, dAug, dAsg, gdName, gdTup, gdCons, gdNil, gdSub, dCall, dBM, dBMX, dSl, dNoPart, dPart, dNever, List.append_nil, dDisp1K, dDisp1T, dLstRg, dLstRgM, dTupRg, dRg1, dRg2, dTimesM, dNewK, dYes, mk_def, dFldSet, dISeq, dIRng1, dIRng2, dIRng3, dIEnum, dIZip, dwipe, dclr, fII, fIIc, fIB, fLt, fLe, fGt, fGe, fAdd, fSub, fMul, fDiv, fMod, fPow, fNeg, f1, f2, dstart, List.map, List.length, List.replicate, decide_eq_true_eq, if_true, if_false, Bool.false_eq_true, Bool.not_true, Bool.not_false, reduceIte]
  refine isn_non ?_
  simp only [Bool.not_true, Bool.not_false, if_true, if_false, Bool.false_eq_true, decide_true, decide_false, reduceIte]
  (first | rw [seq_def] | (simp only [gdName, dset]; rw [seq_def])); simp only [dFor_def, lc_def, lc2_def, dSet, dC, dVar, dIfS, dOr, dAnd, dNot, dTest, dTru, dBin, dUn, dCB, f1, f2, dCons, dNil, dRet, dRetN, dLstM, dLstI, dTup, dget, dset, dNext, dDrop, dBreak, dCont, dIf, dAndV, dOrV, dNotV, dChain, dPar, dAug, dAsg, gdName, gdTup, gdCons, gdNil, gdSub, dCall, dBM, dBMX, dSl, dNoPart, dPart, dNever, List.append_nil, dDisp1K, dDisp1T, dLstRg, dLstRgM, dTupRg, dRg1, dRg2, dTimesM, dNewK, dYes, mk_def, dFldSet, dISeq, dIRng1, dIRng2, dIRng3, dIEnum, dIZip, dwipe, dclr, fII, fIIc, fIB, fLt, fLe, fGt, fGe, fAdd, fSub, fMul, fDiv, fMod, fPow, fNeg, f1, f2, dstart, List.map, List.length, List.replicate, decide_eq_true_eq, if_true, if_false, Bool.false_eq_true, Bool.not_true, Bool.not_false, reduceIte]
  refine ⟨n, m, rfl, g, ?_⟩
  (try simp only [dFor_def, lc_def, lc2_def, dSet, dC, dVar, dIfS, dOr, dAnd, dNot, dTest, dTru, dBin, dUn, dCB, f1, f2, dCons, dNil, dRet, dRetN, dLstM, dLstI, dTup, dget, dset, dNext, dDrop, dBreak, dCont, dIf, dAndV, dOrV, dNotV, dChain, dPar, dAug, dAsg, gdName, gdTup, gdCons, gdNil, gdSub, dCall, dBM, dBMX, dSl, dNoPart, dPart, dNever, List.append_nil, dDisp1K, dDisp1T, dLstRg, dLstRgM, dTupRg, dRg1, dRg2, dTimesM, dNewK, dYes, mk_def, dFldSet, dISeq, dIRng1, dIRng2, dIRng3, dIEnum, dIZip, dwipe, dclr, fII, fIIc, fIB, fLt, fLe, fGt, fGe, fAdd, fSub, fMul, fDiv, fMod, fPow, fNeg, f1, f2, dstart, List.map, List.length, List.replicate, decide_eq_true_eq, if_true, if_false, Bool.false_eq_true, Bool.not_true, Bool.not_false, reduceIte])
  refine isn_non ?_
  exact fg h
def sp_table_init (C : Addr) : SpD := fun ds M Q => ∃ p n m, ds = [.ref p, linesD n m] ∧ IsGrp n m ∧ n ≤ 48 ∧ M p = some (.ins C []) ∧ Q .non (mupd M p (.ins C [("lines", linesD n m)]))
theorem hl_table_init (C : Addr) : ∀ ds M Q, sp_table_init C ds M Q → ds.length = 2 := fun _ _ _ ⟨_, _, _, e, _⟩ => by rw [e]; rfl
theorem ok_table_init (C : Addr) : ∀ ds M Q, sp_table_init C ds M Q → r_table_init C (sp_fault C) (dEnd Q) (dstart N_table_init ds) M := by
  rintro ds M Q ⟨p, n, m, rfl, g, hn, e, h⟩
  unfold r_table_init; simp only [dstart, N_table_init, List.map, List.length, List.replicate, List.append, HAppend.hAppend, Append.append]
  (first | rw [seq_def] | (simp only [gdName, dset]; rw [seq_def])); simp only [dFor_def, lc_def, lc2_def, dSet, dC, dVar, dIfS, dOr, dAnd, dNot, dTest, dTru, dBin, dUn, dCB, f1, f2, dCons, dNil, dRet, dRetN, dLstM, dLstI, dTup, dget, dset, dNext, dDrop, dBreak, dCont, dIf, dAndV, dOrV, dNotV, dChain, dPar, dAug, dAsg, gdName, gdTup, gdCons, gdNil, gdSub, dCall, dBM, dBMX, dSl, dNoPart, dPart, dNever, List.append_nil, dDisp1K, dDisp1T, dLstRg, dLstRgM, dTupRg, dRg1, dRg2, dTimesM, dNewK, dYes, mk_def, dFldSet, dISeq, dIRng1, dIRng2, dIRng3, dIEnum, dIZip, dwipe, dclr, fII, fIIc, fIB, fLt, fLe, fGt, fGe, fAdd, fSub, fMul, fDiv, fMod, fPow, fNeg, f1, f2, dstart, List.map, List.length, List.replicate, decide_eq_true_eq, if_true, if_false, Bool.false_eq_true, Bool.not_true, Bool.not_false, reduceIte]
  refine ⟨n, m, rfl, g, hn, ?_⟩
  (first | rw [seq_def] | (simp only [gdName, dset]; rw [seq_def])); simp only [dFor_def, lc_def, lc2_def, dSet, dC, dVar, dIfS, dOr, dAnd, dNot, dTest, dTru, dBin, dUn, dCB, f1, f2, dCons, dNil, dRet, dRetN, dLstM, dLstI, dTup, dget, dset, dNext, dDrop, dBreak, dCont, dIf, dAndV, dOrV, dNotV, dChain, dPar, dAug, dAsg, gdName, gdTup, gdCons, gdNil, gdSub, dCall, dBM, dBMX, dSl, dNoPart, dPart, dNever, List.append_nil, dDisp1K, dDisp1T, dLstRg, dLstRgM, dTupRg, dRg1, dRg2, dTimesM, dNewK, dYes, mk_def, dFldSet, dISeq, dIRng1, dIRng2, dIRng3, dIEnum, dIZip, dwipe, dclr, fII, fIIc, fIB, fLt, fLe, fGt, fGe, fAdd, fSub, fMul, fDiv, fMod, fPow, fNeg, f1, f2, dstart, List.map, List.length, List.replicate, decide_eq_true_eq, if_true, if_false, Bool.false_eq_true, Bool.not_true, Bool.not_false, reduceIte]
  refine isn_non ?_
  simp only [Bool.not_true, Bool.not_false, if_true, if_false, Bool.false_eq_true, decide_true, decide_false, reduceIte]
  rw [show insM (M p) = some (C, []) by rw [e]; rfl]
  exact ⟨rfl, by decide, fg h⟩
def sp_check_table (C : Addr) : SpD := fun ds M Q => ∃ n m, ds = [tabD C n m] ∧ Q .non M
theorem hl_check_table (C : Addr) : ∀ ds M Q, sp_check_table C ds M Q → ds.length = 1 := fun _ _ _ ⟨_, _, e, _⟩ => by rw [e]; rfl
theorem ok_check_table (C : Addr) : ∀ ds M Q, sp_check_table C ds M Q → r_check_table C (dEnd Q) (dstart N_check_table ds) M := by
  rintro ds M Q ⟨n, m, rfl, h⟩
  unfold r_check_table; simp only [dstart, N_check_table, List.map, List.length, List.replicate, List.append, HAppend.hAppend, Append.append]
  (try simp only [dFor_def, lc_def, lc2_def, dSet, dC, dVar, dIfS, dOr, dAnd, dNot, dTest, dTru, dBin, dUn, dCB, f1, f2, dCons, dNil, dRet, dRetN, dLstM, dLstI, dTup, dget, dset, dNext, dDrop, dBreak, dCont, dIf, dAndV, dOrV, dNotV, dChain, dPar, dAug, dAsg, gdName, gdTup, gdCons, gdNil, gdSub, dCall, dBM, dBMX, dSl, dNoPart, dPart, dNever, List.append_nil, dDisp1K, dDisp1T, dLstRg, dLstRgM, dTupRg, dRg1, dRg2, dTimesM, dNewK, dYes, mk_def, dFldSet, dISeq, dIRng1, dIRng2, dIRng3, dIEnum, dIZip, dwipe, dclr, fII, fIIc, fIB, fLt, fLe, fGt, fGe, fAdd, fSub, fMul, fDiv, fMod, fPow, fNeg, f1, f2, dstart, List.map, List.length, List.replicate, decide_eq_true_eq, if_true, if_false, Bool.false_eq_true, Bool.not_true, Bool.not_false, reduceIte])
  refine isi_obj rfl rfl ?_
  exact fg h
def sp_table_len (C : Addr) : SpD := fun ds M Q => ∃ n m, ds = [tabD C n m] ∧ Q (.int (n : Nat)) M
theorem hl_table_len (C : Addr) : ∀ ds M Q, sp_table_len C ds M Q → ds.length = 1 := fun _ _ _ ⟨_, _, e, _⟩ => by rw [e]; rfl
theorem fld_tab {C : Addr} {n : Nat} {m : N2} {M : Mem} {Q : D → Mem → Prop} {δ : DEnv} {i : Nat} (h : dget δ i = some (tabD C n m)) (q : Q (linesD n m) M) : dFld (· = C) "lines" (dVar i) δ M Q := by
  unfold dFld dVar
  rw [h]
  refine ⟨rfl, ?_⟩
  rw [show List.lookup (Str.ofString "lines") [(Str.ofString "lines", linesD n m)] = some (linesD n m) by simp [List.lookup]]
  exact q
theorem ok_table_len (C : Addr) : ∀ ds M Q, sp_table_len C ds M Q → r_table_len C (dEnd Q) (dstart N_table_len ds) M := by
  rintro ds M Q ⟨n, m, rfl, h⟩
  unfold r_table_len; simp only [dstart, N_table_len, List.map, List.length, List.replicate, List.append, HAppend.hAppend, Append.append]
  (try simp only [dFor_def, lc_def, lc2_def, dSet, dC, dVar, dIfS, dOr, dAnd, dNot, dTest, dTru, dBin, dUn, dCB, f1, f2, dCons, dNil, dRet, dRetN, dLstM, dLstI, dTup, dget, dset, dNext, dDrop, dBreak, dCont, dIf, dAndV, dOrV, dNotV, dChain, dPar, dAug, dAsg, gdName, gdTup, gdCons, gdNil, gdSub, dCall, dBM, dBMX, dSl, dNoPart, dPart, dNever, List.append_nil, dDisp1K, dDisp1T, dLstRg, dLstRgM, dTupRg, dRg1, dRg2, dTimesM, dNewK, dYes, mk_def, dFldSet, dISeq, dIRng1, dIRng2, dIRng3, dIEnum, dIZip, dwipe, dclr, fII, fIIc, fIB, fLt, fLe, fGt, fGe, fAdd, fSub, fMul, fDiv, fMod, fPow, fNeg, f1, f2, dstart, List.map, List.length, List.replicate, decide_eq_true_eq, if_true, if_false, Bool.false_eq_true, Bool.not_true, Bool.not_false, reduceIte])
  refine fld_tab rfl ?_
  refine len_seq (ds := linesL n m) rfl ?_
  rw [linesL_len]
  exact fg h
theorem lenC_tab {C : Addr} {n : Nat} {m : N2} {M : Mem} {Q : KD} (h : n < 1000) (q : Q (.int (n : Nat)) M) : gLenC C (sp_table_len C) M (tabD C n m) Q :=
  ⟨rfl, n, m, rfl, by omega, by omega, q⟩
def sp_check_small (C : Addr) : SpD := fun ds M Q => ∃ n m, ds = [tabD C n m] ∧ n ≤ 12 ∧ Q .non M
theorem hl_check_small (C : Addr) : ∀ ds M Q, sp_check_small C ds M Q → ds.length = 1 := fun _ _ _ ⟨_, _, e, _⟩ => by rw [e]; rfl
theorem ok_check_small (C : Addr) : ∀ ds M Q, sp_check_small C ds M Q → r_check_small C (sp_check_table C) (sp_table_len C) (dEnd Q) (dstart N_check_small ds) M := by
  rintro ds M Q ⟨n, m, rfl, hn, h⟩
  unfold r_check_small; simp only [dstart, N_check_small, List.map, List.length, List.replicate, List.append, HAppend.hAppend, Append.append]
  (first | rw [seq_def] | (simp only [gdName, dset]; rw [seq_def])); simp only [dFor_def, lc_def, lc2_def, dSet, dC, dVar, dIfS, dOr, dAnd, dNot, dTest, dTru, dBin, dUn, dCB, f1, f2, dCons, dNil, dRet, dRetN, dLstM, dLstI, dTup, dget, dset, dNext, dDrop, dBreak, dCont, dIf, dAndV, dOrV, dNotV, dChain, dPar, dAug, dAsg, gdName, gdTup, gdCons, gdNil, gdSub, dCall, dBM, dBMX, dSl, dNoPart, dPart, dNever, List.append_nil, dDisp1K, dDisp1T, dLstRg, dLstRgM, dTupRg, dRg1, dRg2, dTimesM, dNewK, dYes, mk_def, dFldSet, dISeq, dIRng1, dIRng2, dIRng3, dIEnum, dIZip, dwipe, dclr, fII, fIIc, fIB, fLt, fLe, fGt, fGe, fAdd, fSub, fMul, fDiv, fMod, fPow, fNeg, f1, f2, dstart, List.map, List.length, List.replicate, decide_eq_true_eq, if_true, if_false, Bool.false_eq_true, Bool.not_true, Bool.not_false, reduceIte]
  refine ⟨n, m, rfl, ?_⟩
  (try simp only [dFor_def, lc_def, lc2_def, dSet, dC, dVar, dIfS, dOr, dAnd, dNot, dTest, dTru, dBin, dUn, dCB, f1, f2, dCons, dNil, dRet, dRetN, dLstM, dLstI, dTup, dget, dset, dNext, dDrop, dBreak, dCont, dIf, dAndV, dOrV, dNotV, dChain, dPar, dAug, dAsg, gdName, gdTup, gdCons, gdNil, gdSub, dCall, dBM, dBMX, dSl, dNoPart, dPart, dNever, List.append_nil, dDisp1K, dDisp1T, dLstRg, dLstRgM, dTupRg, dRg1, dRg2, dTimesM, dNewK, dYes, mk_def, dFldSet, dISeq, dIRng1, dIRng2, dIRng3, dIEnum, dIZip, dwipe, dclr, fII, fIIc, fIB, fLt, fLe, fGt, fGe, fAdd, fSub, fMul, fDiv, fMod, fPow, fNeg, f1, f2, dstart, List.map, List.length, List.replicate, decide_eq_true_eq, if_true, if_false, Bool.false_eq_true, Bool.not_true, Bool.not_false, reduceIte])
  refine lenC_tab (by omega) ?_
  have p : ¬ (12 : Int) < (n : Nat) := by omega
  simp only [p, if_false]
  exact fg h
def sp_is_whole (C : Addr) : SpD := fun ds M Q => ∃ i : Int, ds = [.int i] ∧ Q (.bl true) M
theorem hl_is_whole (C : Addr) : ∀ ds M Q, sp_is_whole C ds M Q → ds.length = 1 := fun _ _ _ ⟨_, e, _⟩ => by rw [e]; rfl
theorem ok_is_whole (C : Addr) : ∀ ds M Q, sp_is_whole C ds M Q → r_is_whole C (dEnd Q) (dstart N_is_whole ds) M := by
  rintro ds M Q ⟨i, rfl, h⟩
  unfold r_is_whole; simp only [dstart, N_is_whole, List.map, List.length, List.replicate, List.append, HAppend.hAppend, Append.append]
  (try simp only [dFor_def, lc_def, lc2_def, dSet, dC, dVar, dIfS, dOr, dAnd, dNot, dTest, dTru, dBin, dUn, dCB, f1, f2, dCons, dNil, dRet, dRetN, dLstM, dLstI, dTup, dget, dset, dNext, dDrop, dBreak, dCont, dIf, dAndV, dOrV, dNotV, dChain, dPar, dAug, dAsg, gdName, gdTup, gdCons, gdNil, gdSub, dCall, dBM, dBMX, dSl, dNoPart, dPart, dNever, List.append_nil, dDisp1K, dDisp1T, dLstRg, dLstRgM, dTupRg, dRg1, dRg2, dTimesM, dNewK, dYes, mk_def, dFldSet, dISeq, dIRng1, dIRng2, dIRng3, dIEnum, dIZip, dwipe, dclr, fII, fIIc, fIB, fLt, fLe, fGt, fGe, fAdd, fSub, fMul, fDiv, fMod, fPow, fNeg, f1, f2, dstart, List.map, List.length, List.replicate, decide_eq_true_eq, if_true, if_false, Bool.false_eq_true, Bool.not_true, Bool.not_false, reduceIte])
  refine isi_ty rfl ki1 ?_
  refine isi_ty rfl ki2 ?_
  exact fg h
def sp_check_member (C : Addr) : SpD := fun ds M Q => ∃ n m, ∃ i : Nat, ds = [tabD C n m, .int i] ∧ i < n ∧ n < 1000 ∧ Q .non M
theorem hl_check_member (C : Addr) : ∀ ds M Q, sp_check_member C ds M Q → ds.length = 2 := fun _ _ _ ⟨_, _, _, e, _⟩ => by rw [e]; rfl
theorem ok_check_member (C : Addr) : ∀ ds M Q, sp_check_member C ds M Q → r_check_member C (sp_is_whole C) (sp_table_len C) (dEnd Q) (dstart N_check_member ds) M := by
  rintro ds M Q ⟨n, m, i, rfl, hi, hn, h⟩
  unfold r_check_member; simp only [dstart, N_check_member, List.map, List.length, List.replicate, List.append, HAppend.hAppend, Append.append]
  (try simp only [dFor_def, lc_def, lc2_def, dSet, dC, dVar, dIfS, dOr, dAnd, dNot, dTest, dTru, dBin, dUn, dCB, f1, f2, dCons, dNil, dRet, dRetN, dLstM, dLstI, dTup, dget, dset, dNext, dDrop, dBreak, dCont, dIf, dAndV, dOrV, dNotV, dChain, dPar, dAug, dAsg, gdName, gdTup, gdCons, gdNil, gdSub, dCall, dBM, dBMX, dSl, dNoPart, dPart, dNever, List.append_nil, dDisp1K, dDisp1T, dLstRg, dLstRgM, dTupRg, dRg1, dRg2, dTimesM, dNewK, dYes, mk_def, dFldSet, dISeq, dIRng1, dIRng2, dIRng3, dIEnum, dIZip, dwipe, dclr, fII, fIIc, fIB, fLt, fLe, fGt, fGe, fAdd, fSub, fMul, fDiv, fMod, fPow, fNeg, f1, f2, dstart, List.map, List.length, List.replicate, decide_eq_true_eq, if_true, if_false, Bool.false_eq_true, Bool.not_true, Bool.not_false, reduceIte])
  refine ⟨_, rfl, ?_⟩
  simp only [Bool.not_true, Bool.not_false, if_true, if_false, Bool.false_eq_true, decide_true, decide_false, reduceIte]
  refine lenC_tab hn ?_
  have p : (i : Int) < (n : Nat) := by omega
  have p0 : (0 : Int) ≤ (i : Nat) := by omega
  simp only [decide_eq_true p, Bool.not_true, Bool.false_eq_true, if_false]
  exact fg h
theorem idxOf_first {i : Int} : ∀ {ns : List Int} {j : Nat}, ns[j]? = some i → (∀ k, k < j → ns[k]? ≠ some i) → idxOf i ns = some j
  | [], j, h, _ => by simp at h
  | x :: ns, 0, h, _ => by
    simp at h
    unfold idxOf
    rw [if_pos h]
  | x :: ns, j + 1, h, h2 => by
    have h0 := h2 0 (by omega)
    simp at h0
    simp at h
    unfold idxOf
    rw [if_neg h0, idxOf_first (j := j) h fun k hk => by
      have := h2 (k + 1) (by omega)
      simpa using this]
    rfl
theorem idx_row {m : N2} {n i j : Nat} (hj : j < n) {v : Nat} (e : m i j = v) (u : ∀ k, k < n → m i k = v → k = j) {M : Mem} {Q : KD} (q : Q (.int (j : Nat)) M) : mTupIdx M (.tupX (rowD m n i)) [.int (v : Nat)] Q := by
  unfold mTupIdx
  dsimp only
  rw [show (intsD (rowD m n i)).bind (idxOf (v : Nat)) = some j by
    unfold rowD
    rw [intsD_map]
    show idxOf _ _ = _
    refine idxOf_first ?_ fun k hk => ?_
    · unfold rowN; rw [List.getElem?_map, List.getElem?_range hj]; simp [e]
    · unfold rowN; rw [List.getElem?_map, List.getElem?_range (by omega)]
      intro z
      simp at z
      have := u k (by omega) (by omega)
      omega]
  exact q
def sp_back_of (C : Addr) : SpD := fun ds M Q => ∃ n m, ∃ i j : Nat, ds = [tabD C n m, .int i] ∧ IsGrp n m ∧ i < n ∧ j < n ∧ m i j = 0 ∧ Q (.int j) M
theorem hl_back_of (C : Addr) : ∀ ds M Q, sp_back_of C ds M Q → ds.length = 2 := fun _ _ _ ⟨_, _, _, _, e, _⟩ => by rw [e]; rfl
theorem ok_back_of (C : Addr) : ∀ ds M Q, sp_back_of C ds M Q → r_back_of C (dEnd Q) (dstart N_back_of ds) M := by
  rintro ds M Q ⟨n, m, i, j, rfl, g, hi, hj, ej, h⟩
  unfold r_back_of; simp only [dstart, N_back_of, List.map, List.length, List.replicate, List.append, HAppend.hAppend, Append.append]
  (try simp only [dFor_def, lc_def, lc2_def, dSet, dC, dVar, dIfS, dOr, dAnd, dNot, dTest, dTru, dBin, dUn, dCB, f1, f2, dCons, dNil, dRet, dRetN, dLstM, dLstI, dTup, dget, dset, dNext, dDrop, dBreak, dCont, dIf, dAndV, dOrV, dNotV, dChain, dPar, dAug, dAsg, gdName, gdTup, gdCons, gdNil, gdSub, dCall, dBM, dBMX, dSl, dNoPart, dPart, dNever, List.append_nil, dDisp1K, dDisp1T, dLstRg, dLstRgM, dTupRg, dRg1, dRg2, dTimesM, dNewK, dYes, mk_def, dFldSet, dISeq, dIRng1, dIRng2, dIRng3, dIEnum, dIZip, dwipe, dclr, fII, fIIc, fIB, fLt, fLe, fGt, fGe, fAdd, fSub, fMul, fDiv, fMod, fPow, fNeg, f1, f2, dstart, List.map, List.length, List.replicate, decide_eq_true_eq, if_true, if_false, Bool.false_eq_true, Bool.not_true, Bool.not_false, reduceIte])
  refine fld_tab rfl ?_
  refine ix_line hi ?_
  refine ⟨⟨_, rfl⟩, ?_⟩
  exact idx_row (v := 0) hj ej (fun k hk e => g.canL hk hj hi (e.trans ej.symm)) (fg h)
def sp_led_by (C : Addr) : SpD := fun ds M Q => ∃ n m, ∃ i j b : Nat, ds = [tabD C n m, .int i, .int j] ∧ IsGrp n m ∧ i < n ∧ j < n ∧ b < n ∧ m j b = 0 ∧ Q (.int (m (m b i) j : Nat)) M
theorem hl_led_by (C : Addr) : ∀ ds M Q, sp_led_by C ds M Q → ds.length = 3 := fun _ _ _ ⟨_, _, _, _, _, e, _⟩ => by rw [e]; rfl
theorem ok_led_by (C : Addr) : ∀ ds M Q, sp_led_by C ds M Q → r_led_by C (sp_back_of C) (dEnd Q) (dstart N_led_by ds) M := by
  rintro ds M Q ⟨n, m, i, j, b, rfl, g, hi, hj, hb, ej, h⟩
  unfold r_led_by; simp only [dstart, N_led_by, List.map, List.length, List.replicate, List.append, HAppend.hAppend, Append.append]
  (try simp only [dFor_def, lc_def, lc2_def, dSet, dC, dVar, dIfS, dOr, dAnd, dNot, dTest, dTru, dBin, dUn, dCB, f1, f2, dCons, dNil, dRet, dRetN, dLstM, dLstI, dTup, dget, dset, dNext, dDrop, dBreak, dCont, dIf, dAndV, dOrV, dNotV, dChain, dPar, dAug, dAsg, gdName, gdTup, gdCons, gdNil, gdSub, dCall, dBM, dBMX, dSl, dNoPart, dPart, dNever, List.append_nil, dDisp1K, dDisp1T, dLstRg, dLstRgM, dTupRg, dRg1, dRg2, dTimesM, dNewK, dYes, mk_def, dFldSet, dISeq, dIRng1, dIRng2, dIRng3, dIEnum, dIZip, dwipe, dclr, fII, fIIc, fIB, fLt, fLe, fGt, fGe, fAdd, fSub, fMul, fDiv, fMod, fPow, fNeg, f1, f2, dstart, List.map, List.length, List.replicate, decide_eq_true_eq, if_true, if_false, Bool.false_eq_true, Bool.not_true, Bool.not_false, reduceIte])
  refine fld_tab rfl ?_
  refine fld_tab rfl ?_
  refine ⟨n, m, j, b, rfl, g, hj, hb, ej, ?_⟩
  refine ix_line hb (ix_cell hi (ix_line (g.clo _ _ hb hi) (ix_cell hj ?_)))
  exact fg h
def sp_conjugate (C : Addr) : SpD := fun ds M Q => ∃ n m, ∃ i j b : Nat, ds = [tabD C n m, .int i, .int j] ∧ IsGrp n m ∧ n < 1000 ∧ i < n ∧ j < n ∧ b < n ∧ m j b = 0 ∧ Q (.int (m (m b i) j : Nat)) M
theorem hl_conjugate (C : Addr) : ∀ ds M Q, sp_conjugate C ds M Q → ds.length = 3 := fun _ _ _ ⟨_, _, _, _, _, e, _⟩ => by rw [e]; rfl
theorem ok_conjugate (C : Addr) : ∀ ds M Q, sp_conjugate C ds M Q → r_conjugate (sp_check_table C) (sp_check_member C) (sp_led_by C) (dEnd Q) (dstart N_conjugate ds) M := by
  rintro ds M Q ⟨n, m, i, j, b, rfl, g, hn, hi, hj, hb, ej, h⟩
  unfold r_conjugate; simp only [dstart, N_conjugate, List.map, List.length, List.replicate, List.append, HAppend.hAppend, Append.append]
  (first | rw [seq_def] | (simp only [gdName, dset]; rw [seq_def])); simp only [dFor_def, lc_def, lc2_def, dSet, dC, dVar, dIfS, dOr, dAnd, dNot, dTest, dTru, dBin, dUn, dCB, f1, f2, dCons, dNil, dRet, dRetN, dLstM, dLstI, dTup, dget, dset, dNext, dDrop, dBreak, dCont, dIf, dAndV, dOrV, dNotV, dChain, dPar, dAug, dAsg, gdName, gdTup, gdCons, gdNil, gdSub, dCall, dBM, dBMX, dSl, dNoPart, dPart, dNever, List.append_nil, dDisp1K, dDisp1T, dLstRg, dLstRgM, dTupRg, dRg1, dRg2, dTimesM, dNewK, dYes, mk_def, dFldSet, dISeq, dIRng1, dIRng2, dIRng3, dIEnum, dIZip, dwipe, dclr, fII, fIIc, fIB, fLt, fLe, fGt, fGe, fAdd, fSub, fMul, fDiv, fMod, fPow, fNeg, f1, f2, dstart, List.map, List.length, List.replicate, decide_eq_true_eq, if_true, if_false, Bool.false_eq_true, Bool.not_true, Bool.not_false, reduceIte]
  refine ⟨n, m, rfl, ?_⟩
  (first | rw [seq_def] | (simp only [gdName, dset]; rw [seq_def])); simp only [dFor_def, lc_def, lc2_def, dSet, dC, dVar, dIfS, dOr, dAnd, dNot, dTest, dTru, dBin, dUn, dCB, f1, f2, dCons, dNil, dRet, dRetN, dLstM, dLstI, dTup, dget, dset, dNext, dDrop, dBreak, dCont, dIf, dAndV, dOrV, dNotV, dChain, dPar, dAug, dAsg, gdName, gdTup, gdCons, gdNil, gdSub, dCall, dBM, dBMX, dSl, dNoPart, dPart, dNever, List.append_nil, dDisp1K, dDisp1T, dLstRg, dLstRgM, dTupRg, dRg1, dRg2, dTimesM, dNewK, dYes, mk_def, dFldSet, dISeq, dIRng1, dIRng2, dIRng3, dIEnum, dIZip, dwipe, dclr, fII, fIIc, fIB, fLt, fLe, fGt, fGe, fAdd, fSub, fMul, fDiv, fMod, fPow, fNeg, f1, f2, dstart, List.map, List.length, List.replicate, decide_eq_true_eq, if_true, if_false, Bool.false_eq_true, Bool.not_true, Bool.not_false, reduceIte]
  refine ⟨n, m, i, rfl, hi, hn, ?_⟩
  (first | rw [seq_def] | (simp only [gdName, dset]; rw [seq_def])); simp only [dFor_def, lc_def, lc2_def, dSet, dC, dVar, dIfS, dOr, dAnd, dNot, dTest, dTru, dBin, dUn, dCB, f1, f2, dCons, dNil, dRet, dRetN, dLstM, dLstI, dTup, dget, dset, dNext, dDrop, dBreak, dCont, dIf, dAndV, dOrV, dNotV, dChain, dPar, dAug, dAsg, gdName, gdTup, gdCons, gdNil, gdSub, dCall, dBM, dBMX, dSl, dNoPart, dPart, dNever, List.append_nil, dDisp1K, dDisp1T, dLstRg, dLstRgM, dTupRg, dRg1, dRg2, dTimesM, dNewK, dYes, mk_def, dFldSet, dISeq, dIRng1, dIRng2, dIRng3, dIEnum, dIZip, dwipe, dclr, fII, fIIc, fIB, fLt, fLe, fGt, fGe, fAdd, fSub, fMul, fDiv, fMod, fPow, fNeg, f1, f2, dstart, List.map, List.length, List.replicate, decide_eq_true_eq, if_true, if_false, Bool.false_eq_true, Bool.not_true, Bool.not_false, reduceIte]
  refine ⟨n, m, j, rfl, hj, hn, ?_⟩
  (try simp only [dFor_def, lc_def, lc2_def, dSet, dC, dVar, dIfS, dOr, dAnd, dNot, dTest, dTru, dBin, dUn, dCB, f1, f2, dCons, dNil, dRet, dRetN, dLstM, dLstI, dTup, dget, dset, dNext, dDrop, dBreak, dCont, dIf, dAndV, dOrV, dNotV, dChain, dPar, dAug, dAsg, gdName, gdTup, gdCons, gdNil, gdSub, dCall, dBM, dBMX, dSl, dNoPart, dPart, dNever, List.append_nil, dDisp1K, dDisp1T, dLstRg, dLstRgM, dTupRg, dRg1, dRg2, dTimesM, dNewK, dYes, mk_def, dFldSet, dISeq, dIRng1, dIRng2, dIRng3, dIEnum, dIZip, dwipe, dclr, fII, fIIc, fIB, fLt, fLe, fGt, fGe, fAdd, fSub, fMul, fDiv, fMod, fPow, fNeg, f1, f2, dstart, List.map, List.length, List.replicate, decide_eq_true_eq, if_true, if_false, Bool.false_eq_true, Bool.not_true, Bool.not_false, reduceIte])
  exact ⟨n, m, i, j, b, rfl, g, hi, hj, hb, ej, fg h⟩
theorem ty_lst {M : Mem} {a : Addr} {ds : List D} (h : M a = some (.lst ds)) : tyD "list" M (.ref a) := by
  simp [tyD, lstD, seqM, h]
def sp_powers_of (C : Addr) : SpD := fun ds M Q => ∃ n m, ∃ i r : Nat, ds = [tabD C n m, .int i] ∧ IsGrp n m ∧ n ≤ 48 ∧ i < n ∧ IsOrd m i r ∧ ∀ d M', Sup M M' → (∃ es, seqD M' d = some es ∧ es.length = r) → Q d M'
theorem hl_powers_of (C : Addr) : ∀ ds M Q, sp_powers_of C ds M Q → ds.length = 2 := fun _ _ _ ⟨_, _, _, _, e, _⟩ => by rw [e]; rfl
theorem ok_powers_of (C : Addr) : ∀ ds M Q, sp_powers_of C ds M Q → r_powers_of C (dEnd Q) (dstart N_powers_of ds) M := by
  rintro ds M Q ⟨n, m, i, r, rfl, g, hn, hi, ho, h⟩
  unfold r_powers_of; simp only [dstart, N_powers_of, List.map, List.length, List.replicate, List.append, HAppend.hAppend, Append.append]
  (first | rw [seq_def] | (simp only [gdName, dset]; rw [seq_def])); simp only [dFor_def, lc_def, lc2_def, dSet, dC, dVar, dIfS, dOr, dAnd, dNot, dTest, dTru, dBin, dUn, dCB, f1, f2, dCons, dNil, dRet, dRetN, dLstM, dLstI, dTup, dget, dset, dNext, dDrop, dBreak, dCont, dIf, dAndV, dOrV, dNotV, dChain, dPar, dAug, dAsg, gdName, gdTup, gdCons, gdNil, gdSub, dCall, dBM, dBMX, dSl, dNoPart, dPart, dNever, List.append_nil, dDisp1K, dDisp1T, dLstRg, dLstRgM, dTupRg, dRg1, dRg2, dTimesM, dNewK, dYes, mk_def, dFldSet, dISeq, dIRng1, dIRng2, dIRng3, dIEnum, dIZip, dwipe, dclr, fII, fIIc, fIB, fLt, fLe, fGt, fGe, fAdd, fSub, fMul, fDiv, fMod, fPow, fNeg, f1, f2, dstart, List.map, List.length, List.replicate, decide_eq_true_eq, if_true, if_false, Bool.false_eq_true, Bool.not_true, Bool.not_false, reduceIte]
  refine ⟨by decide, fun p hp => ?_⟩
  (first | rw [seq_def] | (simp only [gdName, dset]; rw [seq_def])); simp only [dFor_def, lc_def, lc2_def, dSet, dC, dVar, dIfS, dOr, dAnd, dNot, dTest, dTru, dBin, dUn, dCB, f1, f2, dCons, dNil, dRet, dRetN, dLstM, dLstI, dTup, dget, dset, dNext, dDrop, dBreak, dCont, dIf, dAndV, dOrV, dNotV, dChain, dPar, dAug, dAsg, gdName, gdTup, gdCons, gdNil, gdSub, dCall, dBM, dBMX, dSl, dNoPart, dPart, dNever, List.append_nil, dDisp1K, dDisp1T, dLstRg, dLstRgM, dTupRg, dRg1, dRg2, dTimesM, dNewK, dYes, mk_def, dFldSet, dISeq, dIRng1, dIRng2, dIRng3, dIEnum, dIZip, dwipe, dclr, fII, fIIc, fIB, fLt, fLe, fGt, fGe, fAdd, fSub, fMul, fDiv, fMod, fPow, fNeg, f1, f2, dstart, List.map, List.length, List.replicate, decide_eq_true_eq, if_true, if_false, Bool.false_eq_true, Bool.not_true, Bool.not_false, reduceIte]
  (first | rw [seq_def] | (simp only [gdName, dset]; rw [seq_def])); simp only [dFor_def, lc_def, lc2_def, dSet, dC, dVar, dIfS, dOr, dAnd, dNot, dTest, dTru, dBin, dUn, dCB, f1, f2, dCons, dNil, dRet, dRetN, dLstM, dLstI, dTup, dget, dset, dNext, dDrop, dBreak, dCont, dIf, dAndV, dOrV, dNotV, dChain, dPar, dAug, dAsg, gdName, gdTup, gdCons, gdNil, gdSub, dCall, dBM, dBMX, dSl, dNoPart, dPart, dNever, List.append_nil, dDisp1K, dDisp1T, dLstRg, dLstRgM, dTupRg, dRg1, dRg2, dTimesM, dNewK, dYes, mk_def, dFldSet, dISeq, dIRng1, dIRng2, dIRng3, dIEnum, dIZip, dwipe, dclr, fII, fIIc, fIB, fLt, fLe, fGt, fGe, fAdd, fSub, fMul, fDiv, fMod, fPow, fNeg, f1, f2, dstart, List.map, List.length, List.replicate, decide_eq_true_eq, if_true, if_false, Bool.false_eq_true, Bool.not_true, Bool.not_false, reduceIte]
  refine while_inv (fun k δ M' => Sup M M' ∧ ∃ j es, k = r - (j + 1) ∧ j < r ∧ es.length = j + 1 ∧ M' p = some (.lst es) ∧ δ = [some (tabD C n m), some (.int i), some (.ref p), some (.int (pw m i (j + 1) : Nat))]) (r - 1) ⟨Sup.new hp, 0, _, rfl, ho.1, rfl, mupd_same, by show _ = [_, _, _, some (D.int (m 0 i : Nat))]; rw [g.le0 i hi]⟩ ?_
  rintro k δ M' Nx ⟨hs, j, es, hk, hj, he, hM, rfl⟩ hn2
  (try simp only [dFor_def, lc_def, lc2_def, dSet, dC, dVar, dIfS, dOr, dAnd, dNot, dTest, dTru, dBin, dUn, dCB, f1, f2, dCons, dNil, dRet, dRetN, dLstM, dLstI, dTup, dget, dset, dNext, dDrop, dBreak, dCont, dIf, dAndV, dOrV, dNotV, dChain, dPar, dAug, dAsg, gdName, gdTup, gdCons, gdNil, gdSub, dCall, dBM, dBMX, dSl, dNoPart, dPart, dNever, List.append_nil, dDisp1K, dDisp1T, dLstRg, dLstRgM, dTupRg, dRg1, dRg2, dTimesM, dNewK, dYes, mk_def, dFldSet, dISeq, dIRng1, dIRng2, dIRng3, dIEnum, dIZip, dwipe, dclr, fII, fIIc, fIB, fLt, fLe, fGt, fGe, fAdd, fSub, fMul, fDiv, fMod, fPow, fNeg, f1, f2, dstart, List.map, List.length, List.replicate, decide_eq_true_eq, if_true, if_false, Bool.false_eq_true, Bool.not_true, Bool.not_false, reduceIte])
  refine ne_int ?_
  by_cases e0 : pw m i (j + 1) = 0
  · have ej : j + 1 = r := by
      apply Classical.byContradiction
      intro hne
      exact ho.2.2 (j + 1) (by omega) (by omega) e0
    rw [e0]
    simp only [Bool.not_true, Bool.not_false, if_true, if_false, Bool.false_eq_true, decide_true, decide_false, reduceIte]
    exact fg (h _ _ hs ⟨es, seq_lst hM, by omega⟩)
  · have e1 : ¬ ((pw m i (j + 1) : Nat) : Int) = 0 := by omega
    have ej : j + 1 < r := by
      have := ho.2.1
      apply Classical.byContradiction
      intro hne
      exact e0 (by rw [show j + 1 = r by omega]; exact this)
    simp only [decide_eq_false e1, Bool.not_false, if_true]
    have hr := ord_le g hi ho
    have hsz : 100 < sizeLine := by decide
    (first | rw [seq_def] | (simp only [gdName, dset]; rw [seq_def])); simp only [dFor_def, lc_def, lc2_def, dSet, dC, dVar, dIfS, dOr, dAnd, dNot, dTest, dTru, dBin, dUn, dCB, f1, f2, dCons, dNil, dRet, dRetN, dLstM, dLstI, dTup, dget, dset, dNext, dDrop, dBreak, dCont, dIf, dAndV, dOrV, dNotV, dChain, dPar, dAug, dAsg, gdName, gdTup, gdCons, gdNil, gdSub, dCall, dBM, dBMX, dSl, dNoPart, dPart, dNever, List.append_nil, dDisp1K, dDisp1T, dLstRg, dLstRgM, dTupRg, dRg1, dRg2, dTimesM, dNewK, dYes, mk_def, dFldSet, dISeq, dIRng1, dIRng2, dIRng3, dIEnum, dIZip, dwipe, dclr, fII, fIIc, fIB, fLt, fLe, fGt, fGe, fAdd, fSub, fMul, fDiv, fMod, fPow, fNeg, f1, f2, dstart, List.map, List.length, List.replicate, decide_eq_true_eq, if_true, if_false, Bool.false_eq_true, Bool.not_true, Bool.not_false, reduceIte]
    refine ⟨ty_lst hM, app_ hM (by omega) ?_⟩
    refine fld_tab rfl ?_
    refine ix_line (pw_lt g hi _) (ix_cell hi ?_)
    refine hn2 (r - (j + 1 + 1)) _ _ (by omega) ⟨hs.upd hp, j + 1, _, rfl, ej, ?_, mupd_same, rfl⟩
    · rw [List.length_append, he]; rfl
def sp_order_of (C : Addr) : SpD := fun ds M Q => ∃ n m, ∃ i r : Nat, ds = [tabD C n m, .int i] ∧ IsGrp n m ∧ n ≤ 48 ∧ i < n ∧ IsOrd m i r ∧ Q (.int r) M
theorem hl_order_of (C : Addr) : ∀ ds M Q, sp_order_of C ds M Q → ds.length = 2 := fun _ _ _ ⟨_, _, _, _, e, _⟩ => by rw [e]; rfl
theorem ok_order_of (C : Addr) : ∀ ds M Q, sp_order_of C ds M Q → r_order_of (sp_check_table C) (sp_check_member C) (sp_powers_of C) (dEnd Q) (dstart N_order_of ds) M := by
  rintro ds M Q ⟨n, m, i, r, rfl, g, hn, hi, ho, h⟩
  unfold r_order_of; simp only [dstart, N_order_of, List.map, List.length, List.replicate, List.append, HAppend.hAppend, Append.append]
  (first | rw [seq_def] | (simp only [gdName, dset]; rw [seq_def])); simp only [dFor_def, lc_def, lc2_def, dSet, dC, dVar, dIfS, dOr, dAnd, dNot, dTest, dTru, dBin, dUn, dCB, f1, f2, dCons, dNil, dRet, dRetN, dLstM, dLstI, dTup, dget, dset, dNext, dDrop, dBreak, dCont, dIf, dAndV, dOrV, dNotV, dChain, dPar, dAug, dAsg, gdName, gdTup, gdCons, gdNil, gdSub, dCall, dBM, dBMX, dSl, dNoPart, dPart, dNever, List.append_nil, dDisp1K, dDisp1T, dLstRg, dLstRgM, dTupRg, dRg1, dRg2, dTimesM, dNewK, dYes, mk_def, dFldSet, dISeq, dIRng1, dIRng2, dIRng3, dIEnum, dIZip, dwipe, dclr, fII, fIIc, fIB, fLt, fLe, fGt, fGe, fAdd, fSub, fMul, fDiv, fMod, fPow, fNeg, f1, f2, dstart, List.map, List.length, List.replicate, decide_eq_true_eq, if_true, if_false, Bool.false_eq_true, Bool.not_true, Bool.not_false, reduceIte]
  refine ⟨n, m, rfl, ?_⟩
  (first | rw [seq_def] | (simp only [gdName, dset]; rw [seq_def])); simp only [dFor_def, lc_def, lc2_def, dSet, dC, dVar, dIfS, dOr, dAnd, dNot, dTest, dTru, dBin, dUn, dCB, f1, f2, dCons, dNil, dRet, dRetN, dLstM, dLstI, dTup, dget, dset, dNext, dDrop, dBreak, dCont, dIf, dAndV, dOrV, dNotV, dChain, dPar, dAug, dAsg, gdName, gdTup, gdCons, gdNil, gdSub, dCall, dBM, dBMX, dSl, dNoPart, dPart, dNever, List.append_nil, dDisp1K, dDisp1T, dLstRg, dLstRgM, dTupRg, dRg1, dRg2, dTimesM, dNewK, dYes, mk_def, dFldSet, dISeq, dIRng1, dIRng2, dIRng3, dIEnum, dIZip, dwipe, dclr, fII, fIIc, fIB, fLt, fLe, fGt, fGe, fAdd, fSub, fMul, fDiv, fMod, fPow, fNeg, f1, f2, dstart, List.map, List.length, List.replicate, decide_eq_true_eq, if_true, if_false, Bool.false_eq_true, Bool.not_true, Bool.not_false, reduceIte]
  refine ⟨n, m, i, rfl, hi, by omega, ?_⟩
  (try simp only [dFor_def, lc_def, lc2_def, dSet, dC, dVar, dIfS, dOr, dAnd, dNot, dTest, dTru, dBin, dUn, dCB, f1, f2, dCons, dNil, dRet, dRetN, dLstM, dLstI, dTup, dget, dset, dNext, dDrop, dBreak, dCont, dIf, dAndV, dOrV, dNotV, dChain, dPar, dAug, dAsg, gdName, gdTup, gdCons, gdNil, gdSub, dCall, dBM, dBMX, dSl, dNoPart, dPart, dNever, List.append_nil, dDisp1K, dDisp1T, dLstRg, dLstRgM, dTupRg, dRg1, dRg2, dTimesM, dNewK, dYes, mk_def, dFldSet, dISeq, dIRng1, dIRng2, dIRng3, dIEnum, dIZip, dwipe, dclr, fII, fIIc, fIB, fLt, fLe, fGt, fGe, fAdd, fSub, fMul, fDiv, fMod, fPow, fNeg, f1, f2, dstart, List.map, List.length, List.replicate, decide_eq_true_eq, if_true, if_false, Bool.false_eq_true, Bool.not_true, Bool.not_false, reduceIte])
  refine ⟨n, m, i, r, rfl, g, hn, hi, ho, ?_⟩
  rintro d M' hs ⟨es, he, hl⟩
  refine len_seq he ?_
  rw [hl]
  exact fg_sup h hs
end T74
end
section
set_option Elab.async false
set_option linter.all false
set_option maxRecDepth 100000
set_option maxHeartbeats 4000000
namespace T74
open DL PySem PySem.Spec PyProof.Rows L2
def natsI (l : List Nat) : List Int := l.map fun k => ((k : Nat) : Int)
def nD (l : List Nat) : List D := (natsI l).map D.int
theorem natsI_len {l : List Nat} : (natsI l).length = l.length := List.length_map _
theorem nD_len {l : List Nat} : (nD l).length = l.length := by unfold nD; rw [List.length_map, natsI_len]
theorem nD_at {l : List Nat} {i : Nat} (h : i < l.length) : (nD l)[i]? = some (.int (ap l i : Nat)) := by
  unfold nD natsI; rw [List.getElem?_map, List.getElem?_map, List.getElem?_eq_getElem h, ap_eq h]; rfl
theorem nD_inv {l : List Nat} {i : Nat} {d : D} (h : (nD l)[i]? = some d) : i < l.length ∧ d = .int (ap l i : Nat) := by
  have h1 := (List.getElem?_eq_some_iff.mp h).1
  rw [nD_len] at h1
  rw [nD_at h1] at h
  cases h; exact ⟨h1, rfl⟩
theorem nD_map (l : List Nat) (f : Nat → Nat) : nD (l.map f) = l.map fun k => D.int (f k : Nat) := by
  unfold nD natsI; rw [List.map_map, List.map_map]; rfl
theorem nD_set {l : List Nat} {a v : Nat} : (nD l).set a (.int (v : Nat)) = nD (l.set a v) := by
  unfold nD natsI; rw [List.map_set, List.map_set]
theorem nD_app {l m : List Nat} : nD (l ++ m) = nD l ++ nD m := by
  unfold nD natsI; rw [List.map_append, List.map_append]
theorem rgD_nat {n : Nat} : rgD 0 (n : Nat) = nD (List.range n) := by
  unfold rgD nD natsI
  rw [List.map_map, show ((n : Int) - 0).toNat = n by omega]
  refine List.map_congr_left fun i _ => ?_
  show D.int (0 + (i : Nat)) = _
  rw [Int.zero_add]; rfl
theorem rng_inv {n i : Nat} {d : D} (h : (rgD 0 (n : Nat))[i]? = some d) : i < n ∧ d = .int (i : Nat) := by
  rw [rgD_nat] at h
  obtain ⟨h1, h2⟩ := nD_inv h
  rw [List.length_range] at h1
  rw [ap_range h1] at h2
  exact ⟨h1, h2⟩
theorem rng_len {n : Nat} : (rgD 0 (n : Nat)).length = n := by rw [rgD_nat, nD_len, List.length_range]
theorem linesL_eq {n : Nat} {m : N2} : linesL n m = (List.range n).map fun i => .tupX ((List.range n).map fun j => .int (m i j : Nat)) := by
  unfold linesL rowD rowN
  refine List.map_congr_left fun i _ => ?_
  rw [List.map_map]; rfl
theorem rowD_eq {n i : Nat} {m : N2} : rowD m n i = (List.range n).map fun j => .int (m i j : Nat) := by
  unfold rowD rowN
  rw [List.map_map]; rfl
theorem big48 : 4096 < sizeLine := by decide
/-! ### _law_then, _law_round, _law_product, _law_share -/
def sp_law_then (C : Addr) : SpD := fun ds M Q => ∃ x y : List Nat, ds = [.tup (nD x), .tup (nD y)] ∧ (∀ g ∈ x, g < y.length) ∧ x.length ≤ 4096 ∧ Q (.tup (nD (comp x y))) M
theorem hl_law_then (C : Addr) : ∀ ds M Q, sp_law_then C ds M Q → ds.length = 2 := fun _ _ _ ⟨_, _, e, _⟩ => by rw [e]; rfl
theorem ok_law_then (C : Addr) : ∀ ds M Q, sp_law_then C ds M Q → r_law_then (dEnd Q) (dstart N_law_then ds) M := by
  rintro ds M Q ⟨x, y, rfl, h1, h2, h⟩
  unfold r_law_then; simp only [dstart, N_law_then, List.map, List.length, List.replicate, List.append, HAppend.hAppend, Append.append]
  (try simp only [dFor_def, lc_def, lc2_def, dSet, dC, dVar, dIfS, dOr, dAnd, dNot, dTest, dTru, dBin, dUn, dCB, f1, f2, dCons, dNil, dRet, dRetN, dLstM, dLstI, dTup, dget, dset, dNext, dDrop, dBreak, dCont, dIf, dAndV, dOrV, dNotV, dChain, dPar, dAug, dAsg, gdName, gdTup, gdCons, gdNil, gdSub, dCall, dBM, dBMX, dSl, dNoPart, dPart, dNever, List.append_nil, dDisp1K, dDisp1T, dLstRg, dLstRgM, dTupRg, dRg1, dRg2, dTimesM, dNewK, dYes, mk_def, dFldSet, dISeq, dIRng1, dIRng2, dIRng3, dIEnum, dIZip, dwipe, dclr, fII, fIIc, fIB, fLt, fLe, fGt, fGe, fAdd, fSub, fMul, fDiv, fMod, fPow, fNeg, f1, f2, dstart, List.map, List.length, List.replicate, decide_eq_true_eq, if_true, if_false, Bool.false_eq_true, Bool.not_true, Bool.not_false, reduceIte])
  have := big48
  refine lc_map (fun i => .int (ap y (ap x i) : Nat)) rfl (by rw [nD_len]; omega) (fun i d Nx hd hn => ?_) ?_
  · obtain ⟨hi, rfl⟩ := nD_inv hd
    (try simp only [dFor_def, lc_def, lc2_def, dSet, dC, dVar, dIfS, dOr, dAnd, dNot, dTest, dTru, dBin, dUn, dCB, f1, f2, dCons, dNil, dRet, dRetN, dLstM, dLstI, dTup, dget, dset, dNext, dDrop, dBreak, dCont, dIf, dAndV, dOrV, dNotV, dChain, dPar, dAug, dAsg, gdName, gdTup, gdCons, gdNil, gdSub, dCall, dBM, dBMX, dSl, dNoPart, dPart, dNever, List.append_nil, dDisp1K, dDisp1T, dLstRg, dLstRgM, dTupRg, dRg1, dRg2, dTimesM, dNewK, dYes, mk_def, dFldSet, dISeq, dIRng1, dIRng2, dIRng3, dIEnum, dIZip, dwipe, dclr, fII, fIIc, fIB, fLt, fLe, fGt, fGe, fAdd, fSub, fMul, fDiv, fMod, fPow, fNeg, f1, f2, dstart, List.map, List.length, List.replicate, decide_eq_true_eq, if_true, if_false, Bool.false_eq_true, Bool.not_true, Bool.not_false, reduceIte])
    refine ix_nat (ds := nD y) rfl (nD_at (h1 _ ?_)) hn
    rw [ap_eq hi]; exact List.getElem_mem _
  · have e : (List.range (nD x).length).map (fun i => D.int (ap y (ap x i) : Nat)) = nD (comp x y) := by
      rw [nD_len]
      refine List.ext_getElem? fun i => ?_
      by_cases hi : i < x.length
      · rw [List.getElem?_map, List.getElem?_range hi, nD_at (by rw [comp_len]; exact hi), ap_comp hi]; rfl
      · rw [List.getElem?_eq_none (by rw [List.length_map, List.length_range]; omega), List.getElem?_eq_none (by rw [nD_len, comp_len]; omega)]
    rw [e]
    exact fg h
def sp_law_round (C : Addr) : SpD := fun ds M Q => ∃ n : Nat, ds = [.int n] ∧ 0 < n ∧ n ≤ 48 ∧ Q (linesD n fun i j => (i + j) % n) M
theorem hl_law_round (C : Addr) : ∀ ds M Q, sp_law_round C ds M Q → ds.length = 1 := fun _ _ _ ⟨_, e, _⟩ => by rw [e]; rfl
theorem ok_law_round (C : Addr) : ∀ ds M Q, sp_law_round C ds M Q → r_law_round (dEnd Q) (dstart N_law_round ds) M := by
  rintro ds M Q ⟨n, rfl, h0, h1, h⟩
  unfold r_law_round; simp only [dstart, N_law_round, List.map, List.length, List.replicate, List.append, HAppend.hAppend, Append.append]
  (try simp only [dFor_def, lc_def, lc2_def, dSet, dC, dVar, dIfS, dOr, dAnd, dNot, dTest, dTru, dBin, dUn, dCB, f1, f2, dCons, dNil, dRet, dRetN, dLstM, dLstI, dTup, dget, dset, dNext, dDrop, dBreak, dCont, dIf, dAndV, dOrV, dNotV, dChain, dPar, dAug, dAsg, gdName, gdTup, gdCons, gdNil, gdSub, dCall, dBM, dBMX, dSl, dNoPart, dPart, dNever, List.append_nil, dDisp1K, dDisp1T, dLstRg, dLstRgM, dTupRg, dRg1, dRg2, dTimesM, dNewK, dYes, mk_def, dFldSet, dISeq, dIRng1, dIRng2, dIRng3, dIEnum, dIZip, dwipe, dclr, fII, fIIc, fIB, fLt, fLe, fGt, fGe, fAdd, fSub, fMul, fDiv, fMod, fPow, fNeg, f1, f2, dstart, List.map, List.length, List.replicate, decide_eq_true_eq, if_true, if_false, Bool.false_eq_true, Bool.not_true, Bool.not_false, reduceIte])
  have := big48
  refine ⟨by omega, by omega, ?_⟩
  refine lc_map (fun i => .tupX (rowD (fun i j => (i + j) % n) n i)) trivial (by rw [rng_len]; omega) (fun i d Nx hd hn => ?_) ?_
  · obtain ⟨hi, rfl⟩ := rng_inv hd
    (try simp only [dFor_def, lc_def, lc2_def, dSet, dC, dVar, dIfS, dOr, dAnd, dNot, dTest, dTru, dBin, dUn, dCB, f1, f2, dCons, dNil, dRet, dRetN, dLstM, dLstI, dTup, dget, dset, dNext, dDrop, dBreak, dCont, dIf, dAndV, dOrV, dNotV, dChain, dPar, dAug, dAsg, gdName, gdTup, gdCons, gdNil, gdSub, dCall, dBM, dBMX, dSl, dNoPart, dPart, dNever, List.append_nil, dDisp1K, dDisp1T, dLstRg, dLstRgM, dTupRg, dRg1, dRg2, dTimesM, dNewK, dYes, mk_def, dFldSet, dISeq, dIRng1, dIRng2, dIRng3, dIEnum, dIZip, dwipe, dclr, fII, fIIc, fIB, fLt, fLe, fGt, fGe, fAdd, fSub, fMul, fDiv, fMod, fPow, fNeg, f1, f2, dstart, List.map, List.length, List.replicate, decide_eq_true_eq, if_true, if_false, Bool.false_eq_true, Bool.not_true, Bool.not_false, reduceIte])
    refine ⟨by omega, by omega, ?_⟩
    refine lc_map (fun j => .int ((i + j) % n : Nat)) trivial (by rw [rng_len]; omega) (fun j d Nx2 hd2 hn2 => ?_) ?_
    · obtain ⟨hj, rfl⟩ := rng_inv hd2
      (try simp only [dFor_def, lc_def, lc2_def, dSet, dC, dVar, dIfS, dOr, dAnd, dNot, dTest, dTru, dBin, dUn, dCB, f1, f2, dCons, dNil, dRet, dRetN, dLstM, dLstI, dTup, dget, dset, dNext, dDrop, dBreak, dCont, dIf, dAndV, dOrV, dNotV, dChain, dPar, dAug, dAsg, gdName, gdTup, gdCons, gdNil, gdSub, dCall, dBM, dBMX, dSl, dNoPart, dPart, dNever, List.append_nil, dDisp1K, dDisp1T, dLstRg, dLstRgM, dTupRg, dRg1, dRg2, dTimesM, dNewK, dYes, mk_def, dFldSet, dISeq, dIRng1, dIRng2, dIRng3, dIEnum, dIZip, dwipe, dclr, fII, fIIc, fIB, fLt, fLe, fGt, fGe, fAdd, fSub, fMul, fDiv, fMod, fPow, fNeg, f1, f2, dstart, List.map, List.length, List.replicate, decide_eq_true_eq, if_true, if_false, Bool.false_eq_true, Bool.not_true, Bool.not_false, reduceIte])
      refine plus_int ⟨by omega, ?_⟩
      exact hn2
    · rw [rng_len, ← rowD_eq (m := fun i j => (i + j) % n)]
      exact hn
  · rw [rng_len]
    exact fg h
theorem share_law {a b : Nat} (hb : b ≠ 0) : Nat.gcd a b = Nat.gcd b (a % b) := by
  rw [Nat.gcd_comm, Nat.gcd_rec, Nat.gcd_comm]
def sp_law_share (C : Addr) : SpD := fun ds M Q => ∃ a b : Nat, ds = [.int a, .int b] ∧ b < 1000 ∧ Q (.int (Nat.gcd a b : Nat)) M
theorem hl_law_share (C : Addr) : ∀ ds M Q, sp_law_share C ds M Q → ds.length = 2 := fun _ _ _ ⟨_, _, e, _⟩ => by rw [e]; rfl
theorem ok_law_share (C : Addr) : ∀ ds M Q, sp_law_share C ds M Q → r_law_share (dEnd Q) (dstart N_law_share ds) M := by
  rintro ds M Q ⟨a, b, rfl, hb, h⟩
  unfold r_law_share; simp only [dstart, N_law_share, List.map, List.length, List.replicate, List.append, HAppend.hAppend, Append.append]
  (first | rw [seq_def] | (simp only [gdName, dset]; rw [seq_def])); simp only [dFor_def, lc_def, lc2_def, dSet, dC, dVar, dIfS, dOr, dAnd, dNot, dTest, dTru, dBin, dUn, dCB, f1, f2, dCons, dNil, dRet, dRetN, dLstM, dLstI, dTup, dget, dset, dNext, dDrop, dBreak, dCont, dIf, dAndV, dOrV, dNotV, dChain, dPar, dAug, dAsg, gdName, gdTup, gdCons, gdNil, gdSub, dCall, dBM, dBMX, dSl, dNoPart, dPart, dNever, List.append_nil, dDisp1K, dDisp1T, dLstRg, dLstRgM, dTupRg, dRg1, dRg2, dTimesM, dNewK, dYes, mk_def, dFldSet, dISeq, dIRng1, dIRng2, dIRng3, dIEnum, dIZip, dwipe, dclr, fII, fIIc, fIB, fLt, fLe, fGt, fGe, fAdd, fSub, fMul, fDiv, fMod, fPow, fNeg, f1, f2, dstart, List.map, List.length, List.replicate, decide_eq_true_eq, if_true, if_false, Bool.false_eq_true, Bool.not_true, Bool.not_false, reduceIte]
  refine while_inv (fun k δ M' => M' = M ∧ ∃ x, δ = [some (.int (x : Nat)), some (.int (k : Nat))] ∧ Nat.gcd x k = Nat.gcd a b ∧ k < 1000) b ⟨rfl, a, rfl, rfl, hb⟩ ?_
  rintro k δ M' Nx ⟨rfl, x, rfl, hg, hk⟩ hn
  (try simp only [dFor_def, lc_def, lc2_def, dSet, dC, dVar, dIfS, dOr, dAnd, dNot, dTest, dTru, dBin, dUn, dCB, f1, f2, dCons, dNil, dRet, dRetN, dLstM, dLstI, dTup, dget, dset, dNext, dDrop, dBreak, dCont, dIf, dAndV, dOrV, dNotV, dChain, dPar, dAug, dAsg, gdName, gdTup, gdCons, gdNil, gdSub, dCall, dBM, dBMX, dSl, dNoPart, dPart, dNever, List.append_nil, dDisp1K, dDisp1T, dLstRg, dLstRgM, dTupRg, dRg1, dRg2, dTimesM, dNewK, dYes, mk_def, dFldSet, dISeq, dIRng1, dIRng2, dIRng3, dIEnum, dIZip, dwipe, dclr, fII, fIIc, fIB, fLt, fLe, fGt, fGe, fAdd, fSub, fMul, fDiv, fMod, fPow, fNeg, f1, f2, dstart, List.map, List.length, List.replicate, decide_eq_true_eq, if_true, if_false, Bool.false_eq_true, Bool.not_true, Bool.not_false, reduceIte])
  by_cases e0 : k = 0
  · subst e0
    rw [if_neg (by omega)]
    rw [Nat.gcd_zero_right] at hg
    rw [hg]
    exact fg h
  · have hp : (0 : Int) < (k : Nat) := by omega
    simp only [hp, if_true]
    refine ⟨trivial, ?_⟩
    refine hn (x % k) _ _ (Nat.mod_lt _ (by omega)) ⟨rfl, k, rfl, ?_, ?_⟩
    · rw [← share_law e0, hg]
    · have := Nat.mod_lt x (show k > 0 by omega); omega
def sp_law_product (C : Addr) : SpD := fun ds M Q => ∃ a b s t, ds = [linesD a s, linesD b t] ∧ IsGrp a s ∧ IsGrp b t ∧ a * b ≤ 48 ∧ Q (linesD (a * b) fun i j => s (i / b) (j / b) * b + t (i % b) (j % b)) M
theorem hl_law_product (C : Addr) : ∀ ds M Q, sp_law_product C ds M Q → ds.length = 2 := fun _ _ _ ⟨_, _, _, _, e, _⟩ => by rw [e]; rfl
theorem ok_law_product (C : Addr) : ∀ ds M Q, sp_law_product C ds M Q → r_law_product (dEnd Q) (dstart N_law_product ds) M := by
  rintro ds M Q ⟨a, b, s, t, rfl, g, f, hab, h⟩
  unfold r_law_product; simp only [dstart, N_law_product, List.map, List.length, List.replicate, List.append, HAppend.hAppend, Append.append]
  have hb := f.pos
  have hbig := big48
  have ha48 : a ≤ 48 := Nat.le_trans (Nat.le_mul_of_pos_right a hb) hab
  have hb48 : b ≤ 48 := Nat.le_trans (Nat.le_mul_of_pos_left b g.pos) hab
  have hd : ∀ {i}, i < a * b → i / b < a := fun {i} h => Nat.div_lt_of_lt_mul (by rw [Nat.mul_comm]; exact h)
  have hm : ∀ i, i % b < b := fun i => Nat.mod_lt _ hb
  have hlen : ∀ M', gLen M' (linesD b t) = fun Q => Q (.int (b : Nat)) M' := fun M' => by
    funext Q; unfold gLen lenD; show Q (.int ((linesL b t).length : Nat)) M' = _; rw [linesL_len]
  have hlen2 : ∀ M', gLen M' (linesD a s) = fun Q => Q (.int (a : Nat)) M' := fun M' => by
    funext Q; unfold gLen lenD; show Q (.int ((linesL a s).length : Nat)) M' = _; rw [linesL_len]
  (first | rw [seq_def] | (simp only [gdName, dset]; rw [seq_def])); simp only [dFor_def, lc_def, lc2_def, dSet, dC, dVar, dIfS, dOr, dAnd, dNot, dTest, dTru, dBin, dUn, dCB, f1, f2, dCons, dNil, dRet, dRetN, dLstM, dLstI, dTup, dget, dset, dNext, dDrop, dBreak, dCont, dIf, dAndV, dOrV, dNotV, dChain, dPar, dAug, dAsg, gdName, gdTup, gdCons, gdNil, gdSub, dCall, dBM, dBMX, dSl, dNoPart, dPart, dNever, List.append_nil, dDisp1K, dDisp1T, dLstRg, dLstRgM, dTupRg, dRg1, dRg2, dTimesM, dNewK, dYes, mk_def, dFldSet, dISeq, dIRng1, dIRng2, dIRng3, dIEnum, dIZip, dwipe, dclr, fII, fIIc, fIB, fLt, fLe, fGt, fGe, fAdd, fSub, fMul, fDiv, fMod, fPow, fNeg, f1, f2, dstart, List.map, List.length, List.replicate, decide_eq_true_eq, if_true, if_false, Bool.false_eq_true, Bool.not_true, Bool.not_false, reduceIte]
  rw [hlen]
  refine ⟨by decide, fun p hp => ?_⟩
  (first | rw [seq_def] | (simp only [gdName, dset]; rw [seq_def])); simp only [dFor_def, lc_def, lc2_def, dSet, dC, dVar, dIfS, dOr, dAnd, dNot, dTest, dTru, dBin, dUn, dCB, f1, f2, dCons, dNil, dRet, dRetN, dLstM, dLstI, dTup, dget, dset, dNext, dDrop, dBreak, dCont, dIf, dAndV, dOrV, dNotV, dChain, dPar, dAug, dAsg, gdName, gdTup, gdCons, gdNil, gdSub, dCall, dBM, dBMX, dSl, dNoPart, dPart, dNever, List.append_nil, dDisp1K, dDisp1T, dLstRg, dLstRgM, dTupRg, dRg1, dRg2, dTimesM, dNewK, dYes, mk_def, dFldSet, dISeq, dIRng1, dIRng2, dIRng3, dIEnum, dIZip, dwipe, dclr, fII, fIIc, fIB, fLt, fLe, fGt, fGe, fAdd, fSub, fMul, fDiv, fMod, fPow, fNeg, f1, f2, dstart, List.map, List.length, List.replicate, decide_eq_true_eq, if_true, if_false, Bool.false_eq_true, Bool.not_true, Bool.not_false, reduceIte]
  rw [hlen2]
  refine times_int (mul_small (by omega) (by omega)) ?_
  have eN : (a : Int) * (b : Int) = ((a * b : Nat) : Int) := (Int.natCast_mul a b).symm
  rw [eN]
  obtain ⟨N, hN⟩ : ∃ N, N = a * b := ⟨_, rfl⟩
  rw [← hN] at hab h hd ⊢
  rw [← hN] at eN
  generalize hpm : (fun i j : Nat => s (i / b) (j / b) * b + t (i % b) (j % b)) = pm at h
  refine ⟨by omega, by omega, ?_⟩
  refine for_inv (fun i δ M' => Sup M M' ∧ M' p = some (.lst ((List.range i).map fun i => .tupX (rowD pm N i))) ∧ ∃ x y z u, δ = [some (linesD a s), some (linesD b t), x, some (.int (b : Nat)), some (.ref p), y, z, u]) ⟨Sup.new hp, mupd_same, _, _, _, _, rfl⟩ (fun i d δ M' Nx hd2 hI hn => ?_) (fun δ M' hI => ?_)
  · obtain ⟨hs, hM, _, _, _, _, rfl⟩ := hI
    obtain ⟨hi, rfl⟩ := rng_inv hd2
    refine ⟨trivial, ?_⟩
    (first | rw [seq_def] | (simp only [gdName, dset]; rw [seq_def])); simp only [dFor_def, lc_def, lc2_def, dSet, dC, dVar, dIfS, dOr, dAnd, dNot, dTest, dTru, dBin, dUn, dCB, f1, f2, dCons, dNil, dRet, dRetN, dLstM, dLstI, dTup, dget, dset, dNext, dDrop, dBreak, dCont, dIf, dAndV, dOrV, dNotV, dChain, dPar, dAug, dAsg, gdName, gdTup, gdCons, gdNil, gdSub, dCall, dBM, dBMX, dSl, dNoPart, dPart, dNever, List.append_nil, dDisp1K, dDisp1T, dLstRg, dLstRgM, dTupRg, dRg1, dRg2, dTimesM, dNewK, dYes, mk_def, dFldSet, dISeq, dIRng1, dIRng2, dIRng3, dIEnum, dIZip, dwipe, dclr, fII, fIIc, fIB, fLt, fLe, fGt, fGe, fAdd, fSub, fMul, fDiv, fMod, fPow, fNeg, f1, f2, dstart, List.map, List.length, List.replicate, decide_eq_true_eq, if_true, if_false, Bool.false_eq_true, Bool.not_true, Bool.not_false, reduceIte]
    refine ⟨by decide, fun q hq => ?_⟩
    have hqp : p ≠ q := fun e => by rw [e, hq] at hM; cases hM
    have hsq : Sup M (mupd M' q (.lst [])) := fun a o e => by
      rw [mupd_ne (fun z => by rw [z] at e; rw [hs _ _ e] at hq; cases hq)]; exact hs a o e
    (first | rw [seq_def] | (simp only [gdName, dset]; rw [seq_def])); simp only [dFor_def, lc_def, lc2_def, dSet, dC, dVar, dIfS, dOr, dAnd, dNot, dTest, dTru, dBin, dUn, dCB, f1, f2, dCons, dNil, dRet, dRetN, dLstM, dLstI, dTup, dget, dset, dNext, dDrop, dBreak, dCont, dIf, dAndV, dOrV, dNotV, dChain, dPar, dAug, dAsg, gdName, gdTup, gdCons, gdNil, gdSub, dCall, dBM, dBMX, dSl, dNoPart, dPart, dNever, List.append_nil, dDisp1K, dDisp1T, dLstRg, dLstRgM, dTupRg, dRg1, dRg2, dTimesM, dNewK, dYes, mk_def, dFldSet, dISeq, dIRng1, dIRng2, dIRng3, dIEnum, dIZip, dwipe, dclr, fII, fIIc, fIB, fLt, fLe, fGt, fGe, fAdd, fSub, fMul, fDiv, fMod, fPow, fNeg, f1, f2, dstart, List.map, List.length, List.replicate, decide_eq_true_eq, if_true, if_false, Bool.false_eq_true, Bool.not_true, Bool.not_false, reduceIte]
    rw [hlen2]
    refine times_int (mul_small (by omega) (by omega)) ?_
    rw [eN]
    refine ⟨by omega, by omega, ?_⟩
    have hMq : M q = none := by
      cases c : M q with
      | none => rfl
      | some o => rw [hs _ _ c] at hq; cases hq
    refine for_inv (fun j δ M2 => Sup M M2 ∧ M2 p = some (.lst ((List.range i).map fun i => .tupX (rowD pm N i))) ∧ M2 q = some (.lst ((List.range j).map fun j => .int (pm i j : Nat))) ∧ ∃ z u, δ = [some (linesD a s), some (linesD b t), some (.int (i : Nat)), some (.int (b : Nat)), some (.ref p), some (.ref q), z, u]) ⟨hsq, (by rw [mupd_ne hqp]; exact hM), mupd_same, _, _, rfl⟩ (fun j d δ M2 Nx2 hd3 hI2 hn2 => ?_) (fun δ M2 hI2 => ?_)
    · obtain ⟨hs2, hM2, hM3, _, _, rfl⟩ := hI2
      obtain ⟨hj, rfl⟩ := rng_inv hd3
      refine ⟨trivial, ?_⟩
      (first | rw [seq_def] | (simp only [gdName, dset]; rw [seq_def])); simp only [dFor_def, lc_def, lc2_def, dSet, dC, dVar, dIfS, dOr, dAnd, dNot, dTest, dTru, dBin, dUn, dCB, f1, f2, dCons, dNil, dRet, dRetN, dLstM, dLstI, dTup, dget, dset, dNext, dDrop, dBreak, dCont, dIf, dAndV, dOrV, dNotV, dChain, dPar, dAug, dAsg, gdName, gdTup, gdCons, gdNil, gdSub, dCall, dBM, dBMX, dSl, dNoPart, dPart, dNever, List.append_nil, dDisp1K, dDisp1T, dLstRg, dLstRgM, dTupRg, dRg1, dRg2, dTimesM, dNewK, dYes, mk_def, dFldSet, dISeq, dIRng1, dIRng2, dIRng3, dIEnum, dIZip, dwipe, dclr, fII, fIIc, fIB, fLt, fLe, fGt, fGe, fAdd, fSub, fMul, fDiv, fMod, fPow, fNeg, f1, f2, dstart, List.map, List.length, List.replicate, decide_eq_true_eq, if_true, if_false, Bool.false_eq_true, Bool.not_true, Bool.not_false, reduceIte]
      have cd : ∀ x : Nat, CDiv (x : Nat) (b : Nat) := fun x => ⟨by omega, by omega⟩
      refine ⟨cd i, ?_⟩
      refine ix_line (hd hi) ?_
      refine ⟨cd j, ?_⟩
      refine ix_cell (hd hj) ?_
      (try simp only [dFor_def, lc_def, lc2_def, dSet, dC, dVar, dIfS, dOr, dAnd, dNot, dTest, dTru, dBin, dUn, dCB, f1, f2, dCons, dNil, dRet, dRetN, dLstM, dLstI, dTup, dget, dset, dNext, dDrop, dBreak, dCont, dIf, dAndV, dOrV, dNotV, dChain, dPar, dAug, dAsg, gdName, gdTup, gdCons, gdNil, gdSub, dCall, dBM, dBMX, dSl, dNoPart, dPart, dNever, List.append_nil, dDisp1K, dDisp1T, dLstRg, dLstRgM, dTupRg, dRg1, dRg2, dTimesM, dNewK, dYes, mk_def, dFldSet, dISeq, dIRng1, dIRng2, dIRng3, dIEnum, dIZip, dwipe, dclr, fII, fIIc, fIB, fLt, fLe, fGt, fGe, fAdd, fSub, fMul, fDiv, fMod, fPow, fNeg, f1, f2, dstart, List.map, List.length, List.replicate, decide_eq_true_eq, if_true, if_false, Bool.false_eq_true, Bool.not_true, Bool.not_false, reduceIte])
      refine ⟨ty_lst hM3, ?_⟩
      refine times_int (mul_small2 (by omega) (by omega)) ?_
      refine ⟨by omega, ?_⟩
      refine ix_line (hm i) ?_
      refine ⟨by omega, ?_⟩
      refine ix_cell (hm j) ?_
      refine plus_int ?_
      refine app_ hM3 (by rw [List.length_map, List.length_range]; omega) ?_
      refine hn2 _ _ ⟨hs2.upd hMq, by rw [mupd_ne hqp]; exact hM2, ?_, _, _, rfl⟩
      rw [mupd_same, List.range_succ, List.map_append]
      subst hpm
      rfl
    · obtain ⟨hs2, hM2, hM3, _, _, rfl⟩ := hI2
      refine ⟨trivial, ?_⟩
      (try simp only [dFor_def, lc_def, lc2_def, dSet, dC, dVar, dIfS, dOr, dAnd, dNot, dTest, dTru, dBin, dUn, dCB, f1, f2, dCons, dNil, dRet, dRetN, dLstM, dLstI, dTup, dget, dset, dNext, dDrop, dBreak, dCont, dIf, dAndV, dOrV, dNotV, dChain, dPar, dAug, dAsg, gdName, gdTup, gdCons, gdNil, gdSub, dCall, dBM, dBMX, dSl, dNoPart, dPart, dNever, List.append_nil, dDisp1K, dDisp1T, dLstRg, dLstRgM, dTupRg, dRg1, dRg2, dTimesM, dNewK, dYes, mk_def, dFldSet, dISeq, dIRng1, dIRng2, dIRng3, dIEnum, dIZip, dwipe, dclr, fII, fIIc, fIB, fLt, fLe, fGt, fGe, fAdd, fSub, fMul, fDiv, fMod, fPow, fNeg, f1, f2, dstart, List.map, List.length, List.replicate, decide_eq_true_eq, if_true, if_false, Bool.false_eq_true, Bool.not_true, Bool.not_false, reduceIte])
      refine ⟨ty_lst hM2, ?_⟩
      unfold gTupX
      rw [show lstD M2 (.ref q) = some ((List.range N).map fun j => .int (pm i j : Nat)) by simp [lstD, seqM, hM3, rng_len]]
      dsimp only
      refine app_ hM2 (by rw [List.length_map, List.length_range]; omega) ?_
      refine hn _ _ ⟨hs2.upd hp, ?_, _, _, _, _, rfl⟩
      rw [mupd_same, List.range_succ, List.map_append, ← rowD_eq]
      rfl
  · obtain ⟨hs, hM, _, _, _, _, rfl⟩ := hI
    refine ⟨trivial, ?_⟩
    (try simp only [dFor_def, lc_def, lc2_def, dSet, dC, dVar, dIfS, dOr, dAnd, dNot, dTest, dTru, dBin, dUn, dCB, f1, f2, dCons, dNil, dRet, dRetN, dLstM, dLstI, dTup, dget, dset, dNext, dDrop, dBreak, dCont, dIf, dAndV, dOrV, dNotV, dChain, dPar, dAug, dAsg, gdName, gdTup, gdCons, gdNil, gdSub, dCall, dBM, dBMX, dSl, dNoPart, dPart, dNever, List.append_nil, dDisp1K, dDisp1T, dLstRg, dLstRgM, dTupRg, dRg1, dRg2, dTimesM, dNewK, dYes, mk_def, dFldSet, dISeq, dIRng1, dIRng2, dIRng3, dIEnum, dIZip, dwipe, dclr, fII, fIIc, fIB, fLt, fLe, fGt, fGe, fAdd, fSub, fMul, fDiv, fMod, fPow, fNeg, f1, f2, dstart, List.map, List.length, List.replicate, decide_eq_true_eq, if_true, if_false, Bool.false_eq_true, Bool.not_true, Bool.not_false, reduceIte])
    unfold gTupX
    rw [show lstD M' (.ref p) = some (linesL N pm) by simp [lstD, seqM, hM, rng_len, linesL]]
    exact fg_sup h hs
end T74
end
section
set_option Elab.async false
set_option linter.all false
set_option maxRecDepth 100000
set_option maxHeartbeats 4000000
namespace T74
open DL PySem PySem.Spec PyProof.Rows L2
theorem len_tup {M : Mem} {l : List Nat} {Q : KD} (q : Q (.int (l.length : Nat)) M) : gLen M (.tup (nD l)) Q := by
  refine len_seq (ds := nD l) rfl ?_
  rw [nD_len]; exact q
theorem len_lines {M : Mem} {n : Nat} {m : N2} {Q : KD} (q : Q (.int (n : Nat)) M) : gLen M (linesD n m) Q := by
  refine len_seq (ds := linesL n m) rfl ?_
  rw [linesL_len]; exact q
theorem rep_zero : ∀ n : Nat, (List.replicate n [D.int 0]).flatten = nD (List.replicate n 0)
  | 0 => rfl
  | n + 1 => by
    rw [List.replicate_succ, List.flatten_cons, rep_zero n]; rfl
theorem ix_nD {M : Mem} {x : D} {l : List Nat} {i : Nat} {Q : D → Prop} (h : seqD M x = some (nD l)) (hi : i < l.length) (q : Q (.int (ap l i : Nat))) : fIx M x (.int (i : Nat)) Q := ix_nat h (nD_at hi) q
theorem gtx {M : Mem} {ds : List D} {Q : KD} (q : Q (.tupX ds) M) : gTupX M (.lst ds) Q := q
theorem Sup.none {M M' : Mem} {p : Addr} (h : Sup M M') (e : M' p = Option.none) : M p = Option.none := by
  cases c : M p with
  | none => rfl
  | some o => rw [h _ _ c] at e; cases e
def sp_law_turned (C : Addr) : SpD := fun ds M Q => ∃ n m r, ds = [linesD n m, .tup (nD r)] ∧ IsGrp n m ∧ n ≤ 48 ∧ IsPm n r ∧ ∀ m', (∀ i j, i < n → j < n → m' (ap r i) (ap r j) = ap r (m i j)) → Q (linesD n m') M
theorem hl_law_turned (C : Addr) : ∀ ds M Q, sp_law_turned C ds M Q → ds.length = 2 := fun _ _ _ ⟨_, _, _, e, _⟩ => by rw [e]; rfl
theorem ok_law_turned (C : Addr) : ∀ ds M Q, sp_law_turned C ds M Q → r_law_turned (dEnd Q) (dstart N_law_turned ds) M := by
  rintro ds M Q ⟨n, m, r, rfl, g, hn, hr, h⟩
  unfold r_law_turned; simp only [dstart, N_law_turned, List.map, List.length, List.replicate, List.append, HAppend.hAppend, Append.append]
  have hbig := big48
  have hrl := hr.len
  (first | rw [seq_def] | (simp only [gdName, dset]; rw [seq_def])); simp only [dFor_def, lc_def, lc2_def, dSet, dC, dVar, dIfS, dOr, dAnd, dNot, dTest, dTru, dBin, dUn, dCB, f1, f2, dCons, dNil, dRet, dRetN, dLstM, dLstI, dTup, dget, dset, dNext, dDrop, dBreak, dCont, dIf, dAndV, dOrV, dNotV, dChain, dPar, dAug, dAsg, gdName, gdTup, gdCons, gdNil, gdSub, dCall, dBM, dBMX, dSl, dNoPart, dPart, dNever, List.append_nil, dDisp1K, dDisp1T, dLstRg, dLstRgM, dTupRg, dRg1, dRg2, dTimesM, dNewK, dYes, mk_def, dFldSet, dISeq, dIRng1, dIRng2, dIRng3, dIEnum, dIZip, dwipe, dclr, fII, fIIc, fIB, fLt, fLe, fGt, fGe, fAdd, fSub, fMul, fDiv, fMod, fPow, fNeg, f1, f2, dstart, List.map, List.length, List.replicate, decide_eq_true_eq, if_true, if_false, Bool.false_eq_true, Bool.not_true, Bool.not_false, reduceIte]
  refine ⟨by decide, len_tup ?_⟩
  rw [hrl]
  refine ⟨by omega, by omega, by simp; omega, fun p hp => ?_⟩
  rw [show (n : Int).toNat = n by omega, rep_zero]
  (first | rw [seq_def] | (simp only [gdName, dset]; rw [seq_def])); simp only [dFor_def, lc_def, lc2_def, dSet, dC, dVar, dIfS, dOr, dAnd, dNot, dTest, dTru, dBin, dUn, dCB, f1, f2, dCons, dNil, dRet, dRetN, dLstM, dLstI, dTup, dget, dset, dNext, dDrop, dBreak, dCont, dIf, dAndV, dOrV, dNotV, dChain, dPar, dAug, dAsg, gdName, gdTup, gdCons, gdNil, gdSub, dCall, dBM, dBMX, dSl, dNoPart, dPart, dNever, List.append_nil, dDisp1K, dDisp1T, dLstRg, dLstRgM, dTupRg, dRg1, dRg2, dTimesM, dNewK, dYes, mk_def, dFldSet, dISeq, dIRng1, dIRng2, dIRng3, dIEnum, dIZip, dwipe, dclr, fII, fIIc, fIB, fLt, fLe, fGt, fGe, fAdd, fSub, fMul, fDiv, fMod, fPow, fNeg, f1, f2, dstart, List.map, List.length, List.replicate, decide_eq_true_eq, if_true, if_false, Bool.false_eq_true, Bool.not_true, Bool.not_false, reduceIte]
  refine len_tup ?_
  rw [hrl]
  refine ⟨by omega, by omega, ?_⟩
  refine for_inv (fun i δ M' => ∃ Bs : List Nat, M' = mupd M p (.lst (nD Bs)) ∧ Bs.length = n ∧ (∀ k, k < i → ap Bs (ap r k) = k) ∧ ∃ x y z u v, δ = [some (linesD n m), some (.tup (nD r)), some (.ref p), x, y, z, u, v]) ⟨_, rfl, List.length_replicate, fun k hk => by omega, _, _, _, _, _, rfl⟩ (fun i d δ M' Nx hd hI hnx => ?_) (fun δ M' hI => ?_)
  · obtain ⟨Bs, rfl, hB, hk, _, _, _, _, _, rfl⟩ := hI
    obtain ⟨hi, rfl⟩ := rng_inv hd
    refine ⟨trivial, ?_⟩
    (try simp only [dFor_def, lc_def, lc2_def, dSet, dC, dVar, dIfS, dOr, dAnd, dNot, dTest, dTru, dBin, dUn, dCB, f1, f2, dCons, dNil, dRet, dRetN, dLstM, dLstI, dTup, dget, dset, dNext, dDrop, dBreak, dCont, dIf, dAndV, dOrV, dNotV, dChain, dPar, dAug, dAsg, gdName, gdTup, gdCons, gdNil, gdSub, dCall, dBM, dBMX, dSl, dNoPart, dPart, dNever, List.append_nil, dDisp1K, dDisp1T, dLstRg, dLstRgM, dTupRg, dRg1, dRg2, dTimesM, dNewK, dYes, mk_def, dFldSet, dISeq, dIRng1, dIRng2, dIRng3, dIEnum, dIZip, dwipe, dclr, fII, fIIc, fIB, fLt, fLe, fGt, fGe, fAdd, fSub, fMul, fDiv, fMod, fPow, fNeg, f1, f2, dstart, List.map, List.length, List.replicate, decide_eq_true_eq, if_true, if_false, Bool.false_eq_true, Bool.not_true, Bool.not_false, reduceIte])
    refine ix_nD (l := r) rfl (by omega) ?_
    have hri := hr.at_lt hi
    refine set_nat mupd_same (by rw [nD_len]; omega) ?_
    rw [nD_set, mupd_mupd]
    refine hnx _ _ ⟨_, rfl, by rw [List.length_set]; exact hB, fun k hk2 => ?_, _, _, _, _, _, rfl⟩
    rw [ap_set (by rw [hB]; exact hr.at_lt (by omega))]
    split
    · rename_i e; exact hr.inj hi (by omega) e
    · rename_i e
      refine hk k ?_
      apply Classical.byContradiction
      intro c
      exact e (by rw [show k = i by omega])
  · obtain ⟨Bs, rfl, hB, hk, _, _, _, _, _, rfl⟩ := hI
    rw [rng_len] at hk
    refine ⟨trivial, ?_⟩
    have hBlt : ∀ a, a < n → ap Bs a < n ∧ ap r (ap Bs a) = a := fun a ha => by
      obtain ⟨k, hkn, rfl⟩ := hr.onto ha
      rw [hk k hkn]; exact ⟨hkn, rfl⟩
    have hres := h (fun a b => ap r (m (ap Bs a) (ap Bs b))) fun i j hi hj => by rw [hk i hi, hk j hj]
    generalize hm' : (fun a b => ap r (m (ap Bs a) (ap Bs b))) = m' at hres
    (first | rw [seq_def] | (simp only [gdName, dset]; rw [seq_def])); simp only [dFor_def, lc_def, lc2_def, dSet, dC, dVar, dIfS, dOr, dAnd, dNot, dTest, dTru, dBin, dUn, dCB, f1, f2, dCons, dNil, dRet, dRetN, dLstM, dLstI, dTup, dget, dset, dNext, dDrop, dBreak, dCont, dIf, dAndV, dOrV, dNotV, dChain, dPar, dAug, dAsg, gdName, gdTup, gdCons, gdNil, gdSub, dCall, dBM, dBMX, dSl, dNoPart, dPart, dNever, List.append_nil, dDisp1K, dDisp1T, dLstRg, dLstRgM, dTupRg, dRg1, dRg2, dTimesM, dNewK, dYes, mk_def, dFldSet, dISeq, dIRng1, dIRng2, dIRng3, dIEnum, dIZip, dwipe, dclr, fII, fIIc, fIB, fLt, fLe, fGt, fGe, fAdd, fSub, fMul, fDiv, fMod, fPow, fNeg, f1, f2, dstart, List.map, List.length, List.replicate, decide_eq_true_eq, if_true, if_false, Bool.false_eq_true, Bool.not_true, Bool.not_false, reduceIte]
    refine ⟨by decide, fun q hq => ?_⟩
    have hqp : q ≠ p := fun e => by rw [e, mupd_same] at hq; cases hq
    have hMq : M q = none := (Sup.new hp).none hq
    (first | rw [seq_def] | (simp only [gdName, dset]; rw [seq_def])); simp only [dFor_def, lc_def, lc2_def, dSet, dC, dVar, dIfS, dOr, dAnd, dNot, dTest, dTru, dBin, dUn, dCB, f1, f2, dCons, dNil, dRet, dRetN, dLstM, dLstI, dTup, dget, dset, dNext, dDrop, dBreak, dCont, dIf, dAndV, dOrV, dNotV, dChain, dPar, dAug, dAsg, gdName, gdTup, gdCons, gdNil, gdSub, dCall, dBM, dBMX, dSl, dNoPart, dPart, dNever, List.append_nil, dDisp1K, dDisp1T, dLstRg, dLstRgM, dTupRg, dRg1, dRg2, dTimesM, dNewK, dYes, mk_def, dFldSet, dISeq, dIRng1, dIRng2, dIRng3, dIEnum, dIZip, dwipe, dclr, fII, fIIc, fIB, fLt, fLe, fGt, fGe, fAdd, fSub, fMul, fDiv, fMod, fPow, fNeg, f1, f2, dstart, List.map, List.length, List.replicate, decide_eq_true_eq, if_true, if_false, Bool.false_eq_true, Bool.not_true, Bool.not_false, reduceIte]
    rw [show seqD (mupd (mupd M p (.lst (nD Bs))) q (.lst [])) (.ref p) = some (nD Bs) by rw [seq_lst (by rw [mupd_ne (Ne.symm hqp)]; exact mupd_same)]]
    dsimp only
    refine for_inv (fun i δ M' => M' = mupd (mupd M p (.lst (nD Bs))) q (.lst ((List.range i).map fun i => .tupX (rowD m' n i))) ∧ ∃ x y z u, δ = [some (linesD n m), some (.tup (nD r)), some (.ref p), x, some (.ref q), y, z, u]) ⟨rfl, _, _, _, _, rfl⟩ (fun i d δ M' Nx hd hI hnx => ?_) (fun δ M' hI => ?_)
    · obtain ⟨rfl, _, _, _, _, rfl⟩ := hI
      obtain ⟨hi, rfl⟩ := nD_inv hd
      rw [hB] at hi
      have hsp : ∀ o, seqD (mupd (mupd M p (.lst (nD Bs))) q o) (.ref p) = some (nD Bs) := fun o => by rw [seq_lst (by rw [mupd_ne (Ne.symm hqp)]; exact mupd_same)]
      refine ⟨hsp _, ?_⟩
      (first | rw [seq_def] | (simp only [gdName, dset]; rw [seq_def])); simp only [dFor_def, lc_def, lc2_def, dSet, dC, dVar, dIfS, dOr, dAnd, dNot, dTest, dTru, dBin, dUn, dCB, f1, f2, dCons, dNil, dRet, dRetN, dLstM, dLstI, dTup, dget, dset, dNext, dDrop, dBreak, dCont, dIf, dAndV, dOrV, dNotV, dChain, dPar, dAug, dAsg, gdName, gdTup, gdCons, gdNil, gdSub, dCall, dBM, dBMX, dSl, dNoPart, dPart, dNever, List.append_nil, dDisp1K, dDisp1T, dLstRg, dLstRgM, dTupRg, dRg1, dRg2, dTimesM, dNewK, dYes, mk_def, dFldSet, dISeq, dIRng1, dIRng2, dIRng3, dIEnum, dIZip, dwipe, dclr, fII, fIIc, fIB, fLt, fLe, fGt, fGe, fAdd, fSub, fMul, fDiv, fMod, fPow, fNeg, f1, f2, dstart, List.map, List.length, List.replicate, decide_eq_true_eq, if_true, if_false, Bool.false_eq_true, Bool.not_true, Bool.not_false, reduceIte]
      refine ix_line (hBlt i hi).1 ?_
      (try simp only [dFor_def, lc_def, lc2_def, dSet, dC, dVar, dIfS, dOr, dAnd, dNot, dTest, dTru, dBin, dUn, dCB, f1, f2, dCons, dNil, dRet, dRetN, dLstM, dLstI, dTup, dget, dset, dNext, dDrop, dBreak, dCont, dIf, dAndV, dOrV, dNotV, dChain, dPar, dAug, dAsg, gdName, gdTup, gdCons, gdNil, gdSub, dCall, dBM, dBMX, dSl, dNoPart, dPart, dNever, List.append_nil, dDisp1K, dDisp1T, dLstRg, dLstRgM, dTupRg, dRg1, dRg2, dTimesM, dNewK, dYes, mk_def, dFldSet, dISeq, dIRng1, dIRng2, dIRng3, dIEnum, dIZip, dwipe, dclr, fII, fIIc, fIB, fLt, fLe, fGt, fGe, fAdd, fSub, fMul, fDiv, fMod, fPow, fNeg, f1, f2, dstart, List.map, List.length, List.replicate, decide_eq_true_eq, if_true, if_false, Bool.false_eq_true, Bool.not_true, Bool.not_false, reduceIte])
      refine ⟨ty_lst mupd_same, ?_⟩
      rw [hsp]
      dsimp only
      refine lc_map (fun j => .int (m' i j : Nat)) (hsp _) (by rw [nD_len]; omega) (fun j d Nx2 hd2 hn2 => ?_) ?_
      · obtain ⟨hj, rfl⟩ := nD_inv hd2
        rw [hB] at hj
        (try simp only [dFor_def, lc_def, lc2_def, dSet, dC, dVar, dIfS, dOr, dAnd, dNot, dTest, dTru, dBin, dUn, dCB, f1, f2, dCons, dNil, dRet, dRetN, dLstM, dLstI, dTup, dget, dset, dNext, dDrop, dBreak, dCont, dIf, dAndV, dOrV, dNotV, dChain, dPar, dAug, dAsg, gdName, gdTup, gdCons, gdNil, gdSub, dCall, dBM, dBMX, dSl, dNoPart, dPart, dNever, List.append_nil, dDisp1K, dDisp1T, dLstRg, dLstRgM, dTupRg, dRg1, dRg2, dTimesM, dNewK, dYes, mk_def, dFldSet, dISeq, dIRng1, dIRng2, dIRng3, dIEnum, dIZip, dwipe, dclr, fII, fIIc, fIB, fLt, fLe, fGt, fGe, fAdd, fSub, fMul, fDiv, fMod, fPow, fNeg, f1, f2, dstart, List.map, List.length, List.replicate, decide_eq_true_eq, if_true, if_false, Bool.false_eq_true, Bool.not_true, Bool.not_false, reduceIte])
        refine ix_cell (hBlt j hj).1 ?_
        refine ix_nD (l := r) rfl (by rw [hrl]; exact g.clo _ _ (hBlt i hi).1 (hBlt j hj).1) ?_
        subst hm'
        exact hn2
      · rw [nD_len, hB, ← rowD_eq]
        have hlt : ((List.range i).map fun i => D.tupX (rowD m' n i)).length < sizeLine := by rw [List.length_map, List.length_range]; omega
        refine gtx ?_
        refine app_ mupd_same hlt ?_
        rw [mupd_mupd]
        refine hnx _ _ ⟨?_, _, _, _, _, rfl⟩
        rw [List.range_succ, List.map_append]
        rfl
    · obtain ⟨rfl, _, _, _, _, rfl⟩ := hI
      rw [nD_len, hB]
      have hsp : ∀ o, seqD (mupd (mupd M p (.lst (nD Bs))) q o) (.ref p) = some (nD Bs) := fun o => by rw [seq_lst (by rw [mupd_ne (Ne.symm hqp)]; exact mupd_same)]
      refine ⟨hsp _, ?_⟩
      (try simp only [dFor_def, lc_def, lc2_def, dSet, dC, dVar, dIfS, dOr, dAnd, dNot, dTest, dTru, dBin, dUn, dCB, f1, f2, dCons, dNil, dRet, dRetN, dLstM, dLstI, dTup, dget, dset, dNext, dDrop, dBreak, dCont, dIf, dAndV, dOrV, dNotV, dChain, dPar, dAug, dAsg, gdName, gdTup, gdCons, gdNil, gdSub, dCall, dBM, dBMX, dSl, dNoPart, dPart, dNever, List.append_nil, dDisp1K, dDisp1T, dLstRg, dLstRgM, dTupRg, dRg1, dRg2, dTimesM, dNewK, dYes, mk_def, dFldSet, dISeq, dIRng1, dIRng2, dIRng3, dIEnum, dIZip, dwipe, dclr, fII, fIIc, fIB, fLt, fLe, fGt, fGe, fAdd, fSub, fMul, fDiv, fMod, fPow, fNeg, f1, f2, dstart, List.map, List.length, List.replicate, decide_eq_true_eq, if_true, if_false, Bool.false_eq_true, Bool.not_true, Bool.not_false, reduceIte])
      unfold gTupX
      rw [show ∀ o, lstD (mupd (mupd M p (.lst (nD Bs))) q (.lst o)) (.ref q) = some o by intro o; simp [lstD, seqM]]
      exact fg_sup hres ((Sup.new hp).upd hMq)
theorem Pool.ne {M : Mem} {p q : Addr} (h : Pool M p) (hq : M q = Option.none) : p ≠ q := fun e => by
  obtain ⟨_, _, _, e1, _⟩ := h
  rw [e, hq] at e1; cases e1
/-- the pool has moved on, and a list at q -/
def PQ (p q : Addr) (L : List D) (M M' : Mem) : Prop := ∃ M1, PS p M M1 ∧ M' = mupd M1 q (.lst L)
namespace PQ
variable {p q : Addr} {L L' : List D} {M M' M'' : Mem}
theorem get (h : PQ p q L M M') : M' q = some (.lst L) := by
  obtain ⟨_, _, rfl⟩ := h; exact mupd_same
theorem set (h : PQ p q L M M') : PQ p q L' M (mupd M' q (.lst L')) := by
  obtain ⟨M1, h1, rfl⟩ := h; exact ⟨M1, h1, mupd_mupd⟩
theorem pool (h : PQ p q L M M') (hpq : p ≠ q) : Pool M' p := by
  obtain ⟨M1, h1, rfl⟩ := h
  obtain ⟨a, b, c, e, h2⟩ := h1.pool
  exact ⟨a, b, c, by rw [mupd_ne hpq]; exact e, h2⟩
theorem step (h : PQ p q L M M') (hpq : p ≠ q) (h2 : PS p M' M'') : PQ p q L M M'' := by
  obtain ⟨M1, h1, rfl⟩ := h
  obtain ⟨a, b, c, e, h3⟩ := h2
  refine ⟨mupd M1 p (plD a b c), h1.trans ⟨a, b, c, rfl, h3⟩, ?_⟩
  rw [e, mupd_comm (Ne.symm hpq)]
theorem fin (h : PQ p q L M M') (hP : Pool M p) (hq : M q = Option.none) : ∃ M1, PS p M M1 ∧ Sup M1 M' := by
  obtain ⟨M1, h1, rfl⟩ := h
  exact ⟨M1, h1, Sup.new ((h1.none hP).mpr hq)⟩
end PQ
theorem rgDn_inv {lo : Int} {N k : Nat} {d : D} (h : (rgDn lo N)[k]? = some d) : k < N ∧ d = .int (lo - (k : Nat)) := by
  unfold rgDn at h
  have h1 := (List.getElem?_eq_some_iff.mp h).1
  rw [List.length_map, List.length_range] at h1
  rw [List.getElem?_map, List.getElem?_range h1] at h
  cases h; exact ⟨h1, rfl⟩
theorem rgok_nat {n : Nat} (h : n < 1000) : RgOk 0 (n : Nat) := by
  unfold RgOk
  have := big48
  omega
def sp_law_called (C : Addr) : SpD := fun ds M Q => ∃ p n, ds = [.ref p, .int (n : Nat)] ∧ Pool M p ∧ 0 < n ∧ n ≤ 48 ∧ ∀ r M', IsPm n r → ap r 0 = 0 → PS p M M' → Q (.tup (nD r)) M'
theorem hl_law_called (C : Addr) : ∀ ds M Q, sp_law_called C ds M Q → ds.length = 2 := fun _ _ _ ⟨_, _, e, _⟩ => by rw [e]; rfl
theorem ok_law_called (C : Addr) : ∀ ds M Q, sp_law_called C ds M Q → r_law_called (sp_law_take C) (dEnd Q) (dstart N_law_called ds) M := by
  rintro ds M Q ⟨p, n, rfl, hP, h0, hn, h⟩
  unfold r_law_called; simp only [dstart, N_law_called, List.map, List.length, List.replicate, List.append, HAppend.hAppend, Append.append]
  have hbig := big48
  (first | rw [seq_def] | (simp only [gdName, dset]; rw [seq_def])); simp only [dFor_def, lc_def, lc2_def, dSet, dC, dVar, dIfS, dOr, dAnd, dNot, dTest, dTru, dBin, dUn, dCB, f1, f2, dCons, dNil, dRet, dRetN, dLstM, dLstI, dTup, dget, dset, dNext, dDrop, dBreak, dCont, dIf, dAndV, dOrV, dNotV, dChain, dPar, dAug, dAsg, gdName, gdTup, gdCons, gdNil, gdSub, dCall, dBM, dBMX, dSl, dNoPart, dPart, dNever, List.append_nil, dDisp1K, dDisp1T, dLstRg, dLstRgM, dTupRg, dRg1, dRg2, dTimesM, dNewK, dYes, mk_def, dFldSet, dISeq, dIRng1, dIRng2, dIRng3, dIEnum, dIZip, dwipe, dclr, fII, fIIc, fIB, fLt, fLe, fGt, fGe, fAdd, fSub, fMul, fDiv, fMod, fPow, fNeg, f1, f2, dstart, List.map, List.length, List.replicate, decide_eq_true_eq, if_true, if_false, Bool.false_eq_true, Bool.not_true, Bool.not_false, reduceIte]
  refine ⟨rgok_nat (by omega), fun q hq => ?_⟩
  have hpq : p ≠ q := hP.ne hq
  rw [rgD_nat]
  (first | rw [seq_def] | (simp only [gdName, dset]; rw [seq_def])); simp only [dFor_def, lc_def, lc2_def, dSet, dC, dVar, dIfS, dOr, dAnd, dNot, dTest, dTru, dBin, dUn, dCB, f1, f2, dCons, dNil, dRet, dRetN, dLstM, dLstI, dTup, dget, dset, dNext, dDrop, dBreak, dCont, dIf, dAndV, dOrV, dNotV, dChain, dPar, dAug, dAsg, gdName, gdTup, gdCons, gdNil, gdSub, dCall, dBM, dBMX, dSl, dNoPart, dPart, dNever, List.append_nil, dDisp1K, dDisp1T, dLstRg, dLstRgM, dTupRg, dRg1, dRg2, dTimesM, dNewK, dYes, mk_def, dFldSet, dISeq, dIRng1, dIRng2, dIRng3, dIEnum, dIZip, dwipe, dclr, fII, fIIc, fIB, fLt, fLe, fGt, fGe, fAdd, fSub, fMul, fDiv, fMod, fPow, fNeg, f1, f2, dstart, List.map, List.length, List.replicate, decide_eq_true_eq, if_true, if_false, Bool.false_eq_true, Bool.not_true, Bool.not_false, reduceIte]
  have e1 : ((n : Nat) : Int) - 1 = ((n - 1 : Nat) : Int) := by omega
  rw [e1]
  refine ⟨trivial, ⟨by omega, by omega, by omega, by omega⟩, ?_⟩
  refine for_inv (fun k δ M' => ∃ r, PQ p q (nD r) M M' ∧ IsPm n r ∧ ap r 0 = 0 ∧ ∃ x y, δ = [some (.ref p), some (.int (n : Nat)), some (.ref q), x, y]) ⟨_, ⟨M, hP.ps, rfl⟩, pm_range n, ap_range h0, _, _, rfl⟩ (fun k d δ M' Nx hd hI hnx => ?_) (fun δ M' hI => ?_)
  · obtain ⟨r, hM, hr, hr0, _, _, rfl⟩ := hI
    obtain ⟨hk, rfl⟩ := rgDn_inv hd
    refine ⟨trivial, ?_⟩
    have hk2 : 2 ≤ n - 1 - k := by omega
    have e2 : ((n - 1 : Nat) : Int) - (k : Nat) = ((n - 1 - k : Nat) : Int) := by omega
    rw [e2]
    have hk3 : n - 1 - k < n := by omega
    generalize n - 1 - k = pl at hk2 hk3
    (first | rw [seq_def] | (simp only [gdName, dset]; rw [seq_def])); simp only [dFor_def, lc_def, lc2_def, dSet, dC, dVar, dIfS, dOr, dAnd, dNot, dTest, dTru, dBin, dUn, dCB, f1, f2, dCons, dNil, dRet, dRetN, dLstM, dLstI, dTup, dget, dset, dNext, dDrop, dBreak, dCont, dIf, dAndV, dOrV, dNotV, dChain, dPar, dAug, dAsg, gdName, gdTup, gdCons, gdNil, gdSub, dCall, dBM, dBMX, dSl, dNoPart, dPart, dNever, List.append_nil, dDisp1K, dDisp1T, dLstRg, dLstRgM, dTupRg, dRg1, dRg2, dTimesM, dNewK, dYes, mk_def, dFldSet, dISeq, dIRng1, dIRng2, dIRng3, dIEnum, dIZip, dwipe, dclr, fII, fIIc, fIB, fLt, fLe, fGt, fGe, fAdd, fSub, fMul, fDiv, fMod, fPow, fNeg, f1, f2, dstart, List.map, List.length, List.replicate, decide_eq_true_eq, if_true, if_false, Bool.false_eq_true, Bool.not_true, Bool.not_false, reduceIte]
    refine ⟨p, _, rfl, hM.pool hpq, by omega, by omega, fun t M2 ht0 ht1 hps => ?_⟩
    have hM2 := hM.step hpq hps
    obtain ⟨o, rfl⟩ := Int.eq_ofNat_of_zero_le ht0
    have ho : o + 1 < n := by omega
    have hrl := hr.len
    refine plus_int ?_
    rw [show (1 : Int) + (o : Nat) = ((o + 1 : Nat) : Int) by omega]
    refine ix_nD (seq_lst hM2.get) (by omega) ?_
    refine ix_nD (seq_lst hM2.get) (by omega) ?_
    refine ⟨by decide, rfl, ?_⟩
    refine set_nat hM2.get (by rw [nD_len]; omega) ?_
    refine set_nat mupd_same (by rw [List.length_set, nD_len]; omega) ?_
    rw [mupd_mupd, nD_set, nD_set]
    refine hnx _ _ ⟨swp r pl (o + 1), hM2.set, swp_pm hr hk3 ho, ?_, _, _, rfl⟩
    rw [ap_swp (by omega), if_neg (by omega), if_neg (by omega)]
    exact hr0
  · obtain ⟨r, hM, hr, hr0, _, _, rfl⟩ := hI
    refine ⟨trivial, ?_⟩
    (try simp only [dFor_def, lc_def, lc2_def, dSet, dC, dVar, dIfS, dOr, dAnd, dNot, dTest, dTru, dBin, dUn, dCB, f1, f2, dCons, dNil, dRet, dRetN, dLstM, dLstI, dTup, dget, dset, dNext, dDrop, dBreak, dCont, dIf, dAndV, dOrV, dNotV, dChain, dPar, dAug, dAsg, gdName, gdTup, gdCons, gdNil, gdSub, dCall, dBM, dBMX, dSl, dNoPart, dPart, dNever, List.append_nil, dDisp1K, dDisp1T, dLstRg, dLstRgM, dTupRg, dRg1, dRg2, dTimesM, dNewK, dYes, mk_def, dFldSet, dISeq, dIRng1, dIRng2, dIRng3, dIEnum, dIZip, dwipe, dclr, fII, fIIc, fIB, fLt, fLe, fGt, fGe, fAdd, fSub, fMul, fDiv, fMod, fPow, fNeg, f1, f2, dstart, List.map, List.length, List.replicate, decide_eq_true_eq, if_true, if_false, Bool.false_eq_true, Bool.not_true, Bool.not_false, reduceIte])
    obtain ⟨M1, h1, h2⟩ := hM.fin hP hq
    unfold gTupOf
    rw [show lstD M' (.ref q) = some (nD r) by simp [lstD, seqM, hM.get]]
    exact fg_sup (h r M1 hr hr0 h1) h2
end T74
end
section
set_option Elab.async false
set_option linter.all false
set_option maxRecDepth 100000
set_option maxHeartbeats 4000000
namespace T74
open DL PySem PySem.Spec PyProof.Rows L2
theorem succ_inj {k i j : Nat} (hi : i < k) (hj : j < k) (e : (i + 1) % k = (j + 1) % k) : i = j := by
  have h1 : ∀ x, x < k → (x + 1) % k = if x + 1 = k then 0 else x + 1 := fun x hx => by
    split
    · rename_i h; rw [h, Nat.mod_self]
    · exact Nat.mod_eq_of_lt (by omega)
  rw [h1 i hi, h1 j hj] at e
  split at e <;> split at e <;> omega
def sp_law_move (C : Addr) : SpD := fun ds M Q => ∃ p n, ds = [.ref p, .int (n : Nat)] ∧ Pool M p ∧ 0 < n ∧ n ≤ 48 ∧ ∀ r M', IsPm n r → PS p M M' → Q (.tup (nD r)) M'
theorem hl_law_move (C : Addr) : ∀ ds M Q, sp_law_move C ds M Q → ds.length = 2 := fun _ _ _ ⟨_, _, e, _⟩ => by rw [e]; rfl
theorem ok_law_move (C : Addr) : ∀ ds M Q, sp_law_move C ds M Q → r_law_move (sp_law_take C) (dEnd Q) (dstart N_law_move ds) M := by
  rintro ds M Q ⟨p, n, rfl, hP, h0, hn, h⟩
  unfold r_law_move; simp only [dstart, N_law_move, List.map, List.length, List.replicate, List.append, HAppend.hAppend, Append.append]
  have hbig := big48
  (first | rw [seq_def] | (simp only [gdName, dset]; rw [seq_def])); simp only [dFor_def, lc_def, lc2_def, dSet, dC, dVar, dIfS, dOr, dAnd, dNot, dTest, dTru, dBin, dUn, dCB, f1, f2, dCons, dNil, dRet, dRetN, dLstM, dLstI, dTup, dget, dset, dNext, dDrop, dBreak, dCont, dIf, dAndV, dOrV, dNotV, dChain, dPar, dAug, dAsg, gdName, gdTup, gdCons, gdNil, gdSub, dCall, dBM, dBMX, dSl, dNoPart, dPart, dNever, List.append_nil, dDisp1K, dDisp1T, dLstRg, dLstRgM, dTupRg, dRg1, dRg2, dTimesM, dNewK, dYes, mk_def, dFldSet, dISeq, dIRng1, dIRng2, dIRng3, dIEnum, dIZip, dwipe, dclr, fII, fIIc, fIB, fLt, fLe, fGt, fGe, fAdd, fSub, fMul, fDiv, fMod, fPow, fNeg, f1, f2, dstart, List.map, List.length, List.replicate, decide_eq_true_eq, if_true, if_false, Bool.false_eq_true, Bool.not_true, Bool.not_false, reduceIte]
  refine ⟨rgok_nat (by omega), fun q hq => ?_⟩
  have hpq : p ≠ q := hP.ne hq
  rw [rgD_nat]
  have hPQ : PQ p q (nD (List.range n)) M (mupd M q (.lst (nD (List.range n)))) := ⟨M, hP.ps, rfl⟩
  refine ⟨p, _, rfl, hPQ.pool hpq, by decide, by decide, fun t M1 ht0 ht1 hps => ?_⟩
  have hM1 := hPQ.step hpq hps
  refine ⟨by decide, rfl, ?_⟩
  have fin : ∀ r M', PQ p q (nD r) M M' → IsPm n r → gTupOf M' (.ref q) (Forget Q) := fun r M' hM hr => by
    obtain ⟨M2, h1, h2⟩ := hM.fin hP hq
    unfold gTupOf
    rw [show lstD M' (.ref q) = some (nD r) by simp [lstD, seqM, hM.get]]
    exact fg_sup (h r M2 hr h1) h2
  (first | rw [seq_def] | (simp only [gdName, dset]; rw [seq_def])); simp only [dFor_def, lc_def, lc2_def, dSet, dC, dVar, dIfS, dOr, dAnd, dNot, dTest, dTru, dBin, dUn, dCB, f1, f2, dCons, dNil, dRet, dRetN, dLstM, dLstI, dTup, dget, dset, dNext, dDrop, dBreak, dCont, dIf, dAndV, dOrV, dNotV, dChain, dPar, dAug, dAsg, gdName, gdTup, gdCons, gdNil, gdSub, dCall, dBM, dBMX, dSl, dNoPart, dPart, dNever, List.append_nil, dDisp1K, dDisp1T, dLstRg, dLstRgM, dTupRg, dRg1, dRg2, dTimesM, dNewK, dYes, mk_def, dFldSet, dISeq, dIRng1, dIRng2, dIRng3, dIEnum, dIZip, dwipe, dclr, fII, fIIc, fIB, fLt, fLe, fGt, fGe, fAdd, fSub, fMul, fDiv, fMod, fPow, fNeg, f1, f2, dstart, List.map, List.length, List.replicate, decide_eq_true_eq, if_true, if_false, Bool.false_eq_true, Bool.not_true, Bool.not_false, reduceIte]
  refine eq_int ?_
  dsimp only
  split
  · exact fin _ _ hM1 (pm_range n)
  refine eq_int ?_
  dsimp only
  split
  · exact fin _ _ hM1 (pm_range n)
  (first | rw [seq_def] | (simp only [gdName, dset]; rw [seq_def])); simp only [dFor_def, lc_def, lc2_def, dSet, dC, dVar, dIfS, dOr, dAnd, dNot, dTest, dTru, dBin, dUn, dCB, f1, f2, dCons, dNil, dRet, dRetN, dLstM, dLstI, dTup, dget, dset, dNext, dDrop, dBreak, dCont, dIf, dAndV, dOrV, dNotV, dChain, dPar, dAug, dAsg, gdName, gdTup, gdCons, gdNil, gdSub, dCall, dBM, dBMX, dSl, dNoPart, dPart, dNever, List.append_nil, dDisp1K, dDisp1T, dLstRg, dLstRgM, dTupRg, dRg1, dRg2, dTimesM, dNewK, dYes, mk_def, dFldSet, dISeq, dIRng1, dIRng2, dIRng3, dIEnum, dIZip, dwipe, dclr, fII, fIIc, fIB, fLt, fLe, fGt, fGe, fAdd, fSub, fMul, fDiv, fMod, fPow, fNeg, f1, f2, dstart, List.map, List.length, List.replicate, decide_eq_true_eq, if_true, if_false, Bool.false_eq_true, Bool.not_true, Bool.not_false, reduceIte]
  split
  · (first | rw [seq_def] | (simp only [gdName, dset]; rw [seq_def])); simp only [dFor_def, lc_def, lc2_def, dSet, dC, dVar, dIfS, dOr, dAnd, dNot, dTest, dTru, dBin, dUn, dCB, f1, f2, dCons, dNil, dRet, dRetN, dLstM, dLstI, dTup, dget, dset, dNext, dDrop, dBreak, dCont, dIf, dAndV, dOrV, dNotV, dChain, dPar, dAug, dAsg, gdName, gdTup, gdCons, gdNil, gdSub, dCall, dBM, dBMX, dSl, dNoPart, dPart, dNever, List.append_nil, dDisp1K, dDisp1T, dLstRg, dLstRgM, dTupRg, dRg1, dRg2, dTimesM, dNewK, dYes, mk_def, dFldSet, dISeq, dIRng1, dIRng2, dIRng3, dIEnum, dIZip, dwipe, dclr, fII, fIIc, fIB, fLt, fLe, fGt, fGe, fAdd, fSub, fMul, fDiv, fMod, fPow, fNeg, f1, f2, dstart, List.map, List.length, List.replicate, decide_eq_true_eq, if_true, if_false, Bool.false_eq_true, Bool.not_true, Bool.not_false, reduceIte]
    refine ⟨p, _, rfl, hM1.pool hpq, by omega, by omega, fun u M2 hu0 hu1 hps2 => ?_⟩
    have hM2 := hM1.step hpq hps2
    refine ⟨p, _, rfl, hM2.pool hpq, by omega, by omega, fun v M3 hv0 hv1 hps3 => ?_⟩
    have hM3 := hM2.step hpq hps3
    obtain ⟨u, rfl⟩ := Int.eq_ofNat_of_zero_le hu0
    obtain ⟨v, rfl⟩ := Int.eq_ofNat_of_zero_le hv0
    (first | rw [seq_def] | (simp only [gdName, dset]; rw [seq_def])); simp only [dFor_def, lc_def, lc2_def, dSet, dC, dVar, dIfS, dOr, dAnd, dNot, dTest, dTru, dBin, dUn, dCB, f1, f2, dCons, dNil, dRet, dRetN, dLstM, dLstI, dTup, dget, dset, dNext, dDrop, dBreak, dCont, dIf, dAndV, dOrV, dNotV, dChain, dPar, dAug, dAsg, gdName, gdTup, gdCons, gdNil, gdSub, dCall, dBM, dBMX, dSl, dNoPart, dPart, dNever, List.append_nil, dDisp1K, dDisp1T, dLstRg, dLstRgM, dTupRg, dRg1, dRg2, dTimesM, dNewK, dYes, mk_def, dFldSet, dISeq, dIRng1, dIRng2, dIRng3, dIEnum, dIZip, dwipe, dclr, fII, fIIc, fIB, fLt, fLe, fGt, fGe, fAdd, fSub, fMul, fDiv, fMod, fPow, fNeg, f1, f2, dstart, List.map, List.length, List.replicate, decide_eq_true_eq, if_true, if_false, Bool.false_eq_true, Bool.not_true, Bool.not_false, reduceIte]
    refine ix_nD (seq_lst hM3.get) (by rw [List.length_range]; omega) ?_
    refine ix_nD (seq_lst hM3.get) (by rw [List.length_range]; omega) ?_
    refine ⟨by decide, rfl, ?_⟩
    refine set_nat hM3.get (by rw [nD_len, List.length_range]; omega) ?_
    refine set_nat mupd_same (by rw [List.length_set, nD_len, List.length_range]; omega) ?_
    rw [mupd_mupd, nD_set, nD_set]
    exact fin _ _ hM3.set (swp_pm (pm_range n) (a := u) (b := v) (by omega) (by omega))
  · (first | rw [seq_def] | (simp only [gdName, dset]; rw [seq_def])); simp only [dFor_def, lc_def, lc2_def, dSet, dC, dVar, dIfS, dOr, dAnd, dNot, dTest, dTru, dBin, dUn, dCB, f1, f2, dCons, dNil, dRet, dRetN, dLstM, dLstI, dTup, dget, dset, dNext, dDrop, dBreak, dCont, dIf, dAndV, dOrV, dNotV, dChain, dPar, dAug, dAsg, gdName, gdTup, gdCons, gdNil, gdSub, dCall, dBM, dBMX, dSl, dNoPart, dPart, dNever, List.append_nil, dDisp1K, dDisp1T, dLstRg, dLstRgM, dTupRg, dRg1, dRg2, dTimesM, dNewK, dYes, mk_def, dFldSet, dISeq, dIRng1, dIRng2, dIRng3, dIEnum, dIZip, dwipe, dclr, fII, fIIc, fIB, fLt, fLe, fGt, fGe, fAdd, fSub, fMul, fDiv, fMod, fPow, fNeg, f1, f2, dstart, List.map, List.length, List.replicate, decide_eq_true_eq, if_true, if_false, Bool.false_eq_true, Bool.not_true, Bool.not_false, reduceIte]
    have e1 : ((n : Nat) : Int) - 1 = ((n - 1 : Nat) : Int) := by omega
    rw [e1]
    refine ⟨trivial, ⟨by omega, by omega, by omega, by omega⟩, ?_⟩
    refine for_inv (fun k δ M' => ∃ r, PQ p q (nD r) M M' ∧ IsPm n r ∧ ∃ x y z u, δ = [some (.ref p), some (.int (n : Nat)), x, some (.ref q), some (.int t), y, z, u]) ⟨_, hM1, pm_range n, _, _, _, _, rfl⟩ (fun k d δ M' Nx hd hI hnx => ?_) (fun δ M' hI => ?_)
    · obtain ⟨r, hM, hr, _, _, _, _, rfl⟩ := hI
      obtain ⟨hk, rfl⟩ := rgDn_inv hd
      refine ⟨trivial, ?_⟩
      have e2 : ((n - 1 : Nat) : Int) - (k : Nat) = ((n - 1 - k : Nat) : Int) := by omega
      rw [e2]
      have hk3 : n - 1 - k < n := by omega
      generalize n - 1 - k = pl at hk3
      (first | rw [seq_def] | (simp only [gdName, dset]; rw [seq_def])); simp only [dFor_def, lc_def, lc2_def, dSet, dC, dVar, dIfS, dOr, dAnd, dNot, dTest, dTru, dBin, dUn, dCB, f1, f2, dCons, dNil, dRet, dRetN, dLstM, dLstI, dTup, dget, dset, dNext, dDrop, dBreak, dCont, dIf, dAndV, dOrV, dNotV, dChain, dPar, dAug, dAsg, gdName, gdTup, gdCons, gdNil, gdSub, dCall, dBM, dBMX, dSl, dNoPart, dPart, dNever, List.append_nil, dDisp1K, dDisp1T, dLstRg, dLstRgM, dTupRg, dRg1, dRg2, dTimesM, dNewK, dYes, mk_def, dFldSet, dISeq, dIRng1, dIRng2, dIRng3, dIEnum, dIZip, dwipe, dclr, fII, fIIc, fIB, fLt, fLe, fGt, fGe, fAdd, fSub, fMul, fDiv, fMod, fPow, fNeg, f1, f2, dstart, List.map, List.length, List.replicate, decide_eq_true_eq, if_true, if_false, Bool.false_eq_true, Bool.not_true, Bool.not_false, reduceIte]
      refine plus_int ?_
      refine ⟨p, _, rfl, hM.pool hpq, by omega, by omega, fun t M2 ht0 ht1 hps => ?_⟩
      have hM2 := hM.step hpq hps
      obtain ⟨o, rfl⟩ := Int.eq_ofNat_of_zero_le ht0
      have hrl := hr.len
      refine ix_nD (seq_lst hM2.get) (i := o) (by omega) ?_
      refine ix_nD (seq_lst hM2.get) (by omega) ?_
      refine ⟨by decide, rfl, ?_⟩
      refine set_nat hM2.get (by rw [nD_len]; omega) ?_
      refine set_nat (k := o) mupd_same (by rw [List.length_set, nD_len]; omega) ?_
      rw [mupd_mupd, nD_set, nD_set]
      exact hnx _ _ ⟨swp r pl o, hM2.set, swp_pm hr hk3 (by omega), _, _, _, _, rfl⟩
    · obtain ⟨r, hM, hr, _, _, _, _, rfl⟩ := hI
      refine ⟨trivial, ?_⟩
      (first | rw [seq_def] | (simp only [gdName, dset]; rw [seq_def])); simp only [dFor_def, lc_def, lc2_def, dSet, dC, dVar, dIfS, dOr, dAnd, dNot, dTest, dTru, dBin, dUn, dCB, f1, f2, dCons, dNil, dRet, dRetN, dLstM, dLstI, dTup, dget, dset, dNext, dDrop, dBreak, dCont, dIf, dAndV, dOrV, dNotV, dChain, dPar, dAug, dAsg, gdName, gdTup, gdCons, gdNil, gdSub, dCall, dBM, dBMX, dSl, dNoPart, dPart, dNever, List.append_nil, dDisp1K, dDisp1T, dLstRg, dLstRgM, dTupRg, dRg1, dRg2, dTimesM, dNewK, dYes, mk_def, dFldSet, dISeq, dIRng1, dIRng2, dIRng3, dIEnum, dIZip, dwipe, dclr, fII, fIIc, fIB, fLt, fLe, fGt, fGe, fAdd, fSub, fMul, fDiv, fMod, fPow, fNeg, f1, f2, dstart, List.map, List.length, List.replicate, decide_eq_true_eq, if_true, if_false, Bool.false_eq_true, Bool.not_true, Bool.not_false, reduceIte]
      refine eq_int ?_
      dsimp only
      split
      · (try simp only [dFor_def, lc_def, lc2_def, dSet, dC, dVar, dIfS, dOr, dAnd, dNot, dTest, dTru, dBin, dUn, dCB, f1, f2, dCons, dNil, dRet, dRetN, dLstM, dLstI, dTup, dget, dset, dNext, dDrop, dBreak, dCont, dIf, dAndV, dOrV, dNotV, dChain, dPar, dAug, dAsg, gdName, gdTup, gdCons, gdNil, gdSub, dCall, dBM, dBMX, dSl, dNoPart, dPart, dNever, List.append_nil, dDisp1K, dDisp1T, dLstRg, dLstRgM, dTupRg, dRg1, dRg2, dTimesM, dNewK, dYes, mk_def, dFldSet, dISeq, dIRng1, dIRng2, dIRng3, dIEnum, dIZip, dwipe, dclr, fII, fIIc, fIB, fLt, fLe, fGt, fGe, fAdd, fSub, fMul, fDiv, fMod, fPow, fNeg, f1, f2, dstart, List.map, List.length, List.replicate, decide_eq_true_eq, if_true, if_false, Bool.false_eq_true, Bool.not_true, Bool.not_false, reduceIte])
        refine ⟨by omega, by omega, ?_⟩
        have hrl := hr.len
        have hinv : ∀ i, ∃ j, i < n → j < n ∧ ap r j = i := fun i => by
          by_cases hi : i < n
          · obtain ⟨j, h1, h2⟩ := hr.onto hi
            exact ⟨j, fun _ => ⟨h1, h2⟩⟩
          · exact ⟨0, fun z => absurd z hi⟩
        have hsel : ∃ f : Nat → Nat, ∀ i, i < n → f i < n ∧ ap r (f i) = i := ⟨fun i => Classical.choose (hinv i), fun i => Classical.choose_spec (hinv i)⟩
        obtain ⟨f, hf⟩ := hsel
        refine lc_map (fun i => .int (ap r ((f i + 1) % n) : Nat)) trivial (by rw [rng_len]; omega) (fun i d Nx hd hnx => ?_) ?_
        · obtain ⟨hi, rfl⟩ := rng_inv hd
          (try simp only [dFor_def, lc_def, lc2_def, dSet, dC, dVar, dIfS, dOr, dAnd, dNot, dTest, dTru, dBin, dUn, dCB, f1, f2, dCons, dNil, dRet, dRetN, dLstM, dLstI, dTup, dget, dset, dNext, dDrop, dBreak, dCont, dIf, dAndV, dOrV, dNotV, dChain, dPar, dAug, dAsg, gdName, gdTup, gdCons, gdNil, gdSub, dCall, dBM, dBMX, dSl, dNoPart, dPart, dNever, List.append_nil, dDisp1K, dDisp1T, dLstRg, dLstRgM, dTupRg, dRg1, dRg2, dTimesM, dNewK, dYes, mk_def, dFldSet, dISeq, dIRng1, dIRng2, dIRng3, dIEnum, dIZip, dwipe, dclr, fII, fIIc, fIB, fLt, fLe, fGt, fGe, fAdd, fSub, fMul, fDiv, fMod, fPow, fNeg, f1, f2, dstart, List.map, List.length, List.replicate, decide_eq_true_eq, if_true, if_false, Bool.false_eq_true, Bool.not_true, Bool.not_false, reduceIte])
          refine ⟨ty_lst hM.get, ?_⟩
          unfold mLstIdx
          dsimp only
          have hix : idxOf (i : Nat) (natsI r) = some (f i) := by
            obtain ⟨f1, f2⟩ := hf i hi
            refine idxOf_first ?_ fun k hk => ?_
            · unfold natsI; rw [List.getElem?_map, List.getElem?_eq_getElem (by omega)]
              rw [ap_eq (by omega)] at f2
              rw [f2]; rfl
            · unfold natsI; rw [List.getElem?_map, List.getElem?_eq_getElem (by omega)]
              intro z
              simp at z
              rw [← ap_eq (by omega)] at z
              have := hr.inj (i := k) (j := f i) (by omega) f1 (by omega)
              omega
          rw [show ((lstD M' (.ref q)).bind intsD).bind (idxOf (i : Nat)) = some (f i) by
            rw [show lstD M' (.ref q) = some (nD r) by simp [lstD, seqM, hM.get]]
            show (intsD (nD r)).bind _ = _
            unfold nD
            rw [intsD_map]
            exact hix]
          refine plus_int ?_
          refine ⟨by omega, ?_⟩
          have := Nat.mod_lt (f i + 1) h0
          refine ix_nD (i := (f i + 1) % n) (seq_lst hM.get) (by omega) hnx
        · obtain ⟨M2, h1, h2⟩ := hM.fin hP hq
          rw [rng_len]
          have hpm : IsPm n ((List.range n).map fun i => ap r ((f i + 1) % n)) := by
            have hm : ∀ x, x % n < n := fun x => Nat.mod_lt _ h0
            refine isPm_of (by rw [List.length_map, List.length_range]) (fun i hi => ?_) (fun i j hi hj e => ?_)
            · rw [ap_mapr hi]; exact hr.at_lt (hm _)
            · rw [ap_mapr hi, ap_mapr hj] at e
              have e3 := succ_inj (hf i hi).1 (hf j hj).1 (hr.inj (hm _) (hm _) e)
              rw [← (hf i hi).2, ← (hf j hj).2, e3]
          have := h _ M2 hpm h1
          rw [nD_map] at this
          exact fg_sup this h2
      · exact fin _ _ hM hr
end T74
end
section
set_option Elab.async false
set_option linter.all false
set_option maxHeartbeats 1000000
namespace T74
open DL PySem PySem.Spec PyProof.Rows L2
/-! ### order of rows -/
theorem natsI_inj {x y : List Nat} (h : natsI x = natsI y) : x = y := by
  have h1 : x.length = y.length := by rw [← natsI_len (l := x), h, natsI_len]
  refine List.ext_getElem h1 fun i h2 h3 => ?_
  have h4 : (natsI x)[i]? = (natsI y)[i]? := by rw [h]
  unfold natsI at h4
  rw [List.getElem?_map, List.getElem?_map, List.getElem?_eq_getElem h2, List.getElem?_eq_getElem h3] at h4
  exact Int.ofNat.inj (Option.some.inj h4)
theorem bd_nats {x : List Nat} {n : Nat} (h : ∀ k ∈ x, k < n) : TS.Bd (n : Nat) (natsI x) := by
  intro m hm
  obtain ⟨k, hk, rfl⟩ := List.mem_map.mp hm
  have := h k hk
  omega
theorem code_first {n : Nat} : ∀ (i : Nat) (x y : List Nat), x.length = y.length → (∀ k ∈ x, k < n) → (∀ k ∈ y, k < n) → i < x.length → ap x i < ap y i → (∀ j, j < i → ap x j = ap y j) → TS.code (n : Nat) (natsI x) < TS.code (n : Nat) (natsI y)
  | _, [], _, _, _, _, h, _, _ => absurd h (Nat.not_lt_zero _)
  | _, _ :: _, [], h, _, _, _, _, _ => by simp at h
  | 0, a :: x, b :: y, hl, h1, h2, hi, h, _ => by
    simp at hl
    have hab : a < b := by simpa [ap] using h
    have hl2 : (natsI x).length = (natsI y).length := by rw [natsI_len, natsI_len, hl]
    exact TS.code_lt (d := (a : Int)) (e := (b : Int)) (r := natsI x) (q := natsI y) hl2 (bd_nats fun k hk => h1 k (List.mem_cons_of_mem _ hk)) (bd_nats fun k hk => h2 k (List.mem_cons_of_mem _ hk)) (by omega)
  | i + 1, a :: x, b :: y, hl, h1, h2, hi, h, h3 => by
    simp at hl
    have hab : a = b := by simpa [ap] using h3 0 (by omega)
    subst hab
    have hl2 : (natsI x).length = (natsI y).length := by rw [natsI_len, natsI_len, hl]
    refine (TS.code_same (d := (a : Int)) (r := natsI x) (q := natsI y) hl2).mpr ?_
    refine code_first i x y hl (fun k hk => h1 k (List.mem_cons_of_mem _ hk)) (fun k hk => h2 k (List.mem_cons_of_mem _ hk)) (by simpa using hi) (by simpa [ap] using h) fun j hj => ?_
    have := h3 (j + 1) (by omega)
    simpa [ap] using this
theorem first_diff {x y : List Nat} (hl : x.length = y.length) (h : x ≠ y) : ∃ i, i < x.length ∧ ap x i ≠ ap y i ∧ ∀ j, j < i → ap x j = ap y j := by
  have : ∃ i, i < x.length ∧ ap x i ≠ ap y i := by
    apply Classical.byContradiction
    intro c
    refine h (ap_ext hl fun i hi => ?_)
    apply Classical.byContradiction
    intro d
    exact c ⟨i, hi, d⟩
  obtain ⟨i, ⟨h1, h2⟩, h3⟩ := least this
  refine ⟨i, h1, h2, fun j hj => ?_⟩
  apply Classical.byContradiction
  intro d
  exact h3 j hj ⟨by omega, d⟩
theorem code_inj {n : Nat} {x y : List Nat} (hl : x.length = y.length) (h1 : ∀ k ∈ x, k < n) (h2 : ∀ k ∈ y, k < n) (e : TS.code (n : Nat) (natsI x) = TS.code (n : Nat) (natsI y)) : x = y := by
  apply Classical.byContradiction
  intro h
  obtain ⟨i, hi, hd, hs⟩ := first_diff hl h
  rcases Nat.lt_or_gt_of_ne hd with c | c
  · have := code_first i x y hl h1 h2 hi c hs; omega
  · have := code_first i y x hl.symm h2 h1 (by omega) c fun j hj => (hs j hj).symm; omega
theorem id_least {p : Nat} {x : List Nat} (h : IsPm p x) : TS.code (p : Nat) (natsI (List.range p)) ≤ TS.code (p : Nat) (natsI x) := by
  by_cases e : List.range p = x
  · rw [e]; exact Int.le_refl _
  · obtain ⟨i, hi, hd, hs⟩ := first_diff (by rw [List.length_range, h.len]) e
    rw [List.length_range] at hi
    refine Int.le_of_lt (code_first i _ _ (by rw [List.length_range, h.len]) (fun k hk => List.mem_range.mp hk) h.lt (by rw [List.length_range]; exact hi) ?_ hs)
    rw [ap_range hi] at hd ⊢
    apply Classical.byContradiction
    intro c
    have c2 : ap x i < i := by omega
    have := hs _ c2
    rw [ap_range (by omega)] at this
    have := h.inj hi (by omega) this
    omega
/-! ### dicts -/
def keyN (l : List Nat) : List Key := (natsI l).map fun i => (Sum.inl i : Key)
theorem keyN_inj {x y : List Nat} (h : keyN x = keyN y) : x = y := natsI_inj ((List.map_inj_right fun (_ _ : Int) e => Sum.inl.inj e).mp h)
theorem keysD_ints : ∀ ns : List Int, keysD (ns.map D.int) = some (ns.map Sum.inl)
  | [] => rfl
  | n :: ns => by
    rw [List.map_cons, List.map_cons]
    unfold keysD
    rw [keysD_ints ns]; rfl
theorem keyN_tup (l : List Nat) : (tupK (.tup (nD l))).bind keysD = some (keyN l) := keysD_ints _
section
variable {κ α : Type} [DecidableEq κ]
theorem putA_new {kvs : List (κ × D)} {k : κ} {v : D} (h : ∀ kv ∈ kvs, kv.1 ≠ k) : putA kvs k v = kvs ++ [(k, v)] := by
  unfold putA
  rw [if_neg]
  intro c
  obtain ⟨kv, h1, h2⟩ := List.any_eq_true.mp c
  exact h kv h1 (of_decide_eq_true h2)
theorem valA_none {kvs : List (κ × D)} {k : κ} (h : ∀ kv ∈ kvs, kv.1 ≠ k) : valA kvs k = none := by
  unfold valA
  rw [List.find?_eq_none.mpr fun kv hkv => by simpa using h kv hkv]
  rfl
theorem valA_map {L : List α} {f : α → κ} {g : α → D} {a : α} (hf : ∀ x ∈ L, f x = f a → x = a) (ha : a ∈ L) : valA (L.map fun x => (f x, g x)) (f a) = some (g a) := by
  induction L with
  | nil => cases ha
  | cons x L ih =>
    unfold valA
    rw [List.map_cons, List.find?_cons]
    by_cases e : f x = f a
    · have := hf x List.mem_cons_self e
      subst this
      simp
    · simp only [e, decide_false]
      rcases List.mem_cons.mp ha with z | z
      · subst z; exact absurd rfl e
      · exact ih (fun y hy => hf y (List.mem_cons_of_mem _ hy)) z
theorem mrgD_new : ∀ (more kvs : List (κ × D)), ((kvs ++ more).map (·.1)).Nodup → mrgD more kvs = kvs ++ more
  | [], kvs, _ => by rw [List.append_nil]; rfl
  | (k, v) :: more, kvs, h => by
    show mrgD more (putA kvs k v) = _
    rw [putA_new fun kv hkv e => ?_, mrgD_new more (kvs ++ [(k, v)]) (by rw [List.append_assoc]; exact h), List.append_assoc]
    · rfl
    · rw [List.map_append, List.map_cons, List.nodup_append] at h
      exact h.2.2 kv.1 (List.mem_map.mpr ⟨kv, hkv, rfl⟩) k List.mem_cons_self e
end
/-! ### members closed under composition -/
structure GoodMem (p : Nat) (mem : List (List Nat)) : Prop where
  pm : ∀ x ∈ mem, IsPm p x
  nd : mem.Nodup
  id0 : mem[0]? = some (List.range p)
  cl : ∀ x ∈ mem, ∀ y ∈ mem, comp x y ∈ mem
abbrev am (mem : List (List Nat)) (i : Nat) : List Nat := mem.getD i []
def memT (mem : List (List Nat)) : N2 := fun i j => mem.idxOf (comp (am mem i) (am mem j))
theorem am_mem {mem : List (List Nat)} {i : Nat} (h : i < mem.length) : am mem i ∈ mem := by
  simp [am, List.getD, List.getElem?_eq_getElem h]
theorem am_at {mem : List (List Nat)} {i : Nat} (h : i < mem.length) : mem[i]? = some (am mem i) := by
  simp [am, List.getD, List.getElem?_eq_getElem h]
theorem am_idx {mem : List (List Nat)} {x : List Nat} (h : x ∈ mem) : am mem (mem.idxOf x) = x := by
  have := List.idxOf_lt_length_iff.mpr h
  simp [am, List.getD, List.getElem?_eq_getElem this]
theorem idx_am {mem : List (List Nat)} (nd : mem.Nodup) {i : Nat} (h : i < mem.length) : mem.idxOf (am mem i) = i := by
  have h2 := List.idxOf_lt_length_iff.mpr (am_mem h)
  have e : mem[mem.idxOf (am mem i)] = mem[i] := by
    have := am_idx (am_mem h)
    simp [am, List.getD, List.getElem?_eq_getElem h, List.getElem?_eq_getElem h2] at this ⊢
  have pw := List.pairwise_iff_getElem.mp (List.nodup_iff_pairwise_ne.mp nd)
  rcases Nat.lt_trichotomy (mem.idxOf (am mem i)) i with c | c | c
  · exact absurd e (pw _ _ h2 h c)
  · exact c
  · exact absurd e.symm (pw _ _ h h2 c)
theorem mem_grp {p : Nat} {mem : List (List Nat)} (G : GoodMem p mem) : IsGrp mem.length (memT mem) := by
  have hpos : 0 < mem.length := by
    obtain ⟨h, _⟩ := List.getElem?_eq_some_iff.mp G.id0
    exact h
  have h0 : am mem 0 = List.range p := by simp [am, List.getD, G.id0]
  have cl : ∀ i j, i < mem.length → j < mem.length → comp (am mem i) (am mem j) ∈ mem := fun i j hi hj => G.cl _ (am_mem hi) _ (am_mem hj)
  have lt : ∀ i j, i < mem.length → j < mem.length → memT mem i j < mem.length := fun i j hi hj => List.idxOf_lt_length_iff.mpr (cl i j hi hj)
  have am2 : ∀ i j, i < mem.length → j < mem.length → am mem (memT mem i j) = comp (am mem i) (am mem j) := fun i j hi hj => am_idx (cl i j hi hj)
  have pm : ∀ i, i < mem.length → IsPm p (am mem i) := fun i hi => G.pm _ (am_mem hi)
  refine ⟨hpos, lt, fun i hi => ?_, fun i hi => ?_, fun i j k hi hj hk => ?_, fun i hi => ?_⟩
  · unfold memT; rw [h0, comp_idL (pm i hi), idx_am G.nd hi]
  · unfold memT; rw [h0, comp_idR (pm i hi), idx_am G.nd hi]
  · show mem.idxOf (comp (am mem (memT mem i j)) (am mem k)) = mem.idxOf (comp (am mem i) (am mem (memT mem j k)))
    rw [am2 i j hi hj, am2 j k hj hk, comp_ass (pm i hi) (pm j hj)]
  · refine inj_onto (fun j hj => lt i j hi hj) (fun j k hj hk e => ?_) 0 hpos
    have e2 : comp (am mem i) (am mem j) = comp (am mem i) (am mem k) := by rw [← am2 i j hi hj, ← am2 i k hi hk, e]
    have := comp_inj (pm i hi) (pm j hj) (pm k hk) e2
    rw [← idx_am G.nd hj, ← idx_am G.nd hk, this]
/-- what moves reach -/
inductive Rch (p : Nat) (mv : List (List Nat)) : List Nat → Prop
  | one : Rch p mv (List.range p)
  | more {x y : List Nat} : Rch p mv x → y ∈ mv → Rch p mv (comp x y)
theorem Rch.pm {p : Nat} {mv : List (List Nat)} (hmv : ∀ y ∈ mv, IsPm p y) {x : List Nat} (h : Rch p mv x) : IsPm p x := by
  induction h with
  | one => exact pm_range p
  | more _ hy ih => exact comp_pm ih (hmv _ hy)
theorem rch_closed {p : Nat} {mv ks : List (List Nat)} (hmv : ∀ y ∈ mv, IsPm p y) (h1 : ∀ x ∈ ks, Rch p mv x) (h2 : ∀ x ∈ ks, ∀ y ∈ mv, comp x y ∈ ks) : ∀ x ∈ ks, ∀ y ∈ ks, comp x y ∈ ks := by
  intro x hx y hy
  have hy2 := h1 y hy
  clear hy
  induction hy2 with
  | one => rw [comp_idR ((h1 x hx).pm hmv)]; exact hx
  | more h hm ih =>
    rw [← comp_ass ((h1 x hx).pm hmv) (h.pm hmv)]
    exact h2 _ ih _ hm
/-- a sorted list of such members -/
theorem good_sorted {p : Nat} {mv ks mem : List (List Nat)} (hmv : ∀ y ∈ mv, IsPm p y) (h1 : ∀ x ∈ ks, Rch p mv x) (h2 : ∀ x ∈ ks, ∀ y ∈ mv, comp x y ∈ ks) (nd : ks.Nodup) (h0 : List.range p ∈ ks) (pe : mem.Perm ks)
    (so : mem.Pairwise fun x y => TS.code (p : Nat) (natsI x) ≤ TS.code (p : Nat) (natsI y)) : GoodMem p mem := by
  have pm : ∀ x ∈ mem, IsPm p x := fun x hx => (h1 x (pe.mem_iff.mp hx)).pm hmv
  refine ⟨pm, pe.nodup_iff.mpr nd, ?_, fun x hx y hy => pe.mem_iff.mpr (rch_closed hmv h1 h2 x (pe.mem_iff.mp hx) y (pe.mem_iff.mp hy))⟩
  have hm := pe.mem_iff.mpr h0
  cases mem with
  | nil => cases hm
  | cons a r =>
    rw [List.pairwise_cons] at so
    have ha := pm a List.mem_cons_self
    rcases List.mem_cons.mp hm with e | e
    · rw [e]; rfl
    · have := so.1 _ e
      have e2 := id_least ha
      have := code_inj (n := p) (by rw [ha.len, List.length_range]) ha.lt (fun k hk => List.mem_range.mp hk) (Int.le_antisymm this e2)
      rw [this]; rfl
end T74
end
section
set_option Elab.async false
set_option linter.all false
set_option maxRecDepth 100000
set_option maxHeartbeats 4000000
namespace T74
open DL PySem PySem.Spec PyProof.Rows L2
/-- a set of rows kept in a dict -/
def kvT (ks : List (List Nat)) : List (List Key × D) := ks.map fun r => (keyN r, .bl true)
theorem kvT_len {ks : List (List Nat)} : (kvT ks).length = ks.length := List.length_map _
theorem kvT_has {ks : List (List Nat)} {r : List Nat} : (valA (kvT ks) (keyN r)).isSome = decide (r ∈ ks) := by
  by_cases h : r ∈ ks
  · unfold kvT
    rw [valA_map (f := keyN) (g := fun _ => D.bl true) (fun x _ e => keyN_inj e) h, decide_eq_true h]; rfl
  · rw [valA_none, decide_eq_false h]; rfl
    intro kv hkv e
    obtain ⟨x, hx, rfl⟩ := List.mem_map.mp hkv
    exact h (keyN_inj e ▸ hx)
theorem kvT_put {ks : List (List Nat)} {r : List Nat} (h : r ∉ ks) : putA (kvT ks) (keyN r) (.bl true) = kvT (ks ++ [r]) := by
  rw [putA_new]
  · unfold kvT; rw [List.map_append]; rfl
  · intro kv hkv e
    obtain ⟨x, hx, rfl⟩ := List.mem_map.mp hkv
    exact h (keyN_inj e ▸ hx)
def permD (r : List Nat) : D := .tup (nD r)
theorem keyss_kvT (ks : List (List Nat)) : keyss (kvT ks) = some (ks.map natsI) := by
  unfold keyss kvT
  rw [List.map_map]
  exact optAll_map fun r _ => kInts_map _
theorem plainDs_all : ∀ {ds : List D}, (∀ d ∈ ds, plainD d = true) → plainDs ds = true
  | [], _ => by simp [plainDs]
  | d :: ds, h => by
    simp only [plainDs, Bool.and_eq_true]
    exact ⟨h d List.mem_cons_self, plainDs_all fun e he => h e (List.mem_cons_of_mem _ he)⟩
theorem depDs_le {k : Nat} : ∀ {ds : List D}, (∀ d ∈ ds, depD d ≤ k) → depDs ds ≤ k
  | [], _ => by simp [depDs]
  | d :: ds, h => by
    simp only [depDs]
    have := h d List.mem_cons_self
    have := depDs_le fun e he => h e (List.mem_cons_of_mem _ he)
    omega
theorem plain_nD (r : List Nat) : plainDs (nD r) = true := plain_ints _
theorem dep_nD (r : List Nat) : depDs (nD r) = 0 := dep_ints _
/-- waiting != [] -/
theorem ne_nil {M : Mem} {q : Addr} {ds : List D} {Q : D → Prop} (hM : M q = some (.lst ds)) (h1 : ∀ d ∈ ds, plainD d = true) (h2 : ∀ d ∈ ds, depD d ≤ 63) (q1 : Q (.bl (!decide (ds.length = 0)))) : fEq true M (.ref q) (.lst []) Q := by
  have hv : valD M (.ref q) = .lst ds := by unfold valD valM; dsimp only; rw [hM]
  refine ne_val (b := decide (ds.length = 0)) ?_ ?_ (fun c => by simp) ?_ q1
  · rw [hv]
    refine ⟨by simp only [plainD]; exact plainDs_all h1, ?_⟩
    have := depDs_le h2
    simp only [depD]; omega
  · exact ⟨by simp [valD, plainD, plainDs], by simp [valD, depD, depDs]⟩
  · rw [hv]
    show _ ↔ nrm (.lst ds) = nrm (.lst [])
    cases ds with
    | nil => simp
    | cons d ds => simp [nrm, nrms]
def sp_law_members (C : Addr) : SpD := fun ds M Q => ∃ (n : Nat) (mvs : List (List Nat)) (l : Nat), ds = [.int (n : Nat), .lst (mvs.map permD), .int (l : Nat)] ∧ 0 < n ∧ n ≤ 48 ∧ (∀ y ∈ mvs, IsPm n y) ∧ mvs.length ≤ 48 ∧ 0 < l ∧ l ≤ 48 ∧ (mvs ≠ [] → Q .non M) ∧
  ∀ mem, GoodMem n mem → mem.length ≤ l → Q (.lst (mem.map permD)) M
theorem hl_law_members (C : Addr) : ∀ ds M Q, sp_law_members C ds M Q → ds.length = 3 := fun _ _ _ ⟨_, _, _, e, _⟩ => by rw [e]; rfl
theorem ok_law_members (C : Addr) : ∀ ds M Q, sp_law_members C ds M Q → r_law_members (sp_law_then C) (dEnd Q) (dstart N_law_members ds) M := by
  rintro ds M Q ⟨n, mvs, l, rfl, h0, hn, hmv, hml, hl0, hl, hNon, h⟩
  unfold r_law_members; simp only [dstart, N_law_members, List.map, List.length, List.replicate, List.append, HAppend.hAppend, Append.append]
  have hbig := big48
  (first | rw [seq_def] | (simp only [gdName, dset]; rw [seq_def])); simp only [dFor_def, lc_def, lc2_def, dSet, dC, dVar, dIfS, dOr, dAnd, dNot, dTest, dTru, dBin, dUn, dCB, f1, f2, dCons, dNil, dRet, dRetN, dLstM, dLstI, dTup, dget, dset, dNext, dDrop, dBreak, dCont, dIf, dAndV, dOrV, dNotV, dChain, dPar, dAug, dAsg, gdName, gdTup, gdCons, gdNil, gdSub, dCall, dBM, dBMX, dSl, dNoPart, dPart, dNever, List.append_nil, dDisp1K, dDisp1T, dLstRg, dLstRgM, dTupRg, dRg1, dRg2, dTimesM, dNewK, dYes, mk_def, dFldSet, dISeq, dIRng1, dIRng2, dIRng3, dIEnum, dIZip, dwipe, dclr, fII, fIIc, fIB, fLt, fLe, fGt, fGe, fAdd, fSub, fMul, fDiv, fMod, fPow, fNeg, f1, f2, dstart, List.map, List.length, List.replicate, decide_eq_true_eq, if_true, if_false, Bool.false_eq_true, Bool.not_true, Bool.not_false, reduceIte]
  refine ⟨rgok_nat (by omega), ?_⟩
  rw [rgD_nat, keyN_tup]
  intro p hp
  refine ⟨rgok_nat (by omega), ?_⟩
  refine ⟨by decide, fun q hq => ?_⟩
  have hqp : q ≠ p := fun e => by rw [e, mupd_same] at hq; cases hq
  have hMq : M q = none := (Sup.new hp).none hq
  have hend : ∀ ks ws, Sup M (mupd (mupd M p (.dT (kvT ks))) q (.lst (ws : List D))) := fun ks ws => (Sup.new hp).upd hMq
  have gq : ∀ ks (ws : List D), mupd (mupd M p (.dT (kvT ks))) q (.lst ws) q = some (.lst ws) := fun ks ws => mupd_same
  have gp : ∀ ks (ws : List D), mupd (mupd M p (.dT (kvT ks))) q (.lst ws) p = some (.dT (kvT ks)) := fun ks ws => by rw [mupd_ne (Ne.symm hqp)]; exact mupd_same
  (first | rw [seq_def] | (simp only [gdName, dset]; rw [seq_def])); simp only [dFor_def, lc_def, lc2_def, dSet, dC, dVar, dIfS, dOr, dAnd, dNot, dTest, dTru, dBin, dUn, dCB, f1, f2, dCons, dNil, dRet, dRetN, dLstM, dLstI, dTup, dget, dset, dNext, dDrop, dBreak, dCont, dIf, dAndV, dOrV, dNotV, dChain, dPar, dAug, dAsg, gdName, gdTup, gdCons, gdNil, gdSub, dCall, dBM, dBMX, dSl, dNoPart, dPart, dNever, List.append_nil, dDisp1K, dDisp1T, dLstRg, dLstRgM, dTupRg, dRg1, dRg2, dTimesM, dNewK, dYes, mk_def, dFldSet, dISeq, dIRng1, dIRng2, dIRng3, dIEnum, dIZip, dwipe, dclr, fII, fIIc, fIB, fLt, fLe, fGt, fGe, fAdd, fSub, fMul, fDiv, fMod, fPow, fNeg, f1, f2, dstart, List.map, List.length, List.replicate, decide_eq_true_eq, if_true, if_false, Bool.false_eq_true, Bool.not_true, Bool.not_false, reduceIte]
  refine while_inv (fun k δ M' => ∃ ks ws : List (List Nat), M' = mupd (mupd M p (.dT (kvT ks))) q (.lst (ws.map permD)) ∧ (∀ x ∈ ks, Rch n mvs x) ∧ ks.Nodup ∧ List.range n ∈ ks ∧ (∀ w ∈ ws, w ∈ ks) ∧ (∀ x ∈ ks, x ∉ ws → ∀ y ∈ mvs, comp x y ∈ ks) ∧ ks.length ≤ l ∧ ws.length ≤ ks.length ∧ k = ws.length + 2 * (l - ks.length) ∧
    ∃ a b c, δ = [some (.int (n : Nat)), some (.lst (mvs.map permD)), some (.int (l : Nat)), some (.ref p), some (.ref q), a, b, c]) (1 + 2 * (l - 1)) ⟨[List.range n], [List.range n], rfl, fun x hx => by rw [List.mem_singleton.mp hx]; exact .one, by simp, by simp, fun w hw => hw, fun x hx h => absurd hx h, hl0, Nat.le_refl _, rfl, _, _, _, rfl⟩ ?_
  rintro k δ M' Nx ⟨ks, ws, rfl, hR, hnd, hid, hw, hcl, hkl, hwk, hk, _, _, _, rfl⟩ hnx
  (try simp only [dFor_def, lc_def, lc2_def, dSet, dC, dVar, dIfS, dOr, dAnd, dNot, dTest, dTru, dBin, dUn, dCB, f1, f2, dCons, dNil, dRet, dRetN, dLstM, dLstI, dTup, dget, dset, dNext, dDrop, dBreak, dCont, dIf, dAndV, dOrV, dNotV, dChain, dPar, dAug, dAsg, gdName, gdTup, gdCons, gdNil, gdSub, dCall, dBM, dBMX, dSl, dNoPart, dPart, dNever, List.append_nil, dDisp1K, dDisp1T, dLstRg, dLstRgM, dTupRg, dRg1, dRg2, dTimesM, dNewK, dYes, mk_def, dFldSet, dISeq, dIRng1, dIRng2, dIRng3, dIEnum, dIZip, dwipe, dclr, fII, fIIc, fIB, fLt, fLe, fGt, fGe, fAdd, fSub, fMul, fDiv, fMod, fPow, fNeg, f1, f2, dstart, List.map, List.length, List.replicate, decide_eq_true_eq, if_true, if_false, Bool.false_eq_true, Bool.not_true, Bool.not_false, reduceIte])
  refine ⟨Nat.zero_le _, ?_⟩
  refine ne_nil (gq _ _) (fun d hd => ?_) (fun d hd => ?_) ?_
  · obtain ⟨x, _, rfl⟩ := List.mem_map.mp hd
    show plainD (.tup (nD x)) = true
    simp only [plainD]; exact plain_nD x
  · obtain ⟨x, _, rfl⟩ := List.mem_map.mp hd
    show depD (.tup (nD x)) ≤ 63
    simp only [depD]; rw [dep_nD]; decide
  rw [List.length_map]
  by_cases hws : ws = []
  · subst hws
    simp only [Bool.not_true, Bool.not_false, if_true, if_false, Bool.false_eq_true, decide_true, decide_false, reduceIte]
    unfold gSortT
    rw [show (dictT (mupd (mupd M p (.dT (kvT ks))) q (.lst (List.map permD []))) (.ref p)).bind keyss = some (ks.map natsI) by
      show (dtM (mupd (mupd M p (.dT (kvT ks))) q (.lst (List.map permD [])) p)).bind keyss = _
      rw [gp]; exact keyss_kvT ks]
    refine ⟨by rw [List.length_map]; omega, n, (n : Nat), h0, fun ns hns => ?_, fun ns' hs => ?_⟩
    · obtain ⟨x, hx, rfl⟩ := List.mem_map.mp hns
      have hpm := (hR x hx).pm hmv
      exact ⟨by rw [natsI_len, hpm.len], bd_nats hpm.lt⟩
    · obtain ⟨hs1, hs2⟩ := hs
      obtain ⟨mem, pe, rfl⟩ := perm_map_inv hs1
      rw [List.pairwise_map] at hs2
      have G := good_sorted hmv hR (fun x hx y hy => hcl x hx (by simp) y hy) hnd hid pe hs2
      have := h mem G (by rw [pe.length_eq]; exact hkl)
      rw [List.map_map]
      exact fg_sup this (hend _ _)
  · have hwl : ws.length ≠ 0 := fun e => hws (List.length_eq_zero_iff.mp e)
    simp only [decide_eq_false hwl, Bool.not_false, if_true]
    obtain ⟨ws0, one, rfl⟩ : ∃ a b, ws = a ++ [b] := ⟨ws.dropLast, ws.getLast hws, (List.dropLast_concat_getLast hws).symm⟩
    (first | rw [seq_def] | (simp only [gdName, dset]; rw [seq_def])); simp only [dFor_def, lc_def, lc2_def, dSet, dC, dVar, dIfS, dOr, dAnd, dNot, dTest, dTru, dBin, dUn, dCB, f1, f2, dCons, dNil, dRet, dRetN, dLstM, dLstI, dTup, dget, dset, dNext, dDrop, dBreak, dCont, dIf, dAndV, dOrV, dNotV, dChain, dPar, dAug, dAsg, gdName, gdTup, gdCons, gdNil, gdSub, dCall, dBM, dBMX, dSl, dNoPart, dPart, dNever, List.append_nil, dDisp1K, dDisp1T, dLstRg, dLstRgM, dTupRg, dRg1, dRg2, dTimesM, dNewK, dYes, mk_def, dFldSet, dISeq, dIRng1, dIRng2, dIRng3, dIEnum, dIZip, dwipe, dclr, fII, fIIc, fIB, fLt, fLe, fGt, fGe, fAdd, fSub, fMul, fDiv, fMod, fPow, fNeg, f1, f2, dstart, List.map, List.length, List.replicate, decide_eq_true_eq, if_true, if_false, Bool.false_eq_true, Bool.not_true, Bool.not_false, reduceIte]
    rw [List.length_append] at hwk
    simp only [List.length_cons, List.length_nil] at hwk
    rw [List.map_append]
    refine ⟨ty_lst (gq _ _), pop_ (gq _ _) ?_⟩
    rw [mupd_mupd]
    (first | rw [seq_def] | (simp only [gdName, dset]; rw [seq_def])); simp only [dFor_def, lc_def, lc2_def, dSet, dC, dVar, dIfS, dOr, dAnd, dNot, dTest, dTru, dBin, dUn, dCB, f1, f2, dCons, dNil, dRet, dRetN, dLstM, dLstI, dTup, dget, dset, dNext, dDrop, dBreak, dCont, dIf, dAndV, dOrV, dNotV, dChain, dPar, dAug, dAsg, gdName, gdTup, gdCons, gdNil, gdSub, dCall, dBM, dBMX, dSl, dNoPart, dPart, dNever, List.append_nil, dDisp1K, dDisp1T, dLstRg, dLstRgM, dTupRg, dRg1, dRg2, dTimesM, dNewK, dYes, mk_def, dFldSet, dISeq, dIRng1, dIRng2, dIRng3, dIEnum, dIZip, dwipe, dclr, fII, fIIc, fIB, fLt, fLe, fGt, fGe, fAdd, fSub, fMul, fDiv, fMod, fPow, fNeg, f1, f2, dstart, List.map, List.length, List.replicate, decide_eq_true_eq, if_true, if_false, Bool.false_eq_true, Bool.not_true, Bool.not_false, reduceIte]
    have hone : one ∈ ks := hw one (by simp)
    have hpone := (hR one hone).pm hmv
    refine for_inv (fun j δ M' => ∃ ks' ws' : List (List Nat), M' = mupd (mupd M p (.dT (kvT ks'))) q (.lst (ws'.map permD)) ∧ (∀ x ∈ ks', Rch n mvs x) ∧ ks'.Nodup ∧ (∀ x ∈ ks, x ∈ ks') ∧ (∀ k, k < j → comp one (am mvs k) ∈ ks') ∧ (∀ w ∈ ws', w ∈ ks') ∧
      (∀ x ∈ ks', x ∉ ws' → x ≠ one → ∀ y ∈ mvs, comp x y ∈ ks') ∧ ks'.length + ws0.length = ks.length + ws'.length ∧ ks'.length ≤ ks.length + j ∧ ks.length ≤ ks'.length ∧
      ∃ b c, δ = [some (.int (n : Nat)), some (.lst (mvs.map permD)), some (.int (l : Nat)), some (.ref p), some (.ref q), some (permD one), b, c])
      ⟨ks, ws0, rfl, hR, hnd, fun x hx => hx, fun k hk => by omega, fun w h => hw w (by simp [h]), fun x hx h1 h2 => hcl x hx (by simp [h1, h2]), rfl, Nat.le_refl _, Nat.le_refl _, _, _, rfl⟩ (fun j d δ M' Nx2 hd hI hnx2 => ?_) (fun δ M' hI => ?_)
    · obtain ⟨ks', ws', rfl, hR', hnd', hsub, hdone, hw', hcl', hlen, hlj, hlk, _, _, rfl⟩ := hI
      have hj := (List.getElem?_eq_some_iff.mp hd).1
      rw [List.length_map] at hj
      rw [List.getElem?_map, am_at hj] at hd
      cases hd
      have hy := am_mem hj
      refine ⟨rfl, ?_⟩
      (first | rw [seq_def] | (simp only [gdName, dset]; rw [seq_def])); simp only [dFor_def, lc_def, lc2_def, dSet, dC, dVar, dIfS, dOr, dAnd, dNot, dTest, dTru, dBin, dUn, dCB, f1, f2, dCons, dNil, dRet, dRetN, dLstM, dLstI, dTup, dget, dset, dNext, dDrop, dBreak, dCont, dIf, dAndV, dOrV, dNotV, dChain, dPar, dAug, dAsg, gdName, gdTup, gdCons, gdNil, gdSub, dCall, dBM, dBMX, dSl, dNoPart, dPart, dNever, List.append_nil, dDisp1K, dDisp1T, dLstRg, dLstRgM, dTupRg, dRg1, dRg2, dTimesM, dNewK, dYes, mk_def, dFldSet, dISeq, dIRng1, dIRng2, dIRng3, dIEnum, dIZip, dwipe, dclr, fII, fIIc, fIB, fLt, fLe, fGt, fGe, fAdd, fSub, fMul, fDiv, fMod, fPow, fNeg, f1, f2, dstart, List.map, List.length, List.replicate, decide_eq_true_eq, if_true, if_false, Bool.false_eq_true, Bool.not_true, Bool.not_false, reduceIte]
      refine ⟨one, am mvs j, rfl, fun g hg => by rw [(hmv _ hy).len]; exact hpone.lt g hg, by rw [hpone.len]; omega, ?_⟩
      (try simp only [dFor_def, lc_def, lc2_def, dSet, dC, dVar, dIfS, dOr, dAnd, dNot, dTest, dTru, dBin, dUn, dCB, f1, f2, dCons, dNil, dRet, dRetN, dLstM, dLstI, dTup, dget, dset, dNext, dDrop, dBreak, dCont, dIf, dAndV, dOrV, dNotV, dChain, dPar, dAug, dAsg, gdName, gdTup, gdCons, gdNil, gdSub, dCall, dBM, dBMX, dSl, dNoPart, dPart, dNever, List.append_nil, dDisp1K, dDisp1T, dLstRg, dLstRgM, dTupRg, dRg1, dRg2, dTimesM, dNewK, dYes, mk_def, dFldSet, dISeq, dIRng1, dIRng2, dIRng3, dIEnum, dIZip, dwipe, dclr, fII, fIIc, fIB, fLt, fLe, fGt, fGe, fAdd, fSub, fMul, fDiv, fMod, fPow, fNeg, f1, f2, dstart, List.map, List.length, List.replicate, decide_eq_true_eq, if_true, if_false, Bool.false_eq_true, Bool.not_true, Bool.not_false, reduceIte])
      refine nin_dT (gp _ _) (keyN_tup _) ?_
      rw [kvT_has]
      by_cases hin : comp one (am mvs j) ∈ ks'
      · simp only [decide_eq_true hin, Bool.not_true, if_false, Bool.false_eq_true]
        refine hnx2 _ _ ⟨ks', ws', rfl, hR', hnd', hsub, fun k hk => ?_, hw', hcl', hlen, by omega, hlk, _, _, rfl⟩
        by_cases e : k = j
        · rw [e]; exact hin
        · exact hdone k (by omega)
      · simp only [decide_eq_false hin, Bool.not_false, if_true]
        (first | rw [seq_def] | (simp only [gdName, dset]; rw [seq_def])); simp only [dFor_def, lc_def, lc2_def, dSet, dC, dVar, dIfS, dOr, dAnd, dNot, dTest, dTru, dBin, dUn, dCB, f1, f2, dCons, dNil, dRet, dRetN, dLstM, dLstI, dTup, dget, dset, dNext, dDrop, dBreak, dCont, dIf, dAndV, dOrV, dNotV, dChain, dPar, dAug, dAsg, gdName, gdTup, gdCons, gdNil, gdSub, dCall, dBM, dBMX, dSl, dNoPart, dPart, dNever, List.append_nil, dDisp1K, dDisp1T, dLstRg, dLstRgM, dTupRg, dRg1, dRg2, dTimesM, dNewK, dYes, mk_def, dFldSet, dISeq, dIRng1, dIRng2, dIRng3, dIEnum, dIZip, dwipe, dclr, fII, fIIc, fIB, fLt, fLe, fGt, fGe, fAdd, fSub, fMul, fDiv, fMod, fPow, fNeg, f1, f2, dstart, List.map, List.length, List.replicate, decide_eq_true_eq, if_true, if_false, Bool.false_eq_true, Bool.not_true, Bool.not_false, reduceIte]
        refine set_dT (gp _ _) (keyN_tup _) (by rw [kvT_len]; omega) ?_
        rw [kvT_put hin]
        (try simp only [dFor_def, lc_def, lc2_def, dSet, dC, dVar, dIfS, dOr, dAnd, dNot, dTest, dTru, dBin, dUn, dCB, f1, f2, dCons, dNil, dRet, dRetN, dLstM, dLstI, dTup, dget, dset, dNext, dDrop, dBreak, dCont, dIf, dAndV, dOrV, dNotV, dChain, dPar, dAug, dAsg, gdName, gdTup, gdCons, gdNil, gdSub, dCall, dBM, dBMX, dSl, dNoPart, dPart, dNever, List.append_nil, dDisp1K, dDisp1T, dLstRg, dLstRgM, dTupRg, dRg1, dRg2, dTimesM, dNewK, dYes, mk_def, dFldSet, dISeq, dIRng1, dIRng2, dIRng3, dIEnum, dIZip, dwipe, dclr, fII, fIIc, fIB, fLt, fLe, fGt, fGe, fAdd, fSub, fMul, fDiv, fMod, fPow, fNeg, f1, f2, dstart, List.map, List.length, List.replicate, decide_eq_true_eq, if_true, if_false, Bool.false_eq_true, Bool.not_true, Bool.not_false, reduceIte])
        have em : mupd (mupd (mupd M p (.dT (kvT ks'))) q (.lst (ws'.map permD))) p (.dT (kvT (ks' ++ [comp one (am mvs j)]))) = mupd (mupd M p (.dT (kvT (ks' ++ [comp one (am mvs j)])))) q (.lst (ws'.map permD)) := by
          rw [mupd_comm hqp, mupd_mupd]
        rw [em]
        refine ⟨ty_lst (gq _ _), app_ (gq _ _) (by rw [List.length_map]; omega) ?_⟩
        rw [mupd_mupd]
        refine hnx2 _ _ ⟨ks' ++ [comp one (am mvs j)], ws' ++ [comp one (am mvs j)], by rw [List.map_append]; rfl, fun x hx => ?_, ?_, fun x hx => List.mem_append_left _ (hsub x hx), fun k hk => ?_, fun w hx => ?_, fun x hx h1 h2 y hy => ?_, ?_, ?_, ?_, _, _, rfl⟩
        · rcases List.mem_append.mp hx with h | h
          · exact hR' x h
          · rw [List.mem_singleton.mp h]; exact .more (hR _ hone) hy
        · rw [List.nodup_append]
          refine ⟨hnd', by simp, fun a ha b hb e => ?_⟩
          rw [List.mem_singleton.mp hb] at e
          exact hin (e ▸ ha)
        · by_cases e : k = j
          · rw [e]; simp
          · exact List.mem_append_left _ (hdone k (by omega))
        · rcases List.mem_append.mp hx with h | h
          · exact List.mem_append_left _ (hw' w h)
          · exact List.mem_append_right _ h
        · rcases List.mem_append.mp hx with h | h
          · exact List.mem_append_left _ (hcl' x h (fun z => h1 (List.mem_append_left _ z)) h2 y hy)
          · exact absurd (List.mem_append_right _ h) h1
        · rw [List.length_append, List.length_append]; simp; omega
        · rw [List.length_append]; simp; omega
        · rw [List.length_append]; simp; omega
    · obtain ⟨ks', ws', rfl, hR', hnd', hsub, hdone, hw', hcl', hlen, hlj, hlk, _, _, rfl⟩ := hI
      rw [List.length_map] at hdone hlj
      refine ⟨rfl, ?_⟩
      (try simp only [dFor_def, lc_def, lc2_def, dSet, dC, dVar, dIfS, dOr, dAnd, dNot, dTest, dTru, dBin, dUn, dCB, f1, f2, dCons, dNil, dRet, dRetN, dLstM, dLstI, dTup, dget, dset, dNext, dDrop, dBreak, dCont, dIf, dAndV, dOrV, dNotV, dChain, dPar, dAug, dAsg, gdName, gdTup, gdCons, gdNil, gdSub, dCall, dBM, dBMX, dSl, dNoPart, dPart, dNever, List.append_nil, dDisp1K, dDisp1T, dLstRg, dLstRgM, dTupRg, dRg1, dRg2, dTimesM, dNewK, dYes, mk_def, dFldSet, dISeq, dIRng1, dIRng2, dIRng3, dIEnum, dIZip, dwipe, dclr, fII, fIIc, fIB, fLt, fLe, fGt, fGe, fAdd, fSub, fMul, fDiv, fMod, fPow, fNeg, f1, f2, dstart, List.map, List.length, List.replicate, decide_eq_true_eq, if_true, if_false, Bool.false_eq_true, Bool.not_true, Bool.not_false, reduceIte])
      refine len_dT (gp _ _) ?_
      rw [kvT_len]
      have hmne : ks'.length > l → mvs ≠ [] := fun h e => by
        rw [e] at hlj; simp at hlj; omega
      by_cases hgt : ks'.length > l
      · have hgt' : ((l : Nat) : Int) < (ks'.length : Nat) := by omega
        simp only [hgt', if_true]
        exact fg_sup (hNon (hmne hgt)) (hend _ _)
      · have hgt' : ¬ ((l : Nat) : Int) < (ks'.length : Nat) := by omega
        simp only [hgt', if_false]
        rw [List.length_append] at hk
        simp at hk
        refine hnx (ws'.length + 2 * (l - ks'.length)) _ _ (by omega) ⟨ks', ws', rfl, hR', hnd', hsub _ hid, hw', fun x hx h1 y hy => ?_, by omega, by omega, rfl, _, _, _, rfl⟩
        by_cases e : x = one
        · subst e
          obtain ⟨i, hi, rfl⟩ := List.mem_iff_getElem.mp hy
          have := hdone i hi
          have e2 : am mvs i = mvs[i] := by simp [am, List.getD, List.getElem?_eq_getElem hi]
          rw [e2] at this
          exact this
        · exact hcl' x hx h1 e y hy
end T74
end
section
set_option Elab.async false
set_option linter.all false
set_option maxRecDepth 100000
set_option maxHeartbeats 4000000
namespace T74
open DL PySem PySem.Spec PyProof.Rows L2
theorem ix_dT {M : Mem} {kvs : List (List Key × D)} {x d : D} {ks : List Key} {Q : D → Prop} (hk : (tupK x).bind keysD = some ks) (h2 : valA kvs ks = some d) (q : Q d) : fIx M (.dT kvs) x Q := by
  refine ix_dict (by simp [seqD]) ?_ q
  simp [lookD, lookK, lookT, dictK, dictT, hk, h2]
def kvI (mem : List (List Nat)) : List (List Key × D) := (List.range mem.length).map fun i => (keyN (am mem i), .int (i : Nat))
theorem am_inj {mem : List (List Nat)} (nd : mem.Nodup) {i j : Nat} (hi : i < mem.length) (hj : j < mem.length) (e : am mem i = am mem j) : i = j := by
  rw [← idx_am nd hi, ← idx_am nd hj, e]
theorem kvI_val {mem : List (List Nat)} (nd : mem.Nodup) {i : Nat} (hi : i < mem.length) : valA (kvI mem) (keyN (am mem i)) = some (.int (i : Nat)) := by
  unfold kvI
  exact valA_map (f := fun i => keyN (am mem i)) (g := fun i => D.int (i : Nat)) (fun x hx e => am_inj nd (List.mem_range.mp hx) hi (keyN_inj e)) (List.mem_range.mpr hi)
theorem kvI_mrg {mem : List (List Nat)} (nd : mem.Nodup) : mrgD (kvI mem) [] = kvI mem := by
  refine mrgD_new _ [] ?_
  rw [List.nil_append]
  unfold kvI
  rw [List.map_map, List.nodup_iff_pairwise_ne, List.pairwise_map]
  refine List.pairwise_iff_getElem.mpr fun i j hi hj hij e => ?_
  rw [List.length_range] at hi hj
  rw [List.getElem_range, List.getElem_range] at e
  have := am_inj nd hi hj (keyN_inj e)
  omega
def sp_law_lines (C : Addr) : SpD := fun ds M Q => ∃ (n : Nat) (mem : List (List Nat)), ds = [.lst (mem.map permD)] ∧ GoodMem n mem ∧ mem.length ≤ 48 ∧ n ≤ 48 ∧ Q (linesD mem.length (memT mem)) M
theorem hl_law_lines (C : Addr) : ∀ ds M Q, sp_law_lines C ds M Q → ds.length = 1 := fun _ _ _ ⟨_, _, e, _⟩ => by rw [e]; rfl
theorem ok_law_lines (C : Addr) : ∀ ds M Q, sp_law_lines C ds M Q → r_law_lines (sp_law_then C) (dEnd Q) (dstart N_law_lines ds) M := by
  rintro ds M Q ⟨n, mem, rfl, G, hl, hn, h⟩
  unfold r_law_lines; simp only [dstart, N_law_lines, List.map, List.length, List.replicate, List.append, HAppend.hAppend, Append.append]
  have hbig := big48
  have hat : ∀ i, i < mem.length → (mem.map permD)[i]? = some (permD (am mem i)) := fun i hi => by rw [List.getElem?_map, am_at hi]; rfl
  (first | rw [seq_def] | (simp only [gdName, dset]; rw [seq_def])); simp only [dFor_def, lc_def, lc2_def, dSet, dC, dVar, dIfS, dOr, dAnd, dNot, dTest, dTru, dBin, dUn, dCB, f1, f2, dCons, dNil, dRet, dRetN, dLstM, dLstI, dTup, dget, dset, dNext, dDrop, dBreak, dCont, dIf, dAndV, dOrV, dNotV, dChain, dPar, dAug, dAsg, gdName, gdTup, gdCons, gdNil, gdSub, dCall, dBM, dBMX, dSl, dNoPart, dPart, dNever, List.append_nil, dDisp1K, dDisp1T, dLstRg, dLstRgM, dTupRg, dRg1, dRg2, dTimesM, dNewK, dYes, mk_def, dFldSet, dISeq, dIRng1, dIRng2, dIRng3, dIEnum, dIZip, dwipe, dclr, fII, fIIc, fIB, fLt, fLe, fGt, fGe, fAdd, fSub, fMul, fDiv, fMod, fPow, fNeg, f1, f2, dstart, List.map, List.length, List.replicate, decide_eq_true_eq, if_true, if_false, Bool.false_eq_true, Bool.not_true, Bool.not_false, reduceIte]
  refine len_seq (ds := mem.map permD) rfl ?_
  rw [List.length_map]
  refine ⟨by omega, by omega, ?_⟩
  refine lc_map (fun i => .tup [permD (am mem i), .int (i : Nat)]) trivial (by rw [rng_len]; omega) (fun i d Nx hd hnx => ?_) ?_
  · obtain ⟨hi, rfl⟩ := rng_inv hd
    (try simp only [dFor_def, lc_def, lc2_def, dSet, dC, dVar, dIfS, dOr, dAnd, dNot, dTest, dTru, dBin, dUn, dCB, f1, f2, dCons, dNil, dRet, dRetN, dLstM, dLstI, dTup, dget, dset, dNext, dDrop, dBreak, dCont, dIf, dAndV, dOrV, dNotV, dChain, dPar, dAug, dAsg, gdName, gdTup, gdCons, gdNil, gdSub, dCall, dBM, dBMX, dSl, dNoPart, dPart, dNever, List.append_nil, dDisp1K, dDisp1T, dLstRg, dLstRgM, dTupRg, dRg1, dRg2, dTimesM, dNewK, dYes, mk_def, dFldSet, dISeq, dIRng1, dIRng2, dIRng3, dIEnum, dIZip, dwipe, dclr, fII, fIIc, fIB, fLt, fLe, fGt, fGe, fAdd, fSub, fMul, fDiv, fMod, fPow, fNeg, f1, f2, dstart, List.map, List.length, List.replicate, decide_eq_true_eq, if_true, if_false, Bool.false_eq_true, Bool.not_true, Bool.not_false, reduceIte])
    refine ix_nat (ds := mem.map permD) rfl (hat i hi) ?_
    exact ⟨by decide, hnx⟩
  rw [rng_len]
  unfold gDictT
  rw [show (lstD M (.lst ((List.range mem.length).map fun i => D.tup [permD (am mem i), .int (i : Nat)]))).bind (prs prT) = some (kvI mem) by
    show prs prT _ = _
    refine prs_map (k := fun i => (keyN (am mem i), D.int (i : Nat))) (fun i => ?_) _
    show ((tupK (permD (am mem i))).bind keysD).map _ = _
    unfold permD
    rw [keyN_tup]; rfl]
  dsimp only
  rw [kvI_mrg G.nd]
  (first | rw [seq_def] | (simp only [gdName, dset]; rw [seq_def])); simp only [dFor_def, lc_def, lc2_def, dSet, dC, dVar, dIfS, dOr, dAnd, dNot, dTest, dTru, dBin, dUn, dCB, f1, f2, dCons, dNil, dRet, dRetN, dLstM, dLstI, dTup, dget, dset, dNext, dDrop, dBreak, dCont, dIf, dAndV, dOrV, dNotV, dChain, dPar, dAug, dAsg, gdName, gdTup, gdCons, gdNil, gdSub, dCall, dBM, dBMX, dSl, dNoPart, dPart, dNever, List.append_nil, dDisp1K, dDisp1T, dLstRg, dLstRgM, dTupRg, dRg1, dRg2, dTimesM, dNewK, dYes, mk_def, dFldSet, dISeq, dIRng1, dIRng2, dIRng3, dIEnum, dIZip, dwipe, dclr, fII, fIIc, fIB, fLt, fLe, fGt, fGe, fAdd, fSub, fMul, fDiv, fMod, fPow, fNeg, f1, f2, dstart, List.map, List.length, List.replicate, decide_eq_true_eq, if_true, if_false, Bool.false_eq_true, Bool.not_true, Bool.not_false, reduceIte]
  refine ⟨by decide, fun p hp => ?_⟩
  (first | rw [seq_def] | (simp only [gdName, dset]; rw [seq_def])); simp only [dFor_def, lc_def, lc2_def, dSet, dC, dVar, dIfS, dOr, dAnd, dNot, dTest, dTru, dBin, dUn, dCB, f1, f2, dCons, dNil, dRet, dRetN, dLstM, dLstI, dTup, dget, dset, dNext, dDrop, dBreak, dCont, dIf, dAndV, dOrV, dNotV, dChain, dPar, dAug, dAsg, gdName, gdTup, gdCons, gdNil, gdSub, dCall, dBM, dBMX, dSl, dNoPart, dPart, dNever, List.append_nil, dDisp1K, dDisp1T, dLstRg, dLstRgM, dTupRg, dRg1, dRg2, dTimesM, dNewK, dYes, mk_def, dFldSet, dISeq, dIRng1, dIRng2, dIRng3, dIEnum, dIZip, dwipe, dclr, fII, fIIc, fIB, fLt, fLe, fGt, fGe, fAdd, fSub, fMul, fDiv, fMod, fPow, fNeg, f1, f2, dstart, List.map, List.length, List.replicate, decide_eq_true_eq, if_true, if_false, Bool.false_eq_true, Bool.not_true, Bool.not_false, reduceIte]
  refine for_inv (fun i δ M' => M' = mupd M p (.lst ((List.range i).map fun i => .tupX (rowD (memT mem) mem.length i))) ∧ ∃ x y z, δ = [some (.lst (mem.map permD)), some (.dT (kvI mem)), some (.ref p), x, y, z]) ⟨rfl, _, _, _, rfl⟩ (fun i d δ M' Nx hd hI hnx => ?_) (fun δ M' hI => ?_)
  · obtain ⟨rfl, _, _, _, rfl⟩ := hI
    have hi := (List.getElem?_eq_some_iff.mp hd).1
    rw [List.length_map] at hi
    rw [hat i hi] at hd
    cases hd
    refine ⟨rfl, ?_⟩
    (try simp only [dFor_def, lc_def, lc2_def, dSet, dC, dVar, dIfS, dOr, dAnd, dNot, dTest, dTru, dBin, dUn, dCB, f1, f2, dCons, dNil, dRet, dRetN, dLstM, dLstI, dTup, dget, dset, dNext, dDrop, dBreak, dCont, dIf, dAndV, dOrV, dNotV, dChain, dPar, dAug, dAsg, gdName, gdTup, gdCons, gdNil, gdSub, dCall, dBM, dBMX, dSl, dNoPart, dPart, dNever, List.append_nil, dDisp1K, dDisp1T, dLstRg, dLstRgM, dTupRg, dRg1, dRg2, dTimesM, dNewK, dYes, mk_def, dFldSet, dISeq, dIRng1, dIRng2, dIRng3, dIEnum, dIZip, dwipe, dclr, fII, fIIc, fIB, fLt, fLe, fGt, fGe, fAdd, fSub, fMul, fDiv, fMod, fPow, fNeg, f1, f2, dstart, List.map, List.length, List.replicate, decide_eq_true_eq, if_true, if_false, Bool.false_eq_true, Bool.not_true, Bool.not_false, reduceIte])
    refine ⟨ty_lst mupd_same, ?_⟩
    refine lc_map (fun j => .int (memT mem i j : Nat)) rfl (by rw [List.length_map]; omega) (fun j d Nx2 hd2 hn2 => ?_) ?_
    · have hj := (List.getElem?_eq_some_iff.mp hd2).1
      rw [List.length_map] at hj
      rw [hat j hj] at hd2
      cases hd2
      (try simp only [dFor_def, lc_def, lc2_def, dSet, dC, dVar, dIfS, dOr, dAnd, dNot, dTest, dTru, dBin, dUn, dCB, f1, f2, dCons, dNil, dRet, dRetN, dLstM, dLstI, dTup, dget, dset, dNext, dDrop, dBreak, dCont, dIf, dAndV, dOrV, dNotV, dChain, dPar, dAug, dAsg, gdName, gdTup, gdCons, gdNil, gdSub, dCall, dBM, dBMX, dSl, dNoPart, dPart, dNever, List.append_nil, dDisp1K, dDisp1T, dLstRg, dLstRgM, dTupRg, dRg1, dRg2, dTimesM, dNewK, dYes, mk_def, dFldSet, dISeq, dIRng1, dIRng2, dIRng3, dIEnum, dIZip, dwipe, dclr, fII, fIIc, fIB, fLt, fLe, fGt, fGe, fAdd, fSub, fMul, fDiv, fMod, fPow, fNeg, f1, f2, dstart, List.map, List.length, List.replicate, decide_eq_true_eq, if_true, if_false, Bool.false_eq_true, Bool.not_true, Bool.not_false, reduceIte])
      have p1 := G.pm _ (am_mem hi)
      have p2 := G.pm _ (am_mem hj)
      refine ⟨am mem i, am mem j, rfl, fun g hg => by rw [p2.len]; exact p1.lt g hg, by rw [p1.len]; omega, ?_⟩
      refine ix_dT (keyN_tup _) ?_ hn2
      have hc := G.cl _ (am_mem hi) _ (am_mem hj)
      have := kvI_val G.nd (i := memT mem i j) (List.idxOf_lt_length_iff.mpr hc)
      unfold memT at this ⊢
      rw [am_idx hc] at this
      exact this
    · rw [List.length_map, ← rowD_eq]
      have hlt : ((List.range i).map fun i => D.tupX (rowD (memT mem) mem.length i)).length < sizeLine := by rw [List.length_map, List.length_range]; omega
      refine gtx ?_
      refine app_ mupd_same hlt ?_
      rw [mupd_mupd]
      refine hnx _ _ ⟨?_, _, _, _, rfl⟩
      rw [List.range_succ, List.map_append]
      rfl
  · obtain ⟨rfl, _, _, _, rfl⟩ := hI
    rw [List.length_map]
    refine ⟨rfl, ?_⟩
    (try simp only [dFor_def, lc_def, lc2_def, dSet, dC, dVar, dIfS, dOr, dAnd, dNot, dTest, dTru, dBin, dUn, dCB, f1, f2, dCons, dNil, dRet, dRetN, dLstM, dLstI, dTup, dget, dset, dNext, dDrop, dBreak, dCont, dIf, dAndV, dOrV, dNotV, dChain, dPar, dAug, dAsg, gdName, gdTup, gdCons, gdNil, gdSub, dCall, dBM, dBMX, dSl, dNoPart, dPart, dNever, List.append_nil, dDisp1K, dDisp1T, dLstRg, dLstRgM, dTupRg, dRg1, dRg2, dTimesM, dNewK, dYes, mk_def, dFldSet, dISeq, dIRng1, dIRng2, dIRng3, dIEnum, dIZip, dwipe, dclr, fII, fIIc, fIB, fLt, fLe, fGt, fGe, fAdd, fSub, fMul, fDiv, fMod, fPow, fNeg, f1, f2, dstart, List.map, List.length, List.replicate, decide_eq_true_eq, if_true, if_false, Bool.false_eq_true, Bool.not_true, Bool.not_false, reduceIte])
    unfold gTupX
    rw [show ∀ o, lstD (mupd M p (.lst o)) (.ref p) = some o by intro o; simp [lstD, seqM]]
    exact fg_sup h (Sup.new hp)
theorem isn_ {M : Mem} {neg : Bool} {x : D} {Q : D → Prop} (h : isNon x = false) (q : Q (.bl neg)) : fIsN neg M x .non Q := by
  unfold fIsN
  rw [show isNon x = false from h]
  cases neg <;> exact q
theorem mem_both {C : Addr} {n l : Nat} {mvs : List (List Nat)} {M : Mem} {Q : KD} (h0 : 0 < n) (h1 : n ≤ 48) (hmv : ∀ y ∈ mvs, IsPm n y) (hml : mvs.length ≤ 48) (hl0 : 0 < l) (hl : l ≤ 48)
    (h : ∀ d, ((d = .non ∧ mvs ≠ []) ∨ ∃ mem, d = .lst (mem.map permD) ∧ GoodMem n mem ∧ mem.length ≤ l) → Q d M) : sp_law_members C [.int (n : Nat), .lst (mvs.map permD), .int (l : Nat)] M Q :=
  ⟨n, mvs, l, rfl, h0, h1, hmv, hml, hl0, hl, fun hne => h _ (.inl ⟨rfl, hne⟩), fun mem G hm => h _ (.inr ⟨mem, rfl, G, hm⟩)⟩
def sp_law_small (C : Addr) : SpD := fun ds M Q => ∃ (p : Addr) (l : Nat), ds = [.ref p, .int (l : Nat)] ∧ Pool M p ∧ 0 < l ∧ l ≤ 48 ∧ ∀ n mem M', GoodMem n mem → n ≤ 48 → mem.length ≤ l → PS p M M' → Q (.lst (mem.map permD)) M'
theorem hl_law_small (C : Addr) : ∀ ds M Q, sp_law_small C ds M Q → ds.length = 2 := fun _ _ _ ⟨_, _, e, _⟩ => by rw [e]; rfl
theorem ok_law_small (C : Addr) : ∀ ds M Q, sp_law_small C ds M Q → r_law_small (sp_law_take C) (sp_law_move C) (sp_law_members C) (dEnd Q) (dstart N_law_small ds) M := by
  rintro ds M Q ⟨p, l, rfl, hP, hl0, hl, h⟩
  unfold r_law_small; simp only [dstart, N_law_small, List.map, List.length, List.replicate, List.append, HAppend.hAppend, Append.append]
  have hbig := big48
  (first | rw [seq_def] | (simp only [gdName, dset]; rw [seq_def])); simp only [dFor_def, lc_def, lc2_def, dSet, dC, dVar, dIfS, dOr, dAnd, dNot, dTest, dTru, dBin, dUn, dCB, f1, f2, dCons, dNil, dRet, dRetN, dLstM, dLstI, dTup, dget, dset, dNext, dDrop, dBreak, dCont, dIf, dAndV, dOrV, dNotV, dChain, dPar, dAug, dAsg, gdName, gdTup, gdCons, gdNil, gdSub, dCall, dBM, dBMX, dSl, dNoPart, dPart, dNever, List.append_nil, dDisp1K, dDisp1T, dLstRg, dLstRgM, dTupRg, dRg1, dRg2, dTimesM, dNewK, dYes, mk_def, dFldSet, dISeq, dIRng1, dIRng2, dIRng3, dIEnum, dIZip, dwipe, dclr, fII, fIIc, fIB, fLt, fLe, fGt, fGe, fAdd, fSub, fMul, fDiv, fMod, fPow, fNeg, f1, f2, dstart, List.map, List.length, List.replicate, decide_eq_true_eq, if_true, if_false, Bool.false_eq_true, Bool.not_true, Bool.not_false, reduceIte]
  refine ⟨p, _, rfl, hP, by decide, by decide, fun t M1 ht0 ht1 hps => ?_⟩
  obtain ⟨t, rfl⟩ := Int.eq_ofNat_of_zero_le ht0
  refine plus_int ?_
  rw [show (1 : Int) + (t : Nat) = ((t + 1 : Nat) : Int) by omega]
  have hn0 : 0 < t + 1 := by omega
  have hn1 : t + 1 ≤ 48 := by omega
  generalize t + 1 = n at hn0 hn1
  (first | rw [seq_def] | (simp only [gdName, dset]; rw [seq_def])); simp only [dFor_def, lc_def, lc2_def, dSet, dC, dVar, dIfS, dOr, dAnd, dNot, dTest, dTru, dBin, dUn, dCB, f1, f2, dCons, dNil, dRet, dRetN, dLstM, dLstI, dTup, dget, dset, dNext, dDrop, dBreak, dCont, dIf, dAndV, dOrV, dNotV, dChain, dPar, dAug, dAsg, gdName, gdTup, gdCons, gdNil, gdSub, dCall, dBM, dBMX, dSl, dNoPart, dPart, dNever, List.append_nil, dDisp1K, dDisp1T, dLstRg, dLstRgM, dTupRg, dRg1, dRg2, dTimesM, dNewK, dYes, mk_def, dFldSet, dISeq, dIRng1, dIRng2, dIRng3, dIEnum, dIZip, dwipe, dclr, fII, fIIc, fIB, fLt, fLe, fGt, fGe, fAdd, fSub, fMul, fDiv, fMod, fPow, fNeg, f1, f2, dstart, List.map, List.length, List.replicate, decide_eq_true_eq, if_true, if_false, Bool.false_eq_true, Bool.not_true, Bool.not_false, reduceIte]
  refine ⟨p, _, rfl, hps.pool, by decide, by decide, fun u M2 hu0 hu1 hps2 => ?_⟩
  obtain ⟨u, rfl⟩ := Int.eq_ofNat_of_zero_le hu0
  refine ⟨by omega, by omega, ?_⟩
  refine lc_inv (fun i acc M' => ∃ mvs : List (List Nat), acc = mvs.map permD ∧ mvs.length = i ∧ (∀ y ∈ mvs, IsPm n y) ∧ PS p M M') ⟨[], rfl, rfl, (fun _ z => nomatch z), hps.trans hps2⟩ (fun i d acc M' Nx hd hI hnx => ?_) (fun acc M' hI => ?_)
  · obtain ⟨mvs, rfl, hml, hmv, hpm⟩ := hI
    have hi := (rng_inv hd).1
    refine ⟨trivial, ?_⟩
    (try simp only [dFor_def, lc_def, lc2_def, dSet, dC, dVar, dIfS, dOr, dAnd, dNot, dTest, dTru, dBin, dUn, dCB, f1, f2, dCons, dNil, dRet, dRetN, dLstM, dLstI, dTup, dget, dset, dNext, dDrop, dBreak, dCont, dIf, dAndV, dOrV, dNotV, dChain, dPar, dAug, dAsg, gdName, gdTup, gdCons, gdNil, gdSub, dCall, dBM, dBMX, dSl, dNoPart, dPart, dNever, List.append_nil, dDisp1K, dDisp1T, dLstRg, dLstRgM, dTupRg, dRg1, dRg2, dTimesM, dNewK, dYes, mk_def, dFldSet, dISeq, dIRng1, dIRng2, dIRng3, dIEnum, dIZip, dwipe, dclr, fII, fIIc, fIB, fLt, fLe, fGt, fGe, fAdd, fSub, fMul, fDiv, fMod, fPow, fNeg, f1, f2, dstart, List.map, List.length, List.replicate, decide_eq_true_eq, if_true, if_false, Bool.false_eq_true, Bool.not_true, Bool.not_false, reduceIte])
    refine ⟨p, n, rfl, hpm.pool, hn0, hn1, fun r M3 hr hps3 => ?_⟩
    refine ⟨by rw [List.length_map]; omega, hnx _ _ ⟨mvs ++ [r], by rw [List.map_append]; rfl, by rw [List.length_append, hml]; rfl, fun y hy => ?_, hpm.trans hps3⟩⟩
    rcases List.mem_append.mp hy with z | z
    · exact hmv y z
    · rw [List.mem_singleton.mp z]; exact hr
  · obtain ⟨mvs, rfl, hml, hmv, hpm⟩ := hI
    rw [rng_len] at hml
    refine ⟨trivial, ?_⟩
    (first | rw [seq_def] | (simp only [gdName, dset]; rw [seq_def])); simp only [dFor_def, lc_def, lc2_def, dSet, dC, dVar, dIfS, dOr, dAnd, dNot, dTest, dTru, dBin, dUn, dCB, f1, f2, dCons, dNil, dRet, dRetN, dLstM, dLstI, dTup, dget, dset, dNext, dDrop, dBreak, dCont, dIf, dAndV, dOrV, dNotV, dChain, dPar, dAug, dAsg, gdName, gdTup, gdCons, gdNil, gdSub, dCall, dBM, dBMX, dSl, dNoPart, dPart, dNever, List.append_nil, dDisp1K, dDisp1T, dLstRg, dLstRgM, dTupRg, dRg1, dRg2, dTimesM, dNewK, dYes, mk_def, dFldSet, dISeq, dIRng1, dIRng2, dIRng3, dIEnum, dIZip, dwipe, dclr, fII, fIIc, fIB, fLt, fLe, fGt, fGe, fAdd, fSub, fMul, fDiv, fMod, fPow, fNeg, f1, f2, dstart, List.map, List.length, List.replicate, decide_eq_true_eq, if_true, if_false, Bool.false_eq_true, Bool.not_true, Bool.not_false, reduceIte]
    refine mem_both hn0 hn1 hmv (by omega) hl0 hl fun d hd => ?_
    (first | rw [seq_def] | (simp only [gdName, dset]; rw [seq_def])); simp only [dFor_def, lc_def, lc2_def, dSet, dC, dVar, dIfS, dOr, dAnd, dNot, dTest, dTru, dBin, dUn, dCB, f1, f2, dCons, dNil, dRet, dRetN, dLstM, dLstI, dTup, dget, dset, dNext, dDrop, dBreak, dCont, dIf, dAndV, dOrV, dNotV, dChain, dPar, dAug, dAsg, gdName, gdTup, gdCons, gdNil, gdSub, dCall, dBM, dBMX, dSl, dNoPart, dPart, dNever, List.append_nil, dDisp1K, dDisp1T, dLstRg, dLstRgM, dTupRg, dRg1, dRg2, dTimesM, dNewK, dYes, mk_def, dFldSet, dISeq, dIRng1, dIRng2, dIRng3, dIEnum, dIZip, dwipe, dclr, fII, fIIc, fIB, fLt, fLe, fGt, fGe, fAdd, fSub, fMul, fDiv, fMod, fPow, fNeg, f1, f2, dstart, List.map, List.length, List.replicate, decide_eq_true_eq, if_true, if_false, Bool.false_eq_true, Bool.not_true, Bool.not_false, reduceIte]
    refine while_inv (fun k δ M1 => M1 = M' ∧ ∃ (mvs : List (List Nat)) (d : D), (∀ y ∈ mvs, IsPm n y) ∧ mvs.length ≤ 48 ∧ ((d = .non ∧ mvs ≠ [] ∧ k = mvs.length) ∨ ∃ mem, d = .lst (mem.map permD) ∧ GoodMem n mem ∧ mem.length ≤ l ∧ k = 0) ∧ ∃ x, δ = [some (.ref p), some (.int (l : Nat)), some (.int (n : Nat)), some (.lst (mvs.map permD)), some d, x])
      (if isNon d = true then mvs.length else 0) ⟨rfl, mvs, d, hmv, by omega, ?_, _, rfl⟩ ?_
    · rcases hd with ⟨rfl, hne⟩ | ⟨mem, rfl, G, hm⟩
      · exact .inl ⟨rfl, hne, rfl⟩
      · exact .inr ⟨mem, rfl, G, hm, rfl⟩
    · rintro k δ M1 Nx ⟨rfl, mvs, d, hmv, hml, hd, _, rfl⟩ hnx
      (try simp only [dFor_def, lc_def, lc2_def, dSet, dC, dVar, dIfS, dOr, dAnd, dNot, dTest, dTru, dBin, dUn, dCB, f1, f2, dCons, dNil, dRet, dRetN, dLstM, dLstI, dTup, dget, dset, dNext, dDrop, dBreak, dCont, dIf, dAndV, dOrV, dNotV, dChain, dPar, dAug, dAsg, gdName, gdTup, gdCons, gdNil, gdSub, dCall, dBM, dBMX, dSl, dNoPart, dPart, dNever, List.append_nil, dDisp1K, dDisp1T, dLstRg, dLstRgM, dTupRg, dRg1, dRg2, dTimesM, dNewK, dYes, mk_def, dFldSet, dISeq, dIRng1, dIRng2, dIRng3, dIEnum, dIZip, dwipe, dclr, fII, fIIc, fIB, fLt, fLe, fGt, fGe, fAdd, fSub, fMul, fDiv, fMod, fPow, fNeg, f1, f2, dstart, List.map, List.length, List.replicate, decide_eq_true_eq, if_true, if_false, Bool.false_eq_true, Bool.not_true, Bool.not_false, reduceIte])
      rcases hd with ⟨rfl, hne, hk⟩ | ⟨mem, rfl, G, hm, hk⟩
      · refine isn_non ?_
        simp only [Bool.not_false, if_true]
        (first | rw [seq_def] | (simp only [gdName, dset]; rw [seq_def])); simp only [dFor_def, lc_def, lc2_def, dSet, dC, dVar, dIfS, dOr, dAnd, dNot, dTest, dTru, dBin, dUn, dCB, f1, f2, dCons, dNil, dRet, dRetN, dLstM, dLstI, dTup, dget, dset, dNext, dDrop, dBreak, dCont, dIf, dAndV, dOrV, dNotV, dChain, dPar, dAug, dAsg, gdName, gdTup, gdCons, gdNil, gdSub, dCall, dBM, dBMX, dSl, dNoPart, dPart, dNever, List.append_nil, dDisp1K, dDisp1T, dLstRg, dLstRgM, dTupRg, dRg1, dRg2, dTimesM, dNewK, dYes, mk_def, dFldSet, dISeq, dIRng1, dIRng2, dIRng3, dIEnum, dIZip, dwipe, dclr, fII, fIIc, fIB, fLt, fLe, fGt, fGe, fAdd, fSub, fMul, fDiv, fMod, fPow, fNeg, f1, f2, dstart, List.map, List.length, List.replicate, decide_eq_true_eq, if_true, if_false, Bool.false_eq_true, Bool.not_true, Bool.not_false, reduceIte]
        simp only [fSl, tupK, lstD]
        rw [cut_map]
        have hlp : 0 < mvs.length := List.length_pos_iff.mpr hne
        have es : HT.sIx mvs.length 0 (some 1) = 1 := by
          rw [show (1 : Int) = ((1 : Nat) : Int) from rfl, HT.sIx_nat]; omega
        rw [es, HT.sIx_none]
        generalize hm2 : List.take (mvs.length - 1) (List.drop 1 mvs) = mv2
        have h2 : ∀ y ∈ mv2, IsPm n y := fun y hy => by
          rw [← hm2] at hy
          exact hmv y (List.mem_of_mem_drop (List.mem_of_mem_take hy))
        have h3 : mv2.length = mvs.length - 1 := by
          rw [← hm2, List.length_take, List.length_drop]; omega
        refine mem_both hn0 hn1 h2 (by omega) hl0 hl fun d hd => ?_
        refine hnx (if isNon d = true then mv2.length else 0) _ _ ?_ ⟨rfl, mv2, d, h2, by omega, ?_, _, rfl⟩
        · split <;> omega
        · rcases hd with ⟨rfl, hne⟩ | ⟨mem, rfl, G, hm⟩
          · exact .inl ⟨rfl, hne, rfl⟩
          · exact .inr ⟨mem, rfl, G, hm, rfl⟩
      · refine isn_ rfl ?_
        simp only [Bool.false_eq_true, if_false]
        exact fg (h n mem _ G hn1 hm hpm)
theorem seq_cut {t u : TSD} {De : DEnds} {δ : DEnv} {M : Mem} (J : DEnv → Mem → Prop) (h1 : ∀ Nx : DEnv → Mem → Prop, (∀ δ M, J δ M → Nx δ M) → t { De with nx := Nx } δ M) (h2 : ∀ δ M, J δ M → u De δ M) : dSeq t u De δ M := h1 (u De) h2
def sp_law_group (C : Addr) : SpD := fun ds M Q => ∃ (p : Addr) (l : Nat), ds = [.ref p, .int (l : Nat)] ∧ Pool M p ∧ 3 ≤ l ∧ l ≤ 48 ∧ ∀ n m M', IsGrp n m → n ≤ l → PS p M M' → Q (linesD n m) M'
theorem hl_law_group (C : Addr) : ∀ ds M Q, sp_law_group C ds M Q → ds.length = 2 := fun _ _ _ ⟨_, _, e, _⟩ => by rw [e]; rfl
theorem ok_law_group (C : Addr) : ∀ ds M Q, sp_law_group C ds M Q → r_law_group (sp_law_take C) (sp_law_lines C) (sp_law_small C) (sp_law_round C) (sp_law_product C) (sp_law_turned C) (sp_law_called C) (dEnd Q) (dstart N_law_group ds) M := by
  rintro ds M Q ⟨p, l, rfl, hP, hl0, hl, h⟩
  unfold r_law_group; simp only [dstart, N_law_group, List.map, List.length, List.replicate, List.append, HAppend.hAppend, Append.append]
  have hbig := big48
  (first | rw [seq_def] | (simp only [gdName, dset]; rw [seq_def])); simp only [dFor_def, lc_def, lc2_def, dSet, dC, dVar, dIfS, dOr, dAnd, dNot, dTest, dTru, dBin, dUn, dCB, f1, f2, dCons, dNil, dRet, dRetN, dLstM, dLstI, dTup, dget, dset, dNext, dDrop, dBreak, dCont, dIf, dAndV, dOrV, dNotV, dChain, dPar, dAug, dAsg, gdName, gdTup, gdCons, gdNil, gdSub, dCall, dBM, dBMX, dSl, dNoPart, dPart, dNever, List.append_nil, dDisp1K, dDisp1T, dLstRg, dLstRgM, dTupRg, dRg1, dRg2, dTimesM, dNewK, dYes, mk_def, dFldSet, dISeq, dIRng1, dIRng2, dIRng3, dIEnum, dIZip, dwipe, dclr, fII, fIIc, fIB, fLt, fLe, fGt, fGe, fAdd, fSub, fMul, fDiv, fMod, fPow, fNeg, f1, f2, dstart, List.map, List.length, List.replicate, decide_eq_true_eq, if_true, if_false, Bool.false_eq_true, Bool.not_true, Bool.not_false, reduceIte]
  refine ⟨p, _, rfl, hP, by decide, by decide, fun t M1 ht0 ht1 hps => ?_⟩
  (first | rw [seq_def] | (simp only [gdName, dset]; rw [seq_def])); simp only [dFor_def, lc_def, lc2_def, dSet, dC, dVar, dIfS, dOr, dAnd, dNot, dTest, dTru, dBin, dUn, dCB, f1, f2, dCons, dNil, dRet, dRetN, dLstM, dLstI, dTup, dget, dset, dNext, dDrop, dBreak, dCont, dIf, dAndV, dOrV, dNotV, dChain, dPar, dAug, dAsg, gdName, gdTup, gdCons, gdNil, gdSub, dCall, dBM, dBMX, dSl, dNoPart, dPart, dNever, List.append_nil, dDisp1K, dDisp1T, dLstRg, dLstRgM, dTupRg, dRg1, dRg2, dTimesM, dNewK, dYes, mk_def, dFldSet, dISeq, dIRng1, dIRng2, dIRng3, dIEnum, dIZip, dwipe, dclr, fII, fIIc, fIB, fLt, fLe, fGt, fGe, fAdd, fSub, fMul, fDiv, fMod, fPow, fNeg, f1, f2, dstart, List.map, List.length, List.replicate, decide_eq_true_eq, if_true, if_false, Bool.false_eq_true, Bool.not_true, Bool.not_false, reduceIte]
  refine ⟨p, l, rfl, hps.pool, by omega, hl, fun n1 mem M2 G hn1 hm hps2 => ?_⟩
  refine ⟨n1, mem, rfl, G, by omega, hn1, ?_⟩
  have hPS2 := hps.trans hps2
  have g1 := mem_grp G
  generalize memT mem = m1 at g1
  generalize mem.length = N1 at g1 hm
  clear G hps hps2
  simp only [dset]
  refine seq_cut (fun δ M' => ∃ n m, IsGrp n m ∧ n ≤ l ∧ PS p M M' ∧ ∃ x, δ = [some (.ref p), some (.int (l : Nat)), some (.int t), some (linesD n m), x]) (fun Nx hNx => ?_) ?_
  · (try simp only [dFor_def, lc_def, lc2_def, dSet, dC, dVar, dIfS, dOr, dAnd, dNot, dTest, dTru, dBin, dUn, dCB, f1, f2, dCons, dNil, dRet, dRetN, dLstM, dLstI, dTup, dget, dset, dNext, dDrop, dBreak, dCont, dIf, dAndV, dOrV, dNotV, dChain, dPar, dAug, dAsg, gdName, gdTup, gdCons, gdNil, gdSub, dCall, dBM, dBMX, dSl, dNoPart, dPart, dNever, List.append_nil, dDisp1K, dDisp1T, dLstRg, dLstRgM, dTupRg, dRg1, dRg2, dTimesM, dNewK, dYes, mk_def, dFldSet, dISeq, dIRng1, dIRng2, dIRng3, dIEnum, dIZip, dwipe, dclr, fII, fIIc, fIB, fLt, fLe, fGt, fGe, fAdd, fSub, fMul, fDiv, fMod, fPow, fNeg, f1, f2, dstart, List.map, List.length, List.replicate, decide_eq_true_eq, if_true, if_false, Bool.false_eq_true, Bool.not_true, Bool.not_false, reduceIte])
    refine eq_int ?_
    dsimp only
    split
    · refine ⟨p, _, rfl, hPS2.pool, by omega, by omega, fun u M3 hu0 hu1 hps3 => ?_⟩
      obtain ⟨u, rfl⟩ := Int.eq_ofNat_of_zero_le hu0
      refine plus_int ?_
      rw [show (1 : Int) + (u : Nat) = ((u + 1 : Nat) : Int) by omega]
      refine ⟨_, rfl, by omega, by omega, ?_⟩
      exact hNx _ _ ⟨u + 1, _, round_grp (by omega), by omega, hPS2.trans hps3, _, rfl⟩
    · exact hNx _ _ ⟨N1, m1, g1, hm, hPS2, _, rfl⟩
  rintro δ M' ⟨n, m, g, hn, hPS, _, rfl⟩
  refine seq_cut (fun δ M' => ∃ n m, IsGrp n m ∧ n ≤ l ∧ PS p M M' ∧ ∃ x, δ = [some (.ref p), some (.int (l : Nat)), some (.int t), some (linesD n m), x]) (fun Nx hNx => ?_) ?_
  · (try simp only [dFor_def, lc_def, lc2_def, dSet, dC, dVar, dIfS, dOr, dAnd, dNot, dTest, dTru, dBin, dUn, dCB, f1, f2, dCons, dNil, dRet, dRetN, dLstM, dLstI, dTup, dget, dset, dNext, dDrop, dBreak, dCont, dIf, dAndV, dOrV, dNotV, dChain, dPar, dAug, dAsg, gdName, gdTup, gdCons, gdNil, gdSub, dCall, dBM, dBMX, dSl, dNoPart, dPart, dNever, List.append_nil, dDisp1K, dDisp1T, dLstRg, dLstRgM, dTupRg, dRg1, dRg2, dTimesM, dNewK, dYes, mk_def, dFldSet, dISeq, dIRng1, dIRng2, dIRng3, dIEnum, dIZip, dwipe, dclr, fII, fIIc, fIB, fLt, fLe, fGt, fGe, fAdd, fSub, fMul, fDiv, fMod, fPow, fNeg, f1, f2, dstart, List.map, List.length, List.replicate, decide_eq_true_eq, if_true, if_false, Bool.false_eq_true, Bool.not_true, Bool.not_false, reduceIte])
    refine eq_int ?_
    dsimp only
    split
    · (first | rw [seq_def] | (simp only [gdName, dset]; rw [seq_def])); simp only [dFor_def, lc_def, lc2_def, dSet, dC, dVar, dIfS, dOr, dAnd, dNot, dTest, dTru, dBin, dUn, dCB, f1, f2, dCons, dNil, dRet, dRetN, dLstM, dLstI, dTup, dget, dset, dNext, dDrop, dBreak, dCont, dIf, dAndV, dOrV, dNotV, dChain, dPar, dAug, dAsg, gdName, gdTup, gdCons, gdNil, gdSub, dCall, dBM, dBMX, dSl, dNoPart, dPart, dNever, List.append_nil, dDisp1K, dDisp1T, dLstRg, dLstRgM, dTupRg, dRg1, dRg2, dTimesM, dNewK, dYes, mk_def, dFldSet, dISeq, dIRng1, dIRng2, dIRng3, dIEnum, dIZip, dwipe, dclr, fII, fIIc, fIB, fLt, fLe, fGt, fGe, fAdd, fSub, fMul, fDiv, fMod, fPow, fNeg, f1, f2, dstart, List.map, List.length, List.replicate, decide_eq_true_eq, if_true, if_false, Bool.false_eq_true, Bool.not_true, Bool.not_false, reduceIte]
      refine ⟨p, _, rfl, hPS.pool, by decide, by decide, fun u M3 hu0 hu1 hps3 => ?_⟩
      obtain ⟨f, rfl⟩ := Int.eq_ofNat_of_zero_le hu0
      refine plus_int ?_
      rw [show (f : Nat) + (1 : Int) = ((f + 1 : Nat) : Int) by omega]
      have hf3 : f + 1 ≤ 3 := by omega
      generalize hF : f + 1 = F at hf3
      have hF0 : 0 < F := by omega
      (try simp only [dFor_def, lc_def, lc2_def, dSet, dC, dVar, dIfS, dOr, dAnd, dNot, dTest, dTru, dBin, dUn, dCB, f1, f2, dCons, dNil, dRet, dRetN, dLstM, dLstI, dTup, dget, dset, dNext, dDrop, dBreak, dCont, dIf, dAndV, dOrV, dNotV, dChain, dPar, dAug, dAsg, gdName, gdTup, gdCons, gdNil, gdSub, dCall, dBM, dBMX, dSl, dNoPart, dPart, dNever, List.append_nil, dDisp1K, dDisp1T, dLstRg, dLstRgM, dTupRg, dRg1, dRg2, dTimesM, dNewK, dYes, mk_def, dFldSet, dISeq, dIRng1, dIRng2, dIRng3, dIEnum, dIZip, dwipe, dclr, fII, fIIc, fIB, fLt, fLe, fGt, fGe, fAdd, fSub, fMul, fDiv, fMod, fPow, fNeg, f1, f2, dstart, List.map, List.length, List.replicate, decide_eq_true_eq, if_true, if_false, Bool.false_eq_true, Bool.not_true, Bool.not_false, reduceIte])
      refine ⟨_, rfl, hF0, by omega, ?_⟩
      refine ⟨⟨by omega, by omega⟩, ?_⟩
      rw [show ((l : Nat) : Int) / ((F : Nat) : Int) = ((l / F : Nat) : Int) from (Int.natCast_ediv l F).symm]
      have hdl : 0 < l / F := Nat.div_pos (by omega) hF0
      have hdl2 : l / F ≤ l := Nat.div_le_self _ _
      refine ⟨p, _, rfl, (hPS.trans hps3).pool, by omega, by omega, fun v M4 hv0 hv1 hps4 => ?_⟩
      obtain ⟨v, rfl⟩ := Int.eq_ofNat_of_zero_le hv0
      refine plus_int ?_
      rw [show (1 : Int) + (v : Nat) = ((v + 1 : Nat) : Int) by omega]
      refine ⟨_, rfl, by omega, by omega, ?_⟩
      have hml : F * (v + 1) ≤ l := Nat.le_trans (Nat.mul_le_mul_left F (by omega)) (Nat.mul_div_le l F)
      have r1 := round_grp hF0
      have r2 := round_grp (k := v + 1) (by omega)
      refine ⟨F, v + 1, _, _, rfl, r1, r2, by omega, ?_⟩
      exact hNx _ _ ⟨F * (v + 1), _, prod_grp r1 r2, hml, (hPS.trans hps3).trans hps4, _, rfl⟩
    · exact hNx _ _ ⟨n, m, g, hn, hPS, _, rfl⟩
  clear g hn hPS
  rintro δ M' ⟨n, m, g, hn, hPS, _, rfl⟩
  refine seq_cut (fun δ M' => ∃ n m, IsGrp n m ∧ n ≤ l ∧ PS p M M' ∧ ∃ x, δ = [some (.ref p), some (.int (l : Nat)), some (.int t), some (linesD n m), x]) (fun Nx hNx => ?_) ?_
  · (try simp only [dFor_def, lc_def, lc2_def, dSet, dC, dVar, dIfS, dOr, dAnd, dNot, dTest, dTru, dBin, dUn, dCB, f1, f2, dCons, dNil, dRet, dRetN, dLstM, dLstI, dTup, dget, dset, dNext, dDrop, dBreak, dCont, dIf, dAndV, dOrV, dNotV, dChain, dPar, dAug, dAsg, gdName, gdTup, gdCons, gdNil, gdSub, dCall, dBM, dBMX, dSl, dNoPart, dPart, dNever, List.append_nil, dDisp1K, dDisp1T, dLstRg, dLstRgM, dTupRg, dRg1, dRg2, dTimesM, dNewK, dYes, mk_def, dFldSet, dISeq, dIRng1, dIRng2, dIRng3, dIEnum, dIZip, dwipe, dclr, fII, fIIc, fIB, fLt, fLe, fGt, fGe, fAdd, fSub, fMul, fDiv, fMod, fPow, fNeg, f1, f2, dstart, List.map, List.length, List.replicate, decide_eq_true_eq, if_true, if_false, Bool.false_eq_true, Bool.not_true, Bool.not_false, reduceIte])
    refine ⟨p, _, rfl, hPS.pool, by decide, by decide, fun u M3 hu0 hu1 hps3 => ?_⟩
    refine eq_int ?_
    dsimp only
    split
    · refine len_lines ?_
      refine ⟨p, n, rfl, (hPS.trans hps3).pool, g.pos, by omega, fun r M4 hr hr0 hps4 => ?_⟩
      refine ⟨n, m, r, rfl, g, by omega, hr, fun m' hm' => ?_⟩
      exact hNx _ _ ⟨n, m', turn_grp g hr hr0 hm', hn, (hPS.trans hps3).trans hps4, _, rfl⟩
    · exact hNx _ _ ⟨n, m, g, hn, hPS.trans hps3, _, rfl⟩
  clear g hn hPS
  rintro δ M' ⟨n, m, g, hn, hPS, _, rfl⟩
  (try simp only [dFor_def, lc_def, lc2_def, dSet, dC, dVar, dIfS, dOr, dAnd, dNot, dTest, dTru, dBin, dUn, dCB, f1, f2, dCons, dNil, dRet, dRetN, dLstM, dLstI, dTup, dget, dset, dNext, dDrop, dBreak, dCont, dIf, dAndV, dOrV, dNotV, dChain, dPar, dAug, dAsg, gdName, gdTup, gdCons, gdNil, gdSub, dCall, dBM, dBMX, dSl, dNoPart, dPart, dNever, List.append_nil, dDisp1K, dDisp1T, dLstRg, dLstRgM, dTupRg, dRg1, dRg2, dTimesM, dNewK, dYes, mk_def, dFldSet, dISeq, dIRng1, dIRng2, dIRng3, dIEnum, dIZip, dwipe, dclr, fII, fIIc, fIB, fLt, fLe, fGt, fGe, fAdd, fSub, fMul, fDiv, fMod, fPow, fNeg, f1, f2, dstart, List.map, List.length, List.replicate, decide_eq_true_eq, if_true, if_false, Bool.false_eq_true, Bool.not_true, Bool.not_false, reduceIte])
  exact fg (h n m M' g hn hPS)
end T74
end
section
set_option Elab.async false
set_option linter.all false
namespace T74
/-- what leads reach -/
inductive Gen (m : N2) (ls : List Nat) : Nat → Prop
  | one : Gen m ls 0
  | more {x l : Nat} : Gen m ls x → l ∈ ls → Gen m ls (m x l)
theorem Gen.mono {m : N2} {ls ls' : List Nat} (h : ∀ l ∈ ls, l ∈ ls') {x : Nat} (g : Gen m ls x) : Gen m ls' x := by
  induction g with
  | one => exact .one
  | more _ hl ih => exact .more ih (h _ hl)
section
variable {n : Nat} {m : N2} (g : IsGrp n m) {ls : List Nat} (hl : ∀ l ∈ ls, l < n)
include g hl
theorem gen_lt {x : Nat} (h : Gen m ls x) : x < n := by
  induction h with
  | one => exact g.pos
  | more _ h1 ih => exact g.clo _ _ ih (hl _ h1)
theorem gen_mul {x y : Nat} (hx : Gen m ls x) (hy : Gen m ls y) : Gen m ls (m x y) := by
  induction hy with
  | one => rw [g.ri0 _ (gen_lt g hl hx)]; exact hx
  | more h1 h2 ih =>
    rw [← g.ass _ _ _ (gen_lt g hl hx) (gen_lt g hl h1) (hl _ h2)]
    exact .more ih h2
theorem gen_pw {x : Nat} (hx : Gen m ls x) : ∀ k, Gen m ls (pw m x k)
  | 0 => .one
  | k + 1 => gen_mul g hl (gen_pw hx k) hx
/-- if x, x*l are both reached, so is l -/
theorem gen_div {x l : Nat} (hx : Gen m ls x) (hln : l < n) (h : Gen m ls (m x l)) : Gen m ls l := by
  have hxn := gen_lt g hl hx
  obtain ⟨k, hk0, hk⟩ := pw_ex g hxn
  obtain ⟨k, rfl⟩ : ∃ j, k = j + 1 := ⟨k - 1, by omega⟩
  have h1 := gen_mul g hl (gen_pw g hl hx k) h
  rw [← g.ass _ _ _ (pw_lt g hxn k) hxn hln] at h1
  rw [show m (pw m x k) x = 0 from hk, g.le0 l hln] at h1
  exact h1
theorem gen_dbl {xs : List Nat} {l : Nat} (h1 : ∀ x ∈ xs, Gen m ls x) (nd : xs.Nodup) (hln : l < n) (hnl : ¬ Gen m ls l) : (xs ++ xs.map fun x => m x l).Nodup ∧ ∀ x ∈ xs ++ xs.map (fun x => m x l), Gen m (ls ++ [l]) x := by
  constructor
  · rw [List.nodup_append]
    refine ⟨nd, ?_, fun a ha b hb e => ?_⟩
    · rw [List.nodup_iff_pairwise_ne, List.pairwise_map]
      refine List.Pairwise.imp_of_mem (fun {a b} ha hb hne e => ?_) (List.nodup_iff_pairwise_ne.mp nd)
      exact hne (g.canR (gen_lt g hl (h1 a ha)) (gen_lt g hl (h1 b hb)) hln e)
    · obtain ⟨c, hc, rfl⟩ := List.mem_map.mp hb
      exact hnl (gen_div g hl (h1 c hc) hln (e ▸ h1 a ha))
  · intro x hx
    rcases List.mem_append.mp hx with h | h
    · exact (h1 x h).mono fun l hl => List.mem_append_left _ hl
    · obtain ⟨c, hc, rfl⟩ := List.mem_map.mp h
      exact .more ((h1 c hc).mono fun l hl => List.mem_append_left _ hl) (by simp)
end
structure Leads (n : Nat) (m : N2) (ls : List Nat) : Prop where
  lt : ∀ l ∈ ls, l < n
  all : ∀ x, x < n → Gen m ls x
  new : ∀ k, k < ls.length → ¬ Gen m (ls.take k) (ap ls k)
  low : ∀ k, k < ls.length → ∀ j, j < ap ls k → Gen m (ls.take k) j
theorem leads_few {n : Nat} {m : N2} (g : IsGrp n m) {ls : List Nat} (L : Leads n m ls) : 2 ^ ls.length ≤ n := by
  have key : ∀ k, k ≤ ls.length → ∃ xs : List Nat, xs.Nodup ∧ (∀ x ∈ xs, Gen m (ls.take k) x) ∧ xs.length = 2 ^ k := by
    intro k
    induction k with
    | zero => intro _; exact ⟨[0], by simp, fun x hx => by rw [List.mem_singleton.mp hx]; exact .one, rfl⟩
    | succ k ih =>
      intro hk
      obtain ⟨xs, h1, h2, h3⟩ := ih (by omega)
      have hlt : ∀ l ∈ ls.take k, l < n := fun l h => L.lt l (List.mem_of_mem_take h)
      have e : ls.take (k + 1) = ls.take k ++ [ap ls k] := by
        rw [ap_eq (by omega), List.take_succ_eq_append_getElem (by omega)]
      have hm : ap ls k < n := by rw [ap_eq (by omega)]; exact L.lt _ (List.getElem_mem _)
      obtain ⟨p1, p2⟩ := gen_dbl g hlt h2 h1 hm (L.new k (by omega))
      refine ⟨_, p1, fun x hx => by rw [e]; exact p2 x hx, ?_⟩
      rw [List.length_append, List.length_map, h3, Nat.pow_succ]; omega
  obtain ⟨xs, h1, h2, h3⟩ := key ls.length (Nat.le_refl _)
  rw [← h3]
  exact nodup_lt h1 fun x hx => gen_lt g (fun l h => L.lt l (List.mem_of_mem_take h)) (h2 x hx)
theorem leads_3 {n : Nat} {m : N2} (g : IsGrp n m) {ls : List Nat} (L : Leads n m ls) (h : n ≤ 12) : ls.length ≤ 3 := by
  have h1 := leads_few g L
  apply Classical.byContradiction
  intro c
  have : 2 ^ 4 ≤ 2 ^ ls.length := Nat.pow_le_pow_right (by omega) (by omega)
  omega
end T74
end
section
set_option Elab.async false
set_option linter.all false
set_option maxRecDepth 100000
set_option maxHeartbeats 4000000
namespace T74
open DL PySem PySem.Spec PyProof.Rows L2
/-- a set of numbers kept in a dict -/
def kvK (ks : List Nat) : List (Key × D) := ks.map fun x => ((Sum.inl ((x : Nat) : Int) : Key), .bl true)
theorem kvK_len {ks : List Nat} : (kvK ks).length = ks.length := List.length_map _
theorem inl_inj {x y : Nat} (h : (Sum.inl ((x : Nat) : Int) : Key) = Sum.inl ((y : Nat) : Int)) : x = y := by
  have := Sum.inl.inj h
  omega
theorem kvK_has {ks : List Nat} {r : Nat} : (valA (kvK ks) (.inl ((r : Nat) : Int))).isSome = decide (r ∈ ks) := by
  by_cases h : r ∈ ks
  · unfold kvK
    rw [valA_map (f := fun x : Nat => (Sum.inl ((x : Nat) : Int) : Key)) (g := fun _ => D.bl true) (fun x _ e => inl_inj e) h, decide_eq_true h]; rfl
  · rw [valA_none, decide_eq_false h]; rfl
    intro kv hkv e
    obtain ⟨x, hx, rfl⟩ := List.mem_map.mp hkv
    exact h (inl_inj e ▸ hx)
theorem kvK_put {ks : List Nat} {r : Nat} (h : r ∉ ks) : putA (kvK ks) (.inl ((r : Nat) : Int)) (.bl true) = kvK (ks ++ [r]) := by
  rw [putA_new]
  · unfold kvK; rw [List.map_append]; rfl
  · intro kv hkv e
    obtain ⟨x, hx, rfl⟩ := List.mem_map.mp hkv
    exact h (inl_inj e ▸ hx)
def sp_spread (C : Addr) : SpD := fun ds M Q => ∃ n m ls, ds = [tabD C n m, .tup (nD ls)] ∧ IsGrp n m ∧ n ≤ 48 ∧ (∀ l ∈ ls, l < n) ∧ ls.length ≤ 48 ∧ ∀ xs : List Nat, (∀ x, x ∈ xs ↔ Gen m ls x) → xs.Nodup → Q (.tup (nD xs)) M
theorem hl_spread (C : Addr) : ∀ ds M Q, sp_spread C ds M Q → ds.length = 2 := fun _ _ _ ⟨_, _, _, e, _⟩ => by rw [e]; rfl
theorem tru_lst {M : Mem} {q : Addr} {ds : List D} (h : M q = some (.lst ds)) : truD M (.ref q) = some (!decide (ds.length = 0)) := by
  unfold truD truM
  dsimp only
  rw [h]
  cases ds <;> simp
theorem sortI_kvK {M : Mem} {p : Addr} {ks : List Nat} {Q : KD} (h : M p = some (.dK (kvK ks))) (h2 : ks.length < 64) (q : ∀ xs : List Nat, xs.Perm ks → Q (.lst (nD xs)) M) : gSortI M (.ref p) Q := by
  unfold gSortI
  rw [show (lstD M (.ref p)).bind intsD = none by simp [lstD, seqM, h]]
  dsimp only
  rw [show dictK M (.ref p) = some (kvK ks) by simp [dictK, dkM, h]]
  dsimp only
  refine ⟨by rw [kvK_len]; exact h2, ?_⟩
  have key : ∀ f : Key × D → D, (∀ x : Nat, f (.inl ((x : Nat) : Int), .bl true) = .int (x : Nat)) → intsD ((kvK ks).map f) = some (natsI ks) := fun f hf => by
    have : (kvK ks).map f = (natsI ks).map D.int := by
      unfold kvK natsI
      rw [List.map_map, List.map_map]
      exact List.map_congr_left fun x _ => hf x
    rw [this]; exact intsD_map _
  rw [key _ fun x => rfl]
  rintro ns' ⟨hs, _⟩
  obtain ⟨xs, pe, rfl⟩ := perm_map_inv hs
  exact q xs pe
theorem ok_spread (C : Addr) : ∀ ds M Q, sp_spread C ds M Q → r_spread C (dEnd Q) (dstart N_spread ds) M := by
  rintro ds M Q ⟨n, m, ls, rfl, g, hn, hls, hll, h⟩
  unfold r_spread; simp only [dstart, N_spread, List.map, List.length, List.replicate, List.append, HAppend.hAppend, Append.append]
  have hbig := big48
  (first | rw [seq_def] | (simp only [gdName, dset]; rw [seq_def])); simp only [dFor_def, lc_def, lc2_def, dSet, dC, dVar, dIfS, dOr, dAnd, dNot, dTest, dTru, dBin, dUn, dCB, f1, f2, dCons, dNil, dRet, dRetN, dLstM, dLstI, dTup, dget, dset, dNext, dDrop, dBreak, dCont, dIf, dAndV, dOrV, dNotV, dChain, dPar, dAug, dAsg, gdName, gdTup, gdCons, gdNil, gdSub, dCall, dBM, dBMX, dSl, dNoPart, dPart, dNever, List.append_nil, dDisp1K, dDisp1T, dLstRg, dLstRgM, dTupRg, dRg1, dRg2, dTimesM, dNewK, dYes, mk_def, dFldSet, dISeq, dIRng1, dIRng2, dIRng3, dIEnum, dIZip, dwipe, dclr, fII, fIIc, fIB, fLt, fLe, fGt, fGe, fAdd, fSub, fMul, fDiv, fMod, fPow, fNeg, f1, f2, dstart, List.map, List.length, List.replicate, decide_eq_true_eq, if_true, if_false, Bool.false_eq_true, Bool.not_true, Bool.not_false, reduceIte]
  rw [show keyD (.int 0) = some (.inl 0) from rfl]
  intro p hp
  refine ⟨by decide, fun q hq => ?_⟩
  have hqp : q ≠ p := fun e => by rw [e, mupd_same] at hq; cases hq
  have hMq : M q = none := (Sup.new hp).none hq
  have hend : ∀ ks ws, Sup M (mupd (mupd M p (.dK (kvK ks))) q (.lst (ws : List D))) := fun ks ws => (Sup.new hp).upd hMq
  have gq : ∀ ks (ws : List D), mupd (mupd M p (.dK (kvK ks))) q (.lst ws) q = some (.lst ws) := fun ks ws => mupd_same
  have gp : ∀ ks (ws : List D), mupd (mupd M p (.dK (kvK ks))) q (.lst ws) p = some (.dK (kvK ks)) := fun ks ws => by rw [mupd_ne (Ne.symm hqp)]; exact mupd_same
  (first | rw [seq_def] | (simp only [gdName, dset]; rw [seq_def])); simp only [dFor_def, lc_def, lc2_def, dSet, dC, dVar, dIfS, dOr, dAnd, dNot, dTest, dTru, dBin, dUn, dCB, f1, f2, dCons, dNil, dRet, dRetN, dLstM, dLstI, dTup, dget, dset, dNext, dDrop, dBreak, dCont, dIf, dAndV, dOrV, dNotV, dChain, dPar, dAug, dAsg, gdName, gdTup, gdCons, gdNil, gdSub, dCall, dBM, dBMX, dSl, dNoPart, dPart, dNever, List.append_nil, dDisp1K, dDisp1T, dLstRg, dLstRgM, dTupRg, dRg1, dRg2, dTimesM, dNewK, dYes, mk_def, dFldSet, dISeq, dIRng1, dIRng2, dIRng3, dIEnum, dIZip, dwipe, dclr, fII, fIIc, fIB, fLt, fLe, fGt, fGe, fAdd, fSub, fMul, fDiv, fMod, fPow, fNeg, f1, f2, dstart, List.map, List.length, List.replicate, decide_eq_true_eq, if_true, if_false, Bool.false_eq_true, Bool.not_true, Bool.not_false, reduceIte]
  refine while_inv (fun k δ M' => ∃ ks ws : List Nat, M' = mupd (mupd M p (.dK (kvK ks))) q (.lst (nD ws)) ∧ (∀ x ∈ ks, Gen m ls x) ∧ ks.Nodup ∧ 0 ∈ ks ∧ (∀ w ∈ ws, w ∈ ks) ∧ (∀ x ∈ ks, x ∉ ws → ∀ y ∈ ls, m x y ∈ ks) ∧ ws.length ≤ ks.length ∧ k = ws.length + 2 * (n - ks.length) ∧
    ∃ a b c, δ = [some (tabD C n m), some (.tup (nD ls)), some (.ref p), some (.ref q), a, b, c]) (1 + 2 * (n - 1)) ⟨[0], [0], rfl, fun x hx => by rw [List.mem_singleton.mp hx]; exact .one, by simp, by simp, fun w hw => hw, fun x hx h => absurd hx h, Nat.le_refl _, rfl, _, _, _, rfl⟩ ?_
  rintro k δ M' Nx ⟨ks, ws, rfl, hR, hnd, hid, hw, hcl, hwk, hk, _, _, _, rfl⟩ hnx
  have hkl : ks.length ≤ n := nodup_lt hnd fun x hx => gen_lt g hls (hR x hx)
  (try simp only [dFor_def, lc_def, lc2_def, dSet, dC, dVar, dIfS, dOr, dAnd, dNot, dTest, dTru, dBin, dUn, dCB, f1, f2, dCons, dNil, dRet, dRetN, dLstM, dLstI, dTup, dget, dset, dNext, dDrop, dBreak, dCont, dIf, dAndV, dOrV, dNotV, dChain, dPar, dAug, dAsg, gdName, gdTup, gdCons, gdNil, gdSub, dCall, dBM, dBMX, dSl, dNoPart, dPart, dNever, List.append_nil, dDisp1K, dDisp1T, dLstRg, dLstRgM, dTupRg, dRg1, dRg2, dTimesM, dNewK, dYes, mk_def, dFldSet, dISeq, dIRng1, dIRng2, dIRng3, dIEnum, dIZip, dwipe, dclr, fII, fIIc, fIB, fLt, fLe, fGt, fGe, fAdd, fSub, fMul, fDiv, fMod, fPow, fNeg, f1, f2, dstart, List.map, List.length, List.replicate, decide_eq_true_eq, if_true, if_false, Bool.false_eq_true, Bool.not_true, Bool.not_false, reduceIte])
  rw [tru_lst (gq _ _), nD_len]
  dsimp only
  by_cases hws : ws = []
  · subst hws
    simp only [List.length_nil, decide_true, Bool.not_true, if_false, Bool.false_eq_true]
    refine sortI_kvK (gp _ _) (by omega) fun xs pe => ?_
    have hclo : ∀ x, x ∈ xs ↔ Gen m ls x := fun x => by
      rw [pe.mem_iff]
      refine ⟨hR x, fun hx => ?_⟩
      induction hx with
      | one => exact hid
      | more _ hl ih => exact hcl _ ih (by simp) _ hl
    exact fg_sup (h xs hclo (pe.nodup_iff.mpr hnd)) (hend _ _)
  · have hwl : ws.length ≠ 0 := fun e => hws (List.length_eq_zero_iff.mp e)
    simp only [decide_eq_false hwl, Bool.not_false, if_true]
    obtain ⟨ws0, one, rfl⟩ : ∃ a b, ws = a ++ [b] := ⟨ws.dropLast, ws.getLast hws, (List.dropLast_concat_getLast hws).symm⟩
    (first | rw [seq_def] | (simp only [gdName, dset]; rw [seq_def])); simp only [dFor_def, lc_def, lc2_def, dSet, dC, dVar, dIfS, dOr, dAnd, dNot, dTest, dTru, dBin, dUn, dCB, f1, f2, dCons, dNil, dRet, dRetN, dLstM, dLstI, dTup, dget, dset, dNext, dDrop, dBreak, dCont, dIf, dAndV, dOrV, dNotV, dChain, dPar, dAug, dAsg, gdName, gdTup, gdCons, gdNil, gdSub, dCall, dBM, dBMX, dSl, dNoPart, dPart, dNever, List.append_nil, dDisp1K, dDisp1T, dLstRg, dLstRgM, dTupRg, dRg1, dRg2, dTimesM, dNewK, dYes, mk_def, dFldSet, dISeq, dIRng1, dIRng2, dIRng3, dIEnum, dIZip, dwipe, dclr, fII, fIIc, fIB, fLt, fLe, fGt, fGe, fAdd, fSub, fMul, fDiv, fMod, fPow, fNeg, f1, f2, dstart, List.map, List.length, List.replicate, decide_eq_true_eq, if_true, if_false, Bool.false_eq_true, Bool.not_true, Bool.not_false, reduceIte]
    rw [List.length_append] at hwk
    simp only [List.length_cons, List.length_nil] at hwk
    rw [nD_app]
    refine ⟨ty_lst (gq _ _), pop_ (gq _ _) ?_⟩
    rw [mupd_mupd]
    (try simp only [dFor_def, lc_def, lc2_def, dSet, dC, dVar, dIfS, dOr, dAnd, dNot, dTest, dTru, dBin, dUn, dCB, f1, f2, dCons, dNil, dRet, dRetN, dLstM, dLstI, dTup, dget, dset, dNext, dDrop, dBreak, dCont, dIf, dAndV, dOrV, dNotV, dChain, dPar, dAug, dAsg, gdName, gdTup, gdCons, gdNil, gdSub, dCall, dBM, dBMX, dSl, dNoPart, dPart, dNever, List.append_nil, dDisp1K, dDisp1T, dLstRg, dLstRgM, dTupRg, dRg1, dRg2, dTimesM, dNewK, dYes, mk_def, dFldSet, dISeq, dIRng1, dIRng2, dIRng3, dIEnum, dIZip, dwipe, dclr, fII, fIIc, fIB, fLt, fLe, fGt, fGe, fAdd, fSub, fMul, fDiv, fMod, fPow, fNeg, f1, f2, dstart, List.map, List.length, List.replicate, decide_eq_true_eq, if_true, if_false, Bool.false_eq_true, Bool.not_true, Bool.not_false, reduceIte])
    have hone : one ∈ ks := hw one (by simp)
    have hpone := gen_lt g hls (hR one hone)
    refine for_inv (fun j δ M' => ∃ ks' ws' : List Nat, M' = mupd (mupd M p (.dK (kvK ks'))) q (.lst (nD ws')) ∧ (∀ x ∈ ks', Gen m ls x) ∧ ks'.Nodup ∧ (∀ x ∈ ks, x ∈ ks') ∧ (∀ k, k < j → m one (ap ls k) ∈ ks') ∧ (∀ w ∈ ws', w ∈ ks') ∧
      (∀ x ∈ ks', x ∉ ws' → x ≠ one → ∀ y ∈ ls, m x y ∈ ks') ∧ ks'.length + ws0.length = ks.length + ws'.length ∧ ks.length ≤ ks'.length ∧
      ∃ b c, δ = [some (tabD C n m), some (.tup (nD ls)), some (.ref p), some (.ref q), some (.int (one : Nat)), b, c])
      ⟨ks, ws0, rfl, hR, hnd, fun x hx => hx, fun k hk => by omega, fun w h => hw w (by simp [h]), fun x hx h1 h2 => hcl x hx (by simp [h1, h2]), rfl, Nat.le_refl _, _, _, rfl⟩ (fun j d δ M' Nx2 hd hI hnx2 => ?_) (fun δ M' hI => ?_)
    · obtain ⟨ks', ws', rfl, hR', hnd', hsub, hdone, hw', hcl', hlen, hlk, _, _, rfl⟩ := hI
      obtain ⟨hj, rfl⟩ := nD_inv hd
      have hkl' : ks'.length ≤ n := nodup_lt hnd' fun x hx => gen_lt g hls (hR' x hx)
      have hy : ap ls j ∈ ls := by rw [ap_eq hj]; exact List.getElem_mem _
      refine ⟨rfl, ?_⟩
      (first | rw [seq_def] | (simp only [gdName, dset]; rw [seq_def])); simp only [dFor_def, lc_def, lc2_def, dSet, dC, dVar, dIfS, dOr, dAnd, dNot, dTest, dTru, dBin, dUn, dCB, f1, f2, dCons, dNil, dRet, dRetN, dLstM, dLstI, dTup, dget, dset, dNext, dDrop, dBreak, dCont, dIf, dAndV, dOrV, dNotV, dChain, dPar, dAug, dAsg, gdName, gdTup, gdCons, gdNil, gdSub, dCall, dBM, dBMX, dSl, dNoPart, dPart, dNever, List.append_nil, dDisp1K, dDisp1T, dLstRg, dLstRgM, dTupRg, dRg1, dRg2, dTimesM, dNewK, dYes, mk_def, dFldSet, dISeq, dIRng1, dIRng2, dIRng3, dIEnum, dIZip, dwipe, dclr, fII, fIIc, fIB, fLt, fLe, fGt, fGe, fAdd, fSub, fMul, fDiv, fMod, fPow, fNeg, f1, f2, dstart, List.map, List.length, List.replicate, decide_eq_true_eq, if_true, if_false, Bool.false_eq_true, Bool.not_true, Bool.not_false, reduceIte]
      refine fld_tab rfl ?_
      refine ix_line hpone ?_
      refine ix_cell (hls _ hy) ?_
      (try simp only [dFor_def, lc_def, lc2_def, dSet, dC, dVar, dIfS, dOr, dAnd, dNot, dTest, dTru, dBin, dUn, dCB, f1, f2, dCons, dNil, dRet, dRetN, dLstM, dLstI, dTup, dget, dset, dNext, dDrop, dBreak, dCont, dIf, dAndV, dOrV, dNotV, dChain, dPar, dAug, dAsg, gdName, gdTup, gdCons, gdNil, gdSub, dCall, dBM, dBMX, dSl, dNoPart, dPart, dNever, List.append_nil, dDisp1K, dDisp1T, dLstRg, dLstRgM, dTupRg, dRg1, dRg2, dTimesM, dNewK, dYes, mk_def, dFldSet, dISeq, dIRng1, dIRng2, dIRng3, dIEnum, dIZip, dwipe, dclr, fII, fIIc, fIB, fLt, fLe, fGt, fGe, fAdd, fSub, fMul, fDiv, fMod, fPow, fNeg, f1, f2, dstart, List.map, List.length, List.replicate, decide_eq_true_eq, if_true, if_false, Bool.false_eq_true, Bool.not_true, Bool.not_false, reduceIte])
      refine nin_dK (gp _ _) ?_
      rw [kvK_has]
      generalize hval : m one (ap ls j) = v at hdone
      by_cases hin : v ∈ ks'
      · simp only [decide_eq_true hin, Bool.not_true, if_false, Bool.false_eq_true]
        refine hnx2 _ _ ⟨ks', ws', rfl, hR', hnd', hsub, fun k hk => ?_, hw', hcl', hlen, hlk, _, _, rfl⟩
        by_cases e : k = j
        · rw [e, hval]; exact hin
        · exact hdone k (by omega)
      · simp only [decide_eq_false hin, Bool.not_false, if_true]
        (first | rw [seq_def] | (simp only [gdName, dset]; rw [seq_def])); simp only [dFor_def, lc_def, lc2_def, dSet, dC, dVar, dIfS, dOr, dAnd, dNot, dTest, dTru, dBin, dUn, dCB, f1, f2, dCons, dNil, dRet, dRetN, dLstM, dLstI, dTup, dget, dset, dNext, dDrop, dBreak, dCont, dIf, dAndV, dOrV, dNotV, dChain, dPar, dAug, dAsg, gdName, gdTup, gdCons, gdNil, gdSub, dCall, dBM, dBMX, dSl, dNoPart, dPart, dNever, List.append_nil, dDisp1K, dDisp1T, dLstRg, dLstRgM, dTupRg, dRg1, dRg2, dTimesM, dNewK, dYes, mk_def, dFldSet, dISeq, dIRng1, dIRng2, dIRng3, dIEnum, dIZip, dwipe, dclr, fII, fIIc, fIB, fLt, fLe, fGt, fGe, fAdd, fSub, fMul, fDiv, fMod, fPow, fNeg, f1, f2, dstart, List.map, List.length, List.replicate, decide_eq_true_eq, if_true, if_false, Bool.false_eq_true, Bool.not_true, Bool.not_false, reduceIte]
        refine set_dK (gp _ _) (by rw [kvK_len]; omega) ?_
        rw [kvK_put hin]
        (try simp only [dFor_def, lc_def, lc2_def, dSet, dC, dVar, dIfS, dOr, dAnd, dNot, dTest, dTru, dBin, dUn, dCB, f1, f2, dCons, dNil, dRet, dRetN, dLstM, dLstI, dTup, dget, dset, dNext, dDrop, dBreak, dCont, dIf, dAndV, dOrV, dNotV, dChain, dPar, dAug, dAsg, gdName, gdTup, gdCons, gdNil, gdSub, dCall, dBM, dBMX, dSl, dNoPart, dPart, dNever, List.append_nil, dDisp1K, dDisp1T, dLstRg, dLstRgM, dTupRg, dRg1, dRg2, dTimesM, dNewK, dYes, mk_def, dFldSet, dISeq, dIRng1, dIRng2, dIRng3, dIEnum, dIZip, dwipe, dclr, fII, fIIc, fIB, fLt, fLe, fGt, fGe, fAdd, fSub, fMul, fDiv, fMod, fPow, fNeg, f1, f2, dstart, List.map, List.length, List.replicate, decide_eq_true_eq, if_true, if_false, Bool.false_eq_true, Bool.not_true, Bool.not_false, reduceIte])
        have em : mupd (mupd (mupd M p (.dK (kvK ks'))) q (.lst (nD ws'))) p (.dK (kvK (ks' ++ [v]))) = mupd (mupd M p (.dK (kvK (ks' ++ [v])))) q (.lst (nD ws')) := by
          rw [mupd_comm hqp, mupd_mupd]
        rw [em]
        refine ⟨ty_lst (gq _ _), app_ (gq _ _) (by rw [nD_len]; omega) ?_⟩
        rw [mupd_mupd]
        refine hnx2 _ _ ⟨ks' ++ [v], ws' ++ [v], by rw [nD_app]; rfl, fun x hx => ?_, ?_, fun x hx => List.mem_append_left _ (hsub x hx), fun k hk => ?_, fun w hx => ?_, fun x hx h1 h2 y hy => ?_, ?_, ?_, _, _, rfl⟩
        · rcases List.mem_append.mp hx with h | h
          · exact hR' x h
          · rw [List.mem_singleton.mp h, ← hval]; exact .more (hR _ hone) hy
        · rw [List.nodup_append]
          refine ⟨hnd', by simp, fun a ha b hb e => ?_⟩
          rw [List.mem_singleton.mp hb] at e
          exact hin (e ▸ ha)
        · by_cases e : k = j
          · rw [e, hval]; simp
          · exact List.mem_append_left _ (hdone k (by omega))
        · rcases List.mem_append.mp hx with h | h
          · exact List.mem_append_left _ (hw' w h)
          · exact List.mem_append_right _ h
        · rcases List.mem_append.mp hx with h | h
          · exact List.mem_append_left _ (hcl' x h (fun z => h1 (List.mem_append_left _ z)) h2 y hy)
          · exact absurd (List.mem_append_right _ h) h1
        · rw [List.length_append, List.length_append]; simp; omega
        · rw [List.length_append]; simp; omega
    · obtain ⟨ks', ws', rfl, hR', hnd', hsub, hdone, hw', hcl', hlen, hlk, _, _, rfl⟩ := hI
      rw [nD_len] at hdone
      have hkl' : ks'.length ≤ n := nodup_lt hnd' fun x hx => gen_lt g hls (hR' x hx)
      refine ⟨rfl, ?_⟩
      rw [List.length_append] at hk
      simp only [List.length_cons, List.length_nil] at hk
      refine hnx (ws'.length + 2 * (n - ks'.length)) _ _ (by omega) ⟨ks', ws', rfl, hR', hnd', hsub _ hid, hw', fun x hx h1 y hy => ?_, by omega, rfl, _, _, _, rfl⟩
      by_cases e : x = one
      · subst e
        obtain ⟨i, hi, rfl⟩ := List.mem_iff_getElem.mp hy
        have := hdone i hi
        rwa [ap_eq hi] at this
      · exact hcl' x hx h1 e y hy
end T74
end
section
set_option Elab.async false
set_option linter.all false
set_option maxRecDepth 100000
set_option maxHeartbeats 4000000
namespace T74
open DL PySem PySem.Spec PyProof.Rows L2
theorem nin_nD {M : Mem} {x : D} {l : List Nat} {i : Nat} {Q : D → Prop} (h : seqD M x = some (nD l)) (q : Q (.bl (!decide (i ∈ l)))) : fIn true M (.int (i : Nat)) x Q := by
  refine nin_ints (ns := natsI l) h ?_
  rw [show decide (((i : Nat) : Int) ∈ natsI l) = decide (i ∈ l) from decide_eq_decide.mpr ?_]
  · exact q
  · unfold natsI
    rw [List.mem_map]
    exact ⟨fun ⟨j, h1, h2⟩ => by have : j = i := by omega
                                 exact this ▸ h1, fun h1 => ⟨i, h1, rfl⟩⟩
theorem exists_new {n : Nat} {xs : List Nat} (h : xs.length < n) : ∃ x, x < n ∧ x ∉ xs := by
  apply Classical.byContradiction
  intro c
  have := nodup_sub_len (List.range n) xs List.nodup_range fun x hx => by
    apply Classical.byContradiction
    intro d
    exact c ⟨x, List.mem_range.mp hx, d⟩
  rw [List.length_range] at this
  omega
def sp_leading_of (C : Addr) : SpD := fun ds M Q => ∃ n m, ds = [tabD C n m] ∧ IsGrp n m ∧ n ≤ 48 ∧ ∀ ls, Leads n m ls → Q (.tup (nD ls)) M
theorem hl_leading_of (C : Addr) : ∀ ds M Q, sp_leading_of C ds M Q → ds.length = 1 := fun _ _ _ ⟨_, _, e, _⟩ => by rw [e]; rfl
theorem ok_leading_of (C : Addr) : ∀ ds M Q, sp_leading_of C ds M Q → r_leading_of C (sp_table_len C) (sp_spread C) (dEnd Q) (dstart N_leading_of ds) M := by
  rintro ds M Q ⟨n, m, rfl, g, hn, h⟩
  unfold r_leading_of; simp only [dstart, N_leading_of, List.map, List.length, List.replicate, List.append, HAppend.hAppend, Append.append]
  have hbig := big48
  (first | rw [seq_def] | (simp only [gdName, dset]; rw [seq_def])); simp only [dFor_def, lc_def, lc2_def, dSet, dC, dVar, dIfS, dOr, dAnd, dNot, dTest, dTru, dBin, dUn, dCB, f1, f2, dCons, dNil, dRet, dRetN, dLstM, dLstI, dTup, dget, dset, dNext, dDrop, dBreak, dCont, dIf, dAndV, dOrV, dNotV, dChain, dPar, dAug, dAsg, gdName, gdTup, gdCons, gdNil, gdSub, dCall, dBM, dBMX, dSl, dNoPart, dPart, dNever, List.append_nil, dDisp1K, dDisp1T, dLstRg, dLstRgM, dTupRg, dRg1, dRg2, dTimesM, dNewK, dYes, mk_def, dFldSet, dISeq, dIRng1, dIRng2, dIRng3, dIEnum, dIZip, dwipe, dclr, fII, fIIc, fIB, fLt, fLe, fGt, fGe, fAdd, fSub, fMul, fDiv, fMod, fPow, fNeg, f1, f2, dstart, List.map, List.length, List.replicate, decide_eq_true_eq, if_true, if_false, Bool.false_eq_true, Bool.not_true, Bool.not_false, reduceIte]
  refine ⟨by decide, by decide, by decide, rfl, ?_⟩
  (first | rw [seq_def] | (simp only [gdName, dset]; rw [seq_def])); simp only [dFor_def, lc_def, lc2_def, dSet, dC, dVar, dIfS, dOr, dAnd, dNot, dTest, dTru, dBin, dUn, dCB, f1, f2, dCons, dNil, dRet, dRetN, dLstM, dLstI, dTup, dget, dset, dNext, dDrop, dBreak, dCont, dIf, dAndV, dOrV, dNotV, dChain, dPar, dAug, dAsg, gdName, gdTup, gdCons, gdNil, gdSub, dCall, dBM, dBMX, dSl, dNoPart, dPart, dNever, List.append_nil, dDisp1K, dDisp1T, dLstRg, dLstRgM, dTupRg, dRg1, dRg2, dTimesM, dNewK, dYes, mk_def, dFldSet, dISeq, dIRng1, dIRng2, dIRng3, dIEnum, dIZip, dwipe, dclr, fII, fIIc, fIB, fLt, fLe, fGt, fGe, fAdd, fSub, fMul, fDiv, fMod, fPow, fNeg, f1, f2, dstart, List.map, List.length, List.replicate, decide_eq_true_eq, if_true, if_false, Bool.false_eq_true, Bool.not_true, Bool.not_false, reduceIte]
  refine while_inv (fun k δ M' => M' = M ∧ ∃ ls xs : List Nat, (∀ l ∈ ls, l < n) ∧ (∀ x, x ∈ xs ↔ Gen m ls x) ∧ xs.Nodup ∧ (∀ k, k < ls.length → ¬ Gen m (ls.take k) (ap ls k)) ∧ (∀ k, k < ls.length → ∀ j, j < ap ls k → Gen m (ls.take k) j) ∧ ls.length < xs.length ∧ k = n - xs.length ∧
    ∃ a, δ = [some (tabD C n m), some (.tup (nD ls)), some (.tup (nD xs)), a]) (n - 1) ⟨rfl, [], [0], (fun _ z => nomatch z), fun x => ?_, by simp, (fun _ z => absurd z (Nat.not_lt_zero _)), (fun _ z => absurd z (Nat.not_lt_zero _)), by simp, rfl, _, rfl⟩ ?_
  · constructor
    · intro z; rw [List.mem_singleton.mp z]; exact .one
    · intro z
      cases z with
      | one => simp
      | more _ h => cases h
  rintro k δ M' Nx ⟨rfl, ls, xs, hlt, hxs, hnd, hnew, hlow, hlen, hk, _, rfl⟩ hnx
  have hxn : ∀ x ∈ xs, x < n := fun x hx => gen_lt g hlt ((hxs x).mp hx)
  have hxl := nodup_lt hnd hxn
  (try simp only [dFor_def, lc_def, lc2_def, dSet, dC, dVar, dIfS, dOr, dAnd, dNot, dTest, dTru, dBin, dUn, dCB, f1, f2, dCons, dNil, dRet, dRetN, dLstM, dLstI, dTup, dget, dset, dNext, dDrop, dBreak, dCont, dIf, dAndV, dOrV, dNotV, dChain, dPar, dAug, dAsg, gdName, gdTup, gdCons, gdNil, gdSub, dCall, dBM, dBMX, dSl, dNoPart, dPart, dNever, List.append_nil, dDisp1K, dDisp1T, dLstRg, dLstRgM, dTupRg, dRg1, dRg2, dTimesM, dNewK, dYes, mk_def, dFldSet, dISeq, dIRng1, dIRng2, dIRng3, dIEnum, dIZip, dwipe, dclr, fII, fIIc, fIB, fLt, fLe, fGt, fGe, fAdd, fSub, fMul, fDiv, fMod, fPow, fNeg, f1, f2, dstart, List.map, List.length, List.replicate, decide_eq_true_eq, if_true, if_false, Bool.false_eq_true, Bool.not_true, Bool.not_false, reduceIte])
  refine len_tup ?_
  refine lenC_tab (by omega) ?_
  dsimp only
  by_cases hfull : xs.length < n
  · have hf2 : ((xs.length : Nat) : Int) < (n : Nat) := by omega
    simp only [hf2, if_true]
    (first | rw [seq_def] | (simp only [gdName, dset]; rw [seq_def])); simp only [dFor_def, lc_def, lc2_def, dSet, dC, dVar, dIfS, dOr, dAnd, dNot, dTest, dTru, dBin, dUn, dCB, f1, f2, dCons, dNil, dRet, dRetN, dLstM, dLstI, dTup, dget, dset, dNext, dDrop, dBreak, dCont, dIf, dAndV, dOrV, dNotV, dChain, dPar, dAug, dAsg, gdName, gdTup, gdCons, gdNil, gdSub, dCall, dBM, dBMX, dSl, dNoPart, dPart, dNever, List.append_nil, dDisp1K, dDisp1T, dLstRg, dLstRgM, dTupRg, dRg1, dRg2, dTimesM, dNewK, dYes, mk_def, dFldSet, dISeq, dIRng1, dIRng2, dIRng3, dIEnum, dIZip, dwipe, dclr, fII, fIIc, fIB, fLt, fLe, fGt, fGe, fAdd, fSub, fMul, fDiv, fMod, fPow, fNeg, f1, f2, dstart, List.map, List.length, List.replicate, decide_eq_true_eq, if_true, if_false, Bool.false_eq_true, Bool.not_true, Bool.not_false, reduceIte]
    refine lenC_tab (by omega) ?_
    refine ⟨by omega, by omega, ?_⟩
    refine lc_inv (fun i acc M2 => M2 = M' ∧ acc = nD ((List.range i).filter fun x => decide (x ∉ xs))) ⟨rfl, rfl⟩ (fun i d acc M2 Nx2 hd hI hn2 => ?_) (fun acc M2 hI => ?_)
    · obtain ⟨rfl, rfl⟩ := hI
      obtain ⟨hi, rfl⟩ := rng_inv hd
      refine ⟨trivial, ?_⟩
      (try simp only [dFor_def, lc_def, lc2_def, dSet, dC, dVar, dIfS, dOr, dAnd, dNot, dTest, dTru, dBin, dUn, dCB, f1, f2, dCons, dNil, dRet, dRetN, dLstM, dLstI, dTup, dget, dset, dNext, dDrop, dBreak, dCont, dIf, dAndV, dOrV, dNotV, dChain, dPar, dAug, dAsg, gdName, gdTup, gdCons, gdNil, gdSub, dCall, dBM, dBMX, dSl, dNoPart, dPart, dNever, List.append_nil, dDisp1K, dDisp1T, dLstRg, dLstRgM, dTupRg, dRg1, dRg2, dTimesM, dNewK, dYes, mk_def, dFldSet, dISeq, dIRng1, dIRng2, dIRng3, dIEnum, dIZip, dwipe, dclr, fII, fIIc, fIB, fLt, fLe, fGt, fGe, fAdd, fSub, fMul, fDiv, fMod, fPow, fNeg, f1, f2, dstart, List.map, List.length, List.replicate, decide_eq_true_eq, if_true, if_false, Bool.false_eq_true, Bool.not_true, Bool.not_false, reduceIte])
      refine nin_nD (l := xs) rfl ?_
      dsimp only
      have hsz : (nD ((List.range i).filter fun x => decide (x ∉ xs))).length < sizeLine := by
        rw [nD_len]
        have := List.length_filter_le (fun x => decide (x ∉ xs)) (List.range i)
        rw [List.length_range] at this
        omega
      by_cases hin : i ∈ xs
      · simp only [decide_eq_true hin, Bool.not_true, if_false, Bool.false_eq_true]
        refine hn2 _ _ ⟨rfl, ?_⟩
        rw [List.range_succ, List.filter_append]
        simp [hin]
      · simp only [decide_eq_false hin, Bool.not_false, if_true]
        refine ⟨hsz, hn2 _ _ ⟨rfl, ?_⟩⟩
        rw [List.range_succ, List.filter_append]
        simp only [List.filter_cons, List.filter_nil, hin, not_false_eq_true, decide_true, if_true]
        rw [nD_app]; rfl
    · obtain ⟨rfl, rfl⟩ := hI
      rw [rng_len]
      refine ⟨trivial, ?_⟩
      unfold gMinL
      generalize hF : ((List.range n).filter fun x => decide (x ∉ xs)) = F
      have hFm : ∀ x, x ∈ F ↔ x < n ∧ x ∉ xs := fun x => by rw [← hF]; simp
      rw [show (lstD M2 (.lst (nD F))).bind intsD = some (natsI F) from intsD_map _]
      obtain ⟨x0, h1, h2⟩ := exists_new hfull
      have hx0 := (hFm x0).mpr ⟨h1, h2⟩
      refine ⟨by rw [natsI_len]; exact List.length_pos_of_mem hx0, fun z hz hleast => ?_⟩
      obtain ⟨l, hl, rfl⟩ := List.mem_map.mp hz
      obtain ⟨hln, hlx⟩ := (hFm l).mp hl
      have hle : ∀ y, y < l → y ∈ xs := fun y hy => by
        apply Classical.byContradiction
        intro c
        have := hleast (y : Nat) (List.mem_map.mpr ⟨y, (hFm y).mpr ⟨by omega, c⟩, rfl⟩)
        omega
      refine ⟨by decide, ?_⟩
      show _ ∧ _
      refine ⟨by rw [nD_len]; show _ + 1 ≤ _; omega, ?_⟩
      rw [show nD ls ++ [D.int (l : Nat)] = nD (ls ++ [l]) by rw [nD_app]; rfl]
      have hlt2 : ∀ x ∈ ls ++ [l], x < n := fun x hx => by
        rcases List.mem_append.mp hx with e | e
        · exact hlt x e
        · rw [List.mem_singleton.mp e]; exact hln
      have hmono : ∀ x, x ∈ xs → Gen m (ls ++ [l]) x := fun x hx => ((hxs x).mp hx).mono fun y hy => List.mem_append_left _ hy
      refine ⟨n, m, ls ++ [l], rfl, g, hn, hlt2, by rw [List.length_append]; show _ + 1 ≤ _; omega, fun xs2 hxs2 hnd2 => ?_⟩
      have hl2 : l ∈ xs2 := (hxs2 l).mpr (by
        have := Gen.more (m := m) (ls := ls ++ [l]) .one (l := l) (by simp)
        rwa [g.le0 l hln] at this)
      have hgt : xs.length + 1 ≤ xs2.length := nodup_sub_len (l :: xs) xs2 (List.nodup_cons.mpr ⟨hlx, hnd⟩) fun x hx => by
        rcases List.mem_cons.mp hx with e | e
        · rw [e]; exact hl2
        · exact (hxs2 x).mpr (hmono x e)
      have htk : ∀ k, k < ls.length → (ls ++ [l]).take k = ls.take k := fun k hk => by rw [List.take_append_of_le_length (by omega)]
      have hap : ∀ k, k < ls.length → ap (ls ++ [l]) k = ap ls k := fun k hk => by
        rw [ap_eq (by rw [List.length_append]; omega), ap_eq hk, List.getElem_append_left hk]
      have hlast : ap (ls ++ [l]) ls.length = l ∧ (ls ++ [l]).take ls.length = ls := by
        constructor
        · rw [ap_eq (by rw [List.length_append]; simp), List.getElem_append_right (Nat.le_refl _)]; simp
        · rw [List.take_append_of_le_length (Nat.le_refl _), List.take_length]
      refine hnx (n - xs2.length) _ _ (by omega) ⟨rfl, ls ++ [l], xs2, hlt2, hxs2, hnd2, fun k hk => ?_, fun k hk => ?_, by rw [List.length_append]; show _ + 1 < _; omega, rfl, _, rfl⟩
      · rw [List.length_append] at hk
        simp only [List.length_cons, List.length_nil] at hk
        by_cases e : k < ls.length
        · rw [htk k e, hap k e]; exact hnew k e
        · rw [show k = ls.length by omega, hlast.1, hlast.2]
          exact fun z => hlx ((hxs l).mpr z)
      · rw [List.length_append] at hk
        simp only [List.length_cons, List.length_nil] at hk
        by_cases e : k < ls.length
        · rw [htk k e, hap k e]; exact hlow k e
        · rw [show k = ls.length by omega, hlast.1, hlast.2]
          exact fun j hj => (hxs j).mp (hle j hj)
  · have hf2 : ¬ ((xs.length : Nat) : Int) < (n : Nat) := by omega
    simp only [hf2, if_false]
    refine fg (h ls ⟨hlt, fun x hx => (hxs x).mp ?_, hnew, hlow⟩)
    apply Classical.byContradiction
    intro c
    have := nodup_lt (List.nodup_cons.mpr ⟨c, hnd⟩) fun y hy => by
      rcases List.mem_cons.mp hy with e | e
      · rw [e]; exact hx
      · exact hxn y e
    simp only [List.length_cons] at this
    omega
end T74
end
section
set_option Elab.async false
set_option linter.all false
set_option maxRecDepth 100000
set_option maxHeartbeats 4000000
namespace BS
open PySem PySem.Spec PyProof.Rows L2
section
variable {P : Program} {w : World} {A : Around} {E : Value → Shared → Prop} {s : Shared}
set_option maxRecDepth 100000 in
set_option maxHeartbeats 3200000 in
/-- set(t), t a list of unlike tuples of ints -/
theorem call_set_lst {l : Addr} {items : Array Value} (ks : List (Addr × List Int)) {Q : Value → Shared → Prop} (hh : A.handled = none) (hl : s.heap.IsList l items) (hit : items.toList = ks.map fun p => Value.ref p.1)
    (hk : ∀ p ∈ ks, IsT P w s.heap p.2 p.1) (hfew : ks.length ≤ 4000) (hnd : (ks.map (·.2)).Nodup) (hu : A.units + 3 < cLine)
    (h : ∀ (h' : Heap) (tk : Nat) L es ep t, At P w h' s.heap.objs.size L es ep t → L.Perm ks → (∀ b o, s.heap.get? b = some o → h'.get? b = some o) → Q (.ref s.heap.objs.size) { s with heap := h', toks := tk }) :
    wpAny (model P w) A (call (.type "set") [.ref l]) Q E s := by
  have hisz : items.size = ks.length := by
    have q := congrArg List.length hit
    rw [Array.length_toList, List.length_map] at q
    exact q
  obtain ⟨c, tl, hmro⟩ := F.called_set.mro
  have hmade := F.called_set.made
  have hsub := F.called_set.sub
  refine wpAny_call (codeAny_of_tree ?_)
  show wpAny _ _ (callAny (.type "set") _) _ _ _
  refine wpAny_pure ⟨Code.quiet_builtin _ (by decide +kernel), codeAny_builtin F.entry_type_call ?_⟩
  rw [Around.under_plain (weight_type_call_type "set" [.ref l] []) rfl]
  have h1 := F.called_set.notType
  have h2 := F.called_set.canCreate
  have hct := F.typeCall_set_1 (.ref l)
  repeat (any_goals (first | assumption | wp_step))

  refine codeAny_mono (code_set_led1 (.ref l) (E := E) (Q₁ := fun obj s₁ => obj = .ref s.heap.objs.size ∧ s₁ = { s with heap := s.heap.push (newSet w) }) ⟨rfl, rfl⟩) fun r s₁ hr => ?_
  cases r with
  | error e => exact hr
  | ok fl =>
    cases fl with
    | ret obj =>
      obtain ⟨rfl, rfl⟩ := hr
      have hS : (s.heap.push (newSet w)).get? s.heap.objs.size = some (newSet w) := Heap.get?_push_size _ rfl
      have hT : Shared.TypeIs { s with heap := s.heap.push (newSet w) } (.ref s.heap.objs.size) "set" := ⟨_, hS, rfl⟩
      have hli := F.called_set.init.lookup
      have hbi := F.called_set.init.bind (.ref s.heap.objs.size)
      repeat (any_goals (first | assumption | wp_step))

      refine codeAny_mono (codeAny_call_builtin (R := wants (fun r s₂ => r = .none ∧ ∃ h' tk L es ep t, s₂ = { s with heap := h', toks := tk } ∧ At P w h' s.heap.objs.size L es ep t ∧ L.Perm ks ∧
          (∀ b o, s.heap.get? b = some o → h'.get? b = some o)) E) F.called_set.init.plain F.entry_set_init (check_set_init_1 hT ?_)) fun r₂ s₂ hr₂ => ?_
      · obtain ⟨ol, hol, hcl, nl, hdl⟩ := hl
        obtain ⟨ocls, odict, odata, oslots⟩ := ol
        simp only at hcl hdl
        subst hcl; subst hdl
        have hol' : (s.heap.push (newSet w)).get? l = some { cls := .type "list", dict := odict, data := .seq items nl, slots := oslots } := Heap.get?_push_of_some _ hol
        have hsls := F.sub_list_set
        have hslf := F.sub_list_frozenset
        have hne : (Value.type "list" == Value.type "dict") = false := by decide
        have hl1 : (s.heap.push (newSet w)).IsList l items := ⟨_, hol', rfl, nl, rfl⟩
        unfold Builtin.«set.__init__» noKeywords Builtin.Frozenset.updateFrom
        generalize hPI : pyIter = PI
        wp_walk
        subst hPI

        refine wpAny_pyIter_list hl1 ?_
        refine wpAny_bind (wpAny_runValue ?_)
        have hlS : l < s.heap.objs.size := Heap.lt_size hol
        have hh3 : A.in1.in1.in1.handled = none := by simp [hh]
        have hneI : l ≠ (s.heap.push (newSet w)).objs.size := by
          rw [Heap.size_push]; exact Nat.ne_of_lt (Nat.lt_succ_of_lt hlS)
        have hSf : s.heap.objs.size ∉ [(s.heap.push (newSet w)).objs.size, l] := by
          rw [Heap.size_push]; simp only [List.mem_cons, List.mem_singleton, List.not_mem_nil, or_false, not_or]
          exact ⟨Nat.ne_of_lt (Nat.lt_succ_self _), Nat.ne_of_gt hlS⟩
        have hval : ∀ (i : Nat) (v : Value), items[i]? = some v → ∃ p, ks[i]? = some p ∧ v = .ref p.1 := fun i v hv => by
          have q : items.toList[i]? = some v := by rw [Array.getElem?_toList]; exact hv
          rw [hit, List.getElem?_map] at q
          obtain ⟨p, e1, e2⟩ := Option.map_eq_some_iff.mp q
          exact ⟨p, e1, e2.symm⟩
        have none_of : ∀ b, s.heap.objs.size ≤ b → s.heap.get? b = none := fun b hb => Heap.get?_none_of_le hb
        refine upd_loop ((Walks.list hh3 _ l hneI items).toS) s.heap.objs.size
          hSf ks hisz hfew hnd hval s.heap hk (none_of _ (Nat.le_refl _)) (fun b hb => none_of b (by
            rw [List.mem_singleton.mp hb, Heap.size_push]
            exact Nat.le_succ _)) hu (items.size - 0) 0 _ (by omega) (Nat.zero_le _)
          ⟨⟨_, Heap.get?_push_size _ rfl, rfl, rfl⟩, (hl1.push _)⟩ (fun b o e => Heap.get?_push_of_some _ (Heap.get?_push_of_some _ e)) ?hS0 ?hR
        case hS0 =>
          have hget : ((s.heap.push (newSet w)).push { cls := .type "list_iterator", data := .fields #[.ref l, .int 0 0] }).get? s.heap.objs.size = some (newSet w) := Heap.get?_push_of_some _ hS
          exact ⟨[], #[], 0, _, at_new hget, .refl _⟩
        case hR =>
          intro s' L es ep t hm hS' g' hkp
          obtain ⟨h', g2, d', tk', os'⟩ := s'
          have eg : g2 = s.gens := hm.gens
          have ed : d' = s.drawn := hm.drawn
          have eo : os' = s.os := hm.os
          subst eg; subst ed; subst eo
          show wpAny _ _ _ _ _ _
          refine wpAny_pure ?_
          show wpAny _ _ (ret Value.none) _ _ _
          exact wpAny_pure ⟨rfl, h', tk', L, es, ep, t, rfl, hS', g', hkp⟩

      · cases r₂ with
        | error e => exact hr₂
        | ok fl₂ =>
          cases fl₂ with
          | ret r =>
            obtain ⟨rfl, h', tk, L, es, ep, t, rfl, hS', g', hk'⟩ := hr₂
            repeat (any_goals (first | assumption | wp_step))
            exact h _ _ _ _ _ _ hS' g' hk'
          | _ => exact hr₂.elim
    | _ => exact hr.elim
end
end BS
namespace DL
open PySem PySem.Spec PyProof.Rows L2
section
variable {X : Cx} {pos : Pos}
/-- a, b, .. = a list -/
def gdUnl (n : Nat) (t : TGDs) : TGD := fun d δ M Q => match lstD M d with
  | some ds => ds.length = n ∧ t ds δ M Q
  | none => False
theorem qg_unl {es : List Expr} {kk : Nat} {t : TGDs} {n : Nat} (hc : X.calm = true) (h : QGs X es t)
    (hn : (assignEach es X.env).length = n := by rfl) (hst : (assignEach es X.env).findIdx? (·.1) = none := by rfl) : QG X (.Tuple es kk pos) (gdUnl n t) :=
  pg_mono (pg_unl hc h hn hst) fun v σ H Q ⟨Z, δ, M, d, Qd, R, E, r, h, k⟩ => by
    unfold gdUnl at h
    split at h
    · rename_i ds e
      obtain ⟨a, vs, eu, hs, rr⟩ := lst_sq R r e
      exact ⟨a, vs, eu, hs, by rw [← rr.length]; exact h.1, Z, δ, M, ds, Qd, R, E, rr, h.2, k⟩
    · exact h.elim
/-- len(set(l)), l a list of unlike tuples of ints -/
def tLenSetLT (K : PySem.W.Frag) (ta : TE) : TE := fun σ H Q => ta σ H fun x H1 => ∃ (l : Addr) (T : List (D × Addr × List Int)), x = .ref l ∧ SqL K H1 l (T.map fun q => V.ref q.2.1) ∧ (∀ q ∈ T, SqT K H1 q.2.1 (q.2.2.map V.int)) ∧ T.length ≤ 4000 ∧ (T.map (·.2.2)).Nodup ∧ Q (.int (T.length : Nat)) H1
theorem pe_lenSetLT {a : Expr} {ta : TE} {p p2 q pos : Pos} (hc : X.calm = true) (hu : X.A.units + 64 < cLine) (hg : Gl X "len") (hm : X.mg "len" = none) (hg2 : Gl X "set") (hm2 : X.mg "set" = none) (ha : PE X a ta)
    (na : starEach [a] X.env = (false, eval a X.env) :: starEach [] X.env := by rfl) : PE X (.Call (.Name "len" p) [.Call (.Name "set" p2) [a] [] q] [] pos) (tLenSetLT X.K ta) := by
  refine ⟨fun pins s σ H Q I h => ?_⟩
  refine Call_ (ld_blt I hg hm bt_len ?_)
  refine PyProof.Rows.callWith_builtin1 (PyProof.Rows.args_cons ?_ rfl) rfl rfl
  refine Call_ (ld_blt I hg2 hm2 bt_set ?_)
  refine PyProof.Rows.callWith_type1 (PyProof.Rows.args_cons (thn (ha.run pins s σ H _ I h) fun v s1 ⟨x, H1, I1, r1, q1⟩ => PyProof.Rows.args_nil ?_) na) na rfl
  obtain ⟨l, T, rfl, hq, hk, hl, hnd, q1⟩ := q1
  cases r1
  obtain ⟨its, r, pl, hz⟩ := I1.list hq
  have hits : its = (T.map (·.2)).map fun p => Value.ref p.1 := by
    rw [List.map_map]
    have := refs_of_vals (ks := T.map (·.2)) (us := its) (by rw [List.map_map]; exact r)
    rw [List.map_map] at this
    exact this
  have hl' : s1.heap.IsList l its.toArray := by
    obtain ⟨o, m, e, c, d, q⟩ := pl
    exact ⟨o, e, c, m, q⟩
  refine BS.call_set_lst (P := X.prog) (w := X.w) (T.map (·.2)) (I1.ok.hd hc) hl' (by simpa using hits) (fun p hp => ?_) (by rw [List.length_map]; exact hl) (by rw [List.map_map]; exact hnd) (by omega) fun h' tk L es ep t R pm hk' => ?_
  · obtain ⟨q, hq, e⟩ := List.mem_map.mp hp
    subst e
    exact I1.isT (hk q hq)
  refine PyProof.Rows.args_nil ?_
  have I2 : Inv X pins σ H1 { s1 with heap := h', toks := tk } := I1.kept hk'
  obtain ⟨o, ho, hex, hd⟩ := R.ob
  have hL : L.length = T.length := by rw [pm.length_eq, List.length_map]
  have hsz := BS.rows_size R.rows
  exact call_len_set ho hex hd (BS.At.fits (s := { s1 with heap := h', toks := tk }) R) (by omega) ⟨.int T.length, H1, I2.tok _, ⟨_, by rw [hsz, hL]⟩, q1⟩
def dLenSetLT (ta : TED) : TED := fun δ M Q => ta δ M fun x M1 => match lstD M1 x with
  | some ds => (∀ y ∈ ds, isTI y) ∧ ds.length ≤ 4000 ∧ (ds.map tI).Nodup ∧ Q (.int (ds.length : Nat)) M1
  | none => False
theorem qe_lenSetLT {a : Expr} {ta : TED} {p p2 q pos : Pos} (hc : X.calm = true) (hu : X.A.units + 64 < cLine) (hg : Gl X "len") (hm : X.mg "len" = none) (hg2 : Gl X "set") (hm2 : X.mg "set" = none) (ha : QE X a ta)
    (na : starEach [a] X.env = (false, eval a X.env) :: starEach [] X.env := by rfl) : QE X (.Call (.Name "len" p) [.Call (.Name "set" p2) [a] [] q] [] pos) (dLenSetLT ta) := by
  refine pe_mono (pe_lenSetLT hc hu hg hm hg2 hm2 ha na) fun σ H Q ⟨Z, δ, M, Qd, R, E, h, k⟩ => ?_
  refine ⟨Z, δ, M, _, R, E, h, fun Z1 x M1 u H1 s1 r1 h1 => ?_⟩
  split at h1
  · rename_i ds e
    obtain ⟨h2, h3, h4, h5⟩ := h1
    obtain ⟨l, vs, eu, hs, rr⟩ := lst_sq s1.rel r1 e
    subst eu
    obtain ⟨T, e1, e2, e3⟩ := reps_T s1.rel rr h2
    subst e1 e2
    refine ⟨l, T, rfl, hs, fun q hq => (e3 q hq).2.1, by rw [List.length_map] at h3; exact h3, ?_, k _ _ _ _ _ s1 (.int _) (by rw [List.length_map] at h5; exact h5)⟩
    rw [List.map_map] at h4
    rw [show T.map (·.2.2) = T.map (tI ∘ fun q => q.1) from List.map_congr_left fun q hq => (e3 q hq).1]
    exact h4
  · exact h1.elim
/-- a, b, c = x, y, z -/
def dPar3 (i j l : Nat) (ta : TAD) : TSD := fun D δ M => ta δ M fun ds M1 => match ds with
  | [x, y, z] => D.nx (dset (dset (dset δ i x) j y) l z) M1
  | _ => False
theorem qs_par3 {i j l : Nat} {x y z : Str} {a b c : Expr} {ta : TAD} {px py pz pt : Pos} {kt k2 pt2} (hc : X.calm = true) (hN : X.N.Nodup) (hi : X.N[i]? = some x) (hj : X.N[j]? = some y) (hl : X.N[l]? = some z) (hij : i ≠ j) (hil : i ≠ l) (hjl : j ≠ l)
    (hx : X.env.scope.names.lookup x = some .local) (hy : X.env.scope.names.lookup y = some .local) (hz : X.env.scope.names.lookup z = some .local) (ha : QA X [a, b, c] ta)
    (hw : swappedStores [.Tuple [.Name x px, .Name y py, .Name z pz] kt pt] (.Tuple [a, b, c] k2 pt2) X.env = pure (some [x, y, z]))
    (hs : swapsWithSole [.Tuple [.Name x px, .Name y py, .Name z pz] kt pt] (.Tuple [a, b, c] k2 pt2) pos.line X.env = pure false := by rfl) :
    QS X (.Assign [.Tuple [.Name x px, .Name y py, .Name z pz] kt pt] (.Tuple [a, b, c] k2 pt2) pos) (dPar3 i j l ta) := by
  refine ps_mono (ps_par3 hc hN hi hj hl hij hil hjl hx hy hz ha hw hs) fun D σ H ⟨Z, δ, M, Dd, R, E, h, k⟩ => ?_
  refine ⟨Z, δ, M, _, R, E, h, fun Z1 ds M1 vs H1 s1 r1 h1 => ?_⟩
  cases r1 with
  | nil => exact h1.elim
  | cons q1 r1 =>
    cases r1 with
    | nil => exact h1.elim
    | cons q2 r1 =>
      cases r1 with
      | nil => exact h1.elim
      | cons q3 r1 =>
        cases r1 with
        | cons _ _ => exact h1.elim
        | nil => exact ⟨_, _, _, rfl, k.nx Z1 _ M1 _ H1 s1 ((((E.mono s1.ext).set q1 i).set q2 j).set q3 l) h1⟩
end
end DL
end
section
set_option Elab.async false
set_option linter.all false
set_option maxRecDepth 100000
namespace T73
open DL PySem PySem.Spec PyProof.Rows L2 T74
/-- the reading of homs -/
def N_homs : List Str := ["one", "other"]
def r_homs (sp_check_small : SpD) (sp_homs_of : SpD) : TSD := (dSeq (dDrop (dCall sp_check_small [] (dCons (dVar 0) dNil)))
  (dSeq (dDrop (dCall sp_check_small [] (dCons (dVar 1) dNil)))
  (dRet (dCall sp_homs_of [] (dCons (dVar 0) (dCons (dVar 1) dNil))))))
/-- the reading of leading -/
def N_leading : List Str := ["table"]
def r_leading (sp_check_table : SpD) (sp_leading_of : SpD) : TSD := (dSeq (dDrop (dCall sp_check_table [] (dCons (dVar 0) dNil)))
  (dRet (dCall sp_leading_of [] (dCons (dVar 0) dNil))))
/-- the reading of back -/
def N_back : List Str := ["table", "one"]
def r_back (sp_check_table : SpD) (sp_check_member : SpD) (sp_back_of : SpD) : TSD := (dSeq (dDrop (dCall sp_check_table [] (dCons (dVar 0) dNil)))
  (dSeq (dDrop (dCall sp_check_member [] (dCons (dVar 0) (dCons (dVar 1) dNil))))
  (dRet (dCall sp_back_of [] (dCons (dVar 0) (dCons (dVar 1) dNil))))))
/-- the reading of _law_each_right -/
def N_law_each_right : List Str := ["one", "other", "rows", "leads", "row", "member", "lead"]
def r_law_each_right (C_Table : Addr) (sp_leading : SpD) (sp_table_len : SpD) (sp_back : SpD) (sp_order_of : SpD) : TSD := (dSeq (dSet 3 (dCall sp_leading [] (dCons (dVar 0) dNil)))
  (dSeq (dIfS (dTest (dBin (fEq true) (dLenSetLT (dLc (dISeq (dVar 2)) (gdName 4) dYes (dCB (f1 gTupOf) (dCons (dLc (dISeq (dVar 3)) (gdName 6) dYes (dBin fIx (dVar 4) (dVar 6)) [6]) dNil)) [4])) (dCB (f1 gLen) (dCons (dVar 2) dNil))))
  (dRet (dC (.bl false)))
  dNext)
  (dSeq (dFor (dISeq (dVar 2)) (gdName 4)
  (dSeq (dIfS (dTest (dBin (fEq true) (dBin fIx (dVar 4) (dC (.int 0))) (dC (.int 0))))
  (dRet (dC (.bl false)))
  dNext)
  (dFor (dIRng1 (dCons (dCB (f1 (gLenC C_Table sp_table_len)) (dCons (dVar 0) dNil)) dNil)) (gdName 5)
  (dSeq (dIfS (dTest (dBin (fEq true) (dBin fIx (dVar 4) (dCall sp_back [] (dCons (dVar 0) (dCons (dVar 5) dNil)))) (dCall sp_back [] (dCons (dVar 1) (dCons (dBin fIx (dVar 4) (dVar 5)) dNil)))))
  (dRet (dC (.bl false)))
  dNext)
  (dIfS (dTest (dBin (fEq true) (dBin fMod (dCall sp_order_of [] (dCons (dVar 0) (dCons (dVar 5) dNil))) (dCall sp_order_of [] (dCons (dVar 1) (dCons (dBin fIx (dVar 4) (dVar 5)) dNil)))) (dC (.int 0))))
  (dRet (dC (.bl false)))
  dNext)))))
  (dRet (dC (.bl true))))))
/-- the reading of product -/
def N_product : List Str := ["one", "other", "pairs", "lines", "many", "each", "number", "a", "b", "c", "d"]
def r_product (C_Table : Addr) (sp_check_table : SpD) (sp_table_len : SpD) (sp_table_init : SpD) : TSD := (dSeq (dDrop (dCall sp_check_table [] (dCons (dVar 0) dNil)))
  (dSeq (dDrop (dCall sp_check_table [] (dCons (dVar 1) dNil)))
  (dSeq (dAsg (dTup (dCons (dBin fTimes (dCB (f1 (gLenC C_Table sp_table_len)) (dCons (dVar 0) dNil)) (dCB (f1 (gLenC C_Table sp_table_len)) (dCons (dVar 1) dNil))) (dCons (dCB (f1 (gLenC C_Table sp_table_len)) (dCons (dVar 1) dNil)) dNil))) (gdTup 2 (gdCons (gdName 4) (gdCons (gdName 5) gdNil))))
  (dSeq (dIfS (dTest (dBin fGt (dVar 4) (dC (.int 48))))
  dNever
  dNext)
  (dSeq (dSet 2 (dLc (dIRng1 (dCons (dVar 4) dNil)) (gdName 6) dYes (dCB (f2 gDivmod) (dCons (dVar 6) (dCons (dVar 5) dNil))) [6]))
  (dSeq (dSet 3 (dLc (dISeq (dVar 2)) (gdTup 2 (gdCons (gdName 7) (gdCons (gdName 8) gdNil))) dYes (dCB (f1 gTupX) (dCons (dLc (dISeq (dVar 2)) (gdTup 2 (gdCons (gdName 9) (gdCons (gdName 10) gdNil))) dYes (dBin fPlus (dBin fTimes (dBin fIx (dBin fIx (dFld (· = C_Table) "lines" (dVar 0)) (dVar 7)) (dVar 9)) (dVar 5)) (dBin fIx (dBin fIx (dFld (· = C_Table) "lines" (dVar 1)) (dVar 8)) (dVar 10))) [9, 10]) dNil)) [7, 8]))
  (dRet (dMakeI C_Table sp_table_init [] (dCons (dCB (f1 gTupX) (dCons (dVar 3) dNil)) dNil)))))))))
/-- the reading of law -/
def N_law : List Str := ["script", "k", "pool", "wide", "some", "turn", "one", "other", "third", "first", "second", "whole", "side", "member", "low", "high", "aim"]
def r_law (C_Table : Addr) (sp_law_pool : SpD) (sp_law_cell : SpD) (sp_table_init : SpD) (sp_law_group : SpD) (sp_law_take : SpD) (sp_table_len : SpD) (sp_order_of : SpD) (sp_homs : SpD) (sp_law_round : SpD) (sp_law_each_right : SpD) (sp_product : SpD) : TSD := (dSeq (dFor (dIRng1 (dCons (dCB (f2 gMax2) (dCons (dC (.int 1)) (dCons (dCB (f2 gMin2) (dCons (dC (.int 3)) (dCons (dCB (f1 gLen) (dCons (dVar 0) dNil)) dNil))) dNil))) dNil)) (gdName 1)
  (dSeq (dSet 2 (dCall sp_law_pool [] (dCons (dCall sp_law_cell [] (dCons (dVar 0) (dCons (dVar 1) dNil))) dNil)))
  (dSeq (dAsg (dLc (dIRng1 (dCons (dC (.int 3)) dNil)) (gdName 12) dYes (dMakeI C_Table sp_table_init [] (dCons (dCall sp_law_group [] (dCons (dVar 2) (dCons (dC (.int 8)) dNil))) dNil)) [12]) (gdUnl 3 (gdCons (gdName 6) (gdCons (gdName 7) (gdCons (gdName 8) gdNil)))))
  (dSeq (dSet 3 (dBin fPlus (dC (.int 1)) (dCall sp_law_take [] (dCons (dVar 2) (dCons (dC (.int 12)) dNil)))))
  (dSeq (dSet 4 (dLc (dIRng1 (dCons (dCB (f1 (gLenC C_Table sp_table_len)) (dCons (dVar 7) dNil)) dNil)) (gdName 13) (dTest (dBin (fEq false) (dBin fMod (dVar 3) (dCall sp_order_of [] (dCons (dVar 7) (dCons (dVar 13) dNil)))) (dC (.int 0)))) (dVar 13) [13]))
  (dSeq (dIfS (dTest (dBin (fEq true) (dCB (f1 gLen) (dCons (dCall sp_homs [] (dCons (dMakeI C_Table sp_table_init [] (dCons (dCall sp_law_round [] (dCons (dVar 3) dNil)) dNil)) (dCons (dVar 7) dNil))) dNil)) (dCB (f1 gLen) (dCons (dVar 4) dNil))))
  (dRet (dC (.bl false)))
  dNext)
  (dSeq (dPar3 9 10 11 (dCons (dCall sp_homs [] (dCons (dVar 6) (dCons (dVar 7) dNil))) (dCons (dCall sp_homs [] (dCons (dVar 7) (dCons (dVar 8) dNil))) (dCons (dCall sp_homs [] (dCons (dVar 6) (dCons (dVar 8) dNil))) dNil))))
  (dSeq (dIfS (dOr (dNot (dTest (dCall sp_law_each_right [] (dCons (dVar 6) (dCons (dVar 7) (dCons (dVar 9) dNil)))))) (dNot (dTest (dCall sp_law_each_right [] (dCons (dVar 7) (dCons (dVar 8) (dCons (dVar 10) dNil)))))))
  (dRet (dC (.bl false)))
  dNext)
  (dSeq (dFor (dIRng1 (dCons (dC (.int 6)) dNil)) (gdName 5)
  (dSeq (dAsg (dTup (dCons (dBin fIx (dVar 9) (dCall sp_law_take [] (dCons (dVar 2) (dCons (dCB (f1 gLen) (dCons (dVar 9) dNil)) dNil)))) (dCons (dBin fIx (dVar 10) (dCall sp_law_take [] (dCons (dVar 2) (dCons (dCB (f1 gLen) (dCons (dVar 10) dNil)) dNil)))) dNil))) (gdTup 2 (gdCons (gdName 14) (gdCons (gdName 15) gdNil))))
  (dIfS (dTest (dBin (fIn true) (dCB (f1 gTupOf) (dCons (dLc (dISeq (dVar 14)) (gdName 16) dYes (dBin fIx (dVar 15) (dVar 16)) [16]) dNil)) (dVar 11)))
  (dRet (dC (.bl false)))
  dNext)))
  (dIfS (dAnd (dTest (dBin fLe (dBin fTimes (dCB (f1 (gLenC C_Table sp_table_len)) (dCons (dVar 7) dNil)) (dCB (f1 (gLenC C_Table sp_table_len)) (dCons (dVar 8) dNil))) (dC (.int 12)))) (dTest (dBin (fEq true) (dCB (f1 gLen) (dCons (dCall sp_homs [] (dCons (dVar 6) (dCons (dCall sp_product [] (dCons (dVar 7) (dCons (dVar 8) dNil))) dNil))) dNil)) (dBin fTimes (dCB (f1 gLen) (dCons (dVar 9) dNil)) (dCB (f1 gLen) (dCons (dVar 11) dNil))))))
  (dRet (dC (.bl false)))
  dNext))))))))))
  (dRet (dC (.bl true))))
end T73
end
section
set_option Elab.async false
set_option linter.all false
set_option maxRecDepth 100000
set_option maxHeartbeats 4000000
namespace T73
open T74
open DL PySem PySem.Spec PyProof.Rows L2
theorem zip_inv {xs ys : List D} {i : Nat} {d : D} (h : (zipPairs xs ys)[i]? = some d) : ∃ x y, xs[i]? = some x ∧ ys[i]? = some y ∧ d = .tup [x, y] := by
  have h1 := (List.getElem?_eq_some_iff.mp h).1
  rw [zipPairs_len] at h1
  have e1 := List.getElem?_eq_getElem (l := xs) (i := i) (by omega)
  have e2 := List.getElem?_eq_getElem (l := ys) (i := i) (by omega)
  rw [zipPairs_get e1 e2] at h
  cases h
  exact ⟨_, _, e1, e2, rfl⟩
/-- numbers and what they go to, kept in a dict -/
def kvF (f : Nat → Nat) (ks : List Nat) : List (Key × D) := ks.map fun x => ((Sum.inl ((x : Nat) : Int) : Key), .int (f x : Nat))
theorem kvF_len {f : Nat → Nat} {ks : List Nat} : (kvF f ks).length = ks.length := List.length_map _
theorem kvF_val {f : Nat → Nat} {ks : List Nat} {r : Nat} (h : r ∈ ks) : valA (kvF f ks) (.inl ((r : Nat) : Int)) = some (.int (f r : Nat)) :=
  valA_map (f := fun x : Nat => (Sum.inl ((x : Nat) : Int) : Key)) (g := fun x => D.int (f x : Nat)) (fun x _ e => inl_inj e) h
theorem kvF_has {f : Nat → Nat} {ks : List Nat} {r : Nat} : (valA (kvF f ks) (.inl ((r : Nat) : Int))).isSome = decide (r ∈ ks) := by
  by_cases h : r ∈ ks
  · rw [kvF_val h, decide_eq_true h]; rfl
  · rw [valA_none, decide_eq_false h]; rfl
    intro kv hkv e
    obtain ⟨x, hx, rfl⟩ := List.mem_map.mp hkv
    exact h (inl_inj e ▸ hx)
theorem kvF_put {f : Nat → Nat} {ks : List Nat} {r v : Nat} (h : r ∉ ks) : putA (kvF f ks) (.inl ((r : Nat) : Int)) (.int (v : Nat)) = kvF (fun x => if x = r then v else f x) (ks ++ [r]) := by
  rw [putA_new]
  · unfold kvF; rw [List.map_append]
    congr 1
    · refine List.map_congr_left fun x hx => ?_
      have hne : x ≠ r := fun e => h (e ▸ hx)
      simp only [hne, if_false]
    · simp
  · intro kv hkv e
    obtain ⟨x, hx, rfl⟩ := List.mem_map.mp hkv
    exact h (inl_inj e ▸ hx)
/-- a homomorphism as far as the leads reach -/
def Par (m m' : N2) (ls as : List Nat) (f : Nat → Nat) : Prop := f 0 = 0 ∧ ∀ x, Gen m ls x → ∀ i, i < ls.length → f (m x (ap ls i)) = m' (f x) (ap as i)
def GrownTo (m m' : N2) (ls as : List Nat) (d : D) (M' : Mem) : Prop :=
  (d = .non ∧ ¬ ∃ f, Par m m' ls as f) ∨ ∃ p f ks, d = .ref p ∧ M' p = some (.dK (kvF f ks)) ∧ Par m m' ls as f ∧ ∀ x, x ∈ ks ↔ Gen m ls x
def sp_grown (C : Addr) : SpD := fun ds M Q => ∃ n m n' m' ls as, ds = [tabD C n m, tabD C n' m', .tup (nD ls), .tup (nD as)] ∧ IsGrp n m ∧ n ≤ 48 ∧ IsGrp n' m' ∧ n' ≤ 48 ∧ (∀ l ∈ ls, l < n) ∧ (∀ a ∈ as, a < n') ∧ ls.length = as.length ∧
  ∀ d M', Sup M M' → GrownTo m m' ls as d M' → Q d M'
theorem hl_grown (C : Addr) : ∀ ds M Q, sp_grown C ds M Q → ds.length = 4 := fun _ _ _ ⟨_, _, _, _, _, _, e, _⟩ => by rw [e]; rfl
theorem ok_grown (C : Addr) : ∀ ds M Q, sp_grown C ds M Q → r_grown C (dEnd Q) (dstart N_grown ds) M := by
  rintro ds M Q ⟨n, m, n', m', ls, as, rfl, g, hn, g', hn', hls, has, hll, h⟩
  unfold r_grown; simp only [dstart, N_grown, List.map, List.length, List.replicate, List.append, HAppend.hAppend, Append.append]
  have hbig := big48
  (first | rw [seq_def] | (simp only [gdName, dset]; rw [seq_def])); simp only [dFor_def, lc_def, lc2_def, dSet, dC, dVar, dIfS, dOr, dAnd, dNot, dTest, dTru, dBin, dUn, dCB, f1, f2, dCons, dNil, dRet, dRetN, dLstM, dLstI, dTup, dget, dset, dNext, dDrop, dBreak, dCont, dIf, dAndV, dOrV, dNotV, dChain, dPar, dAug, dAsg, gdName, gdTup, gdCons, gdNil, gdSub, dCall, dBM, dBMX, dSl, dNoPart, dPart, dNever, List.append_nil, dDisp1K, dDisp1T, dLstRg, dLstRgM, dTupRg, dRg1, dRg2, dTimesM, dNewK, dYes, mk_def, dFldSet, dISeq, dIRng1, dIRng2, dIRng3, dIEnum, dIZip, dwipe, dclr, fII, fIIc, fIB, fLt, fLe, fGt, fGe, fAdd, fSub, fMul, fDiv, fMod, fPow, fNeg, f1, f2, dstart, List.map, List.length, List.replicate, decide_eq_true_eq, if_true, if_false, Bool.false_eq_true, Bool.not_true, Bool.not_false, reduceIte]
  rw [show keyD (.int 0) = some (.inl 0) from rfl]
  intro p hp
  refine ⟨by decide, fun q hq => ?_⟩
  have hqp : q ≠ p := fun e => by rw [e, mupd_same] at hq; cases hq
  have hMq : M q = none := (Sup.new hp).none hq
  have hend : ∀ f ks ws, Sup M (mupd (mupd M p (.dK (kvF f ks))) q (.lst (ws : List D))) := fun f ks ws => (Sup.new hp).upd hMq
  have gq : ∀ f ks (ws : List D), mupd (mupd M p (.dK (kvF f ks))) q (.lst ws) q = some (.lst ws) := fun f ks ws => mupd_same
  have gp : ∀ f ks (ws : List D), mupd (mupd M p (.dK (kvF f ks))) q (.lst ws) p = some (.dK (kvF f ks)) := fun f ks ws => by rw [mupd_ne (Ne.symm hqp)]; exact mupd_same
  (first | rw [seq_def] | (simp only [gdName, dset]; rw [seq_def])); simp only [dFor_def, lc_def, lc2_def, dSet, dC, dVar, dIfS, dOr, dAnd, dNot, dTest, dTru, dBin, dUn, dCB, f1, f2, dCons, dNil, dRet, dRetN, dLstM, dLstI, dTup, dget, dset, dNext, dDrop, dBreak, dCont, dIf, dAndV, dOrV, dNotV, dChain, dPar, dAug, dAsg, gdName, gdTup, gdCons, gdNil, gdSub, dCall, dBM, dBMX, dSl, dNoPart, dPart, dNever, List.append_nil, dDisp1K, dDisp1T, dLstRg, dLstRgM, dTupRg, dRg1, dRg2, dTimesM, dNewK, dYes, mk_def, dFldSet, dISeq, dIRng1, dIRng2, dIRng3, dIEnum, dIZip, dwipe, dclr, fII, fIIc, fIB, fLt, fLe, fGt, fGe, fAdd, fSub, fMul, fDiv, fMod, fPow, fNeg, f1, f2, dstart, List.map, List.length, List.replicate, decide_eq_true_eq, if_true, if_false, Bool.false_eq_true, Bool.not_true, Bool.not_false, reduceIte]
  refine while_inv (fun k δ M' => ∃ f ks, ∃ ws : List Nat, M' = mupd (mupd M p (.dK (kvF f ks))) q (.lst (nD ws)) ∧ (∀ x ∈ ks, Gen m ls x) ∧ ks.Nodup ∧ 0 ∈ ks ∧ f 0 = 0 ∧ (∀ x ∈ ks, f x < n') ∧ (∀ h, Par m m' ls as h → ∀ x ∈ ks, f x = h x) ∧ (∀ w ∈ ws, w ∈ ks) ∧
    (∀ x ∈ ks, x ∉ ws → ∀ i, i < ls.length → m x (ap ls i) ∈ ks ∧ f (m x (ap ls i)) = m' (f x) (ap as i)) ∧ ws.length ≤ ks.length ∧ k = ws.length + 2 * (n - ks.length) ∧
    ∃ a b c d e, δ = [some (tabD C n m), some (tabD C n' m'), some (.tup (nD ls)), some (.tup (nD as)), some (.ref p), some (.ref q), a, b, c, d, e]) (1 + 2 * (n - 1)) ⟨fun _ => 0, [0], [0], rfl, fun x hx => by rw [List.mem_singleton.mp hx]; exact .one, by simp, by simp, rfl, fun x hx => g'.pos, fun h hp x hx => by rw [List.mem_singleton.mp hx]; exact hp.1.symm, fun w hw => hw, fun x hx h => absurd hx h, Nat.le_refl _, rfl, _, _, _, _, _, rfl⟩ ?_
  rintro k δ M' Nx ⟨f, ks, ws, rfl, hR, hnd, hid, hf0, hfl, hU, hw, hcl, hwk, hk, _, _, _, _, _, rfl⟩ hnx
  have hkl : ks.length ≤ n := nodup_lt hnd fun x hx => gen_lt g hls (hR x hx)
  (try simp only [dFor_def, lc_def, lc2_def, dSet, dC, dVar, dIfS, dOr, dAnd, dNot, dTest, dTru, dBin, dUn, dCB, f1, f2, dCons, dNil, dRet, dRetN, dLstM, dLstI, dTup, dget, dset, dNext, dDrop, dBreak, dCont, dIf, dAndV, dOrV, dNotV, dChain, dPar, dAug, dAsg, gdName, gdTup, gdCons, gdNil, gdSub, dCall, dBM, dBMX, dSl, dNoPart, dPart, dNever, List.append_nil, dDisp1K, dDisp1T, dLstRg, dLstRgM, dTupRg, dRg1, dRg2, dTimesM, dNewK, dYes, mk_def, dFldSet, dISeq, dIRng1, dIRng2, dIRng3, dIEnum, dIZip, dwipe, dclr, fII, fIIc, fIB, fLt, fLe, fGt, fGe, fAdd, fSub, fMul, fDiv, fMod, fPow, fNeg, f1, f2, dstart, List.map, List.length, List.replicate, decide_eq_true_eq, if_true, if_false, Bool.false_eq_true, Bool.not_true, Bool.not_false, reduceIte])
  refine ⟨Nat.zero_le _, ?_⟩
  refine ne_nil (gq _ _ _) (fun d hd => ?_) (fun d hd => ?_) ?_
  · obtain ⟨x, _, rfl⟩ := List.mem_map.mp hd; rfl
  · obtain ⟨x, _, rfl⟩ := List.mem_map.mp hd; simp [depD]
  rw [nD_len]
  dsimp only
  by_cases hws : ws = []
  · subst hws
    simp only [List.length_nil, decide_true, Bool.not_true, if_false, Bool.false_eq_true]
    have hclo : ∀ x, x ∈ ks ↔ Gen m ls x := fun x => by
      refine ⟨hR x, fun hx => ?_⟩
      induction hx with
      | one => exact hid
      | more _ hl ih =>
        obtain ⟨i, hi, rfl⟩ := List.mem_iff_getElem.mp hl
        have := (hcl _ ih (by simp) i hi).1
        rwa [ap_eq hi] at this
    exact fg (h _ _ (hend _ _ _) (.inr ⟨p, f, ks, rfl, gp _ _ _, ⟨hf0, fun x hx i hi => (hcl x ((hclo x).mpr hx) (by simp) i hi).2⟩, hclo⟩))
  · have hwl : ws.length ≠ 0 := fun e => hws (List.length_eq_zero_iff.mp e)
    simp only [decide_eq_false hwl, Bool.not_false, if_true]
    obtain ⟨ws0, one, rfl⟩ : ∃ a b, ws = a ++ [b] := ⟨ws.dropLast, ws.getLast hws, (List.dropLast_concat_getLast hws).symm⟩
    (first | rw [seq_def] | (simp only [gdName, dset]; rw [seq_def])); simp only [dFor_def, lc_def, lc2_def, dSet, dC, dVar, dIfS, dOr, dAnd, dNot, dTest, dTru, dBin, dUn, dCB, f1, f2, dCons, dNil, dRet, dRetN, dLstM, dLstI, dTup, dget, dset, dNext, dDrop, dBreak, dCont, dIf, dAndV, dOrV, dNotV, dChain, dPar, dAug, dAsg, gdName, gdTup, gdCons, gdNil, gdSub, dCall, dBM, dBMX, dSl, dNoPart, dPart, dNever, List.append_nil, dDisp1K, dDisp1T, dLstRg, dLstRgM, dTupRg, dRg1, dRg2, dTimesM, dNewK, dYes, mk_def, dFldSet, dISeq, dIRng1, dIRng2, dIRng3, dIEnum, dIZip, dwipe, dclr, fII, fIIc, fIB, fLt, fLe, fGt, fGe, fAdd, fSub, fMul, fDiv, fMod, fPow, fNeg, f1, f2, dstart, List.map, List.length, List.replicate, decide_eq_true_eq, if_true, if_false, Bool.false_eq_true, Bool.not_true, Bool.not_false, reduceIte]
    rw [List.length_append] at hwk
    simp only [List.length_cons, List.length_nil] at hwk
    rw [nD_app]
    refine ⟨ty_lst (gq _ _ _), pop_ (gq _ _ _) ?_⟩
    rw [mupd_mupd]
    (try simp only [dFor_def, lc_def, lc2_def, dSet, dC, dVar, dIfS, dOr, dAnd, dNot, dTest, dTru, dBin, dUn, dCB, f1, f2, dCons, dNil, dRet, dRetN, dLstM, dLstI, dTup, dget, dset, dNext, dDrop, dBreak, dCont, dIf, dAndV, dOrV, dNotV, dChain, dPar, dAug, dAsg, gdName, gdTup, gdCons, gdNil, gdSub, dCall, dBM, dBMX, dSl, dNoPart, dPart, dNever, List.append_nil, dDisp1K, dDisp1T, dLstRg, dLstRgM, dTupRg, dRg1, dRg2, dTimesM, dNewK, dYes, mk_def, dFldSet, dISeq, dIRng1, dIRng2, dIRng3, dIEnum, dIZip, dwipe, dclr, fII, fIIc, fIB, fLt, fLe, fGt, fGe, fAdd, fSub, fMul, fDiv, fMod, fPow, fNeg, f1, f2, dstart, List.map, List.length, List.replicate, decide_eq_true_eq, if_true, if_false, Bool.false_eq_true, Bool.not_true, Bool.not_false, reduceIte])
    have hone : one ∈ ks := hw one (by simp)
    have hpone := gen_lt g hls (hR one hone)
    rw [show ∀ M', bothL M' (.tup (nD ls)) (.tup (nD as)) = some (nD ls, nD as) from fun _ => rfl]
    dsimp only
    refine for_inv (fun j δ M' => ∃ f ks', ∃ ws' : List Nat, M' = mupd (mupd M p (.dK (kvF f ks'))) q (.lst (nD ws')) ∧ (∀ x ∈ ks', Gen m ls x) ∧ ks'.Nodup ∧ f 0 = 0 ∧ (∀ x ∈ ks', f x < n') ∧ (∀ h, Par m m' ls as h → ∀ x ∈ ks', f x = h x) ∧ (∀ x ∈ ks, x ∈ ks') ∧ (∀ k, k < j → m one (ap ls k) ∈ ks' ∧ f (m one (ap ls k)) = m' (f one) (ap as k)) ∧ (∀ w ∈ ws', w ∈ ks') ∧
      (∀ x ∈ ks', x ∉ ws' → x ≠ one → ∀ i, i < ls.length → m x (ap ls i) ∈ ks' ∧ f (m x (ap ls i)) = m' (f x) (ap as i)) ∧ ks'.length + ws0.length = ks.length + ws'.length ∧ ks.length ≤ ks'.length ∧
      ∃ b c d e, δ = [some (tabD C n m), some (tabD C n' m'), some (.tup (nD ls)), some (.tup (nD as)), some (.ref p), some (.ref q), some (.int (one : Nat)), b, c, d, e])
      ⟨f, ks, ws0, rfl, hR, hnd, hf0, hfl, hU, fun x hx => hx, fun k hk => by omega, fun w h => hw w (by simp [h]), fun x hx h1 h2 => hcl x hx (by simp [h1, h2]), rfl, Nat.le_refl _, _, _, _, _, rfl⟩ (fun j d δ M' Nx2 hd hI hnx2 => ?_) (fun δ M' hI => ?_)
    · obtain ⟨f, ks', ws', rfl, hR', hnd', hf0, hfl, hU, hsub, hdone, hw', hcl', hlen, hlk, _, _, _, _, rfl⟩ := hI
      obtain ⟨d1, d2, e1, e2, rfl⟩ := zip_inv hd
      obtain ⟨hj, rfl⟩ := nD_inv e1
      obtain ⟨hj2, rfl⟩ := nD_inv e2
      have hkl' : ks'.length ≤ n := nodup_lt hnd' fun x hx => gen_lt g hls (hR' x hx)
      have hy : ap ls j ∈ ls := by rw [ap_eq hj]; exact List.getElem_mem _
      have hya : ap as j ∈ as := by rw [ap_eq hj2]; exact List.getElem_mem _
      refine ⟨rfl, gd_pair ?_⟩
      (first | rw [seq_def] | (simp only [gdName, dset]; rw [seq_def])); simp only [dFor_def, lc_def, lc2_def, dSet, dC, dVar, dIfS, dOr, dAnd, dNot, dTest, dTru, dBin, dUn, dCB, f1, f2, dCons, dNil, dRet, dRetN, dLstM, dLstI, dTup, dget, dset, dNext, dDrop, dBreak, dCont, dIf, dAndV, dOrV, dNotV, dChain, dPar, dAug, dAsg, gdName, gdTup, gdCons, gdNil, gdSub, dCall, dBM, dBMX, dSl, dNoPart, dPart, dNever, List.append_nil, dDisp1K, dDisp1T, dLstRg, dLstRgM, dTupRg, dRg1, dRg2, dTimesM, dNewK, dYes, mk_def, dFldSet, dISeq, dIRng1, dIRng2, dIRng3, dIEnum, dIZip, dwipe, dclr, fII, fIIc, fIB, fLt, fLe, fGt, fGe, fAdd, fSub, fMul, fDiv, fMod, fPow, fNeg, f1, f2, dstart, List.map, List.length, List.replicate, decide_eq_true_eq, if_true, if_false, Bool.false_eq_true, Bool.not_true, Bool.not_false, reduceIte]
      refine fld_tab rfl ?_
      refine ix_line hpone ?_
      refine ix_cell (hls _ hy) ?_
      refine fld_tab rfl ?_
      refine ix_dK (gp _ _ _) (kvF_val (hsub _ hone)) ?_
      refine ix_line (hfl _ (hsub _ hone)) ?_
      refine ix_cell (has _ hya) ?_
      (try simp only [dFor_def, lc_def, lc2_def, dSet, dC, dVar, dIfS, dOr, dAnd, dNot, dTest, dTru, dBin, dUn, dCB, f1, f2, dCons, dNil, dRet, dRetN, dLstM, dLstI, dTup, dget, dset, dNext, dDrop, dBreak, dCont, dIf, dAndV, dOrV, dNotV, dChain, dPar, dAug, dAsg, gdName, gdTup, gdCons, gdNil, gdSub, dCall, dBM, dBMX, dSl, dNoPart, dPart, dNever, List.append_nil, dDisp1K, dDisp1T, dLstRg, dLstRgM, dTupRg, dRg1, dRg2, dTimesM, dNewK, dYes, mk_def, dFldSet, dISeq, dIRng1, dIRng2, dIRng3, dIEnum, dIZip, dwipe, dclr, fII, fIIc, fIB, fLt, fLe, fGt, fGe, fAdd, fSub, fMul, fDiv, fMod, fPow, fNeg, f1, f2, dstart, List.map, List.length, List.replicate, decide_eq_true_eq, if_true, if_false, Bool.false_eq_true, Bool.not_true, Bool.not_false, reduceIte])
      refine nin_dK (gp _ _ _) ?_
      rw [kvF_has]
      have hv2 := g'.clo _ _ (hfl _ (hsub _ hone)) (has _ hya)
      generalize hval : m one (ap ls j) = v
      generalize hw0 : m' (f one) (ap as j) = w at hv2
      by_cases hin : v ∈ ks'
      · simp only [decide_eq_true hin, Bool.not_true, if_false, Bool.false_eq_true]
        refine ix_dK (gp _ _ _) (kvF_val hin) ?_
        refine ne_int ?_
        dsimp only
        by_cases hfv : f v = w
        · have e1 : ((f v : Nat) : Int) = (w : Nat) := by omega
          simp only [decide_eq_true e1, Bool.not_true, if_false, Bool.false_eq_true]
          refine hnx2 _ _ ⟨f, ks', ws', rfl, hR', hnd', hf0, hfl, hU, hsub, fun k hk => ?_, hw', hcl', hlen, hlk, _, _, _, _, rfl⟩
          by_cases e : k = j
          · rw [e, hval, hw0]; exact ⟨hin, hfv⟩
          · exact hdone k (by omega)
        · have e1 : ¬ ((f v : Nat) : Int) = (w : Nat) := by omega
          simp only [decide_eq_false e1, Bool.not_false, if_true]
          refine fg (h _ _ (hend _ _ _) (.inl ⟨rfl, fun ⟨h2, hp2⟩ => ?_⟩))
          have a1 := hU h2 hp2 v hin
          have a2 := hU h2 hp2 one (hsub _ hone)
          have a3 := hp2.2 one (hR _ hone) j hj
          rw [hval, ← a1, ← a2, hw0] at a3
          exact hfv a3
      · simp only [decide_eq_false hin, Bool.not_false, if_true]
        (first | rw [seq_def] | (simp only [gdName, dset]; rw [seq_def])); simp only [dFor_def, lc_def, lc2_def, dSet, dC, dVar, dIfS, dOr, dAnd, dNot, dTest, dTru, dBin, dUn, dCB, f1, f2, dCons, dNil, dRet, dRetN, dLstM, dLstI, dTup, dget, dset, dNext, dDrop, dBreak, dCont, dIf, dAndV, dOrV, dNotV, dChain, dPar, dAug, dAsg, gdName, gdTup, gdCons, gdNil, gdSub, dCall, dBM, dBMX, dSl, dNoPart, dPart, dNever, List.append_nil, dDisp1K, dDisp1T, dLstRg, dLstRgM, dTupRg, dRg1, dRg2, dTimesM, dNewK, dYes, mk_def, dFldSet, dISeq, dIRng1, dIRng2, dIRng3, dIEnum, dIZip, dwipe, dclr, fII, fIIc, fIB, fLt, fLe, fGt, fGe, fAdd, fSub, fMul, fDiv, fMod, fPow, fNeg, f1, f2, dstart, List.map, List.length, List.replicate, decide_eq_true_eq, if_true, if_false, Bool.false_eq_true, Bool.not_true, Bool.not_false, reduceIte]
        refine set_dK (gp _ _ _) (by rw [kvF_len]; omega) ?_
        rw [kvF_put hin]
        (try simp only [dFor_def, lc_def, lc2_def, dSet, dC, dVar, dIfS, dOr, dAnd, dNot, dTest, dTru, dBin, dUn, dCB, f1, f2, dCons, dNil, dRet, dRetN, dLstM, dLstI, dTup, dget, dset, dNext, dDrop, dBreak, dCont, dIf, dAndV, dOrV, dNotV, dChain, dPar, dAug, dAsg, gdName, gdTup, gdCons, gdNil, gdSub, dCall, dBM, dBMX, dSl, dNoPart, dPart, dNever, List.append_nil, dDisp1K, dDisp1T, dLstRg, dLstRgM, dTupRg, dRg1, dRg2, dTimesM, dNewK, dYes, mk_def, dFldSet, dISeq, dIRng1, dIRng2, dIRng3, dIEnum, dIZip, dwipe, dclr, fII, fIIc, fIB, fLt, fLe, fGt, fGe, fAdd, fSub, fMul, fDiv, fMod, fPow, fNeg, f1, f2, dstart, List.map, List.length, List.replicate, decide_eq_true_eq, if_true, if_false, Bool.false_eq_true, Bool.not_true, Bool.not_false, reduceIte])
        have em : ∀ f', mupd (mupd (mupd M p (.dK (kvF f ks'))) q (.lst (nD ws'))) p (.dK (kvF f' (ks' ++ [v]))) = mupd (mupd M p (.dK (kvF f' (ks' ++ [v])))) q (.lst (nD ws')) := fun f' => by
          rw [mupd_comm hqp, mupd_mupd]
        rw [em]
        generalize hf' : (fun x => if x = v then w else f x) = f'
        have fo : ∀ x, x ∈ ks' → f' x = f x := fun x hx => by
          rw [← hf']
          have hne : x ≠ v := fun e => hin (e ▸ hx)
          simp only [hne, if_false]
        have fv : f' v = w := by rw [← hf']; simp only [if_true]
        refine ⟨ty_lst (gq _ _ _), app_ (gq _ _ _) (by rw [nD_len]; omega) ?_⟩
        rw [mupd_mupd]
        refine hnx2 _ _ ⟨f', ks' ++ [v], ws' ++ [v], by rw [nD_app]; rfl, fun x hx => ?_, ?_, ?_, fun x hx => ?_, fun h2 hp2 x hx => ?_, fun x hx => List.mem_append_left _ (hsub x hx), fun k hk => ?_, fun w hx => ?_, fun x hx h1 h2 i hi => ?_, ?_, ?_, _, _, _, _, rfl⟩
        · rcases List.mem_append.mp hx with h | h
          · exact hR' x h
          · rw [List.mem_singleton.mp h, ← hval]; exact .more (hR _ hone) hy
        · rw [List.nodup_append]
          refine ⟨hnd', by simp, fun a ha b hb e => ?_⟩
          rw [List.mem_singleton.mp hb] at e
          exact hin (e ▸ ha)
        · rw [fo 0 (hsub _ hid)]; exact hf0
        · rcases List.mem_append.mp hx with h | h
          · rw [fo x h]; exact hfl x h
          · rw [List.mem_singleton.mp h, fv]; exact hv2
        · rcases List.mem_append.mp hx with h | h
          · rw [fo x h]; exact hU h2 hp2 x h
          · rw [List.mem_singleton.mp h, fv, ← hw0, ← hval, hp2.2 one (hR _ hone) j hj, hU h2 hp2 one (hsub _ hone)]
        · rw [fo one (hsub _ hone)]
          by_cases e : k = j
          · rw [e, hval, fv, hw0]; exact ⟨by simp, rfl⟩
          · obtain ⟨b1, b2⟩ := hdone k (by omega)
            rw [fo _ b1]
            exact ⟨List.mem_append_left _ b1, b2⟩
        · rcases List.mem_append.mp hx with h | h
          · exact List.mem_append_left _ (hw' w h)
          · exact List.mem_append_right _ h
        · rcases List.mem_append.mp hx with h | h
          · obtain ⟨b1, b2⟩ := hcl' x h (fun z => h1 (List.mem_append_left _ z)) h2 i hi
            rw [fo _ b1, fo _ h]
            exact ⟨List.mem_append_left _ b1, b2⟩
          · exact absurd (List.mem_append_right _ h) h1
        · rw [List.length_append, List.length_append]; simp; omega
        · rw [List.length_append]; simp; omega
    · obtain ⟨f, ks', ws', rfl, hR', hnd', hf0, hfl, hU, hsub, hdone, hw', hcl', hlen, hlk, _, _, _, _, rfl⟩ := hI
      have hzl : (zipPairs (nD ls) (nD as)).length = ls.length := by rw [zipPairs_len, nD_len, nD_len]; omega
      rw [hzl] at hdone
      have hkl' : ks'.length ≤ n := nodup_lt hnd' fun x hx => gen_lt g hls (hR' x hx)
      refine ⟨rfl, ?_⟩
      rw [List.length_append] at hk
      simp only [List.length_cons, List.length_nil] at hk
      refine hnx (ws'.length + 2 * (n - ks'.length)) _ _ (by omega) ⟨f, ks', ws', rfl, hR', hnd', hsub _ hid, hf0, hfl, hU, hw', fun x hx h1 i hi => ?_, by omega, rfl, _, _, _, _, _, rfl⟩
      by_cases e : x = one
      · subst e
        exact hdone i hi
      · exact hcl' x hx h1 e i hi
end T73
end
section
set_option Elab.async false
set_option linter.all false
set_option maxHeartbeats 1000000
namespace T73
open T74
open DL
/-- a homomorphism, by its row -/
structure IsHom (n : Nat) (m : N2) (n' : Nat) (m' : N2) (r : List Nat) : Prop where
  len : r.length = n
  lt : ∀ i, i < n → ap r i < n'
  mul : ∀ i j, i < n → j < n → ap r (m i j) = m' (ap r i) (ap r j)
def LtC (n : Nat) (x y : List Nat) : Prop := TS.code (n : Nat) (natsI x) < TS.code (n : Nat) (natsI y)
theorem LtC.irr {n : Nat} {x : List Nat} (h : LtC n x x) : False := Int.lt_irrefl _ h
theorem nodup_LtC {n : Nat} {l : List (List Nat)} (h : l.Pairwise (LtC n)) : l.Nodup := by
  rw [List.nodup_iff_pairwise_ne]
  exact h.imp fun {a b} q e => by subst e; exact q.irr
/-- what all_grown gives -/
structure RowsOk (m : N2) (n' : Nat) (m' : N2) (ls : List Nat) (rows : List (List Nat)) : Prop where
  mem : ∀ as, as ∈ rows ↔ as.length = ls.length ∧ (∀ a ∈ as, a < n') ∧ ∃ f, Par m m' ls as f
  srt : rows.Pairwise (LtC n')
  few : rows.length ≤ n' ^ ls.length
theorem code_snoc (B : Int) (a : Int) : ∀ ns : List Int, TS.code B (ns ++ [a]) = TS.code B ns * B + a
  | [] => by simp [TS.code]
  | d :: r => by
    show d * B ^ (r ++ [a]).length + TS.code B (r ++ [a]) = (d * B ^ r.length + TS.code B r) * B + a
    rw [code_snoc B a r, List.length_append, Int.add_mul, Int.mul_assoc, ← Int.pow_succ]
    simp only [List.length_cons, List.length_nil, Nat.zero_add, Nat.succ_eq_add_one]
    omega
theorem natsI_snoc (x : List Nat) (a : Nat) : natsI (x ++ [a]) = natsI x ++ [(a : Int)] := by unfold natsI; rw [List.map_append]; rfl
theorem LtC.snoc {n : Nat} {x y : List Nat} {a b : Nat} (ha : a < n) (h : LtC n x y) : LtC n (x ++ [a]) (y ++ [b]) := by
  unfold LtC at h ⊢
  rw [natsI_snoc, natsI_snoc, code_snoc, code_snoc]
  generalize TS.code (n : Nat) (natsI x) = X at h ⊢
  generalize TS.code (n : Nat) (natsI y) = Y at h ⊢
  have : (X + 1) * (n : Int) ≤ Y * (n : Int) := Int.mul_le_mul_of_nonneg_right (by omega) (by omega)
  rw [Int.add_mul, Int.one_mul] at this
  omega
theorem LtC.last {n : Nat} {x : List Nat} {a b : Nat} (h : a < b) : LtC n (x ++ [a]) (x ++ [b]) := by
  unfold LtC
  rw [natsI_snoc, natsI_snoc, code_snoc, code_snoc]
  omega
/-- the first place where they differ -/
theorem LtC.first {n : Nat} {x y : List Nat} (hl : x.length = y.length) (h1 : ∀ a ∈ x, a < n) (h2 : ∀ a ∈ y, a < n) (h : LtC n x y) : ∃ k, k < x.length ∧ ap x k < ap y k ∧ ∀ j, j < k → ap x j = ap y j := by
  have hne : x ≠ y := fun e => by subst e; exact h.irr
  obtain ⟨k, hk, hd, hs⟩ := first_diff hl hne
  refine ⟨k, hk, ?_, hs⟩
  rcases Nat.lt_or_gt_of_ne hd with c | c
  · exact c
  · have := code_first k y x hl.symm h2 h1 (by omega) c fun j hj => (hs j hj).symm
    unfold LtC at h; omega
theorem ap_take {l : List Nat} {k i : Nat} (h : i < k) (h2 : i < l.length) : ap (l.take k) i = ap l i := by
  rw [ap_eq (by rw [List.length_take]; omega), ap_eq h2, List.getElem_take]
theorem ap_snoc {l : List Nat} {a i : Nat} (h : i < l.length) : ap (l ++ [a]) i = ap l i := by
  rw [ap_eq (by rw [List.length_append]; omega), ap_eq h, List.getElem_append_left h]
theorem ap_last {l : List Nat} {a : Nat} : ap (l ++ [a]) l.length = a := by
  rw [ap_eq (by rw [List.length_append]; simp), List.getElem_append_right (Nat.le_refl _)]; simp
theorem Par.less {m m' : N2} {ls as : List Nat} {a : Nat} {p : Nat} {f : Nat → Nat} (hp : p < ls.length) (hl : as.length = p) (h : Par m m' (ls.take (p + 1)) (as ++ [a]) f) : Par m m' (ls.take p) as f := by
  refine ⟨h.1, fun x hx i hi => ?_⟩
  rw [List.length_take] at hi
  have hsub : ∀ l ∈ ls.take p, l ∈ ls.take (p + 1) := fun l hl => by
    rw [List.take_succ_eq_append_getElem hp]; exact List.mem_append_left _ hl
  have := h.2 x (hx.mono hsub) i (by rw [List.length_take]; omega)
  rw [ap_take (by omega) (by omega), ap_snoc (by omega)] at this
  rw [ap_take (by omega) (by omega)]
  exact this
/-- from the leads to the whole -/
theorem par_hom {n n' : Nat} {m m' : N2} (g : IsGrp n m) (g' : IsGrp n' m') {ls as : List Nat} (L : Leads n m ls) (has : ∀ a ∈ as, a < n') (hl : ls.length = as.length) {f : Nat → Nat} (h : Par m m' ls as f) :
    IsHom n m n' m' ((List.range n).map f) ∧ ∀ i, i < ls.length → f (ap ls i) = ap as i := by
  have lt : ∀ x, Gen m ls x → f x < n' := fun x hx => by
    induction hx with
    | one => rw [h.1]; exact g'.pos
    | more hx hl2 ih =>
      obtain ⟨i, hi, rfl⟩ := List.mem_iff_getElem.mp hl2
      have := h.2 _ hx i hi
      rw [ap_eq hi] at this
      rw [this]
      exact g'.clo _ _ ih (by rw [ap_eq (by omega)]; exact has _ (List.getElem_mem _))
  have im : ∀ i, i < ls.length → f (ap ls i) = ap as i := fun i hi => by
    have := h.2 0 .one i hi
    have e1 : ap ls i < n := by rw [ap_eq hi]; exact L.lt _ (List.getElem_mem _)
    have e2 : ap as i < n' := by rw [ap_eq (by omega)]; exact has _ (List.getElem_mem _)
    rw [h.1, g.le0 _ e1, g'.le0 _ e2] at this
    exact this
  have hlt := L.lt
  have mul : ∀ x, x < n → ∀ y, Gen m ls y → f (m x y) = m' (f x) (f y) := fun x hx y hy => by
    induction hy with
    | one => rw [g.ri0 x hx, h.1, g'.ri0 _ (lt x (L.all x hx))]
    | @more y l hy hl2 ih =>
      obtain ⟨i, hi, rfl⟩ := List.mem_iff_getElem.mp hl2
      have e1 := h.2 _ (gen_mul g hlt (L.all x hx) hy) i hi
      have e2 := h.2 _ hy i hi
      rw [ap_eq hi] at e1 e2
      have hyn := gen_lt g hlt hy
      rw [← g.ass _ _ _ hx hyn (hlt _ hl2), e1, e2, ih, g'.ass _ _ _ (lt x (L.all x hx)) (lt y hy) (by rw [ap_eq (by omega)]; exact has _ (List.getElem_mem _))]
  refine ⟨⟨by rw [List.length_map, List.length_range], fun i hi => by rw [ap_mapr hi]; exact lt i (L.all i hi), fun i j hi hj => ?_⟩, im⟩
  rw [ap_mapr (g.clo i j hi hj), ap_mapr hi, ap_mapr hj]
  exact mul i hi j (L.all j hj)
theorem hom_zero {n n' : Nat} {m m' : N2} (g : IsGrp n m) (g' : IsGrp n' m') {r : List Nat} (h : IsHom n m n' m' r) : ap r 0 = 0 := by
  have h0 := h.lt 0 g.pos
  have := h.mul 0 0 g.pos g.pos
  rw [g.le0 0 g.pos] at this
  exact (g'.canL g'.pos h0 h0 ((g'.ri0 _ h0).trans this)).symm
/-- a homomorphism is one as far as any leads reach -/
theorem hom_par {n n' : Nat} {m m' : N2} (g : IsGrp n m) (g' : IsGrp n' m') {r ls : List Nat} (h : IsHom n m n' m' r) (hls : ∀ l ∈ ls, l < n) : Par m m' ls (ls.map fun l => ap r l) (fun x => ap r x) := by
  refine ⟨hom_zero g g' h, fun x hx i hi => ?_⟩
  have hl : ap ls i < n := by rw [ap_eq hi]; exact hls _ (List.getElem_mem _)
  show ap r (m x (ap ls i)) = m' (ap r x) (ap (ls.map fun l => ap r l) i)
  rw [h.mul x _ (gen_lt g hls hx) hl, ap_map hi]
/-- two that agree on leads agree on what they reach -/
theorem par_agree {m m' : N2} {ls as bs : List Nat} {f f2 : Nat → Nat} (h1 : Par m m' ls as f) (h2 : Par m m' ls bs f2) (e : ∀ i, i < ls.length → ap as i = ap bs i) {x : Nat} (hx : Gen m ls x) : f x = f2 x := by
  induction hx with
  | one => rw [h1.1, h2.1]
  | more hx hl ih =>
    obtain ⟨i, hi, rfl⟩ := List.mem_iff_getElem.mp hl
    have a1 := h1.2 _ hx i hi
    have a2 := h2.2 _ hx i hi
    rw [ap_eq hi] at a1 a2
    rw [a1, a2, ih, e i hi]
end T73
end
section
set_option Elab.async false
set_option linter.all false
set_option maxHeartbeats 1000000
namespace T73
open T74
open DL
open Classical in
noncomputable def ext (m m' : N2) (ls : List Nat) (row : List Nat) (a : Nat) : List (List Nat) := ((List.range a).filter fun aim => decide (∃ f, Par m m' ls (row ++ [aim]) f)).map fun aim => row ++ [aim]
noncomputable def nextR (m m' : N2) (ls : List Nat) (n : Nat) (rows : List (List Nat)) : List (List Nat) := rows.flatMap fun row => ext m m' ls row n
theorem ext_mem {m m' : N2} {ls row as : List Nat} {a : Nat} : as ∈ ext m m' ls row a ↔ ∃ aim, aim < a ∧ (∃ f, Par m m' ls (row ++ [aim]) f) ∧ as = row ++ [aim] := by
  unfold ext
  simp only [List.mem_map, List.mem_filter, List.mem_range, decide_eq_true_eq]
  constructor
  · rintro ⟨x, ⟨h1, h2⟩, rfl⟩; exact ⟨x, h1, h2, rfl⟩
  · rintro ⟨x, h1, h2, rfl⟩; exact ⟨x, ⟨h1, h2⟩, rfl⟩
theorem ext_len {m m' : N2} {ls row : List Nat} {a : Nat} : (ext m m' ls row a).length ≤ a := by
  unfold ext
  rw [List.length_map]
  refine Nat.le_trans (List.length_filter_le _ _) ?_
  rw [List.length_range]; exact Nat.le_refl _
theorem ext_yes {m m' : N2} {ls row : List Nat} {a : Nat} (h : ∃ f, Par m m' ls (row ++ [a]) f) : ext m m' ls row (a + 1) = ext m m' ls row a ++ [row ++ [a]] := by
  unfold ext
  rw [List.range_succ, List.filter_append, List.map_append]
  simp [h]
theorem ext_no {m m' : N2} {ls row : List Nat} {a : Nat} (h : ¬ ∃ f, Par m m' ls (row ++ [a]) f) : ext m m' ls row (a + 1) = ext m m' ls row a := by
  unfold ext
  rw [List.range_succ, List.filter_append, List.map_append]
  simp only [List.filter_cons, List.filter_nil, h, decide_false, if_false, Bool.false_eq_true, List.map_nil, List.append_nil]
theorem nextR_len {m m' : N2} {ls : List Nat} {n : Nat} : ∀ rows : List (List Nat), (nextR m m' ls n rows).length ≤ rows.length * n
  | [] => by simp [nextR]
  | r :: rows => by
    unfold nextR
    rw [List.flatMap_cons, List.length_append, List.length_cons, Nat.succ_mul]
    have := nextR_len (m := m) (m' := m') (ls := ls) (n := n) rows
    have := ext_len (m := m) (m' := m') (ls := ls) (row := r) (a := n)
    unfold nextR at *
    omega
theorem rows_step {n : Nat} {m m' : N2} {ls : List Nat} {p : Nat} {rows : List (List Nat)} (hp : p < ls.length) (R : RowsOk m n m' (ls.take p) rows) : RowsOk m n m' (ls.take (p + 1)) (nextR m m' (ls.take (p + 1)) n rows) := by
  have l1 : (ls.take p).length = p := by rw [List.length_take]; omega
  have l2 : (ls.take (p + 1)).length = p + 1 := by rw [List.length_take]; omega
  refine ⟨fun as => ?_, ?_, ?_⟩
  · unfold nextR
    rw [List.mem_flatMap]
    constructor
    · rintro ⟨row, hr, h⟩
      obtain ⟨aim, h1, h2, rfl⟩ := ext_mem.mp h
      obtain ⟨a1, a2, _⟩ := (R.mem row).mp hr
      refine ⟨by rw [List.length_append, a1, l1, l2]; rfl, fun a ha => ?_, h2⟩
      rcases List.mem_append.mp ha with e | e
      · exact a2 a e
      · rw [List.mem_singleton.mp e]; exact h1
    · rintro ⟨h1, h2, f, hf⟩
      rw [l2] at h1
      have hne : as ≠ [] := fun e => by rw [e] at h1; simp at h1
      obtain ⟨row, aim, rfl⟩ : ∃ a b, as = a ++ [b] := ⟨as.dropLast, as.getLast hne, (List.dropLast_concat_getLast hne).symm⟩
      rw [List.length_append] at h1
      simp only [List.length_cons, List.length_nil] at h1
      refine ⟨row, (R.mem row).mpr ⟨by rw [l1]; omega, fun a ha => h2 a (List.mem_append_left _ ha), f, hf.less hp (by omega)⟩, ext_mem.mpr ⟨aim, h2 aim (by simp), ⟨f, hf⟩, rfl⟩⟩
  · unfold nextR
    rw [List.pairwise_flatMap]
    constructor
    · intro row _
      unfold ext
      rw [List.pairwise_map]
      exact (List.pairwise_lt_range.filter _).imp fun h => LtC.last h
    · refine R.srt.imp fun {a b} h x hx y hy => ?_
      obtain ⟨u, hu, _, rfl⟩ := ext_mem.mp hx
      obtain ⟨v, hv, _, rfl⟩ := ext_mem.mp hy
      exact h.snoc hu
  · rw [l2, Nat.pow_succ]
    have := R.few
    rw [l1] at this
    exact Nat.le_trans (nextR_len rows) (Nat.mul_le_mul_right n this)
theorem rows_zero {n : Nat} {m m' : N2} {ls : List Nat} : RowsOk m n m' (ls.take 0) [[]] := by
  refine ⟨fun as => ?_, by simp, by simp⟩
  rw [List.take_zero]
  constructor
  · intro h
    rw [List.mem_singleton.mp h]
    refine ⟨rfl, (fun _ z => nomatch z), fun _ => 0, rfl, fun x _ i hi => absurd hi (Nat.not_lt_zero _)⟩
  · rintro ⟨h, _⟩
    rw [List.length_eq_zero_iff.mp h]; simp
end T73
end
section
set_option Elab.async false
set_option linter.all false
set_option maxRecDepth 100000
set_option maxHeartbeats 4000000
namespace T73
open T74
open DL PySem PySem.Spec PyProof.Rows L2
theorem cut_nD {l : List Nat} {k : Nat} : cutD (nD l) none (some (k : Nat)) = nD (l.take k) := by
  have e : ∀ x : List Nat, nD x = x.map fun k => D.int (k : Nat) := fun x => by
    unfold nD natsI; rw [List.map_map]; rfl
  rw [e, e, cut_map, HT.sIx_none, HT.sIx_nat]
  congr 1
  rw [List.drop_zero, Nat.sub_zero]
  rcases Nat.le_total k l.length with h | h
  · rw [Nat.min_eq_left h]
  · rw [Nat.min_eq_right h, List.take_of_length_le (Nat.le_refl _), List.take_of_length_le h]
def choD (n k : Nat) : D := .lst (List.replicate k (.lst (nD (List.range n))))
def sp_all_grown (C : Addr) : SpD := fun ds M Q => ∃ n m n' m' ls, ds = [tabD C n m, tabD C n' m', .tup (nD ls), choD n' ls.length] ∧ IsGrp n m ∧ n ≤ 12 ∧ IsGrp n' m' ∧ n' ≤ 12 ∧ (∀ l ∈ ls, l < n) ∧ ls.length ≤ 3 ∧
  ∀ d M' rows, Sup M M' → seqD M' d = some (rows.map permD) → RowsOk m n' m' ls rows → Q d M'
theorem hl_all_grown (C : Addr) : ∀ ds M Q, sp_all_grown C ds M Q → ds.length = 4 := fun _ _ _ ⟨_, _, _, _, _, e, _⟩ => by rw [e]; rfl
theorem ok_all_grown (C : Addr) : ∀ ds M Q, sp_all_grown C ds M Q → r_all_grown (sp_grown C) (dEnd Q) (dstart N_all_grown ds) M := by
  rintro ds M Q ⟨n, m, n', m', ls, rfl, g, hn, g', hn', hls, hll, h⟩
  unfold r_all_grown; simp only [dstart, N_all_grown, List.map, List.length, List.replicate, List.append, HAppend.hAppend, Append.append]
  have hbig := big48
  have hpow : ∀ k, k ≤ 3 → n' ^ k ≤ 1728 := fun k hk => by
    have h1 : n' ^ k ≤ 12 ^ k := Nat.pow_le_pow_left hn' k
    have h2 : 12 ^ k ≤ 12 ^ 3 := Nat.pow_le_pow_right (by omega) hk
    omega
  (first | rw [seq_def] | (simp only [gdName, dset]; rw [seq_def])); simp only [dFor_def, lc_def, lc2_def, dSet, dC, dVar, dIfS, dOr, dAnd, dNot, dTest, dTru, dBin, dUn, dCB, f1, f2, dCons, dNil, dRet, dRetN, dLstM, dLstI, dTup, dget, dset, dNext, dDrop, dBreak, dCont, dIf, dAndV, dOrV, dNotV, dChain, dPar, dAug, dAsg, gdName, gdTup, gdCons, gdNil, gdSub, dCall, dBM, dBMX, dSl, dNoPart, dPart, dNever, List.append_nil, dDisp1K, dDisp1T, dLstRg, dLstRgM, dTupRg, dRg1, dRg2, dTimesM, dNewK, dYes, mk_def, dFldSet, dISeq, dIRng1, dIRng2, dIRng3, dIEnum, dIZip, dwipe, dclr, fII, fIIc, fIB, fLt, fLe, fGt, fGe, fAdd, fSub, fMul, fDiv, fMod, fPow, fNeg, f1, f2, dstart, List.map, List.length, List.replicate, decide_eq_true_eq, if_true, if_false, Bool.false_eq_true, Bool.not_true, Bool.not_false, reduceIte]
  refine ⟨by decide, by decide, ?_⟩
  (first | rw [seq_def] | (simp only [gdName, dset]; rw [seq_def])); simp only [dFor_def, lc_def, lc2_def, dSet, dC, dVar, dIfS, dOr, dAnd, dNot, dTest, dTru, dBin, dUn, dCB, f1, f2, dCons, dNil, dRet, dRetN, dLstM, dLstI, dTup, dget, dset, dNext, dDrop, dBreak, dCont, dIf, dAndV, dOrV, dNotV, dChain, dPar, dAug, dAsg, gdName, gdTup, gdCons, gdNil, gdSub, dCall, dBM, dBMX, dSl, dNoPart, dPart, dNever, List.append_nil, dDisp1K, dDisp1T, dLstRg, dLstRgM, dTupRg, dRg1, dRg2, dTimesM, dNewK, dYes, mk_def, dFldSet, dISeq, dIRng1, dIRng2, dIRng3, dIEnum, dIZip, dwipe, dclr, fII, fIIc, fIB, fLt, fLe, fGt, fGe, fAdd, fSub, fMul, fDiv, fMod, fPow, fNeg, f1, f2, dstart, List.map, List.length, List.replicate, decide_eq_true_eq, if_true, if_false, Bool.false_eq_true, Bool.not_true, Bool.not_false, reduceIte]
  rw [show ∀ M', seqD M' (choD n' ls.length) = some (List.replicate ls.length (.lst (nD (List.range n')))) from fun _ => rfl]
  dsimp only
  refine for_inv (fun i δ M' => Sup M M' ∧ ∃ rows d, RowsOk m n' m' (ls.take i) rows ∧ seqD M' d = some (rows.map permD) ∧ ∃ a b c x y, δ = [some (tabD C n m), some (tabD C n' m'), some (.tup (nD ls)), some (choD n' ls.length), some d, a, b, c, x, y]) ⟨Sup.rfl', [[]], _, rows_zero, rfl, _, _, _, _, _, rfl⟩ (fun i d0 δ M' Nx hd hI hnx => ?_) (fun δ M' hI => ?_)
  · obtain ⟨hs, rows, d, hR, hsd, _, _, _, _, _, rfl⟩ := hI
    obtain ⟨e, he, rfl⟩ := en_inv hd
    have hi := (List.getElem?_eq_some_iff.mp he).1
    rw [List.length_replicate] at hi
    rw [List.getElem?_replicate, if_pos hi] at he
    cases he
    have hrl : rows.length ≤ 1728 := by
      refine Nat.le_trans hR.few ?_
      rw [List.length_take]; exact hpow _ (by omega)
    refine ⟨rfl, gd_pair ?_⟩
    (first | rw [seq_def] | (simp only [gdName, dset]; rw [seq_def])); simp only [dFor_def, lc_def, lc2_def, dSet, dC, dVar, dIfS, dOr, dAnd, dNot, dTest, dTru, dBin, dUn, dCB, f1, f2, dCons, dNil, dRet, dRetN, dLstM, dLstI, dTup, dget, dset, dNext, dDrop, dBreak, dCont, dIf, dAndV, dOrV, dNotV, dChain, dPar, dAug, dAsg, gdName, gdTup, gdCons, gdNil, gdSub, dCall, dBM, dBMX, dSl, dNoPart, dPart, dNever, List.append_nil, dDisp1K, dDisp1T, dLstRg, dLstRgM, dTupRg, dRg1, dRg2, dTimesM, dNewK, dYes, mk_def, dFldSet, dISeq, dIRng1, dIRng2, dIRng3, dIEnum, dIZip, dwipe, dclr, fII, fIIc, fIB, fLt, fLe, fGt, fGe, fAdd, fSub, fMul, fDiv, fMod, fPow, fNeg, f1, f2, dstart, List.map, List.length, List.replicate, decide_eq_true_eq, if_true, if_false, Bool.false_eq_true, Bool.not_true, Bool.not_false, reduceIte]
    refine ⟨by decide, fun q hq => ?_⟩
    (first | rw [seq_def] | (simp only [gdName, dset]; rw [seq_def])); simp only [dFor_def, lc_def, lc2_def, dSet, dC, dVar, dIfS, dOr, dAnd, dNot, dTest, dTru, dBin, dUn, dCB, f1, f2, dCons, dNil, dRet, dRetN, dLstM, dLstI, dTup, dget, dset, dNext, dDrop, dBreak, dCont, dIf, dAndV, dOrV, dNotV, dChain, dPar, dAug, dAsg, gdName, gdTup, gdCons, gdNil, gdSub, dCall, dBM, dBMX, dSl, dNoPart, dPart, dNever, List.append_nil, dDisp1K, dDisp1T, dLstRg, dLstRgM, dTupRg, dRg1, dRg2, dTimesM, dNewK, dYes, mk_def, dFldSet, dISeq, dIRng1, dIRng2, dIRng3, dIEnum, dIZip, dwipe, dclr, fII, fIIc, fIB, fLt, fLe, fGt, fGe, fAdd, fSub, fMul, fDiv, fMod, fPow, fNeg, f1, f2, dstart, List.map, List.length, List.replicate, decide_eq_true_eq, if_true, if_false, Bool.false_eq_true, Bool.not_true, Bool.not_false, reduceIte]
    rw [seq_sup (Sup.new hq) hsd]
    dsimp only
    refine for_inv (fun j δ M2 => Sup M' M2 ∧ M2 q = some (.lst ((nextR m m' (ls.take (i + 1)) n' (rows.take j)).map permD)) ∧ ∃ a b, δ = [some (tabD C n m), some (tabD C n' m'), some (.tup (nD ls)), some (choD n' ls.length), some d, some (.int (i : Nat)), some (.lst (nD (List.range n'))), some (.ref q), a, b]) ⟨Sup.new hq, mupd_same, _, _, rfl⟩ (fun j d1 δ M2 Nx2 hd hI hnx2 => ?_) (fun δ M2 hI => ?_)
    · obtain ⟨hs2, hM2, _, _, rfl⟩ := hI
      have hj := (List.getElem?_eq_some_iff.mp hd).1
      rw [List.length_map] at hj
      rw [List.getElem?_map, am_at hj] at hd
      cases hd
      refine ⟨seq_sup hs2 hsd, ?_⟩
      (try simp only [dFor_def, lc_def, lc2_def, dSet, dC, dVar, dIfS, dOr, dAnd, dNot, dTest, dTru, dBin, dUn, dCB, f1, f2, dCons, dNil, dRet, dRetN, dLstM, dLstI, dTup, dget, dset, dNext, dDrop, dBreak, dCont, dIf, dAndV, dOrV, dNotV, dChain, dPar, dAug, dAsg, gdName, gdTup, gdCons, gdNil, gdSub, dCall, dBM, dBMX, dSl, dNoPart, dPart, dNever, List.append_nil, dDisp1K, dDisp1T, dLstRg, dLstRgM, dTupRg, dRg1, dRg2, dTimesM, dNewK, dYes, mk_def, dFldSet, dISeq, dIRng1, dIRng2, dIRng3, dIEnum, dIZip, dwipe, dclr, fII, fIIc, fIB, fLt, fLe, fGt, fGe, fAdd, fSub, fMul, fDiv, fMod, fPow, fNeg, f1, f2, dstart, List.map, List.length, List.replicate, decide_eq_true_eq, if_true, if_false, Bool.false_eq_true, Bool.not_true, Bool.not_false, reduceIte])
      generalize hrow : am rows j = row
      have hrm : row ∈ rows := by rw [← hrow]; exact am_mem hj
      obtain ⟨r1, r2, _⟩ := (hR.mem row).mp hrm
      have r1' : row.length = i := by rw [r1, List.length_take]; omega
      refine for_inv (fun a δ M3 => Sup M' M3 ∧ M3 q = some (.lst ((nextR m m' (ls.take (i + 1)) n' (rows.take j) ++ ext m m' (ls.take (i + 1)) row a).map permD)) ∧ ∃ b, δ = [some (tabD C n m), some (tabD C n' m'), some (.tup (nD ls)), some (choD n' ls.length), some d, some (.int (i : Nat)), some (.lst (nD (List.range n'))), some (.ref q), some (permD row), b]) ⟨hs2, (by rw [hM2]; simp [ext]), _, rfl⟩ (fun a d2 δ M3 Nx3 hd hI hnx3 => ?_) (fun δ M3 hI => ?_)
      · obtain ⟨hs3, hM3, _, rfl⟩ := hI
        obtain ⟨ha, rfl⟩ := nD_inv hd
        rw [List.length_range] at ha
        rw [ap_range ha]
        refine ⟨rfl, ?_⟩
        (try simp only [dFor_def, lc_def, lc2_def, dSet, dC, dVar, dIfS, dOr, dAnd, dNot, dTest, dTru, dBin, dUn, dCB, f1, f2, dCons, dNil, dRet, dRetN, dLstM, dLstI, dTup, dget, dset, dNext, dDrop, dBreak, dCont, dIf, dAndV, dOrV, dNotV, dChain, dPar, dAug, dAsg, gdName, gdTup, gdCons, gdNil, gdSub, dCall, dBM, dBMX, dSl, dNoPart, dPart, dNever, List.append_nil, dDisp1K, dDisp1T, dLstRg, dLstRgM, dTupRg, dRg1, dRg2, dTimesM, dNewK, dYes, mk_def, dFldSet, dISeq, dIRng1, dIRng2, dIRng3, dIEnum, dIZip, dwipe, dclr, fII, fIIc, fIB, fLt, fLe, fGt, fGe, fAdd, fSub, fMul, fDiv, fMod, fPow, fNeg, f1, f2, dstart, List.map, List.length, List.replicate, decide_eq_true_eq, if_true, if_false, Bool.false_eq_true, Bool.not_true, Bool.not_false, reduceIte])
        have hbig2 : 100000 < sizeLine := by decide
        refine plus_int ?_
        rw [show ((i : Nat) : Int) + 1 = ((i + 1 : Nat) : Int) by omega]
        dsimp only
        unfold fSl
        rw [show tupK (.tup (nD ls)) = some (nD ls) from rfl]
        dsimp only
        rw [cut_nD]
        refine ⟨by decide, ?_⟩
        have l2 : (ls.take (i + 1)).length = i + 1 := by rw [List.length_take]; omega
        have hpl : ∀ (M : Mem) (Q : D → Prop), Q (permD (row ++ [a])) → fPlus M (permD row) (.tup [.int (a : Nat)]) Q := fun M Q q1 => by
          refine plus_tup (by rw [nD_len]; show _ + 1 ≤ _; omega) ?_
          rw [show nD row ++ [D.int (a : Nat)] = nD (row ++ [a]) by rw [nD_app]; rfl]
          exact q1
        refine hpl _ _ ?_
        refine ⟨n, m, n', m', ls.take (i + 1), row ++ [a], rfl, g, by omega, g', by omega, fun l hl => hls l (List.mem_of_mem_take hl), fun x hx => ?_, by rw [l2, List.length_append, r1']; rfl, fun d4 M4 hs4 hG => ?_⟩
        · rcases List.mem_append.mp hx with e | e
          · exact r2 x e
          · rw [List.mem_singleton.mp e]; exact ha
        have hM4 := hs4 _ _ hM3
        rcases hG with ⟨rfl, hno⟩ | ⟨p4, f4, ks4, rfl, _, hpar, _⟩
        · refine isn_non ?_
          simp only [Bool.not_true, Bool.false_eq_true, if_false]
          refine hnx3 _ _ ⟨hs3.trans hs4, ?_, _, rfl⟩
          rw [hM4, ext_no hno]
        · refine isn_ rfl ?_
          simp only [if_true]
          refine ⟨ty_lst hM4, by decide, ?_⟩
          refine hpl _ _ ?_
          have hsz : ((nextR m m' (ls.take (i + 1)) n' (rows.take j) ++ ext m m' (ls.take (i + 1)) row a).map permD).length < sizeLine := by
            rw [List.length_map, List.length_append]
            have a1 := nextR_len (m := m) (m' := m') (ls := ls.take (i + 1)) (n := n') (rows.take j)
            have a2 := ext_len (m := m) (m' := m') (ls := ls.take (i + 1)) (row := row) (a := a)
            have a3 : (rows.take j).length * n' ≤ 1728 * 12 := Nat.mul_le_mul (by rw [List.length_take]; omega) hn'
            omega
          refine app_ hM4 hsz ?_
          refine hnx3 _ _ ⟨(hs3.trans hs4).upd hq, ?_, _, rfl⟩
          rw [mupd_same, ext_yes ⟨f4, hpar⟩, ← List.append_assoc]
          rw [List.map_append (l₂ := [row ++ [a]])]
          rfl
      · obtain ⟨hs3, hM3, _, rfl⟩ := hI
        rw [nD_len, List.length_range] at hM3
        refine ⟨rfl, hnx2 _ _ ⟨hs3, ?_, _, _, rfl⟩⟩
        rw [hM3]
        unfold nextR
        rw [List.take_succ_eq_append_getElem hj, List.flatMap_append]
        have : rows[j] = row := by rw [← hrow]; simp [am, List.getD, List.getElem?_eq_getElem hj]
        rw [this]
        simp
    · obtain ⟨hs2, hM2, _, _, rfl⟩ := hI
      rw [List.length_map, List.take_length] at hM2
      refine ⟨seq_sup hs2 hsd, ?_⟩
      (try simp only [dFor_def, lc_def, lc2_def, dSet, dC, dVar, dIfS, dOr, dAnd, dNot, dTest, dTru, dBin, dUn, dCB, f1, f2, dCons, dNil, dRet, dRetN, dLstM, dLstI, dTup, dget, dset, dNext, dDrop, dBreak, dCont, dIf, dAndV, dOrV, dNotV, dChain, dPar, dAug, dAsg, gdName, gdTup, gdCons, gdNil, gdSub, dCall, dBM, dBMX, dSl, dNoPart, dPart, dNever, List.append_nil, dDisp1K, dDisp1T, dLstRg, dLstRgM, dTupRg, dRg1, dRg2, dTimesM, dNewK, dYes, mk_def, dFldSet, dISeq, dIRng1, dIRng2, dIRng3, dIEnum, dIZip, dwipe, dclr, fII, fIIc, fIB, fLt, fLe, fGt, fGe, fAdd, fSub, fMul, fDiv, fMod, fPow, fNeg, f1, f2, dstart, List.map, List.length, List.replicate, decide_eq_true_eq, if_true, if_false, Bool.false_eq_true, Bool.not_true, Bool.not_false, reduceIte])
      exact hnx _ _ ⟨hs.trans hs2, _, _, rows_step hi hR, seq_lst hM2, _, _, _, _, _, rfl⟩
  · obtain ⟨hs, rows, d, hR, hsd, _, _, _, _, _, rfl⟩ := hI
    rw [enPairs_len, List.length_replicate, List.take_length] at hR
    refine ⟨rfl, ?_⟩
    exact fg (h d M' rows hs hsd hR)
end T73
end
section
set_option Elab.async false
set_option linter.all false
set_option maxHeartbeats 1000000
namespace T73
open T74
open DL
structure HomList (n : Nat) (m : N2) (n' : Nat) (m' : N2) (H : List (List Nat)) : Prop where
  mem : ∀ r, r ∈ H ↔ IsHom n m n' m' r
  srt : H.Pairwise (LtC n')
  few : H.length ≤ 1728
/-- a homomorphism with these images of the leads -/
def HomOf (n : Nat) (m : N2) (n' : Nat) (m' : N2) (ls as r : List Nat) : Prop := IsHom n m n' m' r ∧ ∀ t, t < ls.length → ap r (ap ls t) = ap as t
theorem IsHom.bd {n n' : Nat} {m m' : N2} {r : List Nat} (h : IsHom n m n' m' r) : ∀ x ∈ r, x < n' := fun x hx => by
  obtain ⟨i, hi, rfl⟩ := List.mem_iff_getElem.mp hx
  have := h.lt i (by rw [← h.len]; exact hi)
  rwa [ap_eq hi] at this
theorem hom_par2 {n n' : Nat} {m m' : N2} (g : IsGrp n m) (g' : IsGrp n' m') {ls as r : List Nat} (hls : ∀ l ∈ ls, l < n) (h : HomOf n m n' m' ls as r) {k : Nat} (hk : k ≤ ls.length) : Par m m' (ls.take k) as (fun x => ap r x) := by
  refine ⟨hom_zero g g' h.1, fun x hx i hi => ?_⟩
  rw [List.length_take] at hi
  have hsub : ∀ l ∈ ls.take k, l < n := fun l hl => hls l (List.mem_of_mem_take hl)
  have hl : ap ls i < n := by rw [ap_eq (by omega)]; exact hls _ (List.getElem_mem _)
  rw [ap_take (by omega) (by omega)]
  show ap r (m x (ap ls i)) = m' (ap r x) (ap as i)
  rw [h.1.mul x _ (gen_lt g hsub hx) hl, h.2 i (by omega)]
theorem homs_list {n n' : Nat} {m m' : N2} (g : IsGrp n m) (g' : IsGrp n' m') {ls : List Nat} (L : Leads n m ls) {rows hs : List (List Nat)} (R : RowsOk m n' m' ls rows) (hf : rows.length ≤ 1728) (hl : hs.length = rows.length)
    (h : ∀ k, k < rows.length → HomOf n m n' m' ls (am rows k) (am hs k)) : HomList n m n' m' hs := by
  refine ⟨fun r => ⟨fun hr => ?_, fun hr => ?_⟩, ?_, by omega⟩
  · obtain ⟨k, hk, rfl⟩ := List.mem_iff_getElem.mp hr
    have := (h k (by omega)).1
    rwa [show am hs k = hs[k] by simp [am, List.getD, List.getElem?_eq_getElem hk]] at this
  · have hp := hom_par g g' hr L.lt
    have ha : (ls.map fun l => ap r l) ∈ rows := (R.mem _).mpr ⟨List.length_map _, fun a ha => by
      obtain ⟨l, hl, rfl⟩ := List.mem_map.mp ha
      exact hr.lt l (L.lt l hl), _, hp⟩
    obtain ⟨k, hk, e⟩ := List.mem_iff_getElem.mp ha
    have hk2 := h k hk
    have e2 : am rows k = ls.map fun l => ap r l := by rw [← e]; simp [am, List.getD, List.getElem?_eq_getElem hk]
    rw [e2] at hk2
    have hp2 := hom_par2 g g' L.lt hk2 (Nat.le_refl _)
    rw [List.take_length] at hp2
    have : r = am hs k := by
      refine ap_ext (by rw [hr.len, hk2.1.len]) fun x hx => ?_
      rw [hr.len] at hx
      exact par_agree hp hp2 (fun _ _ => rfl) (L.all x hx)
    rw [this]
    exact am_mem (by omega)
  · refine List.pairwise_iff_getElem.mpr fun i j hi hj hij => ?_
    have hlt := List.pairwise_iff_getElem.mp R.srt i j (by omega) (by omega) hij
    have e1 : am rows i = rows[i] := by simp [am, List.getD, List.getElem?_eq_getElem (show i < rows.length by omega)]
    have e2 : am rows j = rows[j] := by simp [am, List.getD, List.getElem?_eq_getElem (show j < rows.length by omega)]
    have e3 : am hs i = hs[i] := by simp [am, List.getD, List.getElem?_eq_getElem hi]
    have e4 : am hs j = hs[j] := by simp [am, List.getD, List.getElem?_eq_getElem hj]
    rw [← e1, ← e2] at hlt
    rw [← e3, ← e4]
    obtain ⟨a1, a2, _⟩ := (R.mem _).mp (am_mem (mem := rows) (i := i) (by omega))
    obtain ⟨b1, b2, _⟩ := (R.mem _).mp (am_mem (mem := rows) (i := j) (by omega))
    have h1 := h i (by omega)
    have h2 := h j (by omega)
    obtain ⟨k, hk, hd, hs'⟩ := hlt.first (by rw [a1, b1]) a2 b2
    rw [a1] at hk
    have hlk : ap ls k < n := by rw [ap_eq hk]; exact L.lt _ (List.getElem_mem _)
    refine code_first (ap ls k) _ _ (by rw [h1.1.len, h2.1.len]) h1.1.bd h2.1.bd (by rw [h1.1.len]; exact hlk) (by rw [h1.2 k hk, h2.2 k hk]; exact hd) fun x hx => ?_
    refine par_agree (hom_par2 g g' L.lt h1 (Nat.le_of_lt hk)) (hom_par2 g g' L.lt h2 (Nat.le_of_lt hk)) (fun t ht => ?_) (L.low k hk x hx)
    rw [List.length_take] at ht
    exact hs' t (by omega)
end T73
end
section
set_option Elab.async false
set_option linter.all false
set_option maxRecDepth 100000
set_option maxHeartbeats 4000000
namespace T73
open T74
open DL PySem PySem.Spec PyProof.Rows L2
def rowX (r : List Nat) : D := .tupX (nD r)
theorem seq_upd_ne {M : Mem} {q : Addr} {o : MO} {d : D} (h : d ≠ .ref q) : seqD (mupd M q o) d = seqD M d := by
  cases d <;> try rfl
  rename_i a
  unfold seqD
  dsimp only
  rw [mupd_ne fun e => h (by rw [e])]
def sp_homs_of (C : Addr) : SpD := fun ds M Q => ∃ n m n' m', ds = [tabD C n m, tabD C n' m'] ∧ IsGrp n m ∧ n ≤ 12 ∧ IsGrp n' m' ∧ n' ≤ 12 ∧ ∀ H, HomList n m n' m' H → Q (.tup (H.map rowX)) M
theorem hl_homs_of (C : Addr) : ∀ ds M Q, sp_homs_of C ds M Q → ds.length = 2 := fun _ _ _ ⟨_, _, _, _, e, _⟩ => by rw [e]; rfl
theorem ok_homs_of (C : Addr) : ∀ ds M Q, sp_homs_of C ds M Q → r_homs_of C (sp_leading_of C) (sp_all_grown C) (sp_table_len C) (sp_grown C) (dEnd Q) (dstart N_homs_of ds) M := by
  rintro ds M Q ⟨n, m, n', m', rfl, g, hn, g', hn', h⟩
  unfold r_homs_of; simp only [dstart, N_homs_of, List.map, List.length, List.replicate, List.append, HAppend.hAppend, Append.append]
  have hbig : 100000 < sizeLine := by decide
  (first | rw [seq_def] | (simp only [gdName, dset]; rw [seq_def])); simp only [dFor_def, lc_def, lc2_def, dSet, dC, dVar, dIfS, dOr, dAnd, dNot, dTest, dTru, dBin, dUn, dCB, f1, f2, dCons, dNil, dRet, dRetN, dLstM, dLstI, dTup, dget, dset, dNext, dDrop, dBreak, dCont, dIf, dAndV, dOrV, dNotV, dChain, dPar, dAug, dAsg, gdName, gdTup, gdCons, gdNil, gdSub, dCall, dBM, dBMX, dSl, dNoPart, dPart, dNever, List.append_nil, dDisp1K, dDisp1T, dLstRg, dLstRgM, dTupRg, dRg1, dRg2, dTimesM, dNewK, dYes, mk_def, dFldSet, dISeq, dIRng1, dIRng2, dIRng3, dIEnum, dIZip, dwipe, dclr, fII, fIIc, fIB, fLt, fLe, fGt, fGe, fAdd, fSub, fMul, fDiv, fMod, fPow, fNeg, f1, f2, dstart, List.map, List.length, List.replicate, decide_eq_true_eq, if_true, if_false, Bool.false_eq_true, Bool.not_true, Bool.not_false, reduceIte]
  refine ⟨n, m, rfl, g, by omega, fun ls L => ?_⟩
  have hl3 := leads_3 g L hn
  (first | rw [seq_def] | (simp only [gdName, dset]; rw [seq_def])); simp only [dFor_def, lc_def, lc2_def, dSet, dC, dVar, dIfS, dOr, dAnd, dNot, dTest, dTru, dBin, dUn, dCB, f1, f2, dCons, dNil, dRet, dRetN, dLstM, dLstI, dTup, dget, dset, dNext, dDrop, dBreak, dCont, dIf, dAndV, dOrV, dNotV, dChain, dPar, dAug, dAsg, gdName, gdTup, gdCons, gdNil, gdSub, dCall, dBM, dBMX, dSl, dNoPart, dPart, dNever, List.append_nil, dDisp1K, dDisp1T, dLstRg, dLstRgM, dTupRg, dRg1, dRg2, dTimesM, dNewK, dYes, mk_def, dFldSet, dISeq, dIRng1, dIRng2, dIRng3, dIEnum, dIZip, dwipe, dclr, fII, fIIc, fIB, fLt, fLe, fGt, fGe, fAdd, fSub, fMul, fDiv, fMod, fPow, fNeg, f1, f2, dstart, List.map, List.length, List.replicate, decide_eq_true_eq, if_true, if_false, Bool.false_eq_true, Bool.not_true, Bool.not_false, reduceIte]
  refine ⟨by decide, fun q hq => ?_⟩
  (first | rw [seq_def] | (simp only [gdName, dset]; rw [seq_def])); simp only [dFor_def, lc_def, lc2_def, dSet, dC, dVar, dIfS, dOr, dAnd, dNot, dTest, dTru, dBin, dUn, dCB, f1, f2, dCons, dNil, dRet, dRetN, dLstM, dLstI, dTup, dget, dset, dNext, dDrop, dBreak, dCont, dIf, dAndV, dOrV, dNotV, dChain, dPar, dAug, dAsg, gdName, gdTup, gdCons, gdNil, gdSub, dCall, dBM, dBMX, dSl, dNoPart, dPart, dNever, List.append_nil, dDisp1K, dDisp1T, dLstRg, dLstRgM, dTupRg, dRg1, dRg2, dTimesM, dNewK, dYes, mk_def, dFldSet, dISeq, dIRng1, dIRng2, dIRng3, dIEnum, dIZip, dwipe, dclr, fII, fIIc, fIB, fLt, fLe, fGt, fGe, fAdd, fSub, fMul, fDiv, fMod, fPow, fNeg, f1, f2, dstart, List.map, List.length, List.replicate, decide_eq_true_eq, if_true, if_false, Bool.false_eq_true, Bool.not_true, Bool.not_false, reduceIte]
  refine lc_map (fun _ => .lst (nD (List.range n'))) rfl (by rw [nD_len]; omega) (fun i d Nx hd hnx => ?_) ?_
  · (try simp only [dFor_def, lc_def, lc2_def, dSet, dC, dVar, dIfS, dOr, dAnd, dNot, dTest, dTru, dBin, dUn, dCB, f1, f2, dCons, dNil, dRet, dRetN, dLstM, dLstI, dTup, dget, dset, dNext, dDrop, dBreak, dCont, dIf, dAndV, dOrV, dNotV, dChain, dPar, dAug, dAsg, gdName, gdTup, gdCons, gdNil, gdSub, dCall, dBM, dBMX, dSl, dNoPart, dPart, dNever, List.append_nil, dDisp1K, dDisp1T, dLstRg, dLstRgM, dTupRg, dRg1, dRg2, dTimesM, dNewK, dYes, mk_def, dFldSet, dISeq, dIRng1, dIRng2, dIRng3, dIEnum, dIZip, dwipe, dclr, fII, fIIc, fIB, fLt, fLe, fGt, fGe, fAdd, fSub, fMul, fDiv, fMod, fPow, fNeg, f1, f2, dstart, List.map, List.length, List.replicate, decide_eq_true_eq, if_true, if_false, Bool.false_eq_true, Bool.not_true, Bool.not_false, reduceIte])
    refine lenC_tab (by omega) ?_
    refine ⟨rgok_nat (by omega), ?_⟩
    rw [rgD_nat]
    exact hnx
  rw [show (List.range (nD ls).length).map (fun _ => D.lst (nD (List.range n'))) = List.replicate ls.length (.lst (nD (List.range n'))) by
    rw [nD_len]; simp [List.map_const']]
  refine ⟨n, m, n', m', ls, rfl, g, hn, g', hn', L.lt, hl3, fun d M1 rows hs1 hsd hR => ?_⟩
  have hrl : rows.length ≤ 1728 := by
    have h1 : n' ^ ls.length ≤ 12 ^ ls.length := Nat.pow_le_pow_left hn' _
    have h2 : 12 ^ ls.length ≤ 12 ^ 3 := Nat.pow_le_pow_right (by omega) hl3
    have := hR.few
    omega
  dsimp only
  rw [hsd]
  dsimp only
  have hq1 : M1 q = some (.lst []) := hs1 _ _ mupd_same
  refine for_inv (fun i δ M' => seqD M' d = some (rows.map permD) ∧ Sup M M' ∧ ∃ hs : List (List Nat), hs.length = i ∧ M' q = some (.lst (hs.map rowX)) ∧ (∀ k, k < i → HomOf n m n' m' ls (am rows k) (am hs k)) ∧ ∃ x y z u, δ = [some (tabD C n m), some (tabD C n' m'), some (.tup (nD ls)), some (.ref q), x, y, z, u])
    ⟨hsd, (Sup.new hq).trans hs1, [], rfl, hq1, fun k hk => absurd hk (Nat.not_lt_zero _), _, _, _, _, rfl⟩ (fun i d1 δ M' Nx hd hI hnx => ?_) (fun δ M' hI => ?_)
  · obtain ⟨hsd', hsm, hs, hlen, hMq, hH, _, _, _, _, rfl⟩ := hI
    have hi := (List.getElem?_eq_some_iff.mp hd).1
    rw [List.length_map] at hi
    rw [List.getElem?_map, am_at hi] at hd
    cases hd
    obtain ⟨a1, a2, f0, hf0⟩ := (hR.mem _).mp (am_mem hi)
    refine ⟨hsd', ?_⟩
    (first | rw [seq_def] | (simp only [gdName, dset]; rw [seq_def])); simp only [dFor_def, lc_def, lc2_def, dSet, dC, dVar, dIfS, dOr, dAnd, dNot, dTest, dTru, dBin, dUn, dCB, f1, f2, dCons, dNil, dRet, dRetN, dLstM, dLstI, dTup, dget, dset, dNext, dDrop, dBreak, dCont, dIf, dAndV, dOrV, dNotV, dChain, dPar, dAug, dAsg, gdName, gdTup, gdCons, gdNil, gdSub, dCall, dBM, dBMX, dSl, dNoPart, dPart, dNever, List.append_nil, dDisp1K, dDisp1T, dLstRg, dLstRgM, dTupRg, dRg1, dRg2, dTimesM, dNewK, dYes, mk_def, dFldSet, dISeq, dIRng1, dIRng2, dIRng3, dIEnum, dIZip, dwipe, dclr, fII, fIIc, fIB, fLt, fLe, fGt, fGe, fAdd, fSub, fMul, fDiv, fMod, fPow, fNeg, f1, f2, dstart, List.map, List.length, List.replicate, decide_eq_true_eq, if_true, if_false, Bool.false_eq_true, Bool.not_true, Bool.not_false, reduceIte]
    refine ⟨n, m, n', m', ls, am rows i, rfl, g, by omega, g', by omega, L.lt, a2, a1.symm, fun d4 M4 hs4 hG => ?_⟩
    rcases hG with ⟨rfl, hno⟩ | ⟨p4, f4, ks4, rfl, hM4, hpar, hks⟩
    · exact absurd ⟨f0, hf0⟩ hno
    have hMq4 := hs4 _ _ hMq
    obtain ⟨hom, him⟩ := par_hom g g' L a2 a1.symm hpar
    (try simp only [dFor_def, lc_def, lc2_def, dSet, dC, dVar, dIfS, dOr, dAnd, dNot, dTest, dTru, dBin, dUn, dCB, f1, f2, dCons, dNil, dRet, dRetN, dLstM, dLstI, dTup, dget, dset, dNext, dDrop, dBreak, dCont, dIf, dAndV, dOrV, dNotV, dChain, dPar, dAug, dAsg, gdName, gdTup, gdCons, gdNil, gdSub, dCall, dBM, dBMX, dSl, dNoPart, dPart, dNever, List.append_nil, dDisp1K, dDisp1T, dLstRg, dLstRgM, dTupRg, dRg1, dRg2, dTimesM, dNewK, dYes, mk_def, dFldSet, dISeq, dIRng1, dIRng2, dIRng3, dIEnum, dIZip, dwipe, dclr, fII, fIIc, fIB, fLt, fLe, fGt, fGe, fAdd, fSub, fMul, fDiv, fMod, fPow, fNeg, f1, f2, dstart, List.map, List.length, List.replicate, decide_eq_true_eq, if_true, if_false, Bool.false_eq_true, Bool.not_true, Bool.not_false, reduceIte])
    refine ⟨ty_lst hMq4, ?_⟩
    refine lenC_tab (by omega) ?_
    refine ⟨by omega, by omega, ?_⟩
    refine lc_map (fun k => .int (f4 k : Nat)) trivial (by rw [rng_len]; omega) (fun k d Nx2 hd hn2 => ?_) ?_
    · obtain ⟨hk, rfl⟩ := rng_inv hd
      (try simp only [dFor_def, lc_def, lc2_def, dSet, dC, dVar, dIfS, dOr, dAnd, dNot, dTest, dTru, dBin, dUn, dCB, f1, f2, dCons, dNil, dRet, dRetN, dLstM, dLstI, dTup, dget, dset, dNext, dDrop, dBreak, dCont, dIf, dAndV, dOrV, dNotV, dChain, dPar, dAug, dAsg, gdName, gdTup, gdCons, gdNil, gdSub, dCall, dBM, dBMX, dSl, dNoPart, dPart, dNever, List.append_nil, dDisp1K, dDisp1T, dLstRg, dLstRgM, dTupRg, dRg1, dRg2, dTimesM, dNewK, dYes, mk_def, dFldSet, dISeq, dIRng1, dIRng2, dIRng3, dIEnum, dIZip, dwipe, dclr, fII, fIIc, fIB, fLt, fLe, fGt, fGe, fAdd, fSub, fMul, fDiv, fMod, fPow, fNeg, f1, f2, dstart, List.map, List.length, List.replicate, decide_eq_true_eq, if_true, if_false, Bool.false_eq_true, Bool.not_true, Bool.not_false, reduceIte])
      exact ix_dK hM4 (kvF_val ((hks k).mpr (L.all k hk))) hn2
    · rw [rng_len]
      refine gtx ?_
      rw [show (List.range n).map (fun k => D.int (f4 k : Nat)) = nD ((List.range n).map f4) from (nD_map _ _).symm]
      refine app_ hMq4 (by rw [List.length_map]; omega) ?_
      refine hnx _ _ ⟨?_, ?_, hs ++ [(List.range n).map f4], by rw [List.length_append, hlen]; rfl, ?_, fun k hk => ?_, _, _, _, _, rfl⟩
      · have s1 := seq_sup hs4 hsd'
        have hne : d ≠ .ref q := fun e => by
          rw [e, seq_lst hq1] at hsd
          have := congrArg (fun o : Option (List D) => (o.getD []).length) hsd
          simp at this
          omega
        exact (seq_upd_ne hne).trans s1
      · exact (hsm.trans hs4).upd hq
      · rw [mupd_same, List.map_append]; rfl
      · by_cases e : k = i
        · rw [e, show am (hs ++ [(List.range n).map f4]) i = (List.range n).map f4 by rw [← hlen]; simp [am]]
          refine ⟨hom, fun t ht => ?_⟩
          have hlt : ap ls t < n := by rw [ap_eq ht]; exact L.lt _ (List.getElem_mem _)
          rw [ap_mapr hlt]
          exact him t ht
        · rw [show am (hs ++ [(List.range n).map f4]) k = am hs k by simp [am, List.getD, List.getElem?_append_left (show k < hs.length by omega)]]
          exact hH k (by omega)
  · obtain ⟨hsd', hsm, hs, hlen, hMq, hH, _, _, _, _, rfl⟩ := hI
    rw [List.length_map] at hlen hH
    refine ⟨hsd', ?_⟩
    (try simp only [dFor_def, lc_def, lc2_def, dSet, dC, dVar, dIfS, dOr, dAnd, dNot, dTest, dTru, dBin, dUn, dCB, f1, f2, dCons, dNil, dRet, dRetN, dLstM, dLstI, dTup, dget, dset, dNext, dDrop, dBreak, dCont, dIf, dAndV, dOrV, dNotV, dChain, dPar, dAug, dAsg, gdName, gdTup, gdCons, gdNil, gdSub, dCall, dBM, dBMX, dSl, dNoPart, dPart, dNever, List.append_nil, dDisp1K, dDisp1T, dLstRg, dLstRgM, dTupRg, dRg1, dRg2, dTimesM, dNewK, dYes, mk_def, dFldSet, dISeq, dIRng1, dIRng2, dIRng3, dIEnum, dIZip, dwipe, dclr, fII, fIIc, fIB, fLt, fLe, fGt, fGe, fAdd, fSub, fMul, fDiv, fMod, fPow, fNeg, f1, f2, dstart, List.map, List.length, List.replicate, decide_eq_true_eq, if_true, if_false, Bool.false_eq_true, Bool.not_true, Bool.not_false, reduceIte])
    unfold gTupOf
    rw [show lstD M' (.ref q) = some (hs.map rowX) by simp [lstD, seqM, hMq]]
    exact fg_sup (h hs (homs_list g g' L hR hrl hlen hH)) hsm
end T73
end
section
set_option Elab.async false
set_option linter.all false
set_option maxHeartbeats 2000000
namespace T73
open DL T74
theorem pw_one {n : Nat} {m : N2} (g : IsGrp n m) {x : Nat} (hx : x < n) : pw m x 1 = x := g.le0 x hx
/-- powers go round -/
theorem pw_mul {n : Nat} {m : N2} (g : IsGrp n m) {x w : Nat} (hx : x < n) (h : pw m x w = 0) : ∀ q, pw m x (w * q) = 0
  | 0 => rfl
  | q + 1 => by rw [Nat.mul_succ, pw_add g hx, pw_mul g hx h q, h, g.le0 0 g.pos]
theorem pw_mod {n : Nat} {m : N2} (g : IsGrp n m) {x w : Nat} (hx : x < n) (h : pw m x w = 0) (k : Nat) : pw m x (k % w) = pw m x k := by
  have e : pw m x k = pw m x (w * (k / w) + k % w) := by rw [Nat.div_add_mod]
  rw [e, pw_add g hx, pw_mul g hx h, g.le0 _ (pw_lt g hx _)]
theorem ord_div {n : Nat} {m : N2} (g : IsGrp n m) {x r k : Nat} (hx : x < n) (h : IsOrd m x r) : k % r = 0 ↔ pw m x k = 0 := by
  have e := pw_mod g hx h.2.1 k
  constructor
  · intro z; rw [z] at e; rw [← e]; rfl
  · intro z
    rw [z] at e
    apply Classical.byContradiction
    intro c
    exact h.2.2 (k % r) (by omega) (Nat.mod_lt _ h.1) e
abbrev rnd (w : Nat) : N2 := fun i j => (i + j) % w
def prow (m : N2) (w x : Nat) : List Nat := (List.range w).map (pw m x)
theorem prow_hom {n w : Nat} {m : N2} (g : IsGrp n m) (hw : 0 < w) {x : Nat} (hx : x < n) (h : pw m x w = 0) : IsHom w (rnd w) n m (prow m w x) := by
  have ha : ∀ i, i < w → ap (prow m w x) i = pw m x i := fun i hi => ap_mapr hi
  refine ⟨by simp [prow], fun i hi => by rw [ha i hi]; exact pw_lt g hx i, fun i j hi hj => ?_⟩
  rw [ha _ (Nat.mod_lt _ hw), ha i hi, ha j hj, pw_mod g hx h, pw_add g hx]
theorem hom_prow {n w : Nat} {m : N2} (g : IsGrp n m) (hw : 0 < w) {r : List Nat} (h : IsHom w (rnd w) n m r) : ∃ x, x < n ∧ pw m x w = 0 ∧ r = prow m w x := by
  have h0 := hom_zero (round_grp hw) g h
  have h1 : 1 % w < w := Nat.mod_lt _ hw
  have hx := h.lt _ h1
  have key : ∀ i, i < w → pw m (ap r (1 % w)) i = ap r i := by
    intro i
    induction i with
    | zero => intro _; exact h0.symm
    | succ i ih =>
      intro hi
      show m (pw m (ap r (1 % w)) i) (ap r (1 % w)) = _
      rw [ih (by omega), ← h.mul i (1 % w) (by omega) h1]
      congr 1
      show (i + 1 % w) % w = i + 1
      rw [Nat.add_mod_mod, Nat.mod_eq_of_lt hi]
  refine ⟨_, hx, ?_, ?_⟩
  · obtain ⟨v, rfl⟩ : ∃ v, w = v + 1 := ⟨w - 1, by omega⟩
    show m (pw m (ap r (1 % (v + 1))) v) (ap r (1 % (v + 1))) = 0
    rw [key v (by omega), ← h.mul v (1 % (v + 1)) (by omega) h1, ← h0]
    congr 1
    show (v + 1 % (v + 1)) % (v + 1) = 0
    rw [Nat.add_mod_mod, Nat.mod_self]
  · refine ap_ext (by rw [h.len]; simp [prow]) fun i hi => ?_
    rw [h.len] at hi
    rw [← key i hi]
    exact (ap_mapr (f := pw m (ap r (1 % w))) hi).symm
theorem prow_inj {n w : Nat} {m : N2} (g : IsGrp n m) (hw : 0 < w) {x y : Nat} (hx : x < n) (hy : y < n) (h1 : pw m x w = 0) (h2 : pw m y w = 0) (e : prow m w x = prow m w y) : x = y := by
  have e1 : ap (prow m w x) (1 % w) = ap (prow m w y) (1 % w) := by rw [e]
  have hlt : 1 % w < w := Nat.mod_lt _ hw
  rw [show ap (prow m w x) (1 % w) = pw m x (1 % w) from ap_mapr hlt, show ap (prow m w y) (1 % w) = pw m y (1 % w) from ap_mapr hlt, pw_mod g hx h1, pw_mod g hy h2, pw_one g hx, pw_one g hy] at e1
  exact e1
theorem same_len {l m : List (List Nat)} (h1 : l.Nodup) (h2 : m.Nodup) (h : ∀ x, x ∈ l ↔ x ∈ m) : l.length = m.length :=
  ((List.perm_ext_iff_of_nodup h1 h2).mpr h).length_eq
theorem homs_round {n w : Nat} {m : N2} (g : IsGrp n m) (hw : 0 < w) {H : List (List Nat)} (hH : HomList w (rnd w) n m H) : H.length = ((List.range n).filter fun x => decide (pw m x w = 0)).length := by
  rw [← List.length_map (prow m w)]
  refine same_len (nodup_LtC hH.srt) ?_ fun r => ?_
  · rw [List.nodup_iff_pairwise_ne, List.pairwise_map]
    refine List.Pairwise.imp_of_mem (fun {a b} ha hb hne e => hne ?_) (List.nodup_iff_pairwise_ne.mp (List.nodup_range.filter _))
    obtain ⟨a1, a2⟩ := List.mem_filter.mp ha
    obtain ⟨b1, b2⟩ := List.mem_filter.mp hb
    exact prow_inj g hw (List.mem_range.mp a1) (List.mem_range.mp b1) (of_decide_eq_true a2) (of_decide_eq_true b2) e
  · rw [hH.mem, List.mem_map]
    constructor
    · intro h
      obtain ⟨x, h1, h2, rfl⟩ := hom_prow g hw h
      exact ⟨x, List.mem_filter.mpr ⟨List.mem_range.mpr h1, decide_eq_true h2⟩, rfl⟩
    · rintro ⟨x, h1, rfl⟩
      obtain ⟨h2, h3⟩ := List.mem_filter.mp h1
      exact prow_hom g hw (List.mem_range.mp h2) (of_decide_eq_true h3)
section
variable {n n' n2 : Nat} {m m' m2 : N2}
theorem hom_pw (g : IsGrp n m) (g' : IsGrp n' m') {f : List Nat} (h : IsHom n m n' m' f) {x : Nat} (hx : x < n) : ∀ k, pw m' (ap f x) k = ap f (pw m x k)
  | 0 => (hom_zero g g' h).symm
  | k + 1 => by
    show m' (pw m' (ap f x) k) (ap f x) = ap f (m (pw m x k) x)
    rw [hom_pw g g' h hx k, h.mul _ _ (pw_lt g hx k) hx]
theorem hom_ord (g : IsGrp n m) (g' : IsGrp n' m') {f : List Nat} (h : IsHom n m n' m' f) {x r s : Nat} (hx : x < n) (h1 : IsOrd m x r) (h2 : IsOrd m' (ap f x) s) : r % s = 0 :=
  (ord_div g' (h.lt x hx) h2).mpr (by rw [hom_pw g g' h hx, h1.2.1, hom_zero g g' h])
theorem hom_comp {x y : List Nat} (hx : IsHom n m n' m' x) (hy : IsHom n' m' n2 m2 y) (g : IsGrp n m) : IsHom n m n2 m2 (comp x y) := by
  have hl := hx.len
  refine ⟨comp_len.trans hl, fun i hi => ?_, fun i j hi hj => ?_⟩
  · rw [ap_comp (by omega)]; exact hy.lt _ (hx.lt i hi)
  · rw [ap_comp (by rw [hl]; exact g.clo i j hi hj), ap_comp (by omega), ap_comp (by omega), hx.mul i j hi hj, hy.mul _ _ (hx.lt i hi) (hx.lt j hj)]
/-- maps agree that agree on the leads -/
theorem hom_leads (g : IsGrp n m) (g' : IsGrp n' m') {ls x y : List Nat} (L : Leads n m ls) (hx : IsHom n m n' m' x) (hy : IsHom n m n' m' y) (e : (ls.map fun l => ap x l) = ls.map fun l => ap y l) : x = y := by
  refine ap_ext (by rw [hx.len, hy.len]) fun i hi => ?_
  rw [hx.len] at hi
  exact par_agree (hom_par g g' hx L.lt) (hom_par g g' hy L.lt) (fun k _ => by rw [e]) (L.all i hi)
theorem homs_leads (g : IsGrp n m) (g' : IsGrp n' m') {ls : List Nat} (L : Leads n m ls) {H : List (List Nat)} (hH : HomList n m n' m' H) : (H.map fun r => ls.map fun l => ap r l).Nodup := by
  rw [List.nodup_iff_pairwise_ne, List.pairwise_map]
  refine List.Pairwise.imp_of_mem (fun {a b} ha hb hne e => hne ?_) (List.nodup_iff_pairwise_ne.mp (nodup_LtC hH.srt))
  exact hom_leads g g' L ((hH.mem a).mp ha) ((hH.mem b).mp hb) e
/-- all to 0 -/
theorem hom_null (g : IsGrp n m) (g' : IsGrp n' m') : IsHom n m n' m' ((List.range n).map fun _ => 0) :=
  ⟨by simp, fun i hi => by rw [ap_mapr hi]; exact g'.pos, fun i j hi hj => by rw [ap_mapr (g.clo i j hi hj), ap_mapr hi, ap_mapr hj, g'.le0 0 g'.pos]⟩
/-- maps to a product -/
def pairR (n b : Nat) (x y : List Nat) : List Nat := (List.range n).map fun i => ap x i * b + ap y i
theorem homs_prod (g : IsGrp n m) (g' : IsGrp n' m') (g2 : IsGrp n2 m2) {H H1 H2 : List (List Nat)} (h1 : HomList n m n' m' H1) (h2 : HomList n m n2 m2 H2)
    (h : HomList n m (n' * n2) (fun i j => m' (i / n2) (j / n2) * n2 + m2 (i % n2) (j % n2)) H) : H.length = H1.length * H2.length := by
  have hb := g2.pos
  have e1 : ∀ x y, y < n2 → (x * n2 + y) / n2 = x := fun x y hy => by
    rw [Nat.mul_comm, Nat.mul_add_div hb, Nat.div_eq_of_lt hy, Nat.add_zero]
  have e2 : ∀ x y, y < n2 → (x * n2 + y) % n2 = y := fun x y hy => by
    rw [Nat.mul_comm, Nat.mul_add_mod, Nat.mod_eq_of_lt hy]
  have e3 : ∀ i, i / n2 * n2 + i % n2 = i := fun i => by rw [Nat.mul_comm]; exact Nat.div_add_mod i n2
  have e4 : ∀ x y, x < n' → y < n2 → x * n2 + y < n' * n2 := fun x y hx hy => by
    have : (x + 1) * n2 ≤ n' * n2 := Nat.mul_le_mul_right n2 hx
    rw [Nat.succ_mul] at this
    omega
  have pa : ∀ x y i, i < n → ap (pairR n n2 x y) i = ap x i * n2 + ap y i := fun x y i hi => ap_mapr hi
  have hlen : (H1.flatMap fun x => H2.map fun y => pairR n n2 x y).length = H1.length * H2.length := by
    have key : ∀ L : List (List Nat), (L.flatMap fun x => H2.map fun y => pairR n n2 x y).length = L.length * H2.length := fun L => by
      induction L with
      | nil => simp
      | cons a L ih => rw [List.flatMap_cons, List.length_append, ih, List.length_map, List.length_cons, Nat.succ_mul, Nat.add_comm]
    exact key H1
  rw [← hlen]
  refine same_len (nodup_LtC h.srt) ?_ fun r => ?_
  · rw [List.nodup_iff_pairwise_ne, List.pairwise_flatMap]
    constructor
    · intro x hx
      rw [List.pairwise_map]
      refine List.Pairwise.imp_of_mem (fun {a b} ha hb hne e => hne ?_) (List.nodup_iff_pairwise_ne.mp (nodup_LtC h2.srt))
      have qa := (h2.mem a).mp ha
      have qb := (h2.mem b).mp hb
      refine ap_ext (by rw [qa.len, qb.len]) fun i hi => ?_
      rw [qa.len] at hi
      have := congrArg (fun r => ap r i) e
      rw [pa _ _ i hi, pa _ _ i hi] at this
      omega
    · refine List.Pairwise.imp_of_mem (fun {a b} ha hb hne => ?_) (List.nodup_iff_pairwise_ne.mp (nodup_LtC h1.srt))
      intro u hu v hv e
      obtain ⟨y, hy, rfl⟩ := List.mem_map.mp hu
      obtain ⟨z, hz, rfl⟩ := List.mem_map.mp hv
      have qa := (h1.mem a).mp ha
      have qb := (h1.mem b).mp hb
      have qy := (h2.mem y).mp hy
      have qz := (h2.mem z).mp hz
      refine hne (ap_ext (by rw [qa.len, qb.len]) fun i hi => ?_)
      rw [qa.len] at hi
      have := congrArg (fun r => ap r i / n2) e
      rw [pa _ _ i hi, pa _ _ i hi, e1 _ _ (qy.lt i hi), e1 _ _ (qz.lt i hi)] at this
      exact this
  · rw [h.mem, List.mem_flatMap]
    constructor
    · intro q
      have qm : ∀ i j, i < n → j < n → ap r (m i j) / n2 = m' (ap r i / n2) (ap r j / n2) ∧ ap r (m i j) % n2 = m2 (ap r i % n2) (ap r j % n2) := fun i j hi hj => by
        have c := g2.clo (ap r i % n2) (ap r j % n2) (Nat.mod_lt _ hb) (Nat.mod_lt _ hb)
        rw [q.mul i j hi hj]
        exact ⟨e1 _ _ c, e2 _ _ c⟩
      have hd : ∀ i, i < n → ap r i / n2 < n' := fun i hi => Nat.div_lt_of_lt_mul (by rw [Nat.mul_comm]; exact q.lt i hi)
      refine ⟨r.map fun v => v / n2, (h1.mem _).mpr ⟨by rw [List.length_map]; exact q.len, fun i hi => ?_, fun i j hi hj => ?_⟩, List.mem_map.mpr ⟨r.map fun v => v % n2, (h2.mem _).mpr ⟨by rw [List.length_map]; exact q.len, fun i hi => ?_, fun i j hi hj => ?_⟩, ?_⟩⟩
      · rw [ap_map (by rw [q.len]; exact hi)]; exact hd i hi
      · rw [ap_map (by rw [q.len]; exact g.clo i j hi hj), ap_map (by rw [q.len]; exact hi), ap_map (by rw [q.len]; exact hj)]; exact (qm i j hi hj).1
      · rw [ap_map (by rw [q.len]; exact hi)]; exact Nat.mod_lt _ hb
      · rw [ap_map (by rw [q.len]; exact g.clo i j hi hj), ap_map (by rw [q.len]; exact hi), ap_map (by rw [q.len]; exact hj)]; exact (qm i j hi hj).2
      · refine ap_ext (by rw [q.len]; simp [pairR]) fun i hi => ?_
        have hi' : i < n := by simpa [pairR] using hi
        rw [pa _ _ i hi', ap_map (by rw [q.len]; exact hi'), ap_map (by rw [q.len]; exact hi'), e3]
    · rintro ⟨x, hx, hr⟩
      obtain ⟨y, hy, rfl⟩ := List.mem_map.mp hr
      have qx := (h1.mem x).mp hx
      have qy := (h2.mem y).mp hy
      refine ⟨by simp [pairR], fun i hi => by rw [pa _ _ i hi]; exact e4 _ _ (qx.lt i hi) (qy.lt i hi), fun i j hi hj => ?_⟩
      rw [pa _ _ _ (g.clo i j hi hj), pa _ _ i hi, pa _ _ j hj, e1 _ _ (qy.lt i hi), e1 _ _ (qy.lt j hj), e2 _ _ (qy.lt i hi), e2 _ _ (qy.lt j hj), qx.mul i j hi hj, qy.mul i j hi hj]
end
end T73
end
section
set_option Elab.async false
set_option linter.all false
set_option maxRecDepth 100000
set_option maxHeartbeats 4000000
namespace T73
open DL PySem PySem.Spec PyProof.Rows L2 T74
theorem mdel_upd {M : Mem} {p : Addr} {o o2 : MO} (h : M p = none) : mdel (mupd (mupd M p o) p o2) p = M := by
  funext a
  unfold mdel
  by_cases e : a = p
  · rw [if_pos e, e, h]
  · rw [if_neg e, mupd_ne e, mupd_ne e]
theorem mk_tab {C : Addr} {n : Nat} {m : N2} {M : Mem} {Q : KD} (g : IsGrp n m) (hn : n ≤ 48) (q : Q (tabD C n m) M) : MkT C (sp_table_init C) [linesD n m] M Q := fun p hp => by
  refine ⟨p, n, m, rfl, g, hn, mupd_same, rfl, ?_⟩
  rw [mupd_same]
  show Q (tabD C n m) _
  rw [mdel_upd hp]
  exact q
theorem gto {M : Mem} {ds : List D} {Q : KD} (q : Q (.tup ds) M) : gTupOf M (.lst ds) Q := q
theorem glo {M : Mem} {ds : List D} {Q : KD} (q : Q (.lst ds) M) : gLstOf M (.tup ds) Q := q
theorem ok_rows (A : List (List Nat)) : plainDs (A.map rowX) = true ∧ depDs (A.map rowX) ≤ 1 := by
  refine ⟨plainDs_all fun d hd => ?_, depDs_le fun d hd => ?_⟩
  · obtain ⟨r, _, rfl⟩ := List.mem_map.mp hd
    show plainD (.tupX (nD r)) = true
    simp only [plainD]; exact plain_nD r
  · obtain ⟨r, _, rfl⟩ := List.mem_map.mp hd
    show depD (.tupX (nD r)) ≤ 1
    simp only [depD]; rw [dep_nD]; decide
open Classical in
theorem in_rows {A : List (List Nat)} {r : List Nat} {M : Mem} {Q : D → Prop} (h : r ∈ A) (q : Q (.bl false)) : fIn true M (.tup (nD r)) (.tup (A.map rowX)) Q := by
  unfold fIn
  rw [show seqD M (.tup (A.map rowX)) = some (A.map rowX) from rfl]
  dsimp only
  obtain ⟨h1, h2⟩ := ok_rows A
  refine ⟨⟨by simp only [plainD]; exact plain_nD r, by simp only [depD]; rw [dep_nD]; decide⟩, h1, by omega, ?_⟩
  have hm : nrm (.tup (nD r)) ∈ nrms (A.map rowX) := by
    rw [nrms_map, List.map_map]
    refine List.mem_map.mpr ⟨r, h, ?_⟩
    show nrm (.tupX (nD r)) = nrm (.tup (nD r))
    simp [nrm]
  rw [decide_eq_true hm]
  exact q
theorem len_rows {A : List (List Nat)} {M : Mem} {Q : KD} (q : Q (.int (A.length : Nat)) M) : gLen M (.tup (A.map rowX)) Q := by
  refine len_seq (ds := A.map rowX) rfl ?_
  rw [List.length_map]; exact q
def sp_homs (C : Addr) : SpD := fun ds M Q => ∃ n m n' m', ds = [tabD C n m, tabD C n' m'] ∧ IsGrp n m ∧ n ≤ 12 ∧ IsGrp n' m' ∧ n' ≤ 12 ∧ ∀ H, HomList n m n' m' H → Q (.tup (H.map rowX)) M
theorem hl_homs (C : Addr) : ∀ ds M Q, sp_homs C ds M Q → ds.length = 2 := fun _ _ _ ⟨_, _, _, _, e, _⟩ => by rw [e]; rfl
theorem ok_homs (C : Addr) : ∀ ds M Q, sp_homs C ds M Q → r_homs (sp_check_small C) (sp_homs_of C) (dEnd Q) (dstart N_homs ds) M := by
  rintro ds M Q ⟨n, m, n', m', rfl, g, hn, g', hn', h⟩
  unfold r_homs; simp only [dstart, N_homs, List.map, List.length, List.replicate, List.append, HAppend.hAppend, Append.append]
  (first | rw [seq_def] | (simp only [gdName, dset]; rw [seq_def])); simp only [dPar3, gdUnl, dFor_def, lc_def, lc2_def, dSet, dC, dVar, dIfS, dOr, dAnd, dNot, dTest, dTru, dBin, dUn, dCB, f1, f2, dCons, dNil, dRet, dRetN, dLstM, dLstI, dTup, dget, dset, dNext, dDrop, dBreak, dCont, dIf, dAndV, dOrV, dNotV, dChain, dPar, dAug, dAsg, gdName, gdTup, gdCons, gdNil, gdSub, dCall, dBM, dBMX, dSl, dNoPart, dPart, dNever, List.append_nil, dDisp1K, dDisp1T, dLstRg, dLstRgM, dTupRg, dRg1, dRg2, dTimesM, dNewK, dYes, mk_def, dFldSet, dISeq, dIRng1, dIRng2, dIRng3, dIEnum, dIZip, dwipe, dclr, fII, fIIc, fIB, fLt, fLe, fGt, fGe, fAdd, fSub, fMul, fDiv, fMod, fPow, fNeg, f1, f2, dstart, List.map, List.length, List.replicate, decide_eq_true_eq, if_true, if_false, Bool.false_eq_true, Bool.not_true, Bool.not_false, reduceIte]
  refine ⟨n, m, rfl, hn, ?_⟩
  (first | rw [seq_def] | (simp only [gdName, dset]; rw [seq_def])); simp only [dPar3, gdUnl, dFor_def, lc_def, lc2_def, dSet, dC, dVar, dIfS, dOr, dAnd, dNot, dTest, dTru, dBin, dUn, dCB, f1, f2, dCons, dNil, dRet, dRetN, dLstM, dLstI, dTup, dget, dset, dNext, dDrop, dBreak, dCont, dIf, dAndV, dOrV, dNotV, dChain, dPar, dAug, dAsg, gdName, gdTup, gdCons, gdNil, gdSub, dCall, dBM, dBMX, dSl, dNoPart, dPart, dNever, List.append_nil, dDisp1K, dDisp1T, dLstRg, dLstRgM, dTupRg, dRg1, dRg2, dTimesM, dNewK, dYes, mk_def, dFldSet, dISeq, dIRng1, dIRng2, dIRng3, dIEnum, dIZip, dwipe, dclr, fII, fIIc, fIB, fLt, fLe, fGt, fGe, fAdd, fSub, fMul, fDiv, fMod, fPow, fNeg, f1, f2, dstart, List.map, List.length, List.replicate, decide_eq_true_eq, if_true, if_false, Bool.false_eq_true, Bool.not_true, Bool.not_false, reduceIte]
  refine ⟨n', m', rfl, hn', ?_⟩
  (try simp only [dPar3, gdUnl, dFor_def, lc_def, lc2_def, dSet, dC, dVar, dIfS, dOr, dAnd, dNot, dTest, dTru, dBin, dUn, dCB, f1, f2, dCons, dNil, dRet, dRetN, dLstM, dLstI, dTup, dget, dset, dNext, dDrop, dBreak, dCont, dIf, dAndV, dOrV, dNotV, dChain, dPar, dAug, dAsg, gdName, gdTup, gdCons, gdNil, gdSub, dCall, dBM, dBMX, dSl, dNoPart, dPart, dNever, List.append_nil, dDisp1K, dDisp1T, dLstRg, dLstRgM, dTupRg, dRg1, dRg2, dTimesM, dNewK, dYes, mk_def, dFldSet, dISeq, dIRng1, dIRng2, dIRng3, dIEnum, dIZip, dwipe, dclr, fII, fIIc, fIB, fLt, fLe, fGt, fGe, fAdd, fSub, fMul, fDiv, fMod, fPow, fNeg, f1, f2, dstart, List.map, List.length, List.replicate, decide_eq_true_eq, if_true, if_false, Bool.false_eq_true, Bool.not_true, Bool.not_false, reduceIte])
  exact ⟨n, m, n', m', rfl, g, hn, g', hn', fun H hH => fg (h H hH)⟩
def sp_leading (C : Addr) : SpD := fun ds M Q => ∃ n m, ds = [tabD C n m] ∧ IsGrp n m ∧ n ≤ 48 ∧ ∀ ls, Leads n m ls → Q (.tup (nD ls)) M
theorem hl_leading (C : Addr) : ∀ ds M Q, sp_leading C ds M Q → ds.length = 1 := fun _ _ _ ⟨_, _, e, _⟩ => by rw [e]; rfl
theorem ok_leading (C : Addr) : ∀ ds M Q, sp_leading C ds M Q → r_leading (sp_check_table C) (sp_leading_of C) (dEnd Q) (dstart N_leading ds) M := by
  rintro ds M Q ⟨n, m, rfl, g, hn, h⟩
  unfold r_leading; simp only [dstart, N_leading, List.map, List.length, List.replicate, List.append, HAppend.hAppend, Append.append]
  (first | rw [seq_def] | (simp only [gdName, dset]; rw [seq_def])); simp only [dPar3, gdUnl, dFor_def, lc_def, lc2_def, dSet, dC, dVar, dIfS, dOr, dAnd, dNot, dTest, dTru, dBin, dUn, dCB, f1, f2, dCons, dNil, dRet, dRetN, dLstM, dLstI, dTup, dget, dset, dNext, dDrop, dBreak, dCont, dIf, dAndV, dOrV, dNotV, dChain, dPar, dAug, dAsg, gdName, gdTup, gdCons, gdNil, gdSub, dCall, dBM, dBMX, dSl, dNoPart, dPart, dNever, List.append_nil, dDisp1K, dDisp1T, dLstRg, dLstRgM, dTupRg, dRg1, dRg2, dTimesM, dNewK, dYes, mk_def, dFldSet, dISeq, dIRng1, dIRng2, dIRng3, dIEnum, dIZip, dwipe, dclr, fII, fIIc, fIB, fLt, fLe, fGt, fGe, fAdd, fSub, fMul, fDiv, fMod, fPow, fNeg, f1, f2, dstart, List.map, List.length, List.replicate, decide_eq_true_eq, if_true, if_false, Bool.false_eq_true, Bool.not_true, Bool.not_false, reduceIte]
  refine ⟨n, m, rfl, ?_⟩
  (try simp only [dPar3, gdUnl, dFor_def, lc_def, lc2_def, dSet, dC, dVar, dIfS, dOr, dAnd, dNot, dTest, dTru, dBin, dUn, dCB, f1, f2, dCons, dNil, dRet, dRetN, dLstM, dLstI, dTup, dget, dset, dNext, dDrop, dBreak, dCont, dIf, dAndV, dOrV, dNotV, dChain, dPar, dAug, dAsg, gdName, gdTup, gdCons, gdNil, gdSub, dCall, dBM, dBMX, dSl, dNoPart, dPart, dNever, List.append_nil, dDisp1K, dDisp1T, dLstRg, dLstRgM, dTupRg, dRg1, dRg2, dTimesM, dNewK, dYes, mk_def, dFldSet, dISeq, dIRng1, dIRng2, dIRng3, dIEnum, dIZip, dwipe, dclr, fII, fIIc, fIB, fLt, fLe, fGt, fGe, fAdd, fSub, fMul, fDiv, fMod, fPow, fNeg, f1, f2, dstart, List.map, List.length, List.replicate, decide_eq_true_eq, if_true, if_false, Bool.false_eq_true, Bool.not_true, Bool.not_false, reduceIte])
  exact ⟨n, m, rfl, g, hn, fun ls L => fg (h ls L)⟩
def sp_back (C : Addr) : SpD := fun ds M Q => ∃ n m, ∃ i j : Nat, ds = [tabD C n m, .int i] ∧ IsGrp n m ∧ n < 1000 ∧ i < n ∧ j < n ∧ m i j = 0 ∧ Q (.int j) M
theorem hl_back (C : Addr) : ∀ ds M Q, sp_back C ds M Q → ds.length = 2 := fun _ _ _ ⟨_, _, _, _, e, _⟩ => by rw [e]; rfl
theorem ok_back (C : Addr) : ∀ ds M Q, sp_back C ds M Q → r_back (sp_check_table C) (sp_check_member C) (sp_back_of C) (dEnd Q) (dstart N_back ds) M := by
  rintro ds M Q ⟨n, m, i, j, rfl, g, hn, hi, hj, e, h⟩
  unfold r_back; simp only [dstart, N_back, List.map, List.length, List.replicate, List.append, HAppend.hAppend, Append.append]
  (first | rw [seq_def] | (simp only [gdName, dset]; rw [seq_def])); simp only [dPar3, gdUnl, dFor_def, lc_def, lc2_def, dSet, dC, dVar, dIfS, dOr, dAnd, dNot, dTest, dTru, dBin, dUn, dCB, f1, f2, dCons, dNil, dRet, dRetN, dLstM, dLstI, dTup, dget, dset, dNext, dDrop, dBreak, dCont, dIf, dAndV, dOrV, dNotV, dChain, dPar, dAug, dAsg, gdName, gdTup, gdCons, gdNil, gdSub, dCall, dBM, dBMX, dSl, dNoPart, dPart, dNever, List.append_nil, dDisp1K, dDisp1T, dLstRg, dLstRgM, dTupRg, dRg1, dRg2, dTimesM, dNewK, dYes, mk_def, dFldSet, dISeq, dIRng1, dIRng2, dIRng3, dIEnum, dIZip, dwipe, dclr, fII, fIIc, fIB, fLt, fLe, fGt, fGe, fAdd, fSub, fMul, fDiv, fMod, fPow, fNeg, f1, f2, dstart, List.map, List.length, List.replicate, decide_eq_true_eq, if_true, if_false, Bool.false_eq_true, Bool.not_true, Bool.not_false, reduceIte]
  refine ⟨n, m, rfl, ?_⟩
  (first | rw [seq_def] | (simp only [gdName, dset]; rw [seq_def])); simp only [dPar3, gdUnl, dFor_def, lc_def, lc2_def, dSet, dC, dVar, dIfS, dOr, dAnd, dNot, dTest, dTru, dBin, dUn, dCB, f1, f2, dCons, dNil, dRet, dRetN, dLstM, dLstI, dTup, dget, dset, dNext, dDrop, dBreak, dCont, dIf, dAndV, dOrV, dNotV, dChain, dPar, dAug, dAsg, gdName, gdTup, gdCons, gdNil, gdSub, dCall, dBM, dBMX, dSl, dNoPart, dPart, dNever, List.append_nil, dDisp1K, dDisp1T, dLstRg, dLstRgM, dTupRg, dRg1, dRg2, dTimesM, dNewK, dYes, mk_def, dFldSet, dISeq, dIRng1, dIRng2, dIRng3, dIEnum, dIZip, dwipe, dclr, fII, fIIc, fIB, fLt, fLe, fGt, fGe, fAdd, fSub, fMul, fDiv, fMod, fPow, fNeg, f1, f2, dstart, List.map, List.length, List.replicate, decide_eq_true_eq, if_true, if_false, Bool.false_eq_true, Bool.not_true, Bool.not_false, reduceIte]
  refine ⟨n, m, i, rfl, hi, hn, ?_⟩
  (try simp only [dPar3, gdUnl, dFor_def, lc_def, lc2_def, dSet, dC, dVar, dIfS, dOr, dAnd, dNot, dTest, dTru, dBin, dUn, dCB, f1, f2, dCons, dNil, dRet, dRetN, dLstM, dLstI, dTup, dget, dset, dNext, dDrop, dBreak, dCont, dIf, dAndV, dOrV, dNotV, dChain, dPar, dAug, dAsg, gdName, gdTup, gdCons, gdNil, gdSub, dCall, dBM, dBMX, dSl, dNoPart, dPart, dNever, List.append_nil, dDisp1K, dDisp1T, dLstRg, dLstRgM, dTupRg, dRg1, dRg2, dTimesM, dNewK, dYes, mk_def, dFldSet, dISeq, dIRng1, dIRng2, dIRng3, dIEnum, dIZip, dwipe, dclr, fII, fIIc, fIB, fLt, fLe, fGt, fGe, fAdd, fSub, fMul, fDiv, fMod, fPow, fNeg, f1, f2, dstart, List.map, List.length, List.replicate, decide_eq_true_eq, if_true, if_false, Bool.false_eq_true, Bool.not_true, Bool.not_false, reduceIte])
  exact ⟨n, m, i, j, rfl, g, hi, hj, e, fg h⟩
def sp_law_each_right (C : Addr) : SpD := fun ds M Q => ∃ n m n' m' H, ds = [tabD C n m, tabD C n' m', .tup (H.map rowX)] ∧ IsGrp n m ∧ n ≤ 12 ∧ IsGrp n' m' ∧ n' ≤ 12 ∧ HomList n m n' m' H ∧ Q (.bl true) M
theorem hl_law_each_right (C : Addr) : ∀ ds M Q, sp_law_each_right C ds M Q → ds.length = 3 := fun _ _ _ ⟨_, _, _, _, _, e, _⟩ => by rw [e]; rfl
theorem ok_law_each_right (C : Addr) : ∀ ds M Q, sp_law_each_right C ds M Q → r_law_each_right C (sp_leading C) (sp_table_len C) (sp_back C) (sp_order_of C) (dEnd Q) (dstart N_law_each_right ds) M := by
  rintro ds M Q ⟨n, m, n', m', H, rfl, g, hn, g', hn', hH, h⟩
  unfold r_law_each_right; simp only [dstart, N_law_each_right, List.map, List.length, List.replicate, List.append, HAppend.hAppend, Append.append]
  have hbig : 100000 < sizeLine := by decide
  have hfew := hH.few
  have hrow : ∀ k, k < H.length → (H.map rowX)[k]? = some (rowX (am H k)) := fun k hk => by rw [List.getElem?_map, am_at hk]; rfl
  (first | rw [seq_def] | (simp only [gdName, dset]; rw [seq_def])); simp only [dPar3, gdUnl, dFor_def, lc_def, lc2_def, dSet, dC, dVar, dIfS, dOr, dAnd, dNot, dTest, dTru, dBin, dUn, dCB, f1, f2, dCons, dNil, dRet, dRetN, dLstM, dLstI, dTup, dget, dset, dNext, dDrop, dBreak, dCont, dIf, dAndV, dOrV, dNotV, dChain, dPar, dAug, dAsg, gdName, gdTup, gdCons, gdNil, gdSub, dCall, dBM, dBMX, dSl, dNoPart, dPart, dNever, List.append_nil, dDisp1K, dDisp1T, dLstRg, dLstRgM, dTupRg, dRg1, dRg2, dTimesM, dNewK, dYes, mk_def, dFldSet, dISeq, dIRng1, dIRng2, dIRng3, dIEnum, dIZip, dwipe, dclr, fII, fIIc, fIB, fLt, fLe, fGt, fGe, fAdd, fSub, fMul, fDiv, fMod, fPow, fNeg, f1, f2, dstart, List.map, List.length, List.replicate, decide_eq_true_eq, if_true, if_false, Bool.false_eq_true, Bool.not_true, Bool.not_false, reduceIte]
  refine ⟨n, m, rfl, g, by omega, fun ls L => ?_⟩
  (first | rw [seq_def] | (simp only [gdName, dset]; rw [seq_def])); simp only [dPar3, gdUnl, dFor_def, lc_def, lc2_def, dSet, dC, dVar, dIfS, dOr, dAnd, dNot, dTest, dTru, dBin, dUn, dCB, f1, f2, dCons, dNil, dRet, dRetN, dLstM, dLstI, dTup, dget, dset, dNext, dDrop, dBreak, dCont, dIf, dAndV, dOrV, dNotV, dChain, dPar, dAug, dAsg, gdName, gdTup, gdCons, gdNil, gdSub, dCall, dBM, dBMX, dSl, dNoPart, dPart, dNever, List.append_nil, dDisp1K, dDisp1T, dLstRg, dLstRgM, dTupRg, dRg1, dRg2, dTimesM, dNewK, dYes, mk_def, dFldSet, dISeq, dIRng1, dIRng2, dIRng3, dIEnum, dIZip, dwipe, dclr, fII, fIIc, fIB, fLt, fLe, fGt, fGe, fAdd, fSub, fMul, fDiv, fMod, fPow, fNeg, f1, f2, dstart, List.map, List.length, List.replicate, decide_eq_true_eq, if_true, if_false, Bool.false_eq_true, Bool.not_true, Bool.not_false, reduceIte]
  unfold dLenSetLT
  (try simp only [dPar3, gdUnl, dFor_def, lc_def, lc2_def, dSet, dC, dVar, dIfS, dOr, dAnd, dNot, dTest, dTru, dBin, dUn, dCB, f1, f2, dCons, dNil, dRet, dRetN, dLstM, dLstI, dTup, dget, dset, dNext, dDrop, dBreak, dCont, dIf, dAndV, dOrV, dNotV, dChain, dPar, dAug, dAsg, gdName, gdTup, gdCons, gdNil, gdSub, dCall, dBM, dBMX, dSl, dNoPart, dPart, dNever, List.append_nil, dDisp1K, dDisp1T, dLstRg, dLstRgM, dTupRg, dRg1, dRg2, dTimesM, dNewK, dYes, mk_def, dFldSet, dISeq, dIRng1, dIRng2, dIRng3, dIEnum, dIZip, dwipe, dclr, fII, fIIc, fIB, fLt, fLe, fGt, fGe, fAdd, fSub, fMul, fDiv, fMod, fPow, fNeg, f1, f2, dstart, List.map, List.length, List.replicate, decide_eq_true_eq, if_true, if_false, Bool.false_eq_true, Bool.not_true, Bool.not_false, reduceIte])
  rw [show seqD M (.tup (H.map rowX)) = some (H.map rowX) from rfl]
  dsimp only
  refine lc_map (fun i => .tup (nD (ls.map fun l => ap (am H i) l))) rfl (by rw [List.length_map]; omega) (fun i d Nx hd hnx => ?_) ?_
  · have hi := (List.getElem?_eq_some_iff.mp hd).1
    rw [List.length_map] at hi
    rw [hrow i hi] at hd
    cases hd
    have hr := (hH.mem _).mp (am_mem hi)
    have hl3 := leads_3 g L hn
    (try simp only [dPar3, gdUnl, dFor_def, lc_def, lc2_def, dSet, dC, dVar, dIfS, dOr, dAnd, dNot, dTest, dTru, dBin, dUn, dCB, f1, f2, dCons, dNil, dRet, dRetN, dLstM, dLstI, dTup, dget, dset, dNext, dDrop, dBreak, dCont, dIf, dAndV, dOrV, dNotV, dChain, dPar, dAug, dAsg, gdName, gdTup, gdCons, gdNil, gdSub, dCall, dBM, dBMX, dSl, dNoPart, dPart, dNever, List.append_nil, dDisp1K, dDisp1T, dLstRg, dLstRgM, dTupRg, dRg1, dRg2, dTimesM, dNewK, dYes, mk_def, dFldSet, dISeq, dIRng1, dIRng2, dIRng3, dIEnum, dIZip, dwipe, dclr, fII, fIIc, fIB, fLt, fLe, fGt, fGe, fAdd, fSub, fMul, fDiv, fMod, fPow, fNeg, f1, f2, dstart, List.map, List.length, List.replicate, decide_eq_true_eq, if_true, if_false, Bool.false_eq_true, Bool.not_true, Bool.not_false, reduceIte])
    rw [show seqD M (.tup (nD ls)) = some (nD ls) from rfl]
    dsimp only
    refine lc_map (fun k => .int (ap (am H i) (ap ls k) : Nat)) rfl (by rw [nD_len]; omega) (fun k d Nx2 hd2 hn2 => ?_) ?_
    · obtain ⟨hk, rfl⟩ := nD_inv hd2
      (try simp only [dPar3, gdUnl, dFor_def, lc_def, lc2_def, dSet, dC, dVar, dIfS, dOr, dAnd, dNot, dTest, dTru, dBin, dUn, dCB, f1, f2, dCons, dNil, dRet, dRetN, dLstM, dLstI, dTup, dget, dset, dNext, dDrop, dBreak, dCont, dIf, dAndV, dOrV, dNotV, dChain, dPar, dAug, dAsg, gdName, gdTup, gdCons, gdNil, gdSub, dCall, dBM, dBMX, dSl, dNoPart, dPart, dNever, List.append_nil, dDisp1K, dDisp1T, dLstRg, dLstRgM, dTupRg, dRg1, dRg2, dTimesM, dNewK, dYes, mk_def, dFldSet, dISeq, dIRng1, dIRng2, dIRng3, dIEnum, dIZip, dwipe, dclr, fII, fIIc, fIB, fLt, fLe, fGt, fGe, fAdd, fSub, fMul, fDiv, fMod, fPow, fNeg, f1, f2, dstart, List.map, List.length, List.replicate, decide_eq_true_eq, if_true, if_false, Bool.false_eq_true, Bool.not_true, Bool.not_false, reduceIte])
      refine ix_nD (l := am H i) rfl ?_ hn2
      rw [hr.len]
      exact L.lt _ (by rw [ap_eq hk]; exact List.getElem_mem _)
    · refine gto ?_
      rw [show (List.range (nD ls).length).map (fun k => D.int (ap (am H i) (ap ls k) : Nat)) = nD (ls.map fun l => ap (am H i) l) from ?_]
      · exact hnx
      · rw [nD_len]
        refine List.ext_getElem? fun k => ?_
        by_cases hk : k < ls.length
        · rw [List.getElem?_map, List.getElem?_range hk, nD_at (by rw [List.length_map]; exact hk), ap_map hk]; rfl
        · rw [List.getElem?_eq_none (by rw [List.length_map, List.length_range]; omega), List.getElem?_eq_none (by rw [nD_len, List.length_map]; omega)]
  rw [List.length_map]
  rw [show (List.range H.length).map (fun i => D.tup (nD (ls.map fun l => ap (am H i) l))) = (H.map fun r => ls.map fun l => ap r l).map permD from ?_]
  · rw [show ∀ ds, lstD M (.lst ds) = some ds from fun _ => rfl]
    dsimp only
    have hti : ∀ r, (tupOf (permD r)).bind intsD = some (natsI r) := fun r => intsD_map _
    refine ⟨fun y hy => ?_, by rw [List.length_map, List.length_map]; omega, ?_, ?_⟩
    · obtain ⟨r, _, rfl⟩ := List.mem_map.mp hy
      exact ⟨_, hti r⟩
    · rw [List.map_map]
      rw [show (tI ∘ permD) = natsI from funext fun r => by show tI (permD r) = _; unfold tI; rw [hti]; rfl]
      have := homs_leads g g' L hH
      rw [List.nodup_iff_pairwise_ne] at this ⊢
      rw [List.pairwise_map]
      exact this.imp fun q e => q (natsI_inj e)
    · rw [List.length_map, List.length_map]
      refine len_rows ?_
      refine ne_int ?_
      simp only [decide_true, Bool.not_true, if_false, Bool.false_eq_true]
      (first | rw [seq_def] | (simp only [gdName, dset]; rw [seq_def])); simp only [dPar3, gdUnl, dFor_def, lc_def, lc2_def, dSet, dC, dVar, dIfS, dOr, dAnd, dNot, dTest, dTru, dBin, dUn, dCB, f1, f2, dCons, dNil, dRet, dRetN, dLstM, dLstI, dTup, dget, dset, dNext, dDrop, dBreak, dCont, dIf, dAndV, dOrV, dNotV, dChain, dPar, dAug, dAsg, gdName, gdTup, gdCons, gdNil, gdSub, dCall, dBM, dBMX, dSl, dNoPart, dPart, dNever, List.append_nil, dDisp1K, dDisp1T, dLstRg, dLstRgM, dTupRg, dRg1, dRg2, dTimesM, dNewK, dYes, mk_def, dFldSet, dISeq, dIRng1, dIRng2, dIRng3, dIEnum, dIZip, dwipe, dclr, fII, fIIc, fIB, fLt, fLe, fGt, fGe, fAdd, fSub, fMul, fDiv, fMod, fPow, fNeg, f1, f2, dstart, List.map, List.length, List.replicate, decide_eq_true_eq, if_true, if_false, Bool.false_eq_true, Bool.not_true, Bool.not_false, reduceIte]
      rw [show ∀ M', seqD M' (.tup (H.map rowX)) = some (H.map rowX) from fun _ => rfl]
      dsimp only
      refine for_inv (fun i δ M2 => M2 = M ∧ ∃ a b c, δ = [some (tabD C n m), some (tabD C n' m'), some (.tup (H.map rowX)), some (.tup (nD ls)), a, b, c]) ⟨rfl, _, _, _, rfl⟩ (fun i d0 δ M2 Nx hd hI hnx => ?_) (fun δ M' hI => ?_)
      · obtain ⟨rfl, _, _, _, rfl⟩ := hI
        have hi := (List.getElem?_eq_some_iff.mp hd).1
        rw [List.length_map] at hi
        rw [hrow i hi] at hd
        cases hd
        have hr := (hH.mem _).mp (am_mem hi)
        generalize am H i = f at hr
        refine ⟨rfl, ?_⟩
        have h0 := hom_zero g g' hr
        (first | rw [seq_def] | (simp only [gdName, dset]; rw [seq_def])); simp only [dPar3, gdUnl, dFor_def, lc_def, lc2_def, dSet, dC, dVar, dIfS, dOr, dAnd, dNot, dTest, dTru, dBin, dUn, dCB, f1, f2, dCons, dNil, dRet, dRetN, dLstM, dLstI, dTup, dget, dset, dNext, dDrop, dBreak, dCont, dIf, dAndV, dOrV, dNotV, dChain, dPar, dAug, dAsg, gdName, gdTup, gdCons, gdNil, gdSub, dCall, dBM, dBMX, dSl, dNoPart, dPart, dNever, List.append_nil, dDisp1K, dDisp1T, dLstRg, dLstRgM, dTupRg, dRg1, dRg2, dTimesM, dNewK, dYes, mk_def, dFldSet, dISeq, dIRng1, dIRng2, dIRng3, dIEnum, dIZip, dwipe, dclr, fII, fIIc, fIB, fLt, fLe, fGt, fGe, fAdd, fSub, fMul, fDiv, fMod, fPow, fNeg, f1, f2, dstart, List.map, List.length, List.replicate, decide_eq_true_eq, if_true, if_false, Bool.false_eq_true, Bool.not_true, Bool.not_false, reduceIte]
        refine ix_nD (l := f) (i := 0) rfl (by rw [hr.len]; exact g.pos) ?_
        rw [h0]
        refine ne_int ?_
        simp only [Int.cast_ofNat_Int, decide_true, Bool.not_true, if_false, Bool.false_eq_true]
        (try simp only [dPar3, gdUnl, dFor_def, lc_def, lc2_def, dSet, dC, dVar, dIfS, dOr, dAnd, dNot, dTest, dTru, dBin, dUn, dCB, f1, f2, dCons, dNil, dRet, dRetN, dLstM, dLstI, dTup, dget, dset, dNext, dDrop, dBreak, dCont, dIf, dAndV, dOrV, dNotV, dChain, dPar, dAug, dAsg, gdName, gdTup, gdCons, gdNil, gdSub, dCall, dBM, dBMX, dSl, dNoPart, dPart, dNever, List.append_nil, dDisp1K, dDisp1T, dLstRg, dLstRgM, dTupRg, dRg1, dRg2, dTimesM, dNewK, dYes, mk_def, dFldSet, dISeq, dIRng1, dIRng2, dIRng3, dIEnum, dIZip, dwipe, dclr, fII, fIIc, fIB, fLt, fLe, fGt, fGe, fAdd, fSub, fMul, fDiv, fMod, fPow, fNeg, f1, f2, dstart, List.map, List.length, List.replicate, decide_eq_true_eq, if_true, if_false, Bool.false_eq_true, Bool.not_true, Bool.not_false, reduceIte])
        refine lenC_tab (by omega) ?_
        refine ⟨by omega, by omega, ?_⟩
        refine for_inv (fun j δ M3 => M3 = M2 ∧ ∃ b c, δ = [some (tabD C n m), some (tabD C n' m'), some (.tup (H.map rowX)), some (.tup (nD ls)), some (rowX f), b, c]) ⟨rfl, _, _, rfl⟩ (fun j d0 δ M3 Nx2 hd2 hI hnx2 => ?_) (fun δ M3 hI => ?_)
        · obtain ⟨rfl, _, _, rfl⟩ := hI
          obtain ⟨hj, rfl⟩ := rng_inv hd2
          refine ⟨trivial, ?_⟩
          obtain ⟨b, hb, eb⟩ := g.inv j hj
          have hfj := hr.lt j hj
          (first | rw [seq_def] | (simp only [gdName, dset]; rw [seq_def])); simp only [dPar3, gdUnl, dFor_def, lc_def, lc2_def, dSet, dC, dVar, dIfS, dOr, dAnd, dNot, dTest, dTru, dBin, dUn, dCB, f1, f2, dCons, dNil, dRet, dRetN, dLstM, dLstI, dTup, dget, dset, dNext, dDrop, dBreak, dCont, dIf, dAndV, dOrV, dNotV, dChain, dPar, dAug, dAsg, gdName, gdTup, gdCons, gdNil, gdSub, dCall, dBM, dBMX, dSl, dNoPart, dPart, dNever, List.append_nil, dDisp1K, dDisp1T, dLstRg, dLstRgM, dTupRg, dRg1, dRg2, dTimesM, dNewK, dYes, mk_def, dFldSet, dISeq, dIRng1, dIRng2, dIRng3, dIEnum, dIZip, dwipe, dclr, fII, fIIc, fIB, fLt, fLe, fGt, fGe, fAdd, fSub, fMul, fDiv, fMod, fPow, fNeg, f1, f2, dstart, List.map, List.length, List.replicate, decide_eq_true_eq, if_true, if_false, Bool.false_eq_true, Bool.not_true, Bool.not_false, reduceIte]
          refine ⟨n, m, j, b, rfl, g, by omega, hj, hb, eb, ?_⟩
          refine ix_nD (l := f) rfl (by rw [hr.len]; exact hb) ?_
          refine ix_nD (l := f) rfl (by rw [hr.len]; exact hj) ?_
          refine ⟨n', m', ap f j, ap f b, rfl, g', by omega, hfj, hr.lt b hb, by rw [← hr.mul j b hj hb, eb, h0], ?_⟩
          refine ne_int ?_
          simp only [decide_true, Bool.not_true, if_false, Bool.false_eq_true]
          obtain ⟨r, ho⟩ := ord_ex g hj
          obtain ⟨s, ho'⟩ := ord_ex g' hfj
          have hmod := hom_ord g g' hr hj ho ho'
          (try simp only [dPar3, gdUnl, dFor_def, lc_def, lc2_def, dSet, dC, dVar, dIfS, dOr, dAnd, dNot, dTest, dTru, dBin, dUn, dCB, f1, f2, dCons, dNil, dRet, dRetN, dLstM, dLstI, dTup, dget, dset, dNext, dDrop, dBreak, dCont, dIf, dAndV, dOrV, dNotV, dChain, dPar, dAug, dAsg, gdName, gdTup, gdCons, gdNil, gdSub, dCall, dBM, dBMX, dSl, dNoPart, dPart, dNever, List.append_nil, dDisp1K, dDisp1T, dLstRg, dLstRgM, dTupRg, dRg1, dRg2, dTimesM, dNewK, dYes, mk_def, dFldSet, dISeq, dIRng1, dIRng2, dIRng3, dIEnum, dIZip, dwipe, dclr, fII, fIIc, fIB, fLt, fLe, fGt, fGe, fAdd, fSub, fMul, fDiv, fMod, fPow, fNeg, f1, f2, dstart, List.map, List.length, List.replicate, decide_eq_true_eq, if_true, if_false, Bool.false_eq_true, Bool.not_true, Bool.not_false, reduceIte])
          refine ⟨n, m, j, r, rfl, g, by omega, hj, ho, ?_⟩
          refine ix_nD (l := f) rfl (by rw [hr.len]; exact hj) ?_
          refine ⟨n', m', ap f j, s, rfl, g', by omega, hfj, ho', ?_⟩
          have hs := ho'.1
          refine ⟨by omega, ?_⟩
          refine ne_int ?_
          have em : ((r : Nat) : Int) % ((s : Nat) : Int) = 0 := by omega
          simp only [em, decide_true, Bool.not_true, if_false, Bool.false_eq_true]
          exact hnx2 _ _ ⟨rfl, _, _, rfl⟩
        · obtain ⟨rfl, _, _, rfl⟩ := hI
          exact ⟨trivial, hnx _ _ ⟨rfl, _, _, _, rfl⟩⟩
      · obtain ⟨rfl, _, _, _, rfl⟩ := hI
        exact ⟨rfl, fg h⟩
  · refine List.ext_getElem? fun k => ?_
    rw [List.getElem?_map, List.getElem?_map, List.getElem?_map]
    by_cases hk : k < H.length
    · rw [List.getElem?_range hk, am_at hk]; rfl
    · rw [List.getElem?_eq_none (by rw [List.length_range]; omega), List.getElem?_eq_none (by omega)]; rfl
end T73
end
section
set_option Elab.async false
set_option linter.all false
set_option maxRecDepth 100000
set_option maxHeartbeats 4000000
namespace T73
open DL PySem PySem.Spec PyProof.Rows L2 T74
abbrev prT (s t : N2) (b : Nat) : N2 := fun i j => s (i / b) (j / b) * b + t (i % b) (j % b)
def sp_product (C : Addr) : SpD := fun ds M Q => ∃ a b s t, ds = [tabD C a s, tabD C b t] ∧ IsGrp a s ∧ IsGrp b t ∧ a * b ≤ 48 ∧ Q (tabD C (a * b) (prT s t b)) M
theorem hl_product (C : Addr) : ∀ ds M Q, sp_product C ds M Q → ds.length = 2 := fun _ _ _ ⟨_, _, _, _, e, _⟩ => by rw [e]; rfl
theorem ok_product (C : Addr) : ∀ ds M Q, sp_product C ds M Q → r_product C (sp_check_table C) (sp_table_len C) (sp_table_init C) (dEnd Q) (dstart N_product ds) M := by
  rintro ds M Q ⟨a, b, s, t, rfl, g, f, hab, h⟩
  unfold r_product; simp only [dstart, N_product, List.map, List.length, List.replicate, List.append, HAppend.hAppend, Append.append]
  have hb := f.pos
  have hbig := big48
  have ha48 : a ≤ 48 := Nat.le_trans (Nat.le_mul_of_pos_right a hb) hab
  have hb48 : b ≤ 48 := Nat.le_trans (Nat.le_mul_of_pos_left b g.pos) hab
  have hd : ∀ {i}, i < a * b → i / b < a := fun {i} h => Nat.div_lt_of_lt_mul (by rw [Nat.mul_comm]; exact h)
  have hm : ∀ i, i % b < b := fun i => Nat.mod_lt _ hb
  (first | rw [seq_def] | (simp only [gdName, dset]; rw [seq_def])); simp only [dPar3, gdUnl, dFor_def, lc_def, lc2_def, dSet, dC, dVar, dIfS, dOr, dAnd, dNot, dTest, dTru, dBin, dUn, dCB, f1, f2, dCons, dNil, dRet, dRetN, dLstM, dLstI, dTup, dget, dset, dNext, dDrop, dBreak, dCont, dIf, dAndV, dOrV, dNotV, dChain, dPar, dAug, dAsg, gdName, gdTup, gdCons, gdNil, gdSub, dCall, dBM, dBMX, dSl, dNoPart, dPart, dNever, List.append_nil, dDisp1K, dDisp1T, dLstRg, dLstRgM, dTupRg, dRg1, dRg2, dTimesM, dNewK, dYes, mk_def, dFldSet, dISeq, dIRng1, dIRng2, dIRng3, dIEnum, dIZip, dwipe, dclr, fII, fIIc, fIB, fLt, fLe, fGt, fGe, fAdd, fSub, fMul, fDiv, fMod, fPow, fNeg, f1, f2, dstart, List.map, List.length, List.replicate, decide_eq_true_eq, if_true, if_false, Bool.false_eq_true, Bool.not_true, Bool.not_false, reduceIte]
  refine ⟨a, s, rfl, ?_⟩
  (first | rw [seq_def] | (simp only [gdName, dset]; rw [seq_def])); simp only [dPar3, gdUnl, dFor_def, lc_def, lc2_def, dSet, dC, dVar, dIfS, dOr, dAnd, dNot, dTest, dTru, dBin, dUn, dCB, f1, f2, dCons, dNil, dRet, dRetN, dLstM, dLstI, dTup, dget, dset, dNext, dDrop, dBreak, dCont, dIf, dAndV, dOrV, dNotV, dChain, dPar, dAug, dAsg, gdName, gdTup, gdCons, gdNil, gdSub, dCall, dBM, dBMX, dSl, dNoPart, dPart, dNever, List.append_nil, dDisp1K, dDisp1T, dLstRg, dLstRgM, dTupRg, dRg1, dRg2, dTimesM, dNewK, dYes, mk_def, dFldSet, dISeq, dIRng1, dIRng2, dIRng3, dIEnum, dIZip, dwipe, dclr, fII, fIIc, fIB, fLt, fLe, fGt, fGe, fAdd, fSub, fMul, fDiv, fMod, fPow, fNeg, f1, f2, dstart, List.map, List.length, List.replicate, decide_eq_true_eq, if_true, if_false, Bool.false_eq_true, Bool.not_true, Bool.not_false, reduceIte]
  refine ⟨b, t, rfl, ?_⟩
  (first | rw [seq_def] | (simp only [gdName, dset]; rw [seq_def])); simp only [dPar3, gdUnl, dFor_def, lc_def, lc2_def, dSet, dC, dVar, dIfS, dOr, dAnd, dNot, dTest, dTru, dBin, dUn, dCB, f1, f2, dCons, dNil, dRet, dRetN, dLstM, dLstI, dTup, dget, dset, dNext, dDrop, dBreak, dCont, dIf, dAndV, dOrV, dNotV, dChain, dPar, dAug, dAsg, gdName, gdTup, gdCons, gdNil, gdSub, dCall, dBM, dBMX, dSl, dNoPart, dPart, dNever, List.append_nil, dDisp1K, dDisp1T, dLstRg, dLstRgM, dTupRg, dRg1, dRg2, dTimesM, dNewK, dYes, mk_def, dFldSet, dISeq, dIRng1, dIRng2, dIRng3, dIEnum, dIZip, dwipe, dclr, fII, fIIc, fIB, fLt, fLe, fGt, fGe, fAdd, fSub, fMul, fDiv, fMod, fPow, fNeg, f1, f2, dstart, List.map, List.length, List.replicate, decide_eq_true_eq, if_true, if_false, Bool.false_eq_true, Bool.not_true, Bool.not_false, reduceIte]
  refine lenC_tab (by omega) ?_
  refine lenC_tab (by omega) ?_
  refine times_int (mul_small (by omega) (by omega)) ?_
  refine lenC_tab (by omega) ?_
  have eN : (a : Int) * (b : Int) = ((a * b : Nat) : Int) := (Int.natCast_mul a b).symm
  rw [eN]
  refine ⟨by decide, rfl, ?_⟩
  obtain ⟨N, hN⟩ : ∃ N, N = a * b := ⟨_, rfl⟩
  rw [← hN] at hab h hd ⊢
  generalize hpm : prT s t b = pm at h
  (first | rw [seq_def] | (simp only [gdName, dset]; rw [seq_def])); simp only [dPar3, gdUnl, dFor_def, lc_def, lc2_def, dSet, dC, dVar, dIfS, dOr, dAnd, dNot, dTest, dTru, dBin, dUn, dCB, f1, f2, dCons, dNil, dRet, dRetN, dLstM, dLstI, dTup, dget, dset, dNext, dDrop, dBreak, dCont, dIf, dAndV, dOrV, dNotV, dChain, dPar, dAug, dAsg, gdName, gdTup, gdCons, gdNil, gdSub, dCall, dBM, dBMX, dSl, dNoPart, dPart, dNever, List.append_nil, dDisp1K, dDisp1T, dLstRg, dLstRgM, dTupRg, dRg1, dRg2, dTimesM, dNewK, dYes, mk_def, dFldSet, dISeq, dIRng1, dIRng2, dIRng3, dIEnum, dIZip, dwipe, dclr, fII, fIIc, fIB, fLt, fLe, fGt, fGe, fAdd, fSub, fMul, fDiv, fMod, fPow, fNeg, f1, f2, dstart, List.map, List.length, List.replicate, decide_eq_true_eq, if_true, if_false, Bool.false_eq_true, Bool.not_true, Bool.not_false, reduceIte]
  have p48 : ¬ (48 : Int) < (N : Nat) := by omega
  simp only [p48, if_false]
  (first | rw [seq_def] | (simp only [gdName, dset]; rw [seq_def])); simp only [dPar3, gdUnl, dFor_def, lc_def, lc2_def, dSet, dC, dVar, dIfS, dOr, dAnd, dNot, dTest, dTru, dBin, dUn, dCB, f1, f2, dCons, dNil, dRet, dRetN, dLstM, dLstI, dTup, dget, dset, dNext, dDrop, dBreak, dCont, dIf, dAndV, dOrV, dNotV, dChain, dPar, dAug, dAsg, gdName, gdTup, gdCons, gdNil, gdSub, dCall, dBM, dBMX, dSl, dNoPart, dPart, dNever, List.append_nil, dDisp1K, dDisp1T, dLstRg, dLstRgM, dTupRg, dRg1, dRg2, dTimesM, dNewK, dYes, mk_def, dFldSet, dISeq, dIRng1, dIRng2, dIRng3, dIEnum, dIZip, dwipe, dclr, fII, fIIc, fIB, fLt, fLe, fGt, fGe, fAdd, fSub, fMul, fDiv, fMod, fPow, fNeg, f1, f2, dstart, List.map, List.length, List.replicate, decide_eq_true_eq, if_true, if_false, Bool.false_eq_true, Bool.not_true, Bool.not_false, reduceIte]
  refine ⟨by omega, by omega, ?_⟩
  refine lc_map (fun i => .tup [.int (i / b : Nat), .int (i % b : Nat)]) trivial (by rw [rng_len]; omega) (fun i d Nx hd2 hn => ?_) ?_
  · obtain ⟨hi, rfl⟩ := rng_inv hd2
    (try simp only [dPar3, gdUnl, dFor_def, lc_def, lc2_def, dSet, dC, dVar, dIfS, dOr, dAnd, dNot, dTest, dTru, dBin, dUn, dCB, f1, f2, dCons, dNil, dRet, dRetN, dLstM, dLstI, dTup, dget, dset, dNext, dDrop, dBreak, dCont, dIf, dAndV, dOrV, dNotV, dChain, dPar, dAug, dAsg, gdName, gdTup, gdCons, gdNil, gdSub, dCall, dBM, dBMX, dSl, dNoPart, dPart, dNever, List.append_nil, dDisp1K, dDisp1T, dLstRg, dLstRgM, dTupRg, dRg1, dRg2, dTimesM, dNewK, dYes, mk_def, dFldSet, dISeq, dIRng1, dIRng2, dIRng3, dIEnum, dIZip, dwipe, dclr, fII, fIIc, fIB, fLt, fLe, fGt, fGe, fAdd, fSub, fMul, fDiv, fMod, fPow, fNeg, f1, f2, dstart, List.map, List.length, List.replicate, decide_eq_true_eq, if_true, if_false, Bool.false_eq_true, Bool.not_true, Bool.not_false, reduceIte])
    refine divmod_ (by omega) (by omega) ?_
    rw [show ((i : Nat) : Int) / ((b : Nat) : Int) = ((i / b : Nat) : Int) from (Int.natCast_ediv i b).symm, show ((i : Nat) : Int) % ((b : Nat) : Int) = ((i % b : Nat) : Int) from (Int.natCast_emod i b).symm]
    exact hn
  rw [rng_len]
  generalize hP : (List.range N).map (fun i => D.tup [.int (i / b : Nat), .int (i % b : Nat)]) = P
  have hPl : P.length = N := by rw [← hP, List.length_map, List.length_range]
  have hPi : ∀ {i d}, P[i]? = some d → i < N ∧ d = .tup [.int (i / b : Nat), .int (i % b : Nat)] := fun {i d} e => by
    have h1 := (List.getElem?_eq_some_iff.mp e).1
    rw [hPl] at h1
    rw [← hP, List.getElem?_map, List.getElem?_range h1] at e
    cases e; exact ⟨h1, rfl⟩
  (first | rw [seq_def] | (simp only [gdName, dset]; rw [seq_def])); simp only [dPar3, gdUnl, dFor_def, lc_def, lc2_def, dSet, dC, dVar, dIfS, dOr, dAnd, dNot, dTest, dTru, dBin, dUn, dCB, f1, f2, dCons, dNil, dRet, dRetN, dLstM, dLstI, dTup, dget, dset, dNext, dDrop, dBreak, dCont, dIf, dAndV, dOrV, dNotV, dChain, dPar, dAug, dAsg, gdName, gdTup, gdCons, gdNil, gdSub, dCall, dBM, dBMX, dSl, dNoPart, dPart, dNever, List.append_nil, dDisp1K, dDisp1T, dLstRg, dLstRgM, dTupRg, dRg1, dRg2, dTimesM, dNewK, dYes, mk_def, dFldSet, dISeq, dIRng1, dIRng2, dIRng3, dIEnum, dIZip, dwipe, dclr, fII, fIIc, fIB, fLt, fLe, fGt, fGe, fAdd, fSub, fMul, fDiv, fMod, fPow, fNeg, f1, f2, dstart, List.map, List.length, List.replicate, decide_eq_true_eq, if_true, if_false, Bool.false_eq_true, Bool.not_true, Bool.not_false, reduceIte]
  rw [show ∀ M', seqD M' (.lst P) = some P from fun _ => rfl]
  dsimp only
  refine lc_map (fun i => .tupX (rowD pm N i)) rfl (by rw [hPl]; omega) (fun i d Nx hd2 hn => ?_) ?_
  · obtain ⟨hi, rfl⟩ := hPi hd2
    refine gd_pair ?_
    (try simp only [dPar3, gdUnl, dFor_def, lc_def, lc2_def, dSet, dC, dVar, dIfS, dOr, dAnd, dNot, dTest, dTru, dBin, dUn, dCB, f1, f2, dCons, dNil, dRet, dRetN, dLstM, dLstI, dTup, dget, dset, dNext, dDrop, dBreak, dCont, dIf, dAndV, dOrV, dNotV, dChain, dPar, dAug, dAsg, gdName, gdTup, gdCons, gdNil, gdSub, dCall, dBM, dBMX, dSl, dNoPart, dPart, dNever, List.append_nil, dDisp1K, dDisp1T, dLstRg, dLstRgM, dTupRg, dRg1, dRg2, dTimesM, dNewK, dYes, mk_def, dFldSet, dISeq, dIRng1, dIRng2, dIRng3, dIEnum, dIZip, dwipe, dclr, fII, fIIc, fIB, fLt, fLe, fGt, fGe, fAdd, fSub, fMul, fDiv, fMod, fPow, fNeg, f1, f2, dstart, List.map, List.length, List.replicate, decide_eq_true_eq, if_true, if_false, Bool.false_eq_true, Bool.not_true, Bool.not_false, reduceIte])
    rw [show ∀ M', seqD M' (.lst P) = some P from fun _ => rfl]
    dsimp only
    refine lc_map (fun j => .int (pm i j : Nat)) rfl (by rw [hPl]; omega) (fun j d Nx2 hd3 hn2 => ?_) ?_
    · obtain ⟨hj, rfl⟩ := hPi hd3
      refine gd_pair ?_
      (try simp only [dPar3, gdUnl, dFor_def, lc_def, lc2_def, dSet, dC, dVar, dIfS, dOr, dAnd, dNot, dTest, dTru, dBin, dUn, dCB, f1, f2, dCons, dNil, dRet, dRetN, dLstM, dLstI, dTup, dget, dset, dNext, dDrop, dBreak, dCont, dIf, dAndV, dOrV, dNotV, dChain, dPar, dAug, dAsg, gdName, gdTup, gdCons, gdNil, gdSub, dCall, dBM, dBMX, dSl, dNoPart, dPart, dNever, List.append_nil, dDisp1K, dDisp1T, dLstRg, dLstRgM, dTupRg, dRg1, dRg2, dTimesM, dNewK, dYes, mk_def, dFldSet, dISeq, dIRng1, dIRng2, dIRng3, dIEnum, dIZip, dwipe, dclr, fII, fIIc, fIB, fLt, fLe, fGt, fGe, fAdd, fSub, fMul, fDiv, fMod, fPow, fNeg, f1, f2, dstart, List.map, List.length, List.replicate, decide_eq_true_eq, if_true, if_false, Bool.false_eq_true, Bool.not_true, Bool.not_false, reduceIte])
      refine fld_tab rfl ?_
      refine ix_line (hd hi) (ix_cell (hd hj) ?_)
      refine times_int (mul_small2 (by omega) (by omega)) ?_
      refine fld_tab rfl ?_
      refine ix_line (hm i) (ix_cell (hm j) ?_)
      refine plus_int ?_
      subst hpm
      exact hn2
    · rw [hPl, ← rowD_eq]
      exact gtx hn
  rw [hPl]
  (try simp only [dPar3, gdUnl, dFor_def, lc_def, lc2_def, dSet, dC, dVar, dIfS, dOr, dAnd, dNot, dTest, dTru, dBin, dUn, dCB, f1, f2, dCons, dNil, dRet, dRetN, dLstM, dLstI, dTup, dget, dset, dNext, dDrop, dBreak, dCont, dIf, dAndV, dOrV, dNotV, dChain, dPar, dAug, dAsg, gdName, gdTup, gdCons, gdNil, gdSub, dCall, dBM, dBMX, dSl, dNoPart, dPart, dNever, List.append_nil, dDisp1K, dDisp1T, dLstRg, dLstRgM, dTupRg, dRg1, dRg2, dTimesM, dNewK, dYes, mk_def, dFldSet, dISeq, dIRng1, dIRng2, dIRng3, dIEnum, dIZip, dwipe, dclr, fII, fIIc, fIB, fLt, fLe, fGt, fGe, fAdd, fSub, fMul, fDiv, fMod, fPow, fNeg, f1, f2, dstart, List.map, List.length, List.replicate, decide_eq_true_eq, if_true, if_false, Bool.false_eq_true, Bool.not_true, Bool.not_false, reduceIte])
  refine gtx ?_
  have gp := prod_grp g f
  rw [← hN] at gp
  rw [show (fun i j => s (i / b) (j / b) * b + t (i % b) (j % b)) = pm from hpm] at gp
  exact mk_tab gp hab (fg h)
def sp_law (C : Addr) : SpD := spLaw
theorem hl_law (C : Addr) : ∀ ds M Q, sp_law C ds M Q → ds.length = 1 := fun _ _ _ ⟨_, e, _⟩ => by rw [e]; rfl
theorem ok_law (C : Addr) : ∀ ds M Q, sp_law C ds M Q → r_law C (sp_law_pool C) (sp_law_cell C) (sp_table_init C) (sp_law_group C) (sp_law_take C) (sp_table_len C) (sp_order_of C) (sp_homs C) (sp_law_round C) (sp_law_each_right C) (sp_product C) (dEnd Q) (dstart N_law ds) M := by
  rintro ds M Q ⟨ns, rfl, hn, h⟩
  unfold r_law; simp only [dstart, N_law, List.map, List.length, List.replicate, List.append, HAppend.hAppend, Append.append]
  have hbig : 100000 < sizeLine := by decide
  (first | rw [seq_def] | (simp only [gdName, dset]; rw [seq_def])); simp only [dPar3, gdUnl, dFor_def, lc_def, lc2_def, dSet, dC, dVar, dIfS, dOr, dAnd, dNot, dTest, dTru, dBin, dUn, dCB, f1, f2, dCons, dNil, dRet, dRetN, dLstM, dLstI, dTup, dget, dset, dNext, dDrop, dBreak, dCont, dIf, dAndV, dOrV, dNotV, dChain, dPar, dAug, dAsg, gdName, gdTup, gdCons, gdNil, gdSub, dCall, dBM, dBMX, dSl, dNoPart, dPart, dNever, List.append_nil, dDisp1K, dDisp1T, dLstRg, dLstRgM, dTupRg, dRg1, dRg2, dTimesM, dNewK, dYes, mk_def, dFldSet, dISeq, dIRng1, dIRng2, dIRng3, dIEnum, dIZip, dwipe, dclr, fII, fIIc, fIB, fLt, fLe, fGt, fGe, fAdd, fSub, fMul, fDiv, fMod, fPow, fNeg, f1, f2, dstart, List.map, List.length, List.replicate, decide_eq_true_eq, if_true, if_false, Bool.false_eq_true, Bool.not_true, Bool.not_false, reduceIte]
  refine len_seq (ds := ns.map D.int) rfl ?_
  rw [List.length_map]
  unfold gMin2
  dsimp only
  unfold gMax2
  dsimp only
  have hJ : ∃ J : Nat, J ≤ 3 ∧ (if (if ((ns.length : Nat) : Int) < 3 then ((ns.length : Nat) : Int) else 3) > 1 then (if ((ns.length : Nat) : Int) < 3 then ((ns.length : Nat) : Int) else 3) else 1) = ((J : Nat) : Int) := by
    by_cases h1 : ((ns.length : Nat) : Int) < 3
    · simp only [h1, if_true]
      by_cases h2 : ((ns.length : Nat) : Int) > 1
      · simp only [h2, if_true]; exact ⟨ns.length, by omega, rfl⟩
      · simp only [h2, if_false]; exact ⟨1, by omega, rfl⟩
    · simp only [h1, if_false]; exact ⟨3, by omega, by decide⟩
  obtain ⟨J, hJ4, eJ⟩ := hJ
  rw [eJ]
  refine ⟨by omega, by omega, ?_⟩
  refine for_inv (fun i δ M' => ∃ a1 a2 a3 a4 a5 a6 a7 a8 a9 b1 b2 b3 b4 b5 b6 b7, δ = [some (.rol (ns.map D.int)), a1, a2, a3, a4, a5, a6, a7, a8, a9, b1, b2, b3, b4, b5, b6, b7]) ⟨_, _, _, _, _, _, _, _, _, _, _, _, _, _, _, _, rfl⟩ (fun i d0 δ M' Nx hd hI hnx => ?_) (fun δ M' hI => ?_)
  · obtain ⟨_, _, _, _, _, _, _, _, _, _, _, _, _, _, _, _, rfl⟩ := hI
    obtain ⟨hi, rfl⟩ := rng_inv hd
    refine ⟨trivial, ?_⟩
    (first | rw [seq_def] | (simp only [gdName, dset]; rw [seq_def])); simp only [dPar3, gdUnl, dFor_def, lc_def, lc2_def, dSet, dC, dVar, dIfS, dOr, dAnd, dNot, dTest, dTru, dBin, dUn, dCB, f1, f2, dCons, dNil, dRet, dRetN, dLstM, dLstI, dTup, dget, dset, dNext, dDrop, dBreak, dCont, dIf, dAndV, dOrV, dNotV, dChain, dPar, dAug, dAsg, gdName, gdTup, gdCons, gdNil, gdSub, dCall, dBM, dBMX, dSl, dNoPart, dPart, dNever, List.append_nil, dDisp1K, dDisp1T, dLstRg, dLstRgM, dTupRg, dRg1, dRg2, dTimesM, dNewK, dYes, mk_def, dFldSet, dISeq, dIRng1, dIRng2, dIRng3, dIEnum, dIZip, dwipe, dclr, fII, fIIc, fIB, fLt, fLe, fGt, fGe, fAdd, fSub, fMul, fDiv, fMod, fPow, fNeg, f1, f2, dstart, List.map, List.length, List.replicate, decide_eq_true_eq, if_true, if_false, Bool.false_eq_true, Bool.not_true, Bool.not_false, reduceIte]
    refine ⟨ns, i, rfl, by omega, hn, fun c => ?_⟩
    refine ⟨c, rfl, fun p M1 hp hps => ?_⟩
    (first | rw [seq_def] | (simp only [gdName, dset]; rw [seq_def])); simp only [dPar3, gdUnl, dFor_def, lc_def, lc2_def, dSet, dC, dVar, dIfS, dOr, dAnd, dNot, dTest, dTru, dBin, dUn, dCB, f1, f2, dCons, dNil, dRet, dRetN, dLstM, dLstI, dTup, dget, dset, dNext, dDrop, dBreak, dCont, dIf, dAndV, dOrV, dNotV, dChain, dPar, dAug, dAsg, gdName, gdTup, gdCons, gdNil, gdSub, dCall, dBM, dBMX, dSl, dNoPart, dPart, dNever, List.append_nil, dDisp1K, dDisp1T, dLstRg, dLstRgM, dTupRg, dRg1, dRg2, dTimesM, dNewK, dYes, mk_def, dFldSet, dISeq, dIRng1, dIRng2, dIRng3, dIEnum, dIZip, dwipe, dclr, fII, fIIc, fIB, fLt, fLe, fGt, fGe, fAdd, fSub, fMul, fDiv, fMod, fPow, fNeg, f1, f2, dstart, List.map, List.length, List.replicate, decide_eq_true_eq, if_true, if_false, Bool.false_eq_true, Bool.not_true, Bool.not_false, reduceIte]
    refine ⟨by decide, by decide, ?_⟩
    refine lc_inv (fun k acc M2 => PS p M' M2 ∧ ∃ L : List (Nat × N2), acc = L.map (fun q => tabD C q.1 q.2) ∧ L.length = k ∧ ∀ q ∈ L, IsGrp q.1 q.2 ∧ q.1 ≤ 8) ⟨hps, [], rfl, rfl, (fun _ z => nomatch z)⟩ (fun k d acc M2 Nx2 hd hI hn2 => ?_) (fun acc M2 hI => ?_)
    · obtain ⟨hps2, L, rfl, hL, hg⟩ := hI
      have hk := (List.getElem?_eq_some_iff.mp hd).1
      have hk3 : (rgD 0 3).length = 3 := by decide
      refine ⟨trivial, ?_⟩
      (try simp only [dPar3, gdUnl, dFor_def, lc_def, lc2_def, dSet, dC, dVar, dIfS, dOr, dAnd, dNot, dTest, dTru, dBin, dUn, dCB, f1, f2, dCons, dNil, dRet, dRetN, dLstM, dLstI, dTup, dget, dset, dNext, dDrop, dBreak, dCont, dIf, dAndV, dOrV, dNotV, dChain, dPar, dAug, dAsg, gdName, gdTup, gdCons, gdNil, gdSub, dCall, dBM, dBMX, dSl, dNoPart, dPart, dNever, List.append_nil, dDisp1K, dDisp1T, dLstRg, dLstRgM, dTupRg, dRg1, dRg2, dTimesM, dNewK, dYes, mk_def, dFldSet, dISeq, dIRng1, dIRng2, dIRng3, dIEnum, dIZip, dwipe, dclr, fII, fIIc, fIB, fLt, fLe, fGt, fGe, fAdd, fSub, fMul, fDiv, fMod, fPow, fNeg, f1, f2, dstart, List.map, List.length, List.replicate, decide_eq_true_eq, if_true, if_false, Bool.false_eq_true, Bool.not_true, Bool.not_false, reduceIte])
      refine ⟨p, 8, rfl, hps2.pool, by omega, by omega, fun n m M3 g hnl hps3 => ?_⟩
      refine mk_tab g (by omega) ?_
      refine ⟨by rw [List.length_map]; omega, hn2 _ _ ⟨hps2.trans hps3, L ++ [(n, m)], by rw [List.map_append]; rfl, by rw [List.length_append, hL]; rfl, fun q hq => ?_⟩⟩
      rcases List.mem_append.mp hq with z | z
      · exact hg q z
      · rw [List.mem_singleton.mp z]; exact ⟨g, hnl⟩
    · obtain ⟨hps2, L, rfl, hL, hg⟩ := hI
      rw [show (rgD 0 3).length = 3 by decide] at hL
      refine ⟨trivial, ?_⟩
      obtain ⟨⟨n1, m1⟩, ⟨n2, m2⟩, ⟨n3, m3⟩, rfl⟩ : ∃ a b c, L = [a, b, c] := by
        match L, hL with
        | [a, b, c], _ => exact ⟨a, b, c, rfl⟩
      obtain ⟨g1, hn1⟩ := hg (n1, m1) (by simp)
      obtain ⟨g2, hn2⟩ := hg (n2, m2) (by simp)
      obtain ⟨g3, hn3⟩ := hg (n3, m3) (by simp)
      dsimp only at g1 g2 g3 hn1 hn2 hn3
      clear hg hL
      refine ⟨rfl, ?_⟩
      simp only [List.map, gdCons, gdName, gdNil, dset]
      (first | rw [seq_def] | (simp only [gdName, dset]; rw [seq_def])); simp only [dPar3, gdUnl, dFor_def, lc_def, lc2_def, dSet, dC, dVar, dIfS, dOr, dAnd, dNot, dTest, dTru, dBin, dUn, dCB, f1, f2, dCons, dNil, dRet, dRetN, dLstM, dLstI, dTup, dget, dset, dNext, dDrop, dBreak, dCont, dIf, dAndV, dOrV, dNotV, dChain, dPar, dAug, dAsg, gdName, gdTup, gdCons, gdNil, gdSub, dCall, dBM, dBMX, dSl, dNoPart, dPart, dNever, List.append_nil, dDisp1K, dDisp1T, dLstRg, dLstRgM, dTupRg, dRg1, dRg2, dTimesM, dNewK, dYes, mk_def, dFldSet, dISeq, dIRng1, dIRng2, dIRng3, dIEnum, dIZip, dwipe, dclr, fII, fIIc, fIB, fLt, fLe, fGt, fGe, fAdd, fSub, fMul, fDiv, fMod, fPow, fNeg, f1, f2, dstart, List.map, List.length, List.replicate, decide_eq_true_eq, if_true, if_false, Bool.false_eq_true, Bool.not_true, Bool.not_false, reduceIte]
      refine ⟨p, _, rfl, hps2.pool, by decide, by decide, fun u M5 hu0 hu1 hps5 => ?_⟩
      obtain ⟨u, rfl⟩ := Int.eq_ofNat_of_zero_le hu0
      refine plus_int ?_
      rw [show (1 : Int) + (u : Nat) = ((u + 1 : Nat) : Int) by omega]
      have hw0 : 0 < u + 1 := by omega
      have hw1 : u + 1 ≤ 12 := by omega
      generalize u + 1 = w at hw0 hw1
      have hPS := hps2.trans hps5
      clear hps2 hps5
      (first | rw [seq_def] | (simp only [gdName, dset]; rw [seq_def])); simp only [dPar3, gdUnl, dFor_def, lc_def, lc2_def, dSet, dC, dVar, dIfS, dOr, dAnd, dNot, dTest, dTru, dBin, dUn, dCB, f1, f2, dCons, dNil, dRet, dRetN, dLstM, dLstI, dTup, dget, dset, dNext, dDrop, dBreak, dCont, dIf, dAndV, dOrV, dNotV, dChain, dPar, dAug, dAsg, gdName, gdTup, gdCons, gdNil, gdSub, dCall, dBM, dBMX, dSl, dNoPart, dPart, dNever, List.append_nil, dDisp1K, dDisp1T, dLstRg, dLstRgM, dTupRg, dRg1, dRg2, dTimesM, dNewK, dYes, mk_def, dFldSet, dISeq, dIRng1, dIRng2, dIRng3, dIEnum, dIZip, dwipe, dclr, fII, fIIc, fIB, fLt, fLe, fGt, fGe, fAdd, fSub, fMul, fDiv, fMod, fPow, fNeg, f1, f2, dstart, List.map, List.length, List.replicate, decide_eq_true_eq, if_true, if_false, Bool.false_eq_true, Bool.not_true, Bool.not_false, reduceIte]
      refine lenC_tab (by omega) ?_
      refine ⟨by omega, by omega, ?_⟩
      refine lc_inv (fun k acc M2 => M2 = M5 ∧ acc = nD ((List.range k).filter fun x => decide (pw m2 x w = 0))) ⟨rfl, rfl⟩ (fun k d acc M2 Nx2 hd hI hnx2 => ?_) (fun acc M2 hI => ?_)
      · obtain ⟨rfl, rfl⟩ := hI
        obtain ⟨hk, rfl⟩ := rng_inv hd
        refine ⟨trivial, ?_⟩
        obtain ⟨r, ho⟩ := ord_ex g2 hk
        have hr0 := ho.1
        have hod := ord_div g2 (k := w) hk ho
        (try simp only [dPar3, gdUnl, dFor_def, lc_def, lc2_def, dSet, dC, dVar, dIfS, dOr, dAnd, dNot, dTest, dTru, dBin, dUn, dCB, f1, f2, dCons, dNil, dRet, dRetN, dLstM, dLstI, dTup, dget, dset, dNext, dDrop, dBreak, dCont, dIf, dAndV, dOrV, dNotV, dChain, dPar, dAug, dAsg, gdName, gdTup, gdCons, gdNil, gdSub, dCall, dBM, dBMX, dSl, dNoPart, dPart, dNever, List.append_nil, dDisp1K, dDisp1T, dLstRg, dLstRgM, dTupRg, dRg1, dRg2, dTimesM, dNewK, dYes, mk_def, dFldSet, dISeq, dIRng1, dIRng2, dIRng3, dIEnum, dIZip, dwipe, dclr, fII, fIIc, fIB, fLt, fLe, fGt, fGe, fAdd, fSub, fMul, fDiv, fMod, fPow, fNeg, f1, f2, dstart, List.map, List.length, List.replicate, decide_eq_true_eq, if_true, if_false, Bool.false_eq_true, Bool.not_true, Bool.not_false, reduceIte])
        refine ⟨n2, m2, k, r, rfl, g2, by omega, hk, ho, ?_⟩
        refine ⟨by omega, ?_⟩
        refine eq_int ?_
        dsimp only
        have hflen : ((List.range k).filter fun x => decide (pw m2 x w = 0)).length ≤ k := by
          have := List.length_filter_le (fun x => decide (pw m2 x w = 0)) (List.range k)
          rw [List.length_range] at this
          exact this
        by_cases hp : pw m2 k w = 0
        · have e1 : ((w : Nat) : Int) % ((r : Nat) : Int) = 0 := by have := hod.mpr hp; omega
          simp only [decide_eq_true e1, if_true]
          refine ⟨by rw [nD_len]; omega, hnx2 _ _ ⟨rfl, ?_⟩⟩
          rw [List.range_succ, List.filter_append, nD_app]
          simp only [List.filter_cons, List.filter_nil, hp, decide_true, if_true]
          rfl
        · have e1 : ¬ ((w : Nat) : Int) % ((r : Nat) : Int) = 0 := fun z => hp (hod.mp (by omega))
          simp only [decide_eq_false e1, Bool.false_eq_true, if_false]
          refine hnx2 _ _ ⟨rfl, ?_⟩
          rw [List.range_succ, List.filter_append]
          simp only [List.filter_cons, List.filter_nil, hp, decide_false, if_false, Bool.false_eq_true, List.append_nil]
      · obtain ⟨rfl, rfl⟩ := hI
        rw [rng_len]
        refine ⟨trivial, ?_⟩
        (first | rw [seq_def] | (simp only [gdName, dset]; rw [seq_def])); simp only [dPar3, gdUnl, dFor_def, lc_def, lc2_def, dSet, dC, dVar, dIfS, dOr, dAnd, dNot, dTest, dTru, dBin, dUn, dCB, f1, f2, dCons, dNil, dRet, dRetN, dLstM, dLstI, dTup, dget, dset, dNext, dDrop, dBreak, dCont, dIf, dAndV, dOrV, dNotV, dChain, dPar, dAug, dAsg, gdName, gdTup, gdCons, gdNil, gdSub, dCall, dBM, dBMX, dSl, dNoPart, dPart, dNever, List.append_nil, dDisp1K, dDisp1T, dLstRg, dLstRgM, dTupRg, dRg1, dRg2, dTimesM, dNewK, dYes, mk_def, dFldSet, dISeq, dIRng1, dIRng2, dIRng3, dIEnum, dIZip, dwipe, dclr, fII, fIIc, fIB, fLt, fLe, fGt, fGe, fAdd, fSub, fMul, fDiv, fMod, fPow, fNeg, f1, f2, dstart, List.map, List.length, List.replicate, decide_eq_true_eq, if_true, if_false, Bool.false_eq_true, Bool.not_true, Bool.not_false, reduceIte]
        refine ⟨w, rfl, hw0, by omega, ?_⟩
        have gr := round_grp hw0
        refine mk_tab gr (by omega) ?_
        refine ⟨w, _, n2, m2, rfl, gr, hw1, g2, by omega, fun A hA => ?_⟩
        refine len_rows ?_
        refine len_seq (ds := nD _) rfl ?_
        rw [nD_len]
        refine ne_int ?_
        rw [decide_eq_true (by rw [homs_round g2 hw0 hA])]
        simp only [Bool.not_true, Bool.not_false, if_true, if_false, Bool.false_eq_true, decide_true, decide_false, reduceIte]
        clear hA A gr
        (first | rw [seq_def] | (simp only [gdName, dset]; rw [seq_def])); simp only [dPar3, gdUnl, dFor_def, lc_def, lc2_def, dSet, dC, dVar, dIfS, dOr, dAnd, dNot, dTest, dTru, dBin, dUn, dCB, f1, f2, dCons, dNil, dRet, dRetN, dLstM, dLstI, dTup, dget, dset, dNext, dDrop, dBreak, dCont, dIf, dAndV, dOrV, dNotV, dChain, dPar, dAug, dAsg, gdName, gdTup, gdCons, gdNil, gdSub, dCall, dBM, dBMX, dSl, dNoPart, dPart, dNever, List.append_nil, dDisp1K, dDisp1T, dLstRg, dLstRgM, dTupRg, dRg1, dRg2, dTimesM, dNewK, dYes, mk_def, dFldSet, dISeq, dIRng1, dIRng2, dIRng3, dIEnum, dIZip, dwipe, dclr, fII, fIIc, fIB, fLt, fLe, fGt, fGe, fAdd, fSub, fMul, fDiv, fMod, fPow, fNeg, f1, f2, dstart, List.map, List.length, List.replicate, decide_eq_true_eq, if_true, if_false, Bool.false_eq_true, Bool.not_true, Bool.not_false, reduceIte]
        refine ⟨n1, m1, n2, m2, rfl, g1, by omega, g2, by omega, fun A hA => ?_⟩
        refine ⟨n2, m2, n3, m3, rfl, g2, by omega, g3, by omega, fun B hB => ?_⟩
        refine ⟨n1, m1, n3, m3, rfl, g1, by omega, g3, by omega, fun W hW => ?_⟩
        (first | rw [seq_def] | (simp only [gdName, dset]; rw [seq_def])); simp only [dPar3, gdUnl, dFor_def, lc_def, lc2_def, dSet, dC, dVar, dIfS, dOr, dAnd, dNot, dTest, dTru, dBin, dUn, dCB, f1, f2, dCons, dNil, dRet, dRetN, dLstM, dLstI, dTup, dget, dset, dNext, dDrop, dBreak, dCont, dIf, dAndV, dOrV, dNotV, dChain, dPar, dAug, dAsg, gdName, gdTup, gdCons, gdNil, gdSub, dCall, dBM, dBMX, dSl, dNoPart, dPart, dNever, List.append_nil, dDisp1K, dDisp1T, dLstRg, dLstRgM, dTupRg, dRg1, dRg2, dTimesM, dNewK, dYes, mk_def, dFldSet, dISeq, dIRng1, dIRng2, dIRng3, dIEnum, dIZip, dwipe, dclr, fII, fIIc, fIB, fLt, fLe, fGt, fGe, fAdd, fSub, fMul, fDiv, fMod, fPow, fNeg, f1, f2, dstart, List.map, List.length, List.replicate, decide_eq_true_eq, if_true, if_false, Bool.false_eq_true, Bool.not_true, Bool.not_false, reduceIte]
        refine ⟨n1, m1, n2, m2, A, rfl, g1, by omega, g2, by omega, hA, ?_⟩
        simp only [Bool.not_true, Bool.false_eq_true, if_false]
        refine ⟨n2, m2, n3, m3, B, rfl, g2, by omega, g3, by omega, hB, ?_⟩
        simp only [Bool.not_true, Bool.false_eq_true, if_false]
        have hApos : 0 < A.length := List.length_pos_of_mem ((hA.mem _).mpr (hom_null g1 g2))
        have hBpos : 0 < B.length := List.length_pos_of_mem ((hB.mem _).mpr (hom_null g2 g3))
        have hAf := hA.few
        have hBf := hB.few
        have hWf := hW.few
        have hrow : ∀ (A : List (List Nat)) k, k < A.length → (A.map rowX)[k]? = some (rowX (am A k)) := fun A k hk => by rw [List.getElem?_map, am_at hk]; rfl
        refine seq_cut (fun δ M6 => PS p M' M6 ∧ ∃ a1 a3 a4 a5 b4 b5 b6 b7 b8, δ = [some (.rol (ns.map D.int)), a1, some (.ref p), a3, a4, a5, some (tabD C n1 m1), some (tabD C n2 m2), some (tabD C n3 m3), some (.tup (A.map rowX)), some (.tup (B.map rowX)), some (.tup (W.map rowX)), b4, b5, b6, b7, b8]) (fun Nz hNz => ?_) ?_
        · (try simp only [dPar3, gdUnl, dFor_def, lc_def, lc2_def, dSet, dC, dVar, dIfS, dOr, dAnd, dNot, dTest, dTru, dBin, dUn, dCB, f1, f2, dCons, dNil, dRet, dRetN, dLstM, dLstI, dTup, dget, dset, dNext, dDrop, dBreak, dCont, dIf, dAndV, dOrV, dNotV, dChain, dPar, dAug, dAsg, gdName, gdTup, gdCons, gdNil, gdSub, dCall, dBM, dBMX, dSl, dNoPart, dPart, dNever, List.append_nil, dDisp1K, dDisp1T, dLstRg, dLstRgM, dTupRg, dRg1, dRg2, dTimesM, dNewK, dYes, mk_def, dFldSet, dISeq, dIRng1, dIRng2, dIRng3, dIEnum, dIZip, dwipe, dclr, fII, fIIc, fIB, fLt, fLe, fGt, fGe, fAdd, fSub, fMul, fDiv, fMod, fPow, fNeg, f1, f2, dstart, List.map, List.length, List.replicate, decide_eq_true_eq, if_true, if_false, Bool.false_eq_true, Bool.not_true, Bool.not_false, reduceIte])
          refine ⟨by decide, by decide, ?_⟩
          refine for_inv (fun i δ M6 => PS p M' M6 ∧ ∃ a1 a3 a4 a5 b4 b5 b6 b7 b8, δ = [some (.rol (ns.map D.int)), a1, some (.ref p), a3, a4, a5, some (tabD C n1 m1), some (tabD C n2 m2), some (tabD C n3 m3), some (.tup (A.map rowX)), some (.tup (B.map rowX)), some (.tup (W.map rowX)), b4, b5, b6, b7, b8]) ⟨hPS, _, _, _, _, _, _, _, _, _, rfl⟩ (fun i d0 δ M6 Nx3 hd hI hnx3 => ?_) (fun δ M' hI => ⟨trivial, hNz _ _ hI⟩)
          obtain ⟨hps, _, _, _, _, _, _, _, _, _, rfl⟩ := hI
          refine ⟨trivial, ?_⟩
          (first | rw [seq_def] | (simp only [gdName, dset]; rw [seq_def])); simp only [dPar3, gdUnl, dFor_def, lc_def, lc2_def, dSet, dC, dVar, dIfS, dOr, dAnd, dNot, dTest, dTru, dBin, dUn, dCB, f1, f2, dCons, dNil, dRet, dRetN, dLstM, dLstI, dTup, dget, dset, dNext, dDrop, dBreak, dCont, dIf, dAndV, dOrV, dNotV, dChain, dPar, dAug, dAsg, gdName, gdTup, gdCons, gdNil, gdSub, dCall, dBM, dBMX, dSl, dNoPart, dPart, dNever, List.append_nil, dDisp1K, dDisp1T, dLstRg, dLstRgM, dTupRg, dRg1, dRg2, dTimesM, dNewK, dYes, mk_def, dFldSet, dISeq, dIRng1, dIRng2, dIRng3, dIEnum, dIZip, dwipe, dclr, fII, fIIc, fIB, fLt, fLe, fGt, fGe, fAdd, fSub, fMul, fDiv, fMod, fPow, fNeg, f1, f2, dstart, List.map, List.length, List.replicate, decide_eq_true_eq, if_true, if_false, Bool.false_eq_true, Bool.not_true, Bool.not_false, reduceIte]
          refine len_rows ?_
          refine ⟨p, _, rfl, hps.pool, by omega, by omega, fun t M7 ht0 ht1 hps2 => ?_⟩
          obtain ⟨t, rfl⟩ := Int.eq_ofNat_of_zero_le ht0
          have ht : t < A.length := by omega
          refine ix_nat (k := t) (ds := A.map rowX) rfl (hrow A t ht) ?_
          refine len_rows ?_
          refine ⟨p, _, rfl, hps2.pool, by omega, by omega, fun u M8 hu0 hu1 hps3 => ?_⟩
          obtain ⟨u, rfl⟩ := Int.eq_ofNat_of_zero_le hu0
          have hu : u < B.length := by omega
          refine ix_nat (k := u) (ds := B.map rowX) rfl (hrow B u hu) ?_
          refine ⟨by decide, rfl, ?_⟩
          have hx := (hA.mem _).mp (am_mem ht)
          have hy := (hB.mem _).mp (am_mem hu)
          generalize am A t = x at hx
          generalize am B u = y at hy
          have hPS3 := (hps.trans hps2).trans hps3
          have hxl := hx.len
          have hyl := hy.len
          (try simp only [dPar3, gdUnl, dFor_def, lc_def, lc2_def, dSet, dC, dVar, dIfS, dOr, dAnd, dNot, dTest, dTru, dBin, dUn, dCB, f1, f2, dCons, dNil, dRet, dRetN, dLstM, dLstI, dTup, dget, dset, dNext, dDrop, dBreak, dCont, dIf, dAndV, dOrV, dNotV, dChain, dPar, dAug, dAsg, gdName, gdTup, gdCons, gdNil, gdSub, dCall, dBM, dBMX, dSl, dNoPart, dPart, dNever, List.append_nil, dDisp1K, dDisp1T, dLstRg, dLstRgM, dTupRg, dRg1, dRg2, dTimesM, dNewK, dYes, mk_def, dFldSet, dISeq, dIRng1, dIRng2, dIRng3, dIEnum, dIZip, dwipe, dclr, fII, fIIc, fIB, fLt, fLe, fGt, fGe, fAdd, fSub, fMul, fDiv, fMod, fPow, fNeg, f1, f2, dstart, List.map, List.length, List.replicate, decide_eq_true_eq, if_true, if_false, Bool.false_eq_true, Bool.not_true, Bool.not_false, reduceIte])
          rw [show ∀ M', seqD M' (rowX x) = some (nD x) from fun _ => rfl]
          dsimp only
          refine lc_map (fun k => .int (ap y (ap x k) : Nat)) rfl (by rw [nD_len]; omega) (fun k d Nx2 hd hn2 => ?_) ?_
          · obtain ⟨hk, rfl⟩ := nD_inv hd
            (try simp only [dPar3, gdUnl, dFor_def, lc_def, lc2_def, dSet, dC, dVar, dIfS, dOr, dAnd, dNot, dTest, dTru, dBin, dUn, dCB, f1, f2, dCons, dNil, dRet, dRetN, dLstM, dLstI, dTup, dget, dset, dNext, dDrop, dBreak, dCont, dIf, dAndV, dOrV, dNotV, dChain, dPar, dAug, dAsg, gdName, gdTup, gdCons, gdNil, gdSub, dCall, dBM, dBMX, dSl, dNoPart, dPart, dNever, List.append_nil, dDisp1K, dDisp1T, dLstRg, dLstRgM, dTupRg, dRg1, dRg2, dTimesM, dNewK, dYes, mk_def, dFldSet, dISeq, dIRng1, dIRng2, dIRng3, dIEnum, dIZip, dwipe, dclr, fII, fIIc, fIB, fLt, fLe, fGt, fGe, fAdd, fSub, fMul, fDiv, fMod, fPow, fNeg, f1, f2, dstart, List.map, List.length, List.replicate, decide_eq_true_eq, if_true, if_false, Bool.false_eq_true, Bool.not_true, Bool.not_false, reduceIte])
            exact ix_nD (l := y) rfl (by rw [hyl]; exact hx.lt k (by omega)) hn2
          have ecomp : (List.range (nD x).length).map (fun i => D.int (ap y (ap x i) : Nat)) = nD (comp x y) := by
            rw [nD_len]
            refine List.ext_getElem? fun i => ?_
            by_cases hi : i < x.length
            · rw [List.getElem?_map, List.getElem?_range hi, nD_at (by rw [comp_len]; exact hi), ap_comp hi]; rfl
            · rw [List.getElem?_eq_none (by rw [List.length_map, List.length_range]; omega), List.getElem?_eq_none (by rw [nD_len, comp_len]; omega)]
          rw [ecomp]
          refine gto ?_
          refine in_rows ((hW.mem _).mpr (hom_comp hx hy g1)) ?_
          simp only [Bool.false_eq_true, if_false]
          exact hnx3 _ _ ⟨hPS3, _, _, _, _, _, _, _, _, _, rfl⟩
        rintro δ M6 ⟨hps, _, _, _, _, _, _, _, _, _, rfl⟩
        (try simp only [dPar3, gdUnl, dFor_def, lc_def, lc2_def, dSet, dC, dVar, dIfS, dOr, dAnd, dNot, dTest, dTru, dBin, dUn, dCB, f1, f2, dCons, dNil, dRet, dRetN, dLstM, dLstI, dTup, dget, dset, dNext, dDrop, dBreak, dCont, dIf, dAndV, dOrV, dNotV, dChain, dPar, dAug, dAsg, gdName, gdTup, gdCons, gdNil, gdSub, dCall, dBM, dBMX, dSl, dNoPart, dPart, dNever, List.append_nil, dDisp1K, dDisp1T, dLstRg, dLstRgM, dTupRg, dRg1, dRg2, dTimesM, dNewK, dYes, mk_def, dFldSet, dISeq, dIRng1, dIRng2, dIRng3, dIEnum, dIZip, dwipe, dclr, fII, fIIc, fIB, fLt, fLe, fGt, fGe, fAdd, fSub, fMul, fDiv, fMod, fPow, fNeg, f1, f2, dstart, List.map, List.length, List.replicate, decide_eq_true_eq, if_true, if_false, Bool.false_eq_true, Bool.not_true, Bool.not_false, reduceIte])
        refine lenC_tab (by omega) ?_
        refine lenC_tab (by omega) ?_
        refine times_int (mul_small (by omega) (by omega)) ?_
        rw [show ((n2 : Nat) : Int) * ((n3 : Nat) : Int) = ((n2 * n3 : Nat) : Int) from (Int.natCast_mul n2 n3).symm]
        by_cases hle : n2 * n3 ≤ 12
        · have hle2 : ((n2 * n3 : Nat) : Int) ≤ 12 := by omega
          simp only [hle2, decide_true, if_true]
          refine ⟨n2, n3, m2, m3, rfl, g2, g3, by omega, ?_⟩
          refine ⟨n1, m1, n2 * n3, _, rfl, g1, by omega, prod_grp g2 g3, hle, fun X hX => ?_⟩
          refine len_rows ?_
          refine len_rows ?_
          refine len_rows ?_
          refine times_int (mul_small (by omega) (by omega)) ?_
          rw [show ((A.length : Nat) : Int) * ((W.length : Nat) : Int) = ((A.length * W.length : Nat) : Int) from (Int.natCast_mul _ _).symm]
          refine ne_int ?_
          rw [decide_eq_true (by rw [homs_prod g1 g2 g3 hA hW hX])]
          simp only [Bool.not_true, Bool.not_false, if_true, if_false, Bool.false_eq_true, decide_true, decide_false, reduceIte]
          exact hnx _ _ ⟨_, _, _, _, _, _, _, _, _, _, _, _, _, _, _, _, rfl⟩
        · have hle2 : ¬ ((n2 * n3 : Nat) : Int) ≤ 12 := by omega
          simp only [hle2, decide_false, if_false, Bool.false_eq_true]
          exact hnx _ _ ⟨_, _, _, _, _, _, _, _, _, _, _, _, _, _, _, _, rfl⟩
  · obtain ⟨_, _, _, _, _, _, _, _, _, _, _, _, _, _, _, _, rfl⟩ := hI
    exact ⟨trivial, fg (h M')⟩
end T73
end
section
set_option Elab.async false
set_option linter.all false
set_option maxRecDepth 100000
namespace T73
open DL PySem PySem.Spec PyProof.Rows L2 T74
def topS (i : Nat) : Stmt := PySem.Challenge.pw_movegroups_k73_whole_maps_by_images.main.body.getD i (.Pass ⟨0, 0, 0, 0⟩)
abbrev s_law_pool : Stmt := topS 38
theorem sc_law_pool : FnScope ["cell", "digits"] ["cell"] (defScope s_law_pool) := ⟨rfl, rfl, rfl, by decide +kernel, rfl, by decide +kernel, by decide +kernel⟩
abbrev s_law_cell : Stmt := topS 37
theorem sc_law_cell : FnScope ["script", "k", "state", "cell"] ["script", "k"] (defScope s_law_cell) := ⟨rfl, rfl, rfl, by decide +kernel, rfl, by decide +kernel, by decide +kernel⟩
abbrev s_is_number : Stmt := topS 8
theorem sc_is_number : FnScope ["thing", "most"] ["thing", "most"] (defScope s_is_number) := ⟨rfl, rfl, rfl, by decide +kernel, rfl, by decide +kernel, by decide +kernel⟩
abbrev s_has_form : Stmt := topS 9
theorem sc_has_form : FnScope ["lines", "line", "number"] ["lines"] (defScope s_has_form) := ⟨rfl, rfl, rfl, by decide +kernel, rfl, by decide +kernel, by decide +kernel⟩
abbrev s_first_neutral : Stmt := topS 10
theorem sc_first_neutral : FnScope ["lines", "one", "line"] ["lines"] (defScope s_first_neutral) := ⟨rfl, rfl, rfl, by decide +kernel, rfl, by decide +kernel, by decide +kernel⟩
abbrev s_first_back : Stmt := topS 11
theorem sc_first_back : FnScope ["lines", "one", "line"] ["lines"] (defScope s_first_back) := ⟨rfl, rfl, rfl, by decide +kernel, rfl, by decide +kernel, by decide +kernel⟩
abbrev s_first_threes : Stmt := topS 12
theorem sc_first_threes : FnScope ["lines", "one", "line", "other", "both", "whole", "beside", "third", "last"] ["lines"] (defScope s_first_threes) := ⟨rfl, rfl, rfl, by decide +kernel, rfl, by decide +kernel, by decide +kernel⟩
abbrev s_fault : Stmt := topS 13
theorem sc_fault : FnScope ["lines", "one", "three"] ["lines"] (defScope s_fault) := ⟨rfl, rfl, rfl, by decide +kernel, rfl, by decide +kernel, by decide +kernel⟩
abbrev s_table_init : Stmt := inClass (topS 14) 0
theorem sc_table_init : FnScope ["self", "lines", "wrong"] ["self", "lines"] (defScope s_table_init) := ⟨rfl, rfl, rfl, by decide +kernel, rfl, by decide +kernel, by decide +kernel⟩
abbrev s_law_take : Stmt := topS 39
theorem sc_law_take : FnScope ["pool", "many", "state", "digit"] ["pool", "many"] (defScope s_law_take) := ⟨rfl, rfl, rfl, by decide +kernel, rfl, by decide +kernel, by decide +kernel⟩
abbrev s_law_then : Stmt := topS 40
theorem sc_law_then : FnScope ["one", "other", "goal"] ["one", "other"] (defScope s_law_then) := ⟨rfl, rfl, rfl, by decide +kernel, rfl, by decide +kernel, by decide +kernel⟩
abbrev s_law_lines : Stmt := topS 43
theorem sc_law_lines : FnScope ["members", "ranks", "lines", "one", "k", "other"] ["members"] (defScope s_law_lines) := ⟨rfl, rfl, rfl, by decide +kernel, rfl, by decide +kernel, by decide +kernel⟩
abbrev s_law_move : Stmt := topS 41
theorem sc_law_move : FnScope ["pool", "points", "point", "images", "way", "other", "first", "last"] ["pool", "points"] (defScope s_law_move) := ⟨rfl, rfl, rfl, by decide +kernel, rfl, by decide +kernel, by decide +kernel⟩
abbrev s_law_members : Stmt := topS 42
theorem sc_law_members : FnScope ["points", "moves", "limit", "known", "waiting", "one", "move", "two"] ["points", "moves", "limit"] (defScope s_law_members) := ⟨rfl, rfl, rfl, by decide +kernel, rfl, by decide +kernel, by decide +kernel⟩
abbrev s_law_small : Stmt := topS 44
theorem sc_law_small : FnScope ["pool", "most", "points", "moves", "members", "k"] ["pool", "most"] (defScope s_law_small) := ⟨rfl, rfl, rfl, by decide +kernel, rfl, by decide +kernel, by decide +kernel⟩
abbrev s_law_round : Stmt := topS 46
theorem sc_law_round : FnScope ["many", "one", "other"] ["many"] (defScope s_law_round) := ⟨rfl, rfl, rfl, by decide +kernel, rfl, by decide +kernel, by decide +kernel⟩
abbrev s_law_product : Stmt := topS 45
theorem sc_law_product : FnScope ["one", "other", "first", "wide", "lines", "line", "second", "made"] ["one", "other"] (defScope s_law_product) := ⟨rfl, rfl, rfl, by decide +kernel, rfl, by decide +kernel, by decide +kernel⟩
abbrev s_law_turned : Stmt := topS 47
theorem sc_law_turned : FnScope ["lines", "row", "back_row", "member", "come", "one", "line", "other"] ["lines", "row"] (defScope s_law_turned) := ⟨rfl, rfl, rfl, by decide +kernel, rfl, by decide +kernel, by decide +kernel⟩
abbrev s_law_called : Stmt := topS 48
theorem sc_law_called : FnScope ["pool", "many", "row", "place", "other"] ["pool", "many"] (defScope s_law_called) := ⟨rfl, rfl, rfl, by decide +kernel, rfl, by decide +kernel, by decide +kernel⟩
abbrev s_law_group : Stmt := topS 49
theorem sc_law_group : FnScope ["pool", "most", "draw", "lines", "first"] ["pool", "most"] (defScope s_law_group) := ⟨rfl, rfl, rfl, by decide +kernel, rfl, by decide +kernel, by decide +kernel⟩
abbrev s_table_len : Stmt := inClass (topS 14) 2
theorem sc_table_len : FnScope ["self"] ["self"] (defScope s_table_len) := ⟨rfl, rfl, rfl, by decide +kernel, rfl, by decide +kernel, by decide +kernel⟩
abbrev s_check_table : Stmt := topS 15
theorem sc_check_table : FnScope ["thing"] ["thing"] (defScope s_check_table) := ⟨rfl, rfl, rfl, by decide +kernel, rfl, by decide +kernel, by decide +kernel⟩
abbrev s_is_whole : Stmt := topS 17
theorem sc_is_whole : FnScope ["thing"] ["thing"] (defScope s_is_whole) := ⟨rfl, rfl, rfl, by decide +kernel, rfl, by decide +kernel, by decide +kernel⟩
abbrev s_check_member : Stmt := topS 18
theorem sc_check_member : FnScope ["table", "thing"] ["table", "thing"] (defScope s_check_member) := ⟨rfl, rfl, rfl, by decide +kernel, rfl, by decide +kernel, by decide +kernel⟩
abbrev s_powers_of : Stmt := topS 22
theorem sc_powers_of : FnScope ["table", "one", "found", "last"] ["table", "one"] (defScope s_powers_of) := ⟨rfl, rfl, rfl, by decide +kernel, rfl, by decide +kernel, by decide +kernel⟩
abbrev s_order_of : Stmt := topS 23
theorem sc_order_of : FnScope ["table", "one"] ["table", "one"] (defScope s_order_of) := ⟨rfl, rfl, rfl, by decide +kernel, rfl, by decide +kernel, by decide +kernel⟩
abbrev s_check_small : Stmt := topS 32
theorem sc_check_small : FnScope ["table"] ["table"] (defScope s_check_small) := ⟨rfl, rfl, rfl, by decide +kernel, rfl, by decide +kernel, by decide +kernel⟩
abbrev s_spread : Stmt := topS 19
theorem sc_spread : FnScope ["table", "part", "known", "waiting", "one", "other", "made"] ["table", "part"] (defScope s_spread) := ⟨rfl, rfl, rfl, by decide +kernel, rfl, by decide +kernel, by decide +kernel⟩
abbrev s_leading_of : Stmt := topS 25
theorem sc_leading_of : FnScope ["table", "found", "reached", "one"] ["table"] (defScope s_leading_of) := ⟨rfl, rfl, rfl, by decide +kernel, rfl, by decide +kernel, by decide +kernel⟩
abbrev s_grown : Stmt := topS 29
theorem sc_grown : FnScope ["one", "other", "leads", "images", "known", "waiting", "member", "lead", "aim", "made", "goal"] ["one", "other", "leads", "images"] (defScope s_grown) := ⟨rfl, rfl, rfl, by decide +kernel, rfl, by decide +kernel, by decide +kernel⟩
abbrev s_all_grown : Stmt := topS 30
theorem sc_all_grown : FnScope ["one", "other", "leads", "choices", "rows", "place", "some", "longer", "row", "aim"] ["one", "other", "leads", "choices"] (defScope s_all_grown) := ⟨rfl, rfl, rfl, by decide +kernel, rfl, by decide +kernel, by decide +kernel⟩
abbrev s_homs_of : Stmt := topS 31
theorem sc_homs_of : FnScope ["one", "other", "leads", "found", "row", "known", "lead", "member"] ["one", "other"] (defScope s_homs_of) := ⟨rfl, rfl, rfl, by decide +kernel, rfl, by decide +kernel, by decide +kernel⟩
abbrev s_homs : Stmt := topS 33
theorem sc_homs : FnScope ["one", "other"] ["one", "other"] (defScope s_homs) := ⟨rfl, rfl, rfl, by decide +kernel, rfl, by decide +kernel, by decide +kernel⟩
abbrev s_leading : Stmt := topS 26
theorem sc_leading : FnScope ["table"] ["table"] (defScope s_leading) := ⟨rfl, rfl, rfl, by decide +kernel, rfl, by decide +kernel, by decide +kernel⟩
abbrev s_back_of : Stmt := topS 20
theorem sc_back_of : FnScope ["table", "one"] ["table", "one"] (defScope s_back_of) := ⟨rfl, rfl, rfl, by decide +kernel, rfl, by decide +kernel, by decide +kernel⟩
abbrev s_back : Stmt := topS 21
theorem sc_back : FnScope ["table", "one"] ["table", "one"] (defScope s_back) := ⟨rfl, rfl, rfl, by decide +kernel, rfl, by decide +kernel, by decide +kernel⟩
abbrev s_law_each_right : Stmt := topS 50
theorem sc_law_each_right : FnScope ["one", "other", "rows", "leads", "row", "member", "lead"] ["one", "other", "rows"] (defScope s_law_each_right) := ⟨rfl, rfl, rfl, by decide +kernel, rfl, by decide +kernel, by decide +kernel⟩
abbrev s_product : Stmt := topS 35
theorem sc_product : FnScope ["one", "other", "pairs", "lines", "many", "each", "number", "a", "b", "c", "d"] ["one", "other"] (defScope s_product) := ⟨rfl, rfl, rfl, by decide +kernel, rfl, by decide +kernel, by decide +kernel⟩
abbrev s_law : Stmt := topS 51
theorem sc_law : FnScope ["script", "k", "pool", "wide", "some", "turn", "one", "other", "third", "first", "second", "whole", "side", "member", "low", "high", "aim"] ["script"] (defScope s_law) := ⟨rfl, rfl, rfl, by decide +kernel, rfl, by decide +kernel, by decide +kernel⟩
structure Env (P : Program) (w : World) (K : PySem.W.Frag) (mg : Str → Option Value) (base : Heap) where
  a_law_pool : Addr
  d_law_pool : FuncData
  a_law_cell : Addr
  d_law_cell : FuncData
  a_is_number : Addr
  d_is_number : FuncData
  a_has_form : Addr
  d_has_form : FuncData
  a_first_neutral : Addr
  d_first_neutral : FuncData
  a_first_back : Addr
  d_first_back : FuncData
  a_first_threes : Addr
  d_first_threes : FuncData
  a_fault : Addr
  d_fault : FuncData
  a_table_init : Addr
  d_table_init : FuncData
  a_law_take : Addr
  d_law_take : FuncData
  a_law_then : Addr
  d_law_then : FuncData
  a_law_lines : Addr
  d_law_lines : FuncData
  a_law_move : Addr
  d_law_move : FuncData
  a_law_members : Addr
  d_law_members : FuncData
  a_law_small : Addr
  d_law_small : FuncData
  a_law_round : Addr
  d_law_round : FuncData
  a_law_product : Addr
  d_law_product : FuncData
  a_law_turned : Addr
  d_law_turned : FuncData
  a_law_called : Addr
  d_law_called : FuncData
  a_law_group : Addr
  d_law_group : FuncData
  a_table_len : Addr
  d_table_len : FuncData
  a_check_table : Addr
  d_check_table : FuncData
  a_is_whole : Addr
  d_is_whole : FuncData
  a_check_member : Addr
  d_check_member : FuncData
  a_powers_of : Addr
  d_powers_of : FuncData
  a_order_of : Addr
  d_order_of : FuncData
  a_check_small : Addr
  d_check_small : FuncData
  a_spread : Addr
  d_spread : FuncData
  a_leading_of : Addr
  d_leading_of : FuncData
  a_grown : Addr
  d_grown : FuncData
  a_all_grown : Addr
  d_all_grown : FuncData
  a_homs_of : Addr
  d_homs_of : FuncData
  a_homs : Addr
  d_homs : FuncData
  a_leading : Addr
  d_leading : FuncData
  a_back_of : Addr
  d_back_of : FuncData
  a_back : Addr
  d_back : FuncData
  a_law_each_right : Addr
  d_law_each_right : FuncData
  a_product : Addr
  d_product : FuncData
  a_law : Addr
  d_law : FuncData
  C_Table : Addr
  t_MOST_MAPPED : Tok
  t_MOST_MEMBERS : Tok
  F_law_pool : Fun K "_law_pool" "_law_pool" s_law_pool a_law_pool d_law_pool
  b_law_pool : Binds K d_law_pool ["cell"] []
  m_law_pool : mg "_law_pool" = some (.ref a_law_pool)
  F_law_cell : Fun K "_law_cell" "_law_cell" s_law_cell a_law_cell d_law_cell
  b_law_cell : Binds K d_law_cell ["script", "k"] []
  m_law_cell : mg "_law_cell" = some (.ref a_law_cell)
  F_is_number : Fun K "is_number" "is_number" s_is_number a_is_number d_is_number
  b_is_number : Binds K d_is_number ["thing", "most"] []
  m_is_number : mg "is_number" = some (.ref a_is_number)
  F_has_form : Fun K "has_form" "has_form" s_has_form a_has_form d_has_form
  b_has_form : Binds K d_has_form ["lines"] []
  m_has_form : mg "has_form" = some (.ref a_has_form)
  F_first_neutral : Fun K "first_neutral" "first_neutral" s_first_neutral a_first_neutral d_first_neutral
  b_first_neutral : Binds K d_first_neutral ["lines"] []
  m_first_neutral : mg "first_neutral" = some (.ref a_first_neutral)
  F_first_back : Fun K "first_back" "first_back" s_first_back a_first_back d_first_back
  b_first_back : Binds K d_first_back ["lines"] []
  m_first_back : mg "first_back" = some (.ref a_first_back)
  F_first_threes : Fun K "first_threes" "first_threes" s_first_threes a_first_threes d_first_threes
  b_first_threes : Binds K d_first_threes ["lines"] []
  m_first_threes : mg "first_threes" = some (.ref a_first_threes)
  F_fault : Fun K "fault" "fault" s_fault a_fault d_fault
  b_fault : Binds K d_fault ["lines"] []
  m_fault : mg "fault" = some (.ref a_fault)
  F_table_init : Fun K "__init__" "Table.__init__" s_table_init a_table_init d_table_init
  b_table_init : Binds K d_table_init ["self", "lines"] []
  F_law_take : Fun K "_law_take" "_law_take" s_law_take a_law_take d_law_take
  b_law_take : Binds K d_law_take ["pool", "many"] []
  m_law_take : mg "_law_take" = some (.ref a_law_take)
  F_law_then : Fun K "_law_then" "_law_then" s_law_then a_law_then d_law_then
  b_law_then : Binds K d_law_then ["one", "other"] []
  m_law_then : mg "_law_then" = some (.ref a_law_then)
  F_law_lines : Fun K "_law_lines" "_law_lines" s_law_lines a_law_lines d_law_lines
  b_law_lines : Binds K d_law_lines ["members"] []
  m_law_lines : mg "_law_lines" = some (.ref a_law_lines)
  F_law_move : Fun K "_law_move" "_law_move" s_law_move a_law_move d_law_move
  b_law_move : Binds K d_law_move ["pool", "points"] []
  m_law_move : mg "_law_move" = some (.ref a_law_move)
  F_law_members : Fun K "_law_members" "_law_members" s_law_members a_law_members d_law_members
  b_law_members : Binds K d_law_members ["points", "moves", "limit"] []
  m_law_members : mg "_law_members" = some (.ref a_law_members)
  F_law_small : Fun K "_law_small" "_law_small" s_law_small a_law_small d_law_small
  b_law_small : Binds K d_law_small ["pool", "most"] []
  m_law_small : mg "_law_small" = some (.ref a_law_small)
  F_law_round : Fun K "_law_round" "_law_round" s_law_round a_law_round d_law_round
  b_law_round : Binds K d_law_round ["many"] []
  m_law_round : mg "_law_round" = some (.ref a_law_round)
  F_law_product : Fun K "_law_product" "_law_product" s_law_product a_law_product d_law_product
  b_law_product : Binds K d_law_product ["one", "other"] []
  m_law_product : mg "_law_product" = some (.ref a_law_product)
  F_law_turned : Fun K "_law_turned" "_law_turned" s_law_turned a_law_turned d_law_turned
  b_law_turned : Binds K d_law_turned ["lines", "row"] []
  m_law_turned : mg "_law_turned" = some (.ref a_law_turned)
  F_law_called : Fun K "_law_called" "_law_called" s_law_called a_law_called d_law_called
  b_law_called : Binds K d_law_called ["pool", "many"] []
  m_law_called : mg "_law_called" = some (.ref a_law_called)
  F_law_group : Fun K "_law_group" "_law_group" s_law_group a_law_group d_law_group
  b_law_group : Binds K d_law_group ["pool", "most"] []
  m_law_group : mg "_law_group" = some (.ref a_law_group)
  F_table_len : Fun K "__len__" "Table.__len__" s_table_len a_table_len d_table_len
  b_table_len : Binds K d_table_len ["self"] []
  F_check_table : Fun K "check_table" "check_table" s_check_table a_check_table d_check_table
  b_check_table : Binds K d_check_table ["thing"] []
  m_check_table : mg "check_table" = some (.ref a_check_table)
  F_is_whole : Fun K "is_whole" "is_whole" s_is_whole a_is_whole d_is_whole
  b_is_whole : Binds K d_is_whole ["thing"] []
  m_is_whole : mg "is_whole" = some (.ref a_is_whole)
  F_check_member : Fun K "check_member" "check_member" s_check_member a_check_member d_check_member
  b_check_member : Binds K d_check_member ["table", "thing"] []
  m_check_member : mg "check_member" = some (.ref a_check_member)
  F_powers_of : Fun K "powers_of" "powers_of" s_powers_of a_powers_of d_powers_of
  b_powers_of : Binds K d_powers_of ["table", "one"] []
  m_powers_of : mg "powers_of" = some (.ref a_powers_of)
  F_order_of : Fun K "order_of" "order_of" s_order_of a_order_of d_order_of
  b_order_of : Binds K d_order_of ["table", "one"] []
  m_order_of : mg "order_of" = some (.ref a_order_of)
  F_check_small : Fun K "check_small" "check_small" s_check_small a_check_small d_check_small
  b_check_small : Binds K d_check_small ["table"] []
  m_check_small : mg "check_small" = some (.ref a_check_small)
  F_spread : Fun K "spread" "spread" s_spread a_spread d_spread
  b_spread : Binds K d_spread ["table", "part"] []
  m_spread : mg "spread" = some (.ref a_spread)
  F_leading_of : Fun K "leading_of" "leading_of" s_leading_of a_leading_of d_leading_of
  b_leading_of : Binds K d_leading_of ["table"] []
  m_leading_of : mg "leading_of" = some (.ref a_leading_of)
  F_grown : Fun K "grown" "grown" s_grown a_grown d_grown
  b_grown : Binds K d_grown ["one", "other", "leads", "images"] []
  m_grown : mg "grown" = some (.ref a_grown)
  F_all_grown : Fun K "all_grown" "all_grown" s_all_grown a_all_grown d_all_grown
  b_all_grown : Binds K d_all_grown ["one", "other", "leads", "choices"] []
  m_all_grown : mg "all_grown" = some (.ref a_all_grown)
  F_homs_of : Fun K "homs_of" "homs_of" s_homs_of a_homs_of d_homs_of
  b_homs_of : Binds K d_homs_of ["one", "other"] []
  m_homs_of : mg "homs_of" = some (.ref a_homs_of)
  F_homs : Fun K "homs" "homs" s_homs a_homs d_homs
  b_homs : Binds K d_homs ["one", "other"] []
  m_homs : mg "homs" = some (.ref a_homs)
  F_leading : Fun K "leading" "leading" s_leading a_leading d_leading
  b_leading : Binds K d_leading ["table"] []
  m_leading : mg "leading" = some (.ref a_leading)
  F_back_of : Fun K "back_of" "back_of" s_back_of a_back_of d_back_of
  b_back_of : Binds K d_back_of ["table", "one"] []
  m_back_of : mg "back_of" = some (.ref a_back_of)
  F_back : Fun K "back" "back" s_back a_back d_back
  b_back : Binds K d_back ["table", "one"] []
  m_back : mg "back" = some (.ref a_back)
  F_law_each_right : Fun K "_law_each_right" "_law_each_right" s_law_each_right a_law_each_right d_law_each_right
  b_law_each_right : Binds K d_law_each_right ["one", "other", "rows"] []
  m_law_each_right : mg "_law_each_right" = some (.ref a_law_each_right)
  F_product : Fun K "product" "product" s_product a_product d_product
  b_product : Binds K d_product ["one", "other"] []
  m_product : mg "product" = some (.ref a_product)
  F_law : Fun K "law" "law" s_law a_law d_law
  b_law : Binds K d_law ["script"] []
  m_law : mg "law" = some (.ref a_law)
  n_abs : mg "abs" = none
  n_all : mg "all" = none
  n_bool : mg "bool" = none
  n_dict : mg "dict" = none
  n_divmod : mg "divmod" = none
  n_enumerate : mg "enumerate" = none
  n_int : mg "int" = none
  n_isinstance : mg "isinstance" = none
  n_len : mg "len" = none
  n_list : mg "list" = none
  n_max : mg "max" = none
  n_min : mg "min" = none
  n_range : mg "range" = none
  n_set : mg "set" = none
  n_sorted : mg "sorted" = none
  n_tuple : mg "tuple" = none
  n_zip : mg "zip" = none
  c_MOST_MAPPED : mg "MOST_MAPPED" = some (.int 12 t_MOST_MAPPED)
  c_MOST_MEMBERS : mg "MOST_MEMBERS" = some (.int 48 t_MOST_MEMBERS)
  g_Table : mg "Table" = some (.ref C_Table)
  i_Table : ∀ C, C = C_Table → ICls K C
  f_Table_lines : ∀ C, C = C_Table → Cls K C ∧ NoAttr K C "lines"
  k_Table : Mk K C_Table a_table_init
  l_Table : PySem.W.findIn K (.ref C_Table) "__len__" = some (some (.ref a_table_len))
  lf_Table : PySem.W.isFn K (.ref a_table_len) = true
end T73
end
section
set_option Elab.async false
set_option linter.all false
set_option maxRecDepth 100000
set_option maxHeartbeats 4000000
namespace T73
open DL PySem PySem.Spec PyProof.Rows L2 T74
section
variable {P : Program} {w : World} {K : PySem.W.Frag} {mg : Str → Option Value} {base : Heap}
theorem k_law_pool (E : Env P w K mg base) : FnOk P w K mg base CX0 1 E.a_law_pool E.d_law_pool ["cell"] (liftSp K (sp_law_pool E.C_Table)) :=
  fn_okF E.F_law_pool sc_law_pool (hl_law_pool E.C_Table) fun cdv A outer s H Ex hr => ⟨r_law_pool , (qs_cons (qs_set (i := 1) sc_law_pool.nd rfl (by first | exact .inl rfl | exact .inr rfl) qe_int)
  (qs_cons (qs_if (qt_w (qw_or (qt_cmp op_lt od_IB (qv 0) qe_int (nomark _)) (qw_or1 (qt_cmp op_ge od_IB (qv 0) (qe_op op_pow od_IIc qe_int qe_int) (nomark _))))) (qs_one (qs_set (i := 1) sc_law_pool.nd rfl (by first | exact .inl rfl | exact .inr rfl) (qe_callB call_abs cd_abs (by rfl) E.n_abs bt_abs (qa_cons (qv 0) qa_nil)))) qs_nil)
  (qs_one (qs_ret (qe_lstM (qa_cons (qe_op op_mod od_IIc (qv 0) qe_int) (qa_cons (qv 1) (qa_cons qe_int qa_nil)))))))), ok_law_pool E.C_Table⟩
theorem k_law_cell (E : Env P w K mg base) : FnOk P w K mg base CX0 1 E.a_law_cell E.d_law_cell ["script", "k"] (liftSp K (sp_law_cell E.C_Table)) :=
  fn_okF E.F_law_cell sc_law_cell (hl_law_cell E.C_Table) fun cdv A outer s H Ex hr => ⟨r_law_cell , (qs_cons (qs_if (qt_cmp op_lt od_IB (qv 1) (qe_callB cr_len cd_len (by rfl) E.n_len bt_len (qa_cons (qv 0) qa_nil)) (nomark _)) (qs_one (qs_ret (qe_ix (hu1 hr) (qv 0) (qv 1) (fun _ _ => rfl)))) qs_nil)
  (qs_cons (qs_set (i := 2) sc_law_cell.nd rfl (by first | exact .inl rfl | exact .inr rfl) (qe_op op_mod od_IIc (qe_op or_times od_times qe_int (qe_op or_plus od_plus (qe_op or_plus od_plus (qe_op or_times od_times (qv 1) (qv 1)) (qe_op or_times od_times qe_int (qv 1))) qe_int)) qe_int))
  (qs_cons (qs_for PassesOwn.never rfl (qi_seq (qe_slice (qv 0) qo_none (qo_some qe_int))) (qg_name (i := 3) sc_law_cell.nd rfl (by first | exact .inl rfl | exact .inr rfl)) (qs_one (qs_set (i := 2) sc_law_cell.nd rfl (by first | exact .inl rfl | exact .inr rfl) (qe_op op_mod od_IIc (qe_op or_plus od_plus (qe_op or_times od_times (qv 2) qe_int) (qv 3)) qe_int))))
  (qs_one (qs_ret (qv 2)))))), ok_law_cell E.C_Table⟩
theorem k_is_number (E : Env P w K mg base) : FnOk P w K mg base CX0 1 E.a_is_number E.d_is_number ["thing", "most"] (liftSp K (sp_is_number E.C_Table)) :=
  fn_okF E.F_is_number sc_is_number (hl_is_number E.C_Table) fun cdv A outer s H Ex hr => ⟨r_is_number E.C_Table, (qs_one (qs_ret (qe_and (qe_callB call_isi (cd_isi E.i_Table) (by rfl) E.n_isinstance bt_isinstance (qa_cons (qv 0) (qa_cons (qe_type (by rfl) E.n_int bt_int) qa_nil))) (qe_and (qe_not (qe_callB call_isi (cd_isi E.i_Table) (by rfl) E.n_isinstance bt_isinstance (qa_cons (qv 0) (qa_cons (qe_type (by rfl) E.n_bool bt_bool) qa_nil)))) (qe_one (qe_chain op_le od_IB op_lt od_IB qe_int (qv 0) (qv 1))))))), ok_is_number E.C_Table⟩
theorem k_has_form (E : Env P w K mg base) : FnOk P w K mg base CX0 2 E.a_has_form E.d_has_form ["lines"] (liftSp K (sp_has_form E.C_Table)) :=
  fn_okF E.F_has_form sc_has_form (hl_has_form E.C_Table) fun cdv A outer s H Ex hr => ⟨r_has_form E.C_Table (sp_is_number E.C_Table), (qs_cons (qs_if (qt_w (qw_or (qt_not (qt_val (qe_callB call_isi (cd_isi E.i_Table) (by rfl) E.n_isinstance bt_isinstance (qa_cons (qv 0) (qa_cons (qe_type (by rfl) E.n_tuple bt_tuple) qa_nil))))) (qw_or1 (qt_not (qt_chain op_le od_IB op_le od_IB qe_int (qe_callB cr_len cd_len (by rfl) E.n_len bt_len (qa_cons (qv 0) qa_nil)) (qe_gint (by rfl) E.c_MOST_MEMBERS)))))) (qs_one (qs_ret qe_bl)) qs_nil)
  (qs_cons (qs_if (qt_not (qt_val (qe_callB (cr_all rfl) cd_all (by rfl) E.n_all bt_all (qa_cons (qe_lc rfl sc_has_form.nd (qi_seq (qv 0)) (own := [("line", 1)]) (blkOk_by (by kernel_rfl)) (fun _ _ _ _ _ => (pg_name (i := 1) sc_has_form.nd rfl (by first | exact .inl rfl | exact .inr rfl))) (gok_name (by decide)) (fun _ _ _ _ _ => qts_nil) (fun _ _ _ _ _ => (qe_and (qe_callB call_isi (cd_isi E.i_Table) (by rfl) E.n_isinstance bt_isinstance (qa_cons (qv 1) (qa_cons (qe_type (by rfl) E.n_tuple bt_tuple) qa_nil))) (qe_one (qe_cmp (or_eq (hu64 hr)) od_eq (qe_callB cr_len cd_len (by rfl) E.n_len bt_len (qa_cons (qv 1) qa_nil)) (qe_callB cr_len cd_len (by rfl) E.n_len bt_len (qa_cons (qv 0) qa_nil)) (nomark _)))))) qa_nil)))) (qs_one (qs_ret qe_bl)) qs_nil)
  (qs_one (qs_ret (qe_callB (cr_all rfl) cd_all (by rfl) E.n_all bt_all (qa_cons (qe_lc2 rfl sc_has_form.nd (qi_seq (qv 0)) (own := [("line", 1), ("number", 2)]) (vs1 := [2]) (blkOk_by (by kernel_rfl)) (by decide) (fun _ _ _ _ _ => (pg_name (i := 1) sc_has_form.nd rfl (by first | exact .inl rfl | exact .inr rfl))) (gok_name (by decide)) (fun _ _ _ _ _ => qts_nil) (fun _ _ _ _ _ => (qi_seq (qv 1))) (fun _ _ _ _ _ => (pg_name (i := 2) sc_has_form.nd rfl (by first | exact .inl rfl | exact .inr rfl))) (gok_name (by decide)) (fun _ _ _ _ _ => qts_nil) (fun _ _ _ _ _ => (qe_call (k_is_number E) (hr.mono (by decide)) (by rfl) E.m_is_number E.F_is_number.kp E.b_is_number .nil (fun _ => .nil) pass0 (qa_cons (qv 2) (qa_cons (qe_callB cr_len cd_len (by rfl) E.n_len bt_len (qa_cons (qv 0) qa_nil)) qa_nil))))) qa_nil)))))), ok_has_form E.C_Table⟩
theorem k_first_neutral (E : Env P w K mg base) : FnOk P w K mg base CX0 1 E.a_first_neutral E.d_first_neutral ["lines"] (liftSp K (sp_first_neutral E.C_Table)) :=
  fn_okF E.F_first_neutral sc_first_neutral (hl_first_neutral E.C_Table) fun cdv A outer s H Ex hr => ⟨r_first_neutral , (qs_cons (qs_for PassesOwn.never rfl (qi_enum (by rfl) E.n_enumerate (qa_cons (qv 0) qa_nil)) (qg_tup rfl (qgs_cons (qg_name (i := 1) sc_first_neutral.nd rfl (by first | exact .inl rfl | exact .inr rfl)) (qgs_cons (qg_name (i := 2) sc_first_neutral.nd rfl (by first | exact .inl rfl | exact .inr rfl)) qgs_nil))) (qs_one (qs_if (qt_w (qw_or (qt_cmp (or_ne (hu64 hr)) od_ne (qe_ix (hu1 hr) (qv 2) qe_int (fun _ _ => rfl)) (qv 1) (nomark _)) (qw_or1 (qt_cmp (or_ne (hu64 hr)) od_ne (qe_ix (hu1 hr) (qe_ix (hu1 hr) (qv 0) qe_int (fun _ _ => rfl)) (qv 1) (fun _ _ => rfl)) (qv 1) (nomark _))))) (qs_one (qs_ret (qv 1))) qs_nil)))
  (qs_one (qs_ret qe_non))), ok_first_neutral E.C_Table⟩
theorem k_first_back (E : Env P w K mg base) : FnOk P w K mg base CX0 1 E.a_first_back E.d_first_back ["lines"] (liftSp K (sp_first_back E.C_Table)) :=
  fn_okF E.F_first_back sc_first_back (hl_first_back E.C_Table) fun cdv A outer s H Ex hr => ⟨r_first_back , (qs_cons (qs_for PassesOwn.never rfl (qi_enum (by rfl) E.n_enumerate (qa_cons (qv 0) qa_nil)) (qg_tup rfl (qgs_cons (qg_name (i := 1) sc_first_back.nd rfl (by first | exact .inl rfl | exact .inr rfl)) (qgs_cons (qg_name (i := 2) sc_first_back.nd rfl (by first | exact .inl rfl | exact .inr rfl)) qgs_nil))) (qs_one (qs_if (qt_cmp (or_notIn (hu65 hr)) od_notIn qe_int (qv 2) (by rfl)) (qs_one (qs_ret (qv 1))) qs_nil)))
  (qs_one (qs_ret qe_non))), ok_first_back E.C_Table⟩
theorem k_first_threes (E : Env P w K mg base) : FnOk P w K mg base CX0 1 E.a_first_threes E.d_first_threes ["lines"] (liftSp K (sp_first_threes E.C_Table)) :=
  fn_okF E.F_first_threes sc_first_threes (hl_first_threes E.C_Table) fun cdv A outer s H Ex hr => ⟨r_first_threes , (qs_cons (qs_for PassesOwn.never rfl (qi_enum (by rfl) E.n_enumerate (qa_cons (qv 0) qa_nil)) (qg_tup rfl (qgs_cons (qg_name (i := 1) sc_first_threes.nd rfl (by first | exact .inl rfl | exact .inr rfl)) (qgs_cons (qg_name (i := 2) sc_first_threes.nd rfl (by first | exact .inl rfl | exact .inr rfl)) qgs_nil))) (qs_one (qs_for PassesOwn.never rfl (qi_enum (by rfl) E.n_enumerate (qa_cons (qv 2) qa_nil)) (qg_tup rfl (qgs_cons (qg_name (i := 3) sc_first_threes.nd rfl (by first | exact .inl rfl | exact .inr rfl)) (qgs_cons (qg_name (i := 4) sc_first_threes.nd rfl (by first | exact .inl rfl | exact .inr rfl)) qgs_nil))) (qs_cons (qs_par (i := 5) (j := 6) rfl sc_first_threes.nd rfl rfl (by decide) rfl rfl (qa_cons (qe_ix (hu1 hr) (qv 0) (qv 4) (fun _ _ => rfl)) (qa_cons (qe_ix (hu1 hr) (qv 0) (qv 3) (fun _ _ => rfl)) qa_nil)) (by rfl))
  (qs_one (qs_for PassesOwn.never rfl (qi_enum (by rfl) E.n_enumerate (qa_cons (qv 6) qa_nil)) (qg_tup rfl (qgs_cons (qg_name (i := 7) sc_first_threes.nd rfl (by first | exact .inl rfl | exact .inr rfl)) (qgs_cons (qg_name (i := 8) sc_first_threes.nd rfl (by first | exact .inl rfl | exact .inr rfl)) qgs_nil))) (qs_one (qs_if (qt_cmp (or_ne (hu64 hr)) od_ne (qe_ix (hu1 hr) (qv 5) (qv 7) (fun _ _ => rfl)) (qe_ix (hu1 hr) (qv 2) (qv 8) (fun _ _ => rfl)) (nomark _)) (qs_one (qs_ret (qe_tup (qa_cons (qv 1) (qa_cons (qv 3) (qa_cons (qv 7) qa_nil)))))) qs_nil))))))))
  (qs_one (qs_ret qe_non))), ok_first_threes E.C_Table⟩
theorem k_fault (E : Env P w K mg base) : FnOk P w K mg base CX0 3 E.a_fault E.d_fault ["lines"] (liftSp K (sp_fault E.C_Table)) :=
  fn_okF E.F_fault sc_fault (hl_fault E.C_Table) fun cdv A outer s H Ex hr => ⟨r_fault (sp_has_form E.C_Table) (sp_first_neutral E.C_Table) (sp_first_back E.C_Table) (sp_first_threes E.C_Table), (qs_cons (qs_if (qt_not (qt_val (qe_call (k_has_form E) (hr.mono (by decide)) (by rfl) E.m_has_form E.F_has_form.kp E.b_has_form .nil (fun _ => .nil) pass0 (qa_cons (qv 0) qa_nil)))) (qs_one (qs_ret (qe_tup (qa_cons qe_str qa_nil)))) qs_nil)
  (qs_cons (qs_set (i := 1) sc_fault.nd rfl (by first | exact .inl rfl | exact .inr rfl) (qe_call (k_first_neutral E) (hr.mono (by decide)) (by rfl) E.m_first_neutral E.F_first_neutral.kp E.b_first_neutral .nil (fun _ => .nil) pass0 (qa_cons (qv 0) qa_nil)))
  (qs_cons (qs_if (qt_cmp op_notN od_notN (qv 1) qe_non (nomark _)) (qs_one (qs_ret (qe_tup (qa_cons qe_str (qa_cons (qv 1) qa_nil))))) qs_nil)
  (qs_cons (qs_set (i := 1) sc_fault.nd rfl (by first | exact .inl rfl | exact .inr rfl) (qe_call (k_first_back E) (hr.mono (by decide)) (by rfl) E.m_first_back E.F_first_back.kp E.b_first_back .nil (fun _ => .nil) pass0 (qa_cons (qv 0) qa_nil)))
  (qs_cons (qs_if (qt_cmp op_notN od_notN (qv 1) qe_non (nomark _)) (qs_one (qs_ret (qe_tup (qa_cons qe_str (qa_cons (qv 1) qa_nil))))) qs_nil)
  (qs_cons (qs_set (i := 2) sc_fault.nd rfl (by first | exact .inl rfl | exact .inr rfl) (qe_call (k_first_threes E) (hr.mono (by decide)) (by rfl) E.m_first_threes E.F_first_threes.kp E.b_first_threes .nil (fun _ => .nil) pass0 (qa_cons (qv 0) qa_nil)))
  (qs_one (qs_ret (qe_if (qt_cmp op_isN od_isN (qv 2) qe_non (nomark _)) qe_non (qe_op or_plus od_plus (qe_tup (qa_cons qe_str qa_nil)) (qv 2))))))))))), ok_fault E.C_Table⟩
theorem k_table_init (E : Env P w K mg base) : FnOk P w K mg base CX0 4 E.a_table_init E.d_table_init ["self", "lines"] (liftSp K (sp_table_init E.C_Table)) :=
  fn_okF E.F_table_init sc_table_init (hl_table_init E.C_Table) fun cdv A outer s H Ex hr => ⟨r_table_init E.C_Table (sp_fault E.C_Table), (qs_cons (qs_set (i := 2) sc_table_init.nd rfl (by first | exact .inl rfl | exact .inr rfl) (qe_call (k_fault E) (hr.mono (by decide)) (by rfl) E.m_fault E.F_fault.kp E.b_fault .nil (fun _ => .nil) pass0 (qa_cons (qv 1) qa_nil)))
  (qs_cons (qs_if (qt_cmp op_notN od_notN (qv 2) qe_non (nomark _)) (qs_one qs_never) qs_nil)
  (qs_one (qs_fld E.f_Table_lines (qv 0) (qv 1))))), ok_table_init E.C_Table⟩
theorem k_law_take (E : Env P w K mg base) : FnOk P w K mg base CX0 1 E.a_law_take E.d_law_take ["pool", "many"] (liftSp K (sp_law_take E.C_Table)) :=
  fn_okF E.F_law_take sc_law_take (hl_law_take E.C_Table) fun cdv A outer s H Ex hr => ⟨r_law_take , (qs_cons (qs_asg (qe_op or_plus od_plus (qe_ix (hu1 hr) (qv 0) qe_int (fun _ _ => rfl)) qe_int) (qg_sub (hu1 hr) (qv 0) qe_int))
  (qs_cons (qs_set (i := 2) sc_law_take.nd rfl (by first | exact .inl rfl | exact .inr rfl) (qe_ix (hu1 hr) (qv 0) qe_int (fun _ _ => rfl)))
  (qs_cons (qs_asg (qe_op op_mod od_IIc (qe_op or_plus od_plus (qe_op or_times od_times (qv 2) (qe_op or_plus od_plus (qe_op op_mod od_IIc (qv 2) qe_int) qe_int)) (qe_op or_times od_times qe_int (qe_ix (hu1 hr) (qv 0) qe_int (fun _ _ => rfl)))) qe_int) (qg_sub (hu1 hr) (qv 0) qe_int))
  (qs_cons (qs_if (qt_cmp op_gt od_IB (qe_ix (hu1 hr) (qv 0) qe_int (fun _ _ => rfl)) qe_int (nomark _)) (qs_cons (qs_asg (qe_callB call_divmod cd_divmod (by rfl) E.n_divmod bt_divmod (qa_cons (qe_ix (hu1 hr) (qv 0) qe_int (fun _ _ => rfl)) (qa_cons (qv 1) qa_nil))) (qg_tup rfl (qgs_cons (qg_sub (hu1 hr) (qv 0) qe_int) (qgs_cons (qg_name (i := 3) sc_law_take.nd rfl (by first | exact .inl rfl | exact .inr rfl)) qgs_nil))))
  (qs_one (qs_ret (qv 3)))) qs_nil)
  (qs_one (qs_ret (qe_op op_mod od_IIc (qe_op op_dv od_IIc (qe_ix (hu1 hr) (qv 0) qe_int (fun _ _ => rfl)) qe_int) (qv 1)))))))), ok_law_take E.C_Table⟩
theorem k_law_then (E : Env P w K mg base) : FnOk P w K mg base CX0 1 E.a_law_then E.d_law_then ["one", "other"] (liftSp K (sp_law_then E.C_Table)) :=
  fn_okF E.F_law_then sc_law_then (hl_law_then E.C_Table) fun cdv A outer s H Ex hr => ⟨r_law_then , (qs_one (qs_ret (qe_callTy call_tuple_of cd_tupOf (by rfl) E.n_tuple bt_tuple (qa_cons (qe_lc rfl sc_law_then.nd (qi_seq (qv 0)) (own := [("goal", 2)]) (blkOk_by (by kernel_rfl)) (fun _ _ _ _ _ => (pg_name (i := 2) sc_law_then.nd rfl (by first | exact .inl rfl | exact .inr rfl))) (gok_name (by decide)) (fun _ _ _ _ _ => qts_nil) (fun _ _ _ _ _ => (qe_ix (hu1 hr) (qv 1) (qv 2) (fun _ _ => rfl)))) qa_nil)))), ok_law_then E.C_Table⟩
theorem k_law_lines (E : Env P w K mg base) : FnOk P w K mg base CX0 2 E.a_law_lines E.d_law_lines ["members"] (liftSp K (sp_law_lines E.C_Table)) :=
  fn_okF E.F_law_lines sc_law_lines (hl_law_lines E.C_Table) fun cdv A outer s H Ex hr => ⟨r_law_lines (sp_law_then E.C_Table), (qs_cons (qs_set (i := 1) sc_law_lines.nd rfl (by first | exact .inl rfl | exact .inr rfl) (qe_callTy (call_dictT rfl (hu2 hr)) cd_dictT (by rfl) E.n_dict bt_dict (qa_cons (qe_lc rfl sc_law_lines.nd (qi_rng1 (by rfl) E.n_range (qa_cons (qe_callB cr_len cd_len (by rfl) E.n_len bt_len (qa_cons (qv 0) qa_nil)) qa_nil)) (own := [("k", 4)]) (blkOk_by (by kernel_rfl)) (fun _ _ _ _ _ => (pg_name (i := 4) sc_law_lines.nd rfl (by first | exact .inl rfl | exact .inr rfl))) (gok_name (by decide)) (fun _ _ _ _ _ => qts_nil) (fun _ _ _ _ _ => (qe_tup (qa_cons (qe_ix (hu1 hr) (qv 0) (qv 4) (fun _ _ => rfl)) (qa_cons (qv 4) qa_nil))))) qa_nil)))
  (qs_cons (qs_set (i := 2) sc_law_lines.nd rfl (by first | exact .inl rfl | exact .inr rfl) (qe_lstM qa_nil))
  (qs_cons (qs_for PassesOwn.never rfl (qi_seq (qv 0)) (qg_name (i := 3) sc_law_lines.nd rfl (by first | exact .inl rfl | exact .inr rfl)) (qs_one (qs_expr (qe_bm PySem.F.plainAttrs_list PySem.F.slot_list_append PySem.F.type_list_append mt_append md_append (qv 2) (qa_cons (qe_callTy call_tupX cd_tupX (by rfl) E.n_tuple bt_tuple (qa_cons (qe_lc rfl sc_law_lines.nd (qi_seq (qv 0)) (own := [("other", 5)]) (blkOk_by (by kernel_rfl)) (fun _ _ _ _ _ => (pg_name (i := 5) sc_law_lines.nd rfl (by first | exact .inl rfl | exact .inr rfl))) (gok_name (by decide)) (fun _ _ _ _ _ => qts_nil) (fun _ _ _ _ _ => (qe_ix (hu1 hr) (qv 1) (qe_call (k_law_then E) (hr.mono (by decide)) (by rfl) E.m_law_then E.F_law_then.kp E.b_law_then .nil (fun _ => .nil) pass0 (qa_cons (qv 3) (qa_cons (qv 5) qa_nil))) (fun _ _ => rfl)))) qa_nil)) qa_nil)))))
  (qs_one (qs_ret (qe_callTy call_tupX cd_tupX (by rfl) E.n_tuple bt_tuple (qa_cons (qv 2) qa_nil))))))), ok_law_lines E.C_Table⟩
theorem k_law_move (E : Env P w K mg base) : FnOk P w K mg base CX0 2 E.a_law_move E.d_law_move ["pool", "points"] (liftSp K (sp_law_move E.C_Table)) :=
  fn_okF E.F_law_move sc_law_move (hl_law_move E.C_Table) fun cdv A outer s H Ex hr => ⟨r_law_move (sp_law_take E.C_Table), (qs_cons (qs_asg (qe_tup (qa_cons (qe_lstRgM rfl (by rfl) E.n_list (qrg_1 (by rfl) E.n_range (qv 1))) (qa_cons (qe_call (k_law_take E) (hr.mono (by decide)) (by rfl) E.m_law_take E.F_law_take.kp E.b_law_take .nil (fun _ => .nil) pass0 (qa_cons (qv 0) (qa_cons qe_int qa_nil))) qa_nil))) (qg_tup rfl (qgs_cons (qg_name (i := 3) sc_law_move.nd rfl (by first | exact .inl rfl | exact .inr rfl)) (qgs_cons (qg_name (i := 4) sc_law_move.nd rfl (by first | exact .inl rfl | exact .inr rfl)) qgs_nil))))
  (qs_cons (qs_if (qt_w (qw_or (qt_cmp (or_eq (hu64 hr)) od_eq (qv 4) qe_int (nomark _)) (qw_or1 (qt_cmp (or_eq (hu64 hr)) od_eq (qv 1) qe_int (nomark _))))) (qs_one (qs_ret (qe_callTy call_tuple_of cd_tupOf (by rfl) E.n_tuple bt_tuple (qa_cons (qv 3) qa_nil)))) qs_nil)
  (qs_cons (qs_if (qt_cmp op_lt od_IB (qv 4) qe_int (nomark _)) (qs_cons (qs_par (i := 6) (j := 7) rfl sc_law_move.nd rfl rfl (by decide) rfl rfl (qa_cons (qe_call (k_law_take E) (hr.mono (by decide)) (by rfl) E.m_law_take E.F_law_take.kp E.b_law_take .nil (fun _ => .nil) pass0 (qa_cons (qv 0) (qa_cons (qv 1) qa_nil))) (qa_cons (qe_call (k_law_take E) (hr.mono (by decide)) (by rfl) E.m_law_take E.F_law_take.kp E.b_law_take .nil (fun _ => .nil) pass0 (qa_cons (qv 0) (qa_cons (qv 1) qa_nil))) qa_nil)) (by rfl))
  (qs_cons (qs_asg (qe_tup (qa_cons (qe_ix (hu1 hr) (qv 3) (qv 7) (fun _ _ => rfl)) (qa_cons (qe_ix (hu1 hr) (qv 3) (qv 6) (fun _ _ => rfl)) qa_nil))) (qg_tup rfl (qgs_cons (qg_sub (hu1 hr) (qv 3) (qv 6)) (qgs_cons (qg_sub (hu1 hr) (qv 3) (qv 7)) qgs_nil))))
  (qs_one (qs_ret (qe_callTy call_tuple_of cd_tupOf (by rfl) E.n_tuple bt_tuple (qa_cons (qv 3) qa_nil)))))) qs_nil)
  (qs_cons (qs_for PassesOwn.never rfl (qi_rng3 (by rfl) E.n_range (qa_cons (qe_op op_sub od_II (qv 1) qe_int) (qa_cons qe_int (qa_cons (qe_un un_neg ud_neg qe_int) qa_nil)))) (qg_name (i := 2) sc_law_move.nd rfl (by first | exact .inl rfl | exact .inr rfl)) (qs_cons (qs_set (i := 5) sc_law_move.nd rfl (by first | exact .inl rfl | exact .inr rfl) (qe_call (k_law_take E) (hr.mono (by decide)) (by rfl) E.m_law_take E.F_law_take.kp E.b_law_take .nil (fun _ => .nil) pass0 (qa_cons (qv 0) (qa_cons (qe_op or_plus od_plus (qv 2) qe_int) qa_nil))))
  (qs_one (qs_asg (qe_tup (qa_cons (qe_ix (hu1 hr) (qv 3) (qv 5) (fun _ _ => rfl)) (qa_cons (qe_ix (hu1 hr) (qv 3) (qv 2) (fun _ _ => rfl)) qa_nil))) (qg_tup rfl (qgs_cons (qg_sub (hu1 hr) (qv 3) (qv 2)) (qgs_cons (qg_sub (hu1 hr) (qv 3) (qv 5)) qgs_nil)))))))
  (qs_cons (qs_if (qt_cmp (or_eq (hu64 hr)) od_eq (qv 4) qe_int (nomark _)) (qs_one (qs_ret (qe_callTy call_tuple_of cd_tupOf (by rfl) E.n_tuple bt_tuple (qa_cons (qe_lc rfl sc_law_move.nd (qi_rng1 (by rfl) E.n_range (qa_cons (qv 1) qa_nil)) (own := [("point", 2)]) (blkOk_by (by kernel_rfl)) (fun _ _ _ _ _ => (pg_name (i := 2) sc_law_move.nd rfl (by first | exact .inl rfl | exact .inr rfl))) (gok_name (by decide)) (fun _ _ _ _ _ => qts_nil) (fun _ _ _ _ _ => (qe_ix (hu1 hr) (qv 3) (qe_op op_mod od_IIc (qe_op or_plus od_plus (qe_bm PySem.F.plainAttrs_list PySem.F.slot_list_index PySem.F.type_list_index mt_index md_lstIdx (qv 3) (qa_cons (qv 2) qa_nil)) qe_int) (qv 1)) (fun _ _ => rfl)))) qa_nil)))) qs_nil)
  (qs_one (qs_ret (qe_callTy call_tuple_of cd_tupOf (by rfl) E.n_tuple bt_tuple (qa_cons (qv 3) qa_nil))))))))), ok_law_move E.C_Table⟩
theorem k_law_members (E : Env P w K mg base) : FnOk P w K mg base CX0 2 E.a_law_members E.d_law_members ["points", "moves", "limit"] (liftSp K (sp_law_members E.C_Table)) :=
  fn_okF E.F_law_members sc_law_members (hl_law_members E.C_Table) fun cdv A outer s H Ex hr => ⟨r_law_members (sp_law_then E.C_Table), (qs_cons (qs_par (i := 3) (j := 4) rfl sc_law_members.nd rfl rfl (by decide) rfl rfl (qa_cons (qe_disp1T (hu1 hr) (qe_tupRg rfl (by rfl) E.n_tuple (qrg_1 (by rfl) E.n_range (qv 0))) qe_bl) (qa_cons (qe_lstM (qa_cons (qe_tupRg rfl (by rfl) E.n_tuple (qrg_1 (by rfl) E.n_range (qv 0))) qa_nil)) qa_nil)) (by rfl))
  (qs_cons (qs_while PassesOwn.never (qt_cmp (or_ne (hu64 hr)) od_ne (qv 4) (qe_lstI qa_nil) (nomark _)) (qs_cons (qs_set (i := 5) sc_law_members.nd rfl (by first | exact .inl rfl | exact .inr rfl) (qe_bm0 PySem.F.plainAttrs_list PySem.F.slot_list_pop PySem.F.type_list_pop mt_pop md_pop (qv 4)))
  (qs_cons (qs_for PassesOwn.never rfl (qi_seq (qv 1)) (qg_name (i := 6) sc_law_members.nd rfl (by first | exact .inl rfl | exact .inr rfl)) (qs_cons (qs_set (i := 7) sc_law_members.nd rfl (by first | exact .inl rfl | exact .inr rfl) (qe_call (k_law_then E) (hr.mono (by decide)) (by rfl) E.m_law_then E.F_law_then.kp E.b_law_then .nil (fun _ => .nil) pass0 (qa_cons (qv 5) (qa_cons (qv 6) qa_nil))))
  (qs_one (qs_if (qt_cmp (or_notIn (hu65 hr)) od_notIn (qv 7) (qv 3) (by rfl)) (qs_cons (qs_asg qe_bl (qg_sub (hu1 hr) (qv 3) (qv 7)))
  (qs_one (qs_expr (qe_bm PySem.F.plainAttrs_list PySem.F.slot_list_append PySem.F.type_list_append mt_append md_append (qv 4) (qa_cons (qv 7) qa_nil))))) qs_nil))))
  (qs_one (qs_if (qt_cmp op_gt od_IB (qe_callB cr_len cd_len (by rfl) E.n_len bt_len (qa_cons (qv 3) qa_nil)) (qv 2) (nomark _)) (qs_one (qs_ret qe_non)) qs_nil)))))
  (qs_one (qs_ret (qe_callB (call_sortedDT rfl) cd_sortT (by rfl) E.n_sorted bt_sorted (qa_cons (qv 3) qa_nil)))))), ok_law_members E.C_Table⟩
theorem k_law_small (E : Env P w K mg base) : FnOk P w K mg base CX0 3 E.a_law_small E.d_law_small ["pool", "most"] (liftSp K (sp_law_small E.C_Table)) :=
  fn_okF E.F_law_small sc_law_small (hl_law_small E.C_Table) fun cdv A outer s H Ex hr => ⟨r_law_small (sp_law_take E.C_Table) (sp_law_move E.C_Table) (sp_law_members E.C_Table), (qs_cons (qs_set (i := 2) sc_law_small.nd rfl (by first | exact .inl rfl | exact .inr rfl) (qe_op or_plus od_plus qe_int (qe_call (k_law_take E) (hr.mono (by decide)) (by rfl) E.m_law_take E.F_law_take.kp E.b_law_take .nil (fun _ => .nil) pass0 (qa_cons (qv 0) (qa_cons qe_int qa_nil)))))
  (qs_cons (qs_setLc (i := 3) rfl sc_law_small.nd rfl rfl (sw_true rfl rfl rfl (by rfl)) (qi_rng1 (by rfl) E.n_range (qa_cons (qe_call (k_law_take E) (hr.mono (by decide)) (by rfl) E.m_law_take E.F_law_take.kp E.b_law_take .nil (fun _ => .nil) pass0 (qa_cons (qv 0) (qa_cons qe_int qa_nil))) qa_nil)) (own := [("k", 5)]) (blkOk_by (by kernel_rfl)) (fun _ _ _ _ _ => (pg_name (i := 5) sc_law_small.nd rfl (by first | exact .inl rfl | exact .inr rfl))) (gok_name (by decide)) (fun _ _ _ _ _ => qts_nil) (fun _ _ _ _ _ => (qe_call (k_law_move E) (hr.mono (by decide)) (by rfl) E.m_law_move E.F_law_move.kp E.b_law_move .nil (fun _ => .nil) pass0 (qa_cons (qv 0) (qa_cons (qv 2) qa_nil)))))
  (qs_cons (qs_set (i := 4) sc_law_small.nd rfl (by first | exact .inl rfl | exact .inr rfl) (qe_call (k_law_members E) (hr.mono (by decide)) (by rfl) E.m_law_members E.F_law_members.kp E.b_law_members .nil (fun _ => .nil) pass0 (qa_cons (qv 2) (qa_cons (qv 3) (qa_cons (qv 1) qa_nil)))))
  (qs_cons (qs_while PassesOwn.never (qt_cmp op_isN od_isN (qv 4) qe_non (nomark _)) (qs_cons (qs_set (i := 3) sc_law_small.nd rfl (by first | exact .inl rfl | exact .inr rfl) (qe_slice (qv 3) (qo_some qe_int) qo_none))
  (qs_one (qs_set (i := 4) sc_law_small.nd rfl (by first | exact .inl rfl | exact .inr rfl) (qe_call (k_law_members E) (hr.mono (by decide)) (by rfl) E.m_law_members E.F_law_members.kp E.b_law_members .nil (fun _ => .nil) pass0 (qa_cons (qv 2) (qa_cons (qv 3) (qa_cons (qv 1) qa_nil))))))))
  (qs_one (qs_ret (qv 4))))))), ok_law_small E.C_Table⟩
theorem k_law_round (E : Env P w K mg base) : FnOk P w K mg base CX0 1 E.a_law_round E.d_law_round ["many"] (liftSp K (sp_law_round E.C_Table)) :=
  fn_okF E.F_law_round sc_law_round (hl_law_round E.C_Table) fun cdv A outer s H Ex hr => ⟨r_law_round , (qs_one (qs_ret (qe_callTy call_tupX cd_tupX (by rfl) E.n_tuple bt_tuple (qa_cons (qe_lc rfl sc_law_round.nd (qi_rng1 (by rfl) E.n_range (qa_cons (qv 0) qa_nil)) (own := [("one", 1)]) (blkOk_by (by kernel_rfl)) (fun _ _ _ _ _ => (pg_name (i := 1) sc_law_round.nd rfl (by first | exact .inl rfl | exact .inr rfl))) (gok_name (by decide)) (fun _ _ _ _ _ => qts_nil) (fun _ _ _ _ _ => (qe_callTy call_tupX cd_tupX (by rfl) E.n_tuple bt_tuple (qa_cons (qe_lc rfl sc_law_round.nd (qi_rng1 (by rfl) E.n_range (qa_cons (qv 0) qa_nil)) (own := [("other", 2)]) (blkOk_by (by kernel_rfl)) (fun _ _ _ _ _ => (pg_name (i := 2) sc_law_round.nd rfl (by first | exact .inl rfl | exact .inr rfl))) (gok_name (by decide)) (fun _ _ _ _ _ => qts_nil) (fun _ _ _ _ _ => (qe_op op_mod od_IIc (qe_op or_plus od_plus (qv 1) (qv 2)) (qv 0)))) qa_nil)))) qa_nil)))), ok_law_round E.C_Table⟩
theorem k_law_product (E : Env P w K mg base) : FnOk P w K mg base CX0 1 E.a_law_product E.d_law_product ["one", "other"] (liftSp K (sp_law_product E.C_Table)) :=
  fn_okF E.F_law_product sc_law_product (hl_law_product E.C_Table) fun cdv A outer s H Ex hr => ⟨r_law_product , (qs_cons (qs_par (i := 3) (j := 4) rfl sc_law_product.nd rfl rfl (by decide) rfl rfl (qa_cons (qe_callB cr_len cd_len (by rfl) E.n_len bt_len (qa_cons (qv 1) qa_nil)) (qa_cons (qe_lstM qa_nil) qa_nil)) (by rfl))
  (qs_cons (qs_for PassesOwn.never rfl (qi_rng1 (by rfl) E.n_range (qa_cons (qe_op or_times od_times (qe_callB cr_len cd_len (by rfl) E.n_len bt_len (qa_cons (qv 0) qa_nil)) (qv 3)) qa_nil)) (qg_name (i := 2) sc_law_product.nd rfl (by first | exact .inl rfl | exact .inr rfl)) (qs_cons (qs_set (i := 5) sc_law_product.nd rfl (by first | exact .inl rfl | exact .inr rfl) (qe_lstM qa_nil))
  (qs_cons (qs_for PassesOwn.never rfl (qi_rng1 (by rfl) E.n_range (qa_cons (qe_op or_times od_times (qe_callB cr_len cd_len (by rfl) E.n_len bt_len (qa_cons (qv 0) qa_nil)) (qv 3)) qa_nil)) (qg_name (i := 6) sc_law_product.nd rfl (by first | exact .inl rfl | exact .inr rfl)) (qs_cons (qs_set (i := 7) sc_law_product.nd rfl (by first | exact .inl rfl | exact .inr rfl) (qe_ix (hu1 hr) (qe_ix (hu1 hr) (qv 0) (qe_op op_dv od_IIc (qv 2) (qv 3)) (fun _ _ => rfl)) (qe_op op_dv od_IIc (qv 6) (qv 3)) (fun _ _ => rfl)))
  (qs_one (qs_expr (qe_bm PySem.F.plainAttrs_list PySem.F.slot_list_append PySem.F.type_list_append mt_append md_append (qv 5) (qa_cons (qe_op or_plus od_plus (qe_op or_times od_times (qv 7) (qv 3)) (qe_ix (hu1 hr) (qe_ix (hu1 hr) (qv 1) (qe_op op_mod od_IIc (qv 2) (qv 3)) (fun _ _ => rfl)) (qe_op op_mod od_IIc (qv 6) (qv 3)) (fun _ _ => rfl))) qa_nil))))))
  (qs_one (qs_expr (qe_bm PySem.F.plainAttrs_list PySem.F.slot_list_append PySem.F.type_list_append mt_append md_append (qv 4) (qa_cons (qe_callTy call_tupX cd_tupX (by rfl) E.n_tuple bt_tuple (qa_cons (qv 5) qa_nil)) qa_nil)))))))
  (qs_one (qs_ret (qe_callTy call_tupX cd_tupX (by rfl) E.n_tuple bt_tuple (qa_cons (qv 4) qa_nil)))))), ok_law_product E.C_Table⟩
theorem k_law_turned (E : Env P w K mg base) : FnOk P w K mg base CX0 1 E.a_law_turned E.d_law_turned ["lines", "row"] (liftSp K (sp_law_turned E.C_Table)) :=
  fn_okF E.F_law_turned sc_law_turned (hl_law_turned E.C_Table) fun cdv A outer s H Ex hr => ⟨r_law_turned , (qs_cons (qs_set (i := 2) sc_law_turned.nd rfl (by first | exact .inl rfl | exact .inr rfl) (qe_timesM (qe_lstI (qa_cons qe_int qa_nil)) (qe_callB cr_len cd_len (by rfl) E.n_len bt_len (qa_cons (qv 1) qa_nil))))
  (qs_cons (qs_for PassesOwn.never rfl (qi_rng1 (by rfl) E.n_range (qa_cons (qe_callB cr_len cd_len (by rfl) E.n_len bt_len (qa_cons (qv 1) qa_nil)) qa_nil)) (qg_name (i := 3) sc_law_turned.nd rfl (by first | exact .inl rfl | exact .inr rfl)) (qs_one (qs_asg (qv 3) (qg_sub (hu1 hr) (qv 2) (qe_ix (hu1 hr) (qv 1) (qv 3) (fun _ _ => rfl))))))
  (qs_cons (qs_set (i := 4) sc_law_turned.nd rfl (by first | exact .inl rfl | exact .inr rfl) (qe_lstM qa_nil))
  (qs_cons (qs_for PassesOwn.never rfl (qi_seq (qv 2)) (qg_name (i := 5) sc_law_turned.nd rfl (by first | exact .inl rfl | exact .inr rfl)) (qs_cons (qs_set (i := 6) sc_law_turned.nd rfl (by first | exact .inl rfl | exact .inr rfl) (qe_ix (hu1 hr) (qv 0) (qv 5) (fun _ _ => rfl)))
  (qs_one (qs_expr (qe_bm PySem.F.plainAttrs_list PySem.F.slot_list_append PySem.F.type_list_append mt_append md_append (qv 4) (qa_cons (qe_callTy call_tupX cd_tupX (by rfl) E.n_tuple bt_tuple (qa_cons (qe_lc rfl sc_law_turned.nd (qi_seq (qv 2)) (own := [("other", 7)]) (blkOk_by (by kernel_rfl)) (fun _ _ _ _ _ => (pg_name (i := 7) sc_law_turned.nd rfl (by first | exact .inl rfl | exact .inr rfl))) (gok_name (by decide)) (fun _ _ _ _ _ => qts_nil) (fun _ _ _ _ _ => (qe_ix (hu1 hr) (qv 1) (qe_ix (hu1 hr) (qv 6) (qv 7) (fun _ _ => rfl)) (fun _ _ => rfl)))) qa_nil)) qa_nil))))))
  (qs_one (qs_ret (qe_callTy call_tupX cd_tupX (by rfl) E.n_tuple bt_tuple (qa_cons (qv 4) qa_nil)))))))), ok_law_turned E.C_Table⟩
theorem k_law_called (E : Env P w K mg base) : FnOk P w K mg base CX0 2 E.a_law_called E.d_law_called ["pool", "many"] (liftSp K (sp_law_called E.C_Table)) :=
  fn_okF E.F_law_called sc_law_called (hl_law_called E.C_Table) fun cdv A outer s H Ex hr => ⟨r_law_called (sp_law_take E.C_Table), (qs_cons (qs_set (i := 2) sc_law_called.nd rfl (by first | exact .inl rfl | exact .inr rfl) (qe_lstRgM rfl (by rfl) E.n_list (qrg_1 (by rfl) E.n_range (qv 1))))
  (qs_cons (qs_for PassesOwn.never rfl (qi_rng3 (by rfl) E.n_range (qa_cons (qe_op op_sub od_II (qv 1) qe_int) (qa_cons qe_int (qa_cons (qe_un un_neg ud_neg qe_int) qa_nil)))) (qg_name (i := 3) sc_law_called.nd rfl (by first | exact .inl rfl | exact .inr rfl)) (qs_cons (qs_set (i := 4) sc_law_called.nd rfl (by first | exact .inl rfl | exact .inr rfl) (qe_op or_plus od_plus qe_int (qe_call (k_law_take E) (hr.mono (by decide)) (by rfl) E.m_law_take E.F_law_take.kp E.b_law_take .nil (fun _ => .nil) pass0 (qa_cons (qv 0) (qa_cons (qv 3) qa_nil)))))
  (qs_one (qs_asg (qe_tup (qa_cons (qe_ix (hu1 hr) (qv 2) (qv 4) (fun _ _ => rfl)) (qa_cons (qe_ix (hu1 hr) (qv 2) (qv 3) (fun _ _ => rfl)) qa_nil))) (qg_tup rfl (qgs_cons (qg_sub (hu1 hr) (qv 2) (qv 3)) (qgs_cons (qg_sub (hu1 hr) (qv 2) (qv 4)) qgs_nil)))))))
  (qs_one (qs_ret (qe_callTy call_tuple_of cd_tupOf (by rfl) E.n_tuple bt_tuple (qa_cons (qv 2) qa_nil)))))), ok_law_called E.C_Table⟩
theorem k_law_group (E : Env P w K mg base) : FnOk P w K mg base CX0 4 E.a_law_group E.d_law_group ["pool", "most"] (liftSp K (sp_law_group E.C_Table)) :=
  fn_okF E.F_law_group sc_law_group (hl_law_group E.C_Table) fun cdv A outer s H Ex hr => ⟨r_law_group (sp_law_take E.C_Table) (sp_law_lines E.C_Table) (sp_law_small E.C_Table) (sp_law_round E.C_Table) (sp_law_product E.C_Table) (sp_law_turned E.C_Table) (sp_law_called E.C_Table), (qs_cons (qs_set (i := 2) sc_law_group.nd rfl (by first | exact .inl rfl | exact .inr rfl) (qe_call (k_law_take E) (hr.mono (by decide)) (by rfl) E.m_law_take E.F_law_take.kp E.b_law_take .nil (fun _ => .nil) pass0 (qa_cons (qv 0) (qa_cons qe_int qa_nil))))
  (qs_cons (qs_set (i := 3) sc_law_group.nd rfl (by first | exact .inl rfl | exact .inr rfl) (qe_call (k_law_lines E) (hr.mono (by decide)) (by rfl) E.m_law_lines E.F_law_lines.kp E.b_law_lines .nil (fun _ => .nil) pass0 (qa_cons (qe_call (k_law_small E) (hr.mono (by decide)) (by rfl) E.m_law_small E.F_law_small.kp E.b_law_small .nil (fun _ => .nil) pass0 (qa_cons (qv 0) (qa_cons (qv 1) qa_nil))) qa_nil)))
  (qs_cons (qs_if (qt_cmp (or_eq (hu64 hr)) od_eq (qv 2) qe_int (nomark _)) (qs_one (qs_set (i := 3) sc_law_group.nd rfl (by first | exact .inl rfl | exact .inr rfl) (qe_call (k_law_round E) (hr.mono (by decide)) (by rfl) E.m_law_round E.F_law_round.kp E.b_law_round .nil (fun _ => .nil) pass0 (qa_cons (qe_op or_plus od_plus qe_int (qe_call (k_law_take E) (hr.mono (by decide)) (by rfl) E.m_law_take E.F_law_take.kp E.b_law_take .nil (fun _ => .nil) pass0 (qa_cons (qv 0) (qa_cons (qv 1) qa_nil)))) qa_nil)))) qs_nil)
  (qs_cons (qs_if (qt_cmp (or_eq (hu64 hr)) od_eq (qv 2) qe_int (nomark _)) (qs_cons (qs_set (i := 4) sc_law_group.nd rfl (by first | exact .inl rfl | exact .inr rfl) (qe_op or_plus od_plus (qe_call (k_law_take E) (hr.mono (by decide)) (by rfl) E.m_law_take E.F_law_take.kp E.b_law_take .nil (fun _ => .nil) pass0 (qa_cons (qv 0) (qa_cons qe_int qa_nil))) qe_int))
  (qs_one (qs_set (i := 3) sc_law_group.nd rfl (by first | exact .inl rfl | exact .inr rfl) (qe_call (k_law_product E) (hr.mono (by decide)) (by rfl) E.m_law_product E.F_law_product.kp E.b_law_product .nil (fun _ => .nil) pass0 (qa_cons (qe_call (k_law_round E) (hr.mono (by decide)) (by rfl) E.m_law_round E.F_law_round.kp E.b_law_round .nil (fun _ => .nil) pass0 (qa_cons (qv 4) qa_nil)) (qa_cons (qe_call (k_law_round E) (hr.mono (by decide)) (by rfl) E.m_law_round E.F_law_round.kp E.b_law_round .nil (fun _ => .nil) pass0 (qa_cons (qe_op or_plus od_plus qe_int (qe_call (k_law_take E) (hr.mono (by decide)) (by rfl) E.m_law_take E.F_law_take.kp E.b_law_take .nil (fun _ => .nil) pass0 (qa_cons (qv 0) (qa_cons (qe_op op_dv od_IIc (qv 1) (qv 4)) qa_nil)))) qa_nil)) qa_nil)))))) qs_nil)
  (qs_cons (qs_if (qt_cmp (or_eq (hu64 hr)) od_eq (qe_call (k_law_take E) (hr.mono (by decide)) (by rfl) E.m_law_take E.F_law_take.kp E.b_law_take .nil (fun _ => .nil) pass0 (qa_cons (qv 0) (qa_cons qe_int qa_nil))) qe_int (nomark _)) (qs_one (qs_set (i := 3) sc_law_group.nd rfl (by first | exact .inl rfl | exact .inr rfl) (qe_call (k_law_turned E) (hr.mono (by decide)) (by rfl) E.m_law_turned E.F_law_turned.kp E.b_law_turned .nil (fun _ => .nil) pass0 (qa_cons (qv 3) (qa_cons (qe_call (k_law_called E) (hr.mono (by decide)) (by rfl) E.m_law_called E.F_law_called.kp E.b_law_called .nil (fun _ => .nil) pass0 (qa_cons (qv 0) (qa_cons (qe_callB cr_len cd_len (by rfl) E.n_len bt_len (qa_cons (qv 3) qa_nil)) qa_nil))) qa_nil))))) qs_nil)
  (qs_one (qs_ret (qv 3)))))))), ok_law_group E.C_Table⟩
theorem k_table_len (E : Env P w K mg base) : FnOk P w K mg base CX0 1 E.a_table_len E.d_table_len ["self"] (liftSp K (sp_table_len E.C_Table)) :=
  fn_okF E.F_table_len sc_table_len (hl_table_len E.C_Table) fun cdv A outer s H Ex hr => ⟨r_table_len E.C_Table, (qs_one (qs_ret (qe_callB cr_len cd_len (by rfl) E.n_len bt_len (qa_cons (qe_fld E.f_Table_lines (qv 0)) qa_nil)))), ok_table_len E.C_Table⟩
theorem k_check_table (E : Env P w K mg base) : FnOk P w K mg base CX0 1 E.a_check_table E.d_check_table ["thing"] (liftSp K (sp_check_table E.C_Table)) :=
  fn_okF E.F_check_table sc_check_table (hl_check_table E.C_Table) fun cdv A outer s H Ex hr => ⟨r_check_table E.C_Table, (qs_one (qs_if (qt_not (qt_val (qe_callB call_isi (cd_isi E.i_Table) (by rfl) E.n_isinstance bt_isinstance (qa_cons (qv 0) (qa_cons (qe_gref (by rfl) E.g_Table) qa_nil))))) (qs_one qs_never) qs_nil)), ok_check_table E.C_Table⟩
theorem k_is_whole (E : Env P w K mg base) : FnOk P w K mg base CX0 1 E.a_is_whole E.d_is_whole ["thing"] (liftSp K (sp_is_whole E.C_Table)) :=
  fn_okF E.F_is_whole sc_is_whole (hl_is_whole E.C_Table) fun cdv A outer s H Ex hr => ⟨r_is_whole E.C_Table, (qs_one (qs_ret (qe_and (qe_callB call_isi (cd_isi E.i_Table) (by rfl) E.n_isinstance bt_isinstance (qa_cons (qv 0) (qa_cons (qe_type (by rfl) E.n_int bt_int) qa_nil))) (qe_one (qe_not (qe_callB call_isi (cd_isi E.i_Table) (by rfl) E.n_isinstance bt_isinstance (qa_cons (qv 0) (qa_cons (qe_type (by rfl) E.n_bool bt_bool) qa_nil)))))))), ok_is_whole E.C_Table⟩
theorem k_check_member (E : Env P w K mg base) : FnOk P w K mg base CX0 3 E.a_check_member E.d_check_member ["table", "thing"] (liftSp K (sp_check_member E.C_Table)) :=
  fn_okF E.F_check_member sc_check_member (hl_check_member E.C_Table) fun cdv A outer s H Ex hr => ⟨r_check_member E.C_Table (sp_is_whole E.C_Table) (sp_table_len E.C_Table), (qs_one (qs_if (qt_w (qw_or (qt_not (qt_val (qe_call (k_is_whole E) (hr.mono (by decide)) (by rfl) E.m_is_whole E.F_is_whole.kp E.b_is_whole .nil (fun _ => .nil) pass0 (qa_cons (qv 1) qa_nil)))) (qw_or1 (qt_not (qt_chain op_le od_IB op_lt od_IB qe_int (qv 1) (qe_callB (cr_lenC E.l_Table E.lf_Table (k_table_len E) E.b_table_len (hr.mono (by decide)) pass0) cd_lenC (by rfl) E.n_len bt_len (qa_cons (qv 0) qa_nil))))))) (qs_one qs_never) qs_nil)), ok_check_member E.C_Table⟩
theorem k_powers_of (E : Env P w K mg base) : FnOk P w K mg base CX0 1 E.a_powers_of E.d_powers_of ["table", "one"] (liftSp K (sp_powers_of E.C_Table)) :=
  fn_okF E.F_powers_of sc_powers_of (hl_powers_of E.C_Table) fun cdv A outer s H Ex hr => ⟨r_powers_of E.C_Table, (qs_cons (qs_set (i := 2) sc_powers_of.nd rfl (by first | exact .inl rfl | exact .inr rfl) (qe_lstM (qa_cons qe_int qa_nil)))
  (qs_cons (qs_set (i := 3) sc_powers_of.nd rfl (by first | exact .inl rfl | exact .inr rfl) (qv 1))
  (qs_cons (qs_while PassesOwn.never (qt_cmp (or_ne (hu64 hr)) od_ne (qv 3) qe_int (nomark _)) (qs_cons (qs_expr (qe_bm PySem.F.plainAttrs_list PySem.F.slot_list_append PySem.F.type_list_append mt_append md_append (qv 2) (qa_cons (qv 3) qa_nil)))
  (qs_one (qs_set (i := 3) sc_powers_of.nd rfl (by first | exact .inl rfl | exact .inr rfl) (qe_ix (hu1 hr) (qe_ix (hu1 hr) (qe_fld E.f_Table_lines (qv 0)) (qv 3) (fun _ _ => rfl)) (qv 1) (fun _ _ => rfl))))))
  (qs_one (qs_ret (qv 2)))))), ok_powers_of E.C_Table⟩
theorem k_order_of (E : Env P w K mg base) : FnOk P w K mg base CX0 4 E.a_order_of E.d_order_of ["table", "one"] (liftSp K (sp_order_of E.C_Table)) :=
  fn_okF E.F_order_of sc_order_of (hl_order_of E.C_Table) fun cdv A outer s H Ex hr => ⟨r_order_of (sp_check_table E.C_Table) (sp_check_member E.C_Table) (sp_powers_of E.C_Table), (qs_cons (qs_expr (qe_call (k_check_table E) (hr.mono (by decide)) (by rfl) E.m_check_table E.F_check_table.kp E.b_check_table .nil (fun _ => .nil) pass0 (qa_cons (qv 0) qa_nil)))
  (qs_cons (qs_expr (qe_call (k_check_member E) (hr.mono (by decide)) (by rfl) E.m_check_member E.F_check_member.kp E.b_check_member .nil (fun _ => .nil) pass0 (qa_cons (qv 0) (qa_cons (qv 1) qa_nil))))
  (qs_one (qs_ret (qe_callB cr_len cd_len (by rfl) E.n_len bt_len (qa_cons (qe_call (k_powers_of E) (hr.mono (by decide)) (by rfl) E.m_powers_of E.F_powers_of.kp E.b_powers_of .nil (fun _ => .nil) pass0 (qa_cons (qv 0) (qa_cons (qv 1) qa_nil))) qa_nil)))))), ok_order_of E.C_Table⟩
theorem k_check_small (E : Env P w K mg base) : FnOk P w K mg base CX0 3 E.a_check_small E.d_check_small ["table"] (liftSp K (sp_check_small E.C_Table)) :=
  fn_okF E.F_check_small sc_check_small (hl_check_small E.C_Table) fun cdv A outer s H Ex hr => ⟨r_check_small E.C_Table (sp_check_table E.C_Table) (sp_table_len E.C_Table), (qs_cons (qs_expr (qe_call (k_check_table E) (hr.mono (by decide)) (by rfl) E.m_check_table E.F_check_table.kp E.b_check_table .nil (fun _ => .nil) pass0 (qa_cons (qv 0) qa_nil)))
  (qs_one (qs_if (qt_cmp op_gt od_IB (qe_callB (cr_lenC E.l_Table E.lf_Table (k_table_len E) E.b_table_len (hr.mono (by decide)) pass0) cd_lenC (by rfl) E.n_len bt_len (qa_cons (qv 0) qa_nil)) (qe_gint (by rfl) E.c_MOST_MAPPED) (nomark _)) (qs_one qs_never) qs_nil))), ok_check_small E.C_Table⟩
theorem k_spread (E : Env P w K mg base) : FnOk P w K mg base CX0 1 E.a_spread E.d_spread ["table", "part"] (liftSp K (sp_spread E.C_Table)) :=
  fn_okF E.F_spread sc_spread (hl_spread E.C_Table) fun cdv A outer s H Ex hr => ⟨r_spread E.C_Table, (qs_cons (qs_par (i := 2) (j := 3) rfl sc_spread.nd rfl rfl (by decide) rfl rfl (qa_cons (qe_disp1K qe_int qe_bl) (qa_cons (qe_lstM (qa_cons qe_int qa_nil)) qa_nil)) (by rfl))
  (qs_cons (qs_while PassesOwn.never (qt_tru (qv 3)) (qs_cons (qs_set (i := 4) sc_spread.nd rfl (by first | exact .inl rfl | exact .inr rfl) (qe_bm0 PySem.F.plainAttrs_list PySem.F.slot_list_pop PySem.F.type_list_pop mt_pop md_pop (qv 3)))
  (qs_one (qs_for PassesOwn.never rfl (qi_seq (qv 1)) (qg_name (i := 5) sc_spread.nd rfl (by first | exact .inl rfl | exact .inr rfl)) (qs_cons (qs_set (i := 6) sc_spread.nd rfl (by first | exact .inl rfl | exact .inr rfl) (qe_ix (hu1 hr) (qe_ix (hu1 hr) (qe_fld E.f_Table_lines (qv 0)) (qv 4) (fun _ _ => rfl)) (qv 5) (fun _ _ => rfl)))
  (qs_one (qs_if (qt_cmp (or_notIn (hu65 hr)) od_notIn (qv 6) (qv 2) (by rfl)) (qs_cons (qs_asg qe_bl (qg_sub (hu1 hr) (qv 2) (qv 6)))
  (qs_one (qs_expr (qe_bm PySem.F.plainAttrs_list PySem.F.slot_list_append PySem.F.type_list_append mt_append md_append (qv 3) (qa_cons (qv 6) qa_nil))))) qs_nil)))))))
  (qs_one (qs_ret (qe_callTy call_tuple_of cd_tupOf (by rfl) E.n_tuple bt_tuple (qa_cons (qe_callB (cr_sortI rfl) cd_sortI (by rfl) E.n_sorted bt_sorted (qa_cons (qv 2) qa_nil)) qa_nil)))))), ok_spread E.C_Table⟩
theorem k_leading_of (E : Env P w K mg base) : FnOk P w K mg base CX0 3 E.a_leading_of E.d_leading_of ["table"] (liftSp K (sp_leading_of E.C_Table)) :=
  fn_okF E.F_leading_of sc_leading_of (hl_leading_of E.C_Table) fun cdv A outer s H Ex hr => ⟨r_leading_of E.C_Table (sp_table_len E.C_Table) (sp_spread E.C_Table), (qs_cons (qs_asg (qe_tup (qa_cons (qe_tup qa_nil) (qa_cons (qe_tup (qa_cons qe_int qa_nil)) qa_nil))) (qg_tup rfl (qgs_cons (qg_name (i := 1) sc_leading_of.nd rfl (by first | exact .inl rfl | exact .inr rfl)) (qgs_cons (qg_name (i := 2) sc_leading_of.nd rfl (by first | exact .inl rfl | exact .inr rfl)) qgs_nil))))
  (qs_cons (qs_while PassesOwn.never (qt_cmp op_lt od_IB (qe_callB cr_len cd_len (by rfl) E.n_len bt_len (qa_cons (qv 2) qa_nil)) (qe_callB (cr_lenC E.l_Table E.lf_Table (k_table_len E) E.b_table_len (hr.mono (by decide)) pass0) cd_lenC (by rfl) E.n_len bt_len (qa_cons (qv 0) qa_nil)) (nomark _)) (qs_cons (qs_aug (i := 1) sc_leading_of.nd rfl (by first | exact .inl rfl | exact .inr rfl) ip_catA od_catT (qe_tup (qa_cons (qe_callB (cr_min rfl) cd_minL (by rfl) E.n_min bt_min (qa_cons (qe_lc rfl sc_leading_of.nd (qi_rng1 (by rfl) E.n_range (qa_cons (qe_callB (cr_lenC E.l_Table E.lf_Table (k_table_len E) E.b_table_len (hr.mono (by decide)) pass0) cd_lenC (by rfl) E.n_len bt_len (qa_cons (qv 0) qa_nil)) qa_nil)) (own := [("one", 3)]) (blkOk_by (by kernel_rfl)) (fun _ _ _ _ _ => (pg_name (i := 3) sc_leading_of.nd rfl (by first | exact .inl rfl | exact .inr rfl))) (gok_name (by decide)) (fun _ _ _ _ _ => (qts_one (qt_cmp (or_notIn (hu65 hr)) od_notIn (qv 3) (qv 2) (by rfl)))) (fun _ _ _ _ _ => (qv 3))) qa_nil)) qa_nil)))
  (qs_one (qs_set (i := 2) sc_leading_of.nd rfl (by first | exact .inl rfl | exact .inr rfl) (qe_call (k_spread E) (hr.mono (by decide)) (by rfl) E.m_spread E.F_spread.kp E.b_spread .nil (fun _ => .nil) pass0 (qa_cons (qv 0) (qa_cons (qv 1) qa_nil)))))))
  (qs_one (qs_ret (qv 1))))), ok_leading_of E.C_Table⟩
theorem k_grown (E : Env P w K mg base) : FnOk P w K mg base CX0 1 E.a_grown E.d_grown ["one", "other", "leads", "images"] (liftSp K (sp_grown E.C_Table)) :=
  fn_okF E.F_grown sc_grown (hl_grown E.C_Table) fun cdv A outer s H Ex hr => ⟨r_grown E.C_Table, (qs_cons (qs_par (i := 4) (j := 5) rfl sc_grown.nd rfl rfl (by decide) rfl rfl (qa_cons (qe_disp1K qe_int qe_int) (qa_cons (qe_lstM (qa_cons qe_int qa_nil)) qa_nil)) (by rfl))
  (qs_cons (qs_while PassesOwn.never (qt_cmp (or_ne (hu64 hr)) od_ne (qv 5) (qe_lstI qa_nil) (nomark _)) (qs_cons (qs_set (i := 6) sc_grown.nd rfl (by first | exact .inl rfl | exact .inr rfl) (qe_bm0 PySem.F.plainAttrs_list PySem.F.slot_list_pop PySem.F.type_list_pop mt_pop md_pop (qv 5)))
  (qs_one (qs_for PassesOwn.never rfl (qi_zip (by rfl) E.n_zip (qa_cons (qv 2) (qa_cons (qv 3) qa_nil))) (qg_tup rfl (qgs_cons (qg_name (i := 7) sc_grown.nd rfl (by first | exact .inl rfl | exact .inr rfl)) (qgs_cons (qg_name (i := 8) sc_grown.nd rfl (by first | exact .inl rfl | exact .inr rfl)) qgs_nil))) (qs_cons (qs_par (i := 9) (j := 10) rfl sc_grown.nd rfl rfl (by decide) rfl rfl (qa_cons (qe_ix (hu1 hr) (qe_ix (hu1 hr) (qe_fld E.f_Table_lines (qv 0)) (qv 6) (fun _ _ => rfl)) (qv 7) (fun _ _ => rfl)) (qa_cons (qe_ix (hu1 hr) (qe_ix (hu1 hr) (qe_fld E.f_Table_lines (qv 1)) (qe_ix (hu1 hr) (qv 4) (qv 6) (fun _ _ => rfl)) (fun _ _ => rfl)) (qv 8) (fun _ _ => rfl)) qa_nil)) (by rfl))
  (qs_one (qs_if (qt_cmp (or_notIn (hu65 hr)) od_notIn (qv 9) (qv 4) (by rfl)) (qs_cons (qs_asg (qv 10) (qg_sub (hu1 hr) (qv 4) (qv 9)))
  (qs_one (qs_expr (qe_bm PySem.F.plainAttrs_list PySem.F.slot_list_append PySem.F.type_list_append mt_append md_append (qv 5) (qa_cons (qv 9) qa_nil))))) (qs_one (qs_if (qt_cmp (or_ne (hu64 hr)) od_ne (qe_ix (hu1 hr) (qv 4) (qv 9) (fun _ _ => rfl)) (qv 10) (nomark _)) (qs_one (qs_ret qe_non)) qs_nil)))))))))
  (qs_one (qs_ret (qv 4))))), ok_grown E.C_Table⟩
theorem k_all_grown (E : Env P w K mg base) : FnOk P w K mg base CX0 2 E.a_all_grown E.d_all_grown ["one", "other", "leads", "choices"] (liftSp K (sp_all_grown E.C_Table)) :=
  fn_okF E.F_all_grown sc_all_grown (hl_all_grown E.C_Table) fun cdv A outer s H Ex hr => ⟨r_all_grown (sp_grown E.C_Table), (qs_cons (qs_set (i := 4) sc_all_grown.nd rfl (by first | exact .inl rfl | exact .inr rfl) (qe_lstI (qa_cons (qe_tup qa_nil) qa_nil)))
  (qs_cons (qs_for PassesOwn.never rfl (qi_enum (by rfl) E.n_enumerate (qa_cons (qv 3) qa_nil)) (qg_tup rfl (qgs_cons (qg_name (i := 5) sc_all_grown.nd rfl (by first | exact .inl rfl | exact .inr rfl)) (qgs_cons (qg_name (i := 6) sc_all_grown.nd rfl (by first | exact .inl rfl | exact .inr rfl)) qgs_nil))) (qs_cons (qs_set (i := 7) sc_all_grown.nd rfl (by first | exact .inl rfl | exact .inr rfl) (qe_lstM qa_nil))
  (qs_cons (qs_for PassesOwn.never rfl (qi_seq (qv 4)) (qg_name (i := 8) sc_all_grown.nd rfl (by first | exact .inl rfl | exact .inr rfl)) (qs_one (qs_for PassesOwn.never rfl (qi_seq (qv 6)) (qg_name (i := 9) sc_all_grown.nd rfl (by first | exact .inl rfl | exact .inr rfl)) (qs_one (qs_if (qt_cmp op_notN od_notN (qe_call (k_grown E) (hr.mono (by decide)) (by rfl) E.m_grown E.F_grown.kp E.b_grown .nil (fun _ => .nil) pass0 (qa_cons (qv 0) (qa_cons (qv 1) (qa_cons (qe_slice (qv 2) qo_none (qo_some (qe_op or_plus od_plus (qv 5) qe_int))) (qa_cons (qe_op or_plus od_plus (qv 8) (qe_tup (qa_cons (qv 9) qa_nil))) qa_nil))))) qe_non (nomark _)) (qs_one (qs_expr (qe_bm PySem.F.plainAttrs_list PySem.F.slot_list_append PySem.F.type_list_append mt_append md_append (qv 7) (qa_cons (qe_op or_plus od_plus (qv 8) (qe_tup (qa_cons (qv 9) qa_nil))) qa_nil)))) qs_nil)))))
  (qs_one (qs_set (i := 4) sc_all_grown.nd rfl (by first | exact .inl rfl | exact .inr rfl) (qv 7))))))
  (qs_one (qs_ret (qv 4))))), ok_all_grown E.C_Table⟩
theorem k_homs_of (E : Env P w K mg base) : FnOk P w K mg base CX0 4 E.a_homs_of E.d_homs_of ["one", "other"] (liftSp K (sp_homs_of E.C_Table)) :=
  fn_okF E.F_homs_of sc_homs_of (hl_homs_of E.C_Table) fun cdv A outer s H Ex hr => ⟨r_homs_of E.C_Table (sp_leading_of E.C_Table) (sp_all_grown E.C_Table) (sp_table_len E.C_Table) (sp_grown E.C_Table), (qs_cons (qs_set (i := 2) sc_homs_of.nd rfl (by first | exact .inl rfl | exact .inr rfl) (qe_call (k_leading_of E) (hr.mono (by decide)) (by rfl) E.m_leading_of E.F_leading_of.kp E.b_leading_of .nil (fun _ => .nil) pass0 (qa_cons (qv 0) qa_nil)))
  (qs_cons (qs_set (i := 3) sc_homs_of.nd rfl (by first | exact .inl rfl | exact .inr rfl) (qe_lstM qa_nil))
  (qs_cons (qs_for PassesOwn.never rfl (qi_seq (qe_call (k_all_grown E) (hr.mono (by decide)) (by rfl) E.m_all_grown E.F_all_grown.kp E.b_all_grown .nil (fun _ => .nil) pass0 (qa_cons (qv 0) (qa_cons (qv 1) (qa_cons (qv 2) (qa_cons (qe_lc rfl sc_homs_of.nd (qi_seq (qv 2)) (own := [("lead", 6)]) (blkOk_by (by kernel_rfl)) (fun _ _ _ _ _ => (pg_name (i := 6) sc_homs_of.nd rfl (by first | exact .inl rfl | exact .inr rfl))) (gok_name (by decide)) (fun _ _ _ _ _ => qts_nil) (fun _ _ _ _ _ => (qe_lstRg rfl (by rfl) E.n_list (qrg_1 (by rfl) E.n_range (qe_callB (cr_lenC E.l_Table E.lf_Table (k_table_len E) E.b_table_len (hr.mono (by decide)) pass0) cd_lenC (by rfl) E.n_len bt_len (qa_cons (qv 1) qa_nil)))))) qa_nil)))))) (qg_name (i := 4) sc_homs_of.nd rfl (by first | exact .inl rfl | exact .inr rfl)) (qs_cons (qs_set (i := 5) sc_homs_of.nd rfl (by first | exact .inl rfl | exact .inr rfl) (qe_call (k_grown E) (hr.mono (by decide)) (by rfl) E.m_grown E.F_grown.kp E.b_grown .nil (fun _ => .nil) pass0 (qa_cons (qv 0) (qa_cons (qv 1) (qa_cons (qv 2) (qa_cons (qv 4) qa_nil))))))
  (qs_one (qs_expr (qe_bm PySem.F.plainAttrs_list PySem.F.slot_list_append PySem.F.type_list_append mt_append md_append (qv 3) (qa_cons (qe_callTy call_tupX cd_tupX (by rfl) E.n_tuple bt_tuple (qa_cons (qe_lc rfl sc_homs_of.nd (qi_rng1 (by rfl) E.n_range (qa_cons (qe_callB (cr_lenC E.l_Table E.lf_Table (k_table_len E) E.b_table_len (hr.mono (by decide)) pass0) cd_lenC (by rfl) E.n_len bt_len (qa_cons (qv 0) qa_nil)) qa_nil)) (own := [("member", 7)]) (blkOk_by (by kernel_rfl)) (fun _ _ _ _ _ => (pg_name (i := 7) sc_homs_of.nd rfl (by first | exact .inl rfl | exact .inr rfl))) (gok_name (by decide)) (fun _ _ _ _ _ => qts_nil) (fun _ _ _ _ _ => (qe_ix (hu1 hr) (qv 5) (qv 7) (fun _ _ => rfl)))) qa_nil)) qa_nil))))))
  (qs_one (qs_ret (qe_callTy call_tuple_of cd_tupOf (by rfl) E.n_tuple bt_tuple (qa_cons (qv 3) qa_nil))))))), ok_homs_of E.C_Table⟩
theorem k_homs (E : Env P w K mg base) : FnOk P w K mg base CX0 5 E.a_homs E.d_homs ["one", "other"] (liftSp K (sp_homs E.C_Table)) :=
  fn_okF E.F_homs sc_homs (hl_homs E.C_Table) fun cdv A outer s H Ex hr => ⟨r_homs (sp_check_small E.C_Table) (sp_homs_of E.C_Table), (qs_cons (qs_expr (qe_call (k_check_small E) (hr.mono (by decide)) (by rfl) E.m_check_small E.F_check_small.kp E.b_check_small .nil (fun _ => .nil) pass0 (qa_cons (qv 0) qa_nil)))
  (qs_cons (qs_expr (qe_call (k_check_small E) (hr.mono (by decide)) (by rfl) E.m_check_small E.F_check_small.kp E.b_check_small .nil (fun _ => .nil) pass0 (qa_cons (qv 1) qa_nil)))
  (qs_one (qs_ret (qe_call (k_homs_of E) (hr.mono (by decide)) (by rfl) E.m_homs_of E.F_homs_of.kp E.b_homs_of .nil (fun _ => .nil) pass0 (qa_cons (qv 0) (qa_cons (qv 1) qa_nil))))))), ok_homs E.C_Table⟩
theorem k_leading (E : Env P w K mg base) : FnOk P w K mg base CX0 4 E.a_leading E.d_leading ["table"] (liftSp K (sp_leading E.C_Table)) :=
  fn_okF E.F_leading sc_leading (hl_leading E.C_Table) fun cdv A outer s H Ex hr => ⟨r_leading (sp_check_table E.C_Table) (sp_leading_of E.C_Table), (qs_cons (qs_expr (qe_call (k_check_table E) (hr.mono (by decide)) (by rfl) E.m_check_table E.F_check_table.kp E.b_check_table .nil (fun _ => .nil) pass0 (qa_cons (qv 0) qa_nil)))
  (qs_one (qs_ret (qe_call (k_leading_of E) (hr.mono (by decide)) (by rfl) E.m_leading_of E.F_leading_of.kp E.b_leading_of .nil (fun _ => .nil) pass0 (qa_cons (qv 0) qa_nil))))), ok_leading E.C_Table⟩
theorem k_back_of (E : Env P w K mg base) : FnOk P w K mg base CX0 1 E.a_back_of E.d_back_of ["table", "one"] (liftSp K (sp_back_of E.C_Table)) :=
  fn_okF E.F_back_of sc_back_of (hl_back_of E.C_Table) fun cdv A outer s H Ex hr => ⟨r_back_of E.C_Table, (qs_one (qs_ret (qe_bmX PySem.F.plainAttrs_tuple PySem.F.slot_tuple_index PySem.F.type_tuple_index mt_tupIdx md_tupIdx (qe_ix (hu1 hr) (qe_fld E.f_Table_lines (qv 0)) (qv 1) (fun _ _ => rfl)) (qa_cons qe_int qa_nil)))), ok_back_of E.C_Table⟩
theorem k_back (E : Env P w K mg base) : FnOk P w K mg base CX0 4 E.a_back E.d_back ["table", "one"] (liftSp K (sp_back E.C_Table)) :=
  fn_okF E.F_back sc_back (hl_back E.C_Table) fun cdv A outer s H Ex hr => ⟨r_back (sp_check_table E.C_Table) (sp_check_member E.C_Table) (sp_back_of E.C_Table), (qs_cons (qs_expr (qe_call (k_check_table E) (hr.mono (by decide)) (by rfl) E.m_check_table E.F_check_table.kp E.b_check_table .nil (fun _ => .nil) pass0 (qa_cons (qv 0) qa_nil)))
  (qs_cons (qs_expr (qe_call (k_check_member E) (hr.mono (by decide)) (by rfl) E.m_check_member E.F_check_member.kp E.b_check_member .nil (fun _ => .nil) pass0 (qa_cons (qv 0) (qa_cons (qv 1) qa_nil))))
  (qs_one (qs_ret (qe_call (k_back_of E) (hr.mono (by decide)) (by rfl) E.m_back_of E.F_back_of.kp E.b_back_of .nil (fun _ => .nil) pass0 (qa_cons (qv 0) (qa_cons (qv 1) qa_nil))))))), ok_back E.C_Table⟩
theorem k_law_each_right (E : Env P w K mg base) : FnOk P w K mg base CX0 5 E.a_law_each_right E.d_law_each_right ["one", "other", "rows"] (liftSp K (sp_law_each_right E.C_Table)) :=
  fn_okF E.F_law_each_right sc_law_each_right (hl_law_each_right E.C_Table) fun cdv A outer s H Ex hr => ⟨r_law_each_right E.C_Table (sp_leading E.C_Table) (sp_table_len E.C_Table) (sp_back E.C_Table) (sp_order_of E.C_Table), (qs_cons (qs_set (i := 3) sc_law_each_right.nd rfl (by first | exact .inl rfl | exact .inr rfl) (qe_call (k_leading E) (hr.mono (by decide)) (by rfl) E.m_leading E.F_leading.kp E.b_leading .nil (fun _ => .nil) pass0 (qa_cons (qv 0) qa_nil)))
  (qs_cons (qs_if (qt_cmp (or_ne (hu64 hr)) od_ne (qe_lenSetLT rfl (hu64 hr) (by rfl) E.n_len (by rfl) E.n_set (qe_lc rfl sc_law_each_right.nd (qi_seq (qv 2)) (own := [("row", 4)]) (blkOk_by (by kernel_rfl)) (fun _ _ _ _ _ => (pg_name (i := 4) sc_law_each_right.nd rfl (by first | exact .inl rfl | exact .inr rfl))) (gok_name (by decide)) (fun _ _ _ _ _ => qts_nil) (fun _ _ _ _ _ => (qe_callTy call_tuple_of cd_tupOf (by rfl) E.n_tuple bt_tuple (qa_cons (qe_lc rfl sc_law_each_right.nd (qi_seq (qv 3)) (own := [("lead", 6)]) (blkOk_by (by kernel_rfl)) (fun _ _ _ _ _ => (pg_name (i := 6) sc_law_each_right.nd rfl (by first | exact .inl rfl | exact .inr rfl))) (gok_name (by decide)) (fun _ _ _ _ _ => qts_nil) (fun _ _ _ _ _ => (qe_ix (hu1 hr) (qv 4) (qv 6) (fun _ _ => rfl)))) qa_nil))))) (qe_callB cr_len cd_len (by rfl) E.n_len bt_len (qa_cons (qv 2) qa_nil)) (nomark _)) (qs_one (qs_ret qe_bl)) qs_nil)
  (qs_cons (qs_for PassesOwn.never rfl (qi_seq (qv 2)) (qg_name (i := 4) sc_law_each_right.nd rfl (by first | exact .inl rfl | exact .inr rfl)) (qs_cons (qs_if (qt_cmp (or_ne (hu64 hr)) od_ne (qe_ix (hu1 hr) (qv 4) qe_int (fun _ _ => rfl)) qe_int (nomark _)) (qs_one (qs_ret qe_bl)) qs_nil)
  (qs_one (qs_for PassesOwn.never rfl (qi_rng1 (by rfl) E.n_range (qa_cons (qe_callB (cr_lenC E.l_Table E.lf_Table (k_table_len E) E.b_table_len (hr.mono (by decide)) pass0) cd_lenC (by rfl) E.n_len bt_len (qa_cons (qv 0) qa_nil)) qa_nil)) (qg_name (i := 5) sc_law_each_right.nd rfl (by first | exact .inl rfl | exact .inr rfl)) (qs_cons (qs_if (qt_cmp (or_ne (hu64 hr)) od_ne (qe_ix (hu1 hr) (qv 4) (qe_call (k_back E) (hr.mono (by decide)) (by rfl) E.m_back E.F_back.kp E.b_back .nil (fun _ => .nil) pass0 (qa_cons (qv 0) (qa_cons (qv 5) qa_nil))) (fun _ _ => rfl)) (qe_call (k_back E) (hr.mono (by decide)) (by rfl) E.m_back E.F_back.kp E.b_back .nil (fun _ => .nil) pass0 (qa_cons (qv 1) (qa_cons (qe_ix (hu1 hr) (qv 4) (qv 5) (fun _ _ => rfl)) qa_nil))) (nomark _)) (qs_one (qs_ret qe_bl)) qs_nil)
  (qs_one (qs_if (qt_cmp (or_ne (hu64 hr)) od_ne (qe_op op_mod od_IIc (qe_call (k_order_of E) (hr.mono (by decide)) (by rfl) E.m_order_of E.F_order_of.kp E.b_order_of .nil (fun _ => .nil) pass0 (qa_cons (qv 0) (qa_cons (qv 5) qa_nil))) (qe_call (k_order_of E) (hr.mono (by decide)) (by rfl) E.m_order_of E.F_order_of.kp E.b_order_of .nil (fun _ => .nil) pass0 (qa_cons (qv 1) (qa_cons (qe_ix (hu1 hr) (qv 4) (qv 5) (fun _ _ => rfl)) qa_nil)))) qe_int (nomark _)) (qs_one (qs_ret qe_bl)) qs_nil)))))))
  (qs_one (qs_ret qe_bl))))), ok_law_each_right E.C_Table⟩
theorem k_product (E : Env P w K mg base) : FnOk P w K mg base CX0 6 E.a_product E.d_product ["one", "other"] (liftSp K (sp_product E.C_Table)) :=
  fn_okF E.F_product sc_product (hl_product E.C_Table) fun cdv A outer s H Ex hr => ⟨r_product E.C_Table (sp_check_table E.C_Table) (sp_table_len E.C_Table) (sp_table_init E.C_Table), (qs_cons (qs_expr (qe_call (k_check_table E) (hr.mono (by decide)) (by rfl) E.m_check_table E.F_check_table.kp E.b_check_table .nil (fun _ => .nil) pass0 (qa_cons (qv 0) qa_nil)))
  (qs_cons (qs_expr (qe_call (k_check_table E) (hr.mono (by decide)) (by rfl) E.m_check_table E.F_check_table.kp E.b_check_table .nil (fun _ => .nil) pass0 (qa_cons (qv 1) qa_nil)))
  (qs_cons (qs_asg (qe_tup (qa_cons (qe_op or_times od_times (qe_callB (cr_lenC E.l_Table E.lf_Table (k_table_len E) E.b_table_len (hr.mono (by decide)) pass0) cd_lenC (by rfl) E.n_len bt_len (qa_cons (qv 0) qa_nil)) (qe_callB (cr_lenC E.l_Table E.lf_Table (k_table_len E) E.b_table_len (hr.mono (by decide)) pass0) cd_lenC (by rfl) E.n_len bt_len (qa_cons (qv 1) qa_nil))) (qa_cons (qe_callB (cr_lenC E.l_Table E.lf_Table (k_table_len E) E.b_table_len (hr.mono (by decide)) pass0) cd_lenC (by rfl) E.n_len bt_len (qa_cons (qv 1) qa_nil)) qa_nil))) (qg_tup rfl (qgs_cons (qg_name (i := 4) sc_product.nd rfl (by first | exact .inl rfl | exact .inr rfl)) (qgs_cons (qg_name (i := 5) sc_product.nd rfl (by first | exact .inl rfl | exact .inr rfl)) qgs_nil))))
  (qs_cons (qs_if (qt_cmp op_gt od_IB (qv 4) (qe_gint (by rfl) E.c_MOST_MEMBERS) (nomark _)) (qs_one qs_never) qs_nil)
  (qs_cons (qs_set (i := 2) sc_product.nd rfl (by first | exact .inl rfl | exact .inr rfl) (qe_lc rfl sc_product.nd (qi_rng1 (by rfl) E.n_range (qa_cons (qv 4) qa_nil)) (own := [("number", 6)]) (blkOk_by (by kernel_rfl)) (fun _ _ _ _ _ => (pg_name (i := 6) sc_product.nd rfl (by first | exact .inl rfl | exact .inr rfl))) (gok_name (by decide)) (fun _ _ _ _ _ => qts_nil) (fun _ _ _ _ _ => (qe_callB call_divmod cd_divmod (by rfl) E.n_divmod bt_divmod (qa_cons (qv 6) (qa_cons (qv 5) qa_nil))))))
  (qs_cons (qs_setLc (i := 3) rfl sc_product.nd rfl rfl (sw_true rfl rfl rfl (by rfl)) (qi_seq (qv 2)) (own := [("a", 7), ("b", 8)]) (blkOk_by (by kernel_rfl)) (fun _ _ _ _ _ => (pg_tup rfl (pgs_cons (pg_name (i := 7) sc_product.nd rfl (by first | exact .inl rfl | exact .inr rfl)) (pgs_cons (pg_name (i := 8) sc_product.nd rfl (by first | exact .inl rfl | exact .inr rfl)) pgs_nil)))) (gok_tup (gsok_cons (gok_name (by decide)) (gsok_cons (gok_name (by decide)) gsok_nil))) (fun _ _ _ _ _ => qts_nil) (fun _ _ _ _ _ => (qe_callTy call_tupX cd_tupX (by rfl) E.n_tuple bt_tuple (qa_cons (qe_lc rfl sc_product.nd (qi_seq (qv 2)) (own := [("c", 9), ("d", 10)]) (blkOk_by (by kernel_rfl)) (fun _ _ _ _ _ => (pg_tup rfl (pgs_cons (pg_name (i := 9) sc_product.nd rfl (by first | exact .inl rfl | exact .inr rfl)) (pgs_cons (pg_name (i := 10) sc_product.nd rfl (by first | exact .inl rfl | exact .inr rfl)) pgs_nil)))) (gok_tup (gsok_cons (gok_name (by decide)) (gsok_cons (gok_name (by decide)) gsok_nil))) (fun _ _ _ _ _ => qts_nil) (fun _ _ _ _ _ => (qe_op or_plus od_plus (qe_op or_times od_times (qe_ix (hu1 hr) (qe_ix (hu1 hr) (qe_fld E.f_Table_lines (qv 0)) (qv 7) (fun _ _ => rfl)) (qv 9) (fun _ _ => rfl)) (qv 5)) (qe_ix (hu1 hr) (qe_ix (hu1 hr) (qe_fld E.f_Table_lines (qv 1)) (qv 8) (fun _ _ => rfl)) (qv 10) (fun _ _ => rfl))))) qa_nil))))
  (qs_one (qs_ret (qe_makeI E.k_Table (k_table_init E) (hr.mono (by decide)) (by rfl) E.g_Table E.b_table_init .nil (fun _ => .nil) pass0 (qa_cons (qe_callTy call_tupX cd_tupX (by rfl) E.n_tuple bt_tuple (qa_cons (qv 3) qa_nil)) qa_nil)))))))))), ok_product E.C_Table⟩
theorem k_law (E : Env P w K mg base) : FnOk P w K mg base CX0 7 E.a_law E.d_law ["script"] (liftSp K (sp_law E.C_Table)) :=
  fn_okF E.F_law sc_law (hl_law E.C_Table) fun cdv A outer s H Ex hr => ⟨r_law E.C_Table (sp_law_pool E.C_Table) (sp_law_cell E.C_Table) (sp_table_init E.C_Table) (sp_law_group E.C_Table) (sp_law_take E.C_Table) (sp_table_len E.C_Table) (sp_order_of E.C_Table) (sp_homs E.C_Table) (sp_law_round E.C_Table) (sp_law_each_right E.C_Table) (sp_product E.C_Table), (qs_cons (qs_for PassesOwn.never rfl (qi_rng1 (by rfl) E.n_range (qa_cons (qe_callB (call_max2 rfl) cd_max2 (by rfl) E.n_max bt_max (qa_cons qe_int (qa_cons (qe_callB (call_min2 rfl) cd_min2 (by rfl) E.n_min bt_min (qa_cons qe_int (qa_cons (qe_callB cr_len cd_len (by rfl) E.n_len bt_len (qa_cons (qv 0) qa_nil)) qa_nil))) qa_nil))) qa_nil)) (qg_name (i := 1) sc_law.nd rfl (by first | exact .inl rfl | exact .inr rfl)) (qs_cons (qs_set (i := 2) sc_law.nd rfl (by first | exact .inl rfl | exact .inr rfl) (qe_call (k_law_pool E) (hr.mono (by decide)) (by rfl) E.m_law_pool E.F_law_pool.kp E.b_law_pool .nil (fun _ => .nil) pass0 (qa_cons (qe_call (k_law_cell E) (hr.mono (by decide)) (by rfl) E.m_law_cell E.F_law_cell.kp E.b_law_cell .nil (fun _ => .nil) pass0 (qa_cons (qv 0) (qa_cons (qv 1) qa_nil))) qa_nil)))
  (qs_cons (qs_asg (qe_lc rfl sc_law.nd (qi_rng1 (by rfl) E.n_range (qa_cons qe_int qa_nil)) (own := [("side", 12)]) (blkOk_by (by kernel_rfl)) (fun _ _ _ _ _ => (pg_name (i := 12) sc_law.nd rfl (by first | exact .inl rfl | exact .inr rfl))) (gok_name (by decide)) (fun _ _ _ _ _ => qts_nil) (fun _ _ _ _ _ => (qe_makeI E.k_Table (k_table_init E) (hr.mono (by decide)) (by rfl) E.g_Table E.b_table_init .nil (fun _ => .nil) pass0 (qa_cons (qe_call (k_law_group E) (hr.mono (by decide)) (by rfl) E.m_law_group E.F_law_group.kp E.b_law_group .nil (fun _ => .nil) pass0 (qa_cons (qv 2) (qa_cons qe_int qa_nil))) qa_nil)))) (qg_unl rfl (qgs_cons (qg_name (i := 6) sc_law.nd rfl (by first | exact .inl rfl | exact .inr rfl)) (qgs_cons (qg_name (i := 7) sc_law.nd rfl (by first | exact .inl rfl | exact .inr rfl)) (qgs_cons (qg_name (i := 8) sc_law.nd rfl (by first | exact .inl rfl | exact .inr rfl)) qgs_nil)))))
  (qs_cons (qs_set (i := 3) sc_law.nd rfl (by first | exact .inl rfl | exact .inr rfl) (qe_op or_plus od_plus qe_int (qe_call (k_law_take E) (hr.mono (by decide)) (by rfl) E.m_law_take E.F_law_take.kp E.b_law_take .nil (fun _ => .nil) pass0 (qa_cons (qv 2) (qa_cons qe_int qa_nil)))))
  (qs_cons (qs_setLc (i := 4) rfl sc_law.nd rfl rfl (sw_true rfl rfl rfl (by rfl)) (qi_rng1 (by rfl) E.n_range (qa_cons (qe_callB (cr_lenC E.l_Table E.lf_Table (k_table_len E) E.b_table_len (hr.mono (by decide)) pass0) cd_lenC (by rfl) E.n_len bt_len (qa_cons (qv 7) qa_nil)) qa_nil)) (own := [("member", 13)]) (blkOk_by (by kernel_rfl)) (fun _ _ _ _ _ => (pg_name (i := 13) sc_law.nd rfl (by first | exact .inl rfl | exact .inr rfl))) (gok_name (by decide)) (fun _ _ _ _ _ => (qts_one (qt_cmp (or_eq (hu64 hr)) od_eq (qe_op op_mod od_IIc (qv 3) (qe_call (k_order_of E) (hr.mono (by decide)) (by rfl) E.m_order_of E.F_order_of.kp E.b_order_of .nil (fun _ => .nil) pass0 (qa_cons (qv 7) (qa_cons (qv 13) qa_nil)))) qe_int (nomark _)))) (fun _ _ _ _ _ => (qv 13)))
  (qs_cons (qs_if (qt_cmp (or_ne (hu64 hr)) od_ne (qe_callB cr_len cd_len (by rfl) E.n_len bt_len (qa_cons (qe_call (k_homs E) (hr.mono (by decide)) (by rfl) E.m_homs E.F_homs.kp E.b_homs .nil (fun _ => .nil) pass0 (qa_cons (qe_makeI E.k_Table (k_table_init E) (hr.mono (by decide)) (by rfl) E.g_Table E.b_table_init .nil (fun _ => .nil) pass0 (qa_cons (qe_call (k_law_round E) (hr.mono (by decide)) (by rfl) E.m_law_round E.F_law_round.kp E.b_law_round .nil (fun _ => .nil) pass0 (qa_cons (qv 3) qa_nil)) qa_nil)) (qa_cons (qv 7) qa_nil))) qa_nil)) (qe_callB cr_len cd_len (by rfl) E.n_len bt_len (qa_cons (qv 4) qa_nil)) (nomark _)) (qs_one (qs_ret qe_bl)) qs_nil)
  (qs_cons (qs_par3 (i := 9) (j := 10) (l := 11) rfl sc_law.nd rfl rfl rfl (by decide) (by decide) (by decide) rfl rfl rfl (qa_cons (qe_call (k_homs E) (hr.mono (by decide)) (by rfl) E.m_homs E.F_homs.kp E.b_homs .nil (fun _ => .nil) pass0 (qa_cons (qv 6) (qa_cons (qv 7) qa_nil))) (qa_cons (qe_call (k_homs E) (hr.mono (by decide)) (by rfl) E.m_homs E.F_homs.kp E.b_homs .nil (fun _ => .nil) pass0 (qa_cons (qv 7) (qa_cons (qv 8) qa_nil))) (qa_cons (qe_call (k_homs E) (hr.mono (by decide)) (by rfl) E.m_homs E.F_homs.kp E.b_homs .nil (fun _ => .nil) pass0 (qa_cons (qv 6) (qa_cons (qv 8) qa_nil))) qa_nil))) (by rfl))
  (qs_cons (qs_if (qt_w (qw_or (qt_not (qt_val (qe_call (k_law_each_right E) (hr.mono (by decide)) (by rfl) E.m_law_each_right E.F_law_each_right.kp E.b_law_each_right .nil (fun _ => .nil) pass0 (qa_cons (qv 6) (qa_cons (qv 7) (qa_cons (qv 9) qa_nil)))))) (qw_or1 (qt_not (qt_val (qe_call (k_law_each_right E) (hr.mono (by decide)) (by rfl) E.m_law_each_right E.F_law_each_right.kp E.b_law_each_right .nil (fun _ => .nil) pass0 (qa_cons (qv 7) (qa_cons (qv 8) (qa_cons (qv 10) qa_nil))))))))) (qs_one (qs_ret qe_bl)) qs_nil)
  (qs_cons (qs_for PassesOwn.never rfl (qi_rng1 (by rfl) E.n_range (qa_cons qe_int qa_nil)) (qg_name (i := 5) sc_law.nd rfl (by first | exact .inl rfl | exact .inr rfl)) (qs_cons (qs_asg (qe_tup (qa_cons (qe_ix (hu1 hr) (qv 9) (qe_call (k_law_take E) (hr.mono (by decide)) (by rfl) E.m_law_take E.F_law_take.kp E.b_law_take .nil (fun _ => .nil) pass0 (qa_cons (qv 2) (qa_cons (qe_callB cr_len cd_len (by rfl) E.n_len bt_len (qa_cons (qv 9) qa_nil)) qa_nil))) (fun _ _ => rfl)) (qa_cons (qe_ix (hu1 hr) (qv 10) (qe_call (k_law_take E) (hr.mono (by decide)) (by rfl) E.m_law_take E.F_law_take.kp E.b_law_take .nil (fun _ => .nil) pass0 (qa_cons (qv 2) (qa_cons (qe_callB cr_len cd_len (by rfl) E.n_len bt_len (qa_cons (qv 10) qa_nil)) qa_nil))) (fun _ _ => rfl)) qa_nil))) (qg_tup rfl (qgs_cons (qg_name (i := 14) sc_law.nd rfl (by first | exact .inl rfl | exact .inr rfl)) (qgs_cons (qg_name (i := 15) sc_law.nd rfl (by first | exact .inl rfl | exact .inr rfl)) qgs_nil))))
  (qs_one (qs_if (qt_cmp (or_notIn (hu65 hr)) od_notIn (qe_callTy call_tuple_of cd_tupOf (by rfl) E.n_tuple bt_tuple (qa_cons (qe_lc rfl sc_law.nd (qi_seq (qv 14)) (own := [("aim", 16)]) (blkOk_by (by kernel_rfl)) (fun _ _ _ _ _ => (pg_name (i := 16) sc_law.nd rfl (by first | exact .inl rfl | exact .inr rfl))) (gok_name (by decide)) (fun _ _ _ _ _ => qts_nil) (fun _ _ _ _ _ => (qe_ix (hu1 hr) (qv 15) (qv 16) (fun _ _ => rfl)))) qa_nil)) (qv 11) (by rfl)) (qs_one (qs_ret qe_bl)) qs_nil))))
  (qs_one (qs_if (qt_w (qw_and (qt_cmp op_le od_IB (qe_op or_times od_times (qe_callB (cr_lenC E.l_Table E.lf_Table (k_table_len E) E.b_table_len (hr.mono (by decide)) pass0) cd_lenC (by rfl) E.n_len bt_len (qa_cons (qv 7) qa_nil)) (qe_callB (cr_lenC E.l_Table E.lf_Table (k_table_len E) E.b_table_len (hr.mono (by decide)) pass0) cd_lenC (by rfl) E.n_len bt_len (qa_cons (qv 8) qa_nil))) qe_int (nomark _)) (qw_and1 (qt_cmp (or_ne (hu64 hr)) od_ne (qe_callB cr_len cd_len (by rfl) E.n_len bt_len (qa_cons (qe_call (k_homs E) (hr.mono (by decide)) (by rfl) E.m_homs E.F_homs.kp E.b_homs .nil (fun _ => .nil) pass0 (qa_cons (qv 6) (qa_cons (qe_call (k_product E) (hr.mono (by decide)) (by rfl) E.m_product E.F_product.kp E.b_product .nil (fun _ => .nil) pass0 (qa_cons (qv 7) (qa_cons (qv 8) qa_nil))) qa_nil))) qa_nil)) (qe_op or_times od_times (qe_callB cr_len cd_len (by rfl) E.n_len bt_len (qa_cons (qv 9) qa_nil)) (qe_callB cr_len cd_len (by rfl) E.n_len bt_len (qa_cons (qv 11) qa_nil))) (nomark _))))) (qs_one (qs_ret qe_bl)) qs_nil)))))))))))
  (qs_one (qs_ret qe_bl))), ok_law E.C_Table⟩
end
theorem all_mk {l : PySem.W.OpenLaw} {w : World} {K : PySem.W.Frag} {h : Heap} {mg : Str → Option Value} {fa f_law_pool f_law_cell f_is_number f_has_form f_first_neutral f_first_back f_first_threes f_fault f_table_init f_law_take f_law_then f_law_lines f_law_move f_law_members f_law_small f_law_round f_law_product f_law_turned f_law_called f_law_group f_table_len f_check_table f_is_whole f_check_member f_powers_of f_order_of f_check_small f_spread f_leading_of f_grown f_all_grown f_homs_of f_homs f_leading f_back_of f_back f_law_each_right f_product f_law C_Table : Addr} (X : K.In h) (G : h.Ns mainGlobals mg) (hfa : mg "law" = some (.ref fa))
    {t_MOST_MAPPED t_MOST_MEMBERS : Tok}
    {od_law_pool an_law_pool od_law_cell an_law_cell od_is_number an_is_number od_has_form an_has_form od_first_neutral an_first_neutral od_first_back an_first_back od_first_threes an_first_threes od_fault an_fault od_table_init an_table_init od_law_take an_law_take od_law_then an_law_then od_law_lines an_law_lines od_law_move an_law_move od_law_members an_law_members od_law_small an_law_small od_law_round an_law_round od_law_product an_law_product od_law_turned an_law_turned od_law_called an_law_called od_law_group an_law_group od_table_len an_table_len od_check_table an_check_table od_is_whole an_is_whole od_check_member an_check_member od_powers_of an_powers_of od_order_of an_order_of od_check_small an_check_small od_spread an_spread od_leading_of an_leading_of od_grown an_grown od_all_grown an_all_grown od_homs_of an_homs_of od_homs an_homs od_leading an_leading od_back_of an_back_of od_back an_back od_law_each_right an_law_each_right od_product an_product od_law an_law : Option Addr} {sl_law_pool sl_law_cell sl_is_number sl_has_form sl_first_neutral sl_first_back sl_first_threes sl_fault sl_table_init sl_law_take sl_law_then sl_law_lines sl_law_move sl_law_members sl_law_small sl_law_round sl_law_product sl_law_turned sl_law_called sl_law_group sl_table_len sl_check_table sl_is_whole sl_check_member sl_powers_of sl_order_of sl_check_small sl_spread sl_leading_of sl_grown sl_all_grown sl_homs_of sl_homs sl_leading sl_back_of sl_back sl_law_each_right sl_product sl_law : Array (Option Value)} {oc_law_pool kV_law_pool dc_law_pool pm_law_pool cd_law_pool ct_law_pool oc_law_cell kV_law_cell dc_law_cell pm_law_cell cd_law_cell ct_law_cell oc_is_number kV_is_number dc_is_number pm_is_number cd_is_number ct_is_number oc_has_form kV_has_form dc_has_form pm_has_form cd_has_form ct_has_form oc_first_neutral kV_first_neutral dc_first_neutral pm_first_neutral cd_first_neutral ct_first_neutral oc_first_back kV_first_back dc_first_back pm_first_back cd_first_back ct_first_back oc_first_threes kV_first_threes dc_first_threes pm_first_threes cd_first_threes ct_first_threes oc_fault kV_fault dc_fault pm_fault cd_fault ct_fault oc_table_init kV_table_init dc_table_init pm_table_init cd_table_init ct_table_init oc_law_take kV_law_take dc_law_take pm_law_take cd_law_take ct_law_take oc_law_then kV_law_then dc_law_then pm_law_then cd_law_then ct_law_then oc_law_lines kV_law_lines dc_law_lines pm_law_lines cd_law_lines ct_law_lines oc_law_move kV_law_move dc_law_move pm_law_move cd_law_move ct_law_move oc_law_members kV_law_members dc_law_members pm_law_members cd_law_members ct_law_members oc_law_small kV_law_small dc_law_small pm_law_small cd_law_small ct_law_small oc_law_round kV_law_round dc_law_round pm_law_round cd_law_round ct_law_round oc_law_product kV_law_product dc_law_product pm_law_product cd_law_product ct_law_product oc_law_turned kV_law_turned dc_law_turned pm_law_turned cd_law_turned ct_law_turned oc_law_called kV_law_called dc_law_called pm_law_called cd_law_called ct_law_called oc_law_group kV_law_group dc_law_group pm_law_group cd_law_group ct_law_group oc_table_len kV_table_len dc_table_len pm_table_len cd_table_len ct_table_len oc_check_table kV_check_table dc_check_table pm_check_table cd_check_table ct_check_table oc_is_whole kV_is_whole dc_is_whole pm_is_whole cd_is_whole ct_is_whole oc_check_member kV_check_member dc_check_member pm_check_member cd_check_member ct_check_member oc_powers_of kV_powers_of dc_powers_of pm_powers_of cd_powers_of ct_powers_of oc_order_of kV_order_of dc_order_of pm_order_of cd_order_of ct_order_of oc_check_small kV_check_small dc_check_small pm_check_small cd_check_small ct_check_small oc_spread kV_spread dc_spread pm_spread cd_spread ct_spread oc_leading_of kV_leading_of dc_leading_of pm_leading_of cd_leading_of ct_leading_of oc_grown kV_grown dc_grown pm_grown cd_grown ct_grown oc_all_grown kV_all_grown dc_all_grown pm_all_grown cd_all_grown ct_all_grown oc_homs_of kV_homs_of dc_homs_of pm_homs_of cd_homs_of ct_homs_of oc_homs kV_homs dc_homs pm_homs cd_homs ct_homs oc_leading kV_leading dc_leading pm_leading cd_leading ct_leading oc_back_of kV_back_of dc_back_of pm_back_of cd_back_of ct_back_of oc_back kV_back dc_back pm_back cd_back ct_back oc_law_each_right kV_law_each_right dc_law_each_right pm_law_each_right cd_law_each_right ct_law_each_right oc_product kV_product dc_product pm_product cd_product ct_product oc_law kV_law dc_law pm_law cd_law ct_law : Value}
    (gc_Table : PySem.W.nsIn K mainGlobals "Table" = some (some (.ref C_Table)))
    (a_law_pool : PySem.W.nsIn K mainGlobals "_law_pool" = some (some (.ref f_law_pool)))
    (l_law_pool : K.lookup f_law_pool = some ⟨oc_law_pool, od_law_pool, .func (PySem.W.fnOf "_law_pool" "_law_pool" (defArgs s_law_pool) (defBody s_law_pool) (defScope s_law_pool) .none kV_law_pool dc_law_pool pm_law_pool an_law_pool cd_law_pool ct_law_pool), sl_law_pool⟩)
    (c_law_pool : PySem.W.codeIn K cd_law_pool "_law_pool" = true)
    (k_law_pool : PySem.W.keepIn K (.ref f_law_pool) = true)
    (a_law_cell : PySem.W.nsIn K mainGlobals "_law_cell" = some (some (.ref f_law_cell)))
    (l_law_cell : K.lookup f_law_cell = some ⟨oc_law_cell, od_law_cell, .func (PySem.W.fnOf "_law_cell" "_law_cell" (defArgs s_law_cell) (defBody s_law_cell) (defScope s_law_cell) .none kV_law_cell dc_law_cell pm_law_cell an_law_cell cd_law_cell ct_law_cell), sl_law_cell⟩)
    (c_law_cell : PySem.W.codeIn K cd_law_cell "_law_cell" = true)
    (k_law_cell : PySem.W.keepIn K (.ref f_law_cell) = true)
    (a_is_number : PySem.W.nsIn K mainGlobals "is_number" = some (some (.ref f_is_number)))
    (l_is_number : K.lookup f_is_number = some ⟨oc_is_number, od_is_number, .func (PySem.W.fnOf "is_number" "is_number" (defArgs s_is_number) (defBody s_is_number) (defScope s_is_number) .none kV_is_number dc_is_number pm_is_number an_is_number cd_is_number ct_is_number), sl_is_number⟩)
    (c_is_number : PySem.W.codeIn K cd_is_number "is_number" = true)
    (k_is_number : PySem.W.keepIn K (.ref f_is_number) = true)
    (a_has_form : PySem.W.nsIn K mainGlobals "has_form" = some (some (.ref f_has_form)))
    (l_has_form : K.lookup f_has_form = some ⟨oc_has_form, od_has_form, .func (PySem.W.fnOf "has_form" "has_form" (defArgs s_has_form) (defBody s_has_form) (defScope s_has_form) .none kV_has_form dc_has_form pm_has_form an_has_form cd_has_form ct_has_form), sl_has_form⟩)
    (c_has_form : PySem.W.codeIn K cd_has_form "has_form" = true)
    (k_has_form : PySem.W.keepIn K (.ref f_has_form) = true)
    (a_first_neutral : PySem.W.nsIn K mainGlobals "first_neutral" = some (some (.ref f_first_neutral)))
    (l_first_neutral : K.lookup f_first_neutral = some ⟨oc_first_neutral, od_first_neutral, .func (PySem.W.fnOf "first_neutral" "first_neutral" (defArgs s_first_neutral) (defBody s_first_neutral) (defScope s_first_neutral) .none kV_first_neutral dc_first_neutral pm_first_neutral an_first_neutral cd_first_neutral ct_first_neutral), sl_first_neutral⟩)
    (c_first_neutral : PySem.W.codeIn K cd_first_neutral "first_neutral" = true)
    (k_first_neutral : PySem.W.keepIn K (.ref f_first_neutral) = true)
    (a_first_back : PySem.W.nsIn K mainGlobals "first_back" = some (some (.ref f_first_back)))
    (l_first_back : K.lookup f_first_back = some ⟨oc_first_back, od_first_back, .func (PySem.W.fnOf "first_back" "first_back" (defArgs s_first_back) (defBody s_first_back) (defScope s_first_back) .none kV_first_back dc_first_back pm_first_back an_first_back cd_first_back ct_first_back), sl_first_back⟩)
    (c_first_back : PySem.W.codeIn K cd_first_back "first_back" = true)
    (k_first_back : PySem.W.keepIn K (.ref f_first_back) = true)
    (a_first_threes : PySem.W.nsIn K mainGlobals "first_threes" = some (some (.ref f_first_threes)))
    (l_first_threes : K.lookup f_first_threes = some ⟨oc_first_threes, od_first_threes, .func (PySem.W.fnOf "first_threes" "first_threes" (defArgs s_first_threes) (defBody s_first_threes) (defScope s_first_threes) .none kV_first_threes dc_first_threes pm_first_threes an_first_threes cd_first_threes ct_first_threes), sl_first_threes⟩)
    (c_first_threes : PySem.W.codeIn K cd_first_threes "first_threes" = true)
    (k_first_threes : PySem.W.keepIn K (.ref f_first_threes) = true)
    (a_fault : PySem.W.nsIn K mainGlobals "fault" = some (some (.ref f_fault)))
    (l_fault : K.lookup f_fault = some ⟨oc_fault, od_fault, .func (PySem.W.fnOf "fault" "fault" (defArgs s_fault) (defBody s_fault) (defScope s_fault) .none kV_fault dc_fault pm_fault an_fault cd_fault ct_fault), sl_fault⟩)
    (c_fault : PySem.W.codeIn K cd_fault "fault" = true)
    (k_fault : PySem.W.keepIn K (.ref f_fault) = true)
    (a_table_init : PySem.W.findIn K (.ref C_Table) "__init__" = some (some (.ref f_table_init)))
    (i_table_init : PySem.W.isFn K (.ref f_table_init) = true)
    (l_table_init : K.lookup f_table_init = some ⟨oc_table_init, od_table_init, .func (PySem.W.fnOf "__init__" "Table.__init__" (defArgs s_table_init) (defBody s_table_init) (defScope s_table_init) .none kV_table_init dc_table_init pm_table_init an_table_init cd_table_init ct_table_init), sl_table_init⟩)
    (c_table_init : PySem.W.codeIn K cd_table_init "Table.__init__" = true)
    (k_table_init : PySem.W.keepIn K (.ref f_table_init) = true)
    (a_law_take : PySem.W.nsIn K mainGlobals "_law_take" = some (some (.ref f_law_take)))
    (l_law_take : K.lookup f_law_take = some ⟨oc_law_take, od_law_take, .func (PySem.W.fnOf "_law_take" "_law_take" (defArgs s_law_take) (defBody s_law_take) (defScope s_law_take) .none kV_law_take dc_law_take pm_law_take an_law_take cd_law_take ct_law_take), sl_law_take⟩)
    (c_law_take : PySem.W.codeIn K cd_law_take "_law_take" = true)
    (k_law_take : PySem.W.keepIn K (.ref f_law_take) = true)
    (a_law_then : PySem.W.nsIn K mainGlobals "_law_then" = some (some (.ref f_law_then)))
    (l_law_then : K.lookup f_law_then = some ⟨oc_law_then, od_law_then, .func (PySem.W.fnOf "_law_then" "_law_then" (defArgs s_law_then) (defBody s_law_then) (defScope s_law_then) .none kV_law_then dc_law_then pm_law_then an_law_then cd_law_then ct_law_then), sl_law_then⟩)
    (c_law_then : PySem.W.codeIn K cd_law_then "_law_then" = true)
    (k_law_then : PySem.W.keepIn K (.ref f_law_then) = true)
    (a_law_lines : PySem.W.nsIn K mainGlobals "_law_lines" = some (some (.ref f_law_lines)))
    (l_law_lines : K.lookup f_law_lines = some ⟨oc_law_lines, od_law_lines, .func (PySem.W.fnOf "_law_lines" "_law_lines" (defArgs s_law_lines) (defBody s_law_lines) (defScope s_law_lines) .none kV_law_lines dc_law_lines pm_law_lines an_law_lines cd_law_lines ct_law_lines), sl_law_lines⟩)
    (c_law_lines : PySem.W.codeIn K cd_law_lines "_law_lines" = true)
    (k_law_lines : PySem.W.keepIn K (.ref f_law_lines) = true)
    (a_law_move : PySem.W.nsIn K mainGlobals "_law_move" = some (some (.ref f_law_move)))
    (l_law_move : K.lookup f_law_move = some ⟨oc_law_move, od_law_move, .func (PySem.W.fnOf "_law_move" "_law_move" (defArgs s_law_move) (defBody s_law_move) (defScope s_law_move) .none kV_law_move dc_law_move pm_law_move an_law_move cd_law_move ct_law_move), sl_law_move⟩)
    (c_law_move : PySem.W.codeIn K cd_law_move "_law_move" = true)
    (k_law_move : PySem.W.keepIn K (.ref f_law_move) = true)
    (a_law_members : PySem.W.nsIn K mainGlobals "_law_members" = some (some (.ref f_law_members)))
    (l_law_members : K.lookup f_law_members = some ⟨oc_law_members, od_law_members, .func (PySem.W.fnOf "_law_members" "_law_members" (defArgs s_law_members) (defBody s_law_members) (defScope s_law_members) .none kV_law_members dc_law_members pm_law_members an_law_members cd_law_members ct_law_members), sl_law_members⟩)
    (c_law_members : PySem.W.codeIn K cd_law_members "_law_members" = true)
    (k_law_members : PySem.W.keepIn K (.ref f_law_members) = true)
    (a_law_small : PySem.W.nsIn K mainGlobals "_law_small" = some (some (.ref f_law_small)))
    (l_law_small : K.lookup f_law_small = some ⟨oc_law_small, od_law_small, .func (PySem.W.fnOf "_law_small" "_law_small" (defArgs s_law_small) (defBody s_law_small) (defScope s_law_small) .none kV_law_small dc_law_small pm_law_small an_law_small cd_law_small ct_law_small), sl_law_small⟩)
    (c_law_small : PySem.W.codeIn K cd_law_small "_law_small" = true)
    (k_law_small : PySem.W.keepIn K (.ref f_law_small) = true)
    (a_law_round : PySem.W.nsIn K mainGlobals "_law_round" = some (some (.ref f_law_round)))
    (l_law_round : K.lookup f_law_round = some ⟨oc_law_round, od_law_round, .func (PySem.W.fnOf "_law_round" "_law_round" (defArgs s_law_round) (defBody s_law_round) (defScope s_law_round) .none kV_law_round dc_law_round pm_law_round an_law_round cd_law_round ct_law_round), sl_law_round⟩)
    (c_law_round : PySem.W.codeIn K cd_law_round "_law_round" = true)
    (k_law_round : PySem.W.keepIn K (.ref f_law_round) = true)
    (a_law_product : PySem.W.nsIn K mainGlobals "_law_product" = some (some (.ref f_law_product)))
    (l_law_product : K.lookup f_law_product = some ⟨oc_law_product, od_law_product, .func (PySem.W.fnOf "_law_product" "_law_product" (defArgs s_law_product) (defBody s_law_product) (defScope s_law_product) .none kV_law_product dc_law_product pm_law_product an_law_product cd_law_product ct_law_product), sl_law_product⟩)
    (c_law_product : PySem.W.codeIn K cd_law_product "_law_product" = true)
    (k_law_product : PySem.W.keepIn K (.ref f_law_product) = true)
    (a_law_turned : PySem.W.nsIn K mainGlobals "_law_turned" = some (some (.ref f_law_turned)))
    (l_law_turned : K.lookup f_law_turned = some ⟨oc_law_turned, od_law_turned, .func (PySem.W.fnOf "_law_turned" "_law_turned" (defArgs s_law_turned) (defBody s_law_turned) (defScope s_law_turned) .none kV_law_turned dc_law_turned pm_law_turned an_law_turned cd_law_turned ct_law_turned), sl_law_turned⟩)
    (c_law_turned : PySem.W.codeIn K cd_law_turned "_law_turned" = true)
    (k_law_turned : PySem.W.keepIn K (.ref f_law_turned) = true)
    (a_law_called : PySem.W.nsIn K mainGlobals "_law_called" = some (some (.ref f_law_called)))
    (l_law_called : K.lookup f_law_called = some ⟨oc_law_called, od_law_called, .func (PySem.W.fnOf "_law_called" "_law_called" (defArgs s_law_called) (defBody s_law_called) (defScope s_law_called) .none kV_law_called dc_law_called pm_law_called an_law_called cd_law_called ct_law_called), sl_law_called⟩)
    (c_law_called : PySem.W.codeIn K cd_law_called "_law_called" = true)
    (k_law_called : PySem.W.keepIn K (.ref f_law_called) = true)
    (a_law_group : PySem.W.nsIn K mainGlobals "_law_group" = some (some (.ref f_law_group)))
    (l_law_group : K.lookup f_law_group = some ⟨oc_law_group, od_law_group, .func (PySem.W.fnOf "_law_group" "_law_group" (defArgs s_law_group) (defBody s_law_group) (defScope s_law_group) .none kV_law_group dc_law_group pm_law_group an_law_group cd_law_group ct_law_group), sl_law_group⟩)
    (c_law_group : PySem.W.codeIn K cd_law_group "_law_group" = true)
    (k_law_group : PySem.W.keepIn K (.ref f_law_group) = true)
    (a_table_len : PySem.W.findIn K (.ref C_Table) "__len__" = some (some (.ref f_table_len)))
    (i_table_len : PySem.W.isFn K (.ref f_table_len) = true)
    (l_table_len : K.lookup f_table_len = some ⟨oc_table_len, od_table_len, .func (PySem.W.fnOf "__len__" "Table.__len__" (defArgs s_table_len) (defBody s_table_len) (defScope s_table_len) .none kV_table_len dc_table_len pm_table_len an_table_len cd_table_len ct_table_len), sl_table_len⟩)
    (c_table_len : PySem.W.codeIn K cd_table_len "Table.__len__" = true)
    (k_table_len : PySem.W.keepIn K (.ref f_table_len) = true)
    (a_check_table : PySem.W.nsIn K mainGlobals "check_table" = some (some (.ref f_check_table)))
    (l_check_table : K.lookup f_check_table = some ⟨oc_check_table, od_check_table, .func (PySem.W.fnOf "check_table" "check_table" (defArgs s_check_table) (defBody s_check_table) (defScope s_check_table) .none kV_check_table dc_check_table pm_check_table an_check_table cd_check_table ct_check_table), sl_check_table⟩)
    (c_check_table : PySem.W.codeIn K cd_check_table "check_table" = true)
    (k_check_table : PySem.W.keepIn K (.ref f_check_table) = true)
    (a_is_whole : PySem.W.nsIn K mainGlobals "is_whole" = some (some (.ref f_is_whole)))
    (l_is_whole : K.lookup f_is_whole = some ⟨oc_is_whole, od_is_whole, .func (PySem.W.fnOf "is_whole" "is_whole" (defArgs s_is_whole) (defBody s_is_whole) (defScope s_is_whole) .none kV_is_whole dc_is_whole pm_is_whole an_is_whole cd_is_whole ct_is_whole), sl_is_whole⟩)
    (c_is_whole : PySem.W.codeIn K cd_is_whole "is_whole" = true)
    (k_is_whole : PySem.W.keepIn K (.ref f_is_whole) = true)
    (a_check_member : PySem.W.nsIn K mainGlobals "check_member" = some (some (.ref f_check_member)))
    (l_check_member : K.lookup f_check_member = some ⟨oc_check_member, od_check_member, .func (PySem.W.fnOf "check_member" "check_member" (defArgs s_check_member) (defBody s_check_member) (defScope s_check_member) .none kV_check_member dc_check_member pm_check_member an_check_member cd_check_member ct_check_member), sl_check_member⟩)
    (c_check_member : PySem.W.codeIn K cd_check_member "check_member" = true)
    (k_check_member : PySem.W.keepIn K (.ref f_check_member) = true)
    (a_powers_of : PySem.W.nsIn K mainGlobals "powers_of" = some (some (.ref f_powers_of)))
    (l_powers_of : K.lookup f_powers_of = some ⟨oc_powers_of, od_powers_of, .func (PySem.W.fnOf "powers_of" "powers_of" (defArgs s_powers_of) (defBody s_powers_of) (defScope s_powers_of) .none kV_powers_of dc_powers_of pm_powers_of an_powers_of cd_powers_of ct_powers_of), sl_powers_of⟩)
    (c_powers_of : PySem.W.codeIn K cd_powers_of "powers_of" = true)
    (k_powers_of : PySem.W.keepIn K (.ref f_powers_of) = true)
    (a_order_of : PySem.W.nsIn K mainGlobals "order_of" = some (some (.ref f_order_of)))
    (l_order_of : K.lookup f_order_of = some ⟨oc_order_of, od_order_of, .func (PySem.W.fnOf "order_of" "order_of" (defArgs s_order_of) (defBody s_order_of) (defScope s_order_of) .none kV_order_of dc_order_of pm_order_of an_order_of cd_order_of ct_order_of), sl_order_of⟩)
    (c_order_of : PySem.W.codeIn K cd_order_of "order_of" = true)
    (k_order_of : PySem.W.keepIn K (.ref f_order_of) = true)
    (a_check_small : PySem.W.nsIn K mainGlobals "check_small" = some (some (.ref f_check_small)))
    (l_check_small : K.lookup f_check_small = some ⟨oc_check_small, od_check_small, .func (PySem.W.fnOf "check_small" "check_small" (defArgs s_check_small) (defBody s_check_small) (defScope s_check_small) .none kV_check_small dc_check_small pm_check_small an_check_small cd_check_small ct_check_small), sl_check_small⟩)
    (c_check_small : PySem.W.codeIn K cd_check_small "check_small" = true)
    (k_check_small : PySem.W.keepIn K (.ref f_check_small) = true)
    (a_spread : PySem.W.nsIn K mainGlobals "spread" = some (some (.ref f_spread)))
    (l_spread : K.lookup f_spread = some ⟨oc_spread, od_spread, .func (PySem.W.fnOf "spread" "spread" (defArgs s_spread) (defBody s_spread) (defScope s_spread) .none kV_spread dc_spread pm_spread an_spread cd_spread ct_spread), sl_spread⟩)
    (c_spread : PySem.W.codeIn K cd_spread "spread" = true)
    (k_spread : PySem.W.keepIn K (.ref f_spread) = true)
    (a_leading_of : PySem.W.nsIn K mainGlobals "leading_of" = some (some (.ref f_leading_of)))
    (l_leading_of : K.lookup f_leading_of = some ⟨oc_leading_of, od_leading_of, .func (PySem.W.fnOf "leading_of" "leading_of" (defArgs s_leading_of) (defBody s_leading_of) (defScope s_leading_of) .none kV_leading_of dc_leading_of pm_leading_of an_leading_of cd_leading_of ct_leading_of), sl_leading_of⟩)
    (c_leading_of : PySem.W.codeIn K cd_leading_of "leading_of" = true)
    (k_leading_of : PySem.W.keepIn K (.ref f_leading_of) = true)
    (a_grown : PySem.W.nsIn K mainGlobals "grown" = some (some (.ref f_grown)))
    (l_grown : K.lookup f_grown = some ⟨oc_grown, od_grown, .func (PySem.W.fnOf "grown" "grown" (defArgs s_grown) (defBody s_grown) (defScope s_grown) .none kV_grown dc_grown pm_grown an_grown cd_grown ct_grown), sl_grown⟩)
    (c_grown : PySem.W.codeIn K cd_grown "grown" = true)
    (k_grown : PySem.W.keepIn K (.ref f_grown) = true)
    (a_all_grown : PySem.W.nsIn K mainGlobals "all_grown" = some (some (.ref f_all_grown)))
    (l_all_grown : K.lookup f_all_grown = some ⟨oc_all_grown, od_all_grown, .func (PySem.W.fnOf "all_grown" "all_grown" (defArgs s_all_grown) (defBody s_all_grown) (defScope s_all_grown) .none kV_all_grown dc_all_grown pm_all_grown an_all_grown cd_all_grown ct_all_grown), sl_all_grown⟩)
    (c_all_grown : PySem.W.codeIn K cd_all_grown "all_grown" = true)
    (k_all_grown : PySem.W.keepIn K (.ref f_all_grown) = true)
    (a_homs_of : PySem.W.nsIn K mainGlobals "homs_of" = some (some (.ref f_homs_of)))
    (l_homs_of : K.lookup f_homs_of = some ⟨oc_homs_of, od_homs_of, .func (PySem.W.fnOf "homs_of" "homs_of" (defArgs s_homs_of) (defBody s_homs_of) (defScope s_homs_of) .none kV_homs_of dc_homs_of pm_homs_of an_homs_of cd_homs_of ct_homs_of), sl_homs_of⟩)
    (c_homs_of : PySem.W.codeIn K cd_homs_of "homs_of" = true)
    (k_homs_of : PySem.W.keepIn K (.ref f_homs_of) = true)
    (a_homs : PySem.W.nsIn K mainGlobals "homs" = some (some (.ref f_homs)))
    (l_homs : K.lookup f_homs = some ⟨oc_homs, od_homs, .func (PySem.W.fnOf "homs" "homs" (defArgs s_homs) (defBody s_homs) (defScope s_homs) .none kV_homs dc_homs pm_homs an_homs cd_homs ct_homs), sl_homs⟩)
    (c_homs : PySem.W.codeIn K cd_homs "homs" = true)
    (k_homs : PySem.W.keepIn K (.ref f_homs) = true)
    (a_leading : PySem.W.nsIn K mainGlobals "leading" = some (some (.ref f_leading)))
    (l_leading : K.lookup f_leading = some ⟨oc_leading, od_leading, .func (PySem.W.fnOf "leading" "leading" (defArgs s_leading) (defBody s_leading) (defScope s_leading) .none kV_leading dc_leading pm_leading an_leading cd_leading ct_leading), sl_leading⟩)
    (c_leading : PySem.W.codeIn K cd_leading "leading" = true)
    (k_leading : PySem.W.keepIn K (.ref f_leading) = true)
    (a_back_of : PySem.W.nsIn K mainGlobals "back_of" = some (some (.ref f_back_of)))
    (l_back_of : K.lookup f_back_of = some ⟨oc_back_of, od_back_of, .func (PySem.W.fnOf "back_of" "back_of" (defArgs s_back_of) (defBody s_back_of) (defScope s_back_of) .none kV_back_of dc_back_of pm_back_of an_back_of cd_back_of ct_back_of), sl_back_of⟩)
    (c_back_of : PySem.W.codeIn K cd_back_of "back_of" = true)
    (k_back_of : PySem.W.keepIn K (.ref f_back_of) = true)
    (a_back : PySem.W.nsIn K mainGlobals "back" = some (some (.ref f_back)))
    (l_back : K.lookup f_back = some ⟨oc_back, od_back, .func (PySem.W.fnOf "back" "back" (defArgs s_back) (defBody s_back) (defScope s_back) .none kV_back dc_back pm_back an_back cd_back ct_back), sl_back⟩)
    (c_back : PySem.W.codeIn K cd_back "back" = true)
    (k_back : PySem.W.keepIn K (.ref f_back) = true)
    (a_law_each_right : PySem.W.nsIn K mainGlobals "_law_each_right" = some (some (.ref f_law_each_right)))
    (l_law_each_right : K.lookup f_law_each_right = some ⟨oc_law_each_right, od_law_each_right, .func (PySem.W.fnOf "_law_each_right" "_law_each_right" (defArgs s_law_each_right) (defBody s_law_each_right) (defScope s_law_each_right) .none kV_law_each_right dc_law_each_right pm_law_each_right an_law_each_right cd_law_each_right ct_law_each_right), sl_law_each_right⟩)
    (c_law_each_right : PySem.W.codeIn K cd_law_each_right "_law_each_right" = true)
    (k_law_each_right : PySem.W.keepIn K (.ref f_law_each_right) = true)
    (a_product : PySem.W.nsIn K mainGlobals "product" = some (some (.ref f_product)))
    (l_product : K.lookup f_product = some ⟨oc_product, od_product, .func (PySem.W.fnOf "product" "product" (defArgs s_product) (defBody s_product) (defScope s_product) .none kV_product dc_product pm_product an_product cd_product ct_product), sl_product⟩)
    (c_product : PySem.W.codeIn K cd_product "product" = true)
    (k_product : PySem.W.keepIn K (.ref f_product) = true)
    (a_law : PySem.W.nsIn K mainGlobals "law" = some (some (.ref f_law)))
    (l_law : K.lookup f_law = some ⟨oc_law, od_law, .func (PySem.W.fnOf "law" "law" (defArgs s_law) (defBody s_law) (defScope s_law) .none kV_law dc_law pm_law an_law cd_law ct_law), sl_law⟩)
    (c_law : PySem.W.codeIn K cd_law "law" = true)
    (k_law : PySem.W.keepIn K (.ref f_law) = true)
    (pg_Table : PySem.W.plainGet K C_Table Str.empty = true)
    (hd_Table : PySem.W.hasDictIn K C_Table = true)
    (po_Table : PySem.W.plainOver K C_Table = true)
    (sa_Table : PySem.W.findIn K (.ref C_Table) "__setattr__" = some (some (.builtin "object.__setattr__")))
    (mk_Table : PySem.W.makesIn K C_Table = true)
    (kc_Table : PySem.W.keepIn K (.ref C_Table) = true)
    (ha_Table : PySem.W.findIn K (.ref C_Table) "__class__" = some (some (.builtin "object.__class__")))
    (mo_Table : PySem.W.mroIn K C_Table (.type "object") = some true)
    (nf_Table_lines : PySem.W.findIn K (.ref C_Table) "lines" = some none)
    (hn0 : PySem.W.specialIn K (.builtin "object.__class__") "__get__" = some (some (.builtin "getset_descriptor.__get__")))
    (ht0 : PySem.W.takesIn K (.builtin "object.__class__") = some true)
    (z_abs : PySem.W.nsIn K mainGlobals "abs" = some none)
    (z_all : PySem.W.nsIn K mainGlobals "all" = some none)
    (z_bool : PySem.W.nsIn K mainGlobals "bool" = some none)
    (z_dict : PySem.W.nsIn K mainGlobals "dict" = some none)
    (z_divmod : PySem.W.nsIn K mainGlobals "divmod" = some none)
    (z_enumerate : PySem.W.nsIn K mainGlobals "enumerate" = some none)
    (z_int : PySem.W.nsIn K mainGlobals "int" = some none)
    (z_isinstance : PySem.W.nsIn K mainGlobals "isinstance" = some none)
    (z_len : PySem.W.nsIn K mainGlobals "len" = some none)
    (z_list : PySem.W.nsIn K mainGlobals "list" = some none)
    (z_max : PySem.W.nsIn K mainGlobals "max" = some none)
    (z_min : PySem.W.nsIn K mainGlobals "min" = some none)
    (z_range : PySem.W.nsIn K mainGlobals "range" = some none)
    (z_set : PySem.W.nsIn K mainGlobals "set" = some none)
    (z_sorted : PySem.W.nsIn K mainGlobals "sorted" = some none)
    (z_tuple : PySem.W.nsIn K mainGlobals "tuple" = some none)
    (z_zip : PySem.W.nsIn K mainGlobals "zip" = some none)
    (q_MOST_MAPPED : PySem.W.nsIn K mainGlobals "MOST_MAPPED" = some (some (.int 12 t_MOST_MAPPED)))
    (q_MOST_MEMBERS : PySem.W.nsIn K mainGlobals "MOST_MEMBERS" = some (some (.int 48 t_MOST_MEMBERS))) :
    ∃ fd : FuncData, (∀ (s : Shared) (v : Value), BindsTo s fd ⟨[v], []⟩ [("script", v)]) ∧ ∀ base : Heap, K.In base → base.Ns mainGlobals mg → FnOk l.prog w K mg base CX0 7 fa fd ["script"] (liftSp K spLaw) := by
  have e := hfa.symm.trans (PySem.W.mg_of X G a_law)
  cases e
  have F_law_pool := fun_mk (st := s_law_pool) l_law_pool c_law_pool k_law_pool
  have F_law_cell := fun_mk (st := s_law_cell) l_law_cell c_law_cell k_law_cell
  have F_is_number := fun_mk (st := s_is_number) l_is_number c_is_number k_is_number
  have F_has_form := fun_mk (st := s_has_form) l_has_form c_has_form k_has_form
  have F_first_neutral := fun_mk (st := s_first_neutral) l_first_neutral c_first_neutral k_first_neutral
  have F_first_back := fun_mk (st := s_first_back) l_first_back c_first_back k_first_back
  have F_first_threes := fun_mk (st := s_first_threes) l_first_threes c_first_threes k_first_threes
  have F_fault := fun_mk (st := s_fault) l_fault c_fault k_fault
  have F_table_init := fun_mk (st := s_table_init) l_table_init c_table_init k_table_init
  have F_law_take := fun_mk (st := s_law_take) l_law_take c_law_take k_law_take
  have F_law_then := fun_mk (st := s_law_then) l_law_then c_law_then k_law_then
  have F_law_lines := fun_mk (st := s_law_lines) l_law_lines c_law_lines k_law_lines
  have F_law_move := fun_mk (st := s_law_move) l_law_move c_law_move k_law_move
  have F_law_members := fun_mk (st := s_law_members) l_law_members c_law_members k_law_members
  have F_law_small := fun_mk (st := s_law_small) l_law_small c_law_small k_law_small
  have F_law_round := fun_mk (st := s_law_round) l_law_round c_law_round k_law_round
  have F_law_product := fun_mk (st := s_law_product) l_law_product c_law_product k_law_product
  have F_law_turned := fun_mk (st := s_law_turned) l_law_turned c_law_turned k_law_turned
  have F_law_called := fun_mk (st := s_law_called) l_law_called c_law_called k_law_called
  have F_law_group := fun_mk (st := s_law_group) l_law_group c_law_group k_law_group
  have F_table_len := fun_mk (st := s_table_len) l_table_len c_table_len k_table_len
  have F_check_table := fun_mk (st := s_check_table) l_check_table c_check_table k_check_table
  have F_is_whole := fun_mk (st := s_is_whole) l_is_whole c_is_whole k_is_whole
  have F_check_member := fun_mk (st := s_check_member) l_check_member c_check_member k_check_member
  have F_powers_of := fun_mk (st := s_powers_of) l_powers_of c_powers_of k_powers_of
  have F_order_of := fun_mk (st := s_order_of) l_order_of c_order_of k_order_of
  have F_check_small := fun_mk (st := s_check_small) l_check_small c_check_small k_check_small
  have F_spread := fun_mk (st := s_spread) l_spread c_spread k_spread
  have F_leading_of := fun_mk (st := s_leading_of) l_leading_of c_leading_of k_leading_of
  have F_grown := fun_mk (st := s_grown) l_grown c_grown k_grown
  have F_all_grown := fun_mk (st := s_all_grown) l_all_grown c_all_grown k_all_grown
  have F_homs_of := fun_mk (st := s_homs_of) l_homs_of c_homs_of k_homs_of
  have F_homs := fun_mk (st := s_homs) l_homs c_homs k_homs
  have F_leading := fun_mk (st := s_leading) l_leading c_leading k_leading
  have F_back_of := fun_mk (st := s_back_of) l_back_of c_back_of k_back_of
  have F_back := fun_mk (st := s_back) l_back c_back k_back
  have F_law_each_right := fun_mk (st := s_law_each_right) l_law_each_right c_law_each_right k_law_each_right
  have F_product := fun_mk (st := s_product) l_product c_product k_product
  have F_law := fun_mk (st := s_law) l_law c_law k_law
  refine ⟨PySem.W.fnOf "law" "law" (defArgs s_law) (defBody s_law) (defScope s_law) .none kV_law dc_law pm_law an_law cd_law ct_law, ?_, ?_⟩
  · exact fun s v => .of_eq rfl
  refine fun base _ _ => ?_
  exact T73.k_law (Env.mk (a_law_pool := f_law_pool)
    (d_law_pool := _)
    (F_law_pool := F_law_pool)
    (b_law_pool := F_law_pool.binds (ps := ["cell"]) (fun _ _ _ _ _ _ us hl => match us, hl with | [_], _ => rfl))
    (m_law_pool := PySem.W.mg_of X G a_law_pool)
    (a_law_cell := f_law_cell)
    (d_law_cell := _)
    (F_law_cell := F_law_cell)
    (b_law_cell := F_law_cell.binds (ps := ["script", "k"]) (fun _ _ _ _ _ _ us hl => match us, hl with | [_, _], _ => rfl))
    (m_law_cell := PySem.W.mg_of X G a_law_cell)
    (a_is_number := f_is_number)
    (d_is_number := _)
    (F_is_number := F_is_number)
    (b_is_number := F_is_number.binds (ps := ["thing", "most"]) (fun _ _ _ _ _ _ us hl => match us, hl with | [_, _], _ => rfl))
    (m_is_number := PySem.W.mg_of X G a_is_number)
    (a_has_form := f_has_form)
    (d_has_form := _)
    (F_has_form := F_has_form)
    (b_has_form := F_has_form.binds (ps := ["lines"]) (fun _ _ _ _ _ _ us hl => match us, hl with | [_], _ => rfl))
    (m_has_form := PySem.W.mg_of X G a_has_form)
    (a_first_neutral := f_first_neutral)
    (d_first_neutral := _)
    (F_first_neutral := F_first_neutral)
    (b_first_neutral := F_first_neutral.binds (ps := ["lines"]) (fun _ _ _ _ _ _ us hl => match us, hl with | [_], _ => rfl))
    (m_first_neutral := PySem.W.mg_of X G a_first_neutral)
    (a_first_back := f_first_back)
    (d_first_back := _)
    (F_first_back := F_first_back)
    (b_first_back := F_first_back.binds (ps := ["lines"]) (fun _ _ _ _ _ _ us hl => match us, hl with | [_], _ => rfl))
    (m_first_back := PySem.W.mg_of X G a_first_back)
    (a_first_threes := f_first_threes)
    (d_first_threes := _)
    (F_first_threes := F_first_threes)
    (b_first_threes := F_first_threes.binds (ps := ["lines"]) (fun _ _ _ _ _ _ us hl => match us, hl with | [_], _ => rfl))
    (m_first_threes := PySem.W.mg_of X G a_first_threes)
    (a_fault := f_fault)
    (d_fault := _)
    (F_fault := F_fault)
    (b_fault := F_fault.binds (ps := ["lines"]) (fun _ _ _ _ _ _ us hl => match us, hl with | [_], _ => rfl))
    (m_fault := PySem.W.mg_of X G a_fault)
    (a_table_init := f_table_init)
    (d_table_init := _)
    (F_table_init := F_table_init)
    (b_table_init := F_table_init.binds (ps := ["self", "lines"]) (fun _ _ _ _ _ _ us hl => match us, hl with | [_, _], _ => rfl))
    (a_law_take := f_law_take)
    (d_law_take := _)
    (F_law_take := F_law_take)
    (b_law_take := F_law_take.binds (ps := ["pool", "many"]) (fun _ _ _ _ _ _ us hl => match us, hl with | [_, _], _ => rfl))
    (m_law_take := PySem.W.mg_of X G a_law_take)
    (a_law_then := f_law_then)
    (d_law_then := _)
    (F_law_then := F_law_then)
    (b_law_then := F_law_then.binds (ps := ["one", "other"]) (fun _ _ _ _ _ _ us hl => match us, hl with | [_, _], _ => rfl))
    (m_law_then := PySem.W.mg_of X G a_law_then)
    (a_law_lines := f_law_lines)
    (d_law_lines := _)
    (F_law_lines := F_law_lines)
    (b_law_lines := F_law_lines.binds (ps := ["members"]) (fun _ _ _ _ _ _ us hl => match us, hl with | [_], _ => rfl))
    (m_law_lines := PySem.W.mg_of X G a_law_lines)
    (a_law_move := f_law_move)
    (d_law_move := _)
    (F_law_move := F_law_move)
    (b_law_move := F_law_move.binds (ps := ["pool", "points"]) (fun _ _ _ _ _ _ us hl => match us, hl with | [_, _], _ => rfl))
    (m_law_move := PySem.W.mg_of X G a_law_move)
    (a_law_members := f_law_members)
    (d_law_members := _)
    (F_law_members := F_law_members)
    (b_law_members := F_law_members.binds (ps := ["points", "moves", "limit"]) (fun _ _ _ _ _ _ us hl => match us, hl with | [_, _, _], _ => rfl))
    (m_law_members := PySem.W.mg_of X G a_law_members)
    (a_law_small := f_law_small)
    (d_law_small := _)
    (F_law_small := F_law_small)
    (b_law_small := F_law_small.binds (ps := ["pool", "most"]) (fun _ _ _ _ _ _ us hl => match us, hl with | [_, _], _ => rfl))
    (m_law_small := PySem.W.mg_of X G a_law_small)
    (a_law_round := f_law_round)
    (d_law_round := _)
    (F_law_round := F_law_round)
    (b_law_round := F_law_round.binds (ps := ["many"]) (fun _ _ _ _ _ _ us hl => match us, hl with | [_], _ => rfl))
    (m_law_round := PySem.W.mg_of X G a_law_round)
    (a_law_product := f_law_product)
    (d_law_product := _)
    (F_law_product := F_law_product)
    (b_law_product := F_law_product.binds (ps := ["one", "other"]) (fun _ _ _ _ _ _ us hl => match us, hl with | [_, _], _ => rfl))
    (m_law_product := PySem.W.mg_of X G a_law_product)
    (a_law_turned := f_law_turned)
    (d_law_turned := _)
    (F_law_turned := F_law_turned)
    (b_law_turned := F_law_turned.binds (ps := ["lines", "row"]) (fun _ _ _ _ _ _ us hl => match us, hl with | [_, _], _ => rfl))
    (m_law_turned := PySem.W.mg_of X G a_law_turned)
    (a_law_called := f_law_called)
    (d_law_called := _)
    (F_law_called := F_law_called)
    (b_law_called := F_law_called.binds (ps := ["pool", "many"]) (fun _ _ _ _ _ _ us hl => match us, hl with | [_, _], _ => rfl))
    (m_law_called := PySem.W.mg_of X G a_law_called)
    (a_law_group := f_law_group)
    (d_law_group := _)
    (F_law_group := F_law_group)
    (b_law_group := F_law_group.binds (ps := ["pool", "most"]) (fun _ _ _ _ _ _ us hl => match us, hl with | [_, _], _ => rfl))
    (m_law_group := PySem.W.mg_of X G a_law_group)
    (a_table_len := f_table_len)
    (d_table_len := _)
    (F_table_len := F_table_len)
    (b_table_len := F_table_len.binds (ps := ["self"]) (fun _ _ _ _ _ _ us hl => match us, hl with | [_], _ => rfl))
    (a_check_table := f_check_table)
    (d_check_table := _)
    (F_check_table := F_check_table)
    (b_check_table := F_check_table.binds (ps := ["thing"]) (fun _ _ _ _ _ _ us hl => match us, hl with | [_], _ => rfl))
    (m_check_table := PySem.W.mg_of X G a_check_table)
    (a_is_whole := f_is_whole)
    (d_is_whole := _)
    (F_is_whole := F_is_whole)
    (b_is_whole := F_is_whole.binds (ps := ["thing"]) (fun _ _ _ _ _ _ us hl => match us, hl with | [_], _ => rfl))
    (m_is_whole := PySem.W.mg_of X G a_is_whole)
    (a_check_member := f_check_member)
    (d_check_member := _)
    (F_check_member := F_check_member)
    (b_check_member := F_check_member.binds (ps := ["table", "thing"]) (fun _ _ _ _ _ _ us hl => match us, hl with | [_, _], _ => rfl))
    (m_check_member := PySem.W.mg_of X G a_check_member)
    (a_powers_of := f_powers_of)
    (d_powers_of := _)
    (F_powers_of := F_powers_of)
    (b_powers_of := F_powers_of.binds (ps := ["table", "one"]) (fun _ _ _ _ _ _ us hl => match us, hl with | [_, _], _ => rfl))
    (m_powers_of := PySem.W.mg_of X G a_powers_of)
    (a_order_of := f_order_of)
    (d_order_of := _)
    (F_order_of := F_order_of)
    (b_order_of := F_order_of.binds (ps := ["table", "one"]) (fun _ _ _ _ _ _ us hl => match us, hl with | [_, _], _ => rfl))
    (m_order_of := PySem.W.mg_of X G a_order_of)
    (a_check_small := f_check_small)
    (d_check_small := _)
    (F_check_small := F_check_small)
    (b_check_small := F_check_small.binds (ps := ["table"]) (fun _ _ _ _ _ _ us hl => match us, hl with | [_], _ => rfl))
    (m_check_small := PySem.W.mg_of X G a_check_small)
    (a_spread := f_spread)
    (d_spread := _)
    (F_spread := F_spread)
    (b_spread := F_spread.binds (ps := ["table", "part"]) (fun _ _ _ _ _ _ us hl => match us, hl with | [_, _], _ => rfl))
    (m_spread := PySem.W.mg_of X G a_spread)
    (a_leading_of := f_leading_of)
    (d_leading_of := _)
    (F_leading_of := F_leading_of)
    (b_leading_of := F_leading_of.binds (ps := ["table"]) (fun _ _ _ _ _ _ us hl => match us, hl with | [_], _ => rfl))
    (m_leading_of := PySem.W.mg_of X G a_leading_of)
    (a_grown := f_grown)
    (d_grown := _)
    (F_grown := F_grown)
    (b_grown := F_grown.binds (ps := ["one", "other", "leads", "images"]) (fun _ _ _ _ _ _ us hl => match us, hl with | [_, _, _, _], _ => rfl))
    (m_grown := PySem.W.mg_of X G a_grown)
    (a_all_grown := f_all_grown)
    (d_all_grown := _)
    (F_all_grown := F_all_grown)
    (b_all_grown := F_all_grown.binds (ps := ["one", "other", "leads", "choices"]) (fun _ _ _ _ _ _ us hl => match us, hl with | [_, _, _, _], _ => rfl))
    (m_all_grown := PySem.W.mg_of X G a_all_grown)
    (a_homs_of := f_homs_of)
    (d_homs_of := _)
    (F_homs_of := F_homs_of)
    (b_homs_of := F_homs_of.binds (ps := ["one", "other"]) (fun _ _ _ _ _ _ us hl => match us, hl with | [_, _], _ => rfl))
    (m_homs_of := PySem.W.mg_of X G a_homs_of)
    (a_homs := f_homs)
    (d_homs := _)
    (F_homs := F_homs)
    (b_homs := F_homs.binds (ps := ["one", "other"]) (fun _ _ _ _ _ _ us hl => match us, hl with | [_, _], _ => rfl))
    (m_homs := PySem.W.mg_of X G a_homs)
    (a_leading := f_leading)
    (d_leading := _)
    (F_leading := F_leading)
    (b_leading := F_leading.binds (ps := ["table"]) (fun _ _ _ _ _ _ us hl => match us, hl with | [_], _ => rfl))
    (m_leading := PySem.W.mg_of X G a_leading)
    (a_back_of := f_back_of)
    (d_back_of := _)
    (F_back_of := F_back_of)
    (b_back_of := F_back_of.binds (ps := ["table", "one"]) (fun _ _ _ _ _ _ us hl => match us, hl with | [_, _], _ => rfl))
    (m_back_of := PySem.W.mg_of X G a_back_of)
    (a_back := f_back)
    (d_back := _)
    (F_back := F_back)
    (b_back := F_back.binds (ps := ["table", "one"]) (fun _ _ _ _ _ _ us hl => match us, hl with | [_, _], _ => rfl))
    (m_back := PySem.W.mg_of X G a_back)
    (a_law_each_right := f_law_each_right)
    (d_law_each_right := _)
    (F_law_each_right := F_law_each_right)
    (b_law_each_right := F_law_each_right.binds (ps := ["one", "other", "rows"]) (fun _ _ _ _ _ _ us hl => match us, hl with | [_, _, _], _ => rfl))
    (m_law_each_right := PySem.W.mg_of X G a_law_each_right)
    (a_product := f_product)
    (d_product := _)
    (F_product := F_product)
    (b_product := F_product.binds (ps := ["one", "other"]) (fun _ _ _ _ _ _ us hl => match us, hl with | [_, _], _ => rfl))
    (m_product := PySem.W.mg_of X G a_product)
    (a_law := fa)
    (d_law := _)
    (F_law := F_law)
    (b_law := F_law.binds (ps := ["script"]) (fun _ _ _ _ _ _ us hl => match us, hl with | [_], _ => rfl))
    (m_law := PySem.W.mg_of X G a_law)
    (C_Table := C_Table)
    (g_Table := PySem.W.mg_of X G gc_Table)
    (i_Table := (fun C e => by subst e; exact ⟨⟨pg_Table, hd_Table, po_Table, sa_Table⟩, ha_Table, hn0, ht0, mo_Table⟩))
    (f_Table_lines := (fun C e => by subst e; exact ⟨⟨pg_Table, hd_Table, po_Table, sa_Table⟩, nf_Table_lines⟩))
    (k_Table := ⟨mk_Table, a_table_init, i_table_init, kc_Table⟩)
    (l_Table := a_table_len)
    (lf_Table := i_table_len)
    (n_abs := PySem.W.mg_none_of X G z_abs)
    (n_all := PySem.W.mg_none_of X G z_all)
    (n_bool := PySem.W.mg_none_of X G z_bool)
    (n_dict := PySem.W.mg_none_of X G z_dict)
    (n_divmod := PySem.W.mg_none_of X G z_divmod)
    (n_enumerate := PySem.W.mg_none_of X G z_enumerate)
    (n_int := PySem.W.mg_none_of X G z_int)
    (n_isinstance := PySem.W.mg_none_of X G z_isinstance)
    (n_len := PySem.W.mg_none_of X G z_len)
    (n_list := PySem.W.mg_none_of X G z_list)
    (n_max := PySem.W.mg_none_of X G z_max)
    (n_min := PySem.W.mg_none_of X G z_min)
    (n_range := PySem.W.mg_none_of X G z_range)
    (n_set := PySem.W.mg_none_of X G z_set)
    (n_sorted := PySem.W.mg_none_of X G z_sorted)
    (n_tuple := PySem.W.mg_none_of X G z_tuple)
    (n_zip := PySem.W.mg_none_of X G z_zip)
    (t_MOST_MAPPED := t_MOST_MAPPED)
    (c_MOST_MAPPED := PySem.W.mg_of X G q_MOST_MAPPED)
    (t_MOST_MEMBERS := t_MOST_MEMBERS)
    (c_MOST_MEMBERS := PySem.W.mg_of X G q_MOST_MEMBERS))

end T73
open PySem PySem.W PyProof.Rows
set_option maxHeartbeats 0 in
theorem PySem.Challenge.cw_movegroups_k73_whole_maps_by_images_holds : PySem.Challenge.rw_movegroups_k73_whole_maps_by_images.Holds := by
  w_on; o_law; k_head; (case hw => w_witness2)
  k_fill
  refine L2.walk_of (l := PySem.Challenge.rw_movegroups_k73_whole_maps_by_images) (n := 63) (k := 7) (x := "script") (CX := fun _ => L2.CX0) (sp := fun w => DL.liftSp _ DL.spLaw) rfl (by decide) rfl ⟨rfl, by decide, by decide⟩ (fun w h Y => PySem.W.kIn_of Y) ?F (fun _ _ a ns hl _ hS => DL.law_in hl hS) (fun _ _ _ _ _ h => h)
  case F =>
    intro w mg fa h KX G hmg
    refine' T73.all_mk KX G hmg ?gc_Table ?a_law_pool ?l_law_pool ?c_law_pool ?k_law_pool ?a_law_cell ?l_law_cell ?c_law_cell ?k_law_cell ?a_is_number ?l_is_number ?c_is_number ?k_is_number ?a_has_form ?l_has_form ?c_has_form ?k_has_form ?a_first_neutral ?l_first_neutral ?c_first_neutral ?k_first_neutral ?a_first_back ?l_first_back ?c_first_back ?k_first_back ?a_first_threes ?l_first_threes ?c_first_threes ?k_first_threes ?a_fault ?l_fault ?c_fault ?k_fault ?a_table_init ?i_table_init ?l_table_init ?c_table_init ?k_table_init ?a_law_take ?l_law_take ?c_law_take ?k_law_take ?a_law_then ?l_law_then ?c_law_then ?k_law_then ?a_law_lines ?l_law_lines ?c_law_lines ?k_law_lines ?a_law_move ?l_law_move ?c_law_move ?k_law_move ?a_law_members ?l_law_members ?c_law_members ?k_law_members ?a_law_small ?l_law_small ?c_law_small ?k_law_small ?a_law_round ?l_law_round ?c_law_round ?k_law_round ?a_law_product ?l_law_product ?c_law_product ?k_law_product ?a_law_turned ?l_law_turned ?c_law_turned ?k_law_turned ?a_law_called ?l_law_called ?c_law_called ?k_law_called ?a_law_group ?l_law_group ?c_law_group ?k_law_group ?a_table_len ?i_table_len ?l_table_len ?c_table_len ?k_table_len ?a_check_table ?l_check_table ?c_check_table ?k_check_table ?a_is_whole ?l_is_whole ?c_is_whole ?k_is_whole ?a_check_member ?l_check_member ?c_check_member ?k_check_member ?a_powers_of ?l_powers_of ?c_powers_of ?k_powers_of ?a_order_of ?l_order_of ?c_order_of ?k_order_of ?a_check_small ?l_check_small ?c_check_small ?k_check_small ?a_spread ?l_spread ?c_spread ?k_spread ?a_leading_of ?l_leading_of ?c_leading_of ?k_leading_of ?a_grown ?l_grown ?c_grown ?k_grown ?a_all_grown ?l_all_grown ?c_all_grown ?k_all_grown ?a_homs_of ?l_homs_of ?c_homs_of ?k_homs_of ?a_homs ?l_homs ?c_homs ?k_homs ?a_leading ?l_leading ?c_leading ?k_leading ?a_back_of ?l_back_of ?c_back_of ?k_back_of ?a_back ?l_back ?c_back ?k_back ?a_law_each_right ?l_law_each_right ?c_law_each_right ?k_law_each_right ?a_product ?l_product ?c_product ?k_product ?a_law ?l_law ?c_law ?k_law ?pg_Table ?hd_Table ?po_Table ?sa_Table ?mk_Table ?kc_Table ?ha_Table ?mo_Table ?nf_Table_lines ?hn0 ?ht0 ?z_abs ?z_all ?z_bool ?z_dict ?z_divmod ?z_enumerate ?z_int ?z_isinstance ?z_len ?z_list ?z_max ?z_min ?z_range ?z_set ?z_sorted ?z_tuple ?z_zip ?q_MOST_MAPPED ?q_MOST_MEMBERS
    (case gc_Table => k_is)
    (case a_law_pool => k_is)
    (case l_law_pool => k_is)
    (case c_law_pool => k_is)
    (case k_law_pool => k_is)
    (case a_law_cell => k_is)
    (case l_law_cell => k_is)
    (case c_law_cell => k_is)
    (case k_law_cell => k_is)
    (case a_is_number => k_is)
    (case l_is_number => k_is)
    (case c_is_number => k_is)
    (case k_is_number => k_is)
    (case a_has_form => k_is)
    (case l_has_form => k_is)
    (case c_has_form => k_is)
    (case k_has_form => k_is)
    (case a_first_neutral => k_is)
    (case l_first_neutral => k_is)
    (case c_first_neutral => k_is)
    (case k_first_neutral => k_is)
    (case a_first_back => k_is)
    (case l_first_back => k_is)
    (case c_first_back => k_is)
    (case k_first_back => k_is)
    (case a_first_threes => k_is)
    (case l_first_threes => k_is)
    (case c_first_threes => k_is)
    (case k_first_threes => k_is)
    (case a_fault => k_is)
    (case l_fault => k_is)
    (case c_fault => k_is)
    (case k_fault => k_is)
    (case a_table_init => k_is)
    (case i_table_init => k_is)
    (case l_table_init => k_is)
    (case c_table_init => k_is)
    (case k_table_init => k_is)
    (case a_law_take => k_is)
    (case l_law_take => k_is)
    (case c_law_take => k_is)
    (case k_law_take => k_is)
    (case a_law_then => k_is)
    (case l_law_then => k_is)
    (case c_law_then => k_is)
    (case k_law_then => k_is)
    (case a_law_lines => k_is)
    (case l_law_lines => k_is)
    (case c_law_lines => k_is)
    (case k_law_lines => k_is)
    (case a_law_move => k_is)
    (case l_law_move => k_is)
    (case c_law_move => k_is)
    (case k_law_move => k_is)
    (case a_law_members => k_is)
    (case l_law_members => k_is)
    (case c_law_members => k_is)
    (case k_law_members => k_is)
    (case a_law_small => k_is)
    (case l_law_small => k_is)
    (case c_law_small => k_is)
    (case k_law_small => k_is)
    (case a_law_round => k_is)
    (case l_law_round => k_is)
    (case c_law_round => k_is)
    (case k_law_round => k_is)
    (case a_law_product => k_is)
    (case l_law_product => k_is)
    (case c_law_product => k_is)
    (case k_law_product => k_is)
    (case a_law_turned => k_is)
    (case l_law_turned => k_is)
    (case c_law_turned => k_is)
    (case k_law_turned => k_is)
    (case a_law_called => k_is)
    (case l_law_called => k_is)
    (case c_law_called => k_is)
    (case k_law_called => k_is)
    (case a_law_group => k_is)
    (case l_law_group => k_is)
    (case c_law_group => k_is)
    (case k_law_group => k_is)
    (case a_table_len => k_is)
    (case i_table_len => k_is)
    (case l_table_len => k_is)
    (case c_table_len => k_is)
    (case k_table_len => k_is)
    (case a_check_table => k_is)
    (case l_check_table => k_is)
    (case c_check_table => k_is)
    (case k_check_table => k_is)
    (case a_is_whole => k_is)
    (case l_is_whole => k_is)
    (case c_is_whole => k_is)
    (case k_is_whole => k_is)
    (case a_check_member => k_is)
    (case l_check_member => k_is)
    (case c_check_member => k_is)
    (case k_check_member => k_is)
    (case a_powers_of => k_is)
    (case l_powers_of => k_is)
    (case c_powers_of => k_is)
    (case k_powers_of => k_is)
    (case a_order_of => k_is)
    (case l_order_of => k_is)
    (case c_order_of => k_is)
    (case k_order_of => k_is)
    (case a_check_small => k_is)
    (case l_check_small => k_is)
    (case c_check_small => k_is)
    (case k_check_small => k_is)
    (case a_spread => k_is)
    (case l_spread => k_is)
    (case c_spread => k_is)
    (case k_spread => k_is)
    (case a_leading_of => k_is)
    (case l_leading_of => k_is)
    (case c_leading_of => k_is)
    (case k_leading_of => k_is)
    (case a_grown => k_is)
    (case l_grown => k_is)
    (case c_grown => k_is)
    (case k_grown => k_is)
    (case a_all_grown => k_is)
    (case l_all_grown => k_is)
    (case c_all_grown => k_is)
    (case k_all_grown => k_is)
    (case a_homs_of => k_is)
    (case l_homs_of => k_is)
    (case c_homs_of => k_is)
    (case k_homs_of => k_is)
    (case a_homs => k_is)
    (case l_homs => k_is)
    (case c_homs => k_is)
    (case k_homs => k_is)
    (case a_leading => k_is)
    (case l_leading => k_is)
    (case c_leading => k_is)
    (case k_leading => k_is)
    (case a_back_of => k_is)
    (case l_back_of => k_is)
    (case c_back_of => k_is)
    (case k_back_of => k_is)
    (case a_back => k_is)
    (case l_back => k_is)
    (case c_back => k_is)
    (case k_back => k_is)
    (case a_law_each_right => k_is)
    (case l_law_each_right => k_is)
    (case c_law_each_right => k_is)
    (case k_law_each_right => k_is)
    (case a_product => k_is)
    (case l_product => k_is)
    (case c_product => k_is)
    (case k_product => k_is)
    (case a_law => k_is)
    (case l_law => k_is)
    (case c_law => k_is)
    (case k_law => k_is)
    (case pg_Table => k_is)
    (case hd_Table => k_is)
    (case po_Table => k_is)
    (case sa_Table => k_is)
    (case mk_Table => k_is)
    (case kc_Table => k_is)
    (case ha_Table => k_is)
    (case mo_Table => k_is)
    (case nf_Table_lines => k_is)
    (case hn0 => k_is)
    (case ht0 => k_is)
    (case z_abs => k_is)
    (case z_all => k_is)
    (case z_bool => k_is)
    (case z_dict => k_is)
    (case z_divmod => k_is)
    (case z_enumerate => k_is)
    (case z_int => k_is)
    (case z_isinstance => k_is)
    (case z_len => k_is)
    (case z_list => k_is)
    (case z_max => k_is)
    (case z_min => k_is)
    (case z_range => k_is)
    (case z_set => k_is)
    (case z_sorted => k_is)
    (case z_tuple => k_is)
    (case z_zip => k_is)
    (case q_MOST_MAPPED => k_is)
    (case q_MOST_MEMBERS => k_is)
end
