import PyProof.Rows.All
import Wide.All
import OpenK.AllK
import Wide.FinOn
import HandS.ForMost
import HandS.Wide
import HandS.IsInst
import PyProof.IsiBase
import PyProof.FactsAll.object
import HandS.Style
import HandS.Rev
import HandS.Replace
import PySem.Challenge.RW_shardask_k02_homes
set_option Elab.async false
set_option linter.all false
set_option maxRecDepth 100000
set_option maxHeartbeats 4000000
/-! data trees over the abstract heap; readings over trees -/
namespace DS
open PySem PySem.Spec PyProof.Rows L2

/-- a tree of data; ref: an object that is spoken of by its address; fn: a def of the module -/
inductive D where
  | non | bl (b : Bool) | int (i : Int) | str (x : Str) | tup (l : List D) | lst (l : List D) | ref (a : Addr) | fn (a : Addr) | ty (n : String) | dk (kvs : List (Key × D))

/-- what stands at an address that is spoken of -/
inductive MO where
  | lst (l : List D)
  | dK (kvs : List (Key × D))
  | dT (kvs : List (List Key × D))
  | ins (C dx : Addr) (fs : List (Str × D))
abbrev MH := Addr → Option MO
def mup (M : MH) (a : Addr) (o : MO) : MH := fun b => if b = a then some o else M b
theorem mup_same {M : MH} {a : Addr} {o : MO} : mup M a o a = some o := by unfold mup; rw [if_pos rfl]
theorem mup_ne {M : MH} {a b : Addr} {o : MO} (h : b ≠ a) : mup M a o b = M b := by unfold mup; rw [if_neg h]
theorem mup_mup {M : MH} {a : Addr} {o u : MO} : mup (mup M a o) a u = mup M a u := by
  funext b; unfold mup; split <;> rfl
/-- all that M says M' says -/
def MSub (M M' : MH) : Prop := ∀ a o, M a = some o → M' a = some o
theorem MSub.refl (M : MH) : MSub M M := fun _ _ h => h
theorem MSub.mup {M : MH} {a : Addr} {o : MO} (h : M a = none) : MSub M (mup M a o) := fun b u e => by
  by_cases hb : b = a
  · subst hb; rw [h] at e; cases e
  · rw [mup_ne hb]; exact e

def isFn (K : PySem.W.Frag) (a : Addr) : Prop := ∃ o, K.lookup a = some o ∧ o.cls = .type "function"

mutual
/-- the value v is the tree d, in the still part F of the heap -/
inductive Rep (K : PySem.W.Frag) (F : Hp) : V → D → Prop
  | non : Rep K F .non .non
  | bl (b : Bool) : Rep K F (.bl b) (.bl b)
  | int (i : Int) : Rep K F (.int i) (.int i)
  | str (x : Str) : Rep K F (.str x) (.str x)
  | lst {a : Addr} {vs : List V} {ds : List D} : SqL K F a vs → RepAll K F vs ds → Rep K F (.ref a) (.lst ds)
  | tup {a : Addr} {vs : List V} {ds : List D} : SqT K F a vs → RepAll K F vs ds → Rep K F (.ref a) (.tup ds)
  | ref (a : Addr) : Rep K F (.ref a) (.ref a)
  | fn (a : Addr) : isFn K a → Rep K F (.ref a) (.fn a)
  | ty (n : String) : Rep K F (.ty n) (.ty n)
  | dk {a : Addr} {kvs : List (Key × V)} {kds : List (Key × D)} : F a = some (.dK kvs) → RepK K F kvs kds → Rep K F (.ref a) (.dk kds)
inductive RepAll (K : PySem.W.Frag) (F : Hp) : List V → List D → Prop
  | nil : RepAll K F [] []
  | cons {v : V} {vs : List V} {d : D} {ds : List D} : Rep K F v d → RepAll K F vs ds → RepAll K F (v :: vs) (d :: ds)
inductive RepK (K : PySem.W.Frag) (F : Hp) : List (Key × V) → List (Key × D) → Prop
  | nil : RepK K F [] []
  | cons {k : Key} {v : V} {kvs : List (Key × V)} {d : D} {kds : List (Key × D)} : Rep K F v d → RepK K F kvs kds → RepK K F ((k, v) :: kvs) ((k, d) :: kds)
end

theorem Same.sqt {K : PySem.W.Frag} {H H' : Hp} {a : Addr} {xs : List V} (e : Same H H') (h : SqT K H a xs) : SqT K H' a xs := by
  rcases h with (h | ⟨o, h⟩) | h
  · exact .inl (.inl (e _ _ h))
  · exact .inl (.inr ⟨o, e _ _ h⟩)
  · exact .inr h
section
variable {K : PySem.W.Frag} {F F' H : Hp}
mutual
theorem Rep.mono (e : Same F F') : ∀ {v : V} {d : D}, Rep K F v d → Rep K F' v d
  | _, _, .non => .non
  | _, _, .bl b => .bl b
  | _, _, .int i => .int i
  | _, _, .str x => .str x
  | _, _, .lst h r => .lst (e.seq h) (RepAll.mono e r)
  | _, _, .tup h r => .tup (Same.sqt e h) (RepAll.mono e r)
  | _, _, .ref a => .ref a
  | _, _, .fn a h => .fn a h
  | _, _, .ty n => .ty n
  | _, _, .dk h r => .dk (e _ _ h) (RepK.mono e r)
theorem RepAll.mono (e : Same F F') : ∀ {vs : List V} {ds : List D}, RepAll K F vs ds → RepAll K F' vs ds
  | _, _, .nil => .nil
  | _, _, .cons h r => .cons (Rep.mono e h) (RepAll.mono e r)
theorem RepK.mono (e : Same F F') : ∀ {vs : List (Key × V)} {ds : List (Key × D)}, RepK K F vs ds → RepK K F' vs ds
  | _, _, .nil => .nil
  | _, _, .cons h r => .cons (Rep.mono e h) (RepK.mono e r)
end
theorem RepAll.length : ∀ {vs : List V} {ds : List D}, RepAll K F vs ds → vs.length = ds.length
  | _, _, .nil => rfl
  | _, _, .cons _ r => by rw [List.length_cons, List.length_cons, RepAll.length r]
theorem RepAll.get : ∀ {vs : List V} {ds : List D} {i : Nat} {d : D}, RepAll K F vs ds → ds[i]? = some d → ∃ v, vs[i]? = some v ∧ Rep K F v d
  | _, _, _, _, .nil, e => by simp at e
  | _, _, 0, _, .cons h r, e => by simp at e; subst e; exact ⟨_, rfl, h⟩
  | _, _, i + 1, d, .cons h r, e => by
    obtain ⟨v, a, b⟩ := RepAll.get (i := i) (d := d) r (by simpa using e)
    exact ⟨v, by simpa using a, b⟩
theorem RepAll.get' : ∀ {vs : List V} {ds : List D} {i : Nat} {v : V}, RepAll K F vs ds → vs[i]? = some v → ∃ d, ds[i]? = some d ∧ Rep K F v d
  | _, _, _, _, .nil, e => by simp at e
  | _, _, 0, _, .cons h r, e => by simp at e; subst e; exact ⟨_, rfl, h⟩
  | _, _, i + 1, v, .cons h r, e => by
    obtain ⟨d, a, b⟩ := RepAll.get' (i := i) (v := v) r (by simpa using e)
    exact ⟨d, by simpa using a, b⟩
theorem RepAll.append : ∀ {vs ws : List V} {ds es : List D}, RepAll K F vs ds → RepAll K F ws es → RepAll K F (vs ++ ws) (ds ++ es)
  | _, _, _, _, .nil, s => s
  | _, _, _, _, .cons h r, s => .cons h (RepAll.append r s)
theorem RepAll.take : ∀ {vs : List V} {ds : List D} (n : Nat), RepAll K F vs ds → RepAll K F (vs.take n) (ds.take n)
  | _, _, 0, _ => .nil
  | _, _, _ + 1, .nil => .nil
  | _, _, n + 1, .cons h r => .cons h (RepAll.take n r)
theorem RepAll.drop : ∀ {vs : List V} {ds : List D} (n : Nat), RepAll K F vs ds → RepAll K F (vs.drop n) (ds.drop n)
  | _, _, 0, r => r
  | _, _, _ + 1, .nil => .nil
  | _, _, n + 1, .cons _ r => RepAll.drop n r
theorem RepAll.set {x : V} {d : D} (h : Rep K F x d) : ∀ {vs : List V} {ds : List D} (n : Nat), RepAll K F vs ds → RepAll K F (vs.set n x) (ds.set n d)
  | _, _, _, .nil => .nil
  | _, _, 0, .cons _ r => .cons h r
  | _, _, n + 1, .cons q r => .cons q (RepAll.set h n r)
theorem RepAll.reverse {vs : List V} {ds : List D} (h : RepAll K F vs ds) : RepAll K F vs.reverse ds.reverse := by
  induction vs generalizing ds with
  | nil => cases h; exact .nil
  | cons v vs ih =>
    cases h with
    | cons a b =>
      rw [List.reverse_cons, List.reverse_cons]
      exact (ih b).append (.cons a .nil)
theorem RepAll.dropLast {vs : List V} {ds : List D} (h : RepAll K F vs ds) : RepAll K F vs.dropLast ds.dropLast := by
  rw [List.dropLast_eq_take, List.dropLast_eq_take, h.length]
  exact h.take _
end

/-- keys of dicts and their values -/
inductive RepKV {κ : Type} (K : PySem.W.Frag) (F : Hp) : List (κ × V) → List (κ × D) → Prop
  | nil : RepKV K F [] []
  | cons {k : κ} {v : V} {kvs : List (κ × V)} {d : D} {kds : List (κ × D)} : Rep K F v d → RepKV K F kvs kds → RepKV K F ((k, v) :: kvs) ((k, d) :: kds)
theorem RepKV.mono {κ : Type} {K : PySem.W.Frag} {F F' : Hp} (e : Same F F') : ∀ {kvs : List (κ × V)} {kds : List (κ × D)}, RepKV K F kvs kds → RepKV K F' kvs kds
  | _, _, .nil => .nil
  | _, _, .cons h r => .cons (h.mono e) (RepKV.mono e r)

/-- what stands in the heap is what is spoken of -/
inductive RepO (K : PySem.W.Frag) (F : Hp) : HO → MO → Prop
  | lst {vs : List V} {ds : List D} : RepAll K F vs ds → RepO K F (.lst vs) (.lst ds)
  | dK {kvs : List (Key × V)} {kds : List (Key × D)} : RepK K F kvs kds → RepO K F (.dK kvs) (.dK kds)
  | dT {kvs : List (List Key × V)} {kds : List (List Key × D)} : RepKV K F kvs kds → RepO K F (.dT kvs) (.dT kds)
  | ins {C dx : Addr} {fs : List (Str × V)} {gs : List (Str × D)} : RepKV K F fs gs → RepO K F (.ins C dx fs) (.ins C dx gs)
theorem RepO.mono {K : PySem.W.Frag} {F F' : Hp} (e : Same F F') {o : HO} {m : MO} (h : RepO K F o m) : RepO K F' o m := by
  cases h with
  | lst r => exact .lst (r.mono e)
  | dK r => exact .dK (r.mono e)
  | dT r => exact .dT (r.mono e)
  | ins r => exact .ins (r.mono e)

/-- the still part lies in the heap; what is spoken of stands there, outside of it; Z: what else stands and is to stay -/
structure Rel (K : PySem.W.Frag) (Z F H : Hp) (M : MH) : Prop where
  sub : Same F H
  mo : ∀ a m, M a = some m → F a = none ∧ ∃ o, H a = some o ∧ RepO K F o m
  fr : ∀ a o, Z a = some o → F a = none ∧ M a = none ∧ H a = some o
theorem Rel.weak {K : PySem.W.Frag} {Z F H : Hp} {M M' : MH} (r : Rel K Z F H M) (h : MSub M' M) : Rel K Z F H M' := ⟨r.sub, fun a m e => r.mo a m (h a m e), fun a o e => by
  obtain ⟨h1, h2, h3⟩ := r.fr a o e
  refine ⟨h1, ?_, h3⟩
  cases q : M' a with
  | none => rfl
  | some m => rw [h a m q] at h2; cases h2⟩
theorem Rel.free {K : PySem.W.Frag} {Z F H : Hp} {M : MH} (r : Rel K Z F H M) {a : Addr} (h : H a = none) : F a = none ∧ M a = none := by
  refine ⟨r.sub.free h, ?_⟩
  cases e : M a with
  | none => rfl
  | some m =>
    obtain ⟨_, o, q, _⟩ := r.mo a m e
    rw [h] at q; cases q
theorem Rel.zne {K : PySem.W.Frag} {Z F H : Hp} {M : MH} (r : Rel K Z F H M) {a b : Addr} {o : HO} (hz : Z a = some o) (h : H b = none ∨ ∃ m, M b = some m) : a ≠ b := by
  obtain ⟨_, h2, h3⟩ := r.fr a o hz
  rintro rfl
  rcases h with h | ⟨m, h⟩
  · rw [h] at h3; cases h3
  · rw [h] at h2; cases h2
theorem Rel.lstAt {K : PySem.W.Frag} {Z F H : Hp} {M : MH} (r : Rel K Z F H M) {a : Addr} {ds : List D} (h : M a = some (.lst ds)) : ∃ vs, H a = some (.lst vs) ∧ RepAll K F vs ds ∧ F a = none := by
  obtain ⟨f, o, q, ro⟩ := r.mo a _ h
  cases ro with
  | lst r => exact ⟨_, q, r, f⟩
/-- a new object that lies still -/
theorem Rel.still {K : PySem.W.Frag} {Z F H : Hp} {M : MH} (r : Rel K Z F H M) {a : Addr} (h : H a = none) (o : HO) : Rel K Z (upd F a o) (upd H a o) M ∧ Same F (upd F a o) := by
  obtain ⟨hf, hm⟩ := r.free h
  have sF : Same F (upd F a o) := fun b u e => by rw [upd_ne (ne_of_none e hf)]; exact e
  refine ⟨⟨fun b u e => ?_, fun b m e => ?_, fun b u e => ?_⟩, sF⟩
  · by_cases hb : b = a
    · subst hb; rw [upd_same] at e ⊢; exact e
    · rw [upd_ne hb] at e ⊢; exact r.sub b u e
  · obtain ⟨f, u, q, ro⟩ := r.mo b m e
    have hb : b ≠ a := ne_of_none q h
    refine ⟨?_, u, ?_, ro.mono sF⟩
    · rw [upd_ne hb]; exact f
    · rw [upd_ne hb]; exact q
  · have hb := r.zne e (.inl h)
    rw [upd_ne hb, upd_ne hb]
    exact r.fr b u e
/-- a new object that is spoken of -/
theorem Rel.fresh {K : PySem.W.Frag} {Z F H : Hp} {M : MH} (r : Rel K Z F H M) {a : Addr} (h : H a = none) {o : HO} {m : MO} (ro : RepO K F o m) : Rel K Z F (upd H a o) (mup M a m) := by
  obtain ⟨hf, hm⟩ := r.free h
  refine ⟨fun b u e => ?_, fun b m' e => ?_, fun b u e => ?_⟩
  · rw [upd_ne (ne_of_none e hf)]; exact r.sub b u e
  · by_cases hb : b = a
    · subst hb
      rw [mup_same] at e; cases e
      exact ⟨hf, o, upd_same, ro⟩
    · rw [mup_ne hb] at e
      obtain ⟨f, u, q, ro'⟩ := r.mo b m' e
      exact ⟨f, u, by rw [upd_ne hb]; exact q, ro'⟩
  · have hb := r.zne e (.inl h)
    rw [upd_ne hb, mup_ne hb]
    exact r.fr b u e
/-- an object that is spoken of is written -/
theorem Rel.write {K : PySem.W.Frag} {Z F H : Hp} {M : MH} (r : Rel K Z F H M) {a : Addr} {m0 : MO} (h : M a = some m0) {o : HO} {m : MO} (ro : RepO K F o m) : Rel K Z F (upd H a o) (mup M a m) := by
  obtain ⟨hf, _⟩ := r.mo a m0 h
  refine ⟨fun b u e => ?_, fun b m' e => ?_, fun b u e => ?_⟩
  · rw [upd_ne (ne_of_none e hf)]; exact r.sub b u e
  · by_cases hb : b = a
    · subst hb
      rw [mup_same] at e; cases e
      exact ⟨hf, o, upd_same, ro⟩
    · rw [mup_ne hb] at e
      obtain ⟨f, u, q, ro'⟩ := r.mo b m' e
      exact ⟨f, u, by rw [upd_ne hb]; exact q, ro'⟩
  · have hb := r.zne e (.inr ⟨_, h⟩)
    rw [upd_ne hb, mup_ne hb]
    exact r.fr b u e
/-- a new object that nobody speaks of -/
theorem Rel.junk {K : PySem.W.Frag} {Z F H : Hp} {M : MH} (r : Rel K Z F H M) {a : Addr} (h : H a = none) (o : HO) : Rel K Z F (upd H a o) M := by
  refine ⟨fun b u e => ?_, fun b m' e => ?_, fun b u e => ?_⟩
  · rw [upd_ne (ne_of_none e (r.free h).1)]; exact r.sub b u e
  · obtain ⟨f, u, q, ro'⟩ := r.mo b m' e
    exact ⟨f, u, by rw [upd_ne (ne_of_none q h)]; exact q, ro'⟩
  · rw [upd_ne (r.zne e (.inl h))]
    exact r.fr b u e
/-- a new object that is to stay -/
theorem Rel.hold {K : PySem.W.Frag} {Z F H : Hp} {M : MH} (r : Rel K Z F H M) {a : Addr} (h : H a = none) (o : HO) : Rel K (upd Z a o) F (upd H a o) M := by
  have r' := r.junk h o
  refine ⟨r'.sub, r'.mo, fun b u e => ?_⟩
  by_cases hb : b = a
  · subst hb
    rw [upd_same] at e; cases e
    exact ⟨(r.free h).1, (r.free h).2, upd_same⟩
  · rw [upd_ne hb] at e
    exact r'.fr b u e
/-- .. changed -/
theorem Rel.holdSet {K : PySem.W.Frag} {Z F H : Hp} {M : MH} {a : Addr} {o : HO} (r : Rel K (upd Z a o) F H M) (u : HO) : Rel K (upd Z a u) F (upd H a u) M := by
  obtain ⟨h1, h2, h3⟩ := r.fr a o upd_same
  refine ⟨fun b v e => ?_, fun b m e => ?_, fun b v e => ?_⟩
  · rw [upd_ne (ne_of_none e h1)]; exact r.sub b v e
  · obtain ⟨f, v, q, ro⟩ := r.mo b m e
    have hb : b ≠ a := by rintro rfl; rw [h2] at e; cases e
    exact ⟨f, v, by rw [upd_ne hb]; exact q, ro⟩
  · by_cases hb : b = a
    · subst hb
      rw [upd_same] at e; cases e
      exact ⟨h1, h2, upd_same⟩
    · rw [upd_ne hb] at e
      rw [upd_ne hb]
      exact r.fr b v (by rw [upd_ne hb]; exact e)
/-- .. let go -/
theorem Rel.unhold {K : PySem.W.Frag} {Z F H : Hp} {M : MH} {a : Addr} {o : HO} (r : Rel K (upd Z a o) F H M) (hz : Z a = none) : Rel K Z F H M :=
  ⟨r.sub, r.mo, fun b u e => r.fr b u (by rw [upd_ne (ne_of_none e hz)]; exact e)⟩
/-- .. spoken of -/
theorem Rel.holdM {K : PySem.W.Frag} {Z F H : Hp} {M : MH} {a : Addr} {o : HO} (r : Rel K (upd Z a o) F H M) (hz : Z a = none) {m : MO} (ro : RepO K F o m) : Rel K Z F H (mup M a m) := by
  obtain ⟨h1, h2, h3⟩ := r.fr a o upd_same
  refine ⟨r.sub, fun b m' e => ?_, fun b u e => ?_⟩
  · by_cases hb : b = a
    · subst hb
      rw [mup_same] at e; cases e
      exact ⟨h1, o, h3, ro⟩
    · rw [mup_ne hb] at e
      exact r.mo b m' e
  · have hb : b ≠ a := ne_of_none e hz
    rw [mup_ne hb]
    exact r.fr b u (by rw [upd_ne hb]; exact e)
/-- .. still from now on -/
theorem Rel.holdF {K : PySem.W.Frag} {Z F H : Hp} {M : MH} {a : Addr} {o : HO} (r : Rel K (upd Z a o) F H M) (hz : Z a = none) : Rel K Z (upd F a o) H M ∧ Same F (upd F a o) := by
  obtain ⟨h1, h2, h3⟩ := r.fr a o upd_same
  have sF : Same F (upd F a o) := fun b u e => by rw [upd_ne (ne_of_none e h1)]; exact e
  refine ⟨⟨fun b u e => ?_, fun b m e => ?_, fun b u e => ?_⟩, sF⟩
  · by_cases hb : b = a
    · subst hb; rw [upd_same] at e; cases e; exact h3
    · rw [upd_ne hb] at e; exact r.sub b u e
  · obtain ⟨f, u, q, ro⟩ := r.mo b m e
    have hb : b ≠ a := by rintro rfl; rw [h2] at e; cases e
    exact ⟨by rw [upd_ne hb]; exact f, u, q, ro.mono sF⟩
  · have hb : b ≠ a := ne_of_none e hz
    rw [upd_ne hb]
    exact r.fr b u (by rw [upd_ne hb]; exact e)
/-- M without a -/
def mdel (M : MH) (a : Addr) : MH := fun b => if b = a then none else M b
theorem mdel_ne {M : MH} {a b : Addr} (h : b ≠ a) : mdel M a b = M b := by unfold mdel; rw [if_neg h]
theorem mdel_same {M : MH} {a : Addr} : mdel M a a = none := by unfold mdel; rw [if_pos rfl]
theorem mdel_mup {M : MH} {a : Addr} {o : MO} (h : M a = none) : mdel (mup M a o) a = M := by
  funext b
  unfold mdel mup
  by_cases e : b = a
  · subst e; rw [if_pos rfl, h]
  · rw [if_neg e, if_neg e]
/-- what is spoken of is only held from now on -/
theorem Rel.mHold {K : PySem.W.Frag} {Z F H : Hp} {M : MH} (r : Rel K Z F H M) {a : Addr} {m : MO} (h : M a = some m) : ∃ o, H a = some o ∧ RepO K F o m ∧ Z a = none ∧ Rel K (upd Z a o) F H (mdel M a) := by
  obtain ⟨f, o, q, ro⟩ := r.mo a m h
  have hz : Z a = none := by
    cases e : Z a with
    | none => rfl
    | some u => rw [(r.fr a u e).2.1] at h; cases h
  refine ⟨o, q, ro, hz, r.sub, fun b m' e => ?_, fun b u e => ?_⟩
  · by_cases hb : b = a
    · subst hb; rw [mdel_same] at e; cases e
    · rw [mdel_ne hb] at e; exact r.mo b m' e
  · by_cases hb : b = a
    · subst hb
      rw [upd_same] at e; cases e
      exact ⟨f, mdel_same, q⟩
    · rw [upd_ne hb] at e
      rw [mdel_ne hb]
      exact r.fr b u e
/-- a list lies still from now on -/
theorem Rel.stillAt {K : PySem.W.Frag} {Z F H : Hp} {M : MH} (r : Rel K Z F H M) {a : Addr} {ds : List D} (h : M a = some (.lst ds)) : ∃ vs, RepAll K F vs ds ∧ Rel K Z (upd F a (.lst vs)) H (mdel M a) ∧ Same F (upd F a (.lst vs)) := by
  obtain ⟨o, q, ro, hz, r'⟩ := r.mHold h
  cases ro with
  | lst ra => exact ⟨_, ra, (r'.holdF hz).1, (r'.holdF hz).2⟩

/-! ### names -/
abbrev Rho := List (Str × Option D)
structure REnv (X : Cx) (F : Hp) (σ : L2.St) (ρ : Rho) : Prop where
  nm : X.N = ρ.map (·.1)
  at_ : ∀ (i : Nat) (x : Str) (d : D), ρ[i]? = some (x, some d) → ∃ v, σ[i]? = some (some v) ∧ Rep X.K F v d
theorem REnv.mono {X : Cx} {F F' : Hp} {σ : L2.St} {ρ : Rho} (h : REnv X F σ ρ) (e : Same F F') : REnv X F' σ ρ :=
  ⟨h.nm, fun i x d q => let ⟨v, a, b⟩ := h.at_ i x d q; ⟨v, a, b.mono e⟩⟩
/-- the name's value -/
inductive Lk : Rho → Nat → Str → D → Prop
  | zero {x : Str} {d : D} {ρ : Rho} : Lk ((x, some d) :: ρ) 0 x d
  | succ {y x : Str} {o : Option D} {d : D} {i : Nat} {ρ : Rho} : Lk ρ i x d → Lk ((y, o) :: ρ) (i + 1) x d
theorem Lk.get : ∀ {ρ : Rho} {i : Nat} {x : Str} {d : D}, Lk ρ i x d → ρ[i]? = some (x, some d)
  | _, _, _, _, .zero => rfl
  | _, _, _, _, .succ h => by rw [List.getElem?_cons_succ]; exact h.get
/-- the name's value exchanged -/
inductive Up : Rho → Nat → Str → (D → Rho) → Prop
  | zero {x : Str} {o : Option D} {ρ : Rho} : Up ((x, o) :: ρ) 0 x (fun d => (x, some d) :: ρ)
  | succ {y x : Str} {o : Option D} {i : Nat} {ρ : Rho} {f : D → Rho} : Up ρ i x f → Up ((y, o) :: ρ) (i + 1) x (fun d => (y, o) :: f d)
theorem Up.eq : ∀ {ρ : Rho} {i : Nat} {x : Str} {f : D → Rho}, Up ρ i x f → ∀ d, f d = ρ.set i (x, some d)
  | _, _, _, _, .zero, _ => rfl
  | _, _, _, _, .succ h, d => by rw [List.set_cons_succ]; exact congrArg _ (h.eq d)
theorem Up.nm : ∀ {ρ : Rho} {i : Nat} {x : Str} {f : D → Rho}, Up ρ i x f → (ρ.map (·.1))[i]? = some x ∧ ∀ d, (f d).map (·.1) = ρ.map (·.1)
  | _, _, _, _, .zero => ⟨rfl, fun _ => rfl⟩
  | _, _, _, _, .succ h => ⟨by rw [List.map_cons, List.getElem?_cons_succ]; exact h.nm.1, fun d => by rw [List.map_cons, List.map_cons, h.nm.2 d]⟩
theorem REnv.set {X : Cx} {F : Hp} {σ : L2.St} {ρ : Rho} {i : Nat} {x : Str} {f : D → Rho} {v : V} {d : D} (h : REnv X F σ ρ) (u : Up ρ i x f) (r : Rep X.K F v d) (hl : σ.length = X.N.length) : REnv X F (σ.set i (some v)) (f d) := by
  refine ⟨by rw [u.nm.2 d]; exact h.nm, fun j y e q => ?_⟩
  rw [u.eq d] at q
  have hi : i < ρ.length := by
    have := (List.getElem?_eq_some_iff.mp u.nm.1).1
    simpa using this
  by_cases hj : i = j
  · subst hj
    rw [List.getElem?_set_self hi] at q
    cases q
    refine ⟨v, ?_, r⟩
    rw [List.getElem?_set_self]
    rw [hl, h.nm]
    simpa using hi
  · rw [List.getElem?_set_ne hj] at q
    rw [List.getElem?_set_ne hj]
    exact h.at_ j y e q

/-! ### weakest readings -/
section
variable {X : Cx} {σ : L2.St} {H : Hp}
def tWE (X : Cx) (e : Expr) : TE := fun σ H Q => ∀ pins s, Inv X pins σ H s → wpAny (model X.prog X.w) X.A (eval e X.env) (EP X pins σ Q) X.xe s
def tWT (X : Cx) (e : Expr) : TT := fun σ H Q => ∀ pins s, Inv X pins σ H s → wpAny (model X.prog X.w) X.A (isTrue e X.env (eval e X.env)) (TP X pins σ Q) X.xe s
def tWV (X : Cx) (e : Expr) : TT := fun σ H Q => ∀ whole pins s, Inv X pins σ H s → wpAny (model X.prog X.w) X.A (isTrue e X.env whole) (TP X pins σ Q) X.xe s
def tWA (X : Cx) (es : List Expr) : TA := fun σ H Q => ∀ pos pins s, Inv X pins σ H s → wpAny (model X.prog X.w) X.A (spliced (backTo pos (starEach es X.env))) (AP X pins σ Q) X.xe s
def tWS (X : Cx) (st : Stmt) : TS := fun D σ H => ∀ pins s, Inv X pins σ H s → wpAny (model X.prog X.w) X.A (exec st X.env) (SP X pins D) X.xe s
def tWSs (X : Cx) (st : List Stmt) : TS := fun D σ H => ∀ pins s, Inv X pins σ H s → wpAny (model X.prog X.w) X.A (execs st X.env) (SP X pins D) X.xe s
theorem pe_W {e : Expr} : PE X e (tWE X e) := ⟨fun pins s _ _ _ I h => h pins s I⟩
theorem pt_W {e : Expr} : PT X e (tWT X e) := ⟨fun pins s _ _ _ I h => h pins s I⟩
theorem pw_W {e : Expr} : PW X e (tWV X e) := ⟨fun whole pins s _ _ _ I h => h whole pins s I⟩
theorem pa_W {es : List Expr} : PA X es (tWA X es) := ⟨fun pos pins s _ _ _ I h => h pos pins s I⟩
theorem ps_W {st : Stmt} : PS X st (tWS X st) := ⟨fun pins s _ _ _ I h => h pins s I⟩
theorem pss_W {st : List Stmt} : PSs X st (tWSs X st) := ⟨fun pins s _ _ _ I h => h pins s I⟩
theorem tWE.imp {e : Expr} {Q Q' : VK} (h : tWE X e σ H Q) (hq : ∀ v H', Q v H' → Q' v H') : tWE X e σ H Q' := fun pins s I => thn (h pins s I) fun u s' ⟨v, H', a, b, c⟩ => ⟨v, H', a, b, hq _ _ c⟩
theorem tWT.imp {e : Expr} {Q Q' : Bool → Hp → Prop} (h : tWT X e σ H Q) (hq : ∀ v H', Q v H' → Q' v H') : tWT X e σ H Q' := fun pins s I => thn (h pins s I) fun u s' ⟨H', a, c⟩ => ⟨H', a, hq _ _ c⟩
theorem tWV.imp {e : Expr} {Q Q' : Bool → Hp → Prop} (h : tWV X e σ H Q) (hq : ∀ v H', Q v H' → Q' v H') : tWV X e σ H Q' := fun whole pins s I => thn (h whole pins s I) fun u s' ⟨H', a, c⟩ => ⟨H', a, hq _ _ c⟩
theorem tWA.imp {es : List Expr} {Q Q' : List V → Hp → Prop} (h : tWA X es σ H Q) (hq : ∀ v H', Q v H' → Q' v H') : tWA X es σ H Q' := fun pos pins s I => thn (h pos pins s I) fun u s' ⟨v, H', a, b, c⟩ => ⟨v, H', a, b, hq _ _ c⟩
/-- ends, one under another -/
structure EndsLe (D D' : Ends) : Prop where
  nx : ∀ σ H, D.nx σ H → D'.nx σ H
  rt : ∀ v H, D.rt v H → D'.rt v H
  bk : ∀ σ H, D.bk σ H → D'.bk σ H
  ct : ∀ σ H, D.ct σ H → D'.ct σ H
theorem SP.imp {pins : List (Addr × Obj)} {D D' : Ends} (l : EndsLe D D') {f : Flow} {s : Shared} (h : SP X pins D f s) : SP X pins D' f s := by
  cases f with
  | next => obtain ⟨a, b, c, d⟩ := h; exact ⟨a, b, c, l.nx _ _ d⟩
  | brk => obtain ⟨a, b, c, d⟩ := h; exact ⟨a, b, c, l.bk _ _ d⟩
  | cont => obtain ⟨a, b, c, d⟩ := h; exact ⟨a, b, c, l.ct _ _ d⟩
  | ret u => obtain ⟨a, b, c, d, e, f⟩ := h; exact ⟨a, b, c, d, e, l.rt _ _ f⟩
theorem tWS.imp {st : Stmt} {D D' : Ends} (h : tWS X st D σ H) (l : EndsLe D D') : tWS X st D' σ H := fun pins s I => thn (h pins s I) fun _ _ q => SP.imp l q
theorem tWSs.imp {st : List Stmt} {D D' : Ends} (h : tWSs X st D σ H) (l : EndsLe D D') : tWSs X st D' σ H := fun pins s I => thn (h pins s I) fun _ _ q => SP.imp l q
end

/-! ### readings over trees -/
abbrev DK := D → MH → Prop
def Post (K : PySem.W.Frag) (Z F : Hp) (Q : DK) : VK := fun v H' => ∃ d F' M', Same F F' ∧ Rel K Z F' H' M' ∧ Rep K F' v d ∧ Q d M'
def PostT (K : PySem.W.Frag) (Z F : Hp) (Q : Bool → MH → Prop) : Bool → Hp → Prop := fun b H' => ∃ F' M', Same F F' ∧ Rel K Z F' H' M' ∧ Q b M'
def PostA (K : PySem.W.Frag) (Z F : Hp) (Q : List D → MH → Prop) : List V → Hp → Prop := fun vs H' => ∃ ds F' M', Same F F' ∧ Rel K Z F' H' M' ∧ RepAll K F' vs ds ∧ Q ds M'
def PostN (X : Cx) (Z F : Hp) (Q : Rho → MH → Prop) : L2.St → Hp → Prop := fun σ' H' => ∃ F' ρ' M', Same F F' ∧ Rel X.K Z F' H' M' ∧ REnv X F' σ' ρ' ∧ Q ρ' M'
structure DE where
  nx : Rho → MH → Prop
  rt : DK
  bk : Rho → MH → Prop := fun _ _ => False
  ct : Rho → MH → Prop := fun _ _ => False
def PostS (X : Cx) (Z F : Hp) (E : DE) : Ends := ⟨PostN X Z F E.nx, Post X.K Z F E.rt, PostN X Z F E.bk, PostN X Z F E.ct⟩
theorem Post.up {K : PySem.W.Frag} {Z F F' : Hp} (e : Same F F') {Q : DK} {v : V} {H : Hp} (h : Post K Z F' Q v H) : Post K Z F Q v H :=
  let ⟨d, F2, M2, a, b, c, q⟩ := h; ⟨d, F2, M2, e.trans a, b, c, q⟩
theorem PostT.up {K : PySem.W.Frag} {Z F F' : Hp} (e : Same F F') {Q : Bool → MH → Prop} {v : Bool} {H : Hp} (h : PostT K Z F' Q v H) : PostT K Z F Q v H :=
  let ⟨F2, M2, a, b, q⟩ := h; ⟨F2, M2, e.trans a, b, q⟩
theorem PostA.up {K : PySem.W.Frag} {Z F F' : Hp} (e : Same F F') {Q : List D → MH → Prop} {v : List V} {H : Hp} (h : PostA K Z F' Q v H) : PostA K Z F Q v H :=
  let ⟨d, F2, M2, a, b, c, q⟩ := h; ⟨d, F2, M2, e.trans a, b, c, q⟩
theorem PostN.up {X : Cx} {Z F F' : Hp} (e : Same F F') {Q : Rho → MH → Prop} {σ : L2.St} {H : Hp} (h : PostN X Z F' Q σ H) : PostN X Z F Q σ H :=
  let ⟨F2, ρ2, M2, a, b, c, q⟩ := h; ⟨F2, ρ2, M2, e.trans a, b, c, q⟩
theorem PostS.up {X : Cx} {Z F F' : Hp} (e : Same F F') {E : DE} : EndsLe (PostS X Z F' E) (PostS X Z F E) := ⟨fun _ _ h => h.up e, fun _ _ h => h.up e, fun _ _ h => h.up e, fun _ _ h => h.up e⟩

structure WE (X : Cx) (e : Expr) (ρ : Rho) (M : MH) (Q : DK) : Prop where
  run : ∀ σ Z F H, Rel X.K Z F H M → REnv X F σ ρ → tWE X e σ H (Post X.K Z F Q)
structure WT (X : Cx) (e : Expr) (ρ : Rho) (M : MH) (Q : Bool → MH → Prop) : Prop where
  run : ∀ σ Z F H, Rel X.K Z F H M → REnv X F σ ρ → tWT X e σ H (PostT X.K Z F Q)
structure WV (X : Cx) (e : Expr) (ρ : Rho) (M : MH) (Q : Bool → MH → Prop) : Prop where
  run : ∀ σ Z F H, Rel X.K Z F H M → REnv X F σ ρ → tWV X e σ H (PostT X.K Z F Q)
structure WA (X : Cx) (es : List Expr) (ρ : Rho) (M : MH) (Q : List D → MH → Prop) : Prop where
  run : ∀ σ Z F H, Rel X.K Z F H M → REnv X F σ ρ → tWA X es σ H (PostA X.K Z F Q)
structure WS (X : Cx) (st : Stmt) (ρ : Rho) (M : MH) (E : DE) : Prop where
  run : ∀ σ Z F H, Rel X.K Z F H M → REnv X F σ ρ → tWS X st (PostS X Z F E) σ H
structure WSs (X : Cx) (st : List Stmt) (ρ : Rho) (M : MH) (E : DE) : Prop where
  run : ∀ σ Z F H, Rel X.K Z F H M → REnv X F σ ρ → tWSs X st (PostS X Z F E) σ H
section
variable {X : Cx} {ρ : Rho} {M : MH} {Q : DK}
theorem we_of {e : Expr} {t : TE} (p : PE X e t) (h : ∀ σ Z F H, Rel X.K Z F H M → REnv X F σ ρ → t σ H (Post X.K Z F Q)) : WE X e ρ M Q :=
  ⟨fun σ Z F H r n pins s I => p.run pins s σ H _ I (h σ Z F H r n)⟩
theorem wt_of {e : Expr} {t : TT} {Q : Bool → MH → Prop} (p : PT X e t) (h : ∀ σ Z F H, Rel X.K Z F H M → REnv X F σ ρ → t σ H (PostT X.K Z F Q)) : WT X e ρ M Q :=
  ⟨fun σ Z F H r n pins s I => p.run pins s σ H _ I (h σ Z F H r n)⟩
theorem wv_of {e : Expr} {t : TT} {Q : Bool → MH → Prop} (p : PW X e t) (h : ∀ σ Z F H, Rel X.K Z F H M → REnv X F σ ρ → t σ H (PostT X.K Z F Q)) : WV X e ρ M Q :=
  ⟨fun σ Z F H r n whole pins s I => p.run whole pins s σ H _ I (h σ Z F H r n)⟩
theorem wa_of {es : List Expr} {t : TA} {Q : List D → MH → Prop} (p : PA X es t) (h : ∀ σ Z F H, Rel X.K Z F H M → REnv X F σ ρ → t σ H (PostA X.K Z F Q)) : WA X es ρ M Q :=
  ⟨fun σ Z F H r n pos pins s I => p.run pos pins s σ H _ I (h σ Z F H r n)⟩
theorem ws_of {st : Stmt} {t : TS} {E : DE} (p : PS X st t) (h : ∀ σ Z F H, Rel X.K Z F H M → REnv X F σ ρ → t (PostS X Z F E) σ H) : WS X st ρ M E :=
  ⟨fun σ Z F H r n pins s I => p.run pins s σ H _ I (h σ Z F H r n)⟩
theorem wss_of {st : List Stmt} {t : TS} {E : DE} (p : PSs X st t) (h : ∀ σ Z F H, Rel X.K Z F H M → REnv X F σ ρ → t (PostS X Z F E) σ H) : WSs X st ρ M E :=
  ⟨fun σ Z F H r n pins s I => p.run pins s σ H _ I (h σ Z F H r n)⟩
theorem WE.imp {e : Expr} {Q' : DK} (h : WE X e ρ M Q) (hq : ∀ d M', Q d M' → Q' d M') : WE X e ρ M Q' :=
  ⟨fun σ Z F H r n => (h.run σ Z F H r n).imp fun v H' ⟨d, F', M', a, b, c, q⟩ => ⟨d, F', M', a, b, c, hq _ _ q⟩⟩
theorem WT.imp {e : Expr} {Q Q' : Bool → MH → Prop} (h : WT X e ρ M Q) (hq : ∀ d M', Q d M' → Q' d M') : WT X e ρ M Q' :=
  ⟨fun σ Z F H r n => (h.run σ Z F H r n).imp fun v H' ⟨F', M', a, b, q⟩ => ⟨F', M', a, b, hq _ _ q⟩⟩
theorem WA.imp {e : List Expr} {Q Q' : List D → MH → Prop} (h : WA X e ρ M Q) (hq : ∀ d M', Q d M' → Q' d M') : WA X e ρ M Q' :=
  ⟨fun σ Z F H r n => (h.run σ Z F H r n).imp fun v H' ⟨d, F', M', a, b, c, q⟩ => ⟨d, F', M', a, b, c, hq _ _ q⟩⟩
structure DEle (E E' : DE) : Prop where
  nx : ∀ ρ M, E.nx ρ M → E'.nx ρ M
  rt : ∀ d M, E.rt d M → E'.rt d M
  bk : ∀ ρ M, E.bk ρ M → E'.bk ρ M
  ct : ∀ ρ M, E.ct ρ M → E'.ct ρ M
theorem PostN.imp {Z F : Hp} {Q Q' : Rho → MH → Prop} (hq : ∀ ρ M, Q ρ M → Q' ρ M) {σ : L2.St} {H : Hp} (h : PostN X Z F Q σ H) : PostN X Z F Q' σ H :=
  let ⟨F2, ρ2, M2, a, b, c, q⟩ := h; ⟨F2, ρ2, M2, a, b, c, hq _ _ q⟩
theorem Post.imp {K : PySem.W.Frag} {Z F : Hp} {Q Q' : DK} (hq : ∀ d M, Q d M → Q' d M) {v : V} {H : Hp} (h : Post K Z F Q v H) : Post K Z F Q' v H :=
  let ⟨d, F2, M2, a, b, c, q⟩ := h; ⟨d, F2, M2, a, b, c, hq _ _ q⟩
theorem PostS.imp {Z F : Hp} {E E' : DE} (l : DEle E E') : EndsLe (PostS X Z F E) (PostS X Z F E') := ⟨fun _ _ h => h.imp l.nx, fun _ _ h => h.imp l.rt, fun _ _ h => h.imp l.bk, fun _ _ h => h.imp l.ct⟩
theorem WSs.imp {st : List Stmt} {E E' : DE} (h : WSs X st ρ M E) (l : DEle E E') : WSs X st ρ M E' := ⟨fun σ Z F H r n => (h.run σ Z F H r n).imp (PostS.imp l)⟩
theorem WS.imp {st : Stmt} {E E' : DE} (h : WS X st ρ M E) (l : DEle E E') : WS X st ρ M E' := ⟨fun σ Z F H r n => (h.run σ Z F H r n).imp (PostS.imp l)⟩
end
end DS
set_option Elab.async false
set_option linter.all false
set_option maxRecDepth 100000
set_option maxHeartbeats 4000000
/-! isinstance of a def of the module -/
namespace PySem
open Sem (wp)
namespace F
theorem ds_slot_function_getattribute : Slot "function" "__getattribute__" "object.__getattribute__" :=
  .of (owner := "object") (n := "__getattribute__") (by rw [typeLookup_type, builtinLookup_eq_fast]; kernel_rfl) (by decide +kernel) (by decide +kernel) (by decide +kernel)
  (by first | exact .inl (by decide +kernel) | exact .inr (by decide +kernel)) (by rw [isSubtype_type]; kernel_rfl)
theorem ds_lk_function_class : typeLookup (.type "function") "__class__" = pure (some (.builtin "object.__class__")) := by rw [typeLookup_type, builtinLookup_eq_fast]; kernel_rfl
theorem ds_sub_function_class_owner : isSubtype (.type "function") (.type (".".intercalate ("object.__class__".cutAt '.').dropLast)) = pure true := by
  rw [owner_object_class, isSubtype_type]; kernel_rfl
end F
section
variable {prog : Program} {w : World} {A : Around} {E : Value → Shared → Prop} {h : Heap} {g : Array GenState} {d : Drawn} {t : Nat} {os : OsState} {a : Addr} {o : Obj}
theorem ds_class_get_function {R : Result → Shared → Prop} (hx : h.get? a = some o) (hc : o.cls = .type "function") (hq : R (.ok (.ret (.type "function"))) ⟨h, g, d, t, os⟩) :
    codeAny (model prog w) A (.call (.builtin "getset_descriptor.__get__") ⟨[.builtin "object.__class__", .ref a, .type "function"], []⟩) R ⟨h, g, d, t, os⟩ := by
  have hT : (⟨h, g, d, t, os⟩ : Shared).TypeIs (.ref a) "function" := ⟨_, hx, hc⟩
  have hT5 : (⟨h, g, d, t, os⟩ : Shared).TypeIs (.builtin "object.__class__") "getset_descriptor" := F.typeOf_object_class
  have f8 := F.ds_sub_function_class_owner
  refine codeAny_call_builtin F.slot_gs_get.plain F.entry_gs_get (F.slot_gs_get.check _ _ _ _ _ _ _ _ hT5 (F.args_gs_get _ _ _) ?_)
  repeat (any_goals (first | assumption | wp_step))
  refine ⟨Code.quiet_builtin _ (by decide +kernel), codeAny_builtin F.entry_object_class ?_⟩
  repeat (any_goals (first | assumption | wp_step))
theorem ds_class_entry_function {tk : Tok} {Q : Fin → Shared → Prop} (hx : h.get? a = some o) (hc : o.cls = .type "function") (hq : Q (.done (.ret (.type "function"))) ⟨h, g, d, t, os⟩) :
    wpAny (model prog w) A (Builtin.«object.__getattribute__» ⟨[.ref a, .str "__class__" tk], []⟩) Q E ⟨h, g, d, t, os⟩ := by
  have hT : (⟨h, g, d, t, os⟩ : Shared).TypeIs (.ref a) "function" := ⟨_, hx, hc⟩
  have hT5 : (⟨h, g, d, t, os⟩ : Shared).TypeIs (.builtin "object.__class__") "getset_descriptor" := F.typeOf_object_class
  have f4 := F.ds_lk_function_class
  have f5 := F.typeOf_object_class
  have f6 := F.slot_gs_get.lookup
  have f7 := F.slot_gs_set.lookup
  repeat (any_goals (first | assumption | wp_step))
  refine ds_class_get_function hx hc ?_
  repeat (any_goals (first | assumption | wp_step))
theorem ds_class_call_function {tk : Tok} {R : Result → Shared → Prop} (hx : h.get? a = some o) (hc : o.cls = .type "function") (hq : R (.ok (.ret (.type "function"))) ⟨h, g, d, t, os⟩) :
    codeAny (model prog w) A (.call (.builtin "object.__getattribute__") ⟨[.ref a, .str "__class__" tk], []⟩) R ⟨h, g, d, t, os⟩ :=
  codeAny_call_builtin F.ds_slot_function_getattribute.plain F.entry_object_getattribute (F.ds_slot_function_getattribute.check _ _ _ _ _ _ _ _ (show (⟨h, g, d, t, os⟩ : Shared).TypeIs (.ref a) "function" from ⟨_, hx, hc⟩) (F.args_object_getattribute_2 _ _) (ds_class_entry_function hx hc hq))
theorem ds_class_by_function {tk : Tok} {Q : Value → Shared → Prop} (hx : h.get? a = some o) (hc : o.cls = .type "function") (hq : Q (.type "function") ⟨h, g, d, t, os⟩) : wpAny (model prog w) A (getAttrBy (.ref a) (.str "__class__" tk) false) Q E ⟨h, g, d, t, os⟩ := by
  have hT : (⟨h, g, d, t, os⟩ : Shared).TypeIs (.ref a) "function" := ⟨_, hx, hc⟩
  have f2 := F.ds_slot_function_getattribute.lookup
  have f3 := F.ds_slot_function_getattribute.bind (.ref a)
  repeat (any_goals (first | assumption | wp_step))
  refine ds_class_call_function hx hc ?_
  repeat (any_goals (first | assumption | wp_step))
theorem ds_class_attr_function {Q : Option Value → Shared → Prop} (hx : h.get? a = some o) (hc : o.cls = .type "function") (hq : Q (some (.type "function")) ⟨h, g, d, t + 1, os⟩) : wpAny (model prog w) A (getAttr? (.ref a) "__class__") Q E ⟨h, g, d, t, os⟩ := by
  unfold getAttr? getAttrBy?
  repeat (any_goals (first | assumption | with_reducible apply ds_class_by_function hx hc | wp_step))
end
end PySem
namespace DS
open PySem PySem.W
theorem kitx_fn {K : Frag} {a : Addr} : KitX K (.ref a) (.type "function") (KitAt a "function") := kitx_of kitAt_ty (fun {_ _ _ _ _ s} p k => by obtain ⟨h, g, d, t, os⟩ := s; obtain ⟨o, h1, h2⟩ := p; exact ds_class_attr_function h1 h2 k)
end DS
set_option Elab.async false
set_option linter.all false
set_option maxRecDepth 100000
set_option maxHeartbeats 4000000
namespace DS
open PySem PySem.Spec PyProof.Rows L2 TL

/-! ### two ways -/
def Br (b : Bool) (A B : Prop) : Prop := (b = true → A) ∧ (b = false → B)
theorem br_t {A B : Prop} (h : A) : Br true A B := ⟨fun _ => h, fun e => Bool.noConfusion e⟩
theorem br_f {A B : Prop} (h : B) : Br false A B := ⟨fun e => Bool.noConfusion e, fun _ => h⟩
theorem br_dec {p : Prop} [Decidable p] {A B : Prop} (h : p → A) (h' : ¬ p → B) : Br (decide p) A B := ⟨fun e => h (of_decide_eq_true e), fun e => h' (of_decide_eq_false e)⟩
theorem br_not {b : Bool} {A B : Prop} (h : Br b B A) : Br (!b) A B := ⟨fun e => h.2 (by cases b; rfl; cases e), fun e => h.1 (by cases b; cases e; rfl)⟩
theorem br_and {a b : Bool} {A B : Prop} (h : Br a (Br b A B) B) : Br (a && b) A B := ⟨fun e => by
    rw [Bool.and_eq_true] at e
    exact (h.1 e.1).1 e.2, fun e => by
    cases ha : a with
    | false => exact h.2 ha
    | true => rw [ha, Bool.true_and] at e; exact (h.1 ha).2 e⟩
theorem br_or {a b : Bool} {A B : Prop} (h : Br a A (Br b A B)) : Br (a || b) A B := ⟨fun e => by
    cases ha : a with
    | true => exact h.1 ha
    | false => rw [ha, Bool.false_or] at e; exact (h.2 ha).1 e, fun e => by
    rw [Bool.or_eq_false_iff] at e
    exact (h.2 e.1).2 e.2⟩
theorem br_any {b : Bool} {A B : Prop} (h : b = true → A) (h' : b = false → B) : Br b A B := ⟨h, h'⟩

section
variable {X : Cx} {ρ : Rho} {M : MH} {Q : DK} {a b c e : Expr} {es : List Expr} {pos : Pos} {x : Str}
/-! ### names, constants -/
theorem we_var {i : Nat} {d : D} (l : Lk ρ i x d) (hv : Vis X.env.scope x) (h : Q d M) (hd : (x == ("__debug__" : Str)) = false := by decide) (hcd : (x == ("__classdict__" : Str)) = false := by decide) : WE X (.Name x pos) ρ M Q := by
  refine ⟨fun σ Z F H r n pins s I => ?_⟩
  obtain ⟨v, e, rp⟩ := n.at_ i x d l.get
  have hN : X.N[i]? = some x := by rw [n.nm, List.getElem?_map, l.get]; rfl
  exact (pe_var hN hv hd hcd).run pins s σ H _ I ⟨v, e, d, F, M, .refl F, r, rp, h⟩
theorem we_int {i j} (h : Q (.int i) M) : WE X (.Constant (.int i) j pos) ρ M Q := we_of pe_int fun σ Z F H r n => ⟨_, F, M, .refl F, r, .int i, h⟩
theorem we_bl {i j} (h : Q (.bl i) M) : WE X (.Constant (.bool i) j pos) ρ M Q := we_of pe_bl fun σ Z F H r n => ⟨_, F, M, .refl F, r, .bl i, h⟩
theorem we_non {j} (h : Q .non M) : WE X (.Constant .none j pos) ρ M Q := we_of pe_non fun σ Z F H r n => ⟨_, F, M, .refl F, r, .non, h⟩
theorem we_str {i j} (h : Q (.str i) M) : WE X (.Constant (.str i) j pos) ρ M Q := we_of pe_str fun σ Z F H r n => ⟨_, F, M, .refl F, r, .str i, h⟩
/-- a constant of the module -/
inductive Cst (K : PySem.W.Frag) : Value → D → Prop
  | int (i : Int) (t : Tok) : Cst K (.int i t) (.int i)
  | str (x : Str) (t : Tok) : Cst K (.str x t) (.str x)
  | tup {f : Addr} {o : Obj} {its : Array Value} {n : Nat} {vs : List V} {ds : List D} : K.lookup f = some o → o.cls = .type "tuple" → o.data = .seq its n → its.size ≤ sizeLine → Vals vs its.toList → (∀ F, RepAll K F vs ds) → Cst K (.ref f) (.tup ds)
  | fn {f : Addr} : isFn K f → Cst K (.ref f) (.fn f)
theorem we_cst {u : Value} {d : D} (hg : Gl X x) (hm : X.mg x = some u) (k : Cst X.K u d) (h : Q d M) (hd : (x == ("__debug__" : Str)) = false := by decide) : WE X (.Name x pos) ρ M Q := by
  cases k with
  | int i t => exact we_of (pe_glob hg hm (v := .int i) ⟨t, rfl⟩ hd) fun σ Z F H r n => ⟨_, F, M, .refl F, r, .int i, h⟩
  | str i t => exact we_of (pe_glob hg hm (v := .str i) ⟨t, rfl⟩ hd) fun σ Z F H r n => ⟨_, F, M, .refl F, r, .str i, h⟩
  | @tup f o its n vs ds h1 h2 h3 h4 h5 h6 => exact we_of (pe_glob hg hm (v := .ref f) rfl hd) fun σ Z F H r n => ⟨_, F, M, .refl F, r, .tup (.inr ⟨o, its, _, h1, h2, h3, h4, h5⟩) (h6 F), h⟩
  | @fn f hf => exact we_of (pe_glob hg hm (v := .ref f) rfl hd) fun σ Z F H r n => ⟨_, F, M, .refl F, r, .fn f hf, h⟩

/-! ### operators -/
def rW (X : Cx) (f : Value → Value → Sem Value) : R2 := fun x y H Q => ∀ pins s σ v u, Inv X pins σ H s → RelV x v → RelV y u → wpAny (model X.prog X.w) X.A (f v u) (EP X pins σ Q) X.xe s
theorem opr_W {f : Value → Value → Sem Value} : OpR X f (rW X f) := fun pins s σ H x y v u Q I rx ry h => h pins s σ v u I rx ry
def uW (X : Cx) (f : Value → Sem Value) : V → Hp → VK → Prop := fun x H Q => ∀ pins s σ v, Inv X pins σ H s → RelV x v → wpAny (model X.prog X.w) X.A (f v) (EP X pins σ Q) X.xe s
theorem unr_W {f : Value → Sem Value} : UnR X f (uW X f) := fun pins s σ H x v Q I rx h => h pins s σ v I rx
/-- an operation on two trees -/
structure OpD (X : Cx) (f : Value → Value → Sem Value) (d1 d2 : D) (M : MH) (Q : DK) : Prop where
  run : ∀ Z F H x y, Rel X.K Z F H M → Rep X.K F x d1 → Rep X.K F y d2 → rW X f x y H (Post X.K Z F Q)
structure UnD (X : Cx) (f : Value → Sem Value) (d1 : D) (M : MH) (Q : DK) : Prop where
  run : ∀ Z F H x, Rel X.K Z F H M → Rep X.K F x d1 → uW X f x H (Post X.K Z F Q)
theorem opd_of {f : Value → Value → Sem Value} {r : R2} {d1 d2 : D} (o : OpR X f r) (h : ∀ Z F H x y, Rel X.K Z F H M → Rep X.K F x d1 → Rep X.K F y d2 → r x y H (Post X.K Z F Q)) : OpD X f d1 d2 M Q :=
  ⟨fun Z F H x y rl r1 r2 pins s σ v u I rx ry => o pins s σ H x y v u _ I rx ry (h Z F H x y rl r1 r2)⟩
theorem und_of {f : Value → Sem Value} {r : V → Hp → VK → Prop} {d1 : D} (o : UnR X f r) (h : ∀ Z F H x, Rel X.K Z F H M → Rep X.K F x d1 → r x H (Post X.K Z F Q)) : UnD X f d1 M Q :=
  ⟨fun Z F H x rl r1 pins s σ v I rx => o pins s σ H x v _ I rx (h Z F H x rl r1)⟩
theorem two_of {f : Value → Value → Sem Value} {σ : L2.St} {Z F H : Hp} (ha : WE X a ρ M fun d1 M1 => WE X b ρ M1 fun d2 M2 => OpD X f d1 d2 M2 Q) (r : Rel X.K Z F H M) (n : REnv X F σ ρ) :
    tWE X a σ H fun x H1 => tWE X b σ H1 fun y H2 => rW X f x y H2 (Post X.K Z F Q) := by
  refine (ha.run σ Z F H r n).imp fun x H1 ⟨d1, F1, M1, s1, r1, p1, q1⟩ => ?_
  refine (q1.run σ Z F1 H1 r1 (n.mono s1)).imp fun y H2 ⟨d2, F2, M2, s2, r2, p2, q2⟩ => ?_
  intro pins s σ' v u I rx ry
  exact thn (q2.run Z F2 H2 x y r2 (p1.mono s2) p2 pins s σ' v u I rx ry) fun w s' ⟨v', H', i, rv, q⟩ => ⟨v', H', i, rv, q.up (s1.trans s2)⟩
theorem we_op {op : Operator} (h : WE X a ρ M fun d1 M1 => WE X b ρ M1 fun d2 M2 => OpD X (binaryOp op) d1 d2 M2 Q) : WE X (.BinOp a op b pos) ρ M Q :=
  we_of (pe_op opr_W pe_W pe_W) fun σ Z F H r n => two_of h r n
theorem we_un {op : UnaryOp} (h : WE X a ρ M fun d1 M1 => UnD X (unaryOp op) d1 M1 Q) : WE X (.UnaryOp op a pos) ρ M Q :=
  we_of (pe_un unr_W pe_W) fun σ Z F H r n => (h.run σ Z F H r n).imp fun x H1 ⟨d1, F1, M1, s1, r1, p1, q1⟩ => fun pins s σ' v I rx =>
    thn (q1.run Z F1 H1 x r1 p1 pins s σ' v I rx) fun w s' ⟨v', H', i, rv, q⟩ => ⟨v', H', i, rv, q.up s1⟩
theorem we_cmp {op : CmpOp} (hm : behindInMarks op b = false) (h : WE X a ρ M fun d1 M1 => WE X b ρ M1 fun d2 M2 => OpD X (compareOp op) d1 d2 M2 Q) : WE X (.Compare a [op] [b] pos) ρ M Q :=
  we_of (pe_cmpR opr_W pe_W pe_W hm) fun σ Z F H r n => two_of h r n
/-- a < b < c -/
theorem we_chain {op op' : CmpOp} (hm : lastMarks [op, op'] [b, c] = false) (h : WE X a ρ M fun d1 M1 => WE X b ρ M1 fun d2 M2 => OpD X (compareOp op) d1 d2 M2 fun d3 M3 => ∃ k, d3 = .bl k ∧ Br k (WE X c ρ M3 fun d4 M4 => OpD X (compareOp op') d2 d4 M4 Q) (Q (.bl false) M3)) :
    WE X (.Compare a [op, op'] [b, c] pos) ρ M Q := by
  refine we_of (pe_chain opr_W opr_W pe_W pe_W pe_W (hm := hm)) fun σ Z F H r n => ?_
  refine (h.run σ Z F H r n).imp fun x H1 ⟨d1, F1, M1, s1, r1, p1, q1⟩ => ?_
  refine (q1.run σ Z F1 H1 r1 (n.mono s1)).imp fun y H2 ⟨d2, F2, M2, s2, r2, p2, q2⟩ => ?_
  intro pins s σ' v u I rx ry
  refine thn (q2.run Z F2 H2 x y r2 (p1.mono s2) p2 pins s σ' v u I rx ry) fun w s' ⟨v', H3, i, rv, d3, F3, M3, s3, r3, p3, k, e3, br⟩ => ?_
  subst e3
  cases p3
  refine ⟨.bl k, H3, i, rv, k, rfl, ?_⟩
  cases k with
  | false => exact iteF ⟨_, F3, M3, (s1.trans s2).trans s3, r3, .bl false, br.2 rfl⟩
  | true =>
    refine iteT ?_
    refine ((br.1 rfl).run σ Z F3 H3 r3 (n.mono ((s1.trans s2).trans s3))).imp fun z H4 ⟨d4, F4, M4, s4, r4, p4, q4⟩ => ?_
    intro pins' s'' σ'' v4 u4 I4 rx4 ry4
    exact thn (q4.run Z F4 H4 y z r4 (p2.mono (s3.trans s4)) p4 pins' s'' σ'' v4 u4 I4 rx4 ry4) fun w s' ⟨v', H', i, rv, q⟩ => ⟨v', H', i, rv, q.up (((s1.trans s2).trans s3).trans s4)⟩

/-! ### operations on trees -/
theorem op_addI {i j : Int} (h : Q (.int (i + j)) M) : OpD X (binaryOp .Add) (.int i) (.int j) M Q := opd_of L2.op_add fun Z F H x y r p1 p2 => by
  cases p1; cases p2; exact ⟨i, j, rfl, rfl, _, F, M, .refl F, r, .int _, h⟩
theorem op_subI {i j : Int} (h : Q (.int (i - j)) M) : OpD X (binaryOp .Sub) (.int i) (.int j) M Q := opd_of L2.op_sub fun Z F H x y r p1 p2 => by
  cases p1; cases p2; exact ⟨i, j, rfl, rfl, _, F, M, .refl F, r, .int _, h⟩
theorem op_mulI {i j : Int} (hc : CMulW i j) (h : Q (.int (i * j)) M) : OpD X (binaryOp .Mult) (.int i) (.int j) M Q := opd_of op_mulW fun Z F H x y r p1 p2 => by
  cases p1; cases p2; exact ⟨i, j, rfl, rfl, hc, _, F, M, .refl F, r, .int _, h⟩
theorem op_mulI' {i j : Int} (hc : CMul i j) (h : Q (.int (i * j)) M) : OpD X (binaryOp .Mult) (.int i) (.int j) M Q := opd_of L2.op_mul fun Z F H x y r p1 p2 => by
  cases p1; cases p2; exact ⟨i, j, rfl, rfl, hc, _, F, M, .refl F, r, .int _, h⟩
theorem op_modI {i j : Int} (hc : 0 < j) (h : Q (.int (i % j)) M) : OpD X (binaryOp .Mod) (.int i) (.int j) M Q := opd_of L2.op_mod fun Z F H x y r p1 p2 => by
  cases p1; cases p2; exact ⟨i, j, rfl, rfl, hc, _, F, M, .refl F, r, .int _, h⟩
theorem op_divI {i j : Int} (hc : CDiv i j) (h : Q (.int (i / j)) M) : OpD X (binaryOp .FloorDiv) (.int i) (.int j) M Q := opd_of L2.op_fdiv fun Z F H x y r p1 p2 => by
  cases p1; cases p2; exact ⟨i, j, rfl, rfl, hc, _, F, M, .refl F, r, .int _, h⟩
theorem op_divW {i j : Int} (hc : CDivW i j) (h : Q (.int (i / j)) M) : OpD X (binaryOp .FloorDiv) (.int i) (.int j) M Q := opd_of op_fdivW fun Z F H x y r p1 p2 => by
  cases p1; cases p2; exact ⟨i, j, rfl, rfl, hc, _, F, M, .refl F, r, .int _, h⟩
theorem op_powI {i j : Int} (hc : CPow i j) (h : Q (.int (i ^ j.toNat)) M) : OpD X (binaryOp .Pow) (.int i) (.int j) M Q := opd_of L2.op_pow fun Z F H x y r p1 p2 => by
  cases p1; cases p2; exact ⟨i, j, rfl, rfl, hc, _, F, M, .refl F, r, .int _, h⟩
theorem op_addS {i j : Str} (hc : i.length + j.length ≤ sizeLine) (h : Q (.str (i ++ j)) M) : OpD X (binaryOp .Add) (.str i) (.str j) M Q := opd_of op_add_str fun Z F H x y r p1 p2 => by
  cases p1; cases p2; exact ⟨i, j, rfl, rfl, hc, _, F, M, .refl F, r, .str _, h⟩
theorem un_negI {i : Int} (h : Q (.int (-i)) M) : UnD X (unaryOp .USub) (.int i) M Q := und_of un_neg fun Z F H x r p1 => by
  cases p1; exact ⟨i, rfl, _, F, M, .refl F, r, .int _, h⟩
theorem op_ltI {i j : Int} (h : Q (.bl (decide (i < j))) M) : OpD X (compareOp .Lt) (.int i) (.int j) M Q := opd_of L2.op_lt fun Z F H x y r p1 p2 => by
  cases p1; cases p2; exact ⟨i, j, rfl, rfl, _, F, M, .refl F, r, .bl _, h⟩
theorem op_leI {i j : Int} (h : Q (.bl (decide (i ≤ j))) M) : OpD X (compareOp .LtE) (.int i) (.int j) M Q := opd_of L2.op_le fun Z F H x y r p1 p2 => by
  cases p1; cases p2; exact ⟨i, j, rfl, rfl, _, F, M, .refl F, r, .bl _, h⟩
theorem op_gtI {i j : Int} (h : Q (.bl (decide (j < i))) M) : OpD X (compareOp .Gt) (.int i) (.int j) M Q := opd_of L2.op_gt fun Z F H x y r p1 p2 => by
  cases p1; cases p2; exact ⟨i, j, rfl, rfl, _, F, M, .refl F, r, .bl _, h⟩
theorem op_geI {i j : Int} (h : Q (.bl (decide (j ≤ i))) M) : OpD X (compareOp .GtE) (.int i) (.int j) M Q := opd_of L2.op_ge fun Z F H x y r p1 p2 => by
  cases p1; cases p2; exact ⟨i, j, rfl, rfl, _, F, M, .refl F, r, .bl _, h⟩
theorem op_ltS {i j : Str} (h : Q (.bl (decide (tl i < tl j))) M) : OpD X (compareOp .Lt) (.str i) (.str j) M Q := opd_of op_lt_str fun Z F H x y r p1 p2 => by
  cases p1; cases p2; exact ⟨i, j, rfl, rfl, _, F, M, .refl F, r, .bl _, h⟩
theorem op_leS {i j : Str} (h : Q (.bl (!decide (tl j < tl i))) M) : OpD X (compareOp .LtE) (.str i) (.str j) M Q := opd_of op_le_str fun Z F H x y r p1 p2 => by
  cases p1; cases p2; exact ⟨i, j, rfl, rfl, _, F, M, .refl F, r, .bl _, h⟩
theorem op_gtS {i j : Str} (h : Q (.bl (decide (tl j < tl i))) M) : OpD X (compareOp .Gt) (.str i) (.str j) M Q := opd_of op_gt_str fun Z F H x y r p1 p2 => by
  cases p1; cases p2; exact ⟨i, j, rfl, rfl, _, F, M, .refl F, r, .bl _, h⟩
theorem op_inSg {c : Nat} {j : Str} (h : Q (.bl (decide (c ∈ tl j))) M) : OpD X (compareOp .In) (.str ⟨#[c]⟩) (.str j) M Q := opd_of op_in_sign fun Z F H x y r p1 p2 => by
  cases p1; cases p2; exact ⟨c, j, rfl, rfl, _, F, M, .refl F, r, .bl _, h⟩
theorem op_eqI {i j : Int} (h : Q (.bl (decide (i = j))) M) : OpD X (compareOp .Eq) (.int i) (.int j) M Q := opd_of L2.op_eq fun Z F H x y r p1 p2 => by
  cases p1; cases p2; exact ⟨rfl, _, F, M, .refl F, r, .bl _, by simpa using h⟩
theorem op_neI {i j : Int} (h : Q (.bl (!decide (i = j))) M) : OpD X (compareOp .NotEq) (.int i) (.int j) M Q := opd_of L2.op_ne fun Z F H x y r p1 p2 => by
  cases p1; cases p2; exact ⟨rfl, _, F, M, .refl F, r, .bl _, by simpa using h⟩
theorem op_eqS {i j : Str} (h : Q (.bl (decide (i = j))) M) : OpD X (compareOp .Eq) (.str i) (.str j) M Q := opd_of L2.op_eq fun Z F H x y r p1 p2 => by
  cases p1; cases p2; exact ⟨rfl, _, F, M, .refl F, r, .bl _, by simpa using h⟩
theorem op_neS {i j : Str} (h : Q (.bl (!decide (i = j))) M) : OpD X (compareOp .NotEq) (.str i) (.str j) M Q := opd_of L2.op_ne fun Z F H x y r p1 p2 => by
  cases p1; cases p2; exact ⟨rfl, _, F, M, .refl F, r, .bl _, by simpa using h⟩
theorem op_eqB {i j : Bool} (h : Q (.bl (decide (i = j))) M) : OpD X (compareOp .Eq) (.bl i) (.bl j) M Q := opd_of L2.op_eq fun Z F H x y r p1 p2 => by
  cases p1; cases p2; exact ⟨rfl, _, F, M, .refl F, r, .bl _, by simpa using h⟩
theorem op_isB {i j : Bool} (h : Q (.bl (decide (i = j))) M) : OpD X (compareOp .Is) (.bl i) (.bl j) M Q := opd_of op_isBl fun Z F H x y r p1 p2 => by
  cases p1; cases p2; exact ⟨_, _, rfl, rfl, _, F, M, .refl F, r, .bl _, h⟩
theorem op_isntB {i j : Bool} (h : Q (.bl (!decide (i = j))) M) : OpD X (compareOp .IsNot) (.bl i) (.bl j) M Q := opd_of op_notBl fun Z F H x y r p1 p2 => by
  cases p1; cases p2; exact ⟨_, _, rfl, rfl, _, F, M, .refl F, r, .bl _, h⟩
def D.isN : D → Bool
  | .non => true
  | _ => false
theorem Rep.isN {K : PySem.W.Frag} {F : Hp} {v : V} {d : D} (r : Rep K F v d) : decide (v = V.non) = d.isN := by
  cases r <;> simp [D.isN]
theorem op_isNn {d : D} (h : Q (.bl d.isN) M) : OpD X (compareOp .Is) d .non M Q := opd_of op_isN fun Z F H x y r p1 p2 => by
  cases p2; exact ⟨rfl, _, F, M, .refl F, r, .bl _, by rw [p1.isN]; exact h⟩
theorem op_isntNn {d : D} (h : Q (.bl (!d.isN)) M) : OpD X (compareOp .IsNot) d .non M Q := opd_of op_notN fun Z F H x y r p1 p2 => by
  cases p2; exact ⟨rfl, _, F, M, .refl F, r, .bl _, by rw [p1.isN]; exact h⟩

/-! ### data: == -/
mutual
def toPy : D → PyData
  | .non => .none
  | .bl b => .bool b
  | .int i => .int i
  | .str x => .str x
  | .tup l => .tuple (toPys l)
  | .lst l => .list (toPys l)
  | .ref _ => .none
  | .fn _ => .none
  | .ty _ => .none
  | .dk _ => .none
def toPys : List D → List PyData
  | [] => []
  | d :: ds => toPy d :: toPys ds
end
mutual
/-- nothing but data -/
def plain : D → Bool
  | .tup l => plains l
  | .lst l => plains l
  | .ref _ => false
  | .fn _ => false
  | .ty _ => false
  | .dk _ => false
  | _ => true
def plains : List D → Bool
  | [] => true
  | d :: ds => plain d && plains ds
end
section
variable {K : PySem.W.Frag} {F H : Hp}
mutual
theorem Rep.dp (s : Same F H) : ∀ {v : V} {d : D}, Rep K F v d → plain d = true → Dp K H v (toPy d)
  | _, _, .non, _ => .non
  | _, _, .bl b, _ => .bl b
  | _, _, .int i, _ => .int i
  | _, _, .str x, _ => .str x
  | _, _, .lst h r, p => .lst (s.seq h) (RepAll.dp s r p)
  | _, _, .tup h r, p => .tup (Same.sqt s h) (RepAll.dp s r p)
  | _, _, .ref a, p => by cases p
  | _, _, .fn a h, p => by cases p
  | _, _, .ty n, p => by cases p
  | _, _, .dk _ _, p => by cases p
theorem RepAll.dp (s : Same F H) : ∀ {vs : List V} {ds : List D}, RepAll K F vs ds → plains ds = true → DpAll K H vs (toPys ds)
  | _, _, .nil, _ => .nil
  | _, _, .cons h r, p => by
    have p' := (Bool.and_eq_true_iff.mp p)
    exact .cons (Rep.dp s h p'.1) (RepAll.dp s r p'.2)
end
end
structure DataOk (d : D) : Prop where
  plain : plain d = true
  shaped : SeqAt.shaped (toPy d) = true
theorem op_eqT {d e : D} (hu : X.A.units + 64 < cLine) (h1 : DataOk d) (h2 : DataOk e) (h : Q (.bl (PyData.eqv (toPy d) (toPy e))) M) : OpD X (compareOp .Eq) d e M Q := opd_of (op_eqD hu) fun Z F H x y r p1 p2 =>
  ⟨_, _, p1.dp r.sub h1.plain, p2.dp r.sub h2.plain, h1.shaped, h2.shaped, _, F, M, .refl F, r, .bl _, h⟩
theorem op_neT {d e : D} (hu : X.A.units + 64 < cLine) (h1 : DataOk d) (h2 : DataOk e) (h : Q (.bl (!PyData.eqv (toPy d) (toPy e))) M) : OpD X (compareOp .NotEq) d e M Q := opd_of (op_neD hu) fun Z F H x y r p1 p2 =>
  ⟨_, _, p1.dp r.sub h1.plain, p2.dp r.sub h2.plain, h1.shaped, h2.shaped, _, F, M, .refl F, r, .bl _, h⟩

/-! ### lists and tuples as they are read -/
/-- d is read as the items ds, under M -/
inductive SeqV (M : MH) : D → List D → Prop
  | lst {ds : List D} : SeqV M (.lst ds) ds
  | tup {ds : List D} : SeqV M (.tup ds) ds
  | mu {a : Addr} {ds : List D} : M a = some (.lst ds) → SeqV M (.ref a) ds
theorem SeqV.at_ {K : PySem.W.Frag} {Z F H : Hp} {M : MH} {d : D} {ds : List D} {v : V} (q : SeqV M d ds) (r : Rel K Z F H M) (p : Rep K F v d) : ∃ a vs, v = .ref a ∧ (SqL K H a vs ∨ SqT K H a vs) ∧ RepAll K F vs ds := by
  cases q with
  | lst => cases p with | lst h ra => exact ⟨_, _, rfl, .inl (r.sub.seq h), ra⟩
  | tup => cases p with | tup h ra => exact ⟨_, _, rfl, .inr (Same.sqt r.sub h), ra⟩
  | mu e =>
    cases p
    obtain ⟨vs, h, ra, _⟩ := r.lstAt e
    exact ⟨_, vs, rfl, .inl (.of h), ra⟩
inductive SeqL (M : MH) : D → List D → Prop
  | lst {ds : List D} : SeqL M (.lst ds) ds
  | mu {a : Addr} {ds : List D} : M a = some (.lst ds) → SeqL M (.ref a) ds
theorem SeqL.at_ {K : PySem.W.Frag} {Z F H : Hp} {M : MH} {d : D} {ds : List D} {v : V} (q : SeqL M d ds) (r : Rel K Z F H M) (p : Rep K F v d) : ∃ a vs, v = .ref a ∧ SqL K H a vs ∧ RepAll K F vs ds := by
  cases q with
  | lst => cases p with | lst h ra => exact ⟨_, _, rfl, r.sub.seq h, ra⟩
  | mu e =>
    cases p
    obtain ⟨vs, h, ra, _⟩ := r.lstAt e
    exact ⟨_, vs, rfl, .of h, ra⟩

/-! ### tests -/
theorem wt_truth (he : ∀ whole, isTrue e X.env whole = (do let v ← whole; standAt e.pos; holding [v] (truthy v))) {Q : Bool → MH → Prop} (h : WE X e ρ M fun d M1 => ∃ k, d = .bl k ∧ Q k M1) : WT X e ρ M Q :=
  wt_of (pt_val pe_W he) fun σ Z F H r n => (h.run σ Z F H r n).imp fun x H1 ⟨d, F1, M1, s1, r1, p1, k, e1, q1⟩ => by
    subst e1; cases p1; exact ⟨k, rfl, F1, M1, s1, r1, q1⟩
theorem wt_not {Q : Bool → MH → Prop} (h : WT X a ρ M fun k M1 => Q (!k) M1) : WT X (.UnaryOp .Not a pos) ρ M Q :=
  wt_of (pt_not pt_W) fun σ Z F H r n => (h.run σ Z F H r n).imp fun k H1 q => q
theorem wt_bool {op : BoolOp} {Q : Bool → MH → Prop} (h : WV X (.BoolOp op es pos) ρ M Q) : WT X (.BoolOp op es pos) ρ M Q :=
  wt_of (pw_W).pt fun σ Z F H r n => h.run σ Z F H r n
theorem wv_one_and {Q : Bool → MH → Prop} (h : WT X a ρ M Q) : WV X (.BoolOp .And [a] pos) ρ M Q := wv_of (pw_and1 pt_W) fun σ Z F H r n => h.run σ Z F H r n
theorem wv_one_or {Q : Bool → MH → Prop} (h : WT X a ρ M Q) : WV X (.BoolOp .Or [a] pos) ρ M Q := wv_of (pw_or1 pt_W) fun σ Z F H r n => h.run σ Z F H r n
theorem wv_and {Q : Bool → MH → Prop} (h : WT X a ρ M fun k M1 => Br k (WV X (.BoolOp .And (b :: es) pos) ρ M1 Q) (Q false M1)) : WV X (.BoolOp .And (a :: b :: es) pos) ρ M Q :=
  wv_of (pw_and pt_W pw_W) fun σ Z F H r n => (h.run σ Z F H r n).imp fun k H1 ⟨F1, M1, s1, r1, q1⟩ => by
    cases k with
    | false => exact iteF ⟨F1, M1, s1, r1, q1.2 rfl⟩
    | true => exact iteT (((q1.1 rfl).run σ Z F1 H1 r1 (n.mono s1)).imp fun _ _ q => q.up s1)
theorem wv_or {Q : Bool → MH → Prop} (h : WT X a ρ M fun k M1 => Br k (Q true M1) (WV X (.BoolOp .Or (b :: es) pos) ρ M1 Q)) : WV X (.BoolOp .Or (a :: b :: es) pos) ρ M Q :=
  wv_of (pw_or pt_W pw_W) fun σ Z F H r n => (h.run σ Z F H r n).imp fun k H1 ⟨F1, M1, s1, r1, q1⟩ => by
    cases k with
    | true => exact iteT ⟨F1, M1, s1, r1, q1.1 rfl⟩
    | false => exact iteF (((q1.2 rfl).run σ Z F1 H1 r1 (n.mono s1)).imp fun _ _ q => q.up s1)
theorem wt_cmp {op : CmpOp} (hm : behindInMarks op b = false) {Q : Bool → MH → Prop} (h : WE X a ρ M fun d1 M1 => WE X b ρ M1 fun d2 M2 => OpD X (compareOp op) d1 d2 M2 fun d M3 => ∃ k, d = .bl k ∧ Q k M3) : WT X (.Compare a [op] [b] pos) ρ M Q := by
  refine wt_of (pt_cmpR opr_W pe_W pe_W hm) fun σ Z F H r n => ?_
  refine (two_of h r n).imp fun x H1 q => q.imp fun y H2 q => ?_
  intro pins s σ' v u I rx ry
  refine thn (q pins s σ' v u I rx ry) fun w s' ⟨v', H', i, rv, d, F', M', s1, r1, p1, k, e, q⟩ => ?_
  subst e
  cases p1
  exact ⟨.bl k, H', i, rv, k, rfl, F', M', s1, r1, q⟩
theorem wt_chain {op op' : CmpOp} (hm : lastMarks [op, op'] [b, c] = false) {Q : Bool → MH → Prop} (h : WE X a ρ M fun d1 M1 => WE X b ρ M1 fun d2 M2 => OpD X (compareOp op) d1 d2 M2 fun d3 M3 => ∃ k, d3 = .bl k ∧ Br k (WE X c ρ M3 fun d4 M4 => OpD X (compareOp op') d2 d4 M4 fun d M5 => ∃ k, d = .bl k ∧ Q k M5) (Q false M3)) :
    WT X (.Compare a [op, op'] [b, c] pos) ρ M Q := by
  refine wt_of (pt_chain opr_W opr_W pe_W pe_W pe_W (hm := hm)) fun σ Z F H r n => ?_
  refine (h.run σ Z F H r n).imp fun x H1 ⟨d1, F1, M1, s1, r1, p1, q1⟩ => ?_
  refine (q1.run σ Z F1 H1 r1 (n.mono s1)).imp fun y H2 ⟨d2, F2, M2, s2, r2, p2, q2⟩ => ?_
  intro pins s σ' v u I rx ry
  refine thn (q2.run Z F2 H2 x y r2 (p1.mono s2) p2 pins s σ' v u I rx ry) fun w s' ⟨v', H3, i, rv, d3, F3, M3, s3, r3, p3, k, e3, br⟩ => ?_
  subst e3
  cases p3
  refine ⟨.bl k, H3, i, rv, k, rfl, ?_⟩
  cases k with
  | false => exact iteF ⟨false, rfl, F3, M3, (s1.trans s2).trans s3, r3, br.2 rfl⟩
  | true =>
    refine iteT ?_
    refine ((br.1 rfl).run σ Z F3 H3 r3 (n.mono ((s1.trans s2).trans s3))).imp fun z H4 ⟨d4, F4, M4, s4, r4, p4, q4⟩ => ?_
    intro pins' s'' σ'' v4 u4 I4 rx4 ry4
    refine thn (q4.run Z F4 H4 y z r4 (p2.mono (s3.trans s4)) p4 pins' s'' σ'' v4 u4 I4 rx4 ry4) fun w s' ⟨v', H', i, rv, d5, F5, M5, s5, r5, p5, k, e5, q⟩ => ?_
    subst e5
    cases p5
    exact ⟨.bl k, H', i, rv, k, rfl, F5, M5, (((s1.trans s2).trans s3).trans s4).trans s5, r5, q⟩
/-! and, or, not as values: all but the last True or False -/
theorem we_one {op} (h : WE X a ρ M Q) : WE X (.BoolOp op [a] pos) ρ M Q := we_of (pe_one pe_W) fun σ Z F H r n => h.run σ Z F H r n
theorem we_and (h : WE X a ρ M fun d M1 => ∃ k, d = .bl k ∧ Br k (WE X (.BoolOp .And (b :: es) pos) ρ M1 Q) (Q (.bl false) M1)) : WE X (.BoolOp .And (a :: b :: es) pos) ρ M Q :=
  we_of (pe_and pe_W pe_W) fun σ Z F H r n => (h.run σ Z F H r n).imp fun x H1 ⟨d, F1, M1, s1, r1, p1, k, e1, q1⟩ => by
    subst e1; cases p1
    refine ⟨k, rfl, ?_⟩
    cases k with
    | false => exact iteF ⟨_, F1, M1, s1, r1, .bl false, q1.2 rfl⟩
    | true => exact iteT (((q1.1 rfl).run σ Z F1 H1 r1 (n.mono s1)).imp fun _ _ q => q.up s1)
theorem we_or (h : WE X a ρ M fun d M1 => ∃ k, d = .bl k ∧ Br k (Q (.bl true) M1) (WE X (.BoolOp .Or (b :: es) pos) ρ M1 Q)) : WE X (.BoolOp .Or (a :: b :: es) pos) ρ M Q :=
  we_of (pe_or pe_W pe_W) fun σ Z F H r n => (h.run σ Z F H r n).imp fun x H1 ⟨d, F1, M1, s1, r1, p1, k, e1, q1⟩ => by
    subst e1; cases p1
    refine ⟨k, rfl, ?_⟩
    cases k with
    | true => exact iteT ⟨_, F1, M1, s1, r1, .bl true, q1.1 rfl⟩
    | false => exact iteF (((q1.2 rfl).run σ Z F1 H1 r1 (n.mono s1)).imp fun _ _ q => q.up s1)
theorem we_not (h : WE X a ρ M fun d M1 => ∃ k, d = .bl k ∧ Q (.bl (!k)) M1) : WE X (.UnaryOp .Not a pos) ρ M Q :=
  we_of (pe_not pe_W) fun σ Z F H r n => (h.run σ Z F H r n).imp fun x H1 ⟨d, F1, M1, s1, r1, p1, k, e1, q1⟩ => by
    subst e1; cases p1
    exact ⟨k, rfl, _, F1, M1, s1, r1, .bl _, q1⟩
theorem we_if (h : WT X c ρ M fun k M1 => Br k (WE X a ρ M1 Q) (WE X b ρ M1 Q)) : WE X (.IfExp c a b pos) ρ M Q :=
  we_of (pe_ifExp pt_W pe_W pe_W) fun σ Z F H r n => (h.run σ Z F H r n).imp fun k H1 ⟨F1, M1, s1, r1, q1⟩ => by
    cases k with
    | true => exact iteT (((q1.1 rfl).run σ Z F1 H1 r1 (n.mono s1)).imp fun _ _ q => q.up s1)
    | false => exact iteF (((q1.2 rfl).run σ Z F1 H1 r1 (n.mono s1)).imp fun _ _ q => q.up s1)

/-! ### argument lists, displays -/
theorem wa_nil {Q : List D → MH → Prop} (h : Q [] M) : WA X [] ρ M Q := wa_of pa_nil fun σ Z F H r n => ⟨[], F, M, .refl F, r, .nil, h⟩
theorem wa_cons {Q : List D → MH → Prop} (hs : starEach (e :: es) X.env = (false, eval e X.env) :: starEach es X.env) (h : WE X e ρ M fun d M1 => WA X es ρ M1 fun ds M2 => Q (d :: ds) M2) : WA X (e :: es) ρ M Q :=
  wa_of (pa_cons pe_W pa_W hs) fun σ Z F H r n => (h.run σ Z F H r n).imp fun x H1 ⟨d, F1, M1, s1, r1, p1, q1⟩ =>
    (q1.run σ Z F1 H1 r1 (n.mono s1)).imp fun xs H2 ⟨ds, F2, M2, s2, r2, p2, q2⟩ => ⟨_, F2, M2, s1.trans s2, r2, .cons (p1.mono s2) p2, q2⟩
theorem we_tup {x1} (h : WA X es ρ M fun ds M1 => ds.length ≤ sizeLine ∧ Q (.tup ds) M1) : WE X (.Tuple es x1 pos) ρ M Q :=
  we_of (pe_tup pa_W) fun σ Z F H r n => (h.run σ Z F H r n).imp fun xs H1 ⟨ds, F1, M1, s1, r1, p1, hl, q1⟩ => ⟨by rw [p1.length]; exact hl, fun p np => by
    obtain ⟨rr, ss⟩ := r1.still np (.tup xs)
    exact ⟨_, _, M1, s1.trans ss, rr, .tup (.of upd_same) (p1.mono ss), q1⟩⟩
/-- a new list that lies still -/
theorem we_lst (h : WA X es ρ M fun ds M1 => ds.length ≤ sizeLine ∧ Q (.lst ds) M1) : WE X (.List es pos) ρ M Q :=
  we_of (pe_lst pa_W) fun σ Z F H r n => (h.run σ Z F H r n).imp fun xs H1 ⟨ds, F1, M1, s1, r1, p1, hl, q1⟩ => ⟨by rw [p1.length]; exact hl, fun p np => by
    obtain ⟨rr, ss⟩ := r1.still np (.lst xs)
    exact ⟨_, _, M1, s1.trans ss, rr, .lst (.of upd_same) (p1.mono ss), q1⟩⟩
/-- a new list that will be changed -/
theorem we_lstM (h : WA X es ρ M fun ds M1 => ds.length ≤ sizeLine ∧ ∀ p, M1 p = none → Q (.ref p) (mup M1 p (.lst ds))) : WE X (.List es pos) ρ M Q :=
  we_of (pe_lst pa_W) fun σ Z F H r n => (h.run σ Z F H r n).imp fun xs H1 ⟨ds, F1, M1, s1, r1, p1, hl, q1⟩ => ⟨by rw [p1.length]; exact hl, fun p np =>
    ⟨_, F1, _, s1, r1.fresh np (.lst p1), .ref p, q1 p (r1.free np).2⟩⟩
end
end DS
set_option Elab.async false
set_option linter.all false
set_option maxRecDepth 100000
set_option maxHeartbeats 4000000
namespace DS
open PySem PySem.Spec PyProof.Rows L2 TL

/-! ### targets -/
def tWG (X : Cx) (tg : Expr) : TG := fun v σ H Q => ∀ pins s u, Inv X pins σ H s → RelV v u → wpAny (model X.prog X.w) X.A (assign tg X.env u) (fun _ s' => ∃ σ' H', Inv X pins σ' H' s' ∧ Q σ' H') X.xe s
def tWGs (X : Cx) (tgs : List Expr) : TGs := fun vs σ H Q => ∀ pins s us, Inv X pins σ H s → Vals vs us → wpAny (model X.prog X.w) X.A (assignInOrder ((assignEach tgs X.env).map (·.2)) us) (fun _ s' => ∃ σ' H', Inv X pins σ' H' s' ∧ Q σ' H') X.xe s
theorem pg_W {X : Cx} {tg : Expr} : PG X tg (tWG X tg) := ⟨fun pins s σ H v u Q I r h => h pins s u I r⟩
theorem pgs_W {X : Cx} {tgs : List Expr} : PGs X tgs (tWGs X tgs) := ⟨fun pins s σ H vs us Q I r h => h pins s us I r⟩
theorem tWG.imp {X : Cx} {tg : Expr} {v : V} {σ : L2.St} {H : Hp} {Q Q' : L2.St → Hp → Prop} (h : tWG X tg v σ H Q) (hq : ∀ σ H, Q σ H → Q' σ H) : tWG X tg v σ H Q' := fun pins s u I r => thn (h pins s u I r) fun _ s' ⟨σ', H', a, b⟩ => ⟨σ', H', a, hq _ _ b⟩
theorem tWGs.imp {X : Cx} {tg : List Expr} {v : List V} {σ : L2.St} {H : Hp} {Q Q' : L2.St → Hp → Prop} (h : tWGs X tg v σ H Q) (hq : ∀ σ H, Q σ H → Q' σ H) : tWGs X tg v σ H Q' := fun pins s u I r => thn (h pins s u I r) fun _ s' ⟨σ', H', a, b⟩ => ⟨σ', H', a, hq _ _ b⟩
/-- only these slots are stored -/
def OnlyAt (is : List Nat) (σ σ' : L2.St) : Prop := ∀ vs : List Nat, (∀ i ∈ is, i ∈ vs) → wipe σ' vs = wipe σ vs
theorem wipe_set_in (o : Option V) : ∀ {vs : List Nat} {σ : L2.St} {i : Nat}, i ∈ vs → wipe (σ.set i o) vs = wipe σ vs
  | v :: vs, σ, i, h => by
    have comm : ∀ (ws : List Nat) (σ : L2.St), i ∉ ws → wipe (σ.set i o) ws = (wipe σ ws).set i o := by
      intro ws
      induction ws with
      | nil => intro σ _; rfl
      | cons u ws ih =>
        intro σ hn
        simp only [List.mem_cons, not_or] at hn
        show (wipe (σ.set i o) ws).set u none = ((wipe σ ws).set u none).set i o
        rw [ih σ hn.2]
        exact List.set_comm _ _ hn.1
    show (wipe (σ.set i o) vs).set v none = (wipe σ vs).set v none
    by_cases hv : i ∈ vs
    · rw [wipe_set_in o hv]
    · have e : i = v := by
        rcases List.mem_cons.mp h with h | h
        · exact h
        · exact absurd h hv
      subst e
      rw [comm vs σ hv, List.set_set]
structure WG (X : Cx) (tg : Expr) (is : List Nat) (d : D) (ρ : Rho) (M : MH) (R : Rho → MH → Prop) : Prop where
  run : ∀ σ Z F H v, Rel X.K Z F H M → REnv X F σ ρ → Rep X.K F v d → tWG X tg v σ H fun σ' H' => OnlyAt is σ σ' ∧ PostN X Z F R σ' H'
structure WGs (X : Cx) (tgs : List Expr) (is : List Nat) (ds : List D) (ρ : Rho) (M : MH) (R : Rho → MH → Prop) : Prop where
  run : ∀ σ Z F H vs, Rel X.K Z F H M → REnv X F σ ρ → RepAll X.K F vs ds → tWGs X tgs vs σ H fun σ' H' => OnlyAt is σ σ' ∧ PostN X Z F R σ' H'
section
variable {X : Cx} {ρ : Rho} {M : MH} {pos : Pos} {x : Str} {R : Rho → MH → Prop}
theorem wg_name {i : Nat} {d : D} {f : D → Rho} (hN : X.N.Nodup) (u : Up ρ i x f) (hx : Loc X.env.scope x) (hf : X.fn x = true ∨ X.env.scope.names.lookup x = some .local) (h : R (f d) M) : WG X (.Name x pos) [i] d ρ M R := by
  refine ⟨fun σ Z F H v r n p pins s uu I rv => ?_⟩
  have hi : X.N[i]? = some x := by rw [n.nm]; exact u.nm.1
  refine thn ((pg_name (X := X) (pos := pos) hN hi hx hf).run pins s σ H v uu (fun σ' H' => σ' = σ.set i (some v) ∧ H' = H) I rv ⟨rfl, rfl⟩) fun _ s' ⟨σ', H', I', e1, e2⟩ => ?_
  subst e1 e2
  exact ⟨_, H', I', fun vs hvs => wipe_set_in _ (hvs i (by simp)), F, _, M, .refl F, r, n.set u p I.len, h⟩
theorem wgs_nil (h : R ρ M) : WGs X [] [] [] ρ M R := by
  refine ⟨fun σ Z F H vs r n p pins s us I rv => ?_⟩
  cases p
  exact pgs_nil.run pins s σ H [] us _ I rv ⟨rfl, fun _ _ => rfl, F, ρ, M, .refl F, r, n, h⟩
theorem wgs_cons {e : Expr} {es : List Expr} {is js : List Nat} {d : D} {ds : List D} (hs : (assignEach (e :: es) X.env).map (·.2) = assign e X.env :: (assignEach es X.env).map (·.2)) (h : WG X e is d ρ M fun ρ1 M1 => WGs X es js ds ρ1 M1 R) : WGs X (e :: es) (is ++ js) (d :: ds) ρ M R := by
  refine ⟨fun σ Z F H vs r n p pins s us I rv => ?_⟩
  cases p with
  | cons p1 p2 =>
    refine (pgs_cons pg_W pgs_W hs).run pins s σ H _ us _ I rv ⟨_, _, rfl, ?_⟩
    refine (h.run σ Z F H _ r n p1).imp fun σ1 H1 ⟨o1, F1, ρ1, M1, s1, r1, n1, q1⟩ => ?_
    refine (q1.run σ1 Z F1 H1 _ r1 n1 (p2.mono s1)).imp fun σ2 H2 ⟨o2, q2⟩ => ⟨fun vs hvs => ?_, q2.up s1⟩
    rw [o2 vs fun i hi => hvs i (by simp [hi]), o1 vs fun i hi => hvs i (by simp [hi])]
theorem wg_tup {es : List Expr} {k : Nat} {is : List Nat} {ds : List D} {n : Nat} (hc : X.calm = true) (hn : (assignEach es X.env).length = n) (hst : (assignEach es X.env).findIdx? (·.1) = none) (hl : ds.length = n) (h : WGs X es is ds ρ M R) : WG X (.Tuple es k pos) is (.tup ds) ρ M R := by
  refine ⟨fun σ Z F H v r n p pins s u I rv => ?_⟩
  cases p with
  | tup hq ra => exact (pg_tup hc pgs_W hn hst).run pins s σ H _ u _ I rv ⟨_, _, rfl, Same.sqt r.sub hq, by rw [ra.length]; exact hl, h.run σ Z F H _ r n ra⟩
end

/-! ### what is walked -/
/-- J walks the items xs, as long as Ok -/
def ItD (K : PySem.W.Frag) (F0 : Hp) (J : It) (Ok : MH → Prop) (xs : List D) : Prop :=
  ∀ i Z F H M, Same F0 F → Rel K Z F H M → Ok M → (xs.length ≤ i → J.stop i H) ∧ ∀ d, xs[i]? = some d → J.go i H ∧ ∀ x H', J.yld i H x H' → ∃ F', Same F F' ∧ Rel K Z F' H' M ∧ Rep K F' x d
def tWI (X : Cx) (tg iter : Expr) : TI := fun σ H R => ∀ pins s, Inv X pins σ H s → wpAny (model X.prog X.w) X.A (eval iter X.env) (fun v s1 => wpAny (model X.prog X.w) X.A (pyIter v) (PIE X pins σ tg R) X.xe s1) X.xe s
theorem pi_W {X : Cx} {tg iter : Expr} : PI X tg iter (tWI X tg iter) := ⟨fun pins s σ H R I h => h pins s I⟩
def PostI (X : Cx) (Z F : Hp) (R : List D → (MH → Prop) → MH → Prop) : It → Hp → Prop := fun J H' => ∃ F' M' xs Ok, Same F F' ∧ Rel X.K Z F' H' M' ∧ ItD X.K F' J Ok xs ∧ R xs Ok M'
structure WI (X : Cx) (tg iter : Expr) (ρ : Rho) (M : MH) (R : List D → (MH → Prop) → MH → Prop) : Prop where
  run : ∀ σ Z F H, Rel X.K Z F H M → REnv X F σ ρ → tWI X tg iter σ H (PostI X Z F R)
theorem tWI.imp {X : Cx} {tg iter : Expr} {σ : L2.St} {H : Hp} {R R' : It → Hp → Prop} (h : tWI X tg iter σ H R) (hr : ∀ J H, R J H → R' J H) : tWI X tg iter σ H R' := fun pins s I => thn (h pins s I) fun v s1 q => thn q fun itv s2 ⟨it, fp, tn, J, H', a, b, c, d, e, f⟩ => ⟨it, fp, tn, J, H', a, b, c, d, e, hr _ _ f⟩
theorem wi_of {X : Cx} {tg iter : Expr} {wi : TI} {ρ : Rho} {M : MH} {R : List D → (MH → Prop) → MH → Prop} (p : PI X tg iter wi) (h : ∀ σ Z F H, Rel X.K Z F H M → REnv X F σ ρ → wi σ H (PostI X Z F R)) : WI X tg iter ρ M R :=
  ⟨fun σ Z F H r n pins s I => p.run pins s σ H _ I (h σ Z F H r n)⟩
section
variable {X : Cx} {ρ : Rho} {M : MH} {pos : Pos} {x : Str} {tg e : Expr} {R : List D → (MH → Prop) → MH → Prop}
/-- a list -/
theorem wi_list (h : WE X e ρ M fun d M1 => ∃ ds Ok, ((d = .lst ds ∧ Ok = fun _ => True) ∨ ∃ a, d = .ref a ∧ M1 a = some (.lst ds) ∧ Ok = fun M => M a = some (.lst ds)) ∧ R ds Ok M1) : WI X tg e ρ M R := by
  refine wi_of (pi_list pe_W) fun σ Z F H r n => (h.run σ Z F H r n).imp fun v H1 ⟨d, F1, M1, s1, r1, p1, ds, Ok, hd, q⟩ => ?_
  have key : ∀ a, (∀ Z F H M, Same F1 F → Rel X.K Z F H M → Ok M → ∃ vs, SqL X.K H a vs ∧ RepAll X.K F vs ds) → ItD X.K F1 (Itl X.K a) Ok ds := fun a k i Z F H M hs hr ho => by
    obtain ⟨vs, hq, ra⟩ := k Z F H M hs hr ho
    refine ⟨fun hl => ⟨vs, hq, by rw [ra.length]; exact hl⟩, fun d hd => ?_⟩
    obtain ⟨v, hv, hp⟩ := ra.get hd
    refine ⟨⟨vs, v, hq, hv⟩, fun x H' hy => ?_⟩
    obtain ⟨rfl, hy⟩ := hy
    have e := hy vs hq
    rw [hv] at e; cases e
    exact ⟨F, .refl F, hr, hp⟩
  rcases hd with ⟨rfl, rfl⟩ | ⟨a, rfl, hm, rfl⟩
  · cases p1 with
    | lst hq ra => exact ⟨_, rfl, ⟨_, r1.sub.seq hq⟩, F1, M1, ds, _, s1, r1, key _ fun Z F H M hs hr _ => ⟨_, (hs.trans hr.sub).seq hq, ra.mono hs⟩, q⟩
  · cases p1
    obtain ⟨vs, hh, ra, _⟩ := r1.lstAt hm
    exact ⟨a, rfl, ⟨vs, .of hh⟩, F1, M1, ds, _, s1, r1, key _ fun Z F H M hs hr ho => let ⟨vs, hh, ra, _⟩ := hr.lstAt ho; ⟨vs, .of hh, ra⟩, q⟩
/-- a tuple -/
theorem wi_tup (h : WE X e ρ M fun d M1 => ∃ ds, d = .tup ds ∧ R ds (fun _ => True) M1) : WI X tg e ρ M R := by
  refine wi_of (pi_tup pe_W) fun σ Z F H r n => (h.run σ Z F H r n).imp fun v H1 ⟨d, F1, M1, s1, r1, p1, ds, hd, q⟩ => ?_
  subst hd
  cases p1 with
  | @tup a vs _ hq ra =>
    refine ⟨_, rfl, ⟨_, Same.sqt r1.sub hq⟩, F1, M1, ds, _, s1, r1, fun i Z F H M hs hr ho => ?_, q⟩
    have hq' := Same.sqt (hs.trans hr.sub) hq
    refine ⟨fun hl => ⟨vs, hq', by rw [ra.length]; exact hl⟩, fun d hd => ?_⟩
    obtain ⟨v, hv, hp⟩ := ra.get hd
    refine ⟨⟨vs, v, hq', hv⟩, fun x H' hy => ?_⟩
    obtain ⟨rfl, hy⟩ := hy
    have e := hy vs hq'
    rw [hv] at e; cases e
    exact ⟨F, .refl F, hr, hp.mono hs⟩
/-- lo, lo + 1, .. -/
def nums (lo : Int) (n : Nat) : List D := (List.range n).map fun i => .int (lo + (i : Nat))
theorem nums_get {lo : Int} {n i : Nat} {d : D} : (nums lo n)[i]? = some d ↔ i < n ∧ d = .int (lo + (i : Nat)) := by
  unfold nums
  rw [List.getElem?_map]
  by_cases h : i < n
  · rw [List.getElem?_range h]
    constructor
    · intro e; exact ⟨h, (Option.some.inj e).symm⟩
    · rintro ⟨_, rfl⟩; rfl
  · rw [List.getElem?_eq_none (by simpa using h)]
    constructor
    · intro e; cases e
    · rintro ⟨z, _⟩; exact absurd z h
theorem nums_len (lo : Int) (n : Nat) : (nums lo n).length = n := by unfold nums; simp
theorem itd_range {K : PySem.W.Frag} {F : Hp} {lo : Int} {n : Nat} : ItD K F (Itr lo n) (fun _ => True) (nums lo n) := fun i Z F H M hs hr _ =>
  ⟨fun hl => by rw [nums_len] at hl; exact hl, fun d hd => by
    obtain ⟨h1, rfl⟩ := nums_get.mp hd
    refine ⟨h1, fun x H' hy => ?_⟩
    obtain ⟨rfl, rfl⟩ := hy
    exact ⟨F, .refl F, hr, .int _⟩⟩
theorem wi_range1 {a : Expr} {p : Pos} (hg : Gl X "range") (hm : X.mg "range" = none) (hs : starEach [a] X.env = [(false, eval a X.env)]) (h : WA X [a] ρ M fun ds M1 => ∃ j : Int, ds = [.int j] ∧ -(2 ^ 62) ≤ j ∧ j < 2 ^ 62 ∧ R (nums 0 j.toNat) (fun _ => True) M1) : WI X tg (.Call (.Name "range" p) [a] [] pos) ρ M R :=
  wi_of (pi_range1 hg hm pa_W hs) fun σ Z F H r n => (h.run σ Z F H r n).imp fun vs H1 ⟨ds, F1, M1, s1, r1, p1, j, e, h1, h2, q⟩ => by
    subst e
    cases p1 with
    | cons a b =>
      cases a; cases b
      exact ⟨j, rfl, h1, h2, F1, M1, _, _, s1, r1, itd_range, q⟩
theorem wi_range2 {a b : Expr} {p : Pos} (hg : Gl X "range") (hm : X.mg "range" = none) (hs : starEach [a, b] X.env = [(false, eval a X.env), (false, eval b X.env)]) (hs2 : starEach [b] X.env = [(false, eval b X.env)])
    (h : WA X [a, b] ρ M fun ds M1 => ∃ i j : Int, ds = [.int i, .int j] ∧ (-(2 ^ 62) ≤ i ∧ i < 2 ^ 62 ∧ -(2 ^ 62) ≤ j ∧ j < 2 ^ 62) ∧ R (nums i (j - i).toNat) (fun _ => True) M1) : WI X tg (.Call (.Name "range" p) [a, b] [] pos) ρ M R :=
  wi_of (pi_range2 hg hm pa_W hs hs2) fun σ Z F H r n => (h.run σ Z F H r n).imp fun vs H1 ⟨ds, F1, M1, s1, r1, p1, i, j, e, h1, q⟩ => by
    subst e
    cases p1 with
    | cons a b =>
      cases b with
      | cons b c =>
        cases a; cases b; cases c
        exact ⟨i, j, rfl, h1, F1, M1, _, _, s1, r1, itd_range, q⟩
/-- the signs of a text -/
def signs (x : Str) : List D := (tl x).map fun c => .str ⟨#[c]⟩
theorem wi_str (h : WE X e ρ M fun d M1 => ∃ y, d = .str y ∧ R (signs y) (fun _ => True) M1) : WI X tg e ρ M R :=
  wi_of (pi_str pe_W) fun σ Z F H r n => (h.run σ Z F H r n).imp fun v H1 ⟨d, F1, M1, s1, r1, p1, y, e, q⟩ => by
    subst e
    cases p1
    refine ⟨y, rfl, F1, M1, _, _, s1, r1, fun i Z F H M hs hr _ => ⟨fun hl => ?_, fun d hd => ?_⟩, q⟩
    · have hl' : y.cps.size ≤ i := by unfold signs tl at hl; simpa using hl
      exact hl'
    · unfold signs at hd
      rw [List.getElem?_map] at hd
      cases hc : (tl y)[i]? with
      | none => rw [hc] at hd; cases hd
      | some c =>
        rw [hc] at hd
        have hd' : D.str ⟨#[c]⟩ = d := Option.some.inj hd
        subst hd'
        have hc' : y.cps[i]? = some c := by
          unfold tl at hc
          rwa [Array.getElem?_toList] at hc
        have hlt : i < y.cps.size := by
          rcases Nat.lt_or_ge i y.cps.size with z | z
          · exact z
          · rw [Array.getElem?_eq_none z] at hc'; cases hc'
        refine ⟨hlt, fun x H' hy => ?_⟩
        obtain ⟨rfl, c', e', rfl⟩ := hy
        rw [hc'] at e'; cases e'
        exact ⟨F, .refl F, hr, .str _⟩
end

/-! ### statements -/
section
variable {X : Cx} {ρ : Rho} {M : MH} {E : DE} {a b c e : Expr} {es : List Expr} {pos : Pos} {x : Str} {st : Stmt} {sts : List Stmt}
theorem wss_nil {nx rt bk ct} (h : nx ρ M) : WSs X [] ρ M ⟨nx, rt, bk, ct⟩ := wss_of pss_nil fun σ Z F H r n => ⟨F, ρ, M, .refl F, r, n, h⟩
theorem wss_cons {nx rt bk ct} (h : WS X st ρ M ⟨fun ρ1 M1 => WSs X sts ρ1 M1 ⟨nx, rt, bk, ct⟩, rt, bk, ct⟩) : WSs X (st :: sts) ρ M ⟨nx, rt, bk, ct⟩ :=
  wss_of (pss_cons ps_W pss_W) fun σ Z F H r n => (h.run σ Z F H r n).imp
    ⟨fun σ' H' ⟨F1, ρ1, M1, s1, r1, n1, q1⟩ => (q1.run σ' Z F1 H' r1 n1).imp (PostS.up s1), fun _ _ h => h, fun _ _ h => h, fun _ _ h => h⟩
theorem ws_pass {nx rt bk ct} (h : nx ρ M) : WS X (.Pass pos) ρ M ⟨nx, rt, bk, ct⟩ := ws_of ps_pass fun σ Z F H r n => ⟨F, ρ, M, .refl F, r, n, h⟩
theorem ws_expr {nx rt bk ct} (hs : swapsWith e none pos.line X.env = pure false) (h : WE X e ρ M fun _ M1 => nx ρ M1) : WS X (.Expr e pos) ρ M ⟨nx, rt, bk, ct⟩ :=
  ws_of (ps_expr pe_W hs) fun σ Z F H r n => (h.run σ Z F H r n).imp fun v H1 ⟨d, F1, M1, s1, r1, p1, q1⟩ => ⟨F1, ρ, M1, s1, r1, n.mono s1, q1⟩
theorem ws_ret {nx rt bk ct} (h : WE X e ρ M rt) : WS X (.Return (some e) pos) ρ M ⟨nx, rt, bk, ct⟩ := ws_of (ps_ret pe_W) fun σ Z F H r n => h.run σ Z F H r n
theorem ws_retN {nx rt bk ct} (h : rt .non M) : WS X (.Return none pos) ρ M ⟨nx, rt, bk, ct⟩ := ws_of ps_retN fun σ Z F H r n => ⟨.non, F, M, .refl F, r, .non, h⟩
theorem ws_if {s1 s2 : List Stmt} (h : WT X c ρ M fun k M1 => Br k (WSs X s1 ρ M1 E) (WSs X s2 ρ M1 E)) : WS X (.If c s1 s2 pos) ρ M E :=
  ws_of (ps_if pt_W pss_W pss_W) fun σ Z F H r n => (h.run σ Z F H r n).imp fun k H1 ⟨F1, M1, ss, r1, q1⟩ => by
    cases k with
    | true => exact iteT (((q1.1 rfl).run σ Z F1 H1 r1 (n.mono ss)).imp (PostS.up ss))
    | false => exact iteF (((q1.2 rfl).run σ Z F1 H1 r1 (n.mono ss)).imp (PostS.up ss))
/-- target = e -/
theorem ws_asg {nx rt bk ct} {tg : Expr} {is : List Nat} (hs : swapsWithSole [tg] e pos.line X.env = pure false) (hw : swappedStores [tg] e X.env = pure none) (h1 : (assignEach [tg] X.env).map (·.2) = [assign tg X.env])
    (h : WE X e ρ M fun d M1 => WG X tg is d ρ M1 nx) : WS X (.Assign [tg] e pos) ρ M ⟨nx, rt, bk, ct⟩ :=
  ws_of (ps_asg pe_W pg_W hs hw h1) fun σ Z F H r n => (h.run σ Z F H r n).imp fun v H1 ⟨d, F1, M1, s1, r1, p1, q1⟩ => (q1.run σ Z F1 H1 v r1 (n.mono s1) p1).imp fun _ _ q => q.2.up s1
/-- name = e -/
theorem ws_set {nx rt bk ct} {i : Nat} {f : D → Rho} {pos' : Pos} (hN : X.N.Nodup) (u : Up ρ i x f) (hx : Loc X.env.scope x) (hs : swapsWith e (some (.Name x pos')) pos.line X.env = pure false) (hf : X.fn x = true ∨ X.env.scope.names.lookup x = some .local)
    (h : WE X e ρ M fun d M1 => nx (f d) M1) : WS X (.Assign [.Name x pos'] e pos) ρ M ⟨nx, rt, bk, ct⟩ := by
  refine ⟨fun σ Z F H r n pins s I => ?_⟩
  have hi : X.N[i]? = some x := by rw [n.nm]; exact u.nm.1
  refine (ps_set hN hi hx pe_W hs hf).run pins s σ H _ I ((h.run σ Z F H r n).imp fun v H1 ⟨d, F1, M1, s1, r1, p1, q1⟩ => ?_)
  exact ⟨F1, _, M1, s1, r1, (n.mono s1).set u p1 I.len, q1⟩
/-- for .. in .. -/
theorem ws_for {nx rt bk ct} {tg iter : Expr} {is : List Nat} {body : List Stmt} (hp : PassesOwn (model X.prog X.w) X.A X.env X.xe) (hc : X.calm = true) (hs : ∀ x, foldedSetIterable iter X.env x = pure x)
    (h : WI X tg iter ρ M fun xs Ok M1 => ∃ Pv : Nat → Rho → MH → Prop, Pv 0 ρ M1 ∧ (∀ i ρ M, Pv i ρ M → Ok M) ∧
      (∀ i d ρ M, xs[i]? = some d → Pv i ρ M → WG X tg is d ρ M fun ρ2 M2 => WSs X body ρ2 M2 ⟨Pv (i + 1), rt, nx, Pv (i + 1)⟩) ∧ ∀ ρ M, Pv xs.length ρ M → nx ρ M) : WS X (.For tg iter body [] pos) ρ M ⟨nx, rt, bk, ct⟩ := by
  refine ws_of (ps_for hp hc pi_W pg_W pss_W hs) fun σ Z F H r n => (h.run σ Z F H r n).imp fun J H1 ⟨F1, M1, xs, Ok, s1, r1, it, Pv, h0, hok, step, fin⟩ => ?_
  refine ⟨fun i m σ H => m = xs.length - i ∧ i ≤ xs.length ∧ ∃ F2 ρ2 M2, Same F1 F2 ∧ Rel X.K Z F2 H M2 ∧ REnv X F2 σ ρ2 ∧ Pv i ρ2 M2, ⟨xs.length, by omega, Nat.zero_le _, F1, ρ, M1, .refl _, r1, n.mono s1, h0⟩, ?_⟩
  rintro i m σ2 H2 ⟨rfl, hi, F2, ρ2, M2, s2, r2, n2, p2⟩
  have t := it i Z F2 H2 M2 s2 r2 (hok i ρ2 M2 p2)
  by_cases hlt : i < xs.length
  · obtain ⟨go, y⟩ := t.2 xs[i] (List.getElem?_eq_getElem hlt)
    refine .inr ⟨go, fun σ' H' => ∃ F3 ρ3 M3, Same F1 F3 ∧ Rel X.K Z F3 H' M3 ∧ REnv X F3 σ' ρ3 ∧ Pv (i + 1) ρ3 M3, fun σ' H' w => ⟨xs.length - (i + 1), by omega, rfl, hlt, w⟩, fun v H' hy => ?_⟩
    obtain ⟨F3, s3, r3, p3⟩ := y v H' hy
    refine ((step i xs[i] ρ2 M2 (List.getElem?_eq_getElem hlt) p2).run σ2 Z F3 H' v r3 (n2.mono s3) p3).imp fun σ4 H4 ⟨_, F4, ρ4, M4, s4, r4, n4, q4⟩ => ?_
    have S := (s2.trans s3).trans s4
    exact (q4.run σ4 Z F4 H4 r4 n4).imp ⟨fun _ _ ⟨F5, ρ5, M5, s5, r5, n5, q5⟩ => ⟨F5, ρ5, M5, S.trans s5, r5, n5, q5⟩, fun _ _ q => q.up (s1.trans S), fun _ _ q => q.up (s1.trans S), fun _ _ ⟨F5, ρ5, M5, s5, r5, n5, q5⟩ => ⟨F5, ρ5, M5, S.trans s5, r5, n5, q5⟩⟩
  · have e : i = xs.length := by omega
    subst e
    exact .inl ⟨t.1 (Nat.le_refl _), F2, ρ2, M2, s1.trans s2, r2, n2, fin ρ2 M2 p2⟩
theorem ws_while {nx rt bk ct} {body : List Stmt} (hp : PassesOwn (model X.prog X.w) X.A X.env X.xe) (Pv : Nat → Rho → MH → Prop) (h0 : ∃ m, Pv m ρ M)
    (step : ∀ m ρ M, Pv m ρ M → WT X c ρ M fun k M1 => Br k (WSs X body ρ M1 ⟨fun ρ M => ∃ m', m' < m ∧ Pv m' ρ M, rt, nx, fun ρ M => ∃ m', m' < m ∧ Pv m' ρ M⟩) (nx ρ M1)) : WS X (.While c body [] pos) ρ M ⟨nx, rt, bk, ct⟩ := by
  refine ws_of (ps_while hp pt_W pss_W) fun σ Z F H r n => ?_
  obtain ⟨m0, h0⟩ := h0
  refine ⟨fun m σ H => ∃ F2 ρ2 M2, Same F F2 ∧ Rel X.K Z F2 H M2 ∧ REnv X F2 σ ρ2 ∧ Pv m ρ2 M2, ⟨m0, F, ρ, M, .refl _, r, n, h0⟩, ?_⟩
  rintro m σ2 H2 ⟨F2, ρ2, M2, s2, r2, n2, p2⟩
  refine ((step m ρ2 M2 p2).run σ2 Z F2 H2 r2 n2).imp fun k H3 ⟨F3, M3, s3, r3, q3⟩ => ?_
  cases k with
  | true =>
    refine iteT ⟨fun σ' H' => ∃ m', m' < m ∧ ∃ F4 ρ4 M4, Same F F4 ∧ Rel X.K Z F4 H' M4 ∧ REnv X F4 σ' ρ4 ∧ Pv m' ρ4 M4, fun σ' H' ⟨m', l, w⟩ => ⟨m', l, w⟩, ?_⟩
    have S := s2.trans s3
    exact ((q3.1 rfl).run σ2 Z F3 H3 r3 (n2.mono s3)).imp ⟨fun _ _ ⟨F5, ρ5, M5, s5, r5, n5, m', l, q5⟩ => ⟨m', l, F5, ρ5, M5, S.trans s5, r5, n5, q5⟩, fun _ _ q => q.up S, fun _ _ q => q.up S, fun _ _ ⟨F5, ρ5, M5, s5, r5, n5, m', l, q5⟩ => ⟨m', l, F5, ρ5, M5, S.trans s5, r5, n5, q5⟩⟩
  | false => exact iteF ⟨F3, ρ2, M3, s2.trans s3, r3, n2.mono s3, q3.2 rfl⟩
end

/-! ### comprehensions -/
/-- a name's value forgotten -/
inductive Wi1 : Rho → Nat → Str → Rho → Prop
  | zero {x : Str} {o : Option D} {ρ : Rho} : Wi1 ((x, o) :: ρ) 0 x ((x, none) :: ρ)
  | succ {y x : Str} {o : Option D} {i : Nat} {ρ ρ' : Rho} : Wi1 ρ i x ρ' → Wi1 ((y, o) :: ρ) (i + 1) x ((y, o) :: ρ')
inductive Wis : Rho → List Nat → Rho → Prop
  | nil {ρ : Rho} : Wis ρ [] ρ
  | cons {i : Nat} {x : Str} {is : List Nat} {ρ ρ1 ρ2 : Rho} : Wis ρ is ρ1 → Wi1 ρ1 i x ρ2 → Wis ρ (i :: is) ρ2
theorem Wi1.nm : ∀ {ρ ρ' : Rho} {i : Nat} {x : Str}, Wi1 ρ i x ρ' → ρ'.map (·.1) = ρ.map (·.1)
  | _, _, _, _, .zero => rfl
  | _, _, _, _, .succ h => by rw [List.map_cons, List.map_cons, h.nm]
theorem Wi1.get : ∀ {ρ ρ' : Rho} {i : Nat} {z : Str}, Wi1 ρ i z ρ' → ∀ {j : Nat} {x : Str} {d : D}, ρ'[j]? = some (x, some d) → j ≠ i ∧ ρ[j]? = some (x, some d)
  | _, _, _, _, .zero, 0, _, _, e => by simp at e
  | _, _, _, _, .zero, j + 1, _, _, e => ⟨by omega, by simpa using e⟩
  | _, _, _, _, .succ h, 0, _, _, e => ⟨by omega, by simpa using e⟩
  | _, _, _, _, .succ h, j + 1, x, d, e => by
    obtain ⟨a, b⟩ := h.get (j := j) (x := x) (d := d) (by simpa using e)
    exact ⟨by omega, by simpa using b⟩
theorem REnv.wipe {X : Cx} {F : Hp} {σ : L2.St} : ∀ {ρ ρ' : Rho} {is : List Nat}, Wis ρ is ρ' → REnv X F σ ρ → REnv X F (wipe σ is) ρ'
  | _, _, _, .nil, h => h
  | _, _, _, .cons (i := i) (is := is) w w1, h => by
    have ih := REnv.wipe w h
    refine ⟨by rw [w1.nm]; exact ih.nm, fun j x d e => ?_⟩
    obtain ⟨hne, e'⟩ := w1.get e
    obtain ⟨v, a, b⟩ := ih.at_ j x d e'
    exact ⟨v, by show ((L2.wipe σ is).set i none)[j]? = _; rw [List.getElem?_set_ne (Ne.symm hne)]; exact a, b⟩
theorem wipe_wipe {σ : L2.St} : ∀ (vs ws : List Nat), (∀ i ∈ ws, i ∈ vs) → wipe (wipe σ ws) vs = wipe σ vs
  | vs, [], _ => rfl
  | vs, w :: ws, h => by
    show wipe ((wipe σ ws).set w none) vs = _
    rw [wipe_set_in none (h w (by simp)), wipe_wipe vs ws fun i hi => h i (by simp [hi])]
/-- in whatever block -/
abbrev Blk (X : Cx) (scope : Scope) (P : Cx → Prop) : Prop := ∀ (s : Shared) (H : Hp) (C : Addr) (cl : List (Str × Addr)) (fp : List Addr), P (X.blk s H scope (compEnvC scope cl C X.env) fp)
def tWTs (X : Cx) (ifs : List Expr) : TT := fun σ H Q => ∀ pins s, Inv X pins σ H s → wpAny (model X.prog X.w) X.A (forIn ifs true fun c r => if r = true then do let ok ← isTrue c X.env (eval c X.env); pure (ForInStep.yield ok) else pure (ForInStep.yield r)) (TP X pins σ Q) X.xe s
structure WTs (X : Cx) (ifs : List Expr) (ρ : Rho) (M : MH) (Q : Bool → MH → Prop) : Prop where
  run : ∀ σ Z F H, Rel X.K Z F H M → REnv X F σ ρ → tWTs X ifs σ H (PostT X.K Z F Q)
theorem wts_nil {X : Cx} {ρ : Rho} {M : MH} {Q : Bool → MH → Prop} (h : Q true M) : WTs X [] ρ M Q := ⟨fun σ Z F H r n pins s I => pts_nil.run pins s σ H _ I ⟨F, M, .refl F, r, h⟩⟩
theorem wts_one {X : Cx} {ρ : Rho} {M : MH} {c : Expr} {Q : Bool → MH → Prop} (h : WT X c ρ M Q) : WTs X [c] ρ M Q := ⟨fun σ Z F H r n pins s I => (pts_one pt_W).run pins s σ H _ I (h.run σ Z F H r n)⟩
section
variable {X : Cx} {ρ ρw : Rho} {M : MH} {Q : DK} {elt tg iter : Expr} {ifs : List Expr} {pos : Pos} {scope : Scope} {own : List (Str × Nat)} {is : List Nat}
/-- what a comprehension asks of the walked items -/
def CompP (X : Cx) (elt tg : Expr) (ifs : List Expr) (scope : Scope) (is : List Nat) (ρw : Rho) (R : List D → MH → Prop) : List D → (MH → Prop) → MH → Prop := fun xs Ok M1 => xs.length ≤ sizeLine ∧ ∃ Pv : Nat → List D → MH → Prop, Pv 0 [] M1 ∧ (∀ i acc M, Pv i acc M → Ok M) ∧
  (∀ i d acc M, xs[i]? = some d → Pv i acc M → Blk X scope fun X' => WG X' tg is d ρw M fun ρ2 M2 => Blk X scope fun X' => WTs X' ifs ρ2 M2 fun k M3 => Br k (Blk X scope fun X' => WE X' elt ρ2 M3 fun y M4 => Pv (i + 1) (acc ++ [y]) M4) (Pv (i + 1) acc M3)) ∧
  ∀ acc M, Pv xs.length acc M → R acc M
def tBG (X : Cx) (scope : Scope) (tg : Expr) : TG := fun v σ H Q => Blk X scope fun X' => tWG X' tg v σ H Q
def tBT (X : Cx) (scope : Scope) (ifs : List Expr) : TT := fun σ H Q => Blk X scope fun X' => tWTs X' ifs σ H Q
def tBE (X : Cx) (scope : Scope) (e : Expr) : TE := fun σ H Q => Blk X scope fun X' => tWE X' e σ H Q
theorem comp_core {Qv : VK} (ok : BlkOk X.N X.env.scope scope own) (hw : Wis ρ (own.map (·.2)) ρw) (his : ∀ i ∈ is, i ∈ own.map (·.2)) {R : List D → MH → Prop}
    (h : WI X tg iter ρ M (CompP X elt tg ifs scope is ρw R)) {σ : L2.St} {Z F H : Hp} (r : Rel X.K Z F H M) (n : REnv X F σ ρ)
    (fin : ∀ D F' H' M' vs acc, Z D = none → Same F F' → Rel X.K (upd Z D (.lst vs)) F' H' M' → RepAll X.K F' vs acc → R acc M' → Qv (.ref D) H') :
    tLc (tWI X tg iter) (tBG X scope tg) (tBT X scope ifs) (tBE X scope elt) (own.map (·.2)) σ H Qv := by
  refine (h.run σ Z F H r n).imp fun J H1 ⟨F1, M1, xs, Ok, s1, r1, it, hsz, Pv, h0, hok, step, hfin⟩ => ?_
  intro D nD
  have zD : Z D = none := by
    cases e : Z D with
    | none => rfl
    | some o => have := (r1.fr D o e).2.2; rw [nD] at this; cases this
  refine ⟨fun i m H => m = xs.length - i ∧ i ≤ xs.length ∧ ∃ F2 M2 vs acc, Same F1 F2 ∧ Rel X.K (upd Z D (.lst vs)) F2 H M2 ∧ RepAll X.K F2 vs acc ∧ acc.length ≤ i ∧ Pv i acc M2, ⟨xs.length, by omega, Nat.zero_le _, F1, M1, [], [], .refl _, r1.hold nD _, .nil, Nat.le_refl _, h0⟩, ?_⟩
  rintro i m H2 ⟨rfl, hi, F2, M2, vs, acc, s2, r2, ra, hacc, p2⟩
  have t := it i _ F2 H2 M2 s2 r2 (hok i acc M2 p2)
  by_cases hlt : i < xs.length
  · obtain ⟨go, y⟩ := t.2 xs[i] (List.getElem?_eq_getElem hlt)
    refine .inr ⟨go, fun H' => ∃ F3 M3 vs acc, Same F1 F3 ∧ Rel X.K (upd Z D (.lst vs)) F3 H' M3 ∧ RepAll X.K F3 vs acc ∧ acc.length ≤ i + 1 ∧ Pv (i + 1) acc M3, fun H' w => ⟨xs.length - (i + 1), by omega, rfl, hlt, w⟩, fun v H' hy => ?_⟩
    obtain ⟨F3, s3, r3, p3⟩ := y v H' hy
    intro sb Hb C cl fp
    have nw : REnv X F3 (L2.wipe σ (own.map (·.2))) ρw := (n.mono ((s1.trans s2).trans s3)).wipe hw
    refine ((step i xs[i] acc M2 (List.getElem?_eq_getElem hlt) p2 sb Hb C cl fp).run _ _ F3 H' v r3 ⟨nw.nm, nw.at_⟩ p3).imp fun σ4 H4 ⟨o4, F4, ρ4, M4, s4, r4, n4, q4⟩ => ⟨?_, ?_⟩
    · rw [o4 _ his, wipe_wipe _ _ fun _ h => h]
    intro sb Hb C cl fp pins s I
    have q5 := (q4 sb Hb C cl fp).run σ4 _ F4 H4 r4 ⟨n4.nm, n4.at_⟩
    refine thn (q5 pins s I) fun k s' ⟨H5, I5, F5, M5, s5, r5, br⟩ => ⟨H5, I5, ?_⟩
    have S := ((s2.trans s3).trans s4).trans s5
    cases k with
    | false => exact iteF ⟨F5, M5, vs, acc, S, r5, ra.mono ((s3.trans s4).trans s5), by omega, br.2 rfl⟩
    | true =>
      refine iteT ?_
      intro sb Hb C cl fp
      have n5 := n4.mono s5
      refine ((br.1 rfl sb Hb C cl fp).run σ4 _ F5 H5 r5 ⟨n5.nm, n5.at_⟩).imp fun v H6 ⟨d, F6, M6, s6, r6, p6, q6⟩ => ?_
      have ra6 := ra.mono (((s3.trans s4).trans s5).trans s6)
      refine ⟨vs, (r6.fr D _ upd_same).2.2, by rw [ra6.length]; omega, F6, M6, vs ++ [v], acc ++ [d], S.trans s6, r6.holdSet _, ra6.append (.cons p6 .nil), by simp; omega, q6⟩
  · have e : i = xs.length := by omega
    subst e
    exact .inl ⟨t.1 (Nat.le_refl _), fin D F2 H2 M2 vs acc zD (s1.trans s2) r2 ra (hfin acc M2 p2)⟩
/-- a new list that lies still -/
theorem we_comp (hc : X.calm = true) (hN : X.N.Nodup) (ok : BlkOk X.N X.env.scope scope own) (hs : ∀ x, foldedSetIterable iter X.env x = pure x) (hw : Wis ρ (own.map (·.2)) ρw) (his : ∀ i ∈ is, i ∈ own.map (·.2))
    (h : WI X tg iter ρ M (CompP X elt tg ifs scope is ρw fun ds M1 => Q (.lst ds) M1)) : WE X (.ListComp elt [⟨tg, iter, ifs, 0⟩] scope pos) ρ M Q :=
  we_of (pe_lc (g := tBG X scope tg) (tt := tBT X scope ifs) (te := tBE X scope elt) hc hN pi_W ok (fun s H C cl fp => ⟨fun pins s' σ' H' v u Q I r h => h s H C cl fp pins s' u I r⟩) (fun s H C cl fp => ⟨fun pins s' σ' H' Q I h => h s H C cl fp pins s' I⟩) (fun s H C cl fp => ⟨fun pins s' σ' H' Q I h => h s H C cl fp pins s' I⟩) hs) fun σ Z F H r n =>
    comp_core ok hw his h r n fun D F' H' M' vs acc zD ss rr ra q => ⟨_, _, M', ss.trans (rr.holdF zD).2, (rr.holdF zD).1, .lst (.of upd_same) (ra.mono (rr.holdF zD).2), q⟩
/-- a new list that will be changed -/
theorem we_compM (hc : X.calm = true) (hN : X.N.Nodup) (ok : BlkOk X.N X.env.scope scope own) (hs : ∀ x, foldedSetIterable iter X.env x = pure x) (hw : Wis ρ (own.map (·.2)) ρw) (his : ∀ i ∈ is, i ∈ own.map (·.2))
    (h : WI X tg iter ρ M (CompP X elt tg ifs scope is ρw fun ds M1 => ∀ p, M1 p = none → Q (.ref p) (mup M1 p (.lst ds)))) : WE X (.ListComp elt [⟨tg, iter, ifs, 0⟩] scope pos) ρ M Q :=
  we_of (pe_lc (g := tBG X scope tg) (tt := tBT X scope ifs) (te := tBE X scope elt) hc hN pi_W ok (fun s H C cl fp => ⟨fun pins s' σ' H' v u Q I r h => h s H C cl fp pins s' u I r⟩) (fun s H C cl fp => ⟨fun pins s' σ' H' Q I h => h s H C cl fp pins s' I⟩) (fun s H C cl fp => ⟨fun pins s' σ' H' Q I h => h s H C cl fp pins s' I⟩) hs) fun σ Z F H r n =>
    comp_core ok hw his h r n fun D F' H' M' vs acc zD ss rr ra q => ⟨.ref D, F', _, ss, rr.holdM zD (.lst ra), .ref D, q D (rr.fr D _ upd_same).2.1⟩
/-- name = [..] -/
theorem ws_setComp {nx rt bk ct} {i : Nat} {y : Str} {py spos : Pos} {f : D → Rho} (hc : X.calm = true) (hN : X.N.Nodup) (u : Up ρ i y f) (hyl : X.env.scope.names.lookup y = some .local)
    (hsw : swapsWith (.ListComp elt [⟨tg, iter, ifs, 0⟩] scope pos) (some (.Name y py)) spos.line X.env = pure true) (ok : BlkOk X.N X.env.scope scope own) (hs : ∀ x, foldedSetIterable iter X.env x = pure x) (hw : Wis ρ (own.map (·.2)) ρw) (his : ∀ i ∈ is, i ∈ own.map (·.2))
    (h : WI X tg iter ρ M (CompP X elt tg ifs scope is ρw fun ds M1 => nx (f (.lst ds)) M1)) : WS X (.Assign [.Name y py] (.ListComp elt [⟨tg, iter, ifs, 0⟩] scope pos) spos) ρ M ⟨nx, rt, bk, ct⟩ := by
  refine ⟨fun σ Z F H r n pins s I => ?_⟩
  have hi : X.N[i]? = some y := by rw [n.nm]; exact u.nm.1
  refine (ps_setLc (g := tBG X scope tg) (tt := tBT X scope ifs) (te := tBE X scope elt) hc hN hi hyl hsw pi_W ok (fun s H C cl fp => ⟨fun pins s' σ' H' v u Q I r h => h s H C cl fp pins s' u I r⟩) (fun s H C cl fp => ⟨fun pins s' σ' H' Q I h => h s H C cl fp pins s' I⟩) (fun s H C cl fp => ⟨fun pins s' σ' H' Q I h => h s H C cl fp pins s' I⟩) hs).run pins s σ H _ I ?_
  exact comp_core ok hw his h r n fun D F' H' M' vs acc zD ss rr ra q => ⟨_, _, M', ss.trans (rr.holdF zD).2, (rr.holdF zD).1, (n.mono (ss.trans (rr.holdF zD).2)).set u (.lst (.of upd_same) (ra.mono (rr.holdF zD).2)) I.len, q⟩
theorem ws_setCompM {nx rt bk ct} {i : Nat} {y : Str} {py spos : Pos} {f : D → Rho} (hc : X.calm = true) (hN : X.N.Nodup) (u : Up ρ i y f) (hyl : X.env.scope.names.lookup y = some .local)
    (hsw : swapsWith (.ListComp elt [⟨tg, iter, ifs, 0⟩] scope pos) (some (.Name y py)) spos.line X.env = pure true) (ok : BlkOk X.N X.env.scope scope own) (hs : ∀ x, foldedSetIterable iter X.env x = pure x) (hw : Wis ρ (own.map (·.2)) ρw) (his : ∀ i ∈ is, i ∈ own.map (·.2))
    (h : WI X tg iter ρ M (CompP X elt tg ifs scope is ρw fun ds M1 => ∀ p, M1 p = none → nx (f (.ref p)) (mup M1 p (.lst ds)))) : WS X (.Assign [.Name y py] (.ListComp elt [⟨tg, iter, ifs, 0⟩] scope pos) spos) ρ M ⟨nx, rt, bk, ct⟩ := by
  refine ⟨fun σ Z F H r n pins s I => ?_⟩
  have hi : X.N[i]? = some y := by rw [n.nm]; exact u.nm.1
  refine (ps_setLc (g := tBG X scope tg) (tt := tBT X scope ifs) (te := tBE X scope elt) hc hN hi hyl hsw pi_W ok (fun s H C cl fp => ⟨fun pins s' σ' H' v u Q I r h => h s H C cl fp pins s' u I r⟩) (fun s H C cl fp => ⟨fun pins s' σ' H' Q I h => h s H C cl fp pins s' I⟩) (fun s H C cl fp => ⟨fun pins s' σ' H' Q I h => h s H C cl fp pins s' I⟩) hs).run pins s σ H _ I ?_
  exact comp_core ok hw his h r n fun D F' H' M' vs acc zD ss rr ra q => ⟨F', _, _, ss, rr.holdM zD (.lst ra), (n.mono ss).set u (.ref D) I.len, q D (rr.fr D _ upd_same).2.1⟩
end
end DS
set_option Elab.async false
set_option linter.all false
set_option maxRecDepth 100000
set_option maxHeartbeats 4000000
namespace DS
open PySem PySem.Spec PyProof.Rows L2 TL

/-! ### subscripts, slices -/
def ixW (X : Cx) : R2 := fun x y H Q => ∀ (value slice : Expr) pins s σ v u, Inv X pins σ H s → RelV x v → RelV y u → subscripted slice false v u = operate [v, u] (getItem v u) → wpAny (model X.prog X.w) X.A (subscriptTail value slice v u) (EP X pins σ Q) X.xe s
theorem ixr_W {X : Cx} : IxR X (ixW X) := fun value slice pins s σ H x y v u Q I rx ry h hs => h value slice pins s σ v u I rx ry hs
structure IxD (X : Cx) (d1 d2 : D) (M : MH) (Q : DK) : Prop where
  run : ∀ Z F H x y, Rel X.K Z F H M → Rep X.K F x d1 → Rep X.K F y d2 → ixW X x y H (Post X.K Z F Q)
theorem ixd_of {X : Cx} {M : MH} {Q : DK} {r : R2} {d1 d2 : D} (o : IxR X r) (h : ∀ Z F H x y, Rel X.K Z F H M → Rep X.K F x d1 → Rep X.K F y d2 → r x y H (Post X.K Z F Q)) : IxD X d1 d2 M Q :=
  ⟨fun Z F H x y rl r1 r2 value slice pins s σ v u I rx ry hs => o value slice pins s σ H x y v u _ I rx ry (h Z F H x y rl r1 r2) hs⟩
def tWO (X : Cx) (e : Option Expr) : TO := fun σ H Q => ∀ pins s, Inv X pins σ H s → wpAny (model X.prog X.w) X.A (evalPart e X.env) (fun u s' => ∃ o H', Inv X pins σ H' s' ∧ IsPart u o ∧ Q o H') X.xe s
theorem po_W {X : Cx} {e : Option Expr} : PO X e (tWO X e) := ⟨fun pins s σ H Q I h => h pins s I⟩
def PostO (K : PySem.W.Frag) (Z F : Hp) (Q : Option Int → MH → Prop) : Option Int → Hp → Prop := fun b H' => ∃ F' M', Same F F' ∧ Rel K Z F' H' M' ∧ Q b M'
structure WO (X : Cx) (e : Option Expr) (ρ : Rho) (M : MH) (Q : Option Int → MH → Prop) : Prop where
  run : ∀ σ Z F H, Rel X.K Z F H M → REnv X F σ ρ → tWO X e σ H (PostO X.K Z F Q)
def slW (X : Cx) : V → Option Int → Option Int → Hp → VK → Prop := fun x lo hi H Q => ∀ pins s σ v vl vu sl, Inv X pins σ H s → RelV x v → s.heap.IsSliceOf sl vl vu .none → IsPart vl lo → IsPart vu hi →
    ∃ T id, typeLookup (.type T) "__getitem__" = pure (some (.builtin id)) ∧ s.TypeIs v T ∧ wpAny (model X.prog X.w) X.A (getItem v (.ref sl)) (EP X pins σ Q) X.xe s
theorem slr_W {X : Cx} : SlR X (slW X) := fun pins s σ H x v vl vu lo hi sl Q I rx hs pl pu h => h pins s σ v vl vu sl I rx hs pl pu
structure SlD (X : Cx) (d : D) (lo hi : Option Int) (M : MH) (Q : DK) : Prop where
  run : ∀ Z F H x, Rel X.K Z F H M → Rep X.K F x d → slW X x lo hi H (Post X.K Z F Q)
theorem sld_of {X : Cx} {M : MH} {Q : DK} {r : V → Option Int → Option Int → Hp → VK → Prop} {d : D} {lo hi : Option Int} (o : SlR X r) (h : ∀ Z F H x, Rel X.K Z F H M → Rep X.K F x d → r x lo hi H (Post X.K Z F Q)) : SlD X d lo hi M Q :=
  ⟨fun Z F H x rl r1 pins s σ v vl vu sl I rx hs pl pu => o pins s σ H x v vl vu lo hi sl _ I rx hs pl pu (h Z F H x rl r1)⟩
def cutD (xs : List D) (lo hi : Option Int) : List D := (xs.drop (HT.sIx xs.length 0 lo)).take (HT.sIx xs.length xs.length hi - HT.sIx xs.length 0 lo)
section
variable {X : Cx} {ρ : Rho} {M : MH} {Q : DK} {a b c e : Expr} {es : List Expr} {pos : Pos} {x : Str}
theorem wo_none {Q : Option Int → MH → Prop} (h : Q none M) : WO X none ρ M Q := ⟨fun σ Z F H r n pins s I => po_none.run pins s σ H _ I ⟨F, M, .refl F, r, h⟩⟩
theorem wo_some {Q : Option Int → MH → Prop} (h : WE X e ρ M fun d M1 => ∃ i, d = .int i ∧ Q (some i) M1) : WO X (some e) ρ M Q :=
  ⟨fun σ Z F H r n pins s I => (po_some pe_W).run pins s σ H _ I ((h.run σ Z F H r n).imp fun v H' ⟨d, F', M', s1, r1, p1, i, e1, q⟩ => by subst e1; cases p1; exact ⟨i, rfl, F', M', s1, r1, q⟩)⟩
theorem we_ix (hs : PlainIx b) (h : WE X a ρ M fun d1 M1 => WE X b ρ M1 fun d2 M2 => IxD X d1 d2 M2 Q) : WE X (.Subscript a b pos) ρ M Q := by
  refine we_of (pe_ix ixr_W pe_W pe_W hs) fun σ Z F H r n => ?_
  refine (h.run σ Z F H r n).imp fun x H1 ⟨d1, F1, M1, s1, r1, p1, q1⟩ => ?_
  refine (q1.run σ Z F1 H1 r1 (n.mono s1)).imp fun y H2 ⟨d2, F2, M2, s2, r2, p2, q2⟩ => ?_
  intro value slice pins s σ' v u I rx ry hss
  exact thn (q2.run Z F2 H2 x y r2 (p1.mono s2) p2 value slice pins s σ' v u I rx ry hss) fun w s' ⟨v', H', i, rv, q⟩ => ⟨v', H', i, rv, q.up (s1.trans s2)⟩
theorem we_slice {lo hi : Option Expr} {p2 : Pos} (h : WE X e ρ M fun d M1 => WO X lo ρ M1 fun l M2 => WO X hi ρ M2 fun u M3 => SlD X d l u M3 Q) : WE X (.Subscript e (.Slice lo hi none p2) pos) ρ M Q := by
  refine we_of (pe_slice slr_W pe_W po_W po_W) fun σ Z F H r n => ?_
  refine (h.run σ Z F H r n).imp fun x H1 ⟨d1, F1, M1, s1, r1, p1, q1⟩ => ?_
  intro pins s I
  refine thn ((q1.run σ Z F1 H1 r1 (n.mono s1)) pins s I) fun u s' ⟨o, H2, I2, ip, F2, M2, s2, r2, q2⟩ => ⟨o, H2, I2, ip, ?_⟩
  intro pins s I
  refine thn ((q2.run σ Z F2 H2 r2 (n.mono (s1.trans s2))) pins s I) fun u s' ⟨o', H3, I3, ip', F3, M3, s3, r3, q3⟩ => ⟨o', H3, I3, ip', ?_⟩
  intro pins s σ' v vl vu sl I rx hs pl pu
  obtain ⟨T, id, h1, h2, h3⟩ := q3.run Z F3 H3 x r3 (p1.mono (s2.trans s3)) pins s σ' v vl vu sl I rx hs pl pu
  exact ⟨T, id, h1, h2, thn h3 fun w s' ⟨v', H', i, rv, q⟩ => ⟨v', H', i, rv, q.up ((s1.trans s2).trans s3)⟩⟩
/-! items -/
theorem atI_rep {K : PySem.W.Frag} {F : Hp} {vs : List V} {ds : List D} {i : Int} {d : D} (ra : RepAll K F vs ds) (h : atI ds i = some d) : ∃ v, atI vs i = some v ∧ Rep K F v d := by
  unfold atI at h ⊢
  rw [ra.length]
  cases e : ixN ds.length i with
  | none => rw [e] at h; cases h
  | some j =>
    rw [e] at h
    obtain ⟨v, a, b⟩ := ra.get (i := j) (d := d) h
    exact ⟨v, a, b⟩
theorem ix_seqD {d d' : D} {ds : List D} {i : Int} (hd : SeqV M d ds) (h : atI ds i = some d') (q : Q d' M) : IxD X d (.int i) M Q := by
  refine ixd_of ix_seq fun Z F H x y r p1 p2 => ?_
  cases p2
  obtain ⟨a, vs, rfl, hq, ra⟩ := hd.at_ r p1
  obtain ⟨v, hv, pv⟩ := atI_rep ra h
  rcases hq with hq | hq
  · exact .inl ⟨a, vs, i, v, rfl, rfl, hq, hv, d', F, M, .refl F, r, pv, q⟩
  · exact .inr (.inl ⟨a, vs, i, v, rfl, rfl, hq, hv, d', F, M, .refl F, r, pv, q⟩)
theorem ix_strD {z : Str} {i : Int} {c : Nat} (hl : z.length ≤ sizeLine) (h : atI (tl z) i = some c) (q : Q (.str ⟨#[c]⟩) M) : IxD X (.str z) (.int i) M Q := by
  refine ixd_of ix_seq fun Z F H x y r p1 p2 => ?_
  cases p1; cases p2
  exact .inr (.inr ⟨z, i, c, rfl, rfl, hl, h, _, F, M, .refl F, r, .str _, q⟩)
theorem cut_rep {K : PySem.W.Frag} {F : Hp} {vs : List V} {ds : List D} {lo hi : Option Int} (ra : RepAll K F vs ds) : RepAll K F (cutV vs lo hi) (cutD ds lo hi) := by
  unfold cutV cutD
  rw [ra.length]
  exact (ra.drop _).take _
theorem sl_lstD {d : D} {ds : List D} {lo hi : Option Int} (hd : SeqL M d ds) (q : Q (.lst (cutD ds lo hi)) M) : SlD X d lo hi M Q := by
  refine sld_of sl_list fun Z F H x r p1 => ?_
  obtain ⟨a, vs, rfl, hq, ra⟩ := hd.at_ r p1
  refine ⟨a, vs, rfl, hq, fun p np => ?_⟩
  obtain ⟨rr, ss⟩ := r.still np (.lst (cutV vs lo hi))
  exact ⟨_, _, M, ss, rr, .lst (.of upd_same) ((cut_rep ra).mono ss), q⟩
theorem sl_lstDM {d : D} {ds : List D} {lo hi : Option Int} (hd : SeqL M d ds) (q : ∀ p, M p = none → Q (.ref p) (mup M p (.lst (cutD ds lo hi)))) : SlD X d lo hi M Q := by
  refine sld_of sl_list fun Z F H x r p1 => ?_
  obtain ⟨a, vs, rfl, hq, ra⟩ := hd.at_ r p1
  refine ⟨a, vs, rfl, hq, fun p np => ?_⟩
  exact ⟨.ref p, F, _, .refl F, r.fresh np (.lst (cut_rep ra)), .ref p, q p (r.free np).2⟩
theorem sl_tupD {ds : List D} {lo hi : Option Int} (hw : ¬ (HT.sIx ds.length 0 lo = 0 ∧ HT.sIx ds.length ds.length hi = ds.length)) (q : Q (.tup (cutD ds lo hi)) M) : SlD X (.tup ds) lo hi M Q := by
  refine sld_of sl_tup fun Z F H x r p1 => ?_
  cases p1 with
  | @tup a vs _ hq ra =>
    refine ⟨a, vs, rfl, Same.sqt r.sub hq, by rw [ra.length]; exact hw, fun p np => ?_⟩
    obtain ⟨rr, ss⟩ := r.still np (.tup (cutV vs lo hi))
    exact ⟨_, _, M, ss, rr, .tup (.of upd_same) ((cut_rep ra).mono ss), q⟩
theorem sl_strD {z : Str} {lo hi : Option Int} (hl : z.length ≤ sizeLine) (q : Q (.str (cutS z lo hi)) M) : SlD X (.str z) lo hi M Q := by
  refine sld_of sl_str fun Z F H x r p1 => ?_
  cases p1
  exact ⟨z, rfl, hl, _, F, M, .refl F, r, .str _, q⟩
end

/-! ### calls of built-ins -/
def cW (X : Cx) (f : Value) : List V → Hp → VK → Prop := fun xs H Q => ∀ pins s σ us, Inv X pins σ H s → Vals xs us → wpAny (model X.prog X.w) X.A (call f us) (EP X pins σ Q) X.xe s
theorem callr_W {X : Cx} {f : Value} : CallR X f (cW X f) := fun pins s σ H xs us Q I r h => h pins s σ us I r
structure CallD (X : Cx) (f : Value) (ds : List D) (M : MH) (Q : DK) : Prop where
  run : ∀ Z F H vs, Rel X.K Z F H M → RepAll X.K F vs ds → cW X f vs H (Post X.K Z F Q)
theorem calld_of {X : Cx} {M : MH} {Q : DK} {f : Value} {r : List V → Hp → VK → Prop} {ds : List D} (o : CallR X f r) (h : ∀ Z F H vs, Rel X.K Z F H M → RepAll X.K F vs ds → r vs H (Post X.K Z F Q)) : CallD X f ds M Q :=
  ⟨fun Z F H vs rl r1 pins s σ us I rv => o pins s σ H vs us _ I rv (h Z F H vs rl r1)⟩
section
variable {X : Cx} {ρ : Rho} {M : MH} {Q : DK} {a b c e : Expr} {es : List Expr} {pos p : Pos} {x : Str} {id T : String}
theorem call_core {f : Value} {σ : L2.St} {Z F H : Hp} (h : WA X es ρ M fun ds M1 => CallD X f ds M1 Q) (r : Rel X.K Z F H M) (n : REnv X F σ ρ) : tWA X es σ H fun vs H1 => cW X f vs H1 (Post X.K Z F Q) := by
  refine (h.run σ Z F H r n).imp fun vs H1 ⟨ds, F1, M1, s1, r1, p1, q1⟩ => ?_
  intro pins s σ' us I rv
  exact thn (q1.run Z F1 H1 vs r1 p1 pins s σ' us I rv) fun w s' ⟨v', H', i, rv, q⟩ => ⟨v', H', i, rv, q.up s1⟩
theorem we_callB (hg : Gl X x) (hm : X.mg x = none) (hv : bootBuiltins x = some (.builtin id)) (he : starEach (e :: es) X.env = (false, eval e X.env) :: starEach es X.env) (hpl : (backTo pos (starEach es X.env)).any (·.1) = false)
    (h : WA X (e :: es) ρ M fun ds M1 => CallD X (.builtin id) ds M1 Q) (hn : x ≠ "__name__" := by decide) (hdb : (x == ("__debug__" : Str)) = false := by decide) : WE X (.Call (.Name x p) (e :: es) [] pos) ρ M Q :=
  we_of (pe_callB callr_W hg hm hv pa_W hn hdb he hpl) fun σ Z F H r n => call_core h r n
theorem we_callTy (hg : Gl X x) (hm : X.mg x = none) (hv : bootBuiltins x = some (.type T)) (he : starEach (e :: es) X.env = (false, eval e X.env) :: starEach es X.env) (hpl : (backTo pos (starEach es X.env)).any (·.1) = false)
    (h : WA X (e :: es) ρ M fun ds M1 => CallD X (.type T) ds M1 Q) (hn : x ≠ "__name__" := by decide) (hdb : (x == ("__debug__" : Str)) = false := by decide) : WE X (.Call (.Name x p) (e :: es) [] pos) ρ M Q :=
  we_of (pe_callTy callr_W hg hm hv pa_W hn hdb he hpl) fun σ Z F H r n => call_core h r n
/-- a built-in type as a value -/
theorem we_ty (hg : Gl X x) (hm : X.mg x = none) (hv : bootBuiltins x = some (.type T)) (h : Q (.ty T) M) (hn : x ≠ "__name__" := by decide) (hdb : (x == ("__debug__" : Str)) = false := by decide) : WE X (.Name x pos) ρ M Q :=
  we_of (pe_bltn hg hm hv (v := .ty T) rfl hn hdb) fun σ Z F H r n => ⟨_, F, M, .refl F, r, .ty T, h⟩
/-! isinstance -/
def tyName : D → Option String
  | .non => some "NoneType"
  | .bl _ => some "bool"
  | .int _ => some "int"
  | .str _ => some "str"
  | .tup _ => some "tuple"
  | .lst _ => some "list"
  | .fn _ => some "function"
  | .dk _ => some "dict"
  | _ => none
theorem kit_of_d {pins : List (Addr × Obj)} {σ : L2.St} {Z F H : Hp} {s : Shared} {d : D} {n : String} {v : V} {u : Value} (I : Inv X pins σ H s) (r : Rel X.K Z F H M) (p : Rep X.K F v d) (hd : tyName d = some n) (rv : RelV v u) :
    ∃ P : Heap → Prop, PySem.W.KitX X.K u (.type n) P ∧ P s.heap ∧ u ≠ .builtin "__main__.__loader__#opaque" := by
  cases p with
  | non => cases hd; exact kit_of I rv (.base .non)
  | bl b => cases hd; exact kit_of I rv (.base (.bl b))
  | int i => cases hd; exact kit_of I rv (.base (.int i))
  | str y => cases hd; exact kit_of I rv (.base (.str y))
  | @lst a vs ds hq ra =>
    cases hd
    rcases hq with (hq | ⟨o, hq⟩) | ⟨o, its, m, h1, h2, _⟩
    · exact kit_of I rv (.base (.lst (r.sub _ _ hq)))
    · exact kit_of I rv (.base (.frz (r.sub _ _ hq)))
    · exact kit_of I rv (.kList h1 h2)
  | @tup a vs ds hq ra =>
    cases hd
    rcases hq with (hq | ⟨o, hq⟩) | ⟨o, its, m, h1, h2, _⟩
    · exact kit_of I rv (.base (.tup (r.sub _ _ hq)))
    · exact kit_of I rv (.fTuple (r.sub _ _ hq))
    · exact kit_of I rv (.kTuple h1 h2)
  | ref a => cases hd
  | @fn a hf =>
    cases hd
    cases (show u = Value.ref a from rv)
    obtain ⟨o, h1, h2⟩ := hf
    exact ⟨_, kitx_fn, ⟨o, I.kIn a o h1, h2⟩, fun z => nomatch z⟩
  | ty n => cases hd
  | dk h rr => cases hd; exact kit_of I rv (.base (.dK (r.sub _ _ h)))
theorem c_isi {d : D} {n t : String} {k : Bool} (hd : tyName d = some n) (hk : kitB n t = some k) (q : Q (.bl k) M) : CallD X (.builtin "isinstance") [d, .ty t] M Q := by
  refine ⟨fun Z F H vs r ra pins s σ us I rv => ?_⟩
  cases ra with
  | cons p1 ra =>
    cases ra with
    | cons p2 ra =>
      cases ra
      cases p2
      obtain ⟨u1, u2, rfl, r1, r2⟩ := vals2 rv
      cases (show u2 = Value.type t from r2)
      obtain ⟨P, Zk, pk, hx⟩ := kit_of_d I r p1 hd r1
      exact PySem.W.kia_one Zk I.kIn pk (kit_ty hk) hx fun tk => ⟨.bl k, H, I.tok tk, rfl, _, F, M, .refl F, r, .bl k, q⟩
/-! len, all, any, sum, min, max, list, tuple, int, str, abs -/
theorem c_lenV {d : D} {ds : List D} (hd : SeqV M d ds) (q : Q (.int ds.length) M) : CallD X (.builtin "len") [d] M Q := by
  refine calld_of call_len_seq fun Z F H vs r ra => ?_
  cases ra with
  | cons p1 ra =>
    cases ra
    obtain ⟨a, ws, rfl, hq, rw'⟩ := hd.at_ r p1
    exact ⟨a, ws, rfl, hq, by rw [rw'.length]; exact ⟨_, F, M, .refl F, r, .int _, q⟩⟩
theorem c_lenS {z : Str} (hl : z.length ≤ sizeLine) (q : Q (.int z.length) M) : CallD X (.builtin "len") [.str z] M Q := by
  refine calld_of call_len_str fun Z F H vs r ra => ?_
  cases ra with
  | cons p1 ra =>
    cases ra; cases p1
    exact ⟨z, rfl, hl, _, F, M, .refl F, r, .int _, q⟩
theorem bls_of {K : PySem.W.Frag} {F : Hp} : ∀ {vs : List V} {bs : List Bool}, RepAll K F vs (bs.map D.bl) → vs = bs.map V.bl
  | [], [], _ => rfl
  | v :: vs, b :: bs, h => by
    cases h with
    | cons p r =>
      cases p
      rw [List.map_cons, bls_of r]
  | [], _ :: _, h => nomatch h
  | _ :: _, [], h => nomatch h
theorem ints_of {K : PySem.W.Frag} {F : Hp} : ∀ {vs : List V} {bs : List Int}, RepAll K F vs (bs.map D.int) → vs = bs.map V.int
  | [], [], _ => rfl
  | v :: vs, b :: bs, h => by
    cases h with
    | cons p r =>
      cases p
      rw [List.map_cons, ints_of r]
  | [], _ :: _, h => nomatch h
  | _ :: _, [], h => nomatch h
theorem strs_of {K : PySem.W.Frag} {F : Hp} : ∀ {vs : List V} {bs : List Str}, RepAll K F vs (bs.map D.str) → vs = bs.map V.str
  | [], [], _ => rfl
  | v :: vs, b :: bs, h => by
    cases h with
    | cons p r =>
      cases p
      rw [List.map_cons, strs_of r]
  | [], _ :: _, h => nomatch h
  | _ :: _, [], h => nomatch h
theorem c_all {d : D} {bs : List Bool} (hc : X.calm = true) (hd : SeqL M d (bs.map D.bl)) (q : Q (.bl (bs.all fun b => b)) M) : CallD X (.builtin "all") [d] M Q := by
  refine calld_of (cr_all hc) fun Z F H vs r ra => ?_
  cases ra with
  | cons p1 ra =>
    cases ra
    obtain ⟨a, ws, rfl, hq, rw'⟩ := hd.at_ r p1
    have e := bls_of rw'
    subst e
    exact ⟨a, bs, rfl, hq, _, F, M, .refl F, r, .bl _, q⟩
theorem c_any {d : D} {bs : List Bool} (hc : X.calm = true) (hd : SeqL M d (bs.map D.bl)) (q : Q (.bl (bs.any fun b => b)) M) : CallD X (.builtin "any") [d] M Q := by
  refine calld_of (cr_any hc) fun Z F H vs r ra => ?_
  cases ra with
  | cons p1 ra =>
    cases ra
    obtain ⟨a, ws, rfl, hq, rw'⟩ := hd.at_ r p1
    have e := bls_of rw'
    subst e
    exact ⟨a, bs, rfl, hq, _, F, M, .refl F, r, .bl _, q⟩
theorem c_listT {d : D} {ds : List D} (hd : SeqV M d ds) (q : Q (.lst ds) M) : CallD X (.type "list") [d] M Q := by
  refine calld_of call_list_of fun Z F H vs r ra => ?_
  cases ra with
  | cons p1 ra =>
    cases ra
    obtain ⟨a, ws, rfl, hq, rw'⟩ := hd.at_ r p1
    refine ⟨a, ws, rfl, hq, fun l nl => ?_⟩
    obtain ⟨rr, ss⟩ := r.still nl (.lst ws)
    exact ⟨_, _, M, ss, rr, .lst (.of upd_same) (rw'.mono ss), q⟩
theorem c_listM {d : D} {ds : List D} (hd : SeqV M d ds) (q : ∀ p, M p = none → Q (.ref p) (mup M p (.lst ds))) : CallD X (.type "list") [d] M Q := by
  refine calld_of call_list_of fun Z F H vs r ra => ?_
  cases ra with
  | cons p1 ra =>
    cases ra
    obtain ⟨a, ws, rfl, hq, rw'⟩ := hd.at_ r p1
    exact ⟨a, ws, rfl, hq, fun l nl => ⟨.ref l, F, _, .refl F, r.fresh nl (.lst rw'), .ref l, q l (r.free nl).2⟩⟩
theorem c_tup {d : D} {ds : List D} (hd : SeqL M d ds) (q : Q (.tup ds) M) : CallD X (.type "tuple") [d] M Q := by
  refine calld_of call_tuple_of fun Z F H vs r ra => ?_
  cases ra with
  | cons p1 ra =>
    cases ra
    obtain ⟨a, ws, rfl, hq, rw'⟩ := hd.at_ r p1
    refine ⟨a, ws, rfl, .inl ⟨hq, fun l nl => ?_⟩⟩
    obtain ⟨rr, ss⟩ := r.still nl (.tup ws)
    exact ⟨_, _, M, ss, rr, .tup (.of upd_same) (rw'.mono ss), q⟩
theorem c_tupT {ds : List D} (q : Q (.tup ds) M) : CallD X (.type "tuple") [.tup ds] M Q := by
  refine calld_of call_tuple_of fun Z F H vs r ra => ?_
  cases ra with
  | cons p1 ra =>
    cases ra
    cases p1 with
    | tup hq rr => exact ⟨_, _, rfl, .inr ⟨Same.sqt r.sub hq, _, F, M, .refl F, r, .tup hq rr, q⟩⟩
theorem c_intB {k : Bool} (q : Q (.int (if k then 1 else 0)) M) : CallD X (.type "int") [.bl k] M Q := by
  refine calld_of call_int1 fun Z F H vs r ra => ?_
  cases ra with
  | cons p1 ra =>
    cases ra; cases p1
    exact .inr ⟨k, rfl, _, F, M, .refl F, r, .int _, q⟩
theorem c_sum {d : D} {ns : List Int} (hc : X.calm = true) (hd : SeqL M d (ns.map D.int)) (q : Q (.int ns.sum) M) : CallD X (.builtin "sum") [d] M Q := by
  refine calld_of (cr_sum hc) fun Z F H vs r ra => ?_
  cases ra with
  | cons p1 ra =>
    cases ra
    obtain ⟨a, ws, rfl, hq, rw'⟩ := hd.at_ r p1
    have e := ints_of rw'
    subst e
    exact ⟨a, ns, rfl, hq, _, F, M, .refl F, r, .int _, q⟩
theorem c_abs {i : Int} (q : Q (.int (if i < 0 then -i else i)) M) : CallD X (.builtin "abs") [.int i] M Q := by
  refine calld_of call_abs fun Z F H vs r ra => ?_
  cases ra with
  | cons p1 ra =>
    cases ra; cases p1
    exact ⟨i, rfl, _, F, M, .refl F, r, .int _, q⟩
theorem c_max2 {i j : Int} (hc : X.calm = true) (q : Q (.int (if j > i then j else i)) M) : CallD X (.builtin "max") [.int i, .int j] M Q := by
  refine calld_of (call_max2 hc) fun Z F H vs r ra => ?_
  cases ra with
  | cons p1 ra =>
    cases ra with
    | cons p2 ra =>
      cases ra; cases p1; cases p2
      exact ⟨i, j, rfl, _, F, M, .refl F, r, .int _, q⟩
theorem c_divmod {i j : Int} (hc : CDiv i j) (q : Q (.tup [.int (i / j), .int (i % j)]) M) : CallD X (.builtin "divmod") [.int i, .int j] M Q := by
  refine calld_of call_divmod fun Z F H vs r ra => ?_
  cases ra with
  | cons p1 ra =>
    cases ra with
    | cons p2 ra =>
      cases ra; cases p1; cases p2
      refine ⟨i, j, rfl, hc, fun p np => ?_⟩
      obtain ⟨rr, ss⟩ := r.still np (.tup [.int (i / j), .int (i % j)])
      exact ⟨_, _, M, ss, rr, .tup (.of upd_same) (.cons (.int _) (.cons (.int _) .nil)), q⟩
theorem c_strI {i : Int} (hc : i.natAbs.log2 < 1920) (q : Q (.str (toString i)) M) : CallD X (.type "str") [.int i] M Q := by
  refine calld_of call_str_int fun Z F H vs r ra => ?_
  cases ra with
  | cons p1 ra =>
    cases ra; cases p1
    exact ⟨i, rfl, hc, _, F, M, .refl F, r, .str _, q⟩
end

/-! ### methods of built-in types -/
def mtW (X : Cx) (id : String) : V → List V → Hp → VK → Prop := fun x xs H Q => ∀ pins s σ v us, Inv X pins σ H s → RelV x v → Vals xs us → wpAny (model X.prog X.w) X.A (call (.builtin id) (v :: us)) (EP X pins σ Q) X.xe s
theorem mtr_W {X : Cx} {id : String} : MtR X id (mtW X id) := fun pins s σ H x xs v us Q I rx r h => h pins s σ v us I rx r
/-- the tree is of that built-in type -/
inductive TyD (M : MH) : String → D → Prop
  | str (z : Str) : TyD M "str" (.str z)
  | lst (ds : List D) : TyD M "list" (.lst ds)
  | ref {a : Addr} {ds : List D} : M a = some (.lst ds) → TyD M "list" (.ref a)
  | dK {a : Addr} {kvs : List (Key × D)} : M a = some (.dK kvs) → TyD M "dict" (.ref a)
  | dT {a : Addr} {kvs : List (List Key × D)} : M a = some (.dT kvs) → TyD M "dict" (.ref a)
theorem TyD.ty {K : PySem.W.Frag} {Z F H : Hp} {M : MH} {T : String} {d : D} {v : V} (t : TyD M T d) (r : Rel K Z F H M) (p : Rep K F v d) : tyV K T v H := by
  cases t with
  | str z => cases p; exact rfl
  | lst ds => cases p with | lst hq ra => exact .inl ⟨rfl, _, r.sub.seq hq⟩
  | ref e =>
    cases p
    obtain ⟨vs, h, _, _⟩ := r.lstAt e
    exact .inl ⟨rfl, vs, .of h⟩
  | dK e =>
    cases p
    obtain ⟨_, o, q, ro⟩ := r.mo _ _ e
    cases ro with | dK rr => exact .inr (.inr (.inl ⟨rfl, .inl ⟨_, q⟩⟩))
  | dT e =>
    cases p
    obtain ⟨_, o, q, ro⟩ := r.mo _ _ e
    cases ro with | dT rr => exact .inr (.inr (.inl ⟨rfl, .inr ⟨_, q⟩⟩))
structure MtD (X : Cx) (id : String) (d : D) (ds : List D) (M : MH) (Q : DK) : Prop where
  run : ∀ Z F H x vs, Rel X.K Z F H M → Rep X.K F x d → RepAll X.K F vs ds → mtW X id x vs H (Post X.K Z F Q)
theorem mtd_of {X : Cx} {M : MH} {Q : DK} {id : String} {r : V → List V → Hp → VK → Prop} {d : D} {ds : List D} (o : MtR X id r) (h : ∀ Z F H x vs, Rel X.K Z F H M → Rep X.K F x d → RepAll X.K F vs ds → r x vs H (Post X.K Z F Q)) : MtD X id d ds M Q :=
  ⟨fun Z F H x vs rl r1 ra pins s σ v us I rx rv => o pins s σ H x vs v us _ I rx rv (h Z F H x vs rl r1 ra)⟩
section
variable {X : Cx} {ρ : Rho} {M : MH} {Q : DK} {o e : Expr} {es : List Expr} {apos cpos : Pos} {name : Str} {id T : String}
theorem we_m (pa : PlainAttrs T) (slot : Slot T name id) (hty : typeOf (.builtin id) = pure (.type "method_descriptor"))
    (hbase : attributeBase o name X.env (eval o X.env) = eval o X.env)
    (hfew : ((backTo cpos (starEach (e :: es) X.env)).all (fun x => !x.1) && (backToKw cpos (keywordEach [] X.env)).all (fun x => x.1.isSome)
      && decide ((e :: es).length + ([] : List Keyword).length + (if ([] : List Keyword).isEmpty then 0 else 1) < 30)) = true)
    (hline : (apos.endLine == cpos.line) = true) (hs : starEach (e :: es) X.env = (false, eval e X.env) :: starEach es X.env) (hplain : (backTo cpos (starEach es X.env)).any (·.1) = false)
    (h : WE X o ρ M fun d M1 => TyD M1 T d ∧ WA X (e :: es) ρ M1 fun ds M2 => MtD X id d ds M2 Q) : WE X (.Call (.Attribute o name apos) (e :: es) [] cpos) ρ M Q := by
  refine we_of (pe_bm pa slot hty mtr_W pe_W pa_W hbase hfew hline hs hplain) fun σ Z F H r n => ?_
  refine (h.run σ Z F H r n).imp fun x H1 ⟨d, F1, M1, s1, r1, p1, t1, q1⟩ => ⟨t1.ty r1 p1, ?_⟩
  refine (q1.run σ Z F1 H1 r1 (n.mono s1)).imp fun vs H2 ⟨ds, F2, M2, s2, r2, p2, q2⟩ => ?_
  intro pins s σ' v us I rx rv
  exact thn (q2.run Z F2 H2 x vs r2 (p1.mono s2) p2 pins s σ' v us I rx rv) fun w s' ⟨v', H', i, rv, q⟩ => ⟨v', H', i, rv, q.up (s1.trans s2)⟩
theorem we_m0 (pa : PlainAttrs T) (slot : Slot T name id) (hty : typeOf (.builtin id) = pure (.type "method_descriptor"))
    (hbase : attributeBase o name X.env (eval o X.env) = eval o X.env) (hline : (apos.endLine == cpos.line) = true)
    (h : WE X o ρ M fun d M1 => TyD M1 T d ∧ MtD X id d [] M1 Q) : WE X (.Call (.Attribute o name apos) [] [] cpos) ρ M Q := by
  refine we_of (pe_bm0 pa slot hty mtr_W pe_W hbase hline) fun σ Z F H r n => ?_
  refine (h.run σ Z F H r n).imp fun x H1 ⟨d, F1, M1, s1, r1, p1, t1, q1⟩ => ⟨t1.ty r1 p1, ?_⟩
  intro pins s σ' v us I rx rv
  exact thn (q1.run Z F1 H1 x [] r1 p1 .nil pins s σ' v us I rx rv) fun w s' ⟨v', H', i, rv, q⟩ => ⟨v', H', i, rv, q.up s1⟩
theorem m_append {a : Addr} {ds : List D} {d : D} (hm : M a = some (.lst ds)) (hl : ds.length < sizeLine) (q : Q .non (mup M a (.lst (ds ++ [d])))) : MtD X "list.append" (.ref a) [d] M Q := by
  refine mtd_of (r := rAppend) mt_append fun Z F H x vs r p ra => ?_
  cases p
  cases ra with
  | cons p1 ra =>
    cases ra
    obtain ⟨ws, hh, rw', _⟩ := r.lstAt hm
    exact ⟨a, ws, _, rfl, rfl, hh, by rw [rw'.length]; exact hl, .non, F, _, .refl F, r.write hm (.lst (rw'.append (.cons p1 .nil))), .non, q⟩
theorem m_reverse {a : Addr} {ds : List D} (hm : M a = some (.lst ds)) (q : Q .non (mup M a (.lst ds.reverse))) : MtD X "list.reverse" (.ref a) [] M Q := by
  refine mtd_of (r := rReverse) mt_reverse fun Z F H x vs r p ra => ?_
  cases p
  cases ra
  obtain ⟨ws, hh, rw', _⟩ := r.lstAt hm
  exact ⟨a, ws, rfl, rfl, hh, .non, F, _, .refl F, r.write hm (.lst rw'.reverse), .non, q⟩
theorem m_find {a b : Str} (q : Q (.int (Txt.find a b)) M) : MtD X "str.find" (.str a) [.str b] M Q := by
  refine mtd_of mt_find fun Z F H x vs r p ra => ?_
  cases p
  cases ra with
  | cons p1 ra =>
    cases ra; cases p1
    exact ⟨a, b, rfl, rfl, _, F, M, .refl F, r, .int _, q⟩
end

/-! ### defs -/
abbrev DSpec := List D → MH → DK → Prop
def spOf (K : PySem.W.Frag) (n : Nat) (S : DSpec) : Sp := fun vs H Q _ => vs.length = n ∧ ∃ Z F M ds Qd, Rel K Z F H M ∧ RepAll K F vs ds ∧ S ds M Qd ∧ ∀ v H', Post K Z F Qd v H' → Q v H'
structure DFn (P : Program) (w : World) (K : PySem.W.Frag) (mg : Str → Option Value) (base : Heap) (k : Nat) (x : Str) (n : Nat) (S : DSpec) : Prop where
  ex : ∃ (f : Addr) (fd : FuncData) (ps : List Str), FnOk P w K mg base CX0 k f fd ps (spOf K n S) ∧ mg x = some (.ref f) ∧ PySem.W.keepIn K (.ref f) = true ∧ Binds K fd ps []
theorem DFn.mono {P : Program} {w : World} {K : PySem.W.Frag} {mg : Str → Option Value} {base : Heap} {j k : Nat} {x : Str} {n : Nat} {S : DSpec} (f : DFn P w K mg base j x n S) (h : j ≤ k) : DFn P w K mg base k x n S :=
  let ⟨a, b, c, d, e⟩ := f.ex; ⟨a, b, c, d.mono h, e⟩
section
variable {X : Cx} {ρ : Rho} {M : MH} {Q : DK} {e : Expr} {es : List Expr} {pos p : Pos} {x : Str} {k n : Nat} {S : DSpec}
theorem we_call (f : DFn X.prog X.w X.K X.mg X.base k x n S) (hr : Room k X.A) (hg : Gl X x) (hl : (e :: es).length = n) (he : starEach (e :: es) X.env = (false, eval e X.env) :: starEach es X.env) (hpl : (backTo pos (starEach es X.env)).any (·.1) = false)
    (h : WA X (e :: es) ρ M fun ds M1 => ds.length = n ∧ S ds M1 Q) (hdb : (x == ("__debug__" : Str)) = false := by decide) : WE X (.Call (.Name x p) (e :: es) [] pos) ρ M Q := by
  obtain ⟨fa, fd, ps, F, hm, hk, hb⟩ := f.ex
  refine we_of (pe_call F hr hg hm hk hb .nil pass0 pa_W hdb he hpl) fun σ Z F H r n => ?_
  refine (h.run σ Z F H r n).imp fun vs H1 ⟨ds, F1, M1, s1, r1, p1, hn, q1⟩ => ?_
  rw [List.append_nil]
  exact ⟨by rw [p1.length]; exact hn, Z, F1, M1, ds, Q, r1, p1, q1, fun v H' q => q.up s1⟩
theorem we_call0 (f : DFn X.prog X.w X.K X.mg X.base k x 0 S) (hr : Room k X.A) (hg : Gl X x)
    (h : S [] M Q) (hdb : (x == ("__debug__" : Str)) = false := by decide) : WE X (.Call (.Name x p) [] [] pos) ρ M Q := by
  obtain ⟨fa, fd, ps, F, hm, hk, hb⟩ := f.ex
  refine we_of (pe_call0 F hr hg hm hk hb .nil pass0 hdb) fun σ Z F H r n => ?_
  exact ⟨rfl, Z, F, M, [], Q, r, .nil, h, fun v H' q => q⟩
end
/-- the names at the start -/
def startR (N : List Str) (ds : List D) : Rho := N.zip (ds.map some ++ List.replicate (N.length - ds.length) none)
theorem startR_env {X : Cx} {F : Hp} {vs : List V} {ds : List D} (r : RepAll X.K F vs ds) (hl : vs.length ≤ X.N.length) : REnv X F (L2.start X.N vs) (startR X.N ds) := by
  have hlen := r.length
  refine ⟨?_, fun i x d e => ?_⟩
  · unfold startR
    rw [List.map_fst_zip]
    rw [List.length_append, List.length_map, List.length_replicate]; omega
  · unfold startR at e
    rw [List.getElem?_zip_eq_some] at e
    obtain ⟨_, e⟩ := e
    have hi : i < ds.length := by
      rcases Nat.lt_or_ge i ds.length with z | z
      · exact z
      · rw [List.getElem?_append_right (by simpa using z)] at e
        rw [List.getElem?_replicate] at e
        split at e <;> cases e
    rw [List.getElem?_append_left (by simpa using hi), List.getElem?_map] at e
    obtain ⟨d', e1, e2⟩ := Option.map_eq_some_iff.mp e
    cases e2
    obtain ⟨v, h1, h2⟩ := r.get e1
    refine ⟨v, ?_, h2⟩
    unfold L2.start
    rw [List.getElem?_append_left (by rw [List.length_map, hlen]; exact hi), List.getElem?_map, h1]
    rfl
/-- the context of a def's body -/
abbrev bodyCx (P : Program) (w : World) (K : PySem.W.Frag) (mg : Str → Option Value) (base : Heap) (N : List Str) (qual : Str) (sc : Scope) (f : Addr) (cdv : Value) (A : Around) (outer : List Env) (s : Shared) (H : Hp) : Cx where
  prog := P
  w := w
  K := K
  mg := mg
  base := base
  A := A.deeper (envOfC qual sc s.heap.objs.size f cdv)
  N := N
  s_0 := s
  H_0 := H
  env := envOfC qual sc s.heap.objs.size f cdv
  outer := outer
  stack := envOfC qual sc s.heap.objs.size f cdv :: outer
  ex := []
  calm := true
  fn := fun _ => true
  pn := []
  xe := fun _ _ => False
section
variable {P : Program} {w : World} {K : PySem.W.Frag} {mg : Str → Option Value} {base : Heap}
theorem fnd_ok {x qual : Str} {st : Stmt} {f : Addr} {fd : FuncData} {N ps : List Str} {k n : Nat} {S : DSpec} (F : Fun K x qual st f fd) (sc : FnScope N ps (defScope st)) (hn : ps.length = n) (hN : n ≤ N.length)
    (body : ∀ (cdv : Value) (A : Around) (outer : List Env) (s : Shared) (H : Hp) (ds : List D) (M : MH) (Q : DK), Room k (A.deeper (envOfC qual (defScope st) s.heap.objs.size f cdv)) → ds.length = n → S ds M Q →
      WSs (bodyCx P w K mg base N qual (defScope st) f cdv A outer s H) (defBody st) (startR N ds) M { nx := fun _ M' => Q .non M', rt := Q }) : FnOk P w K mg base CX0 (k + 1) f fd ps (spOf K n S) := by
  refine F.ok sc (fun vs H Q E h => by rw [h.1, hn]) fun cdv A outer s H vs Q E hr h => ?_
  obtain ⟨hl, Z, F0, M, ds, Qd, r, ra, hs, fin⟩ := h
  have b := body cdv A outer s H ds M Qd hr (by rw [← ra.length]; exact hl) hs
  refine ⟨tWSs (bodyCx P w K mg base N qual (defScope st) f cdv A outer s H) (defBody st), pss_W, ?_⟩
  have n0 : REnv (bodyCx P w K mg base N qual (defScope st) f cdv A outer s H) F0 (L2.start N vs) (startR N ds) := startR_env (X := bodyCx P w K mg base N qual (defScope st) f cdv A outer s H) ra (by show vs.length ≤ N.length; omega)
  exact (b.run (L2.start N vs) Z F0 H r n0).imp ⟨fun σ' H' ⟨F', ρ', M', s1, r1, _, q⟩ => fin _ _ ⟨.non, F', M', s1, r1, .non, q⟩, fun v H' q => fin v H' q, fun _ _ ⟨_, _, _, _, _, _, q⟩ => q.elim, fun _ _ ⟨_, _, _, _, _, _, q⟩ => q.elim⟩
end
end DS
set_option Elab.async false
set_option linter.all false
set_option maxRecDepth 100000
set_option maxHeartbeats 4000000
namespace DS
open PySem PySem.Spec PyProof.Rows L2 TL

/-! ### dicts as they are written -/
def kD : Key → D
  | .inl i => .int i
  | .inr x => .str x
theorem Rep.key {K : PySem.W.Frag} {F : Hp} {v : V} {k : Key} (r : Rep K F v (kD k)) : v = kV k := by
  cases k <;> (cases r; rfl)
section
variable {κ : Type} [DecidableEq κ] {α : Type}
def putD (kvs : List (κ × α)) (k : κ) (v : α) : List (κ × α) :=
  if (kvs.any fun kv => decide (kv.1 = k)) = true then kvs.map (fun kv => if kv.1 = k then (kv.1, v) else kv) else kvs ++ [(k, v)]
def mergeD (kvs more : List (κ × α)) : List (κ × α) := more.foldl (fun acc kv => putD acc kv.1 kv.2) kvs
def valD (kvs : List (κ × α)) (k : κ) : Option α := (kvs.find? fun kv => decide (kv.1 = k)).map (·.2)
end
section
variable {K : PySem.W.Frag} {F : Hp}
theorem RepK.any {k : Key} : ∀ {kvs : List (Key × V)} {kds : List (Key × D)}, RepK K F kvs kds → (kvs.any fun kv => decide (kv.1 = k)) = kds.any fun kv => decide (kv.1 = k)
  | _, _, .nil => rfl
  | _, _, .cons _ r => by rw [List.any_cons, List.any_cons, RepK.any r]
theorem RepK.append : ∀ {vs ws : List (Key × V)} {ds es : List (Key × D)}, RepK K F vs ds → RepK K F ws es → RepK K F (vs ++ ws) (ds ++ es)
  | _, _, _, _, .nil, s => s
  | _, _, _, _, .cons h r, s => .cons h (RepK.append r s)
theorem RepK.mapSet {k : Key} {v : V} {d : D} (p : Rep K F v d) : ∀ {kvs : List (Key × V)} {kds : List (Key × D)}, RepK K F kvs kds → RepK K F (kvs.map fun kv => if kv.1 = k then (kv.1, v) else kv) (kds.map fun kv => if kv.1 = k then (kv.1, d) else kv)
  | _, _, .nil => .nil
  | _, _, .cons (k := k') h r => by
    rw [List.map_cons, List.map_cons]
    show RepK K F ((if k' = k then (k', v) else _) :: _) ((if k' = k then (k', d) else _) :: _)
    by_cases e : k' = k
    · rw [if_pos e, if_pos e]; exact .cons p (RepK.mapSet p r)
    · rw [if_neg e, if_neg e]; exact .cons h (RepK.mapSet p r)
theorem RepK.put {k : Key} {v : V} {d : D} (p : Rep K F v d) {kvs : List (Key × V)} {kds : List (Key × D)} (r : RepK K F kvs kds) : RepK K F (putK kvs k v) (putD kds k d) := by
  unfold putK putD
  rw [r.any]
  split
  · exact r.mapSet p
  · exact r.append (.cons p .nil)
theorem RepK.merge : ∀ {more : List (Key × V)} {mds : List (Key × D)} {kvs : List (Key × V)} {kds : List (Key × D)}, RepK K F more mds → RepK K F kvs kds → RepK K F (mergeK kvs more) (mergeD kds mds)
  | _, _, _, _, .nil, r => r
  | (k, v) :: more, (_, d) :: mds, kvs, kds, .cons h m, r => RepK.merge (kvs := putK kvs k v) (kds := putD kds k d) m (RepK.put (k := k) h r)
theorem RepK.val {k : Key} : ∀ {kvs : List (Key × V)} {kds : List (Key × D)}, RepK K F kvs kds → (valV kvs k = none ∧ valD kds k = none) ∨ ∃ v d, valV kvs k = some v ∧ valD kds k = some d ∧ Rep K F v d
  | _, _, .nil => .inl ⟨rfl, rfl⟩
  | _, _, .cons (k := k') (kvs := kvs) (kds := kds) h r => by
    by_cases e : k' = k
    · exact .inr ⟨_, _, by unfold valV; rw [List.find?_cons]; simp [e], by unfold valD; rw [List.find?_cons]; simp [e], h⟩
    · rcases RepK.val (k := k) r with ⟨a, b⟩ | ⟨v, d, a, b, c⟩
      · refine .inl ⟨?_, ?_⟩
        · unfold valV at a ⊢; rw [List.find?_cons]; simpa [e] using a
        · unfold valD at b ⊢; rw [List.find?_cons]; simpa [e] using b
      · refine .inr ⟨v, d, ?_, ?_, c⟩
        · unfold valV at a ⊢; rw [List.find?_cons]; simpa [e] using a
        · unfold valD at b ⊢; rw [List.find?_cons]; simpa [e] using b
theorem RepK.length : ∀ {vs : List (Key × V)} {ds : List (Key × D)}, RepK K F vs ds → vs.length = ds.length
  | _, _, .nil => rfl
  | _, _, .cons _ r => by rw [List.length_cons, List.length_cons, RepK.length r]
end
/-- pairs of trees -/
inductive RepP (K : PySem.W.Frag) (F : Hp) : List (V × V) → List (D × D) → Prop
  | nil : RepP K F [] []
  | cons {k v : V} {kd d : D} {ps : List (V × V)} {ds : List (D × D)} : Rep K F k kd → Rep K F v d → RepP K F ps ds → RepP K F ((k, v) :: ps) ((kd, d) :: ds)
theorem RepP.keys {K : PySem.W.Frag} {F : Hp} : ∀ {kvs : List (Key × D)} {ps : List (V × V)}, RepP K F ps (kvs.map fun kv => (kD kv.1, kv.2)) → ∃ ws : List (Key × V), ps = ws.map (fun kv => (kV kv.1, kv.2)) ∧ RepK K F ws kvs
  | [], _, h => by cases h; exact ⟨[], rfl, .nil⟩
  | (k, d) :: kvs, _, h => by
    cases h with
    | cons hk hv r =>
      obtain ⟨ws, e, rr⟩ := RepP.keys r
      have ek := Rep.key hk
      subst ek e
      exact ⟨(k, _) :: ws, rfl, .cons hv rr⟩
def WPs (X : Cx) (ρ : Rho) : List (Option Expr) → List Expr → MH → (List (D × D) → MH → Prop) → Prop
  | [], [], M, Q => Q [] M
  | some k :: ks, v :: vs, M, Q => WE X k ρ M fun kd M1 => WE X v ρ M1 fun d M2 => WPs X ρ ks vs M2 fun r M3 => Q ((kd, d) :: r) M3
  | _, _, _, _ => False
def trW (X : Cx) : List (Option Expr) → List Expr → List (TE × TE)
  | some k :: ks, v :: vs => (tWE X k, tWE X v) :: trW X ks vs
  | _, _ => []
def rCatL (K : PySem.W.Frag) : R2 := fun x y H Q => ∃ l b xs zs, x = .ref l ∧ y = .ref b ∧ SqL K H l xs ∧ SqL K H b zs ∧ xs.length + zs.length ≤ sizeLine ∧ ∀ p, H p = none → Q (.ref p) (upd H p (.lst (xs ++ zs)))
theorem op_catL {X : Cx} : OpR X (binaryOp .Add) (rCatL X.K) := by
  intro pins s σ H x y v u Q I rx ry h
  obtain ⟨l, b, xs, zs, rfl, rfl, hH, hB, hz, q⟩ := h
  cases rx
  cases ry
  obtain ⟨its, r, pl, hl⟩ := I.list hH
  obtain ⟨its2, r2, pl2, hl2⟩ := I.list hB
  obtain ⟨⟨cls, dd, data, sl⟩, n, ho, hc, hdd, hd⟩ := pl
  obtain ⟨⟨cls2, dd2, data2, sl2⟩, n2, ho2, hc2, hdd2, hd2⟩ := pl2
  simp only at hc hdd hd hc2 hdd2 hd2
  subst hc hdd hd hc2 hdd2 hd2
  have e1 := r.length
  have e2 := r2.length
  refine concat_meets ⟨_, ho, rfl⟩ ⟨_, ho2, rfl⟩ noFill_list_add seq_list_add F.slot_list_add F.entry_list_add (F.args_list_add_2 _ _) (list_addW l b its.toArray its2.toArray n n2 none none sl sl2 (by simp only [List.size_toArray]; omega)) ⟨ho, ho2, ?_⟩
  have ea : its.toArray ++ its2.toArray = (its ++ its2).toArray := by simp
  rw [ea]
  exact ⟨.ref _, _, I.lnew (t' := s.toks) (r.append r2) (by rw [List.length_append]; omega), rfl, q _ I.fresh⟩
section
variable {X : Cx} {ρ : Rho} {M : MH} {Q : DK} {pos : Pos}
theorem we_dict0 (h : Q (.dk []) M) : WE X (.Dict [] [] pos) ρ M Q :=
  we_of pe_dnewK fun σ Z F H r n p np => by
    obtain ⟨rr, ss⟩ := r.still np (.dK [])
    exact ⟨_, _, M, ss, rr, .dk upd_same .nil, h⟩
theorem we_dict0M (h : ∀ p, M p = none → Q (.ref p) (mup M p (.dK []))) : WE X (.Dict [] [] pos) ρ M Q :=
  we_of pe_dnewK fun σ Z F H r n p np => ⟨.ref p, F, _, .refl F, r.fresh np (.dK .nil), .ref p, h p (r.free np).2⟩
theorem we_dict0T (h : ∀ p, M p = none → Q (.ref p) (mup M p (.dT []))) : WE X (.Dict [] [] pos) ρ M Q :=
  we_of pe_dnewT fun σ Z F H r n p np => ⟨.ref p, F, _, .refl F, r.fresh np (.dT .nil), .ref p, h p (r.free np).2⟩
theorem pps_W : ∀ {ks : List (Option Expr)} {vs : List Expr}, ks.all (·.isSome) = true → ks.length = vs.length → PPs X pos ks vs (trW X ks vs)
  | [], [], _, _ => pps_nil
  | some k :: ks, v :: vs, h, hl => pps_cons pe_W pe_W (pps_W (by simpa using h) (by simpa using hl))
  | none :: _, _, h, _ => by simp at h
  | [], _ :: _, _, hl => by simp at hl
  | some _ :: _, [], _, hl => by simp at hl
theorem wps_run {σ : L2.St} : ∀ {ks : List (Option Expr)} {vs : List Expr} {M : MH} {R : List (D × D) → MH → Prop} {Z F H : Hp} {Qv : List (V × V) → Hp → Prop}, WPs X ρ ks vs M R → Rel X.K Z F H M → REnv X F σ ρ →
    (∀ ps ds F' H' M', Same F F' → Rel X.K Z F' H' M' → RepP X.K F' ps ds → R ds M' → Qv ps H') → tPairs (trW X ks vs) σ H Qv
  | [], [], M, R, Z, F, H, Qv, h, r, n, fin => fin [] [] _ _ _ (.refl _) r .nil h
  | some k :: ks, v :: vs, M, R, Z, F, H, Qv, h, r, n, fin => by
    refine (WE.run h σ Z F H r n).imp fun x H1 ⟨d1, F1, M1, s1, r1, p1, q1⟩ => ?_
    refine (q1.run σ Z F1 H1 r1 (n.mono s1)).imp fun y H2 ⟨d2, F2, M2, s2, r2, p2, q2⟩ => ?_
    refine wps_run q2 r2 (n.mono (s1.trans s2)) fun ps ds F' H' M' s' r' p' q' => ?_
    exact fin _ _ F' H' M' ((s1.trans s2).trans s') r' (.cons (p1.mono (s2.trans s')) (p2.mono s') p') q'
  | none :: _, _, M, R, Z, F, H, Qv, h, r, n, fin => by unfold WPs at h; exact h.elim
  | [], _ :: _, M, R, Z, F, H, Qv, h, r, n, fin => by unfold WPs at h; exact h.elim
  | some _ :: _, [], M, R, Z, F, H, Qv, h, r, n, fin => by unfold WPs at h; exact h.elim
/-- {k: v, ..} that lies still -/
theorem we_dict {ks : List (Option Expr)} {vs : List Expr} (hall : ks.all (·.isSome) = true) (hl : ks.length = vs.length) (h0 : ks ≠ []) (h15 : ks.length ≤ 15)
    (h : WPs X ρ ks vs M fun ds M1 => ∃ kvs : List (Key × D), ds = kvs.map (fun kv => (kD kv.1, kv.2)) ∧ kvs.length ≤ 15 ∧ Q (.dk (mergeD [] kvs)) M1) : WE X (.Dict ks vs pos) ρ M Q := by
  refine we_of (pe_disp (pps_W hall hl) hall hl h0 h15) fun σ Z F H r n p np => ?_
  have zp : Z p = none := by
    cases e : Z p with
    | none => rfl
    | some o => have := (r.fr p o e).2.2; rw [np] at this; cases this
  refine wps_run h (r.hold np (.dK [])) n fun ps ds F' H' M' s' r' p' ⟨kvs, e, h15', q⟩ => ?_
  subst e
  obtain ⟨ws, e, rk⟩ := p'.keys
  subst e
  refine ⟨(r'.fr p _ upd_same).2.2, ws, rfl, by rw [rk.length]; exact h15', ?_⟩
  have r2 := r'.holdSet (.dK (mergeK [] ws))
  exact ⟨_, _, M', s'.trans (r2.holdF zp).2, (r2.holdF zp).1, .dk upd_same ((RepK.merge rk .nil).mono (r2.holdF zp).2), q⟩
/-! ### in, not in: texts -/
theorem inV_strs (x : Str) (ss : List Str) : inV (.str x) (ss.map V.str) = decide (x ∈ ss) := by
  induction ss with
  | nil => rfl
  | cons s ss ih =>
    unfold inV at ih ⊢
    rw [List.map_cons, List.any_cons, ih, Bool.eq_iff_iff, Bool.or_eq_true, decide_eq_true_eq, decide_eq_true_eq, List.mem_cons]
    show (s == x) = true ∨ _ ↔ _
    rw [beq_iff_eq, eq_comm]
theorem flat_strs (ss : List Str) : (ss.map V.str).all flatV = true := by
  rw [List.all_eq_true]
  intro v hv
  obtain ⟨s, _, rfl⟩ := List.mem_map.mp hv
  rfl
theorem op_inStrs {x : Str} {d : D} {ss : List Str} (hd : SeqV M d (ss.map D.str)) (h : Q (.bl (decide (x ∈ ss))) M) : OpD X (compareOp .In) (.str x) d M Q := opd_of op_in_seq fun Z F H v y r p1 p2 => by
  cases p1
  obtain ⟨a, ws, rfl, hq, ra⟩ := hd.at_ r p2
  have e := strs_of ra
  subst e
  exact ⟨a, _, rfl, hq, rfl, flat_strs ss, _, F, M, .refl F, r, .bl _, by rw [if_neg Bool.false_ne_true, inV_strs]; exact h⟩
theorem op_notInStrs {x : Str} {d : D} {ss : List Str} (hd : SeqV M d (ss.map D.str)) (h : Q (.bl (!decide (x ∈ ss))) M) : OpD X (compareOp .NotIn) (.str x) d M Q := opd_of op_notIn_seq fun Z F H v y r p1 p2 => by
  cases p1
  obtain ⟨a, ws, rfl, hq, ra⟩ := hd.at_ r p2
  have e := strs_of ra
  subst e
  exact ⟨a, _, rfl, hq, rfl, flat_strs ss, _, F, M, .refl F, r, .bl _, by rw [if_pos rfl, inV_strs]; exact h⟩
/-! ### xs + ys of lists -/
theorem op_addL {d1 d2 : D} {l1 l2 : List D} (h1 : SeqL M d1 l1) (h2 : SeqL M d2 l2) (hz : l1.length + l2.length ≤ sizeLine) (h : Q (.lst (l1 ++ l2)) M) : OpD X (binaryOp .Add) d1 d2 M Q := by
  refine opd_of op_catL fun Z F H v y r p1 p2 => ?_
  obtain ⟨a, vs, rfl, hq, ra⟩ := h1.at_ r p1
  obtain ⟨b, ws, rfl, hq', ra'⟩ := h2.at_ r p2
  refine ⟨a, b, vs, ws, rfl, rfl, hq, hq', by rw [ra.length, ra'.length]; exact hz, fun p np => ?_⟩
  obtain ⟨rr, ss⟩ := r.still np (.lst (vs ++ ws))
  exact ⟨_, _, M, ss, rr, .lst (.of upd_same) ((ra.append ra').mono ss), h⟩
theorem op_addLM {d1 d2 : D} {l1 l2 : List D} (h1 : SeqL M d1 l1) (h2 : SeqL M d2 l2) (hz : l1.length + l2.length ≤ sizeLine) (h : ∀ p, M p = none → Q (.ref p) (mup M p (.lst (l1 ++ l2)))) : OpD X (binaryOp .Add) d1 d2 M Q := by
  refine opd_of op_catL fun Z F H v y r p1 p2 => ?_
  obtain ⟨a, vs, rfl, hq, ra⟩ := h1.at_ r p1
  obtain ⟨b, ws, rfl, hq', ra'⟩ := h2.at_ r p2
  exact ⟨a, b, vs, ws, rfl, rfl, hq, hq', by rw [ra.length, ra'.length]; exact hz, fun p np => ⟨.ref p, F, _, .refl F, r.fresh np (.lst (ra.append ra')), .ref p, h p (r.free np).2⟩⟩
/-- t + u -/
theorem op_addT {l1 l2 : List D} (h0 : l1 ≠ []) (hz : l1.length + l2.length ≤ sizeLine) (h : Q (.tup (l1 ++ l2)) M) : OpD X (binaryOp .Add) (.tup l1) (.tup l2) M Q := by
  refine opd_of op_catT fun Z F H v y r p1 p2 => ?_
  cases p1 with
  | @tup a vs _ hq ra =>
    cases p2 with
    | @tup b ws _ hq' ra' =>
      refine ⟨a, b, vs, ws, rfl, rfl, Same.sqt r.sub hq, Same.sqt r.sub hq', ?_, by rw [ra.length, ra'.length]; exact hz, fun hn => ?_, fun hn p np => ?_⟩
      · intro e; subst e; cases ra; exact h0 rfl
      · subst hn
        cases ra'
        rw [List.append_nil] at h
        exact ⟨_, F, M, .refl F, r, .tup hq ra, h⟩
      · obtain ⟨rr, ss⟩ := r.still np (.tup (vs ++ ws))
        exact ⟨_, _, M, ss, rr, .tup (.of upd_same) ((ra.append ra').mono ss), h⟩
end
end DS
set_option Elab.async false
set_option linter.all false
set_option maxRecDepth 100000
set_option maxHeartbeats 4000000
namespace DS
open PySem PySem.Spec PyProof.Rows L2 TL
theorem len_small {n : Nat} (h : Nat.ble n 1000 = true) : n ≤ sizeLine := by
  have := Nat.le_of_ble_eq_true h
  rw [sizeLine_eq]; omega
theorem bt_isinstance : bootBuiltins "isinstance" = some (.builtin "isinstance") := by decide +kernel
theorem bt_len : bootBuiltins "len" = some (.builtin "len") := by decide +kernel
theorem bt_all : bootBuiltins "all" = some (.builtin "all") := by decide +kernel
theorem bt_any : bootBuiltins "any" = some (.builtin "any") := by decide +kernel
theorem bt_sum : bootBuiltins "sum" = some (.builtin "sum") := by decide +kernel
theorem bt_min : bootBuiltins "min" = some (.builtin "min") := by decide +kernel
theorem bt_max : bootBuiltins "max" = some (.builtin "max") := by decide +kernel
theorem bt_abs : bootBuiltins "abs" = some (.builtin "abs") := by decide +kernel
theorem bt_sorted : bootBuiltins "sorted" = some (.builtin "sorted") := by decide +kernel
theorem bt_divmod : bootBuiltins "divmod" = some (.builtin "divmod") := by decide +kernel
theorem bt_int : bootBuiltins "int" = some (.type "int") := by decide +kernel
theorem bt_str : bootBuiltins "str" = some (.type "str") := by decide +kernel
theorem bt_bool : bootBuiltins "bool" = some (.type "bool") := by decide +kernel
theorem bt_list : bootBuiltins "list" = some (.type "list") := by decide +kernel
theorem bt_tuple : bootBuiltins "tuple" = some (.type "tuple") := by decide +kernel
theorem bt_dict : bootBuiltins "dict" = some (.type "dict") := by decide +kernel
theorem bt_set : bootBuiltins "set" = some (.type "set") := by decide +kernel
theorem bt_range : bootBuiltins "range" = some (.type "range") := by decide +kernel
theorem bt_enumerate : bootBuiltins "enumerate" = some (.type "enumerate") := by decide +kernel
theorem bt_zip : bootBuiltins "zip" = some (.type "zip") := by decide +kernel
theorem bt_reversed : bootBuiltins "reversed" = some (.type "reversed") := by decide +kernel
theorem x_bl {b : Bool} {Q : Bool → Prop} (h : Q b) : ∃ k, D.bl b = D.bl k ∧ Q k := ⟨b, rfl, h⟩
theorem x_int {b : Int} {Q : Int → Prop} (h : Q b) : ∃ k, D.int b = D.int k ∧ Q k := ⟨b, rfl, h⟩
theorem x_small {n : Nat} {Q : Prop} (h : Nat.ble n 1000 = true) (q : Q) : n ≤ sizeLine ∧ Q := ⟨len_small h, q⟩
theorem x_len {n m : Nat} {Q : Prop} (h : n = m) (q : Q) : n = m ∧ Q := ⟨h, q⟩
def D.isInt : D → Bool
  | .int _ => true
  | .bl _ => true
  | _ => false
def D.isBool : D → Bool
  | .bl _ => true
  | _ => false
def D.isStr : D → Bool
  | .str _ => true
  | _ => false
def D.isTup : D → Bool
  | .tup _ => true
  | _ => false
def D.isLst : D → Bool
  | .lst _ => true
  | _ => false
def D.isDict : D → Bool
  | .dk _ => true
  | _ => false
def known : D → Bool
  | .ref _ => false
  | .ty _ => false
  | _ => true
section
variable {X : Cx} {M : MH} {Q : DK} {d : D}
theorem c_isInt (hk : known d = true) (q : Q (.bl d.isInt) M) : CallD X (.builtin "isinstance") [d, .ty "int"] M Q := by
  cases d <;> first | exact Bool.noConfusion hk | exact c_isi (k := true) rfl (by decide +kernel) q | exact c_isi (k := false) rfl (by decide +kernel) q
theorem c_isBool (hk : known d = true) (q : Q (.bl d.isBool) M) : CallD X (.builtin "isinstance") [d, .ty "bool"] M Q := by
  cases d <;> first | exact Bool.noConfusion hk | exact c_isi (k := true) rfl (by decide +kernel) q | exact c_isi (k := false) rfl (by decide +kernel) q
theorem c_isStr (hk : known d = true) (q : Q (.bl d.isStr) M) : CallD X (.builtin "isinstance") [d, .ty "str"] M Q := by
  cases d <;> first | exact Bool.noConfusion hk | exact c_isi (k := true) rfl (by decide +kernel) q | exact c_isi (k := false) rfl (by decide +kernel) q
theorem c_isTup (hk : known d = true) (q : Q (.bl d.isTup) M) : CallD X (.builtin "isinstance") [d, .ty "tuple"] M Q := by
  cases d <;> first | exact Bool.noConfusion hk | exact c_isi (k := true) rfl (by decide +kernel) q | exact c_isi (k := false) rfl (by decide +kernel) q
theorem c_isLst (hk : known d = true) (q : Q (.bl d.isLst) M) : CallD X (.builtin "isinstance") [d, .ty "list"] M Q := by
  cases d <;> first | exact Bool.noConfusion hk | exact c_isi (k := true) rfl (by decide +kernel) q | exact c_isi (k := false) rfl (by decide +kernel) q
theorem c_isDict (hk : known d = true) (q : Q (.bl d.isDict) M) : CallD X (.builtin "isinstance") [d, .ty "dict"] M Q := by
  cases d <;> first | exact Bool.noConfusion hk | exact c_isi (k := true) rfl (by decide +kernel) q | exact c_isi (k := false) rfl (by decide +kernel) q
end
theorem no_tf {C : Prop} (h : true = false) : C := Bool.noConfusion h
theorem no_ft {C : Prop} (h : false = true) : C := Bool.noConfusion h
end DS
set_option Elab.async false
set_option linter.all false
set_option maxRecDepth 100000
set_option maxHeartbeats 4000000

/-! pure evaluation: one value, nothing changed -/
namespace DS
open PySem PySem.Spec PyProof.Rows L2 TL
def PK (M : MH) (d : D) : DK := fun d' M' => d' = d ∧ M' = M
structure EV (X : Cx) (e : Expr) (ρ : Rho) (M : MH) (d : D) : Prop where
  run : WE X e ρ M (PK M d)
structure EA (X : Cx) (es : List Expr) (ρ : Rho) (M : MH) (ds : List D) : Prop where
  run : WA X es ρ M fun ds' M' => ds' = ds ∧ M' = M
structure ET (X : Cx) (e : Expr) (ρ : Rho) (M : MH) (b : Bool) : Prop where
  run : WT X e ρ M fun b' M' => b' = b ∧ M' = M
structure EW (X : Cx) (e : Expr) (ρ : Rho) (M : MH) (b : Bool) : Prop where
  run : WV X e ρ M fun b' M' => b' = b ∧ M' = M
structure EO (X : Cx) (e : Option Expr) (ρ : Rho) (M : MH) (o : Option Int) : Prop where
  run : WO X e ρ M fun b' M' => b' = o ∧ M' = M
structure OpE (X : Cx) (f : Value → Value → Sem Value) (d1 d2 : D) (M : MH) (d : D) : Prop where
  run : ∀ {Q : DK}, Q d M → OpD X f d1 d2 M Q
structure UnE (X : Cx) (f : Value → Sem Value) (d1 : D) (M : MH) (d : D) : Prop where
  run : ∀ {Q : DK}, Q d M → UnD X f d1 M Q
structure IxE (X : Cx) (d1 d2 : D) (M : MH) (d : D) : Prop where
  run : ∀ {Q : DK}, Q d M → IxD X d1 d2 M Q
structure SlE (X : Cx) (d1 : D) (lo hi : Option Int) (M : MH) (d : D) : Prop where
  run : ∀ {Q : DK}, Q d M → SlD X d1 lo hi M Q
structure CE (X : Cx) (f : Value) (ds : List D) (M : MH) (d : D) : Prop where
  run : ∀ {Q : DK}, Q d M → CallD X f ds M Q
structure ME (X : Cx) (id : String) (d1 : D) (ds : List D) (M : MH) (d : D) : Prop where
  run : ∀ {Q : DK}, Q d M → MtD X id d1 ds M Q
/-- a def that only tells: of these arguments that -/
structure SE (S : DSpec) (ds : List D) (M : MH) (d : D) : Prop where
  run : ∀ {Q : DK}, Q d M → S ds M Q
section
variable {X : Cx} {ρ : Rho} {M : MH} {Q : DK} {a b c e o : Expr} {es : List Expr} {pos p apos : Pos} {x name : Str} {d d1 d2 d3 : D} {ds : List D} {id T : String}
theorem EV.we (h : EV X e ρ M d) (q : Q d M) : WE X e ρ M Q := h.run.imp fun d' M' ⟨h1, h2⟩ => by rw [h1, h2]; exact q
theorem EA.wa {Q : List D → MH → Prop} (h : EA X es ρ M ds) (q : Q ds M) : WA X es ρ M Q := h.run.imp fun d' M' ⟨h1, h2⟩ => by rw [h1, h2]; exact q
theorem ET.wt {k : Bool} {Q : Bool → MH → Prop} (h : ET X e ρ M k) (q : Q k M) : WT X e ρ M Q := h.run.imp fun d' M' ⟨h1, h2⟩ => by rw [h1, h2]; exact q
theorem EW.wv {k : Bool} {Q : Bool → MH → Prop} (h : EW X e ρ M k) (q : Q k M) : WV X e ρ M Q := ⟨fun σ Z F H r n => (h.run.run σ Z F H r n).imp fun v H' ⟨F', M', a, b, h1, h2⟩ => by subst h1 h2; exact ⟨F', _, a, b, q⟩⟩
theorem EO.wo {k : Option Int} {Q : Option Int → MH → Prop} (h : EO X (some e) ρ M k) (q : Q k M) : WO X (some e) ρ M Q := ⟨fun σ Z F H r n pins s I => thn ((h.run.run σ Z F H r n) pins s I) fun u s' ⟨o, H', I', ip, F', M', a, b, h1, h2⟩ => by subst h1 h2; exact ⟨_, H', I', ip, F', _, a, b, q⟩⟩
/-! names, constants -/
theorem ev_var {i : Nat} (l : Lk ρ i x d) (hv : Vis X.env.scope x) (hd : (x == ("__debug__" : Str)) = false := by decide) (hcd : (x == ("__classdict__" : Str)) = false := by decide) : EV X (.Name x pos) ρ M d := ⟨we_var l hv ⟨rfl, rfl⟩ hd hcd⟩
theorem ev_int {i j} : EV X (.Constant (.int i) j pos) ρ M (.int i) := ⟨we_int ⟨rfl, rfl⟩⟩
theorem ev_bl {i j} : EV X (.Constant (.bool i) j pos) ρ M (.bl i) := ⟨we_bl ⟨rfl, rfl⟩⟩
theorem ev_non {j} : EV X (.Constant .none j pos) ρ M .non := ⟨we_non ⟨rfl, rfl⟩⟩
theorem ev_str {i j} : EV X (.Constant (.str i) j pos) ρ M (.str i) := ⟨we_str ⟨rfl, rfl⟩⟩
theorem ev_cst {u : Value} (hg : Gl X x) (hm : X.mg x = some u) (k : Cst X.K u d) (hd : (x == ("__debug__" : Str)) = false := by decide) : EV X (.Name x pos) ρ M d := ⟨we_cst hg hm k ⟨rfl, rfl⟩ hd⟩
theorem ev_ty (hg : Gl X x) (hm : X.mg x = none) (hv : bootBuiltins x = some (.type T)) (hn : x ≠ "__name__" := by decide) (hdb : (x == ("__debug__" : Str)) = false := by decide) : EV X (.Name x pos) ρ M (.ty T) := ⟨we_ty hg hm hv ⟨rfl, rfl⟩ hn hdb⟩
/-! operators -/
theorem ev_op {op : Operator} (h1 : EV X a ρ M d1) (h2 : EV X b ρ M d2) (h : OpE X (binaryOp op) d1 d2 M d) : EV X (.BinOp a op b pos) ρ M d := ⟨we_op (h1.we (h2.we (h.run ⟨rfl, rfl⟩)))⟩
theorem ev_un {op : UnaryOp} (h1 : EV X a ρ M d1) (h : UnE X (unaryOp op) d1 M d) : EV X (.UnaryOp op a pos) ρ M d := ⟨we_un (h1.we (h.run ⟨rfl, rfl⟩))⟩
theorem ev_cmp {op : CmpOp} (hm : behindInMarks op b = false) (h1 : EV X a ρ M d1) (h2 : EV X b ρ M d2) (h : OpE X (compareOp op) d1 d2 M d) : EV X (.Compare a [op] [b] pos) ρ M d := ⟨we_cmp hm (h1.we (h2.we (h.run ⟨rfl, rfl⟩)))⟩
theorem ev_chain {op op' : CmpOp} (hm : lastMarks [op, op'] [b, c] = false) {k k' : Bool} (h1 : EV X a ρ M d1) (h2 : EV X b ρ M d2) (h : OpE X (compareOp op) d1 d2 M (.bl k)) (h3 : EV X c ρ M d3) (h' : OpE X (compareOp op') d2 d3 M (.bl k')) :
    EV X (.Compare a [op, op'] [b, c] pos) ρ M (.bl (k && k')) :=
  ⟨we_chain hm (h1.we (h2.we (h.run ⟨k, rfl, by cases k with
    | true => exact br_t (h3.we (h'.run ⟨by rw [Bool.true_and], rfl⟩))
    | false => exact br_f ⟨by rw [Bool.false_and], rfl⟩⟩)))⟩
/-! tests -/
theorem et_truth {k : Bool} (he : ∀ whole, isTrue e X.env whole = (do let v ← whole; standAt e.pos; holding [v] (truthy v))) (h : EV X e ρ M (.bl k)) : ET X e ρ M k := ⟨wt_truth he (h.we ⟨k, rfl, rfl, rfl⟩)⟩
theorem et_not {k : Bool} (h : ET X a ρ M k) : ET X (.UnaryOp .Not a pos) ρ M (!k) := ⟨wt_not (h.wt ⟨rfl, rfl⟩)⟩
theorem et_bool {op : BoolOp} {k : Bool} (h : EW X (.BoolOp op es pos) ρ M k) : ET X (.BoolOp op es pos) ρ M k := ⟨wt_bool h.run⟩
theorem ew_one_and {k : Bool} (h : ET X a ρ M k) : EW X (.BoolOp .And [a] pos) ρ M k := ⟨wv_one_and h.run⟩
theorem ew_one_or {k : Bool} (h : ET X a ρ M k) : EW X (.BoolOp .Or [a] pos) ρ M k := ⟨wv_one_or h.run⟩
theorem ew_and {k k' : Bool} (h : ET X a ρ M k) (h' : k = true → EW X (.BoolOp .And (b :: es) pos) ρ M k') : EW X (.BoolOp .And (a :: b :: es) pos) ρ M (k && k') :=
  ⟨wv_and (h.wt (by cases k with
    | true => exact br_t ((h' rfl).wv ⟨by rw [Bool.true_and], rfl⟩)
    | false => exact br_f ⟨by rw [Bool.false_and], rfl⟩))⟩
theorem ew_or {k k' : Bool} (h : ET X a ρ M k) (h' : k = false → EW X (.BoolOp .Or (b :: es) pos) ρ M k') : EW X (.BoolOp .Or (a :: b :: es) pos) ρ M (k || k') :=
  ⟨wv_or (h.wt (by cases k with
    | false => exact br_f ((h' rfl).wv ⟨by rw [Bool.false_or], rfl⟩)
    | true => exact br_t ⟨by rw [Bool.true_or], rfl⟩))⟩
theorem et_cmp {op : CmpOp} {k : Bool} (hm : behindInMarks op b = false) (h1 : EV X a ρ M d1) (h2 : EV X b ρ M d2) (h : OpE X (compareOp op) d1 d2 M (.bl k)) : ET X (.Compare a [op] [b] pos) ρ M k := ⟨wt_cmp hm (h1.we (h2.we (h.run ⟨k, rfl, rfl, rfl⟩)))⟩
theorem et_chain {op op' : CmpOp} (hm : lastMarks [op, op'] [b, c] = false) {k k' : Bool} (h1 : EV X a ρ M d1) (h2 : EV X b ρ M d2) (h : OpE X (compareOp op) d1 d2 M (.bl k)) (h3 : EV X c ρ M d3) (h' : OpE X (compareOp op') d2 d3 M (.bl k')) :
    ET X (.Compare a [op, op'] [b, c] pos) ρ M (k && k') :=
  ⟨wt_chain hm (h1.we (h2.we (h.run ⟨k, rfl, by cases k with
    | true => exact br_t (h3.we (h'.run ⟨k', rfl, by rw [Bool.true_and], rfl⟩))
    | false => exact br_f ⟨by rw [Bool.false_and], rfl⟩⟩)))⟩
/-! and, or, not, if as values -/
theorem ev_one {op} (h : EV X a ρ M d) : EV X (.BoolOp op [a] pos) ρ M d := ⟨we_one h.run⟩
theorem ev_and {k k' : Bool} (h : EV X a ρ M (.bl k)) (h' : k = true → EV X (.BoolOp .And (b :: es) pos) ρ M (.bl k')) : EV X (.BoolOp .And (a :: b :: es) pos) ρ M (.bl (k && k')) :=
  ⟨we_and (h.we ⟨k, rfl, by cases k with
    | true => exact br_t ((h' rfl).we ⟨by rw [Bool.true_and], rfl⟩)
    | false => exact br_f ⟨by rw [Bool.false_and], rfl⟩⟩)⟩
theorem ev_or {k k' : Bool} (h : EV X a ρ M (.bl k)) (h' : k = false → EV X (.BoolOp .Or (b :: es) pos) ρ M (.bl k')) : EV X (.BoolOp .Or (a :: b :: es) pos) ρ M (.bl (k || k')) :=
  ⟨we_or (h.we ⟨k, rfl, by cases k with
    | false => exact br_f ((h' rfl).we ⟨by rw [Bool.false_or], rfl⟩)
    | true => exact br_t ⟨by rw [Bool.true_or], rfl⟩⟩)⟩
theorem ev_not {k : Bool} (h : EV X a ρ M (.bl k)) : EV X (.UnaryOp .Not a pos) ρ M (.bl (!k)) := ⟨we_not (h.we ⟨k, rfl, rfl, rfl⟩)⟩
theorem ev_if {k : Bool} (h : ET X c ρ M k) (h1 : k = true → EV X a ρ M d1) (h2 : k = false → EV X b ρ M d2) : EV X (.IfExp c a b pos) ρ M (bif k then d1 else d2) :=
  ⟨we_if (h.wt (by cases k with
    | true => exact br_t (h1 rfl).run
    | false => exact br_f (h2 rfl).run))⟩
/-! arguments, displays -/
theorem ea_nil : EA X [] ρ M [] := ⟨wa_nil ⟨rfl, rfl⟩⟩
theorem ea_cons (hs : starEach (e :: es) X.env = (false, eval e X.env) :: starEach es X.env) (h : EV X e ρ M d) (h' : EA X es ρ M ds) : EA X (e :: es) ρ M (d :: ds) := ⟨wa_cons hs (h.we (h'.wa ⟨rfl, rfl⟩))⟩
theorem ev_tup {x1} (h : EA X es ρ M ds) (hl : ds.length ≤ sizeLine) : EV X (.Tuple es x1 pos) ρ M (.tup ds) := ⟨we_tup (h.wa ⟨hl, rfl, rfl⟩)⟩
theorem ev_lst (h : EA X es ρ M ds) (hl : ds.length ≤ sizeLine) : EV X (.List es pos) ρ M (.lst ds) := ⟨we_lst (h.wa ⟨hl, rfl, rfl⟩)⟩
theorem ev_dict0 : EV X (.Dict [] [] pos) ρ M (.dk []) := ⟨we_dict0 ⟨rfl, rfl⟩⟩
/-- the pairs of a display -/
inductive EP (X : Cx) (ρ : Rho) (M : MH) : List (Option Expr) → List Expr → List (D × D) → Prop
  | nil : EP X ρ M [] [] []
  | cons {k v : Expr} {ks : List (Option Expr)} {vs : List Expr} {kd d : D} {r : List (D × D)} : EV X k ρ M kd → EV X v ρ M d → EP X ρ M ks vs r → EP X ρ M (some k :: ks) (v :: vs) ((kd, d) :: r)
theorem EP.wps : ∀ {ks : List (Option Expr)} {vs : List Expr} {r : List (D × D)} {R : List (D × D) → MH → Prop}, EP X ρ M ks vs r → R r M → WPs X ρ ks vs M R
  | _, _, _, _, .nil, q => q
  | _, _, _, _, .cons h1 h2 h3, q => h1.we (h2.we (EP.wps h3 q))
theorem ev_dict {ks : List (Option Expr)} {vs : List Expr} {r : List (D × D)} {kvs : List (Key × D)} (h : EP X ρ M ks vs r) (hall : ks.all (·.isSome) = true) (hl : ks.length = vs.length) (h0 : ks ≠ []) (h15 : ks.length ≤ 15) (hr : r = kvs.map (fun kv => (kD kv.1, kv.2))) (hk : kvs.length ≤ 15) :
    EV X (.Dict ks vs pos) ρ M (.dk (mergeD [] kvs)) := ⟨we_dict hall hl h0 h15 (h.wps ⟨kvs, hr, hk, rfl, rfl⟩)⟩
/-! subscripts, slices -/
theorem ev_ix (hs : PlainIx b) (h1 : EV X a ρ M d1) (h2 : EV X b ρ M d2) (h : IxE X d1 d2 M d) : EV X (.Subscript a b pos) ρ M d := ⟨we_ix hs (h1.we (h2.we (h.run ⟨rfl, rfl⟩)))⟩
theorem eo_none : EO X none ρ M none := ⟨wo_none ⟨rfl, rfl⟩⟩
theorem eo_some {i : Int} (h : EV X e ρ M (.int i)) : EO X (some e) ρ M (some i) := ⟨wo_some (h.we ⟨i, rfl, rfl, rfl⟩)⟩
theorem EO.wo' {o : Option Expr} {k : Option Int} {Q : Option Int → MH → Prop} (h : EO X o ρ M k) (q : Q k M) : WO X o ρ M Q := ⟨fun σ Z F H r n pins s I => thn ((h.run.run σ Z F H r n) pins s I) fun u s' ⟨o, H', I', ip, F', M', a, b, h1, h2⟩ => by subst h1 h2; exact ⟨_, H', I', ip, F', _, a, b, q⟩⟩
theorem ev_slice {lo hi : Option Expr} {l u : Option Int} {p2 : Pos} (h1 : EV X e ρ M d1) (h2 : EO X lo ρ M l) (h3 : EO X hi ρ M u) (h : SlE X d1 l u M d) : EV X (.Subscript e (.Slice lo hi none p2) pos) ρ M d :=
  ⟨we_slice (h1.we (h2.wo' (h3.wo' (h.run ⟨rfl, rfl⟩))))⟩
/-! calls -/
theorem ev_callB (hg : Gl X x) (hm : X.mg x = none) (hv : bootBuiltins x = some (.builtin id)) (he : starEach (e :: es) X.env = (false, eval e X.env) :: starEach es X.env) (hpl : (backTo pos (starEach es X.env)).any (·.1) = false)
    (h1 : EA X (e :: es) ρ M ds) (h : CE X (.builtin id) ds M d) (hn : x ≠ "__name__" := by decide) (hdb : (x == ("__debug__" : Str)) = false := by decide) : EV X (.Call (.Name x p) (e :: es) [] pos) ρ M d := ⟨we_callB hg hm hv he hpl (h1.wa (h.run ⟨rfl, rfl⟩)) hn hdb⟩
theorem ev_callTy (hg : Gl X x) (hm : X.mg x = none) (hv : bootBuiltins x = some (.type T)) (he : starEach (e :: es) X.env = (false, eval e X.env) :: starEach es X.env) (hpl : (backTo pos (starEach es X.env)).any (·.1) = false)
    (h1 : EA X (e :: es) ρ M ds) (h : CE X (.type T) ds M d) (hn : x ≠ "__name__" := by decide) (hdb : (x == ("__debug__" : Str)) = false := by decide) : EV X (.Call (.Name x p) (e :: es) [] pos) ρ M d := ⟨we_callTy hg hm hv he hpl (h1.wa (h.run ⟨rfl, rfl⟩)) hn hdb⟩
theorem ev_call {k n : Nat} {S : DSpec} (f : DFn X.prog X.w X.K X.mg X.base k x n S) (hr : Room k X.A) (hg : Gl X x) (hl : (e :: es).length = n) (he : starEach (e :: es) X.env = (false, eval e X.env) :: starEach es X.env) (hpl : (backTo pos (starEach es X.env)).any (·.1) = false)
    (h1 : EA X (e :: es) ρ M ds) (hn : ds.length = n) (h : SE S ds M d) (hdb : (x == ("__debug__" : Str)) = false := by decide) : EV X (.Call (.Name x p) (e :: es) [] pos) ρ M d := ⟨we_call f hr hg hl he hpl (h1.wa ⟨hn, h.run ⟨rfl, rfl⟩⟩) hdb⟩
theorem ev_call0 {k : Nat} {S : DSpec} (f : DFn X.prog X.w X.K X.mg X.base k x 0 S) (hr : Room k X.A) (hg : Gl X x) (h : SE S [] M d) (hdb : (x == ("__debug__" : Str)) = false := by decide) : EV X (.Call (.Name x p) [] [] pos) ρ M d := ⟨we_call0 f hr hg (h.run ⟨rfl, rfl⟩) hdb⟩
theorem ev_m (pa : PlainAttrs T) (slot : Slot T name id) (hty : typeOf (.builtin id) = pure (.type "method_descriptor"))
    (hbase : attributeBase o name X.env (eval o X.env) = eval o X.env)
    (hfew : ((backTo pos (starEach (e :: es) X.env)).all (fun x => !x.1) && (backToKw pos (keywordEach [] X.env)).all (fun x => x.1.isSome)
      && decide ((e :: es).length + ([] : List Keyword).length + (if ([] : List Keyword).isEmpty then 0 else 1) < 30)) = true)
    (hline : (apos.endLine == pos.line) = true) (hs : starEach (e :: es) X.env = (false, eval e X.env) :: starEach es X.env) (hplain : (backTo pos (starEach es X.env)).any (·.1) = false)
    (h1 : EV X o ρ M d1) (ht : TyD M T d1) (h2 : EA X (e :: es) ρ M ds) (h : ME X id d1 ds M d) : EV X (.Call (.Attribute o name apos) (e :: es) [] pos) ρ M d :=
  ⟨we_m pa slot hty hbase hfew hline hs hplain (h1.we ⟨ht, h2.wa (h.run ⟨rfl, rfl⟩)⟩)⟩
/-! comprehensions: every item one value, nothing changed -/
structure EI (X : Cx) (tg iter : Expr) (ρ : Rho) (M : MH) (xs : List D) : Prop where
  run : ∀ {R : List D → (MH → Prop) → MH → Prop}, (∀ Ok, Ok M → R xs Ok M) → WI X tg iter ρ M R
theorem ei_list {tg : Expr} {xs : List D} (h : EV X e ρ M d) (hd : SeqL M d xs) : EI X tg e ρ M xs := ⟨fun {R} q => wi_list (h.we (by
  cases hd with
  | lst => exact ⟨xs, fun _ => True, .inl ⟨rfl, rfl⟩, q _ trivial⟩
  | mu hm => exact ⟨xs, _, .inr ⟨_, rfl, hm, rfl⟩, q _ hm⟩))⟩
theorem ei_tup {tg : Expr} {xs : List D} (h : EV X e ρ M (.tup xs)) : EI X tg e ρ M xs := ⟨fun {R} q => wi_tup (h.we ⟨xs, rfl, q _ trivial⟩)⟩
theorem ei_str {tg : Expr} {y : Str} (h : EV X e ρ M (.str y)) : EI X tg e ρ M ((tl y).map fun c => .str ⟨#[c]⟩) := ⟨fun {R} q => wi_str (h.we ⟨y, rfl, q _ trivial⟩)⟩
theorem ei_range1 {tg : Expr} {j : Int} (hg : Gl X "range") (hm : X.mg "range" = none) (hs : starEach [a] X.env = [(false, eval a X.env)]) (h : EA X [a] ρ M [.int j]) (h1 : -(2 ^ 62) ≤ j) (h2 : j < 2 ^ 62) : EI X tg (.Call (.Name "range" p) [a] [] pos) ρ M ((List.range j.toNat).map fun i => .int (0 + (i : Nat))) :=
  ⟨fun {R} q => wi_range1 hg hm hs (h.wa ⟨j, rfl, h1, h2, q _ trivial⟩)⟩
theorem ei_range2 {tg : Expr} {i j : Int} (hg : Gl X "range") (hm : X.mg "range" = none) (hs : starEach [a, b] X.env = [(false, eval a X.env), (false, eval b X.env)]) (hs2 : starEach [b] X.env = [(false, eval b X.env)]) (h : EA X [a, b] ρ M [.int i, .int j]) (h1 : -(2 ^ 62) ≤ i ∧ i < 2 ^ 62 ∧ -(2 ^ 62) ≤ j ∧ j < 2 ^ 62) :
    EI X tg (.Call (.Name "range" p) [a, b] [] pos) ρ M ((List.range (j - i).toNat).map fun k => .int (i + (k : Nat))) := ⟨fun {R} q => wi_range2 hg hm hs hs2 (h.wa ⟨i, j, rfl, h1, q _ trivial⟩)⟩
/-- the targets of a comprehension get their items -/
structure EG (X : Cx) (tg : Expr) (is : List Nat) (d : D) (ρ : Rho) (ρ' : Rho) : Prop where
  run : ∀ {M : MH} {R : Rho → MH → Prop}, R ρ' M → WG X tg is d ρ M R
theorem eg_name {i : Nat} {f : D → Rho} (hN : X.N.Nodup) (u : Up ρ i x f) (hx : Loc X.env.scope x) (hf : X.fn x = true ∨ X.env.scope.names.lookup x = some .local) : EG X (.Name x pos) [i] d ρ (f d) := ⟨fun {M R} q => wg_name hN u hx hf q⟩
inductive EGs (X : Cx) : List Expr → List Nat → List D → Rho → Rho → Prop
  | nil {ρ : Rho} : EGs X [] [] [] ρ ρ
  | cons {e : Expr} {es : List Expr} {is js : List Nat} {d : D} {ds : List D} {ρ ρ1 ρ2 : Rho} : (assignEach (e :: es) X.env).map (·.2) = assign e X.env :: (assignEach es X.env).map (·.2) → EG X e is d ρ ρ1 → EGs X es js ds ρ1 ρ2 → EGs X (e :: es) (is ++ js) (d :: ds) ρ ρ2
theorem EGs.wgs : ∀ {es : List Expr} {is : List Nat} {ds : List D} {ρ ρ' : Rho} {M : MH} {R : Rho → MH → Prop}, EGs X es is ds ρ ρ' → R ρ' M → WGs X es is ds ρ M R
  | _, _, _, _, _, _, _, .nil, q => wgs_nil q
  | _, _, _, _, _, _, _, .cons hs h1 h2, q => wgs_cons hs (h1.run (h2.wgs q))
theorem eg_tup {ρ' : Rho} {k : Nat} {is : List Nat} {n : Nat} (hc : X.calm = true) (hn : (assignEach es X.env).length = n) (hst : (assignEach es X.env).findIdx? (·.1) = none) (hl : ds.length = n) (h : EGs X es is ds ρ ρ') : EG X (.Tuple es k pos) is (.tup ds) ρ ρ' := ⟨fun {M R} q => wg_tup hc hn hst hl (h.wgs q)⟩
/-- the tests of a comprehension -/
inductive ETs (X : Cx) : List Expr → Rho → MH → Bool → Prop
  | nil {ρ : Rho} {M : MH} : ETs X [] ρ M true
  | one {c : Expr} {ρ : Rho} {M : MH} {k : Bool} : ET X c ρ M k → ETs X [c] ρ M k
theorem ETs.wts {ifs : List Expr} {k : Bool} {Q : Bool → MH → Prop} (h : ETs X ifs ρ M k) (q : Q k M) : WTs X ifs ρ M Q := by
  cases h with
  | nil => exact wts_nil q
  | one h => exact wts_one (h.wt q)
/-- what a turn gives: f of the item, where it is kept -/
def pick (f : D → Option D) (xs : List D) : List D := xs.filterMap f
theorem comp_pure {elt tg iter : Expr} {ifs : List Expr} {scope : Scope} {ρw : Rho} {is : List Nat} {R : List D → MH → Prop} {xs : List D} {f : D → Option D} {g : D → Rho} {Ok : MH → Prop} (hO : Ok M) (hz : xs.length ≤ sizeLine)
    (hg : ∀ d ∈ xs, Blk X scope fun X' => EG X' tg is d ρw (g d))
    (ht : ∀ d ∈ xs, ∃ k, (Blk X scope fun X' => ETs X' ifs (g d) M k) ∧ (k = true → ∃ y, f d = some y ∧ Blk X scope fun X' => EV X' elt (g d) M y) ∧ (k = false → f d = none))
    (q : R (pick f xs) M) : CompP X elt tg ifs scope is ρw R xs Ok M := by
  refine ⟨hz, fun i acc M' => M' = M ∧ acc = pick f (xs.take i), ⟨rfl, rfl⟩, fun i acc M' h => by rw [h.1]; exact hO, fun i d acc M' hd h => ?_, fun acc M' h => ?_⟩
  · obtain ⟨rfl, rfl⟩ := h
    have hm : d ∈ xs := List.mem_of_getElem? hd
    obtain ⟨k, hk, h1, h2⟩ := ht d hm
    have et : pick f (xs.take (i + 1)) = pick f (xs.take i) ++ (f d).toList := by
      unfold pick
      rw [List.take_add_one, hd, List.filterMap_append]
      congr 1
    intro s H C cl fp
    refine (hg d hm s H C cl fp).run ?_
    intro s H C cl fp
    refine (hk s H C cl fp).wts ?_
    cases k with
    | true =>
      obtain ⟨y, hy, he⟩ := h1 rfl
      refine br_t fun s H C cl fp => (he s H C cl fp).we ⟨rfl, ?_⟩
      rw [et, hy]; rfl
    | false =>
      refine br_f ⟨rfl, ?_⟩
      rw [et, h2 rfl]; simp
  · obtain ⟨rfl, rfl⟩ := h
    rw [List.take_length]
    exact q
theorem ev_comp {elt tg iter : Expr} {ifs : List Expr} {scope : Scope} {own : List (Str × Nat)} {ρw : Rho} {is : List Nat} {xs : List D} {f : D → Option D} {g : D → Rho} (hc : X.calm = true) (hN : X.N.Nodup) (ok : BlkOk X.N X.env.scope scope own) (hs : ∀ x, foldedSetIterable iter X.env x = pure x) (hw : Wis ρ (own.map (·.2)) ρw) (his : ∀ i ∈ is, i ∈ own.map (·.2))
    (hi : EI X tg iter ρ M xs) (hz : xs.length ≤ sizeLine) (hg : ∀ d ∈ xs, Blk X scope fun X' => EG X' tg is d ρw (g d))
    (ht : ∀ d ∈ xs, ∃ k, (Blk X scope fun X' => ETs X' ifs (g d) M k) ∧ (k = true → ∃ y, f d = some y ∧ Blk X scope fun X' => EV X' elt (g d) M y) ∧ (k = false → f d = none)) :
    EV X (.ListComp elt [⟨tg, iter, ifs, 0⟩] scope pos) ρ M (.lst (pick f xs)) := ⟨we_comp hc hN ok hs hw his (hi.run fun Ok hO => comp_pure (iter := iter) hO hz hg ht ⟨rfl, rfl⟩)⟩
/-- .. without tests, over a list that is known as a map -/
theorem ev_map {α : Type} {elt tg iter : Expr} {scope : Scope} {own : List (Str × Nat)} {ρw : Rho} {is : List Nat} {l : List α} {c : α → D} {f : α → D} {g : α → Rho} (hc : X.calm = true) (hN : X.N.Nodup) (ok : BlkOk X.N X.env.scope scope own) (hs : ∀ x, foldedSetIterable iter X.env x = pure x) (hw : Wis ρ (own.map (·.2)) ρw)
    (hi : EI X tg iter ρ M (l.map c)) (hg : ∀ a ∈ l, Blk X scope fun X' => EG X' tg is (c a) ρw (g a)) (his : ∀ i ∈ is, i ∈ own.map (·.2))
    (he : ∀ a ∈ l, Blk X scope fun X' => EV X' elt (g a) M (f a)) (hz : l.length ≤ sizeLine) :
    EV X (.ListComp elt [⟨tg, iter, [], 0⟩] scope pos) ρ M (.lst (l.map f)) := by
  refine ⟨we_comp hc hN ok hs hw his (hi.run fun Ok hO => ⟨by simpa using hz, fun i acc M' => M' = M ∧ acc = (l.take i).map f, ⟨rfl, rfl⟩, fun i acc M' h => by rw [h.1]; exact hO, fun i d acc M' hd h => ?_, fun acc M' h => ?_⟩)⟩
  · obtain ⟨rfl, rfl⟩ := h
    rw [List.getElem?_map] at hd
    obtain ⟨a, ha, rfl⟩ := Option.map_eq_some_iff.mp hd
    have hm : a ∈ l := List.mem_of_getElem? ha
    intro s H C cl fp
    refine (hg a hm s H C cl fp).run ?_
    intro s H C cl fp
    refine wts_nil (br_t fun s H C cl fp => (he a hm s H C cl fp).we ⟨rfl, ?_⟩)
    rw [List.take_add_one, ha, List.map_append]
    rfl
  · obtain ⟨rfl, rfl⟩ := h
    rw [List.length_map, List.take_length]
    exact ⟨rfl, rfl⟩
theorem ev_mapD {elt tg iter : Expr} {scope : Scope} {own : List (Str × Nat)} {ρw : Rho} {is : List Nat} {l : List D} {f : D → D} {g : D → Rho} (hc : X.calm = true) (hN : X.N.Nodup) (ok : BlkOk X.N X.env.scope scope own) (hs : ∀ x, foldedSetIterable iter X.env x = pure x) (hw : Wis ρ (own.map (·.2)) ρw)
    (hi : EI X tg iter ρ M l) (hg : ∀ a ∈ l, Blk X scope fun X' => EG X' tg is a ρw (g a)) (his : ∀ i ∈ is, i ∈ own.map (·.2))
    (he : ∀ a ∈ l, Blk X scope fun X' => EV X' elt (g a) M (f a)) (hz : l.length ≤ sizeLine) :
    EV X (.ListComp elt [⟨tg, iter, [], 0⟩] scope pos) ρ M (.lst (l.map f)) := ev_map (c := fun d => d) hc hN ok hs hw (by rw [List.map_id']; exact hi) hg his he hz
/-- .. with a test: those that are kept -/
theorem ev_filt {α : Type} {elt tg iter : Expr} {ifs : List Expr} {scope : Scope} {own : List (Str × Nat)} {ρw : Rho} {is : List Nat} {l : List α} {c : α → D} {k : α → Bool} {f : α → D} {g : α → Rho} (hc : X.calm = true) (hN : X.N.Nodup) (ok : BlkOk X.N X.env.scope scope own) (hs : ∀ x, foldedSetIterable iter X.env x = pure x) (hw : Wis ρ (own.map (·.2)) ρw)
    (hi : EI X tg iter ρ M (l.map c)) (hg : ∀ a ∈ l, Blk X scope fun X' => EG X' tg is (c a) ρw (g a)) (his : ∀ i ∈ is, i ∈ own.map (·.2))
    (ht : ∀ a ∈ l, Blk X scope fun X' => ETs X' ifs (g a) M (k a)) (he : ∀ a ∈ l, k a = true → Blk X scope fun X' => EV X' elt (g a) M (f a)) (hz : l.length ≤ sizeLine) :
    EV X (.ListComp elt [⟨tg, iter, ifs, 0⟩] scope pos) ρ M (.lst ((l.filter k).map f)) := by
  refine ⟨we_comp hc hN ok hs hw his (hi.run fun Ok hO => ⟨by simpa using hz, fun i acc M' => M' = M ∧ acc = ((l.take i).filter k).map f, ⟨rfl, rfl⟩, fun i acc M' h => by rw [h.1]; exact hO, fun i d acc M' hd h => ?_, fun acc M' h => ?_⟩)⟩
  · obtain ⟨rfl, rfl⟩ := h
    rw [List.getElem?_map] at hd
    obtain ⟨a, ha, rfl⟩ := Option.map_eq_some_iff.mp hd
    have hm : a ∈ l := List.mem_of_getElem? ha
    intro s H C cl fp
    refine (hg a hm s H C cl fp).run ?_
    intro s H C cl fp
    refine (ht a hm s H C cl fp).wts ?_
    have e1 : (l.take (i + 1)).filter k = (l.take i).filter k ++ [a].filter k := by
      rw [List.take_add_one, ha, List.filter_append]
      rfl
    cases hk : k a with
    | true =>
      refine br_t fun s H C cl fp => (he a hm hk s H C cl fp).we ⟨rfl, ?_⟩
      rw [e1, List.map_append, List.filter_cons_of_pos (by exact hk)]
      rfl
    | false =>
      refine br_f ⟨rfl, ?_⟩
      rw [e1, List.map_append, List.filter_cons_of_neg (by rw [hk]; exact Bool.false_ne_true)]
      simp
  · obtain ⟨rfl, rfl⟩ := h
    rw [List.length_map, List.take_length]
    exact ⟨rfl, rfl⟩
/-- what a value is walked as -/
inductive IterV (M : MH) : D → List D → Prop
  | lst {ds : List D} : IterV M (.lst ds) ds
  | tup {ds : List D} : IterV M (.tup ds) ds
  | str {y : Str} : IterV M (.str y) ((tl y).map fun c => .str ⟨#[c]⟩)
  | mu {a : Addr} {ds : List D} : M a = some (.lst ds) → IterV M (.ref a) ds
theorem iterv_bl2 {a b : Bool} : IterV M (.lst [.bl a, .bl b]) ([a, b].map D.bl) := .lst
theorem iterv_lst {ds : List D} : IterV M (.lst ds) (ds.map fun d => d) := by rw [List.map_id']; exact .lst
theorem iterv_tup {ds : List D} : IterV M (.tup ds) (ds.map fun d => d) := by rw [List.map_id']; exact .tup
theorem iterv_mu {a : Addr} {ds : List D} (h : M a = some (.lst ds)) : IterV M (.ref a) (ds.map fun d => d) := by rw [List.map_id']; exact .mu h
theorem ei_any {tg : Expr} {xs : List D} (h : EV X e ρ M d) (v : IterV M d xs) : EI X tg e ρ M xs := by
  cases v with
  | lst => exact ei_list h .lst
  | tup => exact ei_tup h
  | str => exact ei_str h
  | mu hm => exact ei_list h (.mu hm)
section
variable {α : Type} {elt iter : Expr} {ifs : List Expr} {scope : Scope} {p1 p2 p3 : Pos} {n1 n2 n3 : Str} {i1 i2 i3 : Nat} {ρ1 ρ2 ρ3 : Rho} {l : List α} {c c1 c2 c3 : α → D} {f : α → D} {k : α → Bool} {u1 : D → Rho} {u2 u3 : α → D → Rho} {tk : Nat}
/-- [elt for x in l] -/
theorem ev_map1 (hc : X.calm = true) (hN : X.N.Nodup) (hs : ∀ x, foldedSetIterable iter X.env x = pure x) (hw : Wi1 ρ i1 n1 ρ1) (ok : BlkOk X.N X.env.scope scope [(n1, i1)]) (hu : Up ρ1 i1 n1 u1) (hx : Blk X scope fun X' => X'.env.scope.names.lookup n1 = some .local)
    (hi : EI X (.Name n1 p1) iter ρ M (l.map c)) (he : ∀ a ∈ l, Blk X scope fun X' => EV X' elt (u1 (c a)) M (f a)) (hz : l.length ≤ sizeLine) : EV X (.ListComp elt [⟨.Name n1 p1, iter, [], 0⟩] scope pos) ρ M (.lst (l.map f)) :=
  ev_map (own := [(n1, i1)]) hc hN ok hs (.cons .nil hw) hi (fun a _ s H C cl fp => eg_name hN hu (.inl (hx s H C cl fp)) (.inr (hx s H C cl fp))) (fun i h => h) he hz
theorem ev_filt1 (hc : X.calm = true) (hN : X.N.Nodup) (hs : ∀ x, foldedSetIterable iter X.env x = pure x) (hw : Wi1 ρ i1 n1 ρ1) (ok : BlkOk X.N X.env.scope scope [(n1, i1)]) (hu : Up ρ1 i1 n1 u1) (hx : Blk X scope fun X' => X'.env.scope.names.lookup n1 = some .local)
    (hi : EI X (.Name n1 p1) iter ρ M (l.map c)) (ht : ∀ a ∈ l, Blk X scope fun X' => ET X' e (u1 (c a)) M (k a)) (he : ∀ a ∈ l, k a = true → Blk X scope fun X' => EV X' elt (u1 (c a)) M (f a)) (hz : l.length ≤ sizeLine) : EV X (.ListComp elt [⟨.Name n1 p1, iter, [e], 0⟩] scope pos) ρ M (.lst ((l.filter k).map f)) :=
  ev_filt (own := [(n1, i1)]) hc hN ok hs (.cons .nil hw) hi (fun a _ s H C cl fp => eg_name hN hu (.inl (hx s H C cl fp)) (.inr (hx s H C cl fp))) (fun i h => h) (fun a h s H C cl fp => .one (ht a h s H C cl fp)) he hz
/-- [elt for x, y in l] -/
theorem ev_map2 (hc : X.calm = true) (hN : X.N.Nodup) (hs : ∀ x, foldedSetIterable iter X.env x = pure x) (hw1 : Wi1 ρ i2 n2 ρ1) (hw2 : Wi1 ρ1 i1 n1 ρ2) (ok : BlkOk X.N X.env.scope scope [(n1, i1), (n2, i2)]) (hu1 : Up ρ2 i1 n1 u1) (hu2 : ∀ a, Up (u1 (c1 a)) i2 n2 (u2 a))
    (hx : Blk X scope fun X' => X'.env.scope.names.lookup n1 = some .local ∧ X'.env.scope.names.lookup n2 = some .local)
    (hi : EI X (.Tuple [.Name n1 p1, .Name n2 p2] tk p3) iter ρ M (l.map fun a => .tup [c1 a, c2 a])) (he : ∀ a ∈ l, Blk X scope fun X' => EV X' elt (u2 a (c2 a)) M (f a)) (hz : l.length ≤ sizeLine) :
    EV X (.ListComp elt [⟨.Tuple [.Name n1 p1, .Name n2 p2] tk p3, iter, [], 0⟩] scope pos) ρ M (.lst (l.map f)) :=
  ev_map (own := [(n1, i1), (n2, i2)]) hc hN ok hs (.cons (.cons .nil hw1) hw2) hi (fun a _ s H C cl fp => eg_tup hc rfl rfl rfl (.cons rfl (eg_name hN hu1 (.inl (hx s H C cl fp).1) (.inr (hx s H C cl fp).1)) (.cons rfl (eg_name hN (hu2 a) (.inl (hx s H C cl fp).2) (.inr (hx s H C cl fp).2)) .nil))) (fun i h => h) he hz
theorem ev_filt2 (hc : X.calm = true) (hN : X.N.Nodup) (hs : ∀ x, foldedSetIterable iter X.env x = pure x) (hw1 : Wi1 ρ i2 n2 ρ1) (hw2 : Wi1 ρ1 i1 n1 ρ2) (ok : BlkOk X.N X.env.scope scope [(n1, i1), (n2, i2)]) (hu1 : Up ρ2 i1 n1 u1) (hu2 : ∀ a, Up (u1 (c1 a)) i2 n2 (u2 a))
    (hx : Blk X scope fun X' => X'.env.scope.names.lookup n1 = some .local ∧ X'.env.scope.names.lookup n2 = some .local)
    (hi : EI X (.Tuple [.Name n1 p1, .Name n2 p2] tk p3) iter ρ M (l.map fun a => .tup [c1 a, c2 a])) (ht : ∀ a ∈ l, Blk X scope fun X' => ET X' e (u2 a (c2 a)) M (k a)) (he : ∀ a ∈ l, k a = true → Blk X scope fun X' => EV X' elt (u2 a (c2 a)) M (f a)) (hz : l.length ≤ sizeLine) :
    EV X (.ListComp elt [⟨.Tuple [.Name n1 p1, .Name n2 p2] tk p3, iter, [e], 0⟩] scope pos) ρ M (.lst ((l.filter k).map f)) :=
  ev_filt (own := [(n1, i1), (n2, i2)]) hc hN ok hs (.cons (.cons .nil hw1) hw2) hi (fun a _ s H C cl fp => eg_tup hc rfl rfl rfl (.cons rfl (eg_name hN hu1 (.inl (hx s H C cl fp).1) (.inr (hx s H C cl fp).1)) (.cons rfl (eg_name hN (hu2 a) (.inl (hx s H C cl fp).2) (.inr (hx s H C cl fp).2)) .nil))) (fun i h => h) (fun a h s H C cl fp => .one (ht a h s H C cl fp)) he hz
end
end
end DS
set_option Elab.async false
set_option linter.all false
set_option maxRecDepth 100000
set_option maxHeartbeats 4000000

/-! operations, pure -/
namespace DS
open PySem PySem.Spec PyProof.Rows L2 TL
section
variable {X : Cx} {M : MH} {d d1 d2 : D} {ds : List D}
theorem oe_addI {i j : Int} : OpE X (binaryOp .Add) (.int i) (.int j) M (.int (i + j)) := ⟨fun q => op_addI q⟩
theorem oe_subI {i j : Int} : OpE X (binaryOp .Sub) (.int i) (.int j) M (.int (i - j)) := ⟨fun q => op_subI q⟩
theorem oe_mulI {i j : Int} (hc : CMulW i j) : OpE X (binaryOp .Mult) (.int i) (.int j) M (.int (i * j)) := ⟨fun q => op_mulI hc q⟩
theorem oe_mulI' {i j : Int} (hc : CMul i j) : OpE X (binaryOp .Mult) (.int i) (.int j) M (.int (i * j)) := ⟨fun q => op_mulI' hc q⟩
theorem oe_modI {i j : Int} (hc : 0 < j) : OpE X (binaryOp .Mod) (.int i) (.int j) M (.int (i % j)) := ⟨fun q => op_modI hc q⟩
theorem oe_divI {i j : Int} (hc : CDiv i j) : OpE X (binaryOp .FloorDiv) (.int i) (.int j) M (.int (i / j)) := ⟨fun q => op_divI hc q⟩
theorem oe_powI {i j : Int} (hc : CPow i j) : OpE X (binaryOp .Pow) (.int i) (.int j) M (.int (i ^ j.toNat)) := ⟨fun q => op_powI hc q⟩
theorem oe_addS {i j : Str} (hc : i.length + j.length ≤ sizeLine) : OpE X (binaryOp .Add) (.str i) (.str j) M (.str (i ++ j)) := ⟨fun q => op_addS hc q⟩
theorem oe_addL {l1 l2 : List D} (h1 : SeqL M d1 l1) (h2 : SeqL M d2 l2) (hz : l1.length + l2.length ≤ sizeLine) : OpE X (binaryOp .Add) d1 d2 M (.lst (l1 ++ l2)) := ⟨fun q => op_addL h1 h2 hz q⟩
theorem oe_addT {l1 l2 : List D} (h0 : l1 ≠ []) (hz : l1.length + l2.length ≤ sizeLine) : OpE X (binaryOp .Add) (.tup l1) (.tup l2) M (.tup (l1 ++ l2)) := ⟨fun q => op_addT h0 hz q⟩
theorem ue_negI {i : Int} : UnE X (unaryOp .USub) (.int i) M (.int (-i)) := ⟨fun q => un_negI q⟩
theorem oe_ltI {i j : Int} : OpE X (compareOp .Lt) (.int i) (.int j) M (.bl (decide (i < j))) := ⟨fun q => op_ltI q⟩
theorem oe_leI {i j : Int} : OpE X (compareOp .LtE) (.int i) (.int j) M (.bl (decide (i ≤ j))) := ⟨fun q => op_leI q⟩
theorem oe_gtI {i j : Int} : OpE X (compareOp .Gt) (.int i) (.int j) M (.bl (decide (j < i))) := ⟨fun q => op_gtI q⟩
theorem oe_geI {i j : Int} : OpE X (compareOp .GtE) (.int i) (.int j) M (.bl (decide (j ≤ i))) := ⟨fun q => op_geI q⟩
theorem oe_ltS {i j : Str} : OpE X (compareOp .Lt) (.str i) (.str j) M (.bl (decide (tl i < tl j))) := ⟨fun q => op_ltS q⟩
theorem oe_leS {i j : Str} : OpE X (compareOp .LtE) (.str i) (.str j) M (.bl (!decide (tl j < tl i))) := ⟨fun q => op_leS q⟩
theorem oe_gtS {i j : Str} : OpE X (compareOp .Gt) (.str i) (.str j) M (.bl (decide (tl j < tl i))) := ⟨fun q => op_gtS q⟩
theorem oe_eqI {i j : Int} : OpE X (compareOp .Eq) (.int i) (.int j) M (.bl (decide (i = j))) := ⟨fun q => op_eqI q⟩
theorem oe_neI {i j : Int} : OpE X (compareOp .NotEq) (.int i) (.int j) M (.bl (!decide (i = j))) := ⟨fun q => op_neI q⟩
theorem oe_eqS {i j : Str} : OpE X (compareOp .Eq) (.str i) (.str j) M (.bl (decide (i = j))) := ⟨fun q => op_eqS q⟩
theorem oe_neS {i j : Str} : OpE X (compareOp .NotEq) (.str i) (.str j) M (.bl (!decide (i = j))) := ⟨fun q => op_neS q⟩
theorem oe_eqB {i j : Bool} : OpE X (compareOp .Eq) (.bl i) (.bl j) M (.bl (decide (i = j))) := ⟨fun q => op_eqB q⟩
theorem oe_isB {i j : Bool} : OpE X (compareOp .Is) (.bl i) (.bl j) M (.bl (decide (i = j))) := ⟨fun q => op_isB q⟩
theorem oe_isntB {i j : Bool} : OpE X (compareOp .IsNot) (.bl i) (.bl j) M (.bl (!decide (i = j))) := ⟨fun q => op_isntB q⟩
theorem oe_isNn : OpE X (compareOp .Is) d .non M (.bl d.isN) := ⟨fun q => op_isNn q⟩
theorem oe_isntNn : OpE X (compareOp .IsNot) d .non M (.bl (!d.isN)) := ⟨fun q => op_isntNn q⟩
theorem oe_inSg {c : Nat} {j : Str} : OpE X (compareOp .In) (.str ⟨#[c]⟩) (.str j) M (.bl (decide (c ∈ tl j))) := ⟨fun q => op_inSg q⟩
theorem oe_inStrs {x : Str} {ss : List Str} (hd : SeqV M d (ss.map D.str)) : OpE X (compareOp .In) (.str x) d M (.bl (decide (x ∈ ss))) := ⟨fun q => op_inStrs hd q⟩
theorem oe_notInStrs {x : Str} {ss : List Str} (hd : SeqV M d (ss.map D.str)) : OpE X (compareOp .NotIn) (.str x) d M (.bl (!decide (x ∈ ss))) := ⟨fun q => op_notInStrs hd q⟩
theorem oe_eqT {e : D} (hu : X.A.units + 64 < cLine) (h1 : DataOk d) (h2 : DataOk e) : OpE X (compareOp .Eq) d e M (.bl (PyData.eqv (toPy d) (toPy e))) := ⟨fun q => op_eqT hu h1 h2 q⟩
theorem oe_neT {e : D} (hu : X.A.units + 64 < cLine) (h1 : DataOk d) (h2 : DataOk e) : OpE X (compareOp .NotEq) d e M (.bl (!PyData.eqv (toPy d) (toPy e))) := ⟨fun q => op_neT hu h1 h2 q⟩
theorem ix_seqE {d' : D} {i : Int} (hd : SeqV M d ds) (h : atI ds i = some d') : IxE X d (.int i) M d' := ⟨fun q => ix_seqD hd h q⟩
theorem ix_strE {z : Str} {i : Int} {c : Nat} (hl : z.length ≤ sizeLine) (h : atI (tl z) i = some c) : IxE X (.str z) (.int i) M (.str ⟨#[c]⟩) := ⟨fun q => ix_strD hl h q⟩
theorem sl_lstE {lo hi : Option Int} (hd : SeqL M d ds) : SlE X d lo hi M (.lst (cutD ds lo hi)) := ⟨fun q => sl_lstD hd q⟩
theorem sl_tupE {lo hi : Option Int} (hw : ¬ (HT.sIx ds.length 0 lo = 0 ∧ HT.sIx ds.length ds.length hi = ds.length)) : SlE X (.tup ds) lo hi M (.tup (cutD ds lo hi)) := ⟨fun q => sl_tupD hw q⟩
theorem sl_strE {z : Str} {lo hi : Option Int} (hl : z.length ≤ sizeLine) : SlE X (.str z) lo hi M (.str (cutS z lo hi)) := ⟨fun q => sl_strD hl q⟩
theorem ce_isInt (hk : known d = true) : CE X (.builtin "isinstance") [d, .ty "int"] M (.bl d.isInt) := ⟨fun q => c_isInt hk q⟩
theorem ce_isBool (hk : known d = true) : CE X (.builtin "isinstance") [d, .ty "bool"] M (.bl d.isBool) := ⟨fun q => c_isBool hk q⟩
theorem ce_isStr (hk : known d = true) : CE X (.builtin "isinstance") [d, .ty "str"] M (.bl d.isStr) := ⟨fun q => c_isStr hk q⟩
theorem ce_isTup (hk : known d = true) : CE X (.builtin "isinstance") [d, .ty "tuple"] M (.bl d.isTup) := ⟨fun q => c_isTup hk q⟩
theorem ce_isLst (hk : known d = true) : CE X (.builtin "isinstance") [d, .ty "list"] M (.bl d.isLst) := ⟨fun q => c_isLst hk q⟩
theorem ce_isDict (hk : known d = true) : CE X (.builtin "isinstance") [d, .ty "dict"] M (.bl d.isDict) := ⟨fun q => c_isDict hk q⟩
theorem ce_lenV (hd : SeqV M d ds) : CE X (.builtin "len") [d] M (.int ds.length) := ⟨fun q => c_lenV hd q⟩
theorem ce_lenS {z : Str} (hl : z.length ≤ sizeLine) : CE X (.builtin "len") [.str z] M (.int z.length) := ⟨fun q => c_lenS hl q⟩
theorem ce_all {bs : List Bool} (hc : X.calm = true) (hd : SeqL M d (bs.map D.bl)) : CE X (.builtin "all") [d] M (.bl (bs.all fun b => b)) := ⟨fun q => c_all hc hd q⟩
theorem ce_any {bs : List Bool} (hc : X.calm = true) (hd : SeqL M d (bs.map D.bl)) : CE X (.builtin "any") [d] M (.bl (bs.any fun b => b)) := ⟨fun q => c_any hc hd q⟩
theorem ce_allP {α : Type} {l : List α} {p : α → Bool} (hc : X.calm = true) : CE X (.builtin "all") [.lst (l.map fun a => .bl (p a))] M (.bl (l.all p)) := ⟨fun {Q} q => c_all (bs := l.map p) hc (by rw [List.map_map]; exact SeqL.lst) (by rw [List.all_map]; exact q)⟩
theorem ce_anyP {α : Type} {l : List α} {p : α → Bool} (hc : X.calm = true) : CE X (.builtin "any") [.lst (l.map fun a => .bl (p a))] M (.bl (l.any p)) := ⟨fun {Q} q => c_any (bs := l.map p) hc (by rw [List.map_map]; exact SeqL.lst) (by rw [List.any_map]; exact q)⟩
theorem ce_listT (hd : SeqV M d ds) : CE X (.type "list") [d] M (.lst ds) := ⟨fun q => c_listT hd q⟩
theorem ce_tup (hd : SeqL M d ds) : CE X (.type "tuple") [d] M (.tup ds) := ⟨fun q => c_tup hd q⟩
theorem ce_tupT : CE X (.type "tuple") [.tup ds] M (.tup ds) := ⟨fun q => c_tupT q⟩
theorem ce_intB {k : Bool} : CE X (.type "int") [.bl k] M (.int (if k then 1 else 0)) := ⟨fun q => c_intB q⟩
theorem ce_sum {ns : List Int} (hc : X.calm = true) (hd : SeqL M d (ns.map D.int)) : CE X (.builtin "sum") [d] M (.int ns.sum) := ⟨fun q => c_sum hc hd q⟩
theorem ce_abs {i : Int} : CE X (.builtin "abs") [.int i] M (.int (if i < 0 then -i else i)) := ⟨fun q => c_abs q⟩
theorem ce_max2 {i j : Int} (hc : X.calm = true) : CE X (.builtin "max") [.int i, .int j] M (.int (if j > i then j else i)) := ⟨fun q => c_max2 hc q⟩
theorem ce_divmod {i j : Int} (hc : CDiv i j) : CE X (.builtin "divmod") [.int i, .int j] M (.tup [.int (i / j), .int (i % j)]) := ⟨fun q => c_divmod hc q⟩
theorem ce_strI {i : Int} (hc : i.natAbs.log2 < 1920) : CE X (.type "str") [.int i] M (.str (toString i)) := ⟨fun q => c_strI hc q⟩
theorem me_find {a b : Str} : ME X "str.find" (.str a) [.str b] M (.int (Txt.find a b)) := ⟨fun q => m_find q⟩
theorem oe_powI' {i j : Int} (h1 : 0 ≤ j) (h2 : j ≤ 1000000) (h3 : i.natAbs < 2 ^ 64) : OpE X (binaryOp .Pow) (.int i) (.int j) M (.int (i ^ j.toNat)) := oe_powI ⟨h1, h2, h3⟩
theorem oe_divI' {i j : Int} (h1 : 0 < j) (h2 : j < 1073741824) : OpE X (binaryOp .FloorDiv) (.int i) (.int j) M (.int (i / j)) := oe_divI ⟨h1, h2⟩
theorem oe_mulA {i j : Int} (h1 : -(2 ^ 64) < i) (h2 : i < 2 ^ 64) : OpE X (binaryOp .Mult) (.int i) (.int j) M (.int (i * j)) := oe_mulI' (.inl ⟨h1, h2⟩)
theorem oe_mulB {i j : Int} (h1 : -(2 ^ 64) < j) (h2 : j < 2 ^ 64) : OpE X (binaryOp .Mult) (.int i) (.int j) M (.int (i * j)) := oe_mulI' (.inr ⟨h1, h2⟩)
theorem ce_divmod' {i j : Int} (h1 : 0 < j) (h2 : j < 1073741824) : CE X (.builtin "divmod") [.int i, .int j] M (.tup [.int (i / j), .int (i % j)]) := ce_divmod ⟨h1, h2⟩
theorem ce_lenM {α : Type} {l : List α} {f : α → D} : CE X (.builtin "len") [.lst (l.map f)] M (.int l.length) := ⟨fun {Q} q => c_lenV (ds := l.map f) .lst (by rw [List.length_map]; exact q)⟩
theorem ce_lenMT {α : Type} {l : List α} {f : α → D} : CE X (.builtin "len") [.tup (l.map f)] M (.int l.length) := ⟨fun {Q} q => c_lenV (ds := l.map f) .tup (by rw [List.length_map]; exact q)⟩
theorem atI_getD {α : Type} {l : List α} {i : Int} (a : α) (h0 : 0 ≤ i) (h1 : i < l.length) : atI l i = some (l.getD i.toNat a) := by
  obtain ⟨n, rfl⟩ : ∃ n : Nat, i = n := ⟨i.toNat, by omega⟩
  have hn : n < l.length := by omega
  refine atI_nat ?_
  rw [Int.toNat_natCast, List.getD_eq_getElem?_getD, List.getElem?_eq_getElem hn]
  rfl
theorem ixe_ints {ns : List Int} {i : Int} (h0 : 0 ≤ i) (h1 : i < ns.length) : IxE X (.lst (ns.map .int)) (.int i) M (.int (ns.getD i.toNat 0)) := by
  refine ix_seqE .lst ?_
  have h := atI_getD 0 h0 h1
  unfold atI at h ⊢
  rw [List.length_map]
  cases e : ixN ns.length i with
  | none => rw [e] at h; cases h
  | some j =>
    rw [e] at h
    show (ns.map D.int)[j]? = _
    rw [List.getElem?_map]
    rw [show ns[j]? = _ from h]
    rfl
theorem ixe_strs {ns : List Str} {i : Int} (h0 : 0 ≤ i) (h1 : i < ns.length) : IxE X (.lst (ns.map .str)) (.int i) M (.str (ns.getD i.toNat ⟨#[]⟩)) := by
  refine ix_seqE .lst ?_
  have h := atI_getD ⟨#[]⟩ h0 h1
  unfold atI at h ⊢
  rw [List.length_map]
  cases e : ixN ns.length i with
  | none => rw [e] at h; cases h
  | some j =>
    rw [e] at h
    show (ns.map D.str)[j]? = _
    rw [List.getElem?_map]
    rw [show ns[j]? = _ from h]
    rfl
theorem ixe_lst {i : Int} (h0 : 0 ≤ i) (h1 : i < ds.length) : IxE X (.lst ds) (.int i) M (ds.getD i.toNat .non) := ix_seqE .lst (atI_getD .non h0 h1)
theorem ixe_tup {i : Int} (h0 : 0 ≤ i) (h1 : i < ds.length) : IxE X (.tup ds) (.int i) M (ds.getD i.toNat .non) := ix_seqE .tup (atI_getD .non h0 h1)
theorem ixe_str {z : Str} {i : Int} (hl : z.length ≤ sizeLine) (h0 : 0 ≤ i) (h1 : i < z.length) : IxE X (.str z) (.int i) M (.str ⟨#[(tl z).getD i.toNat 0]⟩) := ix_strE hl (atI_getD 0 h0 (by rw [← len_tl]; exact h1))
theorem oe_neB2 {a b c e : Bool} (hu : X.A.units + 64 < cLine) : OpE X (compareOp .NotEq) (.lst [.bl a, .bl b]) (.lst [.bl c, .bl e]) M (.bl (!(a == c && b == e))) := by
  have h := oe_neT (X := X) (M := M) (d := .lst [.bl a, .bl b]) (e := .lst [.bl c, .bl e]) hu ⟨rfl, rfl⟩ ⟨rfl, rfl⟩
  rw [show PyData.eqv (toPy (.lst [.bl a, .bl b])) (toPy (.lst [.bl c, .bl e])) = (a == c && (b == e && true)) from rfl, Bool.and_true] at h
  exact h
theorem ixe_b2s {k : Bool} {x y : Str} : IxE X (.lst [.str x, .str y]) (.int (if k then 1 else 0)) M (.str (bif k then y else x)) := by
  cases k
  · exact ix_seqE .lst rfl
  · exact ix_seqE .lst rfl
theorem ixe_b2 {k : Bool} {x y : D} : IxE X (.lst [x, y]) (.int (if k then 1 else 0)) M (bif k then y else x) := by
  cases k
  · exact ix_seqE .lst rfl
  · exact ix_seqE .lst rfl
end
theorem ev_dict1s {X : Cx} {ρ : Rho} {M : MH} {pos : Pos} {k v : Expr} {x : Str} {d : D} (h1 : EV X k ρ M (.str x)) (h2 : EV X v ρ M d) : EV X (.Dict [some k] [v] pos) ρ M (.dk [(.inr x, d)]) :=
  ev_dict (kvs := [(.inr x, d)]) (.cons h1 h2 .nil) rfl rfl (by simp) (by simp) rfl (by simp)
theorem getD_all {α : Type} {p : α → Prop} {l : List α} {i : Nat} {a : α} (h : ∀ d ∈ l, p d) (ha : p a) : p (l.getD i a) := by
  rw [List.getD_eq_getElem?_getD]
  cases e : l[i]? with
  | none => exact ha
  | some d => exact h d (List.mem_of_getElem? e)
/-! statements with pure parts -/
section
variable {X : Cx} {ρ : Rho} {M : MH} {a b c e : Expr} {es : List Expr} {pos : Pos} {x : Str} {d : D} {nx bk ct : Rho → MH → Prop} {rt : DK}
theorem wp_ret (h : EV X e ρ M d) (q : rt d M) : WS X (.Return (some e) pos) ρ M ⟨nx, rt, bk, ct⟩ := ws_ret (h.we q)
theorem wp_if {s1 s2 : List Stmt} {k : Bool} {E : DE} (h : ET X c ρ M k) (q : Br k (WSs X s1 ρ M E) (WSs X s2 ρ M E)) : WS X (.If c s1 s2 pos) ρ M E := ws_if (h.wt q)
theorem wp_set {i : Nat} {f : D → Rho} {pos' : Pos} (hN : X.N.Nodup) (u : Up ρ i x f) (hx : Loc X.env.scope x) (hs : swapsWith e (some (.Name x pos')) pos.line X.env = pure false) (hf : X.fn x = true ∨ X.env.scope.names.lookup x = some .local)
    (h : EV X e ρ M d) (q : nx (f d) M) : WS X (.Assign [.Name x pos'] e pos) ρ M ⟨nx, rt, bk, ct⟩ := ws_set hN u hx hs hf (h.we q)
/-- for x in .. : nothing spoken of is changed -/
theorem wp_for {α : Type} {tg iter : Expr} {body : List Stmt} {l : List α} {c : α → D} (is : List Nat) (Pv : Nat → Rho → Prop) (hp : PassesOwn (model X.prog X.w) X.A X.env X.xe) (hc : X.calm = true) (hs : ∀ x, foldedSetIterable iter X.env x = pure x)
    (hi : EI X tg iter ρ M (l.map c)) (h0 : Pv 0 ρ)
    (step : ∀ n a ρ', l[n]? = some a → Pv n ρ' → WG X tg is (c a) ρ' M fun ρ2 M2 => WSs X body ρ2 M2 ⟨fun ρ3 M3 => M3 = M ∧ Pv (n + 1) ρ3, rt, nx, fun ρ3 M3 => M3 = M ∧ Pv (n + 1) ρ3⟩)
    (fin : ∀ ρ', Pv l.length ρ' → nx ρ' M) : WS X (.For tg iter body [] pos) ρ M ⟨nx, rt, bk, ct⟩ :=
  ws_for (is := is) hp hc hs (hi.run fun Ok hok => ⟨fun n ρ' M' => M' = M ∧ Pv n ρ', ⟨rfl, h0⟩, fun n ρ' M' h => h.1 ▸ hok, fun n d ρ' M' hd h => by
    obtain ⟨rfl, h⟩ := h
    rw [List.getElem?_map] at hd
    obtain ⟨a, ha, rfl⟩ := Option.map_eq_some_iff.mp hd
    exact step n a ρ' ha h, fun ρ' M' h => by
    obtain ⟨rfl, h⟩ := h
    rw [List.length_map] at h
    exact fin ρ' h⟩)
theorem length_one {c : Nat} : Str.length ⟨#[c]⟩ = 1 := rfl
theorem length_cutS {z : Str} {lo hi : Option Int} : (cutS z lo hi).length ≤ z.length := cutS_length z lo hi
theorem length_app {a b : Str} : (a ++ b).length = a.length + b.length := PySem.Str.length_append a b
theorem ub_app {a b : Str} {m n : Nat} (h1 : a.length ≤ m) (h2 : b.length ≤ n) : (a ++ b).length ≤ m + n := by
  rw [length_app]; omega
theorem ub_cut {a : Str} {lo hi : Option Int} {m : Nat} (h : a.length ≤ m) : (cutS a lo hi).length ≤ m := Nat.le_trans length_cutS h
theorem ub_one {c : Nat} : Str.length ⟨#[c]⟩ ≤ 1 := Nat.le_refl 1
theorem ub_add {a b m n N : Nat} (h1 : a ≤ m) (h2 : b ≤ n) (h : m + n ≤ N) : a + b ≤ N := by omega
end
end DS
set_option Elab.async false
set_option linter.all false
set_option maxRecDepth 100000
set_option maxHeartbeats 4000000

/-! what the top of the program has written: defs, constants, free names -/
namespace DS
open PySem PySem.Spec PyProof.Rows L2 TL
/-- x names a def of the text, its object still to be read -/
structure Held (K : PySem.W.Frag) (x : Str) (st : Stmt) : Prop where
  ex : ∃ f fd, Fun K x x st f fd ∧ PySem.W.nsIn K mainGlobals x = some (some (.ref f)) ∧ isFn K f
structure HeldC (K : PySem.W.Frag) (x : Str) (d : D) : Prop where
  ex : ∃ v, PySem.W.nsIn K mainGlobals x = some (some v) ∧ Cst K v d
section
variable {K : PySem.W.Frag} {x : Str} {st : Stmt} {f : Addr}
theorem held_mk {od an : Option Addr} {osl : Array (Option Value)} {kV doc pm cdv ct : Value} (a : PySem.W.nsIn K mainGlobals x = some (some (.ref f)))
    (l : K.lookup f = some ⟨.type "function", od, .func (PySem.W.fnOf x x (defArgs st) (defBody st) (defScope st) .none kV doc pm an cdv ct), osl⟩)
    (c : PySem.W.codeIn K cdv x = true) (k : PySem.W.keepIn K (.ref f) = true) : Held K x st := ⟨f, _, fun_mk l c k, a, _, l, rfl⟩
theorem heldc_int {i : Int} {t : Tok} (a : PySem.W.nsIn K mainGlobals x = some (some (.int i t))) : HeldC K x (.int i) := ⟨_, a, .int i t⟩
theorem heldc_str {y : Str} {t : Tok} (a : PySem.W.nsIn K mainGlobals x = some (some (.str y t))) : HeldC K x (.str y) := ⟨_, a, .str y t⟩
def strsB : List Value → List Str → Bool
  | [], [] => true
  | .str y _ :: vs, z :: zs => decide (y = z) && strsB vs zs
  | _, _ => false
theorem strsB_vals : ∀ {us : List Value} {zs : List Str}, strsB us zs = true → Vals (zs.map V.str) us
  | [], [], _ => .nil
  | .str y t :: vs, z :: zs, h => by
    have h2 : decide (y = z) = true ∧ strsB vs zs = true := (Bool.and_eq_true _ _).mp h
    rw [← of_decide_eq_true h2.1]
    exact .cons ⟨t, rfl⟩ (strsB_vals h2.2)
  | [], z :: zs, h => Bool.noConfusion h
  | .str y t :: vs, [], h => Bool.noConfusion h
theorem repAll_strs {F : Hp} : ∀ {zs : List Str}, RepAll K F (zs.map V.str) (zs.map D.str)
  | [] => .nil
  | z :: _ => .cons (.str z) repAll_strs
theorem heldc_strs {od : Option Addr} {its : Array Value} {n : Nat} {sl : Array (Option Value)} {zs : List Str} (a : PySem.W.nsIn K mainGlobals x = some (some (.ref f))) (l : K.lookup f = some ⟨.type "tuple", od, .seq its n, sl⟩)
    (s : strsB its.toList zs = true) (hz : decide (zs.length ≤ sizeLine) = true) : HeldC K x (.tup (zs.map D.str)) :=
  ⟨_, a, .tup l rfl rfl (by rw [← Array.length_toList, ← (strsB_vals s).length, List.length_map]; exact of_decide_eq_true hz) (strsB_vals s) fun _ => repAll_strs⟩
variable {P : Program} {w : World} {mg : Str → Option Value} {base h : Heap} {k n : Nat} {S : DSpec} {ps : List Str}
theorem Held.dfn (H : Held K x st) (X : K.In h) (G : h.Ns mainGlobals mg)
    (b : ∀ (kV doc pm : Value) (an : Option Addr) (cdv ct : Value) (us : List Value), us.length = ps.length → bindArgs (PySem.W.fnOf x x (defArgs st) (defBody st) (defScope st) .none kV doc pm an cdv ct) ⟨us, []⟩ = pure (ps.zip us))
    (ok : ∀ f fd, Fun K x x st f fd → FnOk P w K mg base CX0 k f fd ps (spOf K n S)) : DFn P w K mg base k x n S := by
  obtain ⟨f, fd, F, a, _⟩ := H.ex
  exact ⟨f, fd, ps, ok f fd F, PySem.W.mg_of X G a, F.kp, F.binds b⟩
theorem Held.cst (H : Held K x st) (X : K.In h) (G : h.Ns mainGlobals mg) : ∃ f, mg x = some (.ref f) ∧ Cst K (.ref f) (.fn f) := by
  obtain ⟨f, fd, F, a, i⟩ := H.ex
  exact ⟨f, PySem.W.mg_of X G a, .fn i⟩
theorem HeldC.cst {d : D} (H : HeldC K x d) (X : K.In h) (G : h.Ns mainGlobals mg) : ∃ v, mg x = some v ∧ Cst K v d := by
  obtain ⟨v, a, c⟩ := H.ex
  exact ⟨v, PySem.W.mg_of X G a, c⟩
end
/-- the law's own promise -/
def spLaw1 (S : DSpec) (K : PySem.W.Frag) : Sp := spOf K 1 S
theorem rep_ints {K : PySem.W.Frag} {F : Hp} : ∀ {ns : List Int}, RepAll K F (ns.map V.int) (ns.map D.int)
  | [] => .nil
  | n :: _ => .cons (.int n) rep_ints
/-- the law's first call: the written numbers -/
theorem law_start {K : PySem.W.Frag} {S : DSpec} {H : Hp} {a : Addr} {ns : List Int} (h : SqL K H a (ns.map V.int)) (hs : S [.lst (ns.map .int)] (fun _ => none) fun d _ => d = .bl true) :
    ∀ {E}, spOf K 1 S [.ref a] H (fun v _ => v = .bl true) E := fun {E} =>
  ⟨rfl, fun _ => none, H, fun _ => none, [.lst (ns.map .int)], _, ⟨.refl _, fun _ _ e => (by cases e), fun _ _ e => (by cases e)⟩, .cons (.lst h rep_ints) .nil, hs, fun v H' ⟨d, F', M', _, _, r, q⟩ => by
    subst q
    cases r
    rfl⟩
end DS
set_option Elab.async false
set_option linter.all false
set_option maxRecDepth 100000
set_option maxHeartbeats 4000000

/-! for x in reversed(text) -/
namespace DS
open PySem PySem.Spec PyProof.Rows L2 TL
theorem noRevS : typeLookup (.type "str") "__reversed__" = pure none := by rw [typeLookup_type, builtinLookup_eq_fast]; kernel_rfl
theorem getS : typeLookup (.type "str") "__getitem__" = pure (some (.builtin "str.__getitem__")) := by rw [typeLookup_type, builtinLookup_eq_fast]; kernel_rfl
/-- at `it` stands reversed(u), the next place i -/
def RevOf (h : Heap) (it : Addr) (u : Value) (i : Int) : Prop := ∃ ob, h.get? it = some ob ∧ ob.cls = .type "reversed" ∧ ob.data = .fields #[u, rawInt i]
section
variable {prog : Program} {w : World} {A : Around} {E : Value → Shared → Prop} {s : Shared} {z : Str} {tz : Tok} {it : Addr}
theorem RevOf.ty {u : Value} {i : Int} (k : RevOf s.heap it u i) : s.TypeIs (.ref it) "reversed" := ⟨k.choose, k.choose_spec.1, k.choose_spec.2.1⟩
theorem made_revS {W : Value → Shared → Prop} (hz : z.length ≤ sizeLine) (q : W (.ref s.heap.objs.size) { s with heap := s.heap.push { cls := .type "reversed", data := .fields #[.str z tz, rawInt ((z.length : Int) - 1)] }, toks := s.toks + 1 + 1 }) :
    codeAny (model prog w) A (.call (.builtin "reversed.__new__") ⟨[.type "reversed", .str z tz], []⟩) (wants W E) s := by
  rw [sizeLine_eq] at hz
  refine codeAny_of_tree ?_
  show wpAny (model prog w) A.in1 (do checkBuiltinCall "reversed.__new__" ⟨[.type "reversed", .str z tz], []⟩; again (.builtin "reversed.__new__" ⟨[.type "reversed", .str z tz], []⟩)) _ _ s
  refine wpAny_bind (wpAny_of_eq (F.newCall_reversed_1 (.str z tz)) (wpAny_pure ⟨plainId_quiet F.plain_reversed_new _, codeAny_builtin F.entry_reversed_new ?_⟩))
  rw [Around.under_plainId F.plain_reversed_new _, Builtin.«reversed.__new__»]
  refine wpAny_bind (wpAny_of_eq (newClass_reversed (.str z tz)) ?_)
  refine wpAny_bind (wpAny_of_eq (a := ()) (by first | kernel_rfl | rfl) ?_)
  refine wpAny_bind (wpAny_of_eq (a := ()) (by first | kernel_rfl | rfl) ?_)
  refine wpAny_bind (wpAny_specialOf (typeIs_str s z tz) noRevS ?_)
  try dsimp only
  refine wpAny_bind ?_
  wp_delta
  refine wpAny_bind (wpAny_isInstance (b := false) (T := "str") (U := "dict") (typeIs_str s z tz) F.sub_str_dict ?_)
  try rw [if_neg Bool.false_ne_true]
  try dsimp only
  refine wpAny_bind (wpAny_specialOf (typeIs_str s z tz) getS ?_)
  try dsimp only
  try rw [if_pos (by decide +kernel)]
  refine wpAny_pure ?_
  try dsimp only
  try rw [if_neg (by decide)]
  try dsimp only
  refine wpAny_bind (PySem.P.len_str (by omega) ?_)
  refine wpAny_bind (wpAny_of_eq (a := some ((z.length : Nat) : Int)) rfl ?_)
  try dsimp only
  refine wpAny_bind ?_
  show wpAny _ _ (newObj (.type "reversed") (.fields #[.str z tz, rawInt ((z.length : Int) - 1)])) _ _ _
  exact wpAny_newObj_type (wpAny_pure q)
theorem call_revS {W : Value → Shared → Prop} (hz : z.length ≤ sizeLine) (q : W (.ref s.heap.objs.size) { s with heap := s.heap.push { cls := .type "reversed", data := .fields #[.str z tz, rawInt ((z.length : Int) - 1)] }, toks := s.toks + 1 + 1 }) :
    wpAny (model prog w) A (call (.type "reversed") [.str z tz]) W E s := by
  refine callType_codes (Q₁ := fun r s1 => s1.TypeIs r "reversed" ∧ W r s1) RT.called_rt (F.typeCall_reversed_1 (.str z tz)) F.entry_object_init (made_revS (A := A.in1) hz ⟨⟨_, Heap.get?_push_size _ rfl, rfl⟩, q⟩) fun r s1 hr => ?_
  exact ⟨hr.1, F.args_object_init_2 r _, object_init_meets RT.called_rt.init.lookup RT.called_rt.made (by decide) prog w A.in1 _ s1 ⟨hr.1, rfl, hr.2⟩⟩
theorem next_revS {i : Nat} {c : Nat} {W : Option Value → Shared → Prop} (hz : z.length ≤ sizeLine) (k : RevOf s.heap it (.str z tz) (i : Int)) (hc : z.cps[i]? = some c)
    (q : ∀ h' t t', RevOf h' it (.str z tz) ((i : Int) - 1) → Heap.SameBut it s.heap h' → W (some (.str ⟨#[c]⟩ t)) { s with heap := h', toks := t' }) : wpAny (model prog w) A (pyNext (.ref it)) W E s := by
  obtain ⟨ob, h1, h2, h3⟩ := id k
  have hi : i < z.length := (Array.getElem?_eq_some_iff.mp hc).1
  rw [sizeLine_eq] at hz
  unfold pyNext
  refine wpAny_bind (wpAny_attempt (wpAny_callSpecial?_slot (name := Str.ofString "__next__") k.ty RT.slot_rt_next (wpAny_call_entry RT.slot_rt_next k.ty RT.entry_rt_next ?_ (RT.args_rt_next (.ref it)))))
  rw [Builtin.«reversed.__next__»]
  refine wpAny_bind (wpAny_of_eq (a := (Value.ref it, [])) rfl ?_)
  try dsimp only
  refine wpAny_bind (wpAny_field h1 h3 (x := .str z tz) rfl ?_)
  try dsimp only
  refine wpAny_bind (wpAny_field h1 h3 (x := rawInt (i : Int)) rfl ?_)
  show wpAny (model prog w) _ (if (i : Int) < 0 then _ else _) _ _ s
  rw [if_neg (by omega)]
  try dsimp only
  refine wpAny_bind (wpAny_specialOf (typeIs_str s z tz) getS ?_)
  try dsimp only
  try rw [if_neg (by decide)]
  try dsimp only
  refine wpAny_bind (wpAny_mkInt ?_)
  refine wpAny_bind (wpAny_attempt ?_)
  refine PySem.P.getItem_str (s := { s with toks := s.toks + 1 }) (c := c) ?_ ?_ ?_
  · simp only [Bool.or_eq_false_iff, decide_eq_false_iff_not]; omega
  · rw [seqIndex_of (k := (i : Int)) (n := z.length) (by omega) (by omega)]; exact hc
  · try dsimp only
    refine wpAny_bind (wpAny_field (s := { s with toks := s.toks + 1 + 1 }) h1 h3 (x := rawInt (i : Int)) rfl ?_)
    try dsimp only
    refine wpAny_bind (wpAny_setField (s := { s with toks := s.toks + 1 + 1 }) h1 h3 (by simp) ?_)
    first
    | refine wpAny_pure ⟨_, rfl, wpAny_pure (q _ _ _ ?_ (Heap.SameBut.update ..))⟩
    | refine wpAny_bind (wpAny_pure (wpAny_pure ⟨_, rfl, wpAny_pure (q _ _ _ ?_ (Heap.SameBut.update ..))⟩))
    exact ⟨_, Heap.get?_update_self _ h1 (Obj.isFreed_of_fields (Obj.data_mapFields h3 _)), (Obj.cls_mapFields ..).trans h2, by rw [Obj.data_mapFields h3]; simp⟩
theorem end_revS {u : Value} {W : Option Value → Shared → Prop} (hh : A.handled = none) (k : RevOf s.heap it u (-1)) (q : ∀ h', Heap.ExtBut it s.heap h' → W none { s with heap := h' }) : wpAny (model prog w) A (pyNext (.ref it)) W E s := by
  obtain ⟨ob, h1, h2, h3⟩ := id k
  unfold pyNext
  refine wpAny_bind (wpAny_attempt (wpAny_callSpecial?_slot (name := Str.ofString "__next__") k.ty RT.slot_rt_next (wpAny_call_entry RT.slot_rt_next k.ty RT.entry_rt_next ?_ (RT.args_rt_next (.ref it)))))
  rw [Builtin.«reversed.__next__»]
  refine wpAny_bind (wpAny_of_eq (a := (Value.ref it, [])) rfl ?_)
  try dsimp only
  refine wpAny_bind (wpAny_field h1 h3 (x := u) rfl ?_)
  try dsimp only
  refine wpAny_bind (wpAny_field h1 h3 (x := rawInt (-1)) rfl ?_)
  show wpAny (model prog w) _ (if (-1 : Int) < 0 then _ else _) _ _ s
  rw [if_pos (by decide)]
  try dsimp only
  refine wpAny_bind (wpAny_rule ?_)
  refine wpAny_bind ?_
  wp_delta
  refine wpAny_bind (wpAny_setField h1 h3 (by simp) ?_)
  have h4 := Heap.get?_update_self (Obj.mapFields (·.setIfInBounds 1 (rawInt (-1)))) h1 (Obj.isFreed_of_fields (Obj.data_mapFields h3 _))
  refine wpAny_setField (s := { s with heap := s.heap.update it (Obj.mapFields (·.setIfInBounds 1 (rawInt (-1)))) }) h4 (Obj.data_mapFields h3 _) (by simp) ?_
  try dsimp only
  first
  | (show wpAny (model prog w) _ (newExc (.type "StopIteration") [] >>= _) _ _ _)
  | (refine wpAny_bind ?_; show wpAny (model prog w) _ (newExc (.type "StopIteration") [] >>= _) _ _ _)
  | (refine wpAny_bind ?_; wp_delta; show wpAny (model prog w) _ (newExc (.type "StopIteration") [] >>= _) _ _ _)
  refine wpAny_bind ?_
  simp only [newTuple, newExc]
  refine wpAny_bind (wpAny_newObj_type ?_ (by size_fits))
  refine wpAny_bind (m := firstArgMember _ _) (wpAny_of_eq (a := Value.none) (by first | (simp only [firstArgMember]; rfl) | rfl) ?_)
  refine wpAny_newObj_type ?_ (by size_fits)
  simp only [raiseNew]
  refine wpAny_bind (wpAny_handled ?_)
  first | rw [hh] | rw [show A.in1.handled = none from hh]
  refine wpAny_bind (wpAny_pure (wpAny_throw ?_))
  refine wpAny_bind (wpAny_isInstance (b := true) (T := "StopIteration") ⟨_, Heap.get?_push_size _ rfl, rfl⟩ isSubtype_stop ?_)
  refine wpAny_pure (q _ ?_)
  refine Heap.ExtBut.push (Heap.ExtBut.push ?_ _) _
  intro b ob2 hb e
  exact (Heap.get?_update_other _ _ (Ne.symm hb)).trans ((Heap.get?_update_other _ _ (Ne.symm hb)).trans e)
theorem iter_revS {u : Value} {i : Int} {W : Value → Shared → Prop} (k : RevOf s.heap it u i) (q : W (.ref it) s) : wpAny (model prog w) A (pyIter (.ref it)) W E s := by
  refine wpAny_pyIter_slot k.ty RT.slot_rt_iter (wpAny_call_entry RT.slot_rt_iter k.ty RT.entry_rt_iter ?_ (RT.args_rt_iter (.ref it)))
  show wpAny (model prog w) _ (ret (.ref it)) _ _ s
  exact wpAny_pure ⟨_, rfl, "reversed", _, k.ty, RT.slot_rt_next.lookup, q⟩
end
/-- the signs of z, the last one first -/
def ItvS (z : Str) : It := ⟨fun i _ => i < z.length, fun i H v H' => H' = H ∧ ∃ c, z.cps[z.length - 1 - i]? = some c ∧ v = .str ⟨#[c]⟩, fun i _ => z.length ≤ i⟩
theorem turn_revS {P : Program} {w : World} {K : PySem.W.Frag} {tg : Expr} (it : Addr) (z : Str) (tz : Tok) (hz : z.length ≤ sizeLine) : Turn P w K tg (ItvS z) [it] it (fun i h => i ≤ z.length ∧ RevOf h it (.str z tz) ((z.length : Int) - 1 - (i : Nat))) where
  mem := by simp
  obj := fun i h st b hb => by
    obtain rfl : b = it := by simpa using hb
    obtain ⟨_, ob, h1, h2, h3⟩ := st
    exact ⟨ob, h1, fun v e => by rw [h3] at e; cases e⟩
  keep := fun i h h' st k => ⟨st.1, let ⟨ob, h1, r⟩ := st.2; ⟨ob, k it (by simp) ob h1, r⟩⟩
  item := by
    intro X hP hw hK hc i pins s σ H E I hf st hg
    subst hP hw hK
    obtain ⟨f0, f1, f2, f3, f4, f5⟩ := hf it (by simp)
    obtain ⟨_, k⟩ := st
    have hlt : i < z.length := hg
    rw [show (z.length : Int) - 1 - ((i : Nat) : Int) = ((z.length - 1 - i : Nat) : Int) by omega] at k
    have hlt2 : z.length - 1 - i < z.cps.size := by show _ < z.length; omega
    refine next_revS hz k (Array.getElem?_eq_getElem hlt2) fun h' t t' k' sb => ?_
    rw [show ((z.length - 1 - i : Nat) : Int) - 1 = (z.length : Int) - 1 - ((i + 1 : Nat) : Int) by omega] at k'
    have I1 : Inv X pins σ H { s with heap := h', toks := t' } := I.turned (t' := t') (fun b ob hb e => (sb.2 b hb).trans e) f0 f1 f3 f4 f5
    obtain ⟨ob, h1, h2, h3⟩ := id k'
    exact ⟨_, rfl, go_of (s := { s with heap := h', toks := t' }) h1 h2 h3 (by decide) ⟨.str ⟨#[z.cps[z.length - 1 - i]]⟩, H, I1, ⟨t, rfl⟩, ⟨rfl, _, Array.getElem?_eq_getElem hlt2, rfl⟩, ⟨hlt, k'⟩, fun b hb => (hf b hb).1⟩⟩
  done := by
    intro X hP hw hK hc i pins s σ H E I hf st hg
    subst hP hw hK
    obtain ⟨f0, f1, f2, f3, f4, f5⟩ := hf it (by simp)
    obtain ⟨hle, k⟩ := st
    have hge : z.length ≤ i := hg
    rw [show (z.length : Int) - 1 - ((i : Nat) : Int) = -1 by omega] at k
    exact end_revS (I.ok.hd hc) k fun h' eb => ⟨rfl, I.turned (t' := s.toks) (fun b ob hb e => eb b ob hb e) f0 f1 f3 f4 f5⟩
  self := fun A i s Q E st h => iter_revS st.2 h
def iRevS (te : TE) : TI := fun σ H R => te σ H fun v H1 => ∃ z, v = .str z ∧ z.length ≤ sizeLine ∧ R (ItvS z) H1
theorem pi_revS {X : Cx} {tg e : Expr} {te : TE} {p pos : Pos} (hg : Gl X "reversed") (hm : X.mg "reversed" = none) (he : PE X e te) (hs : starEach [e] X.env = (false, eval e X.env) :: starEach [] X.env) : PI X tg (.Call (.Name "reversed" p) [e] [] pos) (iRevS te) := by
  refine ⟨fun pins s σ H R I h => ?_⟩
  refine Call_ (ld_blt I hg hm PyProof.Rows.boot_reversed (PyProof.Rows.callWith_type1 (args_cons (thn (he.run pins s σ H _ I h) fun u s1 ⟨v, H1, I1, r1, z, e1, hz, q⟩ => args_nil ?_) hs) hs rfl))
  subst e1
  obtain ⟨tz, rfl⟩ := r1
  refine call_revS hz (iter_revS (u := .str z tz) (i := (z.length : Int) - 1) ⟨_, Heap.get?_push_size _ rfl, rfl, rfl⟩ ?_)
  refine pi_one (tk := s1.toks + 1 + 1) I1 _ (turn_revS _ z tz hz) ⟨Nat.zero_le _, ?_⟩ q
  rw [show (z.length : Int) - 1 - ((0 : Nat) : Int) = (z.length : Int) - 1 by omega]
  exact ⟨_, Heap.get?_push_size _ rfl, rfl, rfl⟩
theorem itd_revS {K : PySem.W.Frag} {F : Hp} {z : Str} : ItD K F (ItvS z) (fun _ => True) ((tl z).reverse.map fun c => .str ⟨#[c]⟩) := fun i Z F H M hs hr _ => by
  have hl : ((tl z).reverse.map fun c => D.str ⟨#[c]⟩).length = z.length := by rw [List.length_map, List.length_reverse, ← len_tl]
  have ht : (tl z).length = z.length := (len_tl z).symm
  refine ⟨fun h => by rw [hl] at h; exact h, fun d hd => ?_⟩
  rw [List.getElem?_map] at hd
  obtain ⟨c, hc, rfl⟩ := Option.map_eq_some_iff.mp hd
  have hlt : i < z.length := by
    obtain ⟨h, _⟩ := List.getElem?_eq_some_iff.mp hc
    rw [List.length_reverse, ht] at h
    exact h
  rw [List.getElem?_reverse (by rw [ht]; exact hlt), ht] at hc
  have hc' : z.cps[z.length - 1 - i]? = some c := by
    rw [← hc]
    exact Array.getElem?_toList.symm
  refine ⟨hlt, fun x H' hy => ?_⟩
  obtain ⟨rfl, c2, h2, rfl⟩ := hy
  rw [hc'] at h2
  cases h2
  exact ⟨F, .refl F, hr, .str _⟩
theorem ei_revS {X : Cx} {ρ : Rho} {M : MH} {tg e : Expr} {p pos : Pos} {z : Str} (hg : Gl X "reversed") (hm : X.mg "reversed" = none) (hs : starEach [e] X.env = (false, eval e X.env) :: starEach [] X.env) (h : EV X e ρ M (.str z)) (hz : z.length ≤ sizeLine) :
    EI X tg (.Call (.Name "reversed" p) [e] [] pos) ρ M ((tl z).reverse.map fun c => .str ⟨#[c]⟩) :=
  ⟨fun {R} q => wi_of (pi_revS hg hm pe_W hs) fun σ Z F H r n => (h.run.run σ Z F H r n).imp fun x H1 ⟨d, F1, M1, s1, r1, p1, e1, e2⟩ => by
    subst e1 e2
    cases p1
    exact ⟨z, rfl, hz, F1, M1, _, _, s1, r1, itd_revS, q _ trivial⟩⟩
/-! text.index(sign) -/
theorem m_index {X : Cx} {M : MH} {Q : DK} {a b : Str} (h : 0 ≤ Txt.find a b) (q : Q (.int (Txt.find a b)) M) : MtD X "str.index" (.str a) [.str b] M Q := by
  refine mtd_of mt_sindex fun Z F H x vs r p ra => ?_
  cases p
  cases ra with
  | cons p1 ra =>
    cases ra; cases p1
    unfold Txt.find at h q
    cases ho : Builtin.Str.occurrences a b 0 a.length 1 with
    | nil => rw [ho] at h; exact absurd h (by decide)
    | cons i rest =>
      rw [ho] at q
      exact ⟨a, b, i, rest, rfl, rfl, ho, _, F, M, .refl F, r, .int _, q⟩
theorem me_index {X : Cx} {M : MH} {a b : Str} (h : 0 ≤ Txt.find a b) : ME X "str.index" (.str a) [.str b] M (.int (Txt.find a b)) := ⟨fun q => m_index h q⟩
end DS
set_option Elab.async false
set_option linter.all false
set_option maxRecDepth 100000
set_option maxHeartbeats 4000000

namespace K02
open PySem PySem.Spec PyProof.Rows L2 TL DS
/-! ### the text -/
def topS (i : Nat) : Stmt := PySem.Challenge.pw_shardask_k02_homes.main.body.getD i (.Pass ⟨0, 0, 0, 0⟩)
abbrev s_number_of : Stmt := topS 2
abbrev n_number_of : List Str := ["word", "number", "letter"]
theorem sc_number_of : FnScope n_number_of ["word"] (defScope s_number_of) := ⟨rfl, rfl, rfl, by decide +kernel, rfl, by decide +kernel, by decide +kernel⟩
abbrev s_home : Stmt := topS 3
abbrev n_home : List Str := ["value", "houses"]
theorem sc_home : FnScope n_home ["value", "houses"] (defScope s_home) := ⟨rfl, rfl, rfl, by decide +kernel, rfl, by decide +kernel, by decide +kernel⟩
abbrev s__law_whole : Stmt := topS 5
abbrev n__law_whole : List Str := ["_law_found"]
theorem sc__law_whole : FnScope n__law_whole ["_law_found"] (defScope s__law_whole) := ⟨rfl, rfl, rfl, by decide +kernel, rfl, by decide +kernel, by decide +kernel⟩
abbrev s__law_value : Stmt := topS 6
abbrev n__law_value : List Str := ["_law_cell", "_law_word", "_law_k"]
theorem sc__law_value : FnScope n__law_value ["_law_cell"] (defScope s__law_value) := ⟨rfl, rfl, rfl, by decide +kernel, rfl, by decide +kernel, by decide +kernel⟩
abbrev s__law_number : Stmt := topS 7
abbrev n__law_number : List Str := ["_law_value_here", "_law_number_here", "_law_weight", "_law_letter"]
theorem sc__law_number : FnScope n__law_number ["_law_value_here"] (defScope s__law_number) := ⟨rfl, rfl, rfl, by decide +kernel, rfl, by decide +kernel, by decide +kernel⟩
abbrev s_law : Stmt := topS 8
abbrev n_law : List Str := ["_law_script", "_law_cell", "_law_houses", "_law_value_here", "_law_found"]
theorem sc_law : FnScope n_law ["_law_script"] (defScope s_law) := ⟨rfl, rfl, rfl, by decide +kernel, rfl, by decide +kernel, by decide +kernel⟩
/- builtins: ['bool', 'int', 'isinstance', 'range', 'reversed', 'str']; consts: [('LETTERS', "'abcdefghijklmnopqrstuvwxyz'")]; classes: [] -/
end K02
set_option Elab.async false
set_option linter.all false
set_option maxRecDepth 100000
set_option maxHeartbeats 4000000

namespace K02
open PySem PySem.Spec PyProof.Rows L2 TL DS
/-! the steps -/
set_option hygiene false in
local macro_rules | `(tactic| wtm_at "Dq") => `(tactic| iterate 9 (try ((with_reducible first | change D | change Bool | change Int | change Option Int | change Str | change Type | change Nat | change List _ | change _ → D | change _ → Bool | change _ → List _ | change _ → _ → List _); rotate_left)))
set_option hygiene false in
local macro_rules | `(tactic| wtm_at "Dlk") => `(tactic| with_reducible (first | exact Lk.zero | exact Lk.succ (Lk.zero) | exact Lk.succ (Lk.succ (Lk.zero)) | exact Lk.succ (Lk.succ (Lk.succ (Lk.zero))) | exact Lk.succ (Lk.succ (Lk.succ (Lk.succ (Lk.zero)))) | exact Lk.succ (Lk.succ (Lk.succ (Lk.succ (Lk.succ (Lk.zero))))) | exact Lk.succ (Lk.succ (Lk.succ (Lk.succ (Lk.succ (Lk.succ (Lk.zero)))))) | exact Lk.succ (Lk.succ (Lk.succ (Lk.succ (Lk.succ (Lk.succ (Lk.succ (Lk.zero))))))) | exact Lk.succ (Lk.succ (Lk.succ (Lk.succ (Lk.succ (Lk.succ (Lk.succ (Lk.succ (Lk.zero)))))))) | exact Lk.succ (Lk.succ (Lk.succ (Lk.succ (Lk.succ (Lk.succ (Lk.succ (Lk.succ (Lk.succ (Lk.zero))))))))) | exact Lk.succ (Lk.succ (Lk.succ (Lk.succ (Lk.succ (Lk.succ (Lk.succ (Lk.succ (Lk.succ (Lk.succ (Lk.zero)))))))))) | exact Lk.succ (Lk.succ (Lk.succ (Lk.succ (Lk.succ (Lk.succ (Lk.succ (Lk.succ (Lk.succ (Lk.succ (Lk.succ (Lk.zero))))))))))) | exact Lk.succ (Lk.succ (Lk.succ (Lk.succ (Lk.succ (Lk.succ (Lk.succ (Lk.succ (Lk.succ (Lk.succ (Lk.succ (Lk.succ (Lk.zero)))))))))))) | exact Lk.succ (Lk.succ (Lk.succ (Lk.succ (Lk.succ (Lk.succ (Lk.succ (Lk.succ (Lk.succ (Lk.succ (Lk.succ (Lk.succ (Lk.succ (Lk.zero))))))))))))) | exact Lk.succ (Lk.succ (Lk.succ (Lk.succ (Lk.succ (Lk.succ (Lk.succ (Lk.succ (Lk.succ (Lk.succ (Lk.succ (Lk.succ (Lk.succ (Lk.succ (Lk.zero)))))))))))))) | exact Lk.succ (Lk.succ (Lk.succ (Lk.succ (Lk.succ (Lk.succ (Lk.succ (Lk.succ (Lk.succ (Lk.succ (Lk.succ (Lk.succ (Lk.succ (Lk.succ (Lk.succ (Lk.zero))))))))))))))) | exact Lk.succ (Lk.succ (Lk.succ (Lk.succ (Lk.succ (Lk.succ (Lk.succ (Lk.succ (Lk.succ (Lk.succ (Lk.succ (Lk.succ (Lk.succ (Lk.succ (Lk.succ (Lk.succ (Lk.zero)))))))))))))))) | exact Lk.succ (Lk.succ (Lk.succ (Lk.succ (Lk.succ (Lk.succ (Lk.succ (Lk.succ (Lk.succ (Lk.succ (Lk.succ (Lk.succ (Lk.succ (Lk.succ (Lk.succ (Lk.succ (Lk.succ (Lk.zero))))))))))))))))) | exact Lk.succ (Lk.succ (Lk.succ (Lk.succ (Lk.succ (Lk.succ (Lk.succ (Lk.succ (Lk.succ (Lk.succ (Lk.succ (Lk.succ (Lk.succ (Lk.succ (Lk.succ (Lk.succ (Lk.succ (Lk.succ (Lk.zero)))))))))))))))))) | exact Lk.succ (Lk.succ (Lk.succ (Lk.succ (Lk.succ (Lk.succ (Lk.succ (Lk.succ (Lk.succ (Lk.succ (Lk.succ (Lk.succ (Lk.succ (Lk.succ (Lk.succ (Lk.succ (Lk.succ (Lk.succ (Lk.succ (Lk.zero))))))))))))))))))) | exact Lk.succ (Lk.succ (Lk.succ (Lk.succ (Lk.succ (Lk.succ (Lk.succ (Lk.succ (Lk.succ (Lk.succ (Lk.succ (Lk.succ (Lk.succ (Lk.succ (Lk.succ (Lk.succ (Lk.succ (Lk.succ (Lk.succ (Lk.succ (Lk.zero)))))))))))))))))))) | exact Lk.succ (Lk.succ (Lk.succ (Lk.succ (Lk.succ (Lk.succ (Lk.succ (Lk.succ (Lk.succ (Lk.succ (Lk.succ (Lk.succ (Lk.succ (Lk.succ (Lk.succ (Lk.succ (Lk.succ (Lk.succ (Lk.succ (Lk.succ (Lk.succ (Lk.zero))))))))))))))))))))) | exact Lk.succ (Lk.succ (Lk.succ (Lk.succ (Lk.succ (Lk.succ (Lk.succ (Lk.succ (Lk.succ (Lk.succ (Lk.succ (Lk.succ (Lk.succ (Lk.succ (Lk.succ (Lk.succ (Lk.succ (Lk.succ (Lk.succ (Lk.succ (Lk.succ (Lk.succ (Lk.zero)))))))))))))))))))))) | exact Lk.succ (Lk.succ (Lk.succ (Lk.succ (Lk.succ (Lk.succ (Lk.succ (Lk.succ (Lk.succ (Lk.succ (Lk.succ (Lk.succ (Lk.succ (Lk.succ (Lk.succ (Lk.succ (Lk.succ (Lk.succ (Lk.succ (Lk.succ (Lk.succ (Lk.succ (Lk.succ (Lk.zero))))))))))))))))))))))) | exact Lk.succ (Lk.succ (Lk.succ (Lk.succ (Lk.succ (Lk.succ (Lk.succ (Lk.succ (Lk.succ (Lk.succ (Lk.succ (Lk.succ (Lk.succ (Lk.succ (Lk.succ (Lk.succ (Lk.succ (Lk.succ (Lk.succ (Lk.succ (Lk.succ (Lk.succ (Lk.succ (Lk.succ (Lk.zero)))))))))))))))))))))))) | exact Lk.succ (Lk.succ (Lk.succ (Lk.succ (Lk.succ (Lk.succ (Lk.succ (Lk.succ (Lk.succ (Lk.succ (Lk.succ (Lk.succ (Lk.succ (Lk.succ (Lk.succ (Lk.succ (Lk.succ (Lk.succ (Lk.succ (Lk.succ (Lk.succ (Lk.succ (Lk.succ (Lk.succ (Lk.succ (Lk.zero)))))))))))))))))))))))))))
set_option hygiene false in
local macro_rules | `(tactic| wtm_at "Dup") => `(tactic| with_reducible (first | exact Up.zero | exact Up.succ (Up.zero) | exact Up.succ (Up.succ (Up.zero)) | exact Up.succ (Up.succ (Up.succ (Up.zero))) | exact Up.succ (Up.succ (Up.succ (Up.succ (Up.zero)))) | exact Up.succ (Up.succ (Up.succ (Up.succ (Up.succ (Up.zero))))) | exact Up.succ (Up.succ (Up.succ (Up.succ (Up.succ (Up.succ (Up.zero)))))) | exact Up.succ (Up.succ (Up.succ (Up.succ (Up.succ (Up.succ (Up.succ (Up.zero))))))) | exact Up.succ (Up.succ (Up.succ (Up.succ (Up.succ (Up.succ (Up.succ (Up.succ (Up.zero)))))))) | exact Up.succ (Up.succ (Up.succ (Up.succ (Up.succ (Up.succ (Up.succ (Up.succ (Up.succ (Up.zero))))))))) | exact Up.succ (Up.succ (Up.succ (Up.succ (Up.succ (Up.succ (Up.succ (Up.succ (Up.succ (Up.succ (Up.zero)))))))))) | exact Up.succ (Up.succ (Up.succ (Up.succ (Up.succ (Up.succ (Up.succ (Up.succ (Up.succ (Up.succ (Up.succ (Up.zero))))))))))) | exact Up.succ (Up.succ (Up.succ (Up.succ (Up.succ (Up.succ (Up.succ (Up.succ (Up.succ (Up.succ (Up.succ (Up.succ (Up.zero)))))))))))) | exact Up.succ (Up.succ (Up.succ (Up.succ (Up.succ (Up.succ (Up.succ (Up.succ (Up.succ (Up.succ (Up.succ (Up.succ (Up.succ (Up.zero))))))))))))) | exact Up.succ (Up.succ (Up.succ (Up.succ (Up.succ (Up.succ (Up.succ (Up.succ (Up.succ (Up.succ (Up.succ (Up.succ (Up.succ (Up.succ (Up.zero)))))))))))))) | exact Up.succ (Up.succ (Up.succ (Up.succ (Up.succ (Up.succ (Up.succ (Up.succ (Up.succ (Up.succ (Up.succ (Up.succ (Up.succ (Up.succ (Up.succ (Up.zero))))))))))))))) | exact Up.succ (Up.succ (Up.succ (Up.succ (Up.succ (Up.succ (Up.succ (Up.succ (Up.succ (Up.succ (Up.succ (Up.succ (Up.succ (Up.succ (Up.succ (Up.succ (Up.zero)))))))))))))))) | exact Up.succ (Up.succ (Up.succ (Up.succ (Up.succ (Up.succ (Up.succ (Up.succ (Up.succ (Up.succ (Up.succ (Up.succ (Up.succ (Up.succ (Up.succ (Up.succ (Up.succ (Up.zero))))))))))))))))) | exact Up.succ (Up.succ (Up.succ (Up.succ (Up.succ (Up.succ (Up.succ (Up.succ (Up.succ (Up.succ (Up.succ (Up.succ (Up.succ (Up.succ (Up.succ (Up.succ (Up.succ (Up.succ (Up.zero)))))))))))))))))) | exact Up.succ (Up.succ (Up.succ (Up.succ (Up.succ (Up.succ (Up.succ (Up.succ (Up.succ (Up.succ (Up.succ (Up.succ (Up.succ (Up.succ (Up.succ (Up.succ (Up.succ (Up.succ (Up.succ (Up.zero))))))))))))))))))) | exact Up.succ (Up.succ (Up.succ (Up.succ (Up.succ (Up.succ (Up.succ (Up.succ (Up.succ (Up.succ (Up.succ (Up.succ (Up.succ (Up.succ (Up.succ (Up.succ (Up.succ (Up.succ (Up.succ (Up.succ (Up.zero)))))))))))))))))))) | exact Up.succ (Up.succ (Up.succ (Up.succ (Up.succ (Up.succ (Up.succ (Up.succ (Up.succ (Up.succ (Up.succ (Up.succ (Up.succ (Up.succ (Up.succ (Up.succ (Up.succ (Up.succ (Up.succ (Up.succ (Up.succ (Up.zero))))))))))))))))))))) | exact Up.succ (Up.succ (Up.succ (Up.succ (Up.succ (Up.succ (Up.succ (Up.succ (Up.succ (Up.succ (Up.succ (Up.succ (Up.succ (Up.succ (Up.succ (Up.succ (Up.succ (Up.succ (Up.succ (Up.succ (Up.succ (Up.succ (Up.zero)))))))))))))))))))))) | exact Up.succ (Up.succ (Up.succ (Up.succ (Up.succ (Up.succ (Up.succ (Up.succ (Up.succ (Up.succ (Up.succ (Up.succ (Up.succ (Up.succ (Up.succ (Up.succ (Up.succ (Up.succ (Up.succ (Up.succ (Up.succ (Up.succ (Up.succ (Up.zero))))))))))))))))))))))) | exact Up.succ (Up.succ (Up.succ (Up.succ (Up.succ (Up.succ (Up.succ (Up.succ (Up.succ (Up.succ (Up.succ (Up.succ (Up.succ (Up.succ (Up.succ (Up.succ (Up.succ (Up.succ (Up.succ (Up.succ (Up.succ (Up.succ (Up.succ (Up.succ (Up.zero)))))))))))))))))))))))) | exact Up.succ (Up.succ (Up.succ (Up.succ (Up.succ (Up.succ (Up.succ (Up.succ (Up.succ (Up.succ (Up.succ (Up.succ (Up.succ (Up.succ (Up.succ (Up.succ (Up.succ (Up.succ (Up.succ (Up.succ (Up.succ (Up.succ (Up.succ (Up.succ (Up.succ (Up.zero)))))))))))))))))))))))))))
set_option hygiene false in
local macro_rules | `(tactic| wtm_at "Dwi1") => `(tactic| with_reducible (first | exact Wi1.zero | exact Wi1.succ (Wi1.zero) | exact Wi1.succ (Wi1.succ (Wi1.zero)) | exact Wi1.succ (Wi1.succ (Wi1.succ (Wi1.zero))) | exact Wi1.succ (Wi1.succ (Wi1.succ (Wi1.succ (Wi1.zero)))) | exact Wi1.succ (Wi1.succ (Wi1.succ (Wi1.succ (Wi1.succ (Wi1.zero))))) | exact Wi1.succ (Wi1.succ (Wi1.succ (Wi1.succ (Wi1.succ (Wi1.succ (Wi1.zero)))))) | exact Wi1.succ (Wi1.succ (Wi1.succ (Wi1.succ (Wi1.succ (Wi1.succ (Wi1.succ (Wi1.zero))))))) | exact Wi1.succ (Wi1.succ (Wi1.succ (Wi1.succ (Wi1.succ (Wi1.succ (Wi1.succ (Wi1.succ (Wi1.zero)))))))) | exact Wi1.succ (Wi1.succ (Wi1.succ (Wi1.succ (Wi1.succ (Wi1.succ (Wi1.succ (Wi1.succ (Wi1.succ (Wi1.zero))))))))) | exact Wi1.succ (Wi1.succ (Wi1.succ (Wi1.succ (Wi1.succ (Wi1.succ (Wi1.succ (Wi1.succ (Wi1.succ (Wi1.succ (Wi1.zero)))))))))) | exact Wi1.succ (Wi1.succ (Wi1.succ (Wi1.succ (Wi1.succ (Wi1.succ (Wi1.succ (Wi1.succ (Wi1.succ (Wi1.succ (Wi1.succ (Wi1.zero))))))))))) | exact Wi1.succ (Wi1.succ (Wi1.succ (Wi1.succ (Wi1.succ (Wi1.succ (Wi1.succ (Wi1.succ (Wi1.succ (Wi1.succ (Wi1.succ (Wi1.succ (Wi1.zero)))))))))))) | exact Wi1.succ (Wi1.succ (Wi1.succ (Wi1.succ (Wi1.succ (Wi1.succ (Wi1.succ (Wi1.succ (Wi1.succ (Wi1.succ (Wi1.succ (Wi1.succ (Wi1.succ (Wi1.zero))))))))))))) | exact Wi1.succ (Wi1.succ (Wi1.succ (Wi1.succ (Wi1.succ (Wi1.succ (Wi1.succ (Wi1.succ (Wi1.succ (Wi1.succ (Wi1.succ (Wi1.succ (Wi1.succ (Wi1.succ (Wi1.zero)))))))))))))) | exact Wi1.succ (Wi1.succ (Wi1.succ (Wi1.succ (Wi1.succ (Wi1.succ (Wi1.succ (Wi1.succ (Wi1.succ (Wi1.succ (Wi1.succ (Wi1.succ (Wi1.succ (Wi1.succ (Wi1.succ (Wi1.zero))))))))))))))) | exact Wi1.succ (Wi1.succ (Wi1.succ (Wi1.succ (Wi1.succ (Wi1.succ (Wi1.succ (Wi1.succ (Wi1.succ (Wi1.succ (Wi1.succ (Wi1.succ (Wi1.succ (Wi1.succ (Wi1.succ (Wi1.succ (Wi1.zero)))))))))))))))) | exact Wi1.succ (Wi1.succ (Wi1.succ (Wi1.succ (Wi1.succ (Wi1.succ (Wi1.succ (Wi1.succ (Wi1.succ (Wi1.succ (Wi1.succ (Wi1.succ (Wi1.succ (Wi1.succ (Wi1.succ (Wi1.succ (Wi1.succ (Wi1.zero))))))))))))))))) | exact Wi1.succ (Wi1.succ (Wi1.succ (Wi1.succ (Wi1.succ (Wi1.succ (Wi1.succ (Wi1.succ (Wi1.succ (Wi1.succ (Wi1.succ (Wi1.succ (Wi1.succ (Wi1.succ (Wi1.succ (Wi1.succ (Wi1.succ (Wi1.succ (Wi1.zero)))))))))))))))))) | exact Wi1.succ (Wi1.succ (Wi1.succ (Wi1.succ (Wi1.succ (Wi1.succ (Wi1.succ (Wi1.succ (Wi1.succ (Wi1.succ (Wi1.succ (Wi1.succ (Wi1.succ (Wi1.succ (Wi1.succ (Wi1.succ (Wi1.succ (Wi1.succ (Wi1.succ (Wi1.zero))))))))))))))))))) | exact Wi1.succ (Wi1.succ (Wi1.succ (Wi1.succ (Wi1.succ (Wi1.succ (Wi1.succ (Wi1.succ (Wi1.succ (Wi1.succ (Wi1.succ (Wi1.succ (Wi1.succ (Wi1.succ (Wi1.succ (Wi1.succ (Wi1.succ (Wi1.succ (Wi1.succ (Wi1.succ (Wi1.zero)))))))))))))))))))) | exact Wi1.succ (Wi1.succ (Wi1.succ (Wi1.succ (Wi1.succ (Wi1.succ (Wi1.succ (Wi1.succ (Wi1.succ (Wi1.succ (Wi1.succ (Wi1.succ (Wi1.succ (Wi1.succ (Wi1.succ (Wi1.succ (Wi1.succ (Wi1.succ (Wi1.succ (Wi1.succ (Wi1.succ (Wi1.zero))))))))))))))))))))) | exact Wi1.succ (Wi1.succ (Wi1.succ (Wi1.succ (Wi1.succ (Wi1.succ (Wi1.succ (Wi1.succ (Wi1.succ (Wi1.succ (Wi1.succ (Wi1.succ (Wi1.succ (Wi1.succ (Wi1.succ (Wi1.succ (Wi1.succ (Wi1.succ (Wi1.succ (Wi1.succ (Wi1.succ (Wi1.succ (Wi1.zero)))))))))))))))))))))) | exact Wi1.succ (Wi1.succ (Wi1.succ (Wi1.succ (Wi1.succ (Wi1.succ (Wi1.succ (Wi1.succ (Wi1.succ (Wi1.succ (Wi1.succ (Wi1.succ (Wi1.succ (Wi1.succ (Wi1.succ (Wi1.succ (Wi1.succ (Wi1.succ (Wi1.succ (Wi1.succ (Wi1.succ (Wi1.succ (Wi1.succ (Wi1.zero))))))))))))))))))))))) | exact Wi1.succ (Wi1.succ (Wi1.succ (Wi1.succ (Wi1.succ (Wi1.succ (Wi1.succ (Wi1.succ (Wi1.succ (Wi1.succ (Wi1.succ (Wi1.succ (Wi1.succ (Wi1.succ (Wi1.succ (Wi1.succ (Wi1.succ (Wi1.succ (Wi1.succ (Wi1.succ (Wi1.succ (Wi1.succ (Wi1.succ (Wi1.succ (Wi1.zero)))))))))))))))))))))))) | exact Wi1.succ (Wi1.succ (Wi1.succ (Wi1.succ (Wi1.succ (Wi1.succ (Wi1.succ (Wi1.succ (Wi1.succ (Wi1.succ (Wi1.succ (Wi1.succ (Wi1.succ (Wi1.succ (Wi1.succ (Wi1.succ (Wi1.succ (Wi1.succ (Wi1.succ (Wi1.succ (Wi1.succ (Wi1.succ (Wi1.succ (Wi1.succ (Wi1.succ (Wi1.zero)))))))))))))))))))))))))))
set_option hygiene false in
local macro_rules | `(tactic| wtm_at "Dwis") => `(tactic| with_reducible (first | exact Wis.nil | exact Wis.cons Wis.nil (by wtm_at "Dwi1") | exact Wis.cons (Wis.cons Wis.nil (by wtm_at "Dwi1")) (by wtm_at "Dwi1") | exact Wis.cons (Wis.cons (Wis.cons Wis.nil (by wtm_at "Dwi1")) (by wtm_at "Dwi1")) (by wtm_at "Dwi1")))
set_option hygiene false in
local macro_rules | `(tactic| wtm_at "Dvis") => `(tactic| first | exact Or.inl rfl | exact Or.inr (Or.inl rfl) | exact Or.inr (Or.inr rfl))
set_option hygiene false in
local macro_rules | `(tactic| wtm_at "Dloc") => `(tactic| first | exact Or.inl rfl | exact Or.inr rfl)
set_option hygiene false in
local macro_rules | `(tactic| wtm_at "Drfl") => `(tactic| first | exact rfl | with_unfolding_all exact rfl)
set_option hygiene false in
local macro_rules | `(tactic| wtm_at "Ddec") => `(tactic| decide +kernel)
set_option hygiene false in
local macro_rules | `(tactic| wtm_at "Dlf") => `(tactic| exact Or.inl rfl)
set_option hygiene false in
local macro_rules | `(tactic| wtm_at "Dub") => `(tactic| (fail_if_success (with_reducible change Str.length (cutS (⟨#[54321]⟩ : Str) none none) ≤ _)); with_reducible first | exact ub_app (by wtm_at "Dub") (by wtm_at "Dub") | exact ub_cut (by wtm_at "Dub") | exact ub_one | assumption | exact Nat.le_of_eq (by assumption) | exact Nat.le_refl _)
set_option hygiene false in
local macro_rules | `(tactic| wtm_at "Dwl") => `(tactic| first | with_reducible assumption | exact len_small rfl | (simp only [sizeLine_eq] at *; omega) | ((with_reducible refine Nat.le_trans (by wtm_at "Dub") ?_); simp only [sizeLine_eq]; omega) | ((with_reducible refine ub_add (by wtm_at "Dub") (by wtm_at "Dub") ?_); simp only [sizeLine_eq]; omega))
set_option hygiene false in
local macro_rules | `(tactic| wtm_at "Dseqv") => `(tactic| first | (with_reducible exact SeqV.lst) | (with_reducible exact SeqV.tup) | (with_reducible exact SeqV.mu (by with_reducible assumption)))
set_option hygiene false in
local macro_rules | `(tactic| wtm_at "Dseql") => `(tactic| first | (with_reducible exact SeqL.lst) | (with_reducible exact SeqL.mu (by with_reducible assumption)))
set_option hygiene false in
local macro_rules | `(tactic| wtm_at "Dknown") => `(tactic| first | with_reducible assumption | with_unfolding_all exact rfl)
set_option hygiene false in
local macro_rules | `(tactic| wtm_at "Dboot") => `(tactic| with_reducible first | exact bt_isinstance | exact bt_len | exact bt_all | exact bt_any | exact bt_sum | exact bt_min | exact bt_max | exact bt_abs | exact bt_sorted | exact bt_divmod | exact bt_int | exact bt_str | exact bt_bool | exact bt_list | exact bt_tuple | exact bt_dict | exact bt_set | exact bt_range | exact bt_enumerate | exact bt_zip | exact bt_reversed)
set_option hygiene false in
local macro_rules | `(tactic| wtm_at "Dev") => `(tactic| ((with_reducible change EV _ _ _ _ _); first
  | ((with_reducible change EV _ (.Constant _ _ _) _ _ _); first | (exact ev_int) | (exact ev_str) | (exact ev_bl) | (exact ev_non))
  | ((with_reducible change EV _ (.Name _ _) _ _ _); first | (exact ev_var (by wtm_at "Dlk") (by wtm_at "Dvis")) | (exact ev_cst (by wtm_at "Drfl") (by with_reducible assumption) (by with_reducible assumption)) | (exact ev_ty (by wtm_at "Drfl") (by with_reducible assumption) (by wtm_at "Dboot")))
  | ((with_reducible change EV _ (.Call (.Name _ _) (_ :: _) [] _) _ _ _); first | (refine' ev_call (by with_reducible assumption) (Room.mono (by with_reducible assumption) (by decide)) (by wtm_at "Drfl") (by wtm_at "Drfl") (by wtm_at "Drfl") (by wtm_at "Drfl") ?_ ?_ ?_; (wtm_at "Dq")) | (refine' ev_callB (by wtm_at "Drfl") (by with_reducible assumption) (by wtm_at "Dboot") (by wtm_at "Drfl") (by wtm_at "Drfl") ?_ ?_; (wtm_at "Dq")) | (refine' ev_callTy (by wtm_at "Drfl") (by with_reducible assumption) (by wtm_at "Dboot") (by wtm_at "Drfl") (by wtm_at "Drfl") ?_ ?_; (wtm_at "Dq")))
  | ((with_reducible change EV _ (.Call (.Name _ _) [] [] _) _ _ _); refine' ev_call0 (by with_reducible assumption) (Room.mono (by with_reducible assumption) (by decide)) (by wtm_at "Drfl") ?_; (wtm_at "Dq"))
  | ((with_reducible change EV _ (.Call (.Attribute _ _ _) (_ :: _) [] _) _ _ _); first | (refine' ev_m PySem.F.plainAttrs_str PySem.F.slot_str_find PySem.F.type_str_find rfl rfl rfl rfl rfl ?_ ?_ ?_ ?_; (wtm_at "Dq")) | (refine' ev_m PySem.F.plainAttrs_str PySem.F.slot_str_index PySem.F.type_str_index rfl rfl rfl rfl rfl ?_ ?_ ?_ ?_; (wtm_at "Dq")))
  | ((with_reducible change EV _ (.BinOp _ _ _ _) _ _ _); refine' ev_op ?_ ?_ ?_; (wtm_at "Dq"))
  | ((with_reducible change EV _ (.UnaryOp .Not _ _) _ _ _); refine' ev_not ?_; (wtm_at "Dq"))
  | ((with_reducible change EV _ (.UnaryOp _ _ _) _ _ _); refine' ev_un ?_ ?_; (wtm_at "Dq"))
  | ((with_reducible change EV _ (.Compare _ [_] [_] _) _ _ _); refine' ev_cmp (by wtm_at "Drfl") ?_ ?_ ?_; (wtm_at "Dq"))
  | ((with_reducible change EV _ (.Compare _ [_, _] [_, _] _) _ _ _); refine' ev_chain (by wtm_at "Drfl") ?_ ?_ ?_ ?_ ?_; (wtm_at "Dq"))
  | ((with_reducible change EV _ (.BoolOp _ [_] _) _ _ _); refine' ev_one ?_; (wtm_at "Dq"))
  | ((with_reducible change EV _ (.BoolOp .And _ _) _ _ _); refine' ev_and ?_ ?_; (wtm_at "Dq"))
  | ((with_reducible change EV _ (.BoolOp .Or _ _) _ _ _); refine' ev_or ?_ ?_; (wtm_at "Dq"))
  | ((with_reducible change EV _ (.IfExp _ _ _ _) _ _ _); refine' ev_if ?_ ?_ ?_; (wtm_at "Dq"))
  | ((with_reducible change EV _ (.Tuple _ _ _) _ _ _); refine' ev_tup ?_ ?_; (wtm_at "Dq"))
  | ((with_reducible change EV _ (.List _ _) _ _ _); refine' ev_lst ?_ ?_; (wtm_at "Dq"))
  | ((with_reducible change EV _ (.Dict [] [] _) _ _ _); exact ev_dict0)
  | ((with_reducible change EV _ (.Dict [some _] [_] _) _ _ _); refine' ev_dict1s ?_ ?_; (wtm_at "Dq"))
  | ((with_reducible change EV _ (.ListComp _ [⟨.Name _ _, _, [], 0⟩] _ _) _ _ _); refine' ev_map1 rfl (by wtm_at "Dnd") (fun _ => rfl) (by wtm_at "Dwi1") (by wtm_at "Dblk") (by wtm_at "Dup") (fun _ _ _ _ _ => rfl) ?_ ?_ ?_; (wtm_at "Dq"))
  | ((with_reducible change EV _ (.ListComp _ [⟨.Name _ _, _, [_], 0⟩] _ _) _ _ _); refine' ev_filt1 rfl (by wtm_at "Dnd") (fun _ => rfl) (by wtm_at "Dwi1") (by wtm_at "Dblk") (by wtm_at "Dup") (fun _ _ _ _ _ => rfl) ?_ ?_ ?_ ?_; (wtm_at "Dq"))
  | ((with_reducible change EV _ (.ListComp _ [⟨.Tuple [_, _] _ _, _, [], 0⟩] _ _) _ _ _); refine' ev_map2 rfl (by wtm_at "Dnd") (fun _ => rfl) (by wtm_at "Dwi1") (by wtm_at "Dwi1") (by wtm_at "Dblk") (by wtm_at "Dup") (fun _ => by wtm_at "Dup") (fun _ _ _ _ _ => ⟨rfl, rfl⟩) ?_ ?_ ?_; (wtm_at "Dq"))
  | ((with_reducible change EV _ (.ListComp _ [⟨.Tuple [_, _] _ _, _, [_], 0⟩] _ _) _ _ _); refine' ev_filt2 rfl (by wtm_at "Dnd") (fun _ => rfl) (by wtm_at "Dwi1") (by wtm_at "Dwi1") (by wtm_at "Dblk") (by wtm_at "Dup") (fun _ => by wtm_at "Dup") (fun _ _ _ _ _ => ⟨rfl, rfl⟩) ?_ ?_ ?_ ?_; (wtm_at "Dq"))
  | ((with_reducible change EV _ (.Subscript _ (.Slice _ _ none _) _) _ _ _); refine' ev_slice ?_ ?_ ?_ ?_; (wtm_at "Dq"))
  | ((with_reducible change EV _ (.Subscript _ _ _) _ _ _); refine' ev_ix (fun _ _ => rfl) ?_ ?_ ?_; (wtm_at "Dq"))))
set_option hygiene false in
local macro_rules | `(tactic| wtm_at "Det1") => `(tactic| ((with_reducible change ET _ _ _ _ _); first
  | ((with_reducible change ET _ (.UnaryOp .Not _ _) _ _ _); refine' et_not ?_; (wtm_at "Dq"))
  | ((with_reducible change ET _ (.BoolOp _ _ _) _ _ _); refine' et_bool ?_; (wtm_at "Dq"))
  | ((with_reducible change ET _ (.Compare _ [_] [_] _) _ _ _); refine' et_cmp (by wtm_at "Drfl") ?_ ?_ ?_; (wtm_at "Dq"))
  | ((with_reducible change ET _ (.Compare _ [_, _] [_, _] _) _ _ _); refine' et_chain (by wtm_at "Drfl") ?_ ?_ ?_ ?_ ?_; (wtm_at "Dq"))
  | ((with_reducible change ET _ _ _ _ _); refine' et_truth (fun _ => rfl) ?_; (wtm_at "Dq"))))
set_option hygiene false in
local macro_rules | `(tactic| wtm_at "Det2") => `(tactic| ((with_reducible change EW _ _ _ _ _); first
  | ((with_reducible change EW _ (.BoolOp .And [_] _) _ _ _); refine' ew_one_and ?_; (wtm_at "Dq"))
  | ((with_reducible change EW _ (.BoolOp .Or [_] _) _ _ _); refine' ew_one_or ?_; (wtm_at "Dq"))
  | ((with_reducible change EW _ (.BoolOp .And _ _) _ _ _); refine' ew_and ?_ ?_; (wtm_at "Dq"))
  | ((with_reducible change EW _ (.BoolOp .Or _ _) _ _ _); refine' ew_or ?_ ?_; (wtm_at "Dq"))))
set_option hygiene false in
local macro_rules | `(tactic| wtm_at "Dlf2") => `(tactic| first | exact Or.inl rfl | exact Or.inr rfl)
set_option hygiene false in
local macro_rules | `(tactic| wtm_at "Det4") => `(tactic| ((with_reducible change EA _ _ _ _ _); first
  | ((with_reducible change EA _ [] _ _ _); exact ea_nil)
  | ((with_reducible change EA _ (_ :: _) _ _ _); refine' ea_cons (by wtm_at "Drfl") ?_ ?_; (wtm_at "Dq"))))
set_option hygiene false in
local macro_rules | `(tactic| wtm_at "Det5") => `(tactic| ((with_reducible change EG _ _ _ _ _ _); first
  | ((with_reducible change EG _ (.Name _ _) _ _ _ _); exact eg_name (by wtm_at "Ddec") (by wtm_at "Dup") (by wtm_at "Dloc") (by wtm_at "Dlf2"))
  | ((with_reducible change EG _ (.Tuple _ _ _) _ _ _ _); refine' eg_tup (by wtm_at "Drfl") (by wtm_at "Drfl") (by wtm_at "Drfl") (by wtm_at "Drfl") ?_; (wtm_at "Dq"))))
set_option hygiene false in
local macro_rules | `(tactic| wtm_at "Det6") => `(tactic| ((with_reducible change EGs _ _ _ _ _ _); first
  | ((with_reducible change EGs _ [] _ _ _ _); exact EGs.nil)
  | ((with_reducible change EGs _ (_ :: _) _ _ _ _); refine' EGs.cons (by wtm_at "Drfl") ?_ ?_; (wtm_at "Dq"))))
set_option hygiene false in
local macro_rules | `(tactic| wtm_at "Det3") => `(tactic| first
  | (with_reducible exact ea_nil)
  | (with_reducible exact eo_none)
  | (with_reducible refine' eo_some ?_; (wtm_at "Dq"))
  | (with_reducible exact ETs.nil)
  | (with_reducible refine' ETs.one ?_; (wtm_at "Dq"))
  | (with_reducible exact EGs.nil))
set_option hygiene false in
local macro_rules | `(tactic| wtm_at "Doe") => `(tactic| first
  | (with_reducible exact oe_addI)
  | (with_reducible exact oe_subI)
  | (with_reducible exact oe_modI (by omega))
  | (with_reducible exact oe_divI' (by omega) (by omega))
  | (with_reducible exact oe_mulA (by omega) (by omega))
  | (with_reducible exact oe_mulB (by omega) (by omega))
  | (with_reducible exact oe_mulI (by with_reducible assumption))
  | (with_reducible exact oe_modI (by decide +kernel))
  | (with_reducible exact oe_powI' (by decide) (by decide) (by decide))
  | (with_reducible exact oe_modI (by with_reducible assumption))
  | (with_reducible exact oe_divI (by with_reducible assumption))
  | (with_reducible exact ue_negI)
  | (with_reducible exact oe_ltI)
  | (with_reducible exact oe_leI)
  | (with_reducible exact oe_gtI)
  | (with_reducible exact oe_geI)
  | (with_reducible exact oe_ltS)
  | (with_reducible exact oe_leS)
  | (with_reducible exact oe_gtS)
  | (with_reducible exact oe_eqI)
  | (with_reducible exact oe_neI)
  | (with_reducible exact oe_eqS)
  | (with_reducible exact oe_neS)
  | (with_reducible exact oe_eqB)
  | (with_reducible exact oe_isB)
  | (with_reducible exact oe_isntB)
  | (with_reducible exact oe_isNn)
  | (with_reducible exact oe_isntNn)
  | (with_reducible exact oe_inSg)
  | (with_reducible exact ce_isInt (by wtm_at "Dknown"))
  | (with_reducible exact ce_isBool (by wtm_at "Dknown"))
  | (with_reducible exact ce_isStr (by wtm_at "Dknown"))
  | (with_reducible exact ce_isTup (by wtm_at "Dknown"))
  | (with_reducible exact ce_isLst (by wtm_at "Dknown"))
  | (with_reducible exact ce_isDict (by wtm_at "Dknown"))
  | (with_reducible exact ce_lenS (by wtm_at "Dwl"))
  | (with_reducible exact ce_lenM)
  | (with_reducible exact ce_lenMT)
  | (with_reducible exact ce_lenV (by wtm_at "Dseqv"))
  | (with_reducible exact ce_intB)
  | (with_reducible exact ce_allP (by wtm_at "Drfl"))
  | (with_reducible exact ce_anyP (by wtm_at "Drfl"))
  | (with_reducible exact ce_tupT)
  | (with_reducible exact ce_tup (by wtm_at "Dseql"))
  | (with_reducible exact ce_listT (by wtm_at "Dseqv"))
  | (with_reducible exact oe_inStrs (by wtm_at "Dseqv"))
  | (with_reducible exact oe_notInStrs (by wtm_at "Dseqv"))
  | (with_reducible exact ixe_b2s)
  | (with_reducible exact ixe_b2)
  | (with_reducible exact oe_neB2 (Room.units (by with_reducible assumption)))
  | (with_reducible exact oe_neT (Room.units (by with_reducible assumption)) ⟨rfl, rfl⟩ ⟨rfl, rfl⟩)
  | (with_reducible exact oe_eqT (Room.units (by with_reducible assumption)) ⟨rfl, rfl⟩ ⟨rfl, rfl⟩)
  | (with_reducible exact oe_addS (by wtm_at "Dwl"))
  | (with_reducible exact oe_addL (by wtm_at "Dseql") (by wtm_at "Dseql") (by wtm_at "Dwl"))
  | (with_reducible exact ix_seqE (by wtm_at "Dseqv") (by with_unfolding_all exact rfl))
  | (with_reducible exact ixe_ints (by omega) (by omega))
  | (with_reducible exact ixe_strs (by omega) (by omega))
  | (with_reducible exact ixe_str (by wtm_at "Dwl") (by omega) (by omega))
  | (with_reducible exact ixe_str (by wtm_at "Dwl") (by omega) (by simp only [length_app, length_one]; omega))
  | (with_reducible exact ixe_lst (by omega) (by simp only [List.length_cons, List.length_nil]; omega))
  | (with_reducible exact ce_divmod' (by omega) (by omega))
  | (with_reducible exact ce_abs)
  | (with_reducible exact me_find)
  | (with_reducible exact sl_strE (by wtm_at "Dwl"))
  | (with_reducible exact sl_lstE (by wtm_at "Dseql")))
set_option hygiene false in
local macro_rules | `(tactic| wtm_at "Dst1") => `(tactic| ((with_reducible change WS _ _ _ _ _); first
  | ((with_reducible change WS _ (.Return (some _) _) _ _ _); refine' wp_ret ?_ ?_; (wtm_at "Dq"))
  | ((with_reducible change WS _ (.Return none _) _ _ _); refine ws_retN ?_)
  | ((with_reducible change WS _ (.If _ _ _ _) _ _ _); refine' wp_if ?_ ?_; (wtm_at "Dq"))
  | ((with_reducible change WS _ (.Pass _) _ _ _); refine ws_pass ?_)
  | ((with_reducible change WS _ (.Assign [.Name _ _] _ _) _ _ _); refine' wp_set (by wtm_at "Dnd") (by wtm_at "Dup") (by wtm_at "Dloc") (by wtm_at "Drfl") (by wtm_at "Dlf") ?_ ?_; (wtm_at "Dq"))))
set_option hygiene false in
local macro_rules | `(tactic| wtm_at "Dst2") => `(tactic| ((with_reducible change WSs _ _ _ _ _); first
  | ((with_reducible change WSs _ [] _ _ _); refine wss_nil ?_)
  | ((with_reducible change WSs _ (_ :: _) _ _ _); refine wss_cons ?_)))
set_option hygiene false in
local macro_rules | `(tactic| wtm_at "Dbr") => `(tactic| (with_reducible change Br _ _ _); first
  | ((fail_if_success (with_reducible refine br_t ?_)); first
    | (with_reducible refine br_f ?_)
    | (with_reducible refine br_not ?_)
    | (with_reducible refine br_and ?_)
    | (with_reducible refine br_or ?_)
    | (with_reducible refine br_dec (fun hc => ?_) (fun hc => ?_))
    | (refine br_t ?_)
    | (refine br_f ?_)
    | (refine br_any (fun hc => ?_) (fun hc => ?_)))
  | ((fail_if_success (with_reducible refine br_f ?_)); (with_reducible refine br_t ?_)))
set_option hygiene false in
local macro_rules | `(tactic| wtm_at "Dim") => `(tactic| first
  | ((with_reducible change (_ : Bool) = false → _); first
    | ((fail_if_success (with_reducible change true = false → _)); first | (exact fun h => no_tf h) | intro hc)
    | ((fail_if_success (with_reducible change false = false → _)); first | (exact fun h => no_tf h)))
  | ((with_reducible change (_ : Bool) = true → _); first
    | ((fail_if_success (with_reducible change false = true → _)); first | (exact fun h => no_ft h) | intro hc)
    | ((fail_if_success (with_reducible change true = true → _)); first | (exact fun h => no_ft h)))
  | ((with_reducible change List.length _ = _); exact rfl))
set_option hygiene false in
local macro_rules | `(tactic| wtm_at "Dend") => `(tactic| first | exact false | exact D.non)
set_option hygiene false in
local macro_rules | `(tactic| wtm_at "Dfold") => `(tactic| intro _; rfl)
set_option hygiene false in
local macro_rules | `(tactic| wtm_at "Dnd") => `(tactic| with_reducible assumption)
set_option hygiene false in
local macro_rules | `(tactic| wtm_at "Dblk") => `(tactic| exact blkOk_by (by kernel_rfl))
set_option hygiene false in
local macro_rules | `(tactic| wtm_at "Diter") => `(tactic| with_reducible first | exact IterV.str | exact iterv_bl2 | exact IterV.lst | exact IterV.tup | exact IterV.mu (by with_reducible assumption) | exact iterv_bl2 | exact iterv_lst | exact iterv_tup | exact iterv_mu (by with_reducible assumption))
set_option hygiene false in
local macro_rules | `(tactic| wtm_at "Dei") => `(tactic| ((with_reducible change EI _ _ _ _ _ _); first
  | ((with_reducible change EI _ _ (.Call (.Name "range" _) [_] [] _) _ _ _); refine' ei_range1 (by wtm_at "Drfl") (by with_reducible assumption) (by wtm_at "Drfl") ?_ ?_ ?_; (wtm_at "Dq"))
  | ((with_reducible change EI _ _ (.Call (.Name "range" _) [_, _] [] _) _ _ _); refine' ei_range2 (by wtm_at "Drfl") (by with_reducible assumption) (by wtm_at "Drfl") (by wtm_at "Drfl") ?_ ?_; (wtm_at "Dq"))
  | ((with_reducible change EI _ _ _ _ _ _); refine' ei_any ?_ ?_; (wtm_at "Dq"))))
set_option hygiene false in
local macro_rules | `(tactic| wtm_at "Din") => `(tactic| first | ((with_reducible change ∀ a, a ∈ _ → Blk _ _ fun X => EV X _ _ _ _); intro a ha s H C cl fp; (with_reducible change EV _ _ _ _ _)) | ((with_reducible change ∀ a, a ∈ _ → Blk _ _ fun X => ET X _ _ _ _); intro a ha s H C cl fp; (with_reducible change ET _ _ _ _ _)) | ((with_reducible change ∀ a, a ∈ _ → _ = true → Blk _ _ fun X => EV X _ _ _ _); intro a ha hk s H C cl fp; (with_reducible change EV _ _ _ _ _)))
set_option hygiene false in
local macro_rules | `(tactic| wtm_at "Dtyd") => `(tactic| ((with_reducible change TyD _ _ _); (first | exact TyD.str _ | exact TyD.lst _ | exact TyD.ref (by with_reducible assumption) | exact TyD.dK (by with_reducible assumption) | exact TyD.dT (by with_reducible assumption))))
set_option hygiene false in
local macro_rules | `(tactic| wtm_at "Dlen") => `(tactic| ((with_reducible change _ ≤ sizeLine); wtm_at "Dwl"))
set_option hygiene false in
local macro_rules | `(tactic| wtm_at "Dse0") => `(tactic| fail)
set_option hygiene false in
local macro_rules | `(tactic| wtm_at "Dhis") => `(tactic| intro i hi; revert i hi; decide)
set_option hygiene false in
local macro_rules | `(tactic| wtm_at "Dp") => `(tactic| first | wtm_at "Dim" | wtm_at "Dev" | wtm_at "Det1" | wtm_at "Det2" | wtm_at "Dst1" | wtm_at "Dst2" | wtm_at "Dbr" | wtm_at "Dei" | wtm_at "Diter" | wtm_at "Din" | wtm_at "Dlen" | wtm_at "Dtyd" | wtm_at "Doe" | wtm_at "Dse" | wtm_at "Det4" | wtm_at "Det5" | wtm_at "Det6" | wtm_at "Det3")

abbrev abc : Str := "abcdefghijklmnopqrstuvwxyz"
abbrev place (c : Nat) : Int := Txt.find abc ⟨#[c]⟩
theorem place_in : ∀ c ∈ tl abc, 0 ≤ place c ∧ place c < 26 := by decide +kernel
/-- the word's number, its first letter counting most -/
def num (l : List Nat) : Int := l.foldl (fun n c => 27 * n + place c + 1) 0
/-- the same, the last letter first -/
def le : List Nat → Int
  | [] => 0
  | c :: cs => (place c + 1) + 27 * le cs
theorem num_snoc (l : List Nat) (c : Nat) : num (l ++ [c]) = 27 * num l + place c + 1 := by
  unfold num
  rw [List.foldl_append]
  rfl
theorem num_rev : ∀ l : List Nat, num l.reverse = le l
  | [] => rfl
  | c :: cs => by
    rw [List.reverse_cons, num_snoc, num_rev cs]
    show _ = (place c + 1) + 27 * le cs
    omega
theorem le_snoc (c : Nat) : ∀ l : List Nat, le (l ++ [c]) = le l + 27 ^ l.length * (place c + 1)
  | [] => by
    show (place c + 1) + 27 * 0 = 0 + 27 ^ 0 * (place c + 1)
    omega
  | d :: ds => by
    show (place d + 1) + 27 * le (ds ++ [c]) = (place d + 1) + 27 * le ds + 27 ^ (ds.length + 1) * (place c + 1)
    rw [le_snoc c ds, Int.pow_succ, Int.mul_add, Int.mul_comm (27 ^ ds.length) 27, Int.mul_assoc]
    omega
theorem getD_in {α : Type} {l : List α} {i : Nat} {a : α} (h : i < l.length) : l.getD i a ∈ l := by
  rw [List.getD_eq_getElem?_getD, List.getElem?_eq_getElem h]
  exact List.getElem_mem h
theorem tl_app (a b : Str) : tl (a ++ b) = tl a ++ tl b := by
  show (a.cps ++ b.cps).toList = _
  rw [Array.toList_append]
def Word (x : Str) : Prop := x.length ≤ 8 ∧ ∀ c ∈ tl x, c ∈ tl abc
def Val (d : D) : Prop := (∃ i, d = .int i) ∨ ∃ x, d = .str x ∧ Word x
def valOf : D → Int
  | .int i => i
  | .str x => num (tl x)
  | _ => 0
def sp_number_of : DSpec := fun ds M Q => ∃ x, ds = [.str x] ∧ Word x ∧ Q (.int (num (tl x))) M
def sp_home : DSpec := fun ds M Q => ∃ d h, ds = [d, .int h] ∧ Val d ∧ 0 < h ∧ Q (.int (valOf d % h)) M
def sp_whole : DSpec := fun ds M Q => ∃ i, ds = [.int i] ∧ Q (.bl true) M
def sp_value : DSpec := fun ds M Q => ∃ c, ds = [.int c] ∧ 0 ≤ c ∧ ∀ d, Val d → Q d M
def sp_number : DSpec := fun ds M Q => ∃ d, ds = [d] ∧ Val d ∧ Q (.int (valOf d)) M
def sp_law : DSpec := fun ds M Q => ∃ ns : List Int, ds = [.lst (ns.map .int)] ∧ ns.length ≤ 63 ∧ Q (.bl true) M
theorem se_number_of {x : Str} {M : MH} (h : Word x) : SE sp_number_of [.str x] M (.int (num (tl x))) := ⟨fun q => ⟨x, rfl, h, q⟩⟩
theorem se_home {d : D} {h : Int} {M : MH} (h1 : Val d) (h2 : 0 < h) : SE sp_home [d, .int h] M (.int (valOf d % h)) := ⟨fun q => ⟨d, h, rfl, h1, h2, q⟩⟩
theorem se_whole {i : Int} {M : MH} : SE sp_whole [.int i] M (.bl true) := ⟨fun q => ⟨i, rfl, q⟩⟩
theorem se_number {d : D} {M : MH} (h1 : Val d) : SE sp_number [d] M (.int (valOf d)) := ⟨fun q => ⟨d, rfl, h1, q⟩⟩
theorem me_place {X : Cx} {M : MH} {a : Nat} (h : 0 ≤ place a ∧ place a < 26) : ME X "str.index" (.str abc) [.str ⟨#[a]⟩] M (.int (place a)) := me_index h.1
theorem oe_place {X : Cx} {M : MH} {a : Nat} {i : Int} (h : 0 ≤ place a ∧ place a < 26) : OpE X (binaryOp .Mult) (.int i) (.int (place a + 1)) M (.int (i * (place a + 1))) := oe_mulB (by omega) (by omega)
set_option hygiene false in
local macro_rules | `(tactic| wtm_at "Dse") => `(tactic| with_reducible first | exact me_place (by assumption) | exact oe_place (by assumption) | exact se_number_of (by assumption) | exact se_home (by assumption) (by omega) | exact se_whole | exact se_number (by assumption))
section
variable {P : Program} {w : World} {K : PySem.W.Frag} {mg : Str → Option Value} {base : Heap}
variable (z_isinstance : mg "isinstance" = none) (z_int : mg "int" = none) (z_bool : mg "bool" = none) (z_str : mg "str" = none) (z_range : mg "range" = none) (z_reversed : mg "reversed" = none)
variable {vL : Value} (g_letters : mg "LETTERS" = some vL) (c_letters : Cst K vL (.str abc))
include z_isinstance z_int z_bool z_str z_range z_reversed g_letters c_letters
theorem d_number_of {f : Addr} {fd : FuncData} (F : Fun K "number_of" "number_of" s_number_of f fd) : FnOk P w K mg base CX0 1 f fd ["word"] (spOf K 1 sp_number_of) := by
  refine fnd_ok F sc_number_of rfl (by decide) fun cdv A outer s H ds M Q hr hl hs => ?_
  obtain ⟨x, rfl, ⟨hx, hW⟩, q⟩ := hs
  have hN := sc_number_of.nd
  show WSs _ _ [("word", some (.str x)), ("number", none), ("letter", none)] M _
  refine wss_cons ?_
  repeat' wtm_at "Dp"
  refine wp_for [2] (fun n (ρ : Rho) => ∃ o : Option D, ρ = ([("word", some (.str x)), ("number", some (.int (num ((tl x).take n)))), ("letter", o)] : Rho)) PassesOwn.never rfl (fun _ => rfl) (ei_any (by repeat' wtm_at "Dp") .str) ⟨none, rfl⟩ ?_ ?_
  · rintro n a ρ' ha ⟨o, rfl⟩
    have hp := place_in a (hW a (List.mem_of_getElem? ha))
    refine wg_name hN (by wtm_at "Dup") (by wtm_at "Dloc") (by wtm_at "Dlf2") ?_
    repeat' wtm_at "Dp"
    refine ⟨rfl, some (.str ⟨#[a]⟩), ?_⟩
    rw [List.take_add_one, ha]
    show _ = ([_, ("number", some (.int (num ((tl x).take n ++ [a])))), _] : Rho)
    rw [num_snoc]
  · rintro ρ' ⟨o, rfl⟩
    rw [List.take_length]
    repeat' wtm_at "Dp"
    exact q
theorem d_home {f : Addr} {fd : FuncData} (F : Fun K "home" "home" s_home f fd) (f1 : DFn P w K mg base 1 "number_of" 1 sp_number_of) : FnOk P w K mg base CX0 2 f fd ["value", "houses"] (spOf K 2 sp_home) := by
  refine fnd_ok F sc_home rfl (by decide) fun cdv A outer s H ds M Q hr hl hs => ?_
  obtain ⟨d, h, rfl, hv, hh, q⟩ := hs
  have hN := sc_home.nd
  show WSs _ _ [("value", some d), ("houses", some (.int h))] M _
  refine wss_cons ?_
  rcases hv with ⟨i, rfl⟩ | ⟨x, rfl, hx⟩
  · repeat' wtm_at "Dp"
    exact q
  · repeat' wtm_at "Dp"
    exact q
theorem d_whole {f : Addr} {fd : FuncData} (F : Fun K "_law_whole" "_law_whole" s__law_whole f fd) : FnOk P w K mg base CX0 1 f fd ["_law_found"] (spOf K 1 sp_whole) := by
  refine fnd_ok F sc__law_whole rfl (by decide) fun cdv A outer s H ds M Q hr hl hs => ?_
  obtain ⟨i, rfl, q⟩ := hs
  have hN := sc__law_whole.nd
  show WSs _ _ [("_law_found", some (.int i))] M _
  refine wss_cons ?_
  repeat' wtm_at "Dp"
  exact q
theorem d_value {f : Addr} {fd : FuncData} (F : Fun K "_law_value" "_law_value" s__law_value f fd) : FnOk P w K mg base CX0 1 f fd ["_law_cell"] (spOf K 1 sp_value) := by
  refine fnd_ok F sc__law_value rfl (by decide) fun cdv A outer s H ds M Q hr hl hs => ?_
  obtain ⟨c, rfl, hc0, q⟩ := hs
  have hN := sc__law_value.nd
  have l2 : (Str.ofString "abcdefghijklmnopqrstuvwxyz").length = 26 := by decide +kernel
  have l5 : sizeLine = 16777216 := sizeLine_eq
  show WSs _ _ [("_law_cell", some (.int c)), ("_law_word", none), ("_law_k", none)] M _
  refine wss_cons ?_
  repeat' wtm_at "Dp"
  · exact q _ (.inl ⟨_, rfl⟩)
  · exact q _ (.inl ⟨_, rfl⟩)
  · refine wp_for [2] (fun n (ρ : Rho) => ∃ (x : Str) (o : Option D), x.length ≤ n ∧ (∀ c ∈ tl x, c ∈ tl abc) ∧ ρ = ([("_law_cell", some (.int c)), ("_law_word", some (.str x)), ("_law_k", o)] : Rho))
      PassesOwn.never rfl (fun _ => rfl) (ei_range1 (j := c / 3 % 9) rfl z_range rfl (by repeat' wtm_at "Dp") (by omega) (by omega)) ⟨"", none, by decide, by decide +kernel, rfl⟩ ?_ ?_
    · rintro n a ρ' ha ⟨x, o, hx, hW, rfl⟩
      have hn1 : n < 9 := by
        obtain ⟨h, _⟩ := List.getElem?_eq_some_iff.mp ha
        rw [List.length_range] at h
        omega
      have ha2 : a < 9 := by
        obtain ⟨h, e⟩ := List.getElem?_eq_some_iff.mp ha
        rw [List.getElem_range] at e
        omega
      have hd : 0 ≤ (0 + (a : Int)) * (0 + (a : Int)) := by
        rw [Int.zero_add]
        exact Int.mul_nonneg (Int.natCast_nonneg a) (Int.natCast_nonneg a)
      have hd2 : (0 + (a : Int)) * (0 + (a : Int)) ≤ 9 * 9 := Int.mul_le_mul (by omega) (by omega) (by omega) (by omega)
      refine wg_name hN (by wtm_at "Dup") (by wtm_at "Dloc") (by wtm_at "Dlf2") ?_
      repeat' wtm_at "Dp"
      refine ⟨rfl, _, _, by rw [length_app, length_one]; omega, ?_, rfl⟩
      intro e he
      rw [tl_app, List.mem_append] at he
      rcases he with he | he
      · exact hW e he
      · obtain rfl : e = _ := List.mem_singleton.mp he
        have hl : (tl abc).length = 26 := by decide +kernel
        exact getD_in (by omega)
    · rintro ρ' ⟨x, o, hx, hW, rfl⟩
      rw [List.length_range] at hx
      repeat' wtm_at "Dp"
      exact q _ (.inr ⟨x, rfl, by omega, hW⟩)
theorem d_number {f : Addr} {fd : FuncData} (F : Fun K "_law_number" "_law_number" s__law_number f fd) : FnOk P w K mg base CX0 1 f fd ["_law_value_here"] (spOf K 1 sp_number) := by
  refine fnd_ok F sc__law_number rfl (by decide) fun cdv A outer s H ds M Q hr hl hs => ?_
  obtain ⟨d, rfl, hv, q⟩ := hs
  have hN := sc__law_number.nd
  show WSs _ _ [("_law_value_here", some d), ("_law_number_here", none), ("_law_weight", none), ("_law_letter", none)] M _
  refine wss_cons ?_
  rcases hv with ⟨i, rfl⟩ | ⟨x, rfl, hx, hW⟩
  · repeat' wtm_at "Dp"
    exact q
  · repeat' wtm_at "Dp"
    have l5 : sizeLine = 16777216 := sizeLine_eq
    refine wp_for [3] (fun n (ρ : Rho) => ∃ o : Option D, ρ = ([("_law_value_here", some (.str x)), ("_law_number_here", some (.int (le ((tl x).reverse.take n)))), ("_law_weight", some (.int (27 ^ n))), ("_law_letter", o)] : Rho)) PassesOwn.never rfl (fun _ => rfl)
      (ei_revS rfl z_reversed rfl (by repeat' wtm_at "Dp") (by omega)) ⟨none, rfl⟩ ?_ ?_
    · rintro n a ρ' ha ⟨o, rfl⟩
      have hp := place_in a (hW a (List.mem_reverse.mp (List.mem_of_getElem? ha)))
      refine wg_name hN (by wtm_at "Dup") (by wtm_at "Dloc") (by wtm_at "Dlf2") ?_
      repeat' wtm_at "Dp"
      refine ⟨rfl, some (.str ⟨#[a]⟩), ?_⟩
      have hn : n < (tl x).reverse.length := (List.getElem?_eq_some_iff.mp ha).1
      rw [List.take_add_one, ha]
      show _ = ([_, ("_law_number_here", some (.int (le ((tl x).reverse.take n ++ [a])))), ("_law_weight", some (.int (27 ^ n * 27))), _] : Rho)
      rw [le_snoc, List.length_take, Nat.min_eq_left (by omega)]
    · rintro ρ' ⟨o, rfl⟩
      rw [List.take_length]
      repeat' wtm_at "Dp"
      rw [← num_rev, List.reverse_reverse]
      exact q
end
end K02
set_option Elab.async false
set_option linter.all false
set_option maxRecDepth 100000
set_option maxHeartbeats 4000000

namespace K02
open PySem PySem.Spec PyProof.Rows L2 TL DS
/-! the steps -/
set_option hygiene false in
local macro_rules | `(tactic| wtm_at "Dq") => `(tactic| iterate 9 (try ((with_reducible first | change D | change Bool | change Int | change Option Int | change Str | change Type | change Nat | change List _ | change _ → D | change _ → Bool | change _ → List _ | change _ → _ → List _); rotate_left)))
set_option hygiene false in
local macro_rules | `(tactic| wtm_at "Dlk") => `(tactic| with_reducible (first | exact Lk.zero | exact Lk.succ (Lk.zero) | exact Lk.succ (Lk.succ (Lk.zero)) | exact Lk.succ (Lk.succ (Lk.succ (Lk.zero))) | exact Lk.succ (Lk.succ (Lk.succ (Lk.succ (Lk.zero)))) | exact Lk.succ (Lk.succ (Lk.succ (Lk.succ (Lk.succ (Lk.zero))))) | exact Lk.succ (Lk.succ (Lk.succ (Lk.succ (Lk.succ (Lk.succ (Lk.zero)))))) | exact Lk.succ (Lk.succ (Lk.succ (Lk.succ (Lk.succ (Lk.succ (Lk.succ (Lk.zero))))))) | exact Lk.succ (Lk.succ (Lk.succ (Lk.succ (Lk.succ (Lk.succ (Lk.succ (Lk.succ (Lk.zero)))))))) | exact Lk.succ (Lk.succ (Lk.succ (Lk.succ (Lk.succ (Lk.succ (Lk.succ (Lk.succ (Lk.succ (Lk.zero))))))))) | exact Lk.succ (Lk.succ (Lk.succ (Lk.succ (Lk.succ (Lk.succ (Lk.succ (Lk.succ (Lk.succ (Lk.succ (Lk.zero)))))))))) | exact Lk.succ (Lk.succ (Lk.succ (Lk.succ (Lk.succ (Lk.succ (Lk.succ (Lk.succ (Lk.succ (Lk.succ (Lk.succ (Lk.zero))))))))))) | exact Lk.succ (Lk.succ (Lk.succ (Lk.succ (Lk.succ (Lk.succ (Lk.succ (Lk.succ (Lk.succ (Lk.succ (Lk.succ (Lk.succ (Lk.zero)))))))))))) | exact Lk.succ (Lk.succ (Lk.succ (Lk.succ (Lk.succ (Lk.succ (Lk.succ (Lk.succ (Lk.succ (Lk.succ (Lk.succ (Lk.succ (Lk.succ (Lk.zero))))))))))))) | exact Lk.succ (Lk.succ (Lk.succ (Lk.succ (Lk.succ (Lk.succ (Lk.succ (Lk.succ (Lk.succ (Lk.succ (Lk.succ (Lk.succ (Lk.succ (Lk.succ (Lk.zero)))))))))))))) | exact Lk.succ (Lk.succ (Lk.succ (Lk.succ (Lk.succ (Lk.succ (Lk.succ (Lk.succ (Lk.succ (Lk.succ (Lk.succ (Lk.succ (Lk.succ (Lk.succ (Lk.succ (Lk.zero))))))))))))))) | exact Lk.succ (Lk.succ (Lk.succ (Lk.succ (Lk.succ (Lk.succ (Lk.succ (Lk.succ (Lk.succ (Lk.succ (Lk.succ (Lk.succ (Lk.succ (Lk.succ (Lk.succ (Lk.succ (Lk.zero)))))))))))))))) | exact Lk.succ (Lk.succ (Lk.succ (Lk.succ (Lk.succ (Lk.succ (Lk.succ (Lk.succ (Lk.succ (Lk.succ (Lk.succ (Lk.succ (Lk.succ (Lk.succ (Lk.succ (Lk.succ (Lk.succ (Lk.zero))))))))))))))))) | exact Lk.succ (Lk.succ (Lk.succ (Lk.succ (Lk.succ (Lk.succ (Lk.succ (Lk.succ (Lk.succ (Lk.succ (Lk.succ (Lk.succ (Lk.succ (Lk.succ (Lk.succ (Lk.succ (Lk.succ (Lk.succ (Lk.zero)))))))))))))))))) | exact Lk.succ (Lk.succ (Lk.succ (Lk.succ (Lk.succ (Lk.succ (Lk.succ (Lk.succ (Lk.succ (Lk.succ (Lk.succ (Lk.succ (Lk.succ (Lk.succ (Lk.succ (Lk.succ (Lk.succ (Lk.succ (Lk.succ (Lk.zero))))))))))))))))))) | exact Lk.succ (Lk.succ (Lk.succ (Lk.succ (Lk.succ (Lk.succ (Lk.succ (Lk.succ (Lk.succ (Lk.succ (Lk.succ (Lk.succ (Lk.succ (Lk.succ (Lk.succ (Lk.succ (Lk.succ (Lk.succ (Lk.succ (Lk.succ (Lk.zero)))))))))))))))))))) | exact Lk.succ (Lk.succ (Lk.succ (Lk.succ (Lk.succ (Lk.succ (Lk.succ (Lk.succ (Lk.succ (Lk.succ (Lk.succ (Lk.succ (Lk.succ (Lk.succ (Lk.succ (Lk.succ (Lk.succ (Lk.succ (Lk.succ (Lk.succ (Lk.succ (Lk.zero))))))))))))))))))))) | exact Lk.succ (Lk.succ (Lk.succ (Lk.succ (Lk.succ (Lk.succ (Lk.succ (Lk.succ (Lk.succ (Lk.succ (Lk.succ (Lk.succ (Lk.succ (Lk.succ (Lk.succ (Lk.succ (Lk.succ (Lk.succ (Lk.succ (Lk.succ (Lk.succ (Lk.succ (Lk.zero)))))))))))))))))))))) | exact Lk.succ (Lk.succ (Lk.succ (Lk.succ (Lk.succ (Lk.succ (Lk.succ (Lk.succ (Lk.succ (Lk.succ (Lk.succ (Lk.succ (Lk.succ (Lk.succ (Lk.succ (Lk.succ (Lk.succ (Lk.succ (Lk.succ (Lk.succ (Lk.succ (Lk.succ (Lk.succ (Lk.zero))))))))))))))))))))))) | exact Lk.succ (Lk.succ (Lk.succ (Lk.succ (Lk.succ (Lk.succ (Lk.succ (Lk.succ (Lk.succ (Lk.succ (Lk.succ (Lk.succ (Lk.succ (Lk.succ (Lk.succ (Lk.succ (Lk.succ (Lk.succ (Lk.succ (Lk.succ (Lk.succ (Lk.succ (Lk.succ (Lk.succ (Lk.zero)))))))))))))))))))))))) | exact Lk.succ (Lk.succ (Lk.succ (Lk.succ (Lk.succ (Lk.succ (Lk.succ (Lk.succ (Lk.succ (Lk.succ (Lk.succ (Lk.succ (Lk.succ (Lk.succ (Lk.succ (Lk.succ (Lk.succ (Lk.succ (Lk.succ (Lk.succ (Lk.succ (Lk.succ (Lk.succ (Lk.succ (Lk.succ (Lk.zero)))))))))))))))))))))))))))
set_option hygiene false in
local macro_rules | `(tactic| wtm_at "Dup") => `(tactic| with_reducible (first | exact Up.zero | exact Up.succ (Up.zero) | exact Up.succ (Up.succ (Up.zero)) | exact Up.succ (Up.succ (Up.succ (Up.zero))) | exact Up.succ (Up.succ (Up.succ (Up.succ (Up.zero)))) | exact Up.succ (Up.succ (Up.succ (Up.succ (Up.succ (Up.zero))))) | exact Up.succ (Up.succ (Up.succ (Up.succ (Up.succ (Up.succ (Up.zero)))))) | exact Up.succ (Up.succ (Up.succ (Up.succ (Up.succ (Up.succ (Up.succ (Up.zero))))))) | exact Up.succ (Up.succ (Up.succ (Up.succ (Up.succ (Up.succ (Up.succ (Up.succ (Up.zero)))))))) | exact Up.succ (Up.succ (Up.succ (Up.succ (Up.succ (Up.succ (Up.succ (Up.succ (Up.succ (Up.zero))))))))) | exact Up.succ (Up.succ (Up.succ (Up.succ (Up.succ (Up.succ (Up.succ (Up.succ (Up.succ (Up.succ (Up.zero)))))))))) | exact Up.succ (Up.succ (Up.succ (Up.succ (Up.succ (Up.succ (Up.succ (Up.succ (Up.succ (Up.succ (Up.succ (Up.zero))))))))))) | exact Up.succ (Up.succ (Up.succ (Up.succ (Up.succ (Up.succ (Up.succ (Up.succ (Up.succ (Up.succ (Up.succ (Up.succ (Up.zero)))))))))))) | exact Up.succ (Up.succ (Up.succ (Up.succ (Up.succ (Up.succ (Up.succ (Up.succ (Up.succ (Up.succ (Up.succ (Up.succ (Up.succ (Up.zero))))))))))))) | exact Up.succ (Up.succ (Up.succ (Up.succ (Up.succ (Up.succ (Up.succ (Up.succ (Up.succ (Up.succ (Up.succ (Up.succ (Up.succ (Up.succ (Up.zero)))))))))))))) | exact Up.succ (Up.succ (Up.succ (Up.succ (Up.succ (Up.succ (Up.succ (Up.succ (Up.succ (Up.succ (Up.succ (Up.succ (Up.succ (Up.succ (Up.succ (Up.zero))))))))))))))) | exact Up.succ (Up.succ (Up.succ (Up.succ (Up.succ (Up.succ (Up.succ (Up.succ (Up.succ (Up.succ (Up.succ (Up.succ (Up.succ (Up.succ (Up.succ (Up.succ (Up.zero)))))))))))))))) | exact Up.succ (Up.succ (Up.succ (Up.succ (Up.succ (Up.succ (Up.succ (Up.succ (Up.succ (Up.succ (Up.succ (Up.succ (Up.succ (Up.succ (Up.succ (Up.succ (Up.succ (Up.zero))))))))))))))))) | exact Up.succ (Up.succ (Up.succ (Up.succ (Up.succ (Up.succ (Up.succ (Up.succ (Up.succ (Up.succ (Up.succ (Up.succ (Up.succ (Up.succ (Up.succ (Up.succ (Up.succ (Up.succ (Up.zero)))))))))))))))))) | exact Up.succ (Up.succ (Up.succ (Up.succ (Up.succ (Up.succ (Up.succ (Up.succ (Up.succ (Up.succ (Up.succ (Up.succ (Up.succ (Up.succ (Up.succ (Up.succ (Up.succ (Up.succ (Up.succ (Up.zero))))))))))))))))))) | exact Up.succ (Up.succ (Up.succ (Up.succ (Up.succ (Up.succ (Up.succ (Up.succ (Up.succ (Up.succ (Up.succ (Up.succ (Up.succ (Up.succ (Up.succ (Up.succ (Up.succ (Up.succ (Up.succ (Up.succ (Up.zero)))))))))))))))))))) | exact Up.succ (Up.succ (Up.succ (Up.succ (Up.succ (Up.succ (Up.succ (Up.succ (Up.succ (Up.succ (Up.succ (Up.succ (Up.succ (Up.succ (Up.succ (Up.succ (Up.succ (Up.succ (Up.succ (Up.succ (Up.succ (Up.zero))))))))))))))))))))) | exact Up.succ (Up.succ (Up.succ (Up.succ (Up.succ (Up.succ (Up.succ (Up.succ (Up.succ (Up.succ (Up.succ (Up.succ (Up.succ (Up.succ (Up.succ (Up.succ (Up.succ (Up.succ (Up.succ (Up.succ (Up.succ (Up.succ (Up.zero)))))))))))))))))))))) | exact Up.succ (Up.succ (Up.succ (Up.succ (Up.succ (Up.succ (Up.succ (Up.succ (Up.succ (Up.succ (Up.succ (Up.succ (Up.succ (Up.succ (Up.succ (Up.succ (Up.succ (Up.succ (Up.succ (Up.succ (Up.succ (Up.succ (Up.succ (Up.zero))))))))))))))))))))))) | exact Up.succ (Up.succ (Up.succ (Up.succ (Up.succ (Up.succ (Up.succ (Up.succ (Up.succ (Up.succ (Up.succ (Up.succ (Up.succ (Up.succ (Up.succ (Up.succ (Up.succ (Up.succ (Up.succ (Up.succ (Up.succ (Up.succ (Up.succ (Up.succ (Up.zero)))))))))))))))))))))))) | exact Up.succ (Up.succ (Up.succ (Up.succ (Up.succ (Up.succ (Up.succ (Up.succ (Up.succ (Up.succ (Up.succ (Up.succ (Up.succ (Up.succ (Up.succ (Up.succ (Up.succ (Up.succ (Up.succ (Up.succ (Up.succ (Up.succ (Up.succ (Up.succ (Up.succ (Up.zero)))))))))))))))))))))))))))
set_option hygiene false in
local macro_rules | `(tactic| wtm_at "Dwi1") => `(tactic| with_reducible (first | exact Wi1.zero | exact Wi1.succ (Wi1.zero) | exact Wi1.succ (Wi1.succ (Wi1.zero)) | exact Wi1.succ (Wi1.succ (Wi1.succ (Wi1.zero))) | exact Wi1.succ (Wi1.succ (Wi1.succ (Wi1.succ (Wi1.zero)))) | exact Wi1.succ (Wi1.succ (Wi1.succ (Wi1.succ (Wi1.succ (Wi1.zero))))) | exact Wi1.succ (Wi1.succ (Wi1.succ (Wi1.succ (Wi1.succ (Wi1.succ (Wi1.zero)))))) | exact Wi1.succ (Wi1.succ (Wi1.succ (Wi1.succ (Wi1.succ (Wi1.succ (Wi1.succ (Wi1.zero))))))) | exact Wi1.succ (Wi1.succ (Wi1.succ (Wi1.succ (Wi1.succ (Wi1.succ (Wi1.succ (Wi1.succ (Wi1.zero)))))))) | exact Wi1.succ (Wi1.succ (Wi1.succ (Wi1.succ (Wi1.succ (Wi1.succ (Wi1.succ (Wi1.succ (Wi1.succ (Wi1.zero))))))))) | exact Wi1.succ (Wi1.succ (Wi1.succ (Wi1.succ (Wi1.succ (Wi1.succ (Wi1.succ (Wi1.succ (Wi1.succ (Wi1.succ (Wi1.zero)))))))))) | exact Wi1.succ (Wi1.succ (Wi1.succ (Wi1.succ (Wi1.succ (Wi1.succ (Wi1.succ (Wi1.succ (Wi1.succ (Wi1.succ (Wi1.succ (Wi1.zero))))))))))) | exact Wi1.succ (Wi1.succ (Wi1.succ (Wi1.succ (Wi1.succ (Wi1.succ (Wi1.succ (Wi1.succ (Wi1.succ (Wi1.succ (Wi1.succ (Wi1.succ (Wi1.zero)))))))))))) | exact Wi1.succ (Wi1.succ (Wi1.succ (Wi1.succ (Wi1.succ (Wi1.succ (Wi1.succ (Wi1.succ (Wi1.succ (Wi1.succ (Wi1.succ (Wi1.succ (Wi1.succ (Wi1.zero))))))))))))) | exact Wi1.succ (Wi1.succ (Wi1.succ (Wi1.succ (Wi1.succ (Wi1.succ (Wi1.succ (Wi1.succ (Wi1.succ (Wi1.succ (Wi1.succ (Wi1.succ (Wi1.succ (Wi1.succ (Wi1.zero)))))))))))))) | exact Wi1.succ (Wi1.succ (Wi1.succ (Wi1.succ (Wi1.succ (Wi1.succ (Wi1.succ (Wi1.succ (Wi1.succ (Wi1.succ (Wi1.succ (Wi1.succ (Wi1.succ (Wi1.succ (Wi1.succ (Wi1.zero))))))))))))))) | exact Wi1.succ (Wi1.succ (Wi1.succ (Wi1.succ (Wi1.succ (Wi1.succ (Wi1.succ (Wi1.succ (Wi1.succ (Wi1.succ (Wi1.succ (Wi1.succ (Wi1.succ (Wi1.succ (Wi1.succ (Wi1.succ (Wi1.zero)))))))))))))))) | exact Wi1.succ (Wi1.succ (Wi1.succ (Wi1.succ (Wi1.succ (Wi1.succ (Wi1.succ (Wi1.succ (Wi1.succ (Wi1.succ (Wi1.succ (Wi1.succ (Wi1.succ (Wi1.succ (Wi1.succ (Wi1.succ (Wi1.succ (Wi1.zero))))))))))))))))) | exact Wi1.succ (Wi1.succ (Wi1.succ (Wi1.succ (Wi1.succ (Wi1.succ (Wi1.succ (Wi1.succ (Wi1.succ (Wi1.succ (Wi1.succ (Wi1.succ (Wi1.succ (Wi1.succ (Wi1.succ (Wi1.succ (Wi1.succ (Wi1.succ (Wi1.zero)))))))))))))))))) | exact Wi1.succ (Wi1.succ (Wi1.succ (Wi1.succ (Wi1.succ (Wi1.succ (Wi1.succ (Wi1.succ (Wi1.succ (Wi1.succ (Wi1.succ (Wi1.succ (Wi1.succ (Wi1.succ (Wi1.succ (Wi1.succ (Wi1.succ (Wi1.succ (Wi1.succ (Wi1.zero))))))))))))))))))) | exact Wi1.succ (Wi1.succ (Wi1.succ (Wi1.succ (Wi1.succ (Wi1.succ (Wi1.succ (Wi1.succ (Wi1.succ (Wi1.succ (Wi1.succ (Wi1.succ (Wi1.succ (Wi1.succ (Wi1.succ (Wi1.succ (Wi1.succ (Wi1.succ (Wi1.succ (Wi1.succ (Wi1.zero)))))))))))))))))))) | exact Wi1.succ (Wi1.succ (Wi1.succ (Wi1.succ (Wi1.succ (Wi1.succ (Wi1.succ (Wi1.succ (Wi1.succ (Wi1.succ (Wi1.succ (Wi1.succ (Wi1.succ (Wi1.succ (Wi1.succ (Wi1.succ (Wi1.succ (Wi1.succ (Wi1.succ (Wi1.succ (Wi1.succ (Wi1.zero))))))))))))))))))))) | exact Wi1.succ (Wi1.succ (Wi1.succ (Wi1.succ (Wi1.succ (Wi1.succ (Wi1.succ (Wi1.succ (Wi1.succ (Wi1.succ (Wi1.succ (Wi1.succ (Wi1.succ (Wi1.succ (Wi1.succ (Wi1.succ (Wi1.succ (Wi1.succ (Wi1.succ (Wi1.succ (Wi1.succ (Wi1.succ (Wi1.zero)))))))))))))))))))))) | exact Wi1.succ (Wi1.succ (Wi1.succ (Wi1.succ (Wi1.succ (Wi1.succ (Wi1.succ (Wi1.succ (Wi1.succ (Wi1.succ (Wi1.succ (Wi1.succ (Wi1.succ (Wi1.succ (Wi1.succ (Wi1.succ (Wi1.succ (Wi1.succ (Wi1.succ (Wi1.succ (Wi1.succ (Wi1.succ (Wi1.succ (Wi1.zero))))))))))))))))))))))) | exact Wi1.succ (Wi1.succ (Wi1.succ (Wi1.succ (Wi1.succ (Wi1.succ (Wi1.succ (Wi1.succ (Wi1.succ (Wi1.succ (Wi1.succ (Wi1.succ (Wi1.succ (Wi1.succ (Wi1.succ (Wi1.succ (Wi1.succ (Wi1.succ (Wi1.succ (Wi1.succ (Wi1.succ (Wi1.succ (Wi1.succ (Wi1.succ (Wi1.zero)))))))))))))))))))))))) | exact Wi1.succ (Wi1.succ (Wi1.succ (Wi1.succ (Wi1.succ (Wi1.succ (Wi1.succ (Wi1.succ (Wi1.succ (Wi1.succ (Wi1.succ (Wi1.succ (Wi1.succ (Wi1.succ (Wi1.succ (Wi1.succ (Wi1.succ (Wi1.succ (Wi1.succ (Wi1.succ (Wi1.succ (Wi1.succ (Wi1.succ (Wi1.succ (Wi1.succ (Wi1.zero)))))))))))))))))))))))))))
set_option hygiene false in
local macro_rules | `(tactic| wtm_at "Dwis") => `(tactic| with_reducible (first | exact Wis.nil | exact Wis.cons Wis.nil (by wtm_at "Dwi1") | exact Wis.cons (Wis.cons Wis.nil (by wtm_at "Dwi1")) (by wtm_at "Dwi1") | exact Wis.cons (Wis.cons (Wis.cons Wis.nil (by wtm_at "Dwi1")) (by wtm_at "Dwi1")) (by wtm_at "Dwi1")))
set_option hygiene false in
local macro_rules | `(tactic| wtm_at "Dvis") => `(tactic| first | exact Or.inl rfl | exact Or.inr (Or.inl rfl) | exact Or.inr (Or.inr rfl))
set_option hygiene false in
local macro_rules | `(tactic| wtm_at "Dloc") => `(tactic| first | exact Or.inl rfl | exact Or.inr rfl)
set_option hygiene false in
local macro_rules | `(tactic| wtm_at "Drfl") => `(tactic| first | exact rfl | with_unfolding_all exact rfl)
set_option hygiene false in
local macro_rules | `(tactic| wtm_at "Ddec") => `(tactic| decide +kernel)
set_option hygiene false in
local macro_rules | `(tactic| wtm_at "Dlf") => `(tactic| exact Or.inl rfl)
set_option hygiene false in
local macro_rules | `(tactic| wtm_at "Dub") => `(tactic| (fail_if_success (with_reducible change Str.length (cutS (⟨#[54321]⟩ : Str) none none) ≤ _)); with_reducible first | exact ub_app (by wtm_at "Dub") (by wtm_at "Dub") | exact ub_cut (by wtm_at "Dub") | exact ub_one | assumption | exact Nat.le_of_eq (by assumption) | exact Nat.le_refl _)
set_option hygiene false in
local macro_rules | `(tactic| wtm_at "Dwl") => `(tactic| first | with_reducible assumption | exact len_small rfl | (simp only [sizeLine_eq] at *; omega) | ((with_reducible refine Nat.le_trans (by wtm_at "Dub") ?_); simp only [sizeLine_eq]; omega) | ((with_reducible refine ub_add (by wtm_at "Dub") (by wtm_at "Dub") ?_); simp only [sizeLine_eq]; omega))
set_option hygiene false in
local macro_rules | `(tactic| wtm_at "Dseqv") => `(tactic| first | (with_reducible exact SeqV.lst) | (with_reducible exact SeqV.tup) | (with_reducible exact SeqV.mu (by with_reducible assumption)))
set_option hygiene false in
local macro_rules | `(tactic| wtm_at "Dseql") => `(tactic| first | (with_reducible exact SeqL.lst) | (with_reducible exact SeqL.mu (by with_reducible assumption)))
set_option hygiene false in
local macro_rules | `(tactic| wtm_at "Dknown") => `(tactic| first | with_reducible assumption | with_unfolding_all exact rfl)
set_option hygiene false in
local macro_rules | `(tactic| wtm_at "Dboot") => `(tactic| with_reducible first | exact bt_isinstance | exact bt_len | exact bt_all | exact bt_any | exact bt_sum | exact bt_min | exact bt_max | exact bt_abs | exact bt_sorted | exact bt_divmod | exact bt_int | exact bt_str | exact bt_bool | exact bt_list | exact bt_tuple | exact bt_dict | exact bt_set | exact bt_range | exact bt_enumerate | exact bt_zip | exact bt_reversed)
set_option hygiene false in
local macro_rules | `(tactic| wtm_at "Dev") => `(tactic| ((with_reducible change EV _ _ _ _ _); first
  | ((with_reducible change EV _ (.Constant _ _ _) _ _ _); first | (exact ev_int) | (exact ev_str) | (exact ev_bl) | (exact ev_non))
  | ((with_reducible change EV _ (.Name _ _) _ _ _); first | (exact ev_var (by wtm_at "Dlk") (by wtm_at "Dvis")) | (exact ev_cst (by wtm_at "Drfl") (by with_reducible assumption) (by with_reducible assumption)) | (exact ev_ty (by wtm_at "Drfl") (by with_reducible assumption) (by wtm_at "Dboot")))
  | ((with_reducible change EV _ (.Call (.Name _ _) (_ :: _) [] _) _ _ _); first | (refine' ev_call (by with_reducible assumption) (Room.mono (by with_reducible assumption) (by decide)) (by wtm_at "Drfl") (by wtm_at "Drfl") (by wtm_at "Drfl") (by wtm_at "Drfl") ?_ ?_ ?_; (wtm_at "Dq")) | (refine' ev_callB (by wtm_at "Drfl") (by with_reducible assumption) (by wtm_at "Dboot") (by wtm_at "Drfl") (by wtm_at "Drfl") ?_ ?_; (wtm_at "Dq")) | (refine' ev_callTy (by wtm_at "Drfl") (by with_reducible assumption) (by wtm_at "Dboot") (by wtm_at "Drfl") (by wtm_at "Drfl") ?_ ?_; (wtm_at "Dq")))
  | ((with_reducible change EV _ (.Call (.Name _ _) [] [] _) _ _ _); refine' ev_call0 (by with_reducible assumption) (Room.mono (by with_reducible assumption) (by decide)) (by wtm_at "Drfl") ?_; (wtm_at "Dq"))
  | ((with_reducible change EV _ (.Call (.Attribute _ _ _) (_ :: _) [] _) _ _ _); first | (refine' ev_m PySem.F.plainAttrs_str PySem.F.slot_str_find PySem.F.type_str_find rfl rfl rfl rfl rfl ?_ ?_ ?_ ?_; (wtm_at "Dq")) | (refine' ev_m PySem.F.plainAttrs_str PySem.F.slot_str_index PySem.F.type_str_index rfl rfl rfl rfl rfl ?_ ?_ ?_ ?_; (wtm_at "Dq")))
  | ((with_reducible change EV _ (.BinOp _ _ _ _) _ _ _); refine' ev_op ?_ ?_ ?_; (wtm_at "Dq"))
  | ((with_reducible change EV _ (.UnaryOp .Not _ _) _ _ _); refine' ev_not ?_; (wtm_at "Dq"))
  | ((with_reducible change EV _ (.UnaryOp _ _ _) _ _ _); refine' ev_un ?_ ?_; (wtm_at "Dq"))
  | ((with_reducible change EV _ (.Compare _ [_] [_] _) _ _ _); refine' ev_cmp (by wtm_at "Drfl") ?_ ?_ ?_; (wtm_at "Dq"))
  | ((with_reducible change EV _ (.Compare _ [_, _] [_, _] _) _ _ _); refine' ev_chain (by wtm_at "Drfl") ?_ ?_ ?_ ?_ ?_; (wtm_at "Dq"))
  | ((with_reducible change EV _ (.BoolOp _ [_] _) _ _ _); refine' ev_one ?_; (wtm_at "Dq"))
  | ((with_reducible change EV _ (.BoolOp .And _ _) _ _ _); refine' ev_and ?_ ?_; (wtm_at "Dq"))
  | ((with_reducible change EV _ (.BoolOp .Or _ _) _ _ _); refine' ev_or ?_ ?_; (wtm_at "Dq"))
  | ((with_reducible change EV _ (.IfExp _ _ _ _) _ _ _); refine' ev_if ?_ ?_ ?_; (wtm_at "Dq"))
  | ((with_reducible change EV _ (.Tuple _ _ _) _ _ _); refine' ev_tup ?_ ?_; (wtm_at "Dq"))
  | ((with_reducible change EV _ (.List _ _) _ _ _); refine' ev_lst ?_ ?_; (wtm_at "Dq"))
  | ((with_reducible change EV _ (.Dict [] [] _) _ _ _); exact ev_dict0)
  | ((with_reducible change EV _ (.Dict [some _] [_] _) _ _ _); refine' ev_dict1s ?_ ?_; (wtm_at "Dq"))
  | ((with_reducible change EV _ (.ListComp _ [⟨.Name _ _, _, [], 0⟩] _ _) _ _ _); refine' ev_map1 rfl (by wtm_at "Dnd") (fun _ => rfl) (by wtm_at "Dwi1") (by wtm_at "Dblk") (by wtm_at "Dup") (fun _ _ _ _ _ => rfl) ?_ ?_ ?_; (wtm_at "Dq"))
  | ((with_reducible change EV _ (.ListComp _ [⟨.Name _ _, _, [_], 0⟩] _ _) _ _ _); refine' ev_filt1 rfl (by wtm_at "Dnd") (fun _ => rfl) (by wtm_at "Dwi1") (by wtm_at "Dblk") (by wtm_at "Dup") (fun _ _ _ _ _ => rfl) ?_ ?_ ?_ ?_; (wtm_at "Dq"))
  | ((with_reducible change EV _ (.ListComp _ [⟨.Tuple [_, _] _ _, _, [], 0⟩] _ _) _ _ _); refine' ev_map2 rfl (by wtm_at "Dnd") (fun _ => rfl) (by wtm_at "Dwi1") (by wtm_at "Dwi1") (by wtm_at "Dblk") (by wtm_at "Dup") (fun _ => by wtm_at "Dup") (fun _ _ _ _ _ => ⟨rfl, rfl⟩) ?_ ?_ ?_; (wtm_at "Dq"))
  | ((with_reducible change EV _ (.ListComp _ [⟨.Tuple [_, _] _ _, _, [_], 0⟩] _ _) _ _ _); refine' ev_filt2 rfl (by wtm_at "Dnd") (fun _ => rfl) (by wtm_at "Dwi1") (by wtm_at "Dwi1") (by wtm_at "Dblk") (by wtm_at "Dup") (fun _ => by wtm_at "Dup") (fun _ _ _ _ _ => ⟨rfl, rfl⟩) ?_ ?_ ?_ ?_; (wtm_at "Dq"))
  | ((with_reducible change EV _ (.Subscript _ (.Slice _ _ none _) _) _ _ _); refine' ev_slice ?_ ?_ ?_ ?_; (wtm_at "Dq"))
  | ((with_reducible change EV _ (.Subscript _ _ _) _ _ _); refine' ev_ix (fun _ _ => rfl) ?_ ?_ ?_; (wtm_at "Dq"))))
set_option hygiene false in
local macro_rules | `(tactic| wtm_at "Det1") => `(tactic| ((with_reducible change ET _ _ _ _ _); first
  | ((with_reducible change ET _ (.UnaryOp .Not _ _) _ _ _); refine' et_not ?_; (wtm_at "Dq"))
  | ((with_reducible change ET _ (.BoolOp _ _ _) _ _ _); refine' et_bool ?_; (wtm_at "Dq"))
  | ((with_reducible change ET _ (.Compare _ [_] [_] _) _ _ _); refine' et_cmp (by wtm_at "Drfl") ?_ ?_ ?_; (wtm_at "Dq"))
  | ((with_reducible change ET _ (.Compare _ [_, _] [_, _] _) _ _ _); refine' et_chain (by wtm_at "Drfl") ?_ ?_ ?_ ?_ ?_; (wtm_at "Dq"))
  | ((with_reducible change ET _ _ _ _ _); refine' et_truth (fun _ => rfl) ?_; (wtm_at "Dq"))))
set_option hygiene false in
local macro_rules | `(tactic| wtm_at "Det2") => `(tactic| ((with_reducible change EW _ _ _ _ _); first
  | ((with_reducible change EW _ (.BoolOp .And [_] _) _ _ _); refine' ew_one_and ?_; (wtm_at "Dq"))
  | ((with_reducible change EW _ (.BoolOp .Or [_] _) _ _ _); refine' ew_one_or ?_; (wtm_at "Dq"))
  | ((with_reducible change EW _ (.BoolOp .And _ _) _ _ _); refine' ew_and ?_ ?_; (wtm_at "Dq"))
  | ((with_reducible change EW _ (.BoolOp .Or _ _) _ _ _); refine' ew_or ?_ ?_; (wtm_at "Dq"))))
set_option hygiene false in
local macro_rules | `(tactic| wtm_at "Dlf2") => `(tactic| first | exact Or.inl rfl | exact Or.inr rfl)
set_option hygiene false in
local macro_rules | `(tactic| wtm_at "Det4") => `(tactic| ((with_reducible change EA _ _ _ _ _); first
  | ((with_reducible change EA _ [] _ _ _); exact ea_nil)
  | ((with_reducible change EA _ (_ :: _) _ _ _); refine' ea_cons (by wtm_at "Drfl") ?_ ?_; (wtm_at "Dq"))))
set_option hygiene false in
local macro_rules | `(tactic| wtm_at "Det5") => `(tactic| ((with_reducible change EG _ _ _ _ _ _); first
  | ((with_reducible change EG _ (.Name _ _) _ _ _ _); exact eg_name (by wtm_at "Ddec") (by wtm_at "Dup") (by wtm_at "Dloc") (by wtm_at "Dlf2"))
  | ((with_reducible change EG _ (.Tuple _ _ _) _ _ _ _); refine' eg_tup (by wtm_at "Drfl") (by wtm_at "Drfl") (by wtm_at "Drfl") (by wtm_at "Drfl") ?_; (wtm_at "Dq"))))
set_option hygiene false in
local macro_rules | `(tactic| wtm_at "Det6") => `(tactic| ((with_reducible change EGs _ _ _ _ _ _); first
  | ((with_reducible change EGs _ [] _ _ _ _); exact EGs.nil)
  | ((with_reducible change EGs _ (_ :: _) _ _ _ _); refine' EGs.cons (by wtm_at "Drfl") ?_ ?_; (wtm_at "Dq"))))
set_option hygiene false in
local macro_rules | `(tactic| wtm_at "Det3") => `(tactic| first
  | (with_reducible exact ea_nil)
  | (with_reducible exact eo_none)
  | (with_reducible refine' eo_some ?_; (wtm_at "Dq"))
  | (with_reducible exact ETs.nil)
  | (with_reducible refine' ETs.one ?_; (wtm_at "Dq"))
  | (with_reducible exact EGs.nil))
set_option hygiene false in
local macro_rules | `(tactic| wtm_at "Doe") => `(tactic| first
  | (with_reducible exact oe_addI)
  | (with_reducible exact oe_subI)
  | (with_reducible exact oe_modI (by omega))
  | (with_reducible exact oe_divI' (by omega) (by omega))
  | (with_reducible exact oe_mulA (by omega) (by omega))
  | (with_reducible exact oe_mulB (by omega) (by omega))
  | (with_reducible exact oe_mulI (by with_reducible assumption))
  | (with_reducible exact oe_modI (by decide +kernel))
  | (with_reducible exact oe_powI' (by decide) (by decide) (by decide))
  | (with_reducible exact oe_modI (by with_reducible assumption))
  | (with_reducible exact oe_divI (by with_reducible assumption))
  | (with_reducible exact ue_negI)
  | (with_reducible exact oe_ltI)
  | (with_reducible exact oe_leI)
  | (with_reducible exact oe_gtI)
  | (with_reducible exact oe_geI)
  | (with_reducible exact oe_ltS)
  | (with_reducible exact oe_leS)
  | (with_reducible exact oe_gtS)
  | (with_reducible exact oe_eqI)
  | (with_reducible exact oe_neI)
  | (with_reducible exact oe_eqS)
  | (with_reducible exact oe_neS)
  | (with_reducible exact oe_eqB)
  | (with_reducible exact oe_isB)
  | (with_reducible exact oe_isntB)
  | (with_reducible exact oe_isNn)
  | (with_reducible exact oe_isntNn)
  | (with_reducible exact oe_inSg)
  | (with_reducible exact ce_isInt (by wtm_at "Dknown"))
  | (with_reducible exact ce_isBool (by wtm_at "Dknown"))
  | (with_reducible exact ce_isStr (by wtm_at "Dknown"))
  | (with_reducible exact ce_isTup (by wtm_at "Dknown"))
  | (with_reducible exact ce_isLst (by wtm_at "Dknown"))
  | (with_reducible exact ce_isDict (by wtm_at "Dknown"))
  | (with_reducible exact ce_lenS (by wtm_at "Dwl"))
  | (with_reducible exact ce_lenM)
  | (with_reducible exact ce_lenMT)
  | (with_reducible exact ce_lenV (by wtm_at "Dseqv"))
  | (with_reducible exact ce_intB)
  | (with_reducible exact ce_allP (by wtm_at "Drfl"))
  | (with_reducible exact ce_anyP (by wtm_at "Drfl"))
  | (with_reducible exact ce_tupT)
  | (with_reducible exact ce_tup (by wtm_at "Dseql"))
  | (with_reducible exact ce_listT (by wtm_at "Dseqv"))
  | (with_reducible exact oe_inStrs (by wtm_at "Dseqv"))
  | (with_reducible exact oe_notInStrs (by wtm_at "Dseqv"))
  | (with_reducible exact ixe_b2s)
  | (with_reducible exact ixe_b2)
  | (with_reducible exact oe_neB2 (Room.units (by with_reducible assumption)))
  | (with_reducible exact oe_neT (Room.units (by with_reducible assumption)) ⟨rfl, rfl⟩ ⟨rfl, rfl⟩)
  | (with_reducible exact oe_eqT (Room.units (by with_reducible assumption)) ⟨rfl, rfl⟩ ⟨rfl, rfl⟩)
  | (with_reducible exact oe_addS (by wtm_at "Dwl"))
  | (with_reducible exact oe_addL (by wtm_at "Dseql") (by wtm_at "Dseql") (by wtm_at "Dwl"))
  | (with_reducible exact ix_seqE (by wtm_at "Dseqv") (by with_unfolding_all exact rfl))
  | (with_reducible exact ixe_ints (by omega) (by omega))
  | (with_reducible exact ixe_strs (by omega) (by omega))
  | (with_reducible exact ixe_str (by wtm_at "Dwl") (by omega) (by omega))
  | (with_reducible exact ixe_str (by wtm_at "Dwl") (by omega) (by simp only [length_app, length_one]; omega))
  | (with_reducible exact ixe_lst (by omega) (by simp only [List.length_cons, List.length_nil]; omega))
  | (with_reducible exact ce_divmod' (by omega) (by omega))
  | (with_reducible exact ce_abs)
  | (with_reducible exact me_find)
  | (with_reducible exact sl_strE (by wtm_at "Dwl"))
  | (with_reducible exact sl_lstE (by wtm_at "Dseql")))
set_option hygiene false in
local macro_rules | `(tactic| wtm_at "Dst1") => `(tactic| ((with_reducible change WS _ _ _ _ _); first
  | ((with_reducible change WS _ (.Return (some _) _) _ _ _); refine' wp_ret ?_ ?_; (wtm_at "Dq"))
  | ((with_reducible change WS _ (.Return none _) _ _ _); refine ws_retN ?_)
  | ((with_reducible change WS _ (.If _ _ _ _) _ _ _); refine' wp_if ?_ ?_; (wtm_at "Dq"))
  | ((with_reducible change WS _ (.Pass _) _ _ _); refine ws_pass ?_)
  | ((with_reducible change WS _ (.Assign [.Name _ _] _ _) _ _ _); refine' wp_set (by wtm_at "Dnd") (by wtm_at "Dup") (by wtm_at "Dloc") (by wtm_at "Drfl") (by wtm_at "Dlf") ?_ ?_; (wtm_at "Dq"))))
set_option hygiene false in
local macro_rules | `(tactic| wtm_at "Dst2") => `(tactic| ((with_reducible change WSs _ _ _ _ _); first
  | ((with_reducible change WSs _ [] _ _ _); refine wss_nil ?_)
  | ((with_reducible change WSs _ (_ :: _) _ _ _); refine wss_cons ?_)))
set_option hygiene false in
local macro_rules | `(tactic| wtm_at "Dbr") => `(tactic| (with_reducible change Br _ _ _); first
  | ((fail_if_success (with_reducible refine br_t ?_)); first
    | (with_reducible refine br_f ?_)
    | (with_reducible refine br_not ?_)
    | (with_reducible refine br_and ?_)
    | (with_reducible refine br_or ?_)
    | (with_reducible refine br_dec (fun hc => ?_) (fun hc => ?_))
    | (refine br_t ?_)
    | (refine br_f ?_)
    | (refine br_any (fun hc => ?_) (fun hc => ?_)))
  | ((fail_if_success (with_reducible refine br_f ?_)); (with_reducible refine br_t ?_)))
set_option hygiene false in
local macro_rules | `(tactic| wtm_at "Dim") => `(tactic| first
  | ((with_reducible change (_ : Bool) = false → _); first
    | ((fail_if_success (with_reducible change true = false → _)); first | (exact fun h => no_tf h) | intro hc)
    | ((fail_if_success (with_reducible change false = false → _)); first | (exact fun h => no_tf h)))
  | ((with_reducible change (_ : Bool) = true → _); first
    | ((fail_if_success (with_reducible change false = true → _)); first | (exact fun h => no_ft h) | intro hc)
    | ((fail_if_success (with_reducible change true = true → _)); first | (exact fun h => no_ft h)))
  | ((with_reducible change List.length _ = _); exact rfl))
set_option hygiene false in
local macro_rules | `(tactic| wtm_at "Dend") => `(tactic| first | exact false | exact D.non)
set_option hygiene false in
local macro_rules | `(tactic| wtm_at "Dfold") => `(tactic| intro _; rfl)
set_option hygiene false in
local macro_rules | `(tactic| wtm_at "Dnd") => `(tactic| with_reducible assumption)
set_option hygiene false in
local macro_rules | `(tactic| wtm_at "Dblk") => `(tactic| exact blkOk_by (by kernel_rfl))
set_option hygiene false in
local macro_rules | `(tactic| wtm_at "Diter") => `(tactic| with_reducible first | exact IterV.str | exact iterv_bl2 | exact IterV.lst | exact IterV.tup | exact IterV.mu (by with_reducible assumption) | exact iterv_bl2 | exact iterv_lst | exact iterv_tup | exact iterv_mu (by with_reducible assumption))
set_option hygiene false in
local macro_rules | `(tactic| wtm_at "Dei") => `(tactic| ((with_reducible change EI _ _ _ _ _ _); first
  | ((with_reducible change EI _ _ (.Call (.Name "range" _) [_] [] _) _ _ _); refine' ei_range1 (by wtm_at "Drfl") (by with_reducible assumption) (by wtm_at "Drfl") ?_ ?_ ?_; (wtm_at "Dq"))
  | ((with_reducible change EI _ _ (.Call (.Name "range" _) [_, _] [] _) _ _ _); refine' ei_range2 (by wtm_at "Drfl") (by with_reducible assumption) (by wtm_at "Drfl") (by wtm_at "Drfl") ?_ ?_; (wtm_at "Dq"))
  | ((with_reducible change EI _ _ _ _ _ _); refine' ei_any ?_ ?_; (wtm_at "Dq"))))
set_option hygiene false in
local macro_rules | `(tactic| wtm_at "Din") => `(tactic| first | ((with_reducible change ∀ a, a ∈ _ → Blk _ _ fun X => EV X _ _ _ _); intro a ha s H C cl fp; (with_reducible change EV _ _ _ _ _)) | ((with_reducible change ∀ a, a ∈ _ → Blk _ _ fun X => ET X _ _ _ _); intro a ha s H C cl fp; (with_reducible change ET _ _ _ _ _)) | ((with_reducible change ∀ a, a ∈ _ → _ = true → Blk _ _ fun X => EV X _ _ _ _); intro a ha hk s H C cl fp; (with_reducible change EV _ _ _ _ _)))
set_option hygiene false in
local macro_rules | `(tactic| wtm_at "Dtyd") => `(tactic| ((with_reducible change TyD _ _ _); (first | exact TyD.str _ | exact TyD.lst _ | exact TyD.ref (by with_reducible assumption) | exact TyD.dK (by with_reducible assumption) | exact TyD.dT (by with_reducible assumption))))
set_option hygiene false in
local macro_rules | `(tactic| wtm_at "Dlen") => `(tactic| ((with_reducible change _ ≤ sizeLine); wtm_at "Dwl"))
set_option hygiene false in
local macro_rules | `(tactic| wtm_at "Dse0") => `(tactic| fail)
set_option hygiene false in
local macro_rules | `(tactic| wtm_at "Dhis") => `(tactic| intro i hi; revert i hi; decide)
set_option hygiene false in
local macro_rules | `(tactic| wtm_at "Dp") => `(tactic| first | wtm_at "Dim" | wtm_at "Dev" | wtm_at "Det1" | wtm_at "Det2" | wtm_at "Dst1" | wtm_at "Dst2" | wtm_at "Dbr" | wtm_at "Dei" | wtm_at "Diter" | wtm_at "Din" | wtm_at "Dlen" | wtm_at "Dtyd" | wtm_at "Doe" | wtm_at "Dse" | wtm_at "Det4" | wtm_at "Det5" | wtm_at "Det6" | wtm_at "Det3")

set_option hygiene false in
local macro_rules | `(tactic| wtm_at "Dse") => `(tactic| with_reducible first | exact se_home (by assumption) (by omega) | exact se_whole | exact se_number (by assumption))
theorem cut63 {ns : List Int} (h : ns.length ≤ 63) : DS.cutD (ns.map D.int) none (some 63) = ns.map D.int := by
  have hl : (ns.map D.int).length = ns.length := List.length_map ..
  unfold DS.cutD
  rw [hl, show HT.sIx ns.length ns.length (some 63) = min 63 ns.length from HT.sIx_nat ns.length ns.length 63, HT.sIx_none, List.drop_zero, Nat.min_eq_right h, Nat.sub_zero, List.take_of_length_le (by omega)]
theorem sle63 {X : Cx} {M : MH} {ns : List Int} (hn : ns.length ≤ 63) : SlE X (.lst (ns.map .int)) none (some 63) M (.lst (ns.map .int)) := by
  have h := sl_lstE (X := X) (lo := none) (hi := some 63) (M := M) (SeqL.lst (M := M) (ds := ns.map D.int))
  rw [cut63 hn] at h
  exact h
section
variable {P : Program} {w : World} {K : PySem.W.Frag} {mg : Str → Option Value} {base : Heap}
theorem d_law {f : Addr} {fd : FuncData} (F : Fun K "law" "law" s_law f fd) (f1 : DFn P w K mg base 2 "home" 2 sp_home) (f2 : DFn P w K mg base 1 "_law_whole" 1 sp_whole) (f3 : DFn P w K mg base 1 "_law_value" 1 sp_value) (f4 : DFn P w K mg base 1 "_law_number" 1 sp_number) :
    FnOk P w K mg base CX0 3 f fd ["_law_script"] (spOf K 1 sp_law) := by
  refine fnd_ok F sc_law rfl (by decide) fun cdv A outer s H ds M Q hr hl hs => ?_
  obtain ⟨ns, rfl, hn, q⟩ := hs
  have hN := sc_law.nd
  show WSs _ _ [("_law_script", some (.lst (ns.map .int))), ("_law_cell", none), ("_law_houses", none), ("_law_value_here", none), ("_law_found", none)] M _
  refine wss_cons ?_
  refine wp_for (l := 5 :: ns) (c := D.int) [1] (fun n (ρ : Rho) => ∃ o1 o2 o3 o4 : Option D, ρ = ([("_law_script", some (.lst (ns.map .int))), ("_law_cell", o1), ("_law_houses", o2), ("_law_value_here", o3), ("_law_found", o4)] : Rho)) PassesOwn.never rfl (fun _ => rfl)
    (ei_list (d := .lst ([.int 5] ++ ns.map .int)) (ev_op (by repeat' wtm_at "Dp") (ev_slice (by repeat' wtm_at "Dp") (by repeat' wtm_at "Dp") (by repeat' wtm_at "Dp") (sle63 hn)) (oe_addL .lst .lst (by rw [List.length_map, sizeLine_eq]; show 1 + _ ≤ _; omega))) .lst) ⟨none, none, none, none, rfl⟩ ?_ ?_
  · rintro n a ρ' ha ⟨o1, o2, o3, o4, rfl⟩
    refine wg_name hN (by wtm_at "Dup") (by wtm_at "Dloc") (by wtm_at "Dlf2") ?_
    refine wss_cons (wp_set (d := .int (a % 10 ^ Int.toNat 60)) hN (by wtm_at "Dup") (by wtm_at "Dloc") (by wtm_at "Drfl") (by wtm_at "Dlf") (by repeat' wtm_at "Dp") ?_)
    refine wss_cons (wp_set hN (by wtm_at "Dup") (by wtm_at "Dloc") (by wtm_at "Drfl") (by wtm_at "Dlf") (by repeat' wtm_at "Dp") ?_)
    have hc0 : 0 ≤ a % 10 ^ Int.toNat 60 := Int.emod_nonneg _ (by decide)
    generalize a % 10 ^ Int.toNat 60 = c at hc0 ⊢
    obtain ⟨h, hh⟩ : ∃ h, h = 1 + c / 7 % 6 := ⟨_, rfl⟩
    rw [← hh]
    have hp : 0 < h := by omega
    refine wss_cons (ws_set hN (by wtm_at "Dup") (by wtm_at "Dloc") (by wtm_at "Drfl") (by wtm_at "Dlf") (we_call f3 (Room.mono hr (by decide)) rfl rfl rfl rfl (EA.wa (by repeat' wtm_at "Dp") ⟨rfl, c, rfl, hc0, fun d hd => ?_⟩)))
    have h1 : 0 ≤ valOf d % h := Int.emod_nonneg _ (by omega)
    have h2 : valOf d % h < h := Int.emod_lt_of_pos _ hp
    have h3 : (valOf d - valOf d % h) % h = 0 := Int.emod_eq_zero_of_dvd ⟨valOf d / h, by have := Int.emod_add_mul_ediv (valOf d) h; omega⟩
    have h4 : valOf d % 1 = 0 := Int.emod_one _
    repeat' wtm_at "Dp"
    all_goals first | exact ⟨rfl, _, _, _, _, rfl⟩ | (exfalso; contradiction)
  · rintro ρ' ⟨o1, o2, o3, o4, rfl⟩
    repeat' wtm_at "Dp"
    exact q
end
end K02
set_option Elab.async false
set_option linter.all false
set_option maxRecDepth 100000
set_option maxHeartbeats 4000000

namespace K02
open PySem PySem.Spec PyProof.Rows L2 TL DS
theorem all_mk {l : PySem.W.OpenLaw} {w : World} {K : PySem.W.Frag} {h : Heap} {mg : Str → Option Value} {fa : Addr} (X : K.In h) (G : h.Ns mainGlobals mg) (hfa : mg "law" = some (.ref fa))
    (h0 : Held K "number_of" s_number_of)
    (h1 : Held K "home" s_home)
    (h2 : Held K "_law_whole" s__law_whole)
    (h3 : Held K "_law_value" s__law_value)
    (h4 : Held K "_law_number" s__law_number)
    (hlaw : Held K "law" s_law)
    (n_bool : PySem.W.nsIn K mainGlobals "bool" = some none)
    (n_int : PySem.W.nsIn K mainGlobals "int" = some none)
    (n_isinstance : PySem.W.nsIn K mainGlobals "isinstance" = some none)
    (n_range : PySem.W.nsIn K mainGlobals "range" = some none)
    (n_reversed : PySem.W.nsIn K mainGlobals "reversed" = some none)
    (n_str : PySem.W.nsIn K mainGlobals "str" = some none)
    (c0 : HeldC K "LETTERS" (.str abc))
    : ∃ fd : FuncData, (∀ (s : Shared) (v : Value), BindsTo s fd ⟨[v], []⟩ [("_law_script", v)]) ∧ ∀ base : Heap, K.In base → base.Ns mainGlobals mg → FnOk l.prog w K mg base CX0 3 fa fd ["_law_script"] (spOf K 1 sp_law) := by
  obtain ⟨v0, gc0, cc0⟩ := c0.cst X G
  have z_bool : mg "bool" = none := PySem.W.mg_none_of X G n_bool
  have z_int : mg "int" = none := PySem.W.mg_none_of X G n_int
  have z_isinstance : mg "isinstance" = none := PySem.W.mg_none_of X G n_isinstance
  have z_range : mg "range" = none := PySem.W.mg_none_of X G n_range
  have z_reversed : mg "reversed" = none := PySem.W.mg_none_of X G n_reversed
  have z_str : mg "str" = none := PySem.W.mg_none_of X G n_str
  obtain ⟨fl, fdl, FL, al, _⟩ := hlaw.ex
  have e := hfa.symm.trans (PySem.W.mg_of X G al)
  cases e
  refine ⟨fdl, ?_, fun base _ _ => ?_⟩
  · intro s v
    obtain ⟨oc, od, kV, doc, pm, an, cdv, ct, osl, rfl, _⟩ := FL.ex
    exact .of_eq rfl
  have f0 : DFn l.prog w K mg base 1 "number_of" 1 sp_number_of := h0.dfn X G (ps := ["word"]) (fun _ _ _ _ _ _ us hl => match us, hl with | [_], _ => rfl) fun f fd F => by apply d_number_of <;> first | assumption | exact DFn.mono (by assumption) (by decide)
  have f1 : DFn l.prog w K mg base 2 "home" 2 sp_home := h1.dfn X G (ps := ["value", "houses"]) (fun _ _ _ _ _ _ us hl => match us, hl with | [_, _], _ => rfl) fun f fd F => by apply d_home <;> first | assumption | exact DFn.mono (by assumption) (by decide)
  have f2 : DFn l.prog w K mg base 1 "_law_whole" 1 sp_whole := h2.dfn X G (ps := ["_law_found"]) (fun _ _ _ _ _ _ us hl => match us, hl with | [_], _ => rfl) fun f fd F => by apply d_whole <;> first | assumption | exact DFn.mono (by assumption) (by decide)
  have f3 : DFn l.prog w K mg base 1 "_law_value" 1 sp_value := h3.dfn X G (ps := ["_law_cell"]) (fun _ _ _ _ _ _ us hl => match us, hl with | [_], _ => rfl) fun f fd F => by apply d_value <;> first | assumption | exact DFn.mono (by assumption) (by decide)
  have f4 : DFn l.prog w K mg base 1 "_law_number" 1 sp_number := h4.dfn X G (ps := ["_law_value_here"]) (fun _ _ _ _ _ _ us hl => match us, hl with | [_], _ => rfl) fun f fd F => by apply d_number <;> first | assumption | exact DFn.mono (by assumption) (by decide)
  apply d_law <;> first | assumption | exact DFn.mono (by assumption) (by decide)
end K02
open PySem PySem.W PyProof.Rows
set_option maxHeartbeats 0 in
theorem PySem.Challenge.cw_shardask_k02_homes_holds : PySem.Challenge.rw_shardask_k02_homes.Holds := by
  w_on; o_law; k_head; (case hw => w_witness2)
  k_fill
  refine L2.walk_of (l := PySem.Challenge.rw_shardask_k02_homes) (n := 63) (k := 3) (x := "_law_script") (CX := fun _ => L2.CX0) (sp := fun w => DS.spOf _ 1 K02.sp_law) rfl (by decide) rfl ⟨rfl, by decide, by decide⟩ (fun w h Y => PySem.W.kIn_of Y) ?F (fun _ _ a ns hl _ hS => DS.law_start hS ⟨ns, rfl, hl, rfl⟩) (fun _ _ _ _ _ h => h)
  case F =>
    intro w mg fa h KX G hmg
    refine' K02.all_mk KX G hmg ?h0 ?h1 ?h2 ?h3 ?h4 ?plaw ?n_bool ?n_int ?n_isinstance ?n_range ?n_reversed ?n_str ?kc0
    (case h0 => exact DS.held_mk (by k_is) (by k_is) (by k_is) (by k_is))
    (case h1 => exact DS.held_mk (by k_is) (by k_is) (by k_is) (by k_is))
    (case h2 => exact DS.held_mk (by k_is) (by k_is) (by k_is) (by k_is))
    (case h3 => exact DS.held_mk (by k_is) (by k_is) (by k_is) (by k_is))
    (case h4 => exact DS.held_mk (by k_is) (by k_is) (by k_is) (by k_is))
    (case plaw => exact DS.held_mk (by k_is) (by k_is) (by k_is) (by k_is))
    (case n_bool => k_is)
    (case n_int => k_is)
    (case n_isinstance => k_is)
    (case n_range => k_is)
    (case n_reversed => k_is)
    (case n_str => k_is)
    (case kc0 => exact DS.heldc_str (by k_is))
