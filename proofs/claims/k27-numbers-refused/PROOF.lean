import PyProof.Rows.All
import Wide.All
import OpenK.AllK
import Wide.FinOn
import HandS.ForMost
import HandS.Style
import HandS.TupAny
import HandS.TupMul
import HandS.Sort
import HandS.IsInst
import HandS.Flow
import HandS.Star
import HandS.Wide
import HandS.Deep
import HandS.NoneIn
import HandS.Text
import HandS.Exc
import HandS.WordsExc
import HandS.Head0
import HandS.Head1
import HandS.Head2
import HandS.HeadEnd
import PyProof.ReprRoads
import HandS.HeadHook1
import HandS.SortRule
import HandS.Iter
import KE.GoesMore
import HandS.SortInts
import KE.KTupSum
import HandS.Conv
import HandS.SetFor
import KE.KDictZip
import HandS.RevTup
import HandS.ExcValue
import HandS.Dict
import HandS.ExcInit
import HandS.ExcField
import KE.KExcIs
import KE.KExcInit
import HandS.TryMany
import PyProof.EqAt
import HandS.HeadHook2
import PyProof.ReprLen
import HandS.Strs
import KE.KRevSl
import PyProof.Rows.SetFrom
import KE.KIndexOf
import KE.DatumOrd
import PyProof.NeKinds
import KE.KStateDown
import HandS.Base
import HandS.Call
import HandS.Ends
import HandS.More
import HandS.Words
import HandS.Defaults
import HandS.HeadNt
import PySem.Challenge.RW_turnflags_k27_numbers_refused
set_option Elab.async false
set_option linter.all false
set_option maxRecDepth 100000
/-! Tf, part A: data, the store of lists that change, what stands for what. -/
namespace Tf
open PySem PySem.Spec PyProof.Rows L2

/-- a value as data: tuples and settled lists are written out; ref: a list that changes, an object -/
inductive D where
  | non | bl (b : Bool) | int (i : Int) | str (x : Str) | tup (ds : List D) | lst (ds : List D) | lsf (ds : List D) | dct (ks : List Str) (ds : List D) | ref (a : Addr) | fn (x : Str)

/-- an exception: its class, its field -/
structure Ex where
  c : Str
  f : List (Str × D)

abbrev DE := List (Option D)
abbrev Mu := Addr → Option (List D)
abbrev Post := D → Mu → Prop
abbrev XPost := Ex → Mu → Prop
abbrev Spec := List D → Mu → Post → XPost → Prop

def mput (μ : Mu) (a : Addr) (ds : List D) : Mu := fun b => if b = a then some ds else μ b
def mdel (μ : Mu) (a : Addr) : Mu := fun b => if b = a then none else μ b
/-- forgetting -/
def Sub (μ μ' : Mu) : Prop := ∀ a ds, μ a = some ds → μ' a = some ds
theorem Sub.refl (μ : Mu) : Sub μ μ := fun _ _ h => h
theorem Sub.trans {a b c : Mu} (x : Sub a b) (y : Sub b c) : Sub a c := fun p ds h => y p ds (x p ds h)
theorem mput_same {μ : Mu} {a : Addr} {ds : List D} : mput μ a ds a = some ds := by unfold mput; rw [if_pos rfl]
theorem mput_ne {μ : Mu} {a b : Addr} {ds : List D} (h : b ≠ a) : mput μ a ds b = μ b := by unfold mput; rw [if_neg h]
theorem mdel_same {μ : Mu} {a : Addr} : mdel μ a a = none := by unfold mdel; rw [if_pos rfl]
theorem mdel_ne {μ : Mu} {a b : Addr} (h : b ≠ a) : mdel μ a b = μ b := by unfold mdel; rw [if_neg h]
theorem mput_mput {μ : Mu} {a : Addr} {ds es : List D} : mput (mput μ a ds) a es = mput μ a es := by
  funext b; unfold mput; by_cases h : b = a <;> simp [h]
theorem mdel_mput {μ : Mu} {a : Addr} {ds : List D} : mdel (mput μ a ds) a = mdel μ a := by
  funext b; unfold mput mdel; by_cases h : b = a <;> simp [h]
theorem mdel_none {μ : Mu} {a : Addr} (h : μ a = none) : mdel μ a = μ := by
  funext b; unfold mdel; split
  · rename_i e; rw [e, h]
  · rfl
theorem sub_mput {μ : Mu} {a : Addr} {ds : List D} (h : μ a = none) : Sub μ (mput μ a ds) := fun b es e => by
  rw [mput_ne (fun z => by rw [z, h] at e; cases e)]; exact e
theorem mne {μ : Mu} {a b : Addr} {ds : List D} (h : μ a = some ds) (h' : μ b = none) : a ≠ b := fun e => by
  rw [e, h'] at h; cases h

section
variable (K : PySem.W.Frag)
mutual
inductive Rep : Hp → D → V → Prop
  | non {G} : Rep G .non .non
  | bl {G} (b : Bool) : Rep G (.bl b) (.bl b)
  | int {G} (i : Int) : Rep G (.int i) (.int i)
  | str {G} (x : Str) : Rep G (.str x) (.str x)
  | tup {G : Hp} {a : Addr} {vs : List V} {ds : List D} : SqT K G a vs → RepL G ds vs → Rep G (.tup ds) (.ref a)
  | lst {G : Hp} {a : Addr} {vs : List V} {ds : List D} : G a = some (.lst vs) → RepL G ds vs → Rep G (.lst ds) (.ref a)
  | lsf {G : Hp} {a : Addr} {vs : List V} {ds : List D} : SqL K G a vs → RepL G ds vs → Rep G (.lsf ds) (.ref a)
  | dct {G : Hp} {a : Addr} {vs : List V} {ks : List Str} {ds : List D} : G a = some (.dK ((ks.map Sum.inr).zip vs)) → ks.length = vs.length → RepL G ds vs → Rep G (.dct ks ds) (.ref a)
  | ref {G} (a : Addr) : Rep G (.ref a) (.ref a)
  | fn {G} (x : Str) : Rep G (.fn x) (.ref (He.ga K x))
inductive RepL : Hp → List D → List V → Prop
  | nil {G} : RepL G [] []
  | cons {G : Hp} {d : D} {v : V} {ds : List D} {vs : List V} : Rep G d v → RepL G ds vs → RepL G (d :: ds) (v :: vs)
end
end

section
variable {K : PySem.W.Frag} {G G' H : Hp}
theorem Same.sqT {a : Addr} {xs : List V} (e : Same G G') (h : SqT K G a xs) : SqT K G' a xs := by
  rcases h with (h | ⟨o, h⟩) | h
  · exact .inl (.inl (e _ _ h))
  · exact .inl (.inr ⟨o, e _ _ h⟩)
  · exact .inr h
mutual
theorem Rep.mono (e : Same G G') : ∀ {d : D} {v : V}, Rep K G d v → Rep K G' d v
  | _, _, .non => .non
  | _, _, .bl b => .bl b
  | _, _, .int i => .int i
  | _, _, .str x => .str x
  | _, _, .tup h r => .tup (Same.sqT e h) (RepL.mono e r)
  | _, _, .lst h r => .lst (e _ _ h) (RepL.mono e r)
  | _, _, .lsf h r => .lsf (Same.seq e h) (RepL.mono e r)
  | _, _, .dct h l r => .dct (e _ _ h) l (RepL.mono e r)
  | _, _, .ref a => .ref a
  | _, _, .fn x => .fn x
theorem RepL.mono (e : Same G G') : ∀ {ds : List D} {vs : List V}, RepL K G ds vs → RepL K G' ds vs
  | _, _, .nil => .nil
  | _, _, .cons h r => .cons (Rep.mono e h) (RepL.mono e r)
end
theorem RepL.length : ∀ {ds : List D} {vs : List V}, RepL K G ds vs → ds.length = vs.length
  | _, _, .nil => rfl
  | _, _, .cons _ r => by simp [RepL.length r]
theorem RepL.append : ∀ {ds es : List D} {vs ws : List V}, RepL K G ds vs → RepL K G es ws → RepL K G (ds ++ es) (vs ++ ws)
  | _, _, _, _, .nil, s => s
  | _, _, _, _, .cons h r, s => .cons h (RepL.append r s)
theorem RepL.get : ∀ {ds : List D} {vs : List V} {i : Nat} {d : D}, RepL K G ds vs → ds[i]? = some d → ∃ v, vs[i]? = some v ∧ Rep K G d v
  | _, _, _, _, .nil, e => by simp at e
  | _, _, 0, _, .cons h r, e => by simp at e; subst e; exact ⟨_, rfl, h⟩
  | _, _, i + 1, d, .cons h r, e => by
    obtain ⟨v, h1, h2⟩ := RepL.get (i := i) r (by simpa using e)
    exact ⟨v, by simpa using h1, h2⟩
theorem RepL.getV : ∀ {ds : List D} {vs : List V} {i : Nat} {v : V}, RepL K G ds vs → vs[i]? = some v → ∃ d, ds[i]? = some d ∧ Rep K G d v
  | _, _, _, _, .nil, e => by simp at e
  | _, _, 0, _, .cons h r, e => by simp at e; subst e; exact ⟨_, rfl, h⟩
  | _, _, i + 1, d, .cons h r, e => by
    obtain ⟨v, h1, h2⟩ := RepL.getV (i := i) r (by simpa using e)
    exact ⟨v, by simpa using h1, h2⟩
theorem RepL.set {d : D} {v : V} (h : Rep K G d v) : ∀ {ds : List D} {vs : List V} (i : Nat), RepL K G ds vs → RepL K G (ds.set i d) (vs.set i v)
  | _, _, _, .nil => .nil
  | _, _, 0, .cons _ r => .cons h r
  | _, _, i + 1, .cons q r => .cons q (RepL.set h i r)
theorem RepL.take : ∀ {ds : List D} {vs : List V} (n : Nat), RepL K G ds vs → RepL K G (ds.take n) (vs.take n)
  | _, _, 0, _ => .nil
  | _, _, _ + 1, .nil => .nil
  | _, _, n + 1, .cons h r => .cons h (RepL.take n r)
theorem RepL.drop : ∀ {ds : List D} {vs : List V} (n : Nat), RepL K G ds vs → RepL K G (ds.drop n) (vs.drop n)
  | _, _, 0, r => r
  | _, _, _ + 1, .nil => .nil
  | _, _, n + 1, .cons _ r => RepL.drop n r
theorem RepL.snoc {ds : List D} {vs : List V} {d : D} {v : V} (r : RepL K G ds vs) (h : Rep K G d v) : RepL K G (ds ++ [d]) (vs ++ [v]) := r.append (.cons h .nil)
theorem RepL.reverse : ∀ {ds : List D} {vs : List V}, RepL K G ds vs → RepL K G ds.reverse vs.reverse
  | _, _, .nil => .nil
  | _, _, .cons h r => by
    rw [List.reverse_cons, List.reverse_cons]
    exact (RepL.reverse r).snoc h
theorem RepL.flatRep {ds : List D} {vs : List V} (r : RepL K G ds vs) : ∀ n : Nat, RepL K G (List.replicate n ds).flatten (List.replicate n vs).flatten
  | 0 => .nil
  | n + 1 => by
    rw [List.replicate_succ, List.replicate_succ, List.flatten_cons, List.flatten_cons]
    exact r.append (RepL.flatRep r n)
theorem RepL.ints : ∀ {ns : List Int}, RepL K G (ns.map D.int) (ns.map V.int)
  | [] => .nil
  | n :: ns => .cons (.int n) RepL.ints
theorem RepL.ints_eq : ∀ {ns : List Int} {vs : List V}, RepL K G (ns.map D.int) vs → vs = ns.map V.int
  | [], _, .nil => rfl
  | n :: ns, _, .cons (.int _) r => by rw [RepL.ints_eq r]; rfl
end

/-- what stands: G settled, μ changing, Φ others' -/
structure Rel (K : PySem.W.Frag) (G : Hp) (μ : Mu) (Φ : Hp) (H : Hp) : Prop where
  sub : Same G H
  chg : ∀ a ds, μ a = some ds → G a = none ∧ ∃ vs, H a = some (.lst vs) ∧ RepL K G ds vs
  frm : ∀ a o, Φ a = some o → H a = some o ∧ G a = none ∧ μ a = none

section
variable {K : PySem.W.Frag} {G H Φ : Hp} {μ : Mu}
theorem Rel.mnone (r : Rel K G μ Φ H) {p : Addr} (h : H p = none) : μ p = none := by
  cases e : μ p with
  | none => rfl
  | some ds => obtain ⟨_, vs, q, _⟩ := r.chg p ds e; rw [h] at q; cases q
theorem Rel.gnone (r : Rel K G μ Φ H) {p : Addr} (h : H p = none) : G p = none := by
  cases e : G p with
  | none => rfl
  | some o => rw [r.sub p o e] at h; cases h
theorem Rel.fnone (r : Rel K G μ Φ H) {p : Addr} (h : H p = none) : Φ p = none := by
  cases e : Φ p with
  | none => rfl
  | some o => rw [(r.frm p o e).1] at h; cases h
theorem same_upd' {G : Hp} {p : Addr} {o : HO} (h : G p = none) : Same G (upd G p o) := fun b x e => by
  rw [upd_ne (ne_of_none e h)]; exact e
/-- a new settled object -/
theorem Rel.new (r : Rel K G μ Φ H) {p : Addr} (h : H p = none) (o : HO) : Same G (upd G p o) ∧ Rel K (upd G p o) μ Φ (upd H p o) := by
  have hg := r.gnone h
  refine ⟨same_upd' hg, ⟨fun b x e => ?_, fun a ds e => ?_, fun a x e => ?_⟩⟩
  · by_cases hb : b = p
    · subst hb; rw [upd_same] at e ⊢; exact e
    · rw [upd_ne hb] at e ⊢; exact r.sub b x e
  · obtain ⟨q1, vs, q2, q3⟩ := r.chg a ds e
    have na : a ≠ p := ne_of_none q2 h
    exact ⟨by rw [upd_ne na]; exact q1, vs, by rw [upd_ne na]; exact q2, q3.mono (same_upd' hg)⟩
  · obtain ⟨q1, q2, q3⟩ := r.frm a x e
    have na : a ≠ p := ne_of_none q1 h
    exact ⟨by rw [upd_ne na]; exact q1, by rw [upd_ne na]; exact q2, q3⟩
/-- a new object of others -/
theorem Rel.newF (r : Rel K G μ Φ H) {p : Addr} (h : H p = none) (o : HO) : Rel K G μ (upd Φ p o) (upd H p o) := by
  have hg := r.gnone h
  refine ⟨fun b x e => ?_, fun a ds e => ?_, fun a x e => ?_⟩
  · rw [upd_ne (ne_of_none e hg)]; exact r.sub b x e
  · obtain ⟨q1, vs, q2, q3⟩ := r.chg a ds e
    exact ⟨q1, vs, by rw [upd_ne (ne_of_none q2 h)]; exact q2, q3⟩
  · by_cases ha : a = p
    · subst ha; rw [upd_same] at e ⊢; exact ⟨e, hg, r.mnone h⟩
    · rw [upd_ne ha] at e ⊢; exact r.frm a x e
/-- others change theirs -/
theorem Rel.setF (r : Rel K G μ Φ H) {p : Addr} {o : HO} (h : Φ p = some o) (o' : HO) : Rel K G μ (upd Φ p o') (upd H p o') := by
  obtain ⟨h1, h2, h3⟩ := r.frm p o h
  refine ⟨fun b x e => ?_, fun a ds e => ?_, fun a x e => ?_⟩
  · rw [upd_ne (ne_of_none e h2)]; exact r.sub b x e
  · obtain ⟨q1, vs, q2, q3⟩ := r.chg a ds e
    have na : a ≠ p := fun z => by rw [z, h3] at e; cases e
    exact ⟨q1, vs, by rw [upd_ne na]; exact q2, q3⟩
  · by_cases ha : a = p
    · subst ha; rw [upd_same] at e ⊢; exact ⟨e, h2, h3⟩
    · rw [upd_ne ha] at e ⊢; exact r.frm a x e
/-- others settle theirs -/
theorem Rel.settleF (r : Rel K G μ Φ H) {p : Addr} {o : HO} (h : H p = some o) (hg : G p = none) (hm : μ p = none) {Φ' : Hp} (hf : ∀ a x, Φ' a = some x → Φ a = some x) (hp : Φ' p = none) : Same G (upd G p o) ∧ Rel K (upd G p o) μ Φ' H := by
  refine ⟨same_upd' hg, ⟨fun b x e => ?_, fun a ds e => ?_, fun a x e => ?_⟩⟩
  · by_cases hb : b = p
    · subst hb; rw [upd_same] at e; cases e; exact h
    · rw [upd_ne hb] at e; exact r.sub b x e
  · obtain ⟨q1, vs, q2, q3⟩ := r.chg a ds e
    have na : a ≠ p := fun z => by rw [z, hm] at e; cases e
    exact ⟨by rw [upd_ne na]; exact q1, vs, q2, q3.mono (same_upd' hg)⟩
  · obtain ⟨q1, q2, q3⟩ := r.frm a x (hf a x e)
    have na : a ≠ p := fun z => by rw [z, hp] at e; cases e
    exact ⟨q1, by rw [upd_ne na]; exact q2, q3⟩
/-- a new list that will change -/
theorem Rel.newM (r : Rel K G μ Φ H) {p : Addr} (h : H p = none) {ds : List D} {vs : List V} (q : RepL K G ds vs) : Rel K G (mput μ p ds) Φ (upd H p (.lst vs)) := by
  have hg := r.gnone h
  refine ⟨fun b x e => ?_, fun a es e => ?_, fun a x e => ?_⟩
  · rw [upd_ne (ne_of_none e hg)]; exact r.sub b x e
  · by_cases ha : a = p
    · subst ha; rw [mput_same] at e; cases e
      exact ⟨hg, vs, upd_same, q⟩
    · rw [mput_ne ha] at e
      obtain ⟨q1, ws, q2, q3⟩ := r.chg a es e
      exact ⟨q1, ws, by rw [upd_ne ha]; exact q2, q3⟩
  · obtain ⟨q1, q2, q3⟩ := r.frm a x e
    have na : a ≠ p := ne_of_none q1 h
    exact ⟨by rw [upd_ne na]; exact q1, q2, by rw [mput_ne na]; exact q3⟩
/-- others' list is ours to change -/
theorem Rel.toM (r : Rel K G μ Φ H) {p : Addr} {ds : List D} {vs : List V} (h : Φ p = some (.lst vs)) (q : RepL K G ds vs) {Φ' : Hp} (hf : ∀ a x, Φ' a = some x → Φ a = some x) (hp : Φ' p = none) : Rel K G (mput μ p ds) Φ' H := by
  obtain ⟨h1, h2, h3⟩ := r.frm p _ h
  refine ⟨r.sub, fun a es e => ?_, fun a x e => ?_⟩
  · by_cases ha : a = p
    · subst ha; rw [mput_same] at e; cases e
      exact ⟨h2, vs, h1, q⟩
    · rw [mput_ne ha] at e
      exact r.chg a es e
  · obtain ⟨q1, q2, q3⟩ := r.frm a x (hf a x e)
    have na : a ≠ p := fun z => by rw [z, hp] at e; cases e
    exact ⟨q1, q2, by rw [mput_ne na]; exact q3⟩
/-- a list changes -/
theorem Rel.set (r : Rel K G μ Φ H) {p : Addr} {ds es : List D} {ws : List V} (h : μ p = some ds) (q : RepL K G es ws) : Rel K G (mput μ p es) Φ (upd H p (.lst ws)) := by
  obtain ⟨hg, vs, hh, _⟩ := r.chg p ds h
  refine ⟨fun b x e => ?_, fun a fs e => ?_, fun a x e => ?_⟩
  · rw [upd_ne (ne_of_none e hg)]; exact r.sub b x e
  · by_cases ha : a = p
    · subst ha; rw [mput_same] at e; cases e
      exact ⟨hg, ws, upd_same, q⟩
    · rw [mput_ne ha] at e
      obtain ⟨q1, us, q2, q3⟩ := r.chg a fs e
      exact ⟨q1, us, by rw [upd_ne ha]; exact q2, q3⟩
  · obtain ⟨q1, q2, q3⟩ := r.frm a x e
    have na : a ≠ p := fun z => by rw [z, h] at q3; cases q3
    exact ⟨by rw [upd_ne na]; exact q1, q2, by rw [mput_ne na]; exact q3⟩
/-- a list that changed is settled -/
theorem Rel.settle (r : Rel K G μ Φ H) {p : Addr} {ds : List D} (h : μ p = some ds) : ∃ G', Same G G' ∧ Rel K G' (mdel μ p) Φ H ∧ Rep K G' (.lst ds) (.ref p) := by
  obtain ⟨hg, vs, hh, q⟩ := r.chg p ds h
  have s := same_upd' (o := HO.lst vs) hg
  refine ⟨upd G p (.lst vs), s, ⟨fun b x e => ?_, fun a fs e => ?_, fun a x e => ?_⟩, .lst upd_same (q.mono s)⟩
  · by_cases hb : b = p
    · subst hb; rw [upd_same] at e; cases e; exact hh
    · rw [upd_ne hb] at e; exact r.sub b x e
  · by_cases ha : a = p
    · subst ha; rw [mdel_same] at e; cases e
    · rw [mdel_ne ha] at e
      obtain ⟨q1, us, q2, q3⟩ := r.chg a fs e
      exact ⟨by rw [upd_ne ha]; exact q1, us, q2, q3.mono s⟩
  · obtain ⟨q1, q2, q3⟩ := r.frm a x e
    have na : a ≠ p := fun z => by rw [z, h] at q3; cases q3
    exact ⟨q1, by rw [upd_ne na]; exact q2, by rw [mdel_ne na]; exact q3⟩
/-- forgetting -/
theorem Rel.sub' (r : Rel K G μ Φ H) {μ' : Mu} (h : Sub μ' μ) : Rel K G μ' Φ H := by
  refine ⟨r.sub, fun a ds e => r.chg a ds (h a ds e), fun a x e => ?_⟩
  obtain ⟨q1, q2, q3⟩ := r.frm a x e
  refine ⟨q1, q2, ?_⟩
  cases z : μ' a with
  | none => rfl
  | some ds => rw [h a ds z] at q3; cases q3
theorem Rel.frmLess (r : Rel K G μ Φ H) {Φ' : Hp} (h : ∀ a o, Φ' a = some o → Φ a = some o) : Rel K G μ Φ' H := ⟨r.sub, r.chg, fun a x e => r.frm a x (h a x e)⟩
end

/-- a list that changes, looked at as data -/
def vw (μ : Mu) : D → D
  | .ref p => match μ p with | some ds => .lst ds | none => .ref p
  | d => d
theorem Rel.view {K : PySem.W.Frag} {G H Φ : Hp} {μ : Mu} (r : Rel K G μ Φ H) {d : D} {v : V} (h : Rep K G d v) : Rep K H (vw μ d) v := by
  cases h with
  | ref a =>
    unfold vw
    simp only []
    split
    · rename_i ds e
      obtain ⟨_, vs, hh, q⟩ := r.chg a ds e
      exact .lst hh (q.mono r.sub)
    · exact .ref a
  | non => exact .non
  | bl b => exact .bl b
  | int i => exact .int i
  | str x => exact .str x
  | tup a b => exact .tup (Same.sqT r.sub a) (b.mono r.sub)
  | lst a b => exact .lst (r.sub _ _ a) (b.mono r.sub)
  | lsf a b => exact .lsf (r.sub.seq a) (b.mono r.sub)
  | dct a b c => exact .dct (r.sub _ _ a) b (c.mono r.sub)
  | fn x => exact .fn x

/-- the slots -/
structure RelE (K : PySem.W.Frag) (G : Hp) (δ : DE) (σ : L2.St) : Prop where
  at_ : ∀ (i : Nat) (d : D), δ[i]? = some (some d) → ∃ v, σ[i]? = some (some v) ∧ Rep K G d v
  len : δ.length = σ.length
section
variable {K : PySem.W.Frag} {G G' : Hp} {δ δ' : DE} {σ : L2.St}
theorem RelE.mono (r : RelE K G δ σ) (e : Same G G') : RelE K G' δ σ := ⟨fun i d h => let ⟨v, h1, h2⟩ := r.at_ i d h; ⟨v, h1, h2.mono e⟩, r.len⟩
theorem RelE.set (r : RelE K G δ σ) {i : Nat} {d : D} {v : V} (h : Rep K G d v) : RelE K G (δ.set i (some d)) (σ.set i (some v)) := by
  refine ⟨fun j e hj => ?_, by simp [r.len]⟩
  by_cases hi : i = j
  · subst hi
    by_cases hl : i < δ.length
    · rw [List.getElem?_set_self hl] at hj
      cases hj
      exact ⟨v, by rw [List.getElem?_set_self (by rw [← r.len]; exact hl)], h⟩
    · rw [List.getElem?_eq_none (by rw [List.length_set]; omega)] at hj; cases hj
  · rw [List.getElem?_set_ne hi] at hj ⊢
    exact r.at_ j e hj
/-- some slots forgotten -/
def wip (δ : DE) : List Nat → DE
  | [] => δ
  | v :: vs => (wip δ vs).set v none
theorem wip_length (δ : DE) : ∀ vs : List Nat, (wip δ vs).length = δ.length
  | [] => rfl
  | v :: vs => by unfold wip; rw [List.length_set, wip_length δ vs]
theorem wip_some {δ : DE} {i : Nat} {x : D} : ∀ {vs : List Nat}, (wip δ vs)[i]? = some (some x) → δ[i]? = some (some x) ∧ i ∉ vs
  | [], h => ⟨h, by simp⟩
  | v :: vs, h => by
    unfold wip at h
    by_cases hi : v = i
    · subst hi
      by_cases hv : v < (wip δ vs).length
      · rw [List.getElem?_set_self hv] at h; cases h
      · rw [List.getElem?_eq_none (by simpa using hv)] at h; cases h
    · rw [List.getElem?_set_ne hi] at h
      obtain ⟨h1, h2⟩ := wip_some h
      exact ⟨h1, by simp only [List.mem_cons, not_or]; exact ⟨fun e => hi e.symm, h2⟩⟩
theorem RelE.wip (r : RelE K G δ σ) (vs : List Nat) : RelE K G (wip δ vs) σ := ⟨fun i d h => r.at_ i d (wip_some h).1, by rw [wip_length]; exact r.len⟩
theorem wipe_get {σ : L2.St} {i : Nat} : ∀ {vs : List Nat}, i ∉ vs → (wipe σ vs)[i]? = σ[i]?
  | [], _ => rfl
  | v :: vs, h => by
    unfold wipe
    rw [List.getElem?_set_ne (fun e => h (by simp [e]))]
    exact wipe_get fun e => h (by simp [e])
theorem RelE.wipe (r : RelE K G δ σ) (vs : List Nat) : RelE K G (Tf.wip δ vs) (wipe σ vs) := ⟨fun i d h => by
  obtain ⟨h1, h2⟩ := wip_some h
  obtain ⟨v, q1, q2⟩ := r.at_ i d h1
  exact ⟨v, by rw [wipe_get h2]; exact q1, q2⟩, by rw [wip_length, L2.wipe_length]; exact r.len⟩
end
end Tf

set_option Elab.async false
set_option linter.all false
set_option maxRecDepth 100000
/-! Tf, part B: a small language of the forms that the texts use, and what must hold so that a piece of it does what is wanted. -/
namespace Tf
open PySem PySem.Spec PyProof.Rows L2

inductive Bop where | add | sub | mul | fdiv | mod | pow | shl
inductive Cop where | eq | ne | lt | le | gt | ge | is_ | isNot | in_ | notIn
/-- built-in functions of written arguments -/
inductive Blt where | len | abs | min2 | max2 | sum | any | all | int | tuple | list | repr | str | sortI | sortP | minT | maxI | minI | listM
/-- targets -/
inductive IT where | nm (i : Nat) | tp (ts : List IT)

/-- where one stands, as far as the text tells: the names by slot, the scope, the built-in names that are still to be had, whether in a def's own body -/
structure Sc where
  N : List Str
  sc : Scope
  fr : List Str
  top : Bool
  k : Nat
  bl : Option Scope
/-- a cell that was made here -/
def Sc.own (c : Sc) (x : Str) : Bool := c.top || (match c.bl with | some s => s.names.lookup x == some .cell | none => false)

structure DEnds where
  nx : DE → Mu → Prop
  rt : Post
  bk : DE → Mu → Prop
  ct : DE → Mu → Prop
  ex : XPost

/-! forms of one's own: each tells how it looks in the text and what it does; that it does so is shown elsewhere (Ok) -/
structure Xo1 where
  chk : Sc → Expr → Option Expr
  w : D → Mu → XPost → Post → Prop
structure Xo2 where
  chk : Sc → Expr → Option (Expr × Expr)
  w : D → D → Mu → XPost → Post → Prop
structure XoA where
  chk : Sc → Expr → Option (List Expr)
  w : List D → Mu → XPost → Post → Prop
structure XoI where
  chk : Sc → Expr → Expr → Option (List Expr)
  w : List D → Mu → (List D → Prop) → Prop
structure XoS where
  chk : Sc → Stmt → Option (List Expr × List (List Stmt))
  w : List (DE → Mu → XPost → Post → Prop) → List (DE → Mu → DEnds → Prop) → DE → Mu → DEnds → Prop

inductive IE where
  | var (i : Nat)
  | cst (d : D)
  | glb (x : Str) (d : D)
  | bop (o : Bop) (a b : IE)
  | neg (a : IE)
  | not (a : IE)
  | cmp (o : Cop) (a b : IE)
  | chain (o1 o2 : Cop) (a b c : IE)
  | ands (es : List IE)
  | ors (es : List IE)
  | ite (c a b : IE)
  | call (x : Str) (sp : Spec) (es : List IE)
  | calll (i : Nat) (tab : List (Str × Spec)) (es : List IE)
  | callk (key : Str) (y : Str) (ks : List Str) (sp : Spec) (es : List IE) (zs : List IE)
  | blt (f : Blt) (es : List IE)
  | isi (ty : String) (a : IE)
  | sub (a i : IE)
  | slc (a : IE) (lo hi : Option IE)
  | rev (a : IE)
  | tup (es : List IE)
  | lst (m : Bool) (es : List IE)
  | star (a : IE)
  | comp (m : Bool) (own : List (Str × Nat)) (tg : IT) (it : IE) (cs : List IE) (e : IE)
  | dix (ks : List Str) (vs : List D) (a : IE)
  | frz (a : IE)
  | app (o e : IE)
  | ext (o e : IE)
  | pop (o : IE)
  | popAt (o i : IE)
  | tru (a : IE)
  | seq (a : IE)
  | range1 (a : IE)
  | range2 (a b : IE)
  | zip (a b : IE)
  | enum (a : IE)
  | tupZip (a b : IE)
  | lrg1 (m : Bool) (a : IE)
  | lrg2 (m : Bool) (a b : IE)
  | cntI (o a : IE)
  | idx (o a : IE)
  | x1 (o : Xo1) (a : IE)
  | x2 (o : Xo2) (a b : IE)
  | xa (o : XoA) (es : List IE)
  | xi (o : XoI) (es : List IE)

/-- exceptions as the text knows them: the class, its field, the classes that it is one of, some that it is none of -/
abbrev ETab := List (Str × Str × List Str × List Str)
/-- expressions of an except suite -/
inductive HE where
  | cst (d : D)
  | fld (f : Str)
  | isi (cs : List Str)
  | lst (es : List HE)
  | ite (c a b : HE)
  | and_ (a b : HE)
  | or_ (a b : HE)
  | not_ (a : HE)
  | var (i : Nat)
  | rpr (a : HE)
  | and3 (a b d : HE)
/-- statements of an except suite -/
inductive HS where
  | ret (e : HE)
  | asg (i : Nat) (e : HE)
  | ite (c : HE) (a b : List HS)

inductive IS where
  | asg (t : IT) (e : IE)
  | par (is : List Nat) (es : List IE)
  | aug (i : Nat) (o : Bop) (e : IE)
  | exp (e : IE)
  | set (o i e : IE)
  | ret (e : IE)
  | ret0
  | ite (c : IE) (a b : List IS)
  | for_ (tmp : List Nat) (t : IT) (it : IE) (body : List IS)
  | while_ (tmp : List Nat) (c : IE) (body : List IS)
  | pass_
  | brk
  | cnt
  | never
  | raise (c f : Str) (e : IE)
  | tryx (t : ETab) (body : List IS) (hds : List (Str × Nat × List HS))
  | xs (o : XoS) (es : List IE) (bs : List (List IS))

def look : DE → Nat → Option D
  | [], _ => none
  | x :: _, 0 => x
  | _ :: xs, n + 1 => look xs n
def put : DE → Nat → Option D → DE
  | [], _, _ => []
  | _ :: xs, 0, d => d :: xs
  | x :: xs, n + 1, d => x :: put xs n d
def unset (δ : DE) : List Nat → DE
  | [] => δ
  | v :: vs => put (unset δ vs) v none

/-- the line of sizes -/
abbrev sz : Nat := 16777216
def seqD : D → Option (List D)
  | .tup ds => some ds
  | .lst ds => some ds
  | .lsf ds => some ds
  | _ => none
def cutD {α : Type} (xs : List α) (lo hi : Option Int) : List α := (xs.drop (HT.sIx xs.length 0 lo)).take (HT.sIx xs.length xs.length hi - HT.sIx xs.length 0 lo)

/-! ### data as the library's data -/
mutual
def pd : D → PyData
  | .non => .none
  | .bl b => .bool b
  | .int i => .int i
  | .str x => .str x
  | .tup ds => .tuple (pds ds)
  | .lst ds => .list (pds ds)
  | .lsf ds => .list (pds ds)
  | .dct ks ds => .dict ((ks.map PyData.str).zip (pds ds))
  | .ref _ => .none
  | .fn _ => .none
def pds : List D → List PyData
  | [] => []
  | d :: ds => pd d :: pds ds
end
mutual
/-- no list that changes is in it, no dict -/
def flat : D → Bool
  | .non | .bl _ | .int _ | .str _ => true
  | .tup ds => flats ds
  | .lst ds => flats ds
  | .lsf ds => flats ds
  | .dct _ _ => false
  | .ref _ => false
  | .fn _ => false
def flats : List D → Bool
  | [] => true
  | d :: ds => flat d && flats ds
end
mutual
/-- plain things, tuples, lists and dicts of them -/
def flatM : D → Bool
  | .non | .bl _ | .int _ | .str _ => true
  | .tup ds => flatMs ds
  | .lst ds => flatMs ds
  | .lsf ds => flatMs ds
  | .dct ks ds => decide (ks.length = ds.length) && flatMs ds
  | .ref _ => false
  | .fn _ => false
def flatMs : List D → Bool
  | [] => true
  | d :: ds => flatM d && flatMs ds
end
/-- repr of it has room -/
def reprB (d : D) : Bool := flatM d && ((pd d).showable && (decide ((pd d).depth + 1 ≤ 100) && decide ((pd d).shown.length ≤ sz)))
/-- == of two values -/
def eqD (a b : D) : Bool := PyData.eqv (pd a) (pd b)

def truth : D → Option Bool
  | .non => some false
  | .bl b => some b
  | .int i => some (i != 0)
  | .tup ds => some (!ds.isEmpty)
  | .lst ds => some (!ds.isEmpty)
  | .lsf ds => some (!ds.isEmpty)
  | .str x => if x.length ≤ sz then some ((x.length : Int) != 0) else none
  | _ => none

def wBop (o : Bop) (a b : D) (μ : Mu) (Q : Post) : Prop :=
  match o, a, b with
  | .add, .int i, .int j => Q (.int (i + j)) μ
  | .sub, .int i, .int j => Q (.int (i - j)) μ
  | .mul, .int i, .int j => CMulW i j ∧ Q (.int (i * j)) μ
  | .fdiv, .int i, .int j => CDivW i j ∧ Q (.int (i / j)) μ
  | .mod, .int i, .int j => 0 < j ∧ Q (.int (i % j)) μ
  | .pow, .int i, .int j => CPow i j ∧ Q (.int (i ^ j.toNat)) μ
  | .shl, .int i, .int j => CPow i j ∧ Q (.int (i * 2 ^ j.toNat)) μ
  | .add, .tup xs, .tup ys => xs.length + ys.length ≤ sz ∧ Q (.tup (xs ++ ys)) μ
  | .add, .lst xs, .lst ys => xs.length + ys.length ≤ sz ∧ Q (.lst (xs ++ ys)) μ
  | .mul, .lst xs, .int k => 0 ≤ k ∧ k < 2 ^ 63 ∧ xs.length * k.toNat ≤ sz ∧ Q (.lst (List.replicate k.toNat xs).flatten) μ
  | .mul, .tup xs, .int k => xs ≠ [] ∧ 2 ≤ k ∧ k ≤ 1000 ∧ xs.length ≤ 1000 ∧ Q (.tup (List.replicate k.toNat xs).flatten) μ
  | _, _, _ => False

def scalD : D → D → Option Bool
  | .int i, .int j => some (decide (i = j))
  | .str x, .str y => some (decide (x = y))
  | .bl x, .bl y => some (decide (x = y))
  | .non, .non => some true
  | .non, .int _ | .int _, .non | .non, .str _ | .str _, .non | .non, .bl _ | .bl _, .non => some false
  | .int _, .str _ | .str _, .int _ | .bl _, .str _ | .str _, .bl _ => some false
  | _, _ => none
/-- in, of ints or of texts -/
def inD : D → List D → Option Bool
  | .int _, [] => some false
  | .str _, [] => some false
  | .int i, .int j :: ds => (inD (.int i) ds).map (decide (i = j) || ·)
  | .str x, .str y :: ds => (inD (.str x) ds).map (decide (x = y) || ·)
  | _, _ => none
/-- of two things to be compared -/
def EqOk (a : D) : Prop := flat a = true ∧ SeqAt.shaped (pd a) = true
def isL : D → Bool
  | .lst _ => true
  | .lsf _ => true
  | .tup _ => true
  | _ => false
/-- xs.index(y): the first place of an equal one -/
def wIdx (ds : List D) (y : D) (μ : Mu) (Q : Post) : Prop := EqOk y ∧ EqOk (.lst ds) ∧ ∃ (j : Nat) (z : D), ds[j]? = some z ∧ eqD z y = true ∧ (∀ (m : Nat) (z' : D), m < j → ds[m]? = some z' → eqD z' y = false) ∧ Q (.int (j : Nat)) μ
def wCop (o : Cop) (a b : D) (μ : Mu) (Q : Bool → Mu → Prop) : Prop :=
  match o with
  | .eq => match scalD a b with | some k => Q k μ | none => EqOk a ∧ EqOk b ∧ Q (eqD a b) μ
  | .ne => match scalD a b with | some k => Q (!k) μ | none => EqOk a ∧ EqOk b ∧ Q (!eqD a b) μ
  | .lt => match a, b with | .int i, .int j => Q (decide (i < j)) μ | _, _ => False
  | .le => match a, b with | .int i, .int j => Q (decide (i ≤ j)) μ | _, _ => False
  | .gt => match a, b with | .int i, .int j => Q (decide (j < i)) μ | _, _ => False
  | .ge => match a, b with | .int i, .int j => Q (decide (j ≤ i)) μ | _, _ => False
  | .is_ => match b with | .non => Q (match a with | .non => true | _ => false) μ | .bl k => (match a with | .bl j => Q (decide (j = k)) μ | _ => False) | _ => False
  | .isNot => match b with | .non => Q (match a with | .non => false | _ => true) μ | .bl k => (match a with | .bl j => Q (!decide (j = k)) μ | _ => False) | _ => False
  | .in_ => match seqD b with | some ds => (match inD a ds with | some k => Q k μ | none => isL b = true ∧ EqOk a ∧ EqOk (.lst ds) ∧ Q (ds.any fun z => eqD z a) μ) | none => False
  | .notIn => match seqD b with | some ds => (match inD a ds with | some k => Q (!k) μ | none => isL b = true ∧ EqOk a ∧ EqOk (.lst ds) ∧ Q (!ds.any fun z => eqD z a) μ) | none => False

/-- a text's room: repr -/
def ReprOk (a : D) : Prop := flat a = true ∧ PyData.showable (pd a) = true ∧ (pd a).depth + 1 ≤ 100 ∧ (pd a).shown.length ≤ sz

def intsD : List D → Option (List Int)
  | [] => some []
  | .int i :: ds => (intsD ds).map (i :: ·)
  | _ :: _ => none
def blsD : List D → Option (List Bool)
  | [] => some []
  | .bl b :: ds => (blsD ds).map (b :: ·)
  | _ :: _ => none
/-- pairs of ints -/
def pairD (p : Int × Int) : D := .tup [.int p.1, .int p.2]
def prsD : List D → Option (List (Int × Int))
  | [] => some []
  | .tup [.int i, .int j] :: ds => (prsD ds).map ((i, j) :: ·)
  | _ :: _ => none
def lexLe (x y : Int × Int) : Prop := x.1 < y.1 ∨ (x.1 = y.1 ∧ x.2 ≤ y.2)
/-- rows of ints -/
def rowsD : List D → Option (List (List Int))
  | [] => some []
  | .tup r :: ds => match intsD r with | some ns => (rowsD ds).map (ns :: ·) | none => none
  | _ :: _ => none

/-- built-in functions: of the arguments, changing lists looked at -/
def wBlt (f : Blt) (xs : List D) (μ : Mu) (Q : Post) : Prop :=
  match f, xs with
  | .len, [.tup ds] => Q (.int ds.length) μ
  | .len, [.lst ds] => Q (.int ds.length) μ
  | .len, [.lsf ds] => Q (.int ds.length) μ
  | .len, [.str x] => x.length ≤ sz ∧ Q (.int x.length) μ
  | .abs, [.int i] => Q (.int (if i < 0 then -i else i)) μ
  | .min2, [.int i, .int j] => Q (.int (if j < i then j else i)) μ
  | .max2, [.int i, .int j] => Q (.int (if j > i then j else i)) μ
  | .sum, [.lst ds] => match intsD ds with | some ns => Q (.int ns.sum) μ | none => False
  | .sum, [.tup ds] => match intsD ds with | some ns => Q (.int ns.sum) μ | none => False
  | .any, [.lst ds] => match blsD ds with | some bs => Q (.bl (bs.any id)) μ | none => False
  | .all, [.lst ds] => match blsD ds with | some bs => Q (.bl (bs.all id)) μ | none => False
  | .int, [.int i] => Q (.int i) μ
  | .int, [.bl b] => Q (.int (if b then 1 else 0)) μ
  | .tuple, [.lst ds] => Q (.tup ds) μ
  | .tuple, [.tup ds] => Q (.tup ds) μ
  | .list, [.lst ds] => Q (.lst ds) μ
  | .list, [.tup ds] => Q (.lst ds) μ
  | .listM, [.lst ds] => ∀ p, μ p = none → Q (.ref p) (mput μ p ds)
  | .listM, [.tup ds] => ∀ p, μ p = none → Q (.ref p) (mput μ p ds)
  | .repr, [a] => ReprOk a ∧ Q (.str (pd a).shown) μ
  | .sortI, [.lst ds] => match intsD ds with | some ns => ∀ ms : List Int, ms.Perm ns → ms.Pairwise (· ≤ ·) → Q (.lst (ms.map .int)) μ | none => False
  | .sortP, [.lst ds] => match prsD ds with | some ps => ∀ ms : List (Int × Int), ms.Perm ps → ms.Pairwise lexLe → Q (.lst (ms.map pairD)) μ | none => False
  | .maxI, [.lst ds] => match intsD ds with | some ns => ns ≠ [] ∧ ∀ m, m ∈ ns → (∀ y, y ∈ ns → y ≤ m) → Q (.int m) μ | none => False
  | .minI, [.lst ds] => match intsD ds with | some ns => ns ≠ [] ∧ ∀ m, m ∈ ns → (∀ y, y ∈ ns → m ≤ y) → Q (.int m) μ | none => False
  | _, _ => False

/-- isinstance of a value and a built-in class -/
def isiD (T : String) (d : D) : Option Bool :=
  match d with
  | .ref _ => none
  | .fn _ => none
  | .non => some false
  | .bl _ => some (T == "bool" || T == "int")
  | .int _ => some (T == "int")
  | .str _ => some (T == "str")
  | .tup _ => some (T == "tuple")
  | .lst _ => some (T == "list")
  | .lsf _ => some (T == "list")
  | .dct _ _ => some (T == "dict")

mutual
def wTg : IT → D → DE → (DE → Prop) → Prop
  | .nm i, d, δ, R => R (put δ i (some d))
  | .tp ts, d, δ, R => match d with
    | .tup ds => ds.length = ts.length ∧ wTgs ts ds δ R
    | .lst ds => ds.length = ts.length ∧ wTgs ts ds δ R
    | _ => False
def wTgs : List IT → List D → DE → (DE → Prop) → Prop
  | [], [], δ, R => R δ
  | t :: ts, d :: ds, δ, R => wTg t d δ fun δ1 => wTgs ts ds δ1 R
  | _, _, _, _ => False
end

/-- what a comprehension gathers -/
def wComp (stay : Mu → Prop) (f : D → Mu → (Option D → Mu → Prop) → Prop) : List D → Mu → (List D → Mu → Prop) → Prop
  | [], μ, R => stay μ ∧ R [] μ
  | x :: xs, μ, R => stay μ ∧ f x μ fun o μ1 => match o with
    | some y => wComp stay f xs μ1 fun ys μ2 => R (y :: ys) μ2
    | none => wComp stay f xs μ1 R
def noX : XPost := fun _ _ => False
def rgD (m n : Int) : List D := (List.range (n - m).toNat).map fun (i : Nat) => D.int (m + i)
/-- list(range(m, n)), handed on or changing -/
def wLrg (m : Bool) (i j : Int) (μ : Mu) (Q : Post) : Prop := (-(2 ^ 62) ≤ i ∧ i < 2 ^ 62 ∧ -(2 ^ 62) ≤ j ∧ j < 2 ^ 62 ∧ (j - i).toNat ≤ sz) ∧ match m with
    | true => ∀ p, μ p = none → Q (.ref p) (mput μ p (rgD i j))
    | false => Q (.lst (rgD i j)) μ

mutual
def wE : IE → DE → Mu → XPost → Post → Prop
  | .var i, δ, μ, _, Q => match look δ i with | some d => Q d μ | none => False
  | .cst d, _, μ, _, Q => Q d μ
  | .glb _ d, _, μ, _, Q => Q d μ
  | .bop o a b, δ, μ, E, Q => wE a δ μ E fun x μ1 => wE b δ μ1 E fun y μ2 => wBop o (vw μ2 x) (vw μ2 y) μ2 Q
  | .neg a, δ, μ, E, Q => wE a δ μ E fun x μ1 => match x with | .int i => Q (.int (-i)) μ1 | _ => False
  | .not a, δ, μ, E, Q => wE a δ μ E fun x μ1 => match truth (vw μ1 x) with | some k => Q (.bl (!k)) μ1 | none => False
  | .cmp o a b, δ, μ, E, Q => wE a δ μ E fun x μ1 => wE b δ μ1 E fun y μ2 => wCop o (vw μ2 x) (vw μ2 y) μ2 fun k μ3 => Q (.bl k) μ3
  | .chain o1 o2 a b c, δ, μ, E, Q => wE a δ μ E fun x μ1 => wE b δ μ1 E fun y μ2 => wCop o1 (vw μ2 x) (vw μ2 y) μ2 fun k μ3 => match k with
    | true => wE c δ μ3 E fun z μ4 => wCop o2 (vw μ4 y) (vw μ4 z) μ4 fun k2 μ5 => Q (.bl k2) μ5
    | false => Q (.bl false) μ3
  | .ands es, δ, μ, E, Q => wAnd es δ μ E Q
  | .ors es, δ, μ, E, Q => wOr es δ μ E Q
  | .ite c a b, δ, μ, E, Q => wT c δ μ E fun k μ1 => match k with | true => wE a δ μ1 E Q | false => wE b δ μ1 E Q
  | .call _ sp es, δ, μ, E, Q => wA es δ μ E fun ds μ1 => sp ds μ1 Q E
  | .calll i tab es, δ, μ, E, Q => match look δ i with
    | some (.fn y) => (match tab.lookup y with
      | some sp => wA es δ μ E fun ds μ1 => sp ds μ1 Q E
      | none => False)
    | _ => False
  | .callk _ _ ks sp es zs, δ, μ, E, Q => wA es δ μ E fun ds μ1 => wA zs δ μ1 E fun es2 μ2 => es2.length = ks.length ∧ sp (ds ++ es2) μ2 Q E
  | .blt f es, δ, μ, E, Q => wA es δ μ E fun ds μ1 => wBlt f (ds.map (vw μ1)) μ1 Q
  | .isi ty a, δ, μ, E, Q => wE a δ μ E fun x μ1 => match isiD ty (vw μ1 x) with | some k => Q (.bl k) μ1 | none => False
  | .sub a i, δ, μ, E, Q => wE a δ μ E fun x μ1 => wE i δ μ1 E fun k μ2 => match seqD (vw μ2 x), k with
    | some ds, .int j => match atI ds j with | some d => Q d μ2 | none => False
    | _, _ => False
  | .slc a lo hi, δ, μ, E, Q => wE a δ μ E fun x μ1 => wO lo δ μ1 E fun l μ2 => wO hi δ μ2 E fun h μ3 => match vw μ3 x with
    | .tup ds => Q (.tup (cutD ds l h)) μ3
    | .lst ds => Q (.lst (cutD ds l h)) μ3
    | .lsf ds => Q (.lst (cutD ds l h)) μ3
    | _ => False
  | .rev a, δ, μ, E, Q => wE a δ μ E fun x μ1 => match vw μ1 x with
    | .lst ds => Q (.lst ds.reverse) μ1
    | .tup ds => Q (.tup ds.reverse) μ1
    | _ => False
  | .tup es, δ, μ, E, Q => wA es δ μ E fun ds μ1 => ds.length ≤ sz ∧ Q (.tup ds) μ1
  | .lst m es, δ, μ, E, Q => wA es δ μ E fun ds μ1 => ds.length ≤ sz ∧ match m with
    | true => ∀ p, μ1 p = none → Q (.ref p) (mput μ1 p ds)
    | false => Q (.lst ds) μ1
  | .star _, _, _, _, _ => False
  | .comp m own tg it cs e, δ, μ, E, Q => wI it δ μ E fun items stay μ1 => items.length < sz ∧
      wComp stay (fun x μ2 R => wTg tg x (unset δ (own.map (·.2))) fun δ2 => wAll cs δ2 μ2 noX fun k μ3 => match k with
        | true => wE e δ2 μ3 noX fun y μ4 => R (some y) μ4
        | false => R none μ3) items μ1 fun ys μ2 => match m with
          | true => ∀ p, μ2 p = none → Q (.ref p) (mput μ2 p ys)
          | false => Q (.lst ys) μ2
  | .dix ks vs a, δ, μ, E, Q => wE a δ μ E fun x μ1 => match x with
    | .str k => match (ks.zip vs).lookup k with | some d => Q d μ1 | none => False
    | _ => False
  | .frz a, δ, μ, E, Q => wE a δ μ E fun x μ1 => match x with
    | .ref p => match μ1 p with | some ds => Q (.lst ds) (mdel μ1 p) | none => False
    | _ => False
  | .app o e, δ, μ, E, Q => wE o δ μ E fun x μ1 => match x with
    | .ref p => match μ1 p with
      | some _ => wE e δ μ1 E fun y μ2 => match μ2 p with | some ds => ds.length < sz ∧ Q .non (mput μ2 p (ds ++ [y])) | none => False
      | none => False
    | _ => False
  | .ext o e, δ, μ, E, Q => wE o δ μ E fun x μ1 => match x with
    | .ref p => match μ1 p with
      | some _ => wE e δ μ1 E fun y μ2 => match μ2 p, y with | some ds, .lst es => ds.length + es.length ≤ sz ∧ Q .non (mput μ2 p (ds ++ es)) | _, _ => False
      | none => False
    | _ => False
  | .pop o, δ, μ, E, Q => wE o δ μ E fun x μ1 => match x with
    | .ref p => match μ1 p with | some ds => (match ds.getLast? with | some y => Q y (mput μ1 p ds.dropLast) | none => False) | none => False
    | _ => False
  | .popAt o i, δ, μ, E, Q => wE o δ μ E fun x μ1 => match x with
    | .ref p => match μ1 p with
      | some _ => wE i δ μ1 E fun k μ2 => match μ2 p, k with
        | some ds, .int j => match ixN ds.length j with
          | some n => match ds[n]? with | some d => (-(2 ^ 63) ≤ j ∧ j < 2 ^ 63) ∧ Q d (mput μ2 p (ds.eraseIdx n)) | none => False
          | none => False
        | _, _ => False
      | none => False
    | _ => False
  | .tru _, _, _, _, _ => False
  | .seq _, _, _, _, _ => False
  | .range1 _, _, _, _, _ => False
  | .range2 _ _, _, _, _, _ => False
  | .zip _ _, _, _, _, _ => False
  | .enum _, _, _, _, _ => False
  | .tupZip a b, δ, μ, E, Q => wE a δ μ E fun x μ1 => wE b δ μ1 E fun y μ2 => match vw μ2 x, vw μ2 y with
    | .lst xs, .lst ys => Q (.tup (List.zipWith (fun p q => .tup [p, q]) xs ys)) μ2
    | _, _ => False
  | .lrg1 m a, δ, μ, E, Q => wE a δ μ E fun x μ1 => match x with
    | .int n => wLrg m 0 n μ1 Q
    | _ => False
  | .lrg2 m a b, δ, μ, E, Q => wE a δ μ E fun x μ1 => wE b δ μ1 E fun y μ2 => match x, y with
    | .int i, .int j => wLrg m i j μ2 Q
    | _, _ => False
  | .cntI o a, δ, μ, E, Q => wE o δ μ E fun x μ1 => match x with
    | .lst ds => match intsD ds with
      | some ns => wE a δ μ1 E fun y μ2 => match y with | .int k => Q (.int (ns.count k : Nat)) μ2 | _ => False
      | none => False
    | _ => False
  | .idx o a, δ, μ, E, Q => wE o δ μ E fun x μ1 => match x with
    | .lst ds => wE a δ μ1 E fun y μ2 => wIdx ds (vw μ2 y) μ2 Q
    | _ => False
  | .x1 o a, δ, μ, E, Q => wE a δ μ E fun x μ1 => o.w x μ1 E Q
  | .x2 o a b, δ, μ, E, Q => wE a δ μ E fun x μ1 => wE b δ μ1 E fun y μ2 => o.w x y μ2 E Q
  | .xa o es, δ, μ, E, Q => wA es δ μ E fun ds μ1 => o.w ds μ1 E Q
  | .xi _ _, _, _, _, _ => False
/-- a test -/
def wT : IE → DE → Mu → XPost → (Bool → Mu → Prop) → Prop
  | .not a, δ, μ, E, Q => wT a δ μ E fun k μ1 => Q (!k) μ1
  | .ands es, δ, μ, E, Q => wAll es δ μ E Q
  | .ors es, δ, μ, E, Q => wAny es δ μ E Q
  | .cmp o a b, δ, μ, E, Q => wE a δ μ E fun x μ1 => wE b δ μ1 E fun y μ2 => wCop o (vw μ2 x) (vw μ2 y) μ2 Q
  | .chain o1 o2 a b c, δ, μ, E, Q => wE a δ μ E fun x μ1 => wE b δ μ1 E fun y μ2 => wCop o1 (vw μ2 x) (vw μ2 y) μ2 fun k μ3 => match k with
    | true => wE c δ μ3 E fun z μ4 => wCop o2 (vw μ4 y) (vw μ4 z) μ4 Q
    | false => Q false μ3
  | .tru e, δ, μ, E, Q => wE e δ μ E fun x μ1 => match truth (vw μ1 x) with | some k => Q k μ1 | none => False
  | _, _, _, _, _ => False
def wAll : List IE → DE → Mu → XPost → (Bool → Mu → Prop) → Prop
  | [], _, μ, _, Q => Q true μ
  | e :: es, δ, μ, E, Q => wT e δ μ E fun k μ1 => match k with | true => wAll es δ μ1 E Q | false => Q false μ1
def wAny : List IE → DE → Mu → XPost → (Bool → Mu → Prop) → Prop
  | [], _, μ, _, Q => Q false μ
  | e :: es, δ, μ, E, Q => wT e δ μ E fun k μ1 => match k with | true => Q true μ1 | false => wAny es δ μ1 E Q
/-- and, or as values: all but the last are bools -/
def wAnd : List IE → DE → Mu → XPost → Post → Prop
  | [], _, _, _, _ => False
  | [e], δ, μ, E, Q => wE e δ μ E Q
  | e :: es, δ, μ, E, Q => wE e δ μ E fun x μ1 => match x with | .bl true => wAnd es δ μ1 E Q | .bl false => Q (.bl false) μ1 | _ => False
def wOr : List IE → DE → Mu → XPost → Post → Prop
  | [], _, _, _, _ => False
  | [e], δ, μ, E, Q => wE e δ μ E Q
  | e :: es, δ, μ, E, Q => wE e δ μ E fun x μ1 => match x with | .bl true => Q (.bl true) μ1 | .bl false => wOr es δ μ1 E Q | _ => False
def wA : List IE → DE → Mu → XPost → (List D → Mu → Prop) → Prop
  | [], _, μ, _, R => R [] μ
  | .star a :: es, δ, μ, E, R => wE a δ μ E fun x μ1 => match seqD (vw μ1 x) with
    | some xs => wA es δ μ1 E fun ys μ2 => R (xs ++ ys) μ2
    | none => False
  | e :: es, δ, μ, E, R => wE e δ μ E fun x μ1 => wA es δ μ1 E fun ys μ2 => R (x :: ys) μ2
def wO : Option IE → DE → Mu → XPost → (Option Int → Mu → Prop) → Prop
  | none, _, μ, _, R => R none μ
  | some e, δ, μ, E, R => wE e δ μ E fun x μ1 => match x with | .int i => R (some i) μ1 | _ => False
/-- what a loop walks: its items, what must stay, the store -/
def wI : IE → DE → Mu → XPost → (List D → (Mu → Prop) → Mu → Prop) → Prop
  | .range1 a, δ, μ, E, R => wE a δ μ E fun x μ1 => match x with
    | .int n => -(2 ^ 62) ≤ n ∧ n < 2 ^ 62 ∧ R ((List.range n.toNat).map fun (i : Nat) => .int i) (fun _ => True) μ1
    | _ => False
  | .range2 a b, δ, μ, E, R => wE a δ μ E fun x μ1 => wE b δ μ1 E fun y μ2 => match x, y with
    | .int m, .int n => (-(2 ^ 62) ≤ m ∧ m < 2 ^ 62 ∧ -(2 ^ 62) ≤ n ∧ n < 2 ^ 62) ∧ R ((List.range (n - m).toNat).map fun (i : Nat) => .int (m + i)) (fun _ => True) μ2
    | _, _ => False
  | .enum a, δ, μ, E, R => wE a δ μ E fun x μ1 => match x with
    | .lst ds => R (ds.zipIdx.map fun p => .tup [.int (p.2 : Nat), p.1]) (fun _ => True) μ1
    | .tup ds => R (ds.zipIdx.map fun p => .tup [.int (p.2 : Nat), p.1]) (fun _ => True) μ1
    | .ref p => match μ1 p with | some ds => R (ds.zipIdx.map fun p => .tup [.int (p.2 : Nat), p.1]) (fun μ => μ p = some ds) μ1 | none => False
    | _ => False
  | .zip a b, δ, μ, E, R => wE a δ μ E fun x μ1 => wE b δ μ1 E fun y μ2 => match x, y with
    | .lst xs, .lst ys => R (List.zipWith (fun p q => .tup [p, q]) xs ys) (fun _ => True) μ2
    | _, _ => False
  | .seq e, δ, μ, E, R => wE e δ μ E fun x μ1 => match x with
    | .lst ds => R ds (fun _ => True) μ1
    | .lsf ds => R ds (fun _ => True) μ1
    | .tup ds => R ds (fun _ => True) μ1
    | .ref p => match μ1 p with | some ds => R ds (fun μ => μ p = some ds) μ1 | none => False
    | _ => False
  | .xi o es, δ, μ, E, R => wA es δ μ E fun ds μ1 => o.w ds μ1 fun items => R items (fun _ => True) μ1
  | _, _, _, _, _ => False
end
def wEs : List IE → List (DE → Mu → XPost → Post → Prop)
  | [] => []
  | e :: es => wE e :: wEs es

def wFor (stay : Mu → Prop) (tmp : List Nat) (t : IT) (body : DE → Mu → DEnds → Prop) (N : DEnds) : List D → DE → Mu → Prop
  | [], δ, μ => stay μ ∧ N.nx δ μ
  | x :: xs, δ, μ => stay μ ∧ wTg t x δ fun δ1 => body δ1 μ { nx := fun δ2 μ2 => wFor stay tmp t body N xs (unset δ2 tmp) μ2, rt := N.rt, bk := N.nx, ct := fun δ2 μ2 => wFor stay tmp t body N xs (unset δ2 tmp) μ2, ex := N.ex }
/-- by an invariant and a measure -/
def wWhile (tmp : List Nat) (c : DE → Mu → (Bool → Mu → Prop) → Prop) (body : DE → Mu → DEnds → Prop) (N : DEnds) (δ : DE) (μ : Mu) : Prop :=
  ∃ W : Nat → DE → Mu → Prop, (∃ m, W m (unset δ tmp) μ) ∧ ∀ m δ μ, W m δ μ → c δ μ fun k μ1 => match k with
    | true => body δ μ1 { nx := fun δ2 μ2 => ∃ m', m' < m ∧ W m' (unset δ2 tmp) μ2, rt := N.rt, bk := N.nx, ct := fun δ2 μ2 => ∃ m', m' < m ∧ W m' (unset δ2 tmp) μ2, ex := N.ex }
    | false => N.nx δ μ1

/-! except suites -/
def isT (t : ETab) (c d : Str) : Option Bool := match t.lookup c with
  | some (_, ys, ns) => if d ∈ ys then some true else if d ∈ ns then some false else none
  | none => none
def anyT (t : ETab) (c : Str) : List Str → Option Bool
  | [] => some false
  | d :: ds => match isT t c d, anyT t c ds with
    | some a, some b => some (a || b)
    | _, _ => none
mutual
def hE (t : ETab) (x : Ex) (δ : DE) : HE → Option D
  | .cst d => some d
  | .fld f => match t.lookup x.c, x.f with | some (g', _, _), [(g, d)] => if g = f ∧ g' = f then some d else none | _, _ => none
  | .isi cs => match x.f with | [_] => (anyT t x.c cs).map .bl | _ => none
  | .lst es => match hL t x δ es with | some ds => if ds.length ≤ 1000 then some (.lst ds) else none | none => none
  | .ite c a b => match hE t x δ c with | some (.bl true) => hE t x δ a | some (.bl false) => hE t x δ b | _ => none
  | .and_ a b => match hE t x δ a with | some (.bl true) => hE t x δ b | some (.bl false) => some (.bl false) | _ => none
  | .or_ a b => match hE t x δ a with | some (.bl true) => some (.bl true) | some (.bl false) => hE t x δ b | _ => none
  | .not_ a => match hE t x δ a with | some (.bl k) => some (.bl (!k)) | _ => none
  | .var i => match look δ i with | some (.ref _) => none | o => o
  | .and3 a b d => match hE t x δ a with | some (.bl true) => (match hE t x δ b with | some (.bl true) => hE t x δ d | some (.bl false) => some (.bl false) | _ => none) | some (.bl false) => some (.bl false) | _ => none
  | .rpr a => match hE t x δ a with | some d => if reprB d = true then some (.str (pd d).shown) else none | none => none
def hL (t : ETab) (x : Ex) (δ : DE) : List HE → Option (List D)
  | [] => some []
  | e :: es => match hE t x δ e, hL t x δ es with | some d, some ds => some (d :: ds) | _, _ => none
end
mutual
def hS (t : ETab) (x : Ex) : HS → DE → (DE → Prop) → (D → Prop) → Prop
  | .ret e, δ, _, R => match hE t x δ e with | some d => R d | none => False
  | .asg i e, δ, Q, _ => match hE t x δ e with | some d => Q (put δ i (some d)) | none => False
  | .ite c a b, δ, Q, R => match hE t x δ c with | some (.bl true) => hSs t x a δ Q R | some (.bl false) => hSs t x b δ Q R | _ => False
def hSs (t : ETab) (x : Ex) : List HS → DE → (DE → Prop) → (D → Prop) → Prop
  | [], δ, Q, _ => Q δ
  | s :: ss, δ, Q, R => hS t x s δ (fun δ1 => hSs t x ss δ1 Q R) R
end
/-- the clauses, one after the other -/
def wHds (t : ETab) (x : Ex) (L : Nat) (N : DEnds) (μ : Mu) : List (Str × Nat × List HS) → Prop
  | [] => N.ex x μ
  | (c, v, hs) :: r => match isT t x.c c with
    | some true => ∀ a, μ a = none → hSs t x hs (put (List.replicate L none) v (some (.ref a))) (fun δ1 => N.nx (put δ1 v none) μ) (fun d => N.rt d μ)
    | some false => wHds t x L N μ r
    | none => False

def putMany : List Nat → List D → DE → (DE → Prop) → Prop
  | [], [], δ, R => R δ
  | i :: is, d :: ds, δ, R => putMany is ds (put δ i (some d)) R
  | _, _, _, _ => False

mutual
def wS : IS → DE → Mu → DEnds → Prop
  | .asg t e, δ, μ, N => wE e δ μ N.ex fun x μ1 => wTg t (match t with | .nm _ => x | .tp _ => vw μ1 x) δ fun δ1 => N.nx δ1 μ1
  | .par is es, δ, μ, N => wA es δ μ N.ex fun ds μ1 => putMany is ds δ fun δ1 => N.nx δ1 μ1
  | .aug i o e, δ, μ, N => match look δ i with
    | some x => wE e δ μ N.ex fun y μ1 => match x, y with
      | .int a, .int b => wBop o (.int a) (.int b) μ1 fun z μ2 => N.nx (put δ i (some z)) μ2
      | _, _ => False
    | none => False
  | .exp e, δ, μ, N => wE e δ μ N.ex fun _ μ1 => N.nx δ μ1
  | .set o i e, δ, μ, N => wE e δ μ N.ex fun v μ1 => wE o δ μ1 N.ex fun x μ2 => wE i δ μ2 N.ex fun k μ3 => match x, k with
    | .ref p, .int j => match μ3 p with
      | some ds => match ixN ds.length j with | some n => N.nx δ (mput μ3 p (ds.set n v)) | none => False
      | none => False
    | _, _ => False
  | .ret e, δ, μ, N => wE e δ μ N.ex fun x μ1 => N.rt x μ1
  | .ret0, _, μ, N => N.rt .non μ
  | .ite c a b, δ, μ, N => wT c δ μ N.ex fun k μ1 => match k with | true => wB a δ μ1 N | false => wB b δ μ1 N
  | .for_ tmp t it body, δ, μ, N => wI it δ μ N.ex fun items stay μ1 => wFor stay tmp t (fun δ2 μ2 N2 => wB body δ2 μ2 N2) N items (unset δ tmp) μ1
  | .while_ tmp c body, δ, μ, N => wWhile tmp (fun δ2 μ2 Q => wT c δ2 μ2 N.ex Q) (fun δ2 μ2 N2 => wB body δ2 μ2 N2) N δ μ
  | .pass_, δ, μ, N => N.nx δ μ
  | .brk, δ, μ, N => N.bk δ μ
  | .cnt, δ, μ, N => N.ct δ μ
  | .never, _, _, _ => False
  | .raise c f e, δ, μ, N => wE e δ μ N.ex fun d μ1 => N.ex ⟨c, [(f, d)]⟩ μ1
  | .tryx t body hds, δ, μ, N => wB body δ μ { N with ex := fun x μ1 => wHds t x δ.length N μ1 hds }
  | .xs o es bs, δ, μ, N => o.w (wEs es) (wBs bs) δ μ N
def wBs : List (List IS) → List (DE → Mu → DEnds → Prop)
  | [] => []
  | b :: bs => (fun δ μ N => wB b δ μ N) :: wBs bs
def wB : List IS → DE → Mu → DEnds → Prop
  | [], δ, μ, N => N.nx δ μ
  | s :: ss, δ, μ, N => wS s δ μ { N with nx := fun δ1 μ1 => wB ss δ1 μ1 N }
end
end Tf

set_option Elab.async false
set_option linter.all false
set_option maxRecDepth 100000
set_option maxHeartbeats 4000000
/-! Tf, part C: the operators and built-in functions by values, from the layer's rules. -/
namespace Tf
open PySem PySem.Spec PyProof.Rows L2

section
variable {X : Cx}
theorem opOr {f : Value → Value → Sem Value} {r r' : R2} (h : OpR X f r) (h' : OpR X f r') : OpR X f (fun x y H Q => r x y H Q ∨ r' x y H Q) :=
  fun pins s σ H x y v u Q I rx ry q => q.elim (h pins s σ H x y v u Q I rx ry) (h' pins s σ H x y v u Q I rx ry)
theorem callOr {f : Value} {r r' : List V → Hp → VK → Prop} (h : CallR X f r) (h' : CallR X f r') : CallR X f (fun xs H Q => r xs H Q ∨ r' xs H Q) :=
  fun pins s σ H xs us Q I rx q => q.elim (h pins s σ H xs us Q I rx) (h' pins s σ H xs us Q I rx)

/-! ### two-place operators -/
def bopOf : Bop → Operator
  | .add => .Add | .sub => .Sub | .mul => .Mult | .fdiv => .FloorDiv | .mod => .Mod | .pow => .Pow | .shl => .LShift
def rB (K : PySem.W.Frag) : Bop → R2
  | .add => fun x y H Q => rI0 (fun i j => .int (i + j)) x y H Q ∨ (rCatA K x y H Q ∨ rCat x y H Q)
  | .sub => rI0 fun i j => .int (i - j)
  | .mul => fun x y H Q => rI CMulW (fun i j => .int (i * j)) x y H Q ∨ (rRep x y H Q ∨ rRepT K x y H Q)
  | .fdiv => rI CDivW fun i j => .int (i / j)
  | .mod => rI (fun _ j => 0 < j) fun i j => .int (i % j)
  | .pow => rI CPow fun i j => .int (i ^ j.toNat)
  | .shl => rI CPow fun i j => .int (i * 2 ^ j.toNat)
theorem opB : ∀ o : Bop, OpR X (binaryOp (bopOf o)) (rB X.K o)
  | .add => opOr op_add (opOr op_catA op_cat)
  | .sub => op_sub
  | .mul => opOr op_mulW (opOr op_rep op_repT)
  | .fdiv => op_fdivW
  | .mod => op_mod
  | .pow => op_pow
  | .shl => op_shl
end

/-! ### what is wanted behind -/
section
variable (K : PySem.W.Frag) (mg : Str → Option Value)
def Aft (G Φ : Hp) (R : Post) (Q : VK) : Prop := ∀ d μ' G' H' v, R d μ' → Same G G' → Rel K G' μ' Φ H' → Rep K G' d v → Q v H'
/-- an exception as data -/
def RepX (G : Hp) (ex : Ex) (cls : Value) (d : Option Addr) : Prop := ∃ C, mg ex.c = some (.ref C) ∧ cls = .ref C ∧
  match ex.f with
  | [] => d = none
  | [(f, x)] => ∃ a v, d = some a ∧ G a = some (.xd [(f, v)]) ∧ Rep K G x v
  | _ => False
def AftX (G Φ : Hp) (E : XPost) (W : Value → Option Addr → Hp → Prop) : Prop := ∀ ex μ' G' H' cls d, E ex μ' → Same G G' → Rel K G' μ' Φ H' → RepX K mg G' ex cls d → W cls d H'
end
section
variable {K : PySem.W.Frag} {mg : Str → Option Value} {G G' Φ H : Hp} {μ : Mu} {R : Post} {Q : VK} {E : XPost} {W : Value → Option Addr → Hp → Prop}
theorem Aft.mono (h : Aft K G Φ R Q) (e : Same G G') : Aft K G' Φ R Q := fun d μ' G2 H' v r s q p => h d μ' G2 H' v r (e.trans s) q p
theorem AftX.mono (h : AftX K mg G Φ E W) (e : Same G G') : AftX K mg G' Φ E W := fun x μ' G2 H' c d r s q p => h x μ' G2 H' c d r (e.trans s) q p
/-- a value without address -/
theorem Aft.val (h : Aft K G Φ R Q) (r : Rel K G μ Φ H) {d : D} {v : V} (q : R d μ) (p : Rep K G d v) : Q v H := h d μ G H v q (Same.refl G) r p
/-- a new settled tuple, list -/
theorem Aft.tup (h : Aft K G Φ R Q) (r : Rel K G μ Φ H) {ds : List D} {vs : List V} (q : R (.tup ds) μ) (p : RepL K H ds vs) (hG : RepL K G ds vs) : ∀ a, H a = none → Q (.ref a) (upd H a (.tup vs)) := fun a ha => by
  obtain ⟨s, r'⟩ := r.new ha (.tup vs)
  exact h _ μ _ _ _ q s r' (.tup (.inl (.inl upd_same)) (hG.mono s))
theorem Aft.lst (h : Aft K G Φ R Q) (r : Rel K G μ Φ H) {ds : List D} {vs : List V} (q : R (.lst ds) μ) (hG : RepL K G ds vs) : ∀ a, H a = none → Q (.ref a) (upd H a (.lst vs)) := fun a ha => by
  obtain ⟨s, r'⟩ := r.new ha (.lst vs)
  exact h _ μ _ _ _ q s r' (.lst upd_same (hG.mono s))
end

/-- a thing as it may be looked at: its items are settled -/
inductive View (K : PySem.W.Frag) (G H : Hp) : D → V → Prop
  | non : View K G H .non .non
  | bl (b : Bool) : View K G H (.bl b) (.bl b)
  | int (i : Int) : View K G H (.int i) (.int i)
  | str (x : Str) : View K G H (.str x) (.str x)
  | tup {a : Addr} {vs : List V} {ds : List D} : SqT K G a vs → RepL K G ds vs → View K G H (.tup ds) (.ref a)
  | lst {a : Addr} {vs : List V} {ds : List D} : H a = some (.lst vs) → RepL K G ds vs → View K G H (.lst ds) (.ref a)
  | lsf {a : Addr} {vs : List V} {ds : List D} : SqL K G a vs → RepL K G ds vs → View K G H (.lsf ds) (.ref a)
  | dct {a : Addr} {vs : List V} {ks : List Str} {ds : List D} : G a = some (.dK ((ks.map Sum.inr).zip vs)) → ks.length = vs.length → RepL K G ds vs → View K G H (.dct ks ds) (.ref a)
  | ref (a : Addr) : View K G H (.ref a) (.ref a)
  | fn (x : Str) : View K G H (.fn x) (.ref (He.ga K x))
theorem Rel.look {K : PySem.W.Frag} {G H Φ : Hp} {μ : Mu} (r : Rel K G μ Φ H) {d : D} {v : V} (h : Rep K G d v) : View K G H (vw μ d) v := by
  cases h with
  | ref a =>
    unfold vw
    simp only []
    split
    · rename_i ds e
      obtain ⟨_, vs, hh, q⟩ := r.chg a ds e
      exact .lst hh q
    · exact .ref a
  | non => exact .non
  | bl b => exact .bl b
  | int i => exact .int i
  | str x => exact .str x
  | tup a b => exact .tup a b
  | lst a b => exact .lst (r.sub _ _ a) b
  | lsf a b => exact .lsf a b
  | dct a b c => exact .dct a b c
  | fn x => exact .fn x
theorem View.rep {K : PySem.W.Frag} {G H : Hp} (e : Same G H) {d : D} {v : V} (h : View K G H d v) : Rep K H d v := by
  cases h with
  | non => exact .non
  | bl b => exact .bl b
  | int i => exact .int i
  | str x => exact .str x
  | tup a b => exact .tup (Same.sqT e a) (b.mono e)
  | lst a b => exact .lst a (b.mono e)
  | lsf a b => exact .lsf (e.seq a) (b.mono e)
  | dct a b c => exact .dct (e _ _ a) b (c.mono e)
  | fn x => exact .fn x
  | ref a => exact .ref a
/-- a list, a tuple that may be looked at -/
theorem View.seq {K : PySem.W.Frag} {G H : Hp} (s : Same G H) {d : D} {v : V} {ds : List D} (h : View K G H d v) (e : seqD d = some ds) : ∃ a vs, v = .ref a ∧ RepL K G ds vs ∧ (SqT K H a vs ∨ SqL K H a vs) := by
  cases h with
  | tup a b => cases e; exact ⟨_, _, rfl, b, .inl (Same.sqT s a)⟩
  | lst a b => cases e; exact ⟨_, _, rfl, b, .inr (.inl (.inl a))⟩
  | lsf a b => cases e; exact ⟨_, _, rfl, b, .inr (s.seq a)⟩
  | _ => cases e

section
variable {K : PySem.W.Frag} {G Φ H : Hp} {μ : Mu} {R : Post} {Q : VK}
theorem szLine {n : Nat} (h : n ≤ sz) : n ≤ sizeLine := by rw [sizeLine_eq]; exact h
theorem szLine' {n : Nat} (h : n < sz) : n < sizeLine := by rw [sizeLine_eq]; exact h
theorem RepL.nil' {ds : List D} (r : RepL K G ds []) : ds = [] := by cases r; rfl
theorem bop_ok (r : Rel K G μ Φ H) (h : Aft K G Φ R Q) (o : Bop) {a b : D} {x y : V} (w : wBop o a b μ R) (p : View K G H a x) (q : View K G H b y) : rB K o x y H Q := by
  unfold wBop at w
  split at w
  · cases p; cases q; exact .inl ⟨_, _, rfl, rfl, h.val r w (.int _)⟩
  · cases p; cases q; exact ⟨_, _, rfl, rfl, h.val r w (.int _)⟩
  · cases p; cases q; exact .inl ⟨_, _, rfl, rfl, w.1, h.val r w.2 (.int _)⟩
  · cases p; cases q; exact ⟨_, _, rfl, rfl, w.1, h.val r w.2 (.int _)⟩
  · cases p; cases q; exact ⟨_, _, rfl, rfl, w.1, h.val r w.2 (.int _)⟩
  · cases p; cases q; exact ⟨_, _, rfl, rfl, w.1, h.val r w.2 (.int _)⟩
  · cases p; cases q; exact ⟨_, _, rfl, rfl, w.1, h.val r w.2 (.int _)⟩
  · cases p with
    | tup s1 r1 =>
      cases q with
      | tup s2 r2 =>
        refine .inr (.inl ⟨_, _, _, _, rfl, rfl, Same.sqT r.sub s1, Same.sqT r.sub s2, by rw [← r1.length, ← r2.length]; exact szLine w.1, fun e => ?_, fun _ e => ?_, fun _ _ => h.tup r w.2 ((r1.append r2).mono r.sub) (r1.append r2)⟩)
        · subst e
          have e' := r1.nil'
          subst e'
          exact h.val r w.2 (.tup s2 r2)
        · subst e
          have e' := r2.nil'
          subst e'
          have w2 := w.2
          rw [List.append_nil] at w2
          exact h.val r w2 (.tup s1 r1)
  · cases p with
    | lst s1 r1 =>
      cases q with
      | lst s2 r2 => exact .inr (.inr ⟨_, _, _, _, rfl, rfl, s1, s2, by rw [← r1.length, ← r2.length]; exact szLine w.1, h.lst r w.2 (r1.append r2)⟩)
  · cases p with
    | lst s1 r1 =>
      cases q
      obtain ⟨w0, w1, w2, w3⟩ := w
      exact .inr (.inl ⟨_, _, _, rfl, rfl, s1, by omega, w1, by rw [← r1.length]; exact szLine w2, h.lst r w3 (r1.flatRep _)⟩)
  · cases p with
    | tup s1 r1 =>
      cases q
      obtain ⟨w0, w1, w2, w3, w4⟩ := w
      exact .inr (.inr ⟨_, _, _, rfl, rfl, Same.sqT r.sub s1, fun e => w0 (by subst e; exact r1.nil'), w1, w2, by rw [← r1.length]; exact w3, h.tup r w4 ((r1.flatRep _).mono r.sub) (r1.flatRep _)⟩)
  · exact w.elim
end

/-! ### comparisons -/
mutual
theorem Rep.dp {K : PySem.W.Frag} {H : Hp} : ∀ {d : D} {v : V}, Rep K H d v → flat d = true → Dp K H v (pd d)
  | _, _, .non, _ => by rw [pd]; exact .non
  | _, _, .bl b, _ => by rw [pd]; exact .bl b
  | _, _, .int i, _ => by rw [pd]; exact .int i
  | _, _, .str x, _ => by rw [pd]; exact .str x
  | _, _, .tup a b, f => by rw [pd]; rw [flat] at f; exact .tup a (RepL.dps b f)
  | _, _, .lst a b, f => by rw [pd]; rw [flat] at f; exact .lst (.inl (.inl a)) (RepL.dps b f)
  | _, _, .lsf a b, f => by rw [pd]; rw [flat] at f; exact .lst a (RepL.dps b f)
  | _, _, .dct _ _ _, f => by rw [flat] at f; cases f
  | _, _, .ref _, f => by rw [flat] at f; cases f
  | _, _, .fn _, f => by rw [flat] at f; cases f
theorem RepL.dps {K : PySem.W.Frag} {H : Hp} : ∀ {ds : List D} {vs : List V}, RepL K H ds vs → flats ds = true → DpAll K H vs (pds ds)
  | _, _, .nil, _ => by rw [pds]; exact .nil
  | _, _, .cons a b, f => by
    rw [flats, Bool.and_eq_true] at f
    rw [pds]
    exact .cons (Rep.dp a f.1) (RepL.dps b f.2)
end
/-- in a tuple, of any items -/
def rInT (K : PySem.W.Frag) : R2 := fun x y H Q => ∃ d ds, Dp K H x d ∧ Dp K H y (.tuple ds) ∧ SeqAt.shaped d = true ∧ SeqAt.shaped (.tuple ds) = true ∧ Q (.bl (ds.any fun z => PyData.eqv z d)) H
def rNotInT (K : PySem.W.Frag) : R2 := fun x y H Q => ∃ d ds, Dp K H x d ∧ Dp K H y (.tuple ds) ∧ SeqAt.shaped d = true ∧ SeqAt.shaped (.tuple ds) = true ∧ Q (.bl (!ds.any fun z => PyData.eqv z d)) H
theorem op_inT {X : Cx} (hu : X.A.units + 65 < cLine) : OpR X (compareOp .In) (rInT X.K) := by
  intro pins s σ H x y v u Q I rx ry h
  obtain ⟨d, ds, hd, he, sd, se, q⟩ := h
  obtain ⟨as, r1⟩ := Dp.reads I d x v hd rx
  obtain ⟨bs, r2⟩ := Dp.reads I (.tuple ds) y u he ry
  exact SeqAt.in_tuple_reads r2 r1 (SeqAt.canLay_of_shaped se) (SeqAt.canLay_of_shaped sd) (room_in_shaped sd hu) ⟨.bl _, H, I, rfl, q⟩
theorem op_notInT {X : Cx} (hu : X.A.units + 65 < cLine) : OpR X (compareOp .NotIn) (rNotInT X.K) := by
  intro pins s σ H x y v u Q I rx ry h
  obtain ⟨d, ds, hd, he, sd, se, q⟩ := h
  obtain ⟨as, r1⟩ := Dp.reads I d x v hd rx
  obtain ⟨bs, r2⟩ := Dp.reads I (.tuple ds) y u he ry
  exact SeqAt.notIn_tuple_reads r2 r1 (SeqAt.canLay_of_shaped se) (SeqAt.canLay_of_shaped sd) (room_in_shaped sd hu) ⟨.bl _, H, I, rfl, q⟩
def copOf : Cop → CmpOp
  | .eq => .Eq | .ne => .NotEq | .lt => .Lt | .le => .LtE | .gt => .Gt | .ge => .GtE | .is_ => .Is | .isNot => .IsNot | .in_ => .In | .notIn => .NotIn
def rC (K : PySem.W.Frag) : Cop → R2
  | .eq => fun x y H Q => rEq x y H Q ∨ rEqD K x y H Q
  | .ne => fun x y H Q => rNe x y H Q ∨ rNeD K x y H Q
  | .lt => rI0 fun i j => .bl (decide (i < j))
  | .le => rI0 fun i j => .bl (decide (i ≤ j))
  | .gt => rI0 fun i j => .bl (decide (j < i))
  | .ge => rI0 fun i j => .bl (decide (j ≤ i))
  | .is_ => fun x y H Q => (y = .non ∧ Q (.bl (decide (x = .non))) H) ∨ rIsB x y H Q
  | .isNot => fun x y H Q => (y = .non ∧ Q (.bl (!decide (x = .non))) H) ∨ rNotB x y H Q
  | .in_ => fun x y H Q => rIn K false x y H Q ∨ (rInD K x y H Q ∨ rInT K x y H Q)
  | .notIn => fun x y H Q => rIn K true x y H Q ∨ (rNotInD K x y H Q ∨ rNotInT K x y H Q)
theorem pds_map : ∀ ds : List D, pds ds = ds.map pd
  | [] => by rw [pds]; rfl
  | d :: ds => by rw [pds, pds_map ds]; rfl
theorem pds_any (ds : List D) (a : D) : ((pds ds).any fun z => PyData.eqv z (pd a)) = ds.any fun z => eqD z a := by
  rw [pds_map, List.any_map]; rfl
theorem opC {X : Cx} (hu : X.A.units + 65 < cLine) : ∀ o : Cop, OpR X (compareOp (copOf o)) (rC X.K o)
  | .eq => opOr op_eq (op_eqD (by omega))
  | .ne => opOr op_ne (op_neD (by omega))
  | .lt => op_lt
  | .le => op_le
  | .gt => op_gt
  | .ge => op_ge
  | .is_ => opOr op_isN op_isBl
  | .isNot => opOr op_notN op_notBl
  | .in_ => opOr op_in_seq (opOr (op_inD hu) (op_inT hu))
  | .notIn => opOr op_notIn_seq (opOr (op_notInD hu) (op_notInT hu))
section
variable {K : PySem.W.Frag} {G Φ H : Hp} {μ : Mu} {R : Bool → Mu → Prop} {Q : VK}
theorem scal_ok {a b : D} {x y : V} {k : Bool} (e : scalD a b = some k) (p : View K G H a x) (q : View K G H b y) : scal x y = true ∧ decide (x = y) = k := by
  cases p <;> cases q <;> first | (cases e; done) | (unfold scalD at e; cases e; exact ⟨rfl, by simp⟩)
theorem inD_ok {a : D} {x : V} (p : View K G H a x) : ∀ {ds : List D} {vs : List V} {k : Bool}, inD a ds = some k → RepL K G ds vs → flatV x = true ∧ vs.all flatV = true ∧ inV x vs = k
  | [], _, k, e, .nil => by
    cases p <;> first | (cases e; exact ⟨rfl, rfl, rfl⟩) | (cases e; done)
  | d :: ds, _, k, e, .cons (v := v) (vs := vs) h r => by
    cases p with
    | int i =>
      cases h with
      | int j =>
        rw [inD] at e
        obtain ⟨k', e1, e2⟩ := Option.map_eq_some_iff.mp e
        obtain ⟨q1, q2, q3⟩ := inD_ok (a := .int i) (.int i) e1 r
        refine ⟨q1, by rw [List.all_cons, q2]; rfl, ?_⟩
        unfold inV at q3 ⊢
        rw [List.any_cons, q3, ← e2]
        congr 1
        show (j == i) = decide (i = j)
        rw [Bool.eq_iff_iff]
        simp
        exact ⟨fun z => z.symm, fun z => z.symm⟩
      | _ => cases e
    | str z =>
      cases h with
      | str y =>
        rw [inD] at e
        obtain ⟨k', e1, e2⟩ := Option.map_eq_some_iff.mp e
        obtain ⟨q1, q2, q3⟩ := inD_ok (a := .str z) (.str z) e1 r
        refine ⟨q1, by rw [List.all_cons, q2]; rfl, ?_⟩
        unfold inV at q3 ⊢
        rw [List.any_cons, q3, ← e2]
        congr 1
        show (y == z) = decide (z = y)
        rw [Bool.eq_iff_iff]
        simp
        exact ⟨fun z => z.symm, fun z => z.symm⟩
      | _ => cases e
    | _ => cases e
theorem cop_ok (r : Rel K G μ Φ H) (h : ∀ k, R k μ → Q (.bl k) H) (o : Cop) {a b : D} {x y : V} (w : wCop o a b μ R) (p : View K G H a x) (q : View K G H b y) : rC K o x y H Q := by
  cases o with
  | eq =>
    unfold wCop at w
    simp only [] at w
    split at w
    · rename_i k e
      obtain ⟨h1, h2⟩ := scal_ok e p q
      exact .inl ⟨h1, by rw [h2]; exact h _ w⟩
    · obtain ⟨⟨f1, s1⟩, ⟨f2, s2⟩, w⟩ := w
      exact .inr ⟨_, _, (p.rep r.sub).dp f1, (q.rep r.sub).dp f2, s1, s2, h _ w⟩
  | ne =>
    unfold wCop at w
    simp only [] at w
    split at w
    · rename_i k e
      obtain ⟨h1, h2⟩ := scal_ok e p q
      exact .inl ⟨h1, by rw [h2]; exact h _ w⟩
    · obtain ⟨⟨f1, s1⟩, ⟨f2, s2⟩, w⟩ := w
      exact .inr ⟨_, _, (p.rep r.sub).dp f1, (q.rep r.sub).dp f2, s1, s2, h _ w⟩
  | lt => unfold wCop at w; simp only [] at w; split at w; (cases p; cases q; exact ⟨_, _, rfl, rfl, h _ w⟩); exact w.elim
  | le => unfold wCop at w; simp only [] at w; split at w; (cases p; cases q; exact ⟨_, _, rfl, rfl, h _ w⟩); exact w.elim
  | gt => unfold wCop at w; simp only [] at w; split at w; (cases p; cases q; exact ⟨_, _, rfl, rfl, h _ w⟩); exact w.elim
  | ge => unfold wCop at w; simp only [] at w; split at w; (cases p; cases q; exact ⟨_, _, rfl, rfl, h _ w⟩); exact w.elim
  | is_ =>
    unfold wCop at w
    simp only [] at w
    split at w
    · cases q
      cases p <;> exact .inl ⟨rfl, h _ w⟩
    · split at w
      · cases q
        cases p
        exact .inr ⟨_, _, rfl, rfl, h _ w⟩
      · exact w.elim
    · exact w.elim
  | isNot =>
    unfold wCop at w
    simp only [] at w
    split at w
    · cases q
      cases p <;> exact .inl ⟨rfl, h _ w⟩
    · split at w
      · cases q
        cases p
        exact .inr ⟨_, _, rfl, rfl, h _ w⟩
      · exact w.elim
    · exact w.elim
  | in_ =>
    unfold wCop at w
    simp only [] at w
    split at w
    · rename_i ds e
      split at w
      · rename_i k ek
        obtain ⟨c, vs, rfl, rr, sq⟩ := q.seq r.sub e
        obtain ⟨h1, h2, h3⟩ := inD_ok p ek rr
        exact .inl ⟨c, vs, rfl, sq.symm, h1, h2, by rw [h3]; exact h _ w⟩
      · obtain ⟨il, ⟨f1, s1⟩, ⟨f2, s2⟩, w⟩ := w
        rw [flat] at f2
        rw [pd] at s2
        by_cases it : ∃ es, b = .tup es
        · obtain ⟨es, rfl⟩ := it
          cases e
          refine .inr (.inr ⟨_, pds ds, (p.rep r.sub).dp f1, ?_, s1, ?_, ?_⟩)
          · have := (q.rep r.sub).dp (by rw [flat]; exact f2)
            rw [pd] at this
            exact this
          · exact s2
          · rw [pds_any]; exact h _ w
        · have eb : pd b = .list (pds ds) ∧ flat b = flats ds := by
            cases b <;> first | (cases il; done) | (exact absurd ⟨_, rfl⟩ it) | (cases e; exact ⟨by rw [pd], by rw [flat]⟩)
          refine .inr (.inl ⟨_, _, (p.rep r.sub).dp f1, ?_, s1, s2, ?_⟩)
          · rw [← eb.1]; exact (q.rep r.sub).dp (by rw [eb.2]; exact f2)
          · rw [pds_any]; exact h _ w
    · exact w.elim
  | notIn =>
    unfold wCop at w
    simp only [] at w
    split at w
    · rename_i ds e
      split at w
      · rename_i k ek
        obtain ⟨c, vs, rfl, rr, sq⟩ := q.seq r.sub e
        obtain ⟨h1, h2, h3⟩ := inD_ok p ek rr
        exact .inl ⟨c, vs, rfl, sq.symm, h1, h2, by rw [h3]; exact h _ w⟩
      · obtain ⟨il, ⟨f1, s1⟩, ⟨f2, s2⟩, w⟩ := w
        rw [flat] at f2
        rw [pd] at s2
        by_cases it : ∃ es, b = .tup es
        · obtain ⟨es, rfl⟩ := it
          cases e
          refine .inr (.inr ⟨_, pds ds, (p.rep r.sub).dp f1, ?_, s1, ?_, ?_⟩)
          · have := (q.rep r.sub).dp (by rw [flat]; exact f2)
            rw [pd] at this
            exact this
          · exact s2
          · rw [pds_any]; exact h _ w
        · have eb : pd b = .list (pds ds) ∧ flat b = flats ds := by
            cases b <;> first | (cases il; done) | (exact absurd ⟨_, rfl⟩ it) | (cases e; exact ⟨by rw [pd], by rw [flat]⟩)
          refine .inr (.inl ⟨_, _, (p.rep r.sub).dp f1, ?_, s1, s2, ?_⟩)
          · rw [← eb.1]; exact (q.rep r.sub).dp (by rw [eb.2]; exact f2)
          · rw [pds_any]; exact h _ w
    · exact w.elim
/-- truth -/
theorem truth_ok (s : Same G H) {a : D} {x : V} {k : Bool} (e : truth a = some k) (p : View K G H a x) : TruV K x H k := by
  cases p with
  | non => cases e; rfl
  | bl b => cases e; rfl
  | int i => cases e; rfl
  | str z =>
    unfold truth at e
    simp only [] at e
    split at e
    · rename_i hz
      cases e
      exact ⟨szLine hz, rfl⟩
    · cases e
  | tup a b =>
    cases e
    refine .inr (.inl ⟨_, Same.sqT s a, ?_⟩)
    cases b <;> rfl
  | lst a b =>
    cases e
    refine .inl ⟨_, .inl (.inl a), ?_⟩
    cases b <;> rfl
  | lsf a b =>
    cases e
    refine .inl ⟨_, s.seq a, ?_⟩
    cases b <;> rfl
  | dct a b c => cases e
  | ref a => cases e
  | fn x => cases e
end

/-! ### repr -/
theorem repr_ok {X : Cx} (hg : X.A.guards = some []) (hu : X.A.units + 200 < cLine) : CallR X (.builtin "repr") (fun xs H Q => ∃ v d, xs = [v] ∧ Dp X.K H v d ∧ d.showable = true ∧ d.hasDict = false ∧ d.depth + 1 ≤ 100 ∧ d.shown.length ≤ sizeLine ∧ Q (.str d.shown) H) := by
  intro pins s σ H xs us Q I r h
  obtain ⟨v, d, rfl, dp, sh, nd, dep, len, q⟩ := h
  obtain ⟨u, rfl, rx⟩ := vals1 r
  obtain ⟨as, rd⟩ := Dp.reads I d v u dp rx
  have fin : ∀ (h' : Heap) (t : Tok) (tk : Nat), (∀ b o, s.heap.get? b = some o → h'.get? b = some o) → EP X pins σ Q (.str d.shown t) { s with heap := h', toks := tk } := fun h' t tk kp =>
    ⟨.str d.shown, H, I.kept kp, ⟨t, rfl⟩, q⟩
  cases dp with
  | non => cases rx; exact P.repr_of_none (fin s.heap _ _ fun _ _ e => e)
  | bl b => cases rx; exact P.repr_of_bool (fin s.heap _ _ fun _ _ e => e)
  | int i =>
    obtain ⟨t, rfl⟩ := rx
    exact P.repr_of_int (by simpa [PyData.showable] using sh) (fin s.heap _ _ fun _ _ e => e)
  | str x =>
    obtain ⟨t, rfl⟩ := rx
    exact P.repr_of_str (fin s.heap _ _ fun _ _ e => e) (by simpa [PyData.shown] using len)
  | lst a b =>
    cases rx
    exact repr_of_reads' rd sh (fun z => by rw [nd] at z; cases z) hg (by omega) (fun _ _ e => e) (fun h' t tk kp => fin h' t tk kp) len
  | tup a b =>
    cases rx
    exact repr_of_reads' rd sh (fun z => by rw [nd] at z; cases z) hg (by omega) (fun _ _ e => e) (fun h' t tk kp => fin h' t tk kp) len
mutual
theorem flat_noDict : ∀ d : D, flat d = true → (pd d).hasDict = false
  | .non, _ | .bl _, _ | .int _, _ | .str _, _ => by simp [pd, PyData.hasDict]
  | .tup ds, h | .lst ds, h | .lsf ds, h => by
    rw [flat] at h
    simp [pd, PyData.hasDict, flats_noDict ds h]
  | .dct _ _, h | .ref _, h | .fn _, h => by rw [flat] at h; cases h
theorem flats_noDict : ∀ ds : List D, flats ds = true → PyData.hasDictAll (pds ds) = false
  | [], _ => by simp [pds, PyData.hasDictAll]
  | d :: ds, h => by
    rw [flats, Bool.and_eq_true] at h
    simp [pds, PyData.hasDictAll, flat_noDict d h.1, flats_noDict ds h.2]
end
end Tf

set_option Elab.async false
set_option linter.all false
set_option maxRecDepth 100000
set_option maxHeartbeats 4000000
/-! Tf, part X: sorted of pairs of ints. -/
namespace Tf
open PySem PySem.Spec PyProof.Rows L2
/-- x is that pair -/
def PrV (K : PySem.W.Frag) (H : Hp) (x : V) (p : Int × Int) : Prop := ∃ t, x = .ref t ∧ SqT K H t [.int p.1, .int p.2]
def rSortedPT (K : PySem.W.Frag) : List V → Hp → VK → Prop := fun vs H Q => ∃ (a : Addr) (xs : List V) (ps : List (Int × Int)) (Rl : V → Int × Int → Prop), vs = [V.ref a] ∧ SqL K H a xs ∧ (∀ x p, Rl x p → PrV K H x p) ∧ Paired Rl xs ps ∧
  ∀ ys ms, Paired Rl ys ms → ms.Perm ps → ms.Pairwise lexLe → ∀ p, H p = none → Q (.ref p) (upd H p (.lst ys))
theorem paired_of {α β : Type} {r : α → β → Prop} (k : α → β) : ∀ {l : List α}, (∀ x ∈ l, r x (k x)) → Paired r l (l.map k)
  | [], _ => .nil
  | x :: l, h => .cons (h x (by simp)) (paired_of k fun y hy => h y (by simp [hy]))
section
variable {X : Cx}
theorem cr_sortedPT : CallR X (.builtin "sorted") (rSortedPT X.K) := by
  intro pins s σ H vs us Q I r h
  obtain ⟨a, xs, ps, Rl, rfl, hs, hRl, hx, q⟩ := h
  classical
  have one : ∀ {x p p'}, PrV X.K H x p → PrV X.K H x p' → p = p' := by
    rintro x p p' ⟨t, rfl, h1⟩ ⟨t', e, h2⟩
    cases e
    have := I.tuple_inj h1 h2
    simp at this
    exact Prod.ext this.1 this.2
  obtain ⟨k, hk⟩ : ∃ k : V → Int × Int, ∀ x p, PrV X.K H x p → k x = p :=
    ⟨fun x => if h : ∃ p, PrV X.K H x p then h.choose else (0, 0), fun x p hp => by
      have ex : ∃ p, PrV X.K H x p := ⟨p, hp⟩
      show (if h : ∃ p, PrV X.K H x p then h.choose else (0, 0)) = p
      rw [dif_pos ex]
      exact one ex.choose_spec hp⟩
  have ar : ∀ x ∈ xs, Rl x (k x) := fun x hm => by
    clear q hs r
    induction hx with
    | nil => cases hm
    | cons h t ih =>
      rcases List.mem_cons.mp hm with e | hm
      · rw [e, hk _ _ (hRl _ _ h)]; exact h
      · exact ih hm
  have ak : ∀ x ∈ xs, PrV X.K H x (k x) := fun x hm => hRl _ _ (ar x hm)
  have eps : ps = xs.map k := by
    clear q hs r ak ar
    induction hx with
    | nil => rfl
    | cons h t ih => rw [List.map_cons, hk _ _ (hRl _ _ h), ← ih]
  obtain ⟨its, rv, hl, hz⟩ := I.list hs
  obtain ⟨u, rfl, ru⟩ := vals1 r
  obtain rfl : u = Value.ref a := ru
  obtain ⟨e1, e2⟩ := refs_back rv fun x m => by
    obtain ⟨t, e, _⟩ := ak x m
    exact ⟨t, e⟩
  refine SrtO.sorted_pairsO (k := fun u => k (backV u)) hl.isList (by rw [← rv.length]; exact hz) (fun v hv => ?_) fun h' d out h1 h2 kp hd hn => ?_
  · obtain ⟨t, rfl⟩ := e2 v hv
    have hm : V.ref t ∈ xs := by rw [e1]; exact List.mem_map.mpr ⟨_, hv, rfl⟩
    obtain ⟨t', e, ht⟩ := ak _ hm
    cases e
    obtain ⟨its2, r2, ⟨o, ho, hc, n, hd⟩, _⟩ := I.tuple ht
    obtain ⟨u1, u2, rfl, ri, rj⟩ := vals2 r2
    obtain ⟨t1, rfl⟩ := ri
    obtain ⟨t2, rfl⟩ := rj
    exact ⟨t, o, t1, t2, n, rfl, ho, hc, hd⟩
  · have h3 : ∀ u ∈ out, ∃ a, u = Value.ref a := fun u hu => e2 u (h2.perm.mem_iff.mp hu)
    obtain ⟨n, hn⟩ := hn
    have hb : SrtO.Stb (ltP k) (out.map backV) xs := by
      rw [e1]
      exact SrtO.Stb.map (ltP_swo k) backV h2
    have hs1 : SrtO.Srtd (ltP k) (out.map backV) := SrtO.srtd_map h1
    refine ⟨.ref d, upd H d (.lst (out.map backV)), I.laid (t' := s.toks) kp hd ⟨?_, out, n, vals_back h3, hn⟩, rfl, q _ _ (paired_of k fun y hy => ar y (hb.perm.mem_iff.mp hy)) (by rw [eps]; exact hb.perm.map k) ?_ d (I.hok.fresh hd)⟩
    · rw [hb.len]
      exact hz
    · refine List.pairwise_map.mpr (List.Pairwise.imp (fun {x y} h => ?_) hs1)
      have := SrtO.lexB_no.mp h
      unfold lexLe
      omega
end
end Tf

set_option Elab.async false
set_option linter.all false
set_option maxRecDepth 100000
set_option maxHeartbeats 4000000
/-! Tf, part D: what a def of the text promises, in data; its call. -/
namespace Tf
open PySem PySem.Spec PyProof.Rows L2

abbrev WK (α : Type) := DE → Mu → XPost → (α → Mu → Prop) → Prop
/-- a piece of the small language as a reading of the layer -/
def tW {α β : Type} (K : PySem.W.Frag) (mg : Str → Option Value) (W : WX) (rep : Hp → α → β → Prop) (w : WK α) (σ : L2.St) (H : Hp) (Q : β → Hp → Prop) : Prop :=
  ∃ δ G μ Φ E R, RelE K G δ σ ∧ Rel K G μ Φ H ∧ w δ μ E R ∧ (∀ d μ' G' H' v, R d μ' → Same G G' → Rel K G' μ' Φ H' → rep G' d v → Q v H') ∧ AftX K mg G Φ E (fun c d H' => W c d σ H')
def isB (_ : Hp) (a b : Bool) : Prop := a = b
def isO (_ : Hp) (a b : Option Int) : Prop := a = b
abbrev tE (K : PySem.W.Frag) (mg : Str → Option Value) (W : WX) (w : WK D) : TE := tW K mg W (Rep K) w
abbrev tT (K : PySem.W.Frag) (mg : Str → Option Value) (W : WX) (w : WK Bool) : TT := tW K mg W isB w
abbrev tA (K : PySem.W.Frag) (mg : Str → Option Value) (W : WX) (w : WK (List D)) : TA := tW K mg W (RepL K) w

theorem PE_imp {X : Cx} {e : Expr} {t t' : TE} (h : PE X e t) (i : ∀ σ H Q, t' σ H Q → t σ H Q) : PE X e t' := ⟨fun pins s σ H Q I w => h.run pins s σ H Q I (i σ H Q w)⟩
theorem PT_imp {X : Cx} {e : Expr} {t t' : TT} (h : PT X e t) (i : ∀ σ H Q, t' σ H Q → t σ H Q) : PT X e t' := ⟨fun pins s σ H Q I w => h.run pins s σ H Q I (i σ H Q w)⟩
theorem PA_imp {X : Cx} {e : List Expr} {t t' : TA} (h : PA X e t) (i : ∀ σ H Q, t' σ H Q → t σ H Q) : PA X e t' := ⟨fun pos pins s σ H Q I w => h.run pos pins s σ H Q I (i σ H Q w)⟩
theorem PO_imp {X : Cx} {e : Option Expr} {t t' : TO} (h : PO X e t) (i : ∀ σ H Q, t' σ H Q → t σ H Q) : PO X e t' := ⟨fun pins s σ H Q I w => h.run pins s σ H Q I (i σ H Q w)⟩
theorem PS_imp {X : Cx} {e : Stmt} {t t' : TS} (h : PS X e t) (i : ∀ D σ H, t' D σ H → t D σ H) : PS X e t' := ⟨fun pins s σ H D I w => h.run pins s σ H D I (i D σ H w)⟩
theorem PSs_imp {X : Cx} {e : List Stmt} {t t' : TS} (h : PSs X e t) (i : ∀ D σ H, t' D σ H → t D σ H) : PSs X e t' := ⟨fun pins s σ H D I w => h.run pins s σ H D I (i D σ H w)⟩

/-! ### a def's promise -/
def spOf (K : PySem.W.Frag) (mg : Str → Option Value) (sp : Spec) : Sp := fun vs H Q E =>
  ∃ G μ Φ ds R Ed, RepL K G ds vs ∧ Rel K G μ Φ H ∧ sp ds μ R Ed ∧ Aft K G Φ R Q ∧ AftX K mg G Φ Ed E
where Aft (K : PySem.W.Frag) (G Φ : Hp) (R : Post) (Q : VK) : Prop := ∀ d μ' G' H' v, R d μ' → Same G G' → Rel K G' μ' Φ H' → Rep K G' d v → Q v H'

/-- the def at f keeps sp, where nothing is being shown -/
structure FnG (P : Program) (w : World) (K : PySem.W.Frag) (mg : Str → Option Value) (base : Heap) (k : Nat) (f : Addr) (fd : FuncData) (ps : List Str) (sp : Spec) : Prop where
  len : ∀ ds μ R E, sp ds μ R E → ds.length = ps.length
  go : ∀ (A : Around) (outer : List Env) (s : Shared) (H : Hp) (args : Args) (us : List Value) (vs : List V) (Q : VK) (E : XK), Room k A → A.guards = some [] → Env0 P w K mg base A outer s H → BindsTo s fd args (ps.zip us) → Vals vs us →
    spOf K mg sp vs H Q E → codeAny (model P w) A (.call (.ref f) args) (CR (L2.CX P w) outer P w H s Q E) s
theorem FnG.mono {P : Program} {w : World} {K : PySem.W.Frag} {mg : Str → Option Value} {base : Heap} {j k : Nat} {f : Addr} {fd : FuncData} {ps : List Str} {sp : Spec} (F : FnG P w K mg base j f fd ps sp) (h : j ≤ k) : FnG P w K mg base k f fd ps sp :=
  ⟨F.len, fun A outer s H args us vs Q E hr => F.go A outer s H args us vs Q E (hr.mono h)⟩

/-- what a body must be -/
theorem fnG_of {P : Program} {w : World} {K : PySem.W.Frag} {mg : Str → Option Value} {base : Heap} {k : Nat} {f : Addr} {fd : FuncData} {x qual : Str} {st : Stmt} {N ps : List Str} {sp : Spec} (F : Fun K x qual st f fd) (S : FnScope N ps (defScope st))
    (len : ∀ ds μ R E, sp ds μ R E → ds.length = ps.length)
    (hbody : ∀ (cdv : Value) (A : Around) (outer : List Env) (s : Shared) (H : Hp) (vs : List V) (Q : VK) (E : XK), Room k (A.deeper (envOfC qual (defScope st) s.heap.objs.size f cdv)) → A.guards = some [] → spOf K mg sp vs H Q E →
      ∃ t, PSs (cxOf (L2.CX P w) P w K mg base N qual (defScope st) f cdv A outer s H E) (defBody st) t ∧ t { nx := fun _ H' => Q .non H', rt := Q } (start N vs) H) : FnG P w K mg base (k + 1) f fd ps sp := by
  obtain ⟨oc, od, kV, doc, pm, an, cdv, ct, osl, rfl, lk, hcd⟩ := F.ex
  refine ⟨len, fun A outer s H args us vs Q E hr hg e0 hb r hsp => ?_⟩
  have hl : vs.length = ps.length := by
    obtain ⟨G, μ, Φ, ds, R, Ed, h1, _, h3, _⟩ := hsp
    rw [← h1.length]
    exact len _ _ _ _ h3
  have keepB : ∀ b o, base.get? b = some o → s.heap.get? b = some o := fun b o e => (e0.bs b o e).1
  have KX : K.In s.heap := e0.mod.kin.keeps keepB
  have lim : s.heap.NoLimit := e0.mod.nolimit.keeps keepB
  refine codeAny_call_function hr.depth (KX _ _ lk) rfl S.co S.gen rfl (PySem.W.codeRec_of KX hcd) (hb _ _ _ _ ?_)
  have kinds : ∀ y ∈ ps.zip us, (defScope st).names.lookup y.1 = some .local ∨ ((defScope st).names.lookup y.1 = some .cell ∧ ((cellsFrom (s.heap.objs.size + 1) (defScope st).names []).lookup y.1).isSome = true) := by
    rintro ⟨n, v⟩ hy
    cases S.par n (List.of_mem_zip hy).1 with
    | inl q => exact .inl q
    | inr q => exact .inr ⟨q, PySem.W.cellsFrom_some _ _ _ (.inl q)⟩
  refine wpAny_newFunctionEnv_cells S.kind kinds fun env he s1 x => ?_
  subst he
  refine ⟨lim.keeps x.toInCall.keep, codeAny_func ?_⟩
  obtain ⟨t, ht, hq⟩ := hbody cdv A outer s H vs Q E (hr.deeper _) hg hsp
  have I := inv_start (CX := L2.CX P w) (P := P) (w := w) (mg := mg) (E := E) S hr.hd e0 hl r x
  have ends : ∀ {σ' : L2.St} {H' : Hp} {v : V} {u : Value} {s' : Shared}, Inv (cxOf (L2.CX P w) P w K mg base N qual (defScope st) f cdv A outer s H E) [] σ' H' s' → RelV v u → Q v H' → CE outer P w H s Q u s' := by
    intro σ' H' v u s' J rv q
    exact ⟨v, H', J.os, J.bare, J.base, J.hok, rv, q⟩
  refine wpAny_mono (ht.run [] s1 (start N vs) H _ I hq) (fun fl s' hs => ?_) fun e s' hs => hs
  cases fl with
  | next => obtain ⟨σ', H', J, q⟩ := hs; exact ends (v := V.non) (u := Value.none) J rfl q
  | ret u => obtain ⟨v, σ', H', J, rv, q⟩ := hs; exact ends J rv q
  | brk => obtain ⟨_, _, _, q⟩ := hs; cases q
  | cont => obtain ⟨_, _, _, q⟩ := hs; cases q

/-- a call of what stands at f, by position, keeps sp -/
def FnC (P : Program) (w : World) (K : PySem.W.Frag) (mg : Str → Option Value) (base : Heap) (k : Nat) (f : Addr) (sp : Spec) : Prop :=
  ∀ (A : Around) (outer : List Env) (s : Shared) (H : Hp) (us : List Value) (vs : List V) (Q : VK) (E : XK), Room k A → A.guards = some [] → Env0 P w K mg base A outer s H → Vals vs us →
    spOf K mg sp vs H Q E → codeAny (model P w) A (.call (.ref f) ⟨us, []⟩) (CR (L2.CX P w) outer P w H s Q E) s
theorem FnC.mono {P : Program} {w : World} {K : PySem.W.Frag} {mg : Str → Option Value} {base : Heap} {j k : Nat} {f : Addr} {sp : Spec} (F : FnC P w K mg base j f sp) (h : j ≤ k) : FnC P w K mg base k f sp :=
  fun A outer s H us vs Q E hr => F A outer s H us vs Q E (hr.mono h)
theorem FnG.fnC {P : Program} {w : World} {K : PySem.W.Frag} {mg : Str → Option Value} {base : Heap} {k : Nat} {f : Addr} {fd : FuncData} {ps : List Str} {sp : Spec} (F : FnG P w K mg base k f fd ps sp) (hb : Binds K fd ps []) : FnC P w K mg base k f sp := by
  intro A outer s H us vs Q E hr hg e0 r h
  have hl : us.length = ps.length := by
    obtain ⟨G, μ, Φ, ds, R, Ed, h1, _, h3, _⟩ := h
    rw [← r.length, ← h1.length]
    exact F.len _ _ _ _ h3
  have kin : K.In s.heap := e0.mod.kin.keeps fun b o e => (e0.bs b o e).1
  have hb' := hb s us kin (by rw [List.append_nil]; exact hl)
  rw [List.append_nil] at hb'
  exact F.go A outer s H ⟨us, []⟩ us vs Q E hr hg e0 hb' r h
/-- a key: the name of a def, and behind signs / the names of the keywords of a call -/
def splitS : List Nat → List (List Nat)
  | [] => [[]]
  | c :: cs => if c = 47 then [] :: splitS cs else match splitS cs with
    | w :: ws => (c :: w) :: ws
    | [] => [[c]]
def kn (x : Str) : Str := ⟨((splitS x.cps.toList).headD []).toArray⟩
def kk (x : Str) : List Str := (splitS x.cps.toList).tail.map fun w => ⟨w.toArray⟩
def keyPlain (x : Str) : Bool := decide (kn x = x) && decide (kk x = [])
theorem keyPlain_ok {x : Str} (h : keyPlain x = true) : kn x = x ∧ kk x = [] := by
  unfold keyPlain at h
  rw [Bool.and_eq_true, decide_eq_true_eq, decide_eq_true_eq] at h
  exact h
/-- a call of what stands at f, by position and with keywords ks, keeps sp -/
def FnCK (P : Program) (w : World) (K : PySem.W.Frag) (mg : Str → Option Value) (base : Heap) (k : Nat) (f : Addr) (ks : List Str) (sp : Spec) : Prop :=
  ∀ (A : Around) (outer : List Env) (s : Shared) (H : Hp) (us ws : List Value) (vs zs : List V) (Q : VK) (E : XK), Room k A → A.guards = some [] → Env0 P w K mg base A outer s H → Vals vs us → Vals zs ws → zs.length = ks.length →
    spOf K mg sp (vs ++ zs) H Q E → codeAny (model P w) A (.call (.ref f) ⟨us, ks.zip ws⟩) (CR (L2.CX P w) outer P w H s Q E) s
theorem FnC.toK {P : Program} {w : World} {K : PySem.W.Frag} {mg : Str → Option Value} {base : Heap} {k : Nat} {f : Addr} {sp : Spec} (F : FnC P w K mg base k f sp) : FnCK P w K mg base k f [] sp := by
  intro A outer s H us ws vs zs Q E hr hg e0 r rz hl h
  cases zs with
  | cons _ _ => cases hl
  | nil =>
    rw [List.append_nil] at h
    exact F A outer s H us vs Q E hr hg e0 r h
theorem FnCK.toC {P : Program} {w : World} {K : PySem.W.Frag} {mg : Str → Option Value} {base : Heap} {k : Nat} {f : Addr} {sp : Spec} (F : FnCK P w K mg base k f [] sp) : FnC P w K mg base k f sp := fun A outer s H us vs Q E hr hg e0 r h =>
  F A outer s H us [] vs [] Q E hr hg e0 r .nil rfl (by rw [List.append_nil]; exact h)
theorem FnCK.mono {P : Program} {w : World} {K : PySem.W.Frag} {mg : Str → Option Value} {base : Heap} {j k : Nat} {f : Addr} {ks : List Str} {sp : Spec} (F : FnCK P w K mg base j f ks sp) (h : j ≤ k) : FnCK P w K mg base k f ks sp :=
  fun A outer s H us ws vs zs Q E hr => F A outer s H us ws vs zs Q E (hr.mono h)
/-- a callee that is to be had -/
def CallOk (X : Cx) (k : Nat) (x : Str) (sp : Spec) : Prop := ∃ (f : Addr), X.mg (kn x) = some (.ref f) ∧ PySem.W.keepIn X.K (.ref f) = true ∧ FnCK X.prog X.w X.K X.mg X.base k f (kk x) sp
theorem run_call {X : Cx} {W : WX} {f : Addr} {k : Nat} {sp : Spec} {pins : List (Addr × Obj)} {σ : L2.St} {H : Hp} {s : Shared} {Q : VK} {E : XK} {us : List Value} {vs : List V} (tk : Takes X W) (hW : ∀ c d H', E c d H' → W c d σ H')
    (hg : X.A.guards = some []) (F : FnC X.prog X.w X.K X.mg X.base k f sp) (hr : Room k X.A) (I : Inv X pins σ H s) (r : Vals vs us) (h : spOf X.K X.mg sp vs H Q E) :
    wpAny (model X.prog X.w) X.A (call (.ref f) us) (EP X pins σ Q) X.xe s := by
  refine wpAny_call (codeAny_mono (F X.A X.stack s H us vs Q E hr hg I.env0 r h) fun res s' hq => ?_)
  match res, hq with
  | .ok (.ret u), hq => exact I.after hq
  | .error e, hq => exact tk e s' (XE.of_call I (fun c d H' z => hW c d H' z) hq)
theorem run_callK {X : Cx} {W : WX} {f : Addr} {k : Nat} {ks : List Str} {sp : Spec} {pins : List (Addr × Obj)} {σ : L2.St} {H : Hp} {s : Shared} {Q : VK} {E : XK} {us ws : List Value} {vs zs : List V} (tk : Takes X W) (hW : ∀ c d H', E c d H' → W c d σ H')
    (hg : X.A.guards = some []) (F : FnCK X.prog X.w X.K X.mg X.base k f ks sp) (hr : Room k X.A) (I : Inv X pins σ H s) (r : Vals vs us) (rz : Vals zs ws) (hl : zs.length = ks.length) (h : spOf X.K X.mg sp (vs ++ zs) H Q E) :
    wpAny (model X.prog X.w) X.A (call (.ref f) us (ks.zip ws)) (EP X pins σ Q) X.xe s := by
  refine wpAny_call (codeAny_mono (F X.A X.stack s H us ws vs zs Q E hr hg I.env0 r rz hl h) fun res s' hq => ?_)
  match res, hq with
  | .ok (.ret u), hq => exact I.after hq
  | .error e, hq => exact tk e s' (XE.of_call I (fun c d H' z => hW c d H' z) hq)
end Tf

set_option Elab.async false
set_option linter.all false
set_option maxRecDepth 100000
set_option maxHeartbeats 4000000
/-! Tf, part E: when a piece of the small language stands for a piece of the text. -/
namespace Tf
open PySem PySem.Spec PyProof.Rows L2

def visB (c : Sc) (i : Nat) (x : Str) : Bool :=
  decide (c.N[i]? = some x) && (match c.sc.names.lookup x with | some .local => true | some .cell => true | some .free => true | _ => false) && !(x == ("__debug__" : Str)) && !(x == ("__classdict__" : Str))
def glB (c : Sc) (x : Str) : Bool := decide (c.sc.names.lookup x = some .globalImplicit) && !(x == ("__debug__" : Str)) && decide (x ≠ "__name__")
def bltB (c : Sc) (x : Str) : Bool := glB c x && decide (x ∈ c.fr)
/-- a name that may be stored -/
def locB (c : Sc) (i : Nat) (x : Str) : Bool :=
  decide (c.N[i]? = some x) && (match c.sc.names.lookup x with | some .local => true | some .cell => c.own x | _ => false)
def cstB : D → Const → Bool
  | .non, .none => true
  | .bl a, .bool b => decide (a = b)
  | .int i, .int j => decide (i = j)
  | .str x, .str y => decide (x = y)
  | _, _ => false
def bopB : Bop → Operator → Bool
  | .add, .Add => true | .sub, .Sub => true | .mul, .Mult => true | .fdiv, .FloorDiv => true | .mod, .Mod => true | .pow, .Pow => true | .shl, .LShift => true
  | _, _ => false
theorem bopB_ok {o : Bop} {op : Operator} (h : bopB o op = true) : op = bopOf o := by cases o <;> cases op <;> first | rfl | cases h
def copB : Cop → CmpOp → Bool
  | .eq, .Eq => true | .ne, .NotEq => true | .lt, .Lt => true | .le, .LtE => true | .gt, .Gt => true | .ge, .GtE => true | .is_, .Is => true | .isNot, .IsNot => true | .in_, .In => true | .notIn, .NotIn => true
  | _, _ => false
theorem copB_ok {o : Cop} {op : CmpOp} (h : copB o op = true) : op = copOf o := by cases o <;> cases op <;> first | rfl | cases h
def notSet : Expr → Bool
  | .Set .. => false
  | _ => true
theorem notSet_mark {op : CmpOp} {e : Expr} (h : notSet e = true) : behindInMarks op e = false := by cases e <;> first | rfl | cases h
def notStar : Expr → Bool
  | .Starred .. => false
  | _ => true
theorem notStar_each {e : Expr} {es : List Expr} {env : Env} (h : notStar e = true) : starEach (e :: es) env = (false, eval e env) :: starEach es env := by cases e <;> first | rfl | cases h
def notSlice : Expr → Bool
  | .Slice .. => false
  | _ => true
theorem notSlice_ix {e : Expr} (h : notSlice e = true) : PlainIx e := fun o i => by cases e <;> first | rfl | cases h
/-- an expression whose truth is its value's -/
def plainT : Expr → Bool
  | .UnaryOp .Not _ _ => false
  | .BoolOp .. => false
  | .IfExp .. => false
  | .Compare .. => false
  | _ => true
theorem plainT_ok {e : Expr} (h : plainT e = true) (env : Env) : ∀ whole, isTrue e env whole = (do let v ← whole; standAt e.pos; holding [v] (truthy v)) := by
  intro whole
  cases e with
  | UnaryOp op a p => cases op <;> first | rfl | cases h
  | BoolOp => cases h
  | IfExp => cases h
  | Compare => cases h
  | _ => rfl
def notSuper : Expr → Bool
  | .Call .. => false
  | _ => true
theorem notSuper_base {o : Expr} (h : notSuper o = true) (attr : Str) (env : Env) : attributeBase o attr env (eval o env) = eval o env := by cases o <;> first | rfl | cases h
def notComp : Expr → Bool
  | .ListComp .. => false
  | .SetComp .. => false
  | .DictComp .. => false
  | _ => true
theorem notComp_swap {e : Expr} (h : notComp e = true) (t : Option Expr) (l : Nat) (env : Env) : swapsWith e t l env = pure false := by cases e <;> first | rfl | cases h
theorem notSet_fold {e : Expr} (h : notSet e = true) (env : Env) : ∀ x, foldedSetIterable e env x = pure x := fun x => by cases e <;> first | rfl | cases h
def isNone : Expr → Bool
  | .Constant .none _ _ => true
  | _ => false

def isTup : Expr → Bool
  | .Tuple .. => true
  | _ => false
def bltName : Blt → Str
  | .len => "len" | .abs => "abs" | .min2 => "min" | .max2 => "max" | .sum => "sum" | .any => "any" | .all => "all" | .int => "int" | .tuple => "tuple" | .list => "list" | .listM => "list" | .repr => "repr" | .str => "str"
  | .sortI => "sorted" | .sortP => "sorted" | .minT => "min" | .maxI => "max" | .minI => "min"
def bltN : Blt → Nat
  | .min2 => 2 | .max2 => 2 | _ => 1

def isiN : List String := ["int", "bool", "str", "tuple", "list"]
def cvB : D → Expr → Bool
  | .int i, .UnaryOp .USub (.Constant (.int j) _ _) _ => decide (i = -j)
  | d, .Constant k _ _ => cstB d k
  | _, _ => false
def dkB : List Str → List D → List (Option Expr) → List Expr → Bool
  | [], [], [], [] => true
  | x :: xs, d :: ds, some (.Constant (.str y) _ _) :: ks, e :: es => decide (x = y) && cvB d e && dkB xs ds ks es
  | _, _, _, _ => false
/-- {..}[k] taken apart -/
def dixE : Expr → Option (List (Option Expr) × List Expr × Expr)
  | .Subscript (.Dict ks vs _) i _ => some (ks, vs, i)
  | _ => none
theorem dixE_ok {e : Expr} {ks : List (Option Expr)} {vs : List Expr} {i : Expr} (h : dixE e = some (ks, vs, i)) : ∃ p q, e = .Subscript (.Dict ks vs p) i q := by
  unfold dixE at h
  split at h
  · cases h; exact ⟨_, _, rfl⟩
  · cases h
/-- f(g(a, b)) taken apart -/
def zipE : Expr → Option (Str × Str × Expr × Expr)
  | .Call (.Name x _) [.Call (.Name y _) [a, b] [] _] [] _ => some (x, y, a, b)
  | _ => none
theorem zipE_ok {e : Expr} {x y : Str} {a b : Expr} (h : zipE e = some (x, y, a, b)) : ∃ p q r t, e = .Call (.Name x p) [.Call (.Name y q) [a, b] [] r] [] t := by
  unfold zipE at h
  split at h
  · cases h; exact ⟨_, _, _, _, rfl⟩
  · cases h
/-- f(g(..)) taken apart -/
def nestE : Expr → Option (Str × Str × List Expr)
  | .Call (.Name x _) [.Call (.Name y _) es [] _] [] _ => some (x, y, es)
  | _ => none
theorem nestE_ok {e : Expr} {x y : Str} {es : List Expr} (h : nestE e = some (x, y, es)) : ∃ p q r t, e = .Call (.Name x p) [.Call (.Name y q) es [] r] [] t := by
  unfold nestE at h
  split at h
  · cases h; exact ⟨_, _, _, _, rfl⟩
  · cases h
mutual
def tgB (c : Sc) : IT → Expr → Bool
  | .nm i, .Name x _ => locB c i x
  | .tp ts, .Tuple es _ _ => tgsB c ts es
  | _, _ => false
def tgsB (c : Sc) : List IT → List Expr → Bool
  | [], [] => true
  | t :: ts, e :: es => notStar e && tgB c t e && tgsB c ts es
  | _, _ => false
end
mutual
def slots : IT → List Nat
  | .nm i => [i]
  | .tp ts => slotss ts
def slotss : List IT → List Nat
  | [] => []
  | t :: ts => slots t ++ slotss ts
end

mutual
def eB (c : Sc) : IE → Expr → Bool
  | .var i, .Name x _ => visB c i x
  | .cst d, .Constant k _ _ => cstB d k
  | .glb x _, .Name y _ => decide (x = y) && glB c y
  | .bop o a b, .BinOp l op r _ => bopB o op && eB c a l && eB c b r
  | .neg a, .UnaryOp .USub e _ => eB c a e
  | .not a, .UnaryOp .Not e _ => eB c a e
  | .cmp o a b, .Compare l [op] [r] _ => copB o op && notSet r && eB c a l && eB c b r
  | .chain o1 o2 a b d, .Compare l [p1, p2] [m, r] _ => copB o1 p1 && copB o2 p2 && notSet m && notSet r && eB c a l && eB c b m && eB c d r
  | .ands es, .BoolOp .And xs _ => bB c es xs
  | .ors es, .BoolOp .Or xs _ => bB c es xs
  | .ite t a b, .IfExp x y z _ => eB c t x && eB c a y && eB c b z
  | .call x _ es, .Call (.Name y _) as [] _ => keyPlain x && (decide (x = y) && glB c y && aB c es as && as.all notStar)
  | .calll i tab es, .Call (.Name y _) as [] _ => visB c i y && tab.all (fun p => keyPlain p.1) && !as.isEmpty && aB c es as && as.all notStar
  | .callk key y ks _ es zs, .Call (.Name y2 _) as kws _ => decide (y = y2) && decide (kn key = y) && decide (kk key = ks) && decide (kws.map (·.arg) = ks.map some) && glB c y2 && !as.isEmpty && aB c es as && as.all notStar && aB c zs (kws.map (·.value)) && (kws.map (·.value)).all notStar
  | .blt f es, .Call (.Name y _) as [] _ => decide (bltName f = y) && bltB c y && aB c es as && as.all notStar && decide (as.length = bltN f)
  | .isi ty a, .Call (.Name y _) [e, .Name t _] [] _ => decide (y = "isinstance") && bltB c y && eB c a e && notStar e && decide (t = Str.ofString ty) && bltB c t && isiN.contains ty
  | .sub a i, .Subscript e k _ => eB c a e && eB c i k && notSlice k
  | .slc a lo hi, .Subscript e (.Slice l h none _) _ => eB c a e && oB c lo l && oB c hi h
  | .rev a, .Subscript e (.Slice none none (some (.UnaryOp .USub (.Constant (.int k) _ _) _)) _) _ => decide (k = 1) && eB c a e
  | .tup es, .Tuple as _ _ => aB c es as
  | .lst _ es, .List as _ => aB c es as
  | .comp _ own t it cs e, .ListComp elt [⟨tg, iter, ifs, a⟩] scope _ => decide (a = 0) && iB c tg it iter && notSet iter && blkC c.N c.sc scope own && decide ((slots t).all fun i => (own.map (·.2)).contains i) && tgB ⟨c.N, relS scope c.sc, c.fr, false, c.k, some scope⟩ t tg &&
      (match cs, ifs with | [], [] => true | [k], [x] => eB ⟨c.N, relS scope c.sc, c.fr, false, c.k, some scope⟩ k x | _, _ => false) && eB ⟨c.N, relS scope c.sc, c.fr, false, c.k, some scope⟩ e elt
  | .dix ks vs a, e => (match dixE e with | some (keys, vals, i) => dkB ks vs keys vals && decide ks.Nodup && !ks.isEmpty && decide (ks.length ≤ 15) && notSlice i && eB c a i | none => false)
  | .tupZip a b, e => (match zipE e with | some (x, y, u, v) => decide (x = "tuple") && decide (y = "zip") && bltB c x && bltB c y && notStar u && notStar v && eB c a u && eB c b v | none => false)
  | .app o e, .Call (.Attribute x m p) [a] [] q => decide (m = "append") && eB c o x && eB c e a && notSuper x && notStar a && decide ((p.endLine == q.line) = true)
  | .ext o e, .Call (.Attribute x m p) [a] [] q => decide (m = "extend") && eB c o x && eB c e a && notSuper x && notStar a && decide ((p.endLine == q.line) = true)
  | .pop o, .Call (.Attribute x m p) [] [] q => decide (m = "pop") && eB c o x && notSuper x && decide ((p.endLine == q.line) = true)
  | .popAt o i, .Call (.Attribute x m p) [a] [] q => decide (m = "pop") && eB c o x && eB c i a && notSuper x && notStar a && decide ((p.endLine == q.line) = true)
  | .lrg1 _ a, e => (match nestE e with | some (x, y, [u]) => decide (x = "list") && decide (y = "range") && bltB c x && bltB c y && notStar u && eB c a u | _ => false)
  | .lrg2 _ a b, e => (match nestE e with | some (x, y, [u, v]) => decide (x = "list") && decide (y = "range") && bltB c x && bltB c y && notStar u && notStar v && eB c a u && eB c b v | _ => false)
  | .cntI o i, .Call (.Attribute x m p) [a] [] q => decide (m = "count") && eB c o x && eB c i a && notSuper x && notStar a && decide ((p.endLine == q.line) = true)
  | .idx o i, .Call (.Attribute x m p) [a] [] q => decide (m = "index") && eB c o x && eB c i a && notSuper x && notStar a && decide ((p.endLine == q.line) = true)
  | .x1 o a, e => (match o.chk c e with | some u => eB c a u | none => false)
  | .x2 o a b, e => (match o.chk c e with | some (u, v) => eB c a u && eB c b v | none => false)
  | .xa o es, e => (match o.chk c e with | some us => aB c es us | none => false)
  | .frz a, e => eB c a e
  | .tru a, e => eB c a e && plainT e
  | _, _ => false
def bB (c : Sc) : List IE → List Expr → Bool
  | [e], [x] => eB c e x
  | e :: es, x :: xs => eB c e x && bB c es xs
  | _, _ => false
def aB (c : Sc) : List IE → List Expr → Bool
  | [], [] => true
  | .star a :: es, .Starred x _ :: xs => eB c a x && aB c es xs
  | e :: es, x :: xs => notStar x && eB c e x && aB c es xs
  | _, _ => false
def oB (c : Sc) : Option IE → Option Expr → Bool
  | none, none => true
  | some a, some x => eB c a x
  | _, _ => false
def iB (c : Sc) (tg : Expr) : IE → Expr → Bool
  | .range1 a, .Call (.Name y _) [e] [] _ => decide (y = "range") && bltB c y && eB c a e && notStar e
  | .range2 a b, .Call (.Name y _) [e, e2] [] _ => decide (y = "range") && bltB c y && eB c a e && notStar e && eB c b e2 && notStar e2
  | .enum a, .Call (.Name y _) [e] [] _ => decide (y = "enumerate") && bltB c y && eB c a e && notStar e && isTup tg
  | .zip a b, .Call (.Name y _) [e, e2] [] _ => decide (y = "zip") && bltB c y && eB c a e && notStar e && eB c b e2 && notStar e2 && isTup tg
  | .xi o es, x => (match o.chk c tg x with | some us => aB c es us | none => false)
  | .seq e, x => eB c e x
  | _, _ => false
end
end Tf

set_option Elab.async false
set_option linter.all false
set_option maxRecDepth 100000
set_option maxHeartbeats 4000000
/-! Tf, part F: each form of an expression, over data. -/
namespace Tf
open PySem PySem.Spec PyProof.Rows L2

section
variable {X : Cx} {K : PySem.W.Frag} {mg : Str → Option Value} {W : WX} {a b d e : Expr} {wa wb wd : WK D} {pos p p2 p3 : Pos}

theorem AftX.at {G Φ : Hp} {E : XPost} {σ : L2.St} (h : AftX K mg G Φ E (fun c d H' => W c d σ H')) {G' : Hp} (s : Same G G') : AftX K mg G' Φ E (fun c d H' => W c d σ H') := h.mono s

theorem d_var {i : Nat} {x : Str} (hN : X.N[i]? = some x) (hv : Vis X.env.scope x) (h1 : (x == ("__debug__" : Str)) = false) (h2 : (x == ("__classdict__" : Str)) = false) :
    PE X (.Name x pos) (tE K mg W fun δ μ _ Q => match look δ i with | some d => Q d μ | none => False) :=
  PE_imp (pe_var hN hv h1 h2) fun σ H Q h => by
    obtain ⟨δ, G, μ, Φ, E, R, hE, hR, hw, ha, hx⟩ := h
    have lk : ∀ (δ : DE) (i : Nat), look δ i = (δ[i]?).getD none := by
      intro δ
      induction δ with
      | nil => intro i; rfl
      | cons x r ih => intro i; cases i with
        | zero => rfl
        | succ n => exact ih n
    rw [lk] at hw
    cases e : δ[i]? with
    | none => rw [e] at hw; exact hw.elim
    | some o =>
      rw [e] at hw
      cases o with
      | none => exact hw.elim
      | some d =>
        obtain ⟨v, h1, h2⟩ := hE.at_ i d e
        exact ⟨v, h1, ha d μ G H v hw (Same.refl G) hR h2⟩
theorem d_cst {dv : D} {v : V} {t : TE} (h : PE X e t) (ht : ∀ σ H Q, Q v H → t σ H Q) (r : ∀ G, Rep K G dv v) : PE X e (tE K mg W fun _ μ _ Q => Q dv μ) :=
  PE_imp h fun σ H Q h => by
    obtain ⟨δ, G, μ, Φ, E, R, hE, hR, hw, ha, hx⟩ := h
    exact ht σ H Q (ha dv μ G H v hw (Same.refl G) hR (r G))
theorem d_bop (o : Bop) (ha : PE X a (tE X.K mg W wa)) (hb : PE X b (tE X.K mg W wb)) :
    PE X (.BinOp a (bopOf o) b pos) (tE X.K mg W fun δ μ E Q => wa δ μ E fun x μ1 => wb δ μ1 E fun y μ2 => wBop o (vw μ2 x) (vw μ2 y) μ2 Q) :=
  PE_imp (pe_op (opB o) ha hb) fun σ H Q h => by
    obtain ⟨δ, G, μ, Φ, E, R, hE, hR, hw, ha, hx⟩ := h
    refine ⟨δ, G, μ, Φ, E, _, hE, hR, hw, fun x μ1 G1 H1 v q1 s1 R1 p1 => ?_, hx⟩
    refine ⟨δ, G1, μ1, Φ, E, _, hE.mono s1, R1, q1, fun y μ2 G2 H2 u q2 s2 R2 p2 => ?_, hx.mono s1⟩
    exact bop_ok R2 (Aft.mono ha (s1.trans s2)) o q2 (R2.look (p1.mono s2)) (R2.look p2)
theorem d_neg (ha : PE X a (tE K mg W wa)) : PE X (.UnaryOp .USub a pos) (tE K mg W fun δ μ E Q => wa δ μ E fun x μ1 => match x with | .int i => Q (.int (-i)) μ1 | _ => False) :=
  PE_imp (pe_un un_neg ha) fun σ H Q h => by
    obtain ⟨δ, G, μ, Φ, E, R, hE, hR, hw, ha, hx⟩ := h
    refine ⟨δ, G, μ, Φ, E, _, hE, hR, hw, fun x μ1 G1 H1 v q1 s1 R1 p1 => ?_, hx⟩
    split at q1
    · cases p1
      exact ⟨_, rfl, ha _ μ1 G1 H1 _ q1 s1 R1 (.int _)⟩
    · exact q1.elim
theorem d_cmp (hu : X.A.units + 65 < cLine) (o : Cop) (hm : behindInMarks (copOf o) b = false) (ha : PE X a (tE X.K mg W wa)) (hb : PE X b (tE X.K mg W wb)) :
    PE X (.Compare a [copOf o] [b] pos) (tE X.K mg W fun δ μ E Q => wa δ μ E fun x μ1 => wb δ μ1 E fun y μ2 => wCop o (vw μ2 x) (vw μ2 y) μ2 fun k μ3 => Q (.bl k) μ3) :=
  PE_imp (pe_cmpR (opC hu o) ha hb hm) fun σ H Q h => by
    obtain ⟨δ, G, μ, Φ, E, R, hE, hR, hw, ha, hx⟩ := h
    refine ⟨δ, G, μ, Φ, E, _, hE, hR, hw, fun x μ1 G1 H1 v q1 s1 R1 p1 => ?_, hx⟩
    refine ⟨δ, G1, μ1, Φ, E, _, hE.mono s1, R1, q1, fun y μ2 G2 H2 u q2 s2 R2 p2 => ?_, hx.mono s1⟩
    exact cop_ok R2 (fun k q => ha _ μ2 G2 H2 _ q (s1.trans s2) R2 (.bl k)) o q2 (R2.look (p1.mono s2)) (R2.look p2)
theorem d_cmpT (hu : X.A.units + 65 < cLine) (o : Cop) (hm : behindInMarks (copOf o) b = false) (ha : PE X a (tE X.K mg W wa)) (hb : PE X b (tE X.K mg W wb)) :
    PT X (.Compare a [copOf o] [b] pos) (tT X.K mg W fun δ μ E Q => wa δ μ E fun x μ1 => wb δ μ1 E fun y μ2 => wCop o (vw μ2 x) (vw μ2 y) μ2 Q) :=
  PT_imp (pt_cmpR (opC hu o) ha hb hm) fun σ H Q h => by
    obtain ⟨δ, G, μ, Φ, E, R, hE, hR, hw, ha, hx⟩ := h
    refine ⟨δ, G, μ, Φ, E, _, hE, hR, hw, fun x μ1 G1 H1 v q1 s1 R1 p1 => ?_, hx⟩
    refine ⟨δ, G1, μ1, Φ, E, _, hE.mono s1, R1, q1, fun y μ2 G2 H2 u q2 s2 R2 p2 => ?_, hx.mono s1⟩
    exact cop_ok R2 (fun k q => ⟨k, rfl, ha k μ2 G2 H2 k q (s1.trans s2) R2 rfl⟩) o q2 (R2.look (p1.mono s2)) (R2.look p2)
theorem chain_mark {o1 o2 : Cop} (h1 : notSet b = true) (h2 : notSet d = true) : lastMarks [copOf o1, copOf o2] [b, d] = false := by
  show behindInMarks (copOf o2) d = false
  exact notSet_mark h2
theorem d_chain (hu : X.A.units + 65 < cLine) (o1 o2 : Cop) (h1 : notSet b = true) (h2 : notSet d = true) (ha : PE X a (tE X.K mg W wa)) (hb : PE X b (tE X.K mg W wb)) (hd : PE X d (tE X.K mg W wd)) :
    PE X (.Compare a [copOf o1, copOf o2] [b, d] pos) (tE X.K mg W fun δ μ E Q => wa δ μ E fun x μ1 => wb δ μ1 E fun y μ2 => wCop o1 (vw μ2 x) (vw μ2 y) μ2 fun k μ3 => match k with
      | true => wd δ μ3 E fun z μ4 => wCop o2 (vw μ4 y) (vw μ4 z) μ4 fun k2 μ5 => Q (.bl k2) μ5
      | false => Q (.bl false) μ3) :=
  PE_imp (pe_chain (opC hu o1) (opC hu o2) ha hb hd (chain_mark h1 h2)) fun σ H Q h => by
    obtain ⟨δ, G, μ, Φ, E, R, hE, hR, hw, ha, hx⟩ := h
    refine ⟨δ, G, μ, Φ, E, _, hE, hR, hw, fun x μ1 G1 H1 v q1 s1 R1 p1 => ?_, hx⟩
    refine ⟨δ, G1, μ1, Φ, E, _, hE.mono s1, R1, q1, fun y μ2 G2 H2 u q2 s2 R2 p2 => ?_, hx.mono s1⟩
    refine cop_ok R2 (fun k q => ⟨k, rfl, ?_⟩) o1 q2 (R2.look (p1.mono s2)) (R2.look p2)
    cases k with
    | false => exact ha _ μ2 G2 H2 _ q (s1.trans s2) R2 (.bl _)
    | true =>
      refine ⟨δ, G2, μ2, Φ, E, _, hE.mono (s1.trans s2), R2, q, fun z μ3 G3 H3 t q3 s3 R3 p3 => ?_, hx.mono (s1.trans s2)⟩
      exact cop_ok R3 (fun k2 q => ha _ μ3 G3 H3 _ q ((s1.trans s2).trans s3) R3 (.bl k2)) o2 q3 (R3.look (p2.mono s3)) (R3.look p3)
theorem d_chainT (hu : X.A.units + 65 < cLine) (o1 o2 : Cop) (h1 : notSet b = true) (h2 : notSet d = true) (ha : PE X a (tE X.K mg W wa)) (hb : PE X b (tE X.K mg W wb)) (hd : PE X d (tE X.K mg W wd)) :
    PT X (.Compare a [copOf o1, copOf o2] [b, d] pos) (tT X.K mg W fun δ μ E Q => wa δ μ E fun x μ1 => wb δ μ1 E fun y μ2 => wCop o1 (vw μ2 x) (vw μ2 y) μ2 fun k μ3 => match k with
      | true => wd δ μ3 E fun z μ4 => wCop o2 (vw μ4 y) (vw μ4 z) μ4 Q
      | false => Q false μ3) :=
  PT_imp (pt_chain (opC hu o1) (opC hu o2) ha hb hd (chain_mark h1 h2)) fun σ H Q h => by
    obtain ⟨δ, G, μ, Φ, E, R, hE, hR, hw, ha, hx⟩ := h
    refine ⟨δ, G, μ, Φ, E, _, hE, hR, hw, fun x μ1 G1 H1 v q1 s1 R1 p1 => ?_, hx⟩
    refine ⟨δ, G1, μ1, Φ, E, _, hE.mono s1, R1, q1, fun y μ2 G2 H2 u q2 s2 R2 p2 => ?_, hx.mono s1⟩
    refine cop_ok R2 (fun k q => ⟨k, rfl, ?_⟩) o1 q2 (R2.look (p1.mono s2)) (R2.look p2)
    cases k with
    | false => exact ⟨false, rfl, ha _ μ2 G2 H2 _ q (s1.trans s2) R2 rfl⟩
    | true =>
      refine ⟨δ, G2, μ2, Φ, E, _, hE.mono (s1.trans s2), R2, q, fun z μ3 G3 H3 t q3 s3 R3 p3 => ?_, hx.mono (s1.trans s2)⟩
      exact cop_ok R3 (fun k2 q => ⟨k2, rfl, ha k2 μ3 G3 H3 k2 q ((s1.trans s2).trans s3) R3 rfl⟩) o2 q3 (R3.look (p2.mono s3)) (R3.look p3)
/-- an expression by its truth -/
theorem d_tru (hp : plainT a = true) (ha : PE X a (tE X.K mg W wa)) : PT X a (tT X.K mg W fun δ μ E Q => wa δ μ E fun x μ1 => match truth (vw μ1 x) with | some k => Q k μ1 | none => False) :=
  PT_imp (pt_truth ha (plainT_ok hp X.env)) fun σ H Q h => by
    obtain ⟨δ, G, μ, Φ, E, R, hE, hR, hw, ha, hx⟩ := h
    refine ⟨δ, G, μ, Φ, E, _, hE, hR, hw, fun x μ1 G1 H1 v q1 s1 R1 p1 => ?_, hx⟩
    split at q1
    · rename_i k e
      exact ⟨k, truth_ok R1.sub e (R1.look p1), ha k μ1 G1 H1 k q1 s1 R1 rfl⟩
    · exact q1.elim
variable {ta tb : WK Bool} {xs : List Expr}
theorem d_notT (ha : PT X a (tT K mg W ta)) : PT X (.UnaryOp .Not a pos) (tT K mg W fun δ μ E Q => ta δ μ E fun k μ1 => Q (!k) μ1) :=
  PT_imp (pt_not ha) fun σ H Q h => by
    obtain ⟨δ, G, μ, Φ, E, R, hE, hR, hw, ha, hx⟩ := h
    refine ⟨δ, G, μ, Φ, E, _, hE, hR, hw, fun x μ1 G1 H1 v q1 s1 R1 p1 => ?_, hx⟩
    have p1' : x = v := p1
    subst p1'
    exact ha _ μ1 G1 H1 _ q1 s1 R1 rfl
/-- not a, as a value -/
theorem d_not (ha : PE X a (tE X.K mg W wa)) : PE X (.UnaryOp .Not a pos) (tE X.K mg W fun δ μ E Q => wa δ μ E fun x μ1 => match truth (vw μ1 x) with | some k => Q (.bl (!k)) μ1 | none => False) :=
  PE_imp (pe_notT ha) fun σ H Q h => by
    obtain ⟨δ, G, μ, Φ, E, R, hE, hR, hw, ha, hx⟩ := h
    refine ⟨δ, G, μ, Φ, E, _, hE, hR, hw, fun x μ1 G1 H1 v q1 s1 R1 p1 => ?_, hx⟩
    split at q1
    · rename_i k e
      exact ⟨k, truth_ok R1.sub e (R1.look p1), ha _ μ1 G1 H1 _ q1 s1 R1 (.bl _)⟩
    · exact q1.elim
theorem d_and1 {xs : List Expr} (ha : PT X a (tT K mg W ta)) : PW X (.BoolOp .And [a] pos) (tT K mg W fun δ μ E Q => ta δ μ E fun k μ1 => match k with | true => Q true μ1 | false => Q false μ1) := by
  refine ⟨fun wh pins s σ H Q I h => (pw_and1 (pos := pos) ha).run wh pins s σ H Q I ?_⟩
  obtain ⟨δ, G, μ, Φ, E, R, hE, hR, hw, ha, hx⟩ := h
  refine ⟨δ, G, μ, Φ, E, _, hE, hR, hw, fun x μ1 G1 H1 v q1 s1 R1 p1 => ?_, hx⟩
  have p1' : x = v := p1
  subst p1'
  cases x <;> exact ha _ μ1 G1 H1 _ q1 s1 R1 rfl
theorem d_andC {rest : List Expr} (ha : PT X a (tT K mg W ta)) (hb : PW X (.BoolOp .And (b :: rest) pos) (tT K mg W tb)) : PW X (.BoolOp .And (a :: b :: rest) pos) (tT K mg W fun δ μ E Q => ta δ μ E fun k μ1 => match k with | true => tb δ μ1 E Q | false => Q false μ1) := by
  refine ⟨fun wh pins s σ H Q I h => (pw_and (pos := pos) ha hb).run wh pins s σ H Q I ?_⟩
  obtain ⟨δ, G, μ, Φ, E, R, hE, hR, hw, ha, hx⟩ := h
  refine ⟨δ, G, μ, Φ, E, _, hE, hR, hw, fun x μ1 G1 H1 v q1 s1 R1 p1 => ?_, hx⟩
  have p1' : x = v := p1
  subst p1'
  cases x with
  | false => exact ha _ μ1 G1 H1 _ q1 s1 R1 rfl
  | true => exact ⟨δ, G1, μ1, Φ, E, R, hE.mono s1, R1, q1, fun d μ2 G2 H2 v2 r2 s2 => ha d μ2 G2 H2 v2 r2 (s1.trans s2), hx.mono s1⟩
theorem d_or1 {xs : List Expr} (ha : PT X a (tT K mg W ta)) : PW X (.BoolOp .Or [a] pos) (tT K mg W fun δ μ E Q => ta δ μ E fun k μ1 => match k with | true => Q true μ1 | false => Q false μ1) := by
  refine ⟨fun wh pins s σ H Q I h => (pw_or1 (pos := pos) ha).run wh pins s σ H Q I ?_⟩
  obtain ⟨δ, G, μ, Φ, E, R, hE, hR, hw, ha, hx⟩ := h
  refine ⟨δ, G, μ, Φ, E, _, hE, hR, hw, fun x μ1 G1 H1 v q1 s1 R1 p1 => ?_, hx⟩
  have p1' : x = v := p1
  subst p1'
  cases x <;> exact ha _ μ1 G1 H1 _ q1 s1 R1 rfl
theorem d_orC {rest : List Expr} (ha : PT X a (tT K mg W ta)) (hb : PW X (.BoolOp .Or (b :: rest) pos) (tT K mg W tb)) : PW X (.BoolOp .Or (a :: b :: rest) pos) (tT K mg W fun δ μ E Q => ta δ μ E fun k μ1 => match k with | true => Q true μ1 | false => tb δ μ1 E Q) := by
  refine ⟨fun wh pins s σ H Q I h => (pw_or (pos := pos) ha hb).run wh pins s σ H Q I ?_⟩
  obtain ⟨δ, G, μ, Φ, E, R, hE, hR, hw, ha, hx⟩ := h
  refine ⟨δ, G, μ, Φ, E, _, hE, hR, hw, fun x μ1 G1 H1 v q1 s1 R1 p1 => ?_, hx⟩
  have p1' : x = v := p1
  subst p1'
  cases x with
  | true => exact ha _ μ1 G1 H1 _ q1 s1 R1 rfl
  | false => exact ⟨δ, G1, μ1, Φ, E, R, hE.mono s1, R1, q1, fun d μ2 G2 H2 v2 r2 s2 => ha d μ2 G2 H2 v2 r2 (s1.trans s2), hx.mono s1⟩
theorem d_andV {rest : List Expr} (ha : PE X a (tE K mg W wa)) (hb : PE X (.BoolOp .And (b :: rest) pos) (tE K mg W wb)) : PE X (.BoolOp .And (a :: b :: rest) pos) (tE K mg W fun δ μ E Q => wa δ μ E fun x μ1 => match x with | .bl true => wb δ μ1 E Q | .bl false => Q (.bl false) μ1 | _ => False) :=
  PE_imp (pe_and ha hb) fun σ H Q h => by
    obtain ⟨δ, G, μ, Φ, E, R, hE, hR, hw, ha, hx⟩ := h
    refine ⟨δ, G, μ, Φ, E, _, hE, hR, hw, fun x μ1 G1 H1 v q1 s1 R1 p1 => ?_, hx⟩
    split at q1
    · cases p1
      exact ⟨true, rfl, δ, G1, μ1, Φ, E, R, hE.mono s1, R1, q1, fun d μ2 G2 H2 v2 r2 s2 => ha d μ2 G2 H2 v2 r2 (s1.trans s2), hx.mono s1⟩
    · cases p1
      exact ⟨false, rfl, ha _ μ1 G1 H1 _ q1 s1 R1 (.bl _)⟩
    · exact q1.elim
theorem d_orV {rest : List Expr} (ha : PE X a (tE K mg W wa)) (hb : PE X (.BoolOp .Or (b :: rest) pos) (tE K mg W wb)) : PE X (.BoolOp .Or (a :: b :: rest) pos) (tE K mg W fun δ μ E Q => wa δ μ E fun x μ1 => match x with | .bl true => Q (.bl true) μ1 | .bl false => wb δ μ1 E Q | _ => False) :=
  PE_imp (pe_or ha hb) fun σ H Q h => by
    obtain ⟨δ, G, μ, Φ, E, R, hE, hR, hw, ha, hx⟩ := h
    refine ⟨δ, G, μ, Φ, E, _, hE, hR, hw, fun x μ1 G1 H1 v q1 s1 R1 p1 => ?_, hx⟩
    split at q1
    · cases p1
      exact ⟨true, rfl, ha _ μ1 G1 H1 _ q1 s1 R1 (.bl _)⟩
    · cases p1
      exact ⟨false, rfl, δ, G1, μ1, Φ, E, R, hE.mono s1, R1, q1, fun d μ2 G2 H2 v2 r2 s2 => ha d μ2 G2 H2 v2 r2 (s1.trans s2), hx.mono s1⟩
    · exact q1.elim
theorem d_ite (hc : PT X d (tT K mg W ta)) (ha : PE X a (tE K mg W wa)) (hb : PE X b (tE K mg W wb)) : PE X (.IfExp d a b pos) (tE K mg W fun δ μ E Q => ta δ μ E fun k μ1 => match k with | true => wa δ μ1 E Q | false => wb δ μ1 E Q) :=
  PE_imp (pe_ifExp hc ha hb) fun σ H Q h => by
    obtain ⟨δ, G, μ, Φ, E, R, hE, hR, hw, ha, hx⟩ := h
    refine ⟨δ, G, μ, Φ, E, _, hE, hR, hw, fun x μ1 G1 H1 v q1 s1 R1 p1 => ?_, hx⟩
    have p1' : x = v := p1
    subst p1'
    cases x with
    | true => exact ⟨δ, G1, μ1, Φ, E, R, hE.mono s1, R1, q1, fun d μ2 G2 H2 v2 r2 s2 => ha d μ2 G2 H2 v2 r2 (s1.trans s2), hx.mono s1⟩
    | false => exact ⟨δ, G1, μ1, Φ, E, R, hE.mono s1, R1, q1, fun d μ2 G2 H2 v2 r2 s2 => ha d μ2 G2 H2 v2 r2 (s1.trans s2), hx.mono s1⟩
/-! ### arguments -/
variable {wl : WK (List D)}
theorem d_nil : PA X [] (tA K mg W fun _ μ _ R => R [] μ) :=
  PA_imp pa_nil fun σ H Q h => by
    obtain ⟨δ, G, μ, Φ, E, R, hE, hR, hw, ha, hx⟩ := h
    exact ha _ μ G H _ hw (Same.refl G) hR .nil
theorem d_cons (hs : notStar a = true) (ha : PE X a (tE K mg W wa)) (hl : PA X xs (tA K mg W wl)) : PA X (a :: xs) (tA K mg W fun δ μ E R => wa δ μ E fun x μ1 => wl δ μ1 E fun ys μ2 => R (x :: ys) μ2) :=
  PA_imp (pa_cons ha hl (notStar_each hs)) fun σ H Q h => by
    obtain ⟨δ, G, μ, Φ, E, R, hE, hR, hw, ha, hx⟩ := h
    refine ⟨δ, G, μ, Φ, E, _, hE, hR, hw, fun x μ1 G1 H1 v q1 s1 R1 p1 => ?_, hx⟩
    exact ⟨δ, G1, μ1, Φ, E, _, hE.mono s1, R1, q1, fun ys μ2 G2 H2 us q2 s2 R2 p2 => ha _ μ2 G2 H2 _ q2 (s1.trans s2) R2 (.cons (p1.mono s2) p2), hx.mono s1⟩
theorem d_star (ha : PE X a (tE X.K mg W wa)) (hl : PA X xs (tA X.K mg W wl)) : PA X (.Starred a pos :: xs) (tA X.K mg W fun δ μ E R => wa δ μ E fun x μ1 => match seqD (vw μ1 x) with
    | some ds => wl δ μ1 E fun ys μ2 => R (ds ++ ys) μ2
    | none => False) :=
  PA_imp (StX.pa_star ha hl) fun σ H Q h => by
    obtain ⟨δ, G, μ, Φ, E, R, hE, hR, hw, ha, hx⟩ := h
    refine ⟨δ, G, μ, Φ, E, _, hE, hR, hw, fun x μ1 G1 H1 v q1 s1 R1 p1 => ?_, hx⟩
    split at q1
    · rename_i ds e
      obtain ⟨c, vs, rfl, rr, sq⟩ := (R1.look p1).seq R1.sub e
      exact ⟨c, vs, rfl, sq, δ, G1, μ1, Φ, E, _, hE.mono s1, R1, q1, fun ys μ2 G2 H2 us q2 s2 R2 p2 => ha _ μ2 G2 H2 _ q2 (s1.trans s2) R2 ((rr.mono s2).append p2), hx.mono s1⟩
    · exact q1.elim
theorem d_tup {k : Nat} (hl : PA X xs (tA K mg W wl)) : PE X (.Tuple xs k pos) (tE K mg W fun δ μ E Q => wl δ μ E fun ds μ1 => ds.length ≤ sz ∧ Q (.tup ds) μ1) :=
  PE_imp (pe_tup hl) fun σ H Q h => by
    obtain ⟨δ, G, μ, Φ, E, R, hE, hR, hw, ha, hx⟩ := h
    refine ⟨δ, G, μ, Φ, E, _, hE, hR, hw, fun ds μ1 G1 H1 vs q1 s1 R1 p1 => ⟨by rw [← p1.length]; exact szLine q1.1, ?_⟩, hx⟩
    exact Aft.tup (Aft.mono ha s1) R1 q1.2 (p1.mono R1.sub) p1
theorem d_lst {m : Bool} (hl : PA X xs (tA K mg W wl)) : PE X (.List xs pos) (tE K mg W fun δ μ E Q => wl δ μ E fun ds μ1 => ds.length ≤ sz ∧ match m with
    | true => ∀ p, μ1 p = none → Q (.ref p) (mput μ1 p ds)
    | false => Q (.lst ds) μ1) :=
  PE_imp (pe_lst hl) fun σ H Q h => by
    obtain ⟨δ, G, μ, Φ, E, R, hE, hR, hw, ha, hx⟩ := h
    refine ⟨δ, G, μ, Φ, E, _, hE, hR, hw, fun ds μ1 G1 H1 vs q1 s1 R1 p1 => ⟨by rw [← p1.length]; exact szLine q1.1, ?_⟩, hx⟩
    cases m with
    | false => exact Aft.lst (Aft.mono ha s1) R1 q1.2 p1
    | true => exact fun p hp => ha _ _ G1 _ _ (q1.2 p (R1.mnone hp)) s1 (R1.newM hp p1) (.ref p)
/-! ### subscripts -/
theorem d_sub (hs : notSlice b = true) (ha : PE X a (tE X.K mg W wa)) (hb : PE X b (tE X.K mg W wb)) : PE X (.Subscript a b pos) (tE X.K mg W fun δ μ E Q => wa δ μ E fun x μ1 => wb δ μ1 E fun k μ2 => match seqD (vw μ2 x), k with
    | some ds, .int j => match atI ds j with | some d => Q d μ2 | none => False
    | _, _ => False) :=
  PE_imp (pe_ix ix_seq ha hb (notSlice_ix hs)) fun σ H Q h => by
    obtain ⟨δ, G, μ, Φ, E, R, hE, hR, hw, ha, hx⟩ := h
    refine ⟨δ, G, μ, Φ, E, _, hE, hR, hw, fun x μ1 G1 H1 v q1 s1 R1 p1 => ?_, hx⟩
    refine ⟨δ, G1, μ1, Φ, E, _, hE.mono s1, R1, q1, fun y μ2 G2 H2 u q2 s2 R2 p2 => ?_, hx.mono s1⟩
    split at q2
    · rename_i ds j e
      split at q2
      · rename_i dd e2
        obtain ⟨c, vs, rfl, rr, sq⟩ := (R2.look (p1.mono s2)).seq R2.sub e
        cases p2
        obtain ⟨n, e3, e4⟩ := Option.bind_eq_some_iff.mp e2
        obtain ⟨w, e5, e6⟩ := rr.get e4
        have e7 : atI vs j = some w := by unfold atI; rw [← rr.length, e3]; exact e5
        have fin : Q w H2 := ha _ μ2 G2 H2 _ q2 (s1.trans s2) R2 e6
        rcases sq with sq | sq
        · exact .inr (.inl ⟨c, vs, j, w, rfl, rfl, sq, e7, fin⟩)
        · exact .inl ⟨c, vs, j, w, rfl, rfl, sq, e7, fin⟩
      · exact q2.elim
    · exact q2.elim
abbrev tO' (K : PySem.W.Frag) (mg : Str → Option Value) (W : WX) (w : WK (Option Int)) : TO := tW K mg W isO w
theorem d_none : PO X none (tO' K mg W fun _ μ _ R => R none μ) :=
  PO_imp po_none fun σ H Q h => by
    obtain ⟨δ, G, μ, Φ, E, R, hE, hR, hw, ha, hx⟩ := h
    exact ha _ μ G H _ hw (Same.refl G) hR rfl
theorem d_some (ha : PE X a (tE K mg W wa)) : PO X (some a) (tO' K mg W fun δ μ E R => wa δ μ E fun x μ1 => match x with | .int i => R (some i) μ1 | _ => False) :=
  PO_imp (po_some ha) fun σ H Q h => by
    obtain ⟨δ, G, μ, Φ, E, R, hE, hR, hw, ha, hx⟩ := h
    refine ⟨δ, G, μ, Φ, E, _, hE, hR, hw, fun x μ1 G1 H1 v q1 s1 R1 p1 => ?_, hx⟩
    split at q1
    · cases p1
      exact ⟨_, rfl, ha _ μ1 G1 H1 _ q1 s1 R1 rfl⟩
    · exact q1.elim
theorem RepL.cut {G : Hp} {ds : List D} {vs : List V} (r : RepL K G ds vs) (lo hi : Option Int) : RepL K G (cutD ds lo hi) (cutV vs lo hi) := by
  unfold cutD cutV
  rw [r.length]
  exact (r.drop _).take _
variable {wo wh : WK (Option Int)} {lo hi : Option Expr}
theorem slOr {r r' : V → Option Int → Option Int → Hp → VK → Prop} (h : SlR X r) (h' : SlR X r') : SlR X (fun x lo hi H Q => r x lo hi H Q ∨ r' x lo hi H Q) := h.or h'
theorem d_slc (ha : PE X a (tE X.K mg W wa)) (hl : PO X lo (tO' X.K mg W wo)) (hh : PO X hi (tO' X.K mg W wh)) : PE X (.Subscript a (.Slice lo hi none p2) pos) (tE X.K mg W fun δ μ E Q => wa δ μ E fun x μ1 => wo δ μ1 E fun l μ2 => wh δ μ2 E fun h μ3 => match vw μ3 x with
    | .tup ds => Q (.tup (cutD ds l h)) μ3
    | .lst ds => Q (.lst (cutD ds l h)) μ3
    | .lsf ds => Q (.lst (cutD ds l h)) μ3
    | _ => False) :=
  PE_imp (pe_slice (slOr sl_list sl_tupA) ha hl hh) fun σ H Q h => by
    obtain ⟨δ, G, μ, Φ, E, R, hE, hR, hw, ha, hx⟩ := h
    refine ⟨δ, G, μ, Φ, E, _, hE, hR, hw, fun x μ1 G1 H1 v q1 s1 R1 p1 => ?_, hx⟩
    refine ⟨δ, G1, μ1, Φ, E, _, hE.mono s1, R1, q1, fun l μ2 G2 H2 l' q2 s2 R2 p2 => ?_, hx.mono s1⟩
    refine ⟨δ, G2, μ2, Φ, E, _, hE.mono (s1.trans s2), R2, q2, fun h μ3 G3 H3 h' q3 s3 R3 p3 => ?_, hx.mono (s1.trans s2)⟩
    have p2' : l = l' := p2
    have p3' : h = h' := p3
    subst p2' p3'
    have lk := R3.look (p1.mono (s2.trans s3))
    have ha3 := Aft.mono ha ((s1.trans s2).trans s3)
    split at q3
    · rename_i ds e
      rw [e] at lk
      cases lk with
      | tup sq rr =>
        refine .inr ⟨_, _, rfl, Same.sqT R3.sub sq, fun hw => ?_, fun _ => ha3.tup R3 q3 ((rr.cut l h).mono R3.sub) (rr.cut l h)⟩
        have e : cutD ds l h = ds := by
          unfold cutD
          rw [rr.length, hw.1, hw.2, List.drop_zero, Nat.sub_zero, ← rr.length]
          exact List.take_length
        rw [e] at q3
        exact ha3.val R3 q3 (.tup sq rr)
    · rename_i ds e
      rw [e] at lk
      cases lk with
      | lst sq rr => exact .inl ⟨_, _, rfl, .inl (.inl sq), ha3.lst R3 q3 (rr.cut l h)⟩
    · rename_i ds e
      rw [e] at lk
      cases lk with
      | lsf sq rr => exact .inl ⟨_, _, rfl, R3.sub.seq sq, ha3.lst R3 q3 (rr.cut l h)⟩
    · exact q3.elim
/-! ### lists that change -/
theorem tyL {K : PySem.W.Frag} {H : Hp} {l : Addr} {vs : List V} (h : H l = some (.lst vs)) : tyV K "list" (.ref l) H := .inl ⟨rfl, _, .inl (.inl h)⟩
theorem few1 (a : Expr) (env : Env) (cpos : Pos) (h : notStar a = true) : ((backTo cpos (starEach [a] env)).all (fun x => !x.1) && (backToKw cpos (keywordEach [] env)).all (fun x => x.1.isSome)
      && decide (([a] : List Expr).length + ([] : List Keyword).length + (if ([] : List Keyword).isEmpty then 0 else 1) < 30)) = true := by
  rw [notStar_each h]
  rfl
theorem d_app {o : Expr} {apos : Pos} (hb : notSuper o = true) (hst : notStar a = true) (hln : (apos.endLine == pos.line) = true) (ho : PE X o (tE X.K mg W wb)) (ha : PE X a (tE X.K mg W wa)) :
    PE X (.Call (.Attribute o "append" apos) [a] [] pos) (tE X.K mg W fun δ μ E Q => wb δ μ E fun x μ1 => match x with
    | .ref p => match μ1 p with
      | some _ => wa δ μ1 E fun y μ2 => match μ2 p with | some ds => ds.length < sz ∧ Q .non (mput μ2 p (ds ++ [y])) | none => False
      | none => False
    | _ => False) :=
  PE_imp (pe_bm PySem.F.plainAttrs_list PySem.F.slot_list_append PySem.F.type_list_append mt_append ho (pa_cons ha pa_nil (notStar_each hst)) (notSuper_base hb _ _) (few1 a X.env pos hst) hln (notStar_each hst) rfl) fun σ H Q h => by
    obtain ⟨δ, G, μ, Φ, E, R, hE, hR, hw, ha, hx⟩ := h
    refine ⟨δ, G, μ, Φ, E, _, hE, hR, hw, fun x μ1 G1 H1 v q1 s1 R1 p1 => ?_, hx⟩
    split at q1
    · rename_i p
      split at q1
      · rename_i ds0 e0
        cases p1
        obtain ⟨_, vs0, hh0, _⟩ := R1.chg p ds0 e0
        refine ⟨tyL hh0, δ, G1, μ1, Φ, E, _, hE.mono s1, R1, q1, fun y μ2 G2 H2 u q2 s2 R2 p2 => ?_, hx.mono s1⟩
        split at q2
        · rename_i ds e
          obtain ⟨_, vs, hh, rr⟩ := R2.chg p ds e
          exact ⟨p, vs, u, rfl, rfl, hh, by rw [← rr.length]; exact szLine' q2.1, ha _ _ G2 _ _ q2.2 (s1.trans s2) (R2.set e (rr.snoc p2)) .non⟩
        · exact q2.elim
      · exact q1.elim
    · exact q1.elim
theorem d_ext {o : Expr} {apos : Pos} (hb : notSuper o = true) (hst : notStar a = true) (hln : (apos.endLine == pos.line) = true) (ho : PE X o (tE X.K mg W wb)) (ha : PE X a (tE X.K mg W wa)) :
    PE X (.Call (.Attribute o "extend" apos) [a] [] pos) (tE X.K mg W fun δ μ E Q => wb δ μ E fun x μ1 => match x with
    | .ref p => match μ1 p with
      | some _ => wa δ μ1 E fun y μ2 => match μ2 p, y with | some ds, .lst es => ds.length + es.length ≤ sz ∧ Q .non (mput μ2 p (ds ++ es)) | _, _ => False
      | none => False
    | _ => False) :=
  PE_imp (pe_bm PySem.F.plainAttrs_list PySem.F.slot_list_extend PySem.F.type_list_extend mt_extend ho (pa_cons ha pa_nil (notStar_each hst)) (notSuper_base hb _ _) (few1 a X.env pos hst) hln (notStar_each hst) rfl) fun σ H Q h => by
    obtain ⟨δ, G, μ, Φ, E, R, hE, hR, hw, ha, hx⟩ := h
    refine ⟨δ, G, μ, Φ, E, _, hE, hR, hw, fun x μ1 G1 H1 v q1 s1 R1 p1 => ?_, hx⟩
    split at q1
    · rename_i p
      split at q1
      · rename_i ds0 e0
        cases p1
        obtain ⟨_, vs0, hh0, _⟩ := R1.chg p ds0 e0
        refine ⟨tyL hh0, δ, G1, μ1, Φ, E, _, hE.mono s1, R1, q1, fun y μ2 G2 H2 u q2 s2 R2 p2 => ?_, hx.mono s1⟩
        split at q2
        · rename_i ds es e
          obtain ⟨_, vs, hh, rr⟩ := R2.chg p ds e
          cases p2 with
          | lst he re =>
            exact ⟨p, _, vs, _, rfl, rfl, hh, R2.sub _ _ he, by rw [← rr.length, ← re.length]; exact szLine q2.1, ha _ _ G2 _ _ q2.2 (s1.trans s2) (R2.set e (rr.append re)) .non⟩
        · exact q2.elim
      · exact q1.elim
    · exact q1.elim
theorem d_pop {o : Expr} {apos : Pos} (hb : notSuper o = true) (hln : (apos.endLine == pos.line) = true) (ho : PE X o (tE X.K mg W wb)) :
    PE X (.Call (.Attribute o "pop" apos) [] [] pos) (tE X.K mg W fun δ μ E Q => wb δ μ E fun x μ1 => match x with
    | .ref p => match μ1 p with | some ds => (match ds.getLast? with | some y => Q y (mput μ1 p ds.dropLast) | none => False) | none => False
    | _ => False) :=
  PE_imp (pe_bm0 PySem.F.plainAttrs_list PySem.F.slot_list_pop PySem.F.type_list_pop mt_pop ho (notSuper_base hb _ _) hln) fun σ H Q h => by
    obtain ⟨δ, G, μ, Φ, E, R, hE, hR, hw, ha, hx⟩ := h
    refine ⟨δ, G, μ, Φ, E, _, hE, hR, hw, fun x μ1 G1 H1 v q1 s1 R1 p1 => ?_, hx⟩
    split at q1
    · rename_i p
      split at q1
      · rename_i ds e
        cases p1
        obtain ⟨_, vs, hh, rr⟩ := R1.chg p ds e
        split at q1
        · rename_i y ey
          rw [List.getLast?_eq_getElem?] at ey
          obtain ⟨w, e5, e6⟩ := rr.get ey
          rw [rr.length] at e5
          refine ⟨tyL hh, p, vs, w, rfl, rfl, hh, e5, ha _ _ G1 _ _ q1 s1 (R1.set e ?_) e6⟩
          rw [List.dropLast_eq_take, List.dropLast_eq_take, rr.length]
          exact rr.take _
        · exact q1.elim
      · exact q1.elim
    · exact q1.elim
theorem RepL.erase {G : Hp} : ∀ {ds : List D} {vs : List V} (n : Nat), RepL K G ds vs → RepL K G (ds.eraseIdx n) (vs.eraseIdx n)
  | _, _, _, .nil => .nil
  | _, _, 0, .cons _ r => r
  | _, _, n + 1, .cons h r => .cons h (RepL.erase n r)
theorem d_popAt {o : Expr} {apos : Pos} (hb : notSuper o = true) (hst : notStar a = true) (hln : (apos.endLine == pos.line) = true) (ho : PE X o (tE X.K mg W wb)) (ha : PE X a (tE X.K mg W wa)) :
    PE X (.Call (.Attribute o "pop" apos) [a] [] pos) (tE X.K mg W fun δ μ E Q => wb δ μ E fun x μ1 => match x with
    | .ref p => match μ1 p with
      | some _ => wa δ μ1 E fun k μ2 => match μ2 p, k with
        | some ds, .int j => match ixN ds.length j with
          | some n => match ds[n]? with | some d => (-(2 ^ 63) ≤ j ∧ j < 2 ^ 63) ∧ Q d (mput μ2 p (ds.eraseIdx n)) | none => False
          | none => False
        | _, _ => False
      | none => False
    | _ => False) :=
  PE_imp (pe_bm PySem.F.plainAttrs_list PySem.F.slot_list_pop PySem.F.type_list_pop mt_popAt ho (pa_cons ha pa_nil (notStar_each hst)) (notSuper_base hb _ _) (few1 a X.env pos hst) hln (notStar_each hst) rfl) fun σ H Q h => by
    obtain ⟨δ, G, μ, Φ, E, R, hE, hR, hw, ha, hx⟩ := h
    refine ⟨δ, G, μ, Φ, E, _, hE, hR, hw, fun x μ1 G1 H1 v q1 s1 R1 p1 => ?_, hx⟩
    split at q1
    · rename_i p
      split at q1
      · rename_i ds0 e0
        cases p1
        obtain ⟨_, vs0, hh0, _⟩ := R1.chg p ds0 e0
        refine ⟨tyL hh0, δ, G1, μ1, Φ, E, _, hE.mono s1, R1, q1, fun y μ2 G2 H2 u q2 s2 R2 p2 => ?_, hx.mono s1⟩
        split at q2
        · rename_i ds j e
          obtain ⟨_, vs, hh, rr⟩ := R2.chg p ds e
          split at q2
          · rename_i n en
            split at q2
            · rename_i d ed
              cases p2
              obtain ⟨w, e5, e6⟩ := rr.get ed
              rw [rr.length] at en
              obtain ⟨z1, z2, z3, z4⟩ := ixN_seq en
              exact ⟨p, vs, j, n, w, rfl, rfl, hh, q2.1.1, q2.1.2, z1, e5, ha _ _ G2 _ _ q2.2 (s1.trans s2) (R2.set e (rr.erase n)) e6⟩
            · exact q2.elim
          · exact q2.elim
        · exact q2.elim
      · exact q1.elim
    · exact q1.elim
end
end Tf

set_option Elab.async false
set_option linter.all false
set_option maxRecDepth 100000
set_option maxHeartbeats 4000000
/-! Tf, part N1: enumerate of a tuple. -/
namespace Tf
open PySem PySem.Spec PyProof.Rows L2
open Sem (wp)
open AutoSeq1 (wpAny_loadPart')
theorem meets_enumerate_newT (l : Addr) (items : Array Value) (n : Nat) (dct : Option Addr) (sl : Array (Option Value)) :
    Meets (Builtin.«enumerate.__new__» ⟨[.type "enumerate", .ref l], []⟩) (fun _ R s => s.heap.get? l = some { cls := .type "tuple", dict := dct, data := .seq items n, slots := sl } ∧
      R (.ok (.ret (.ref (s.heap.push { cls := .type "tuple_iterator", data := .fields #[.ref l, .int 0 0] }).objs.size)))
        { s with heap := (s.heap.push { cls := .type "tuple_iterator", data := .fields #[.ref l, .int 0 0] }).push { cls := .type "enumerate", data := .fields #[.none, .bool false, .ref s.heap.objs.size, rawInt 0, .none, .none] } }) :=
  .of_wp fun prog w A R s h => by
    obtain ⟨hp, g, d, tk, os⟩ := s; obtain ⟨hl, h⟩ := h
    have hsub := sub_enumerate
    have hL : Heap.IsTuple (Shared.heap ⟨hp, g, d, tk, os⟩) l items := ⟨_, hl, rfl, n, rfl⟩
    wp_walk using wpAny_loadPart' hl
    refine wpAny_stack_any fun st => wpAny_pure ?_
    split
    · rename_i c _ _ _ _ _
      cases (c == Value.type "enumerate")
      · wp_walk using wpAny_loadPart' hl, wpAny_pyIter_tuple hL
        exact ⟨_, rfl, h⟩
      · wp_walk using wpAny_loadPart' hl, wpAny_pyIter_tuple hL
        exact ⟨_, rfl, h⟩
    · wp_walk using wpAny_loadPart' hl, wpAny_pyIter_tuple hL
      exact ⟨_, rfl, h⟩
section
variable {prog : Program} {w : World} {A : Around} {E : Value → Shared → Prop} {s : Shared}
theorem call_enumerate_tuple {l : Addr} {items : Array Value} {Q : Value → Shared → Prop} (hL : s.heap.IsTuple l items)
    (h : ∀ h', IsEnum h' (s.heap.objs.size + 1) s.heap.objs.size 0 .none → h'.IsTupleIter s.heap.objs.size l 0 → h'.objs.size = s.heap.objs.size + 2 →
      (∀ b o, s.heap.get? b = some o → h'.get? b = some o) → Q (.ref (s.heap.objs.size + 1)) { s with heap := h' }) :
    wpAny (model prog w) A (call (.type "enumerate") [.ref l]) Q E s := by
  obtain ⟨⟨c, dct, dt, sl⟩, hl, hc, n, hd⟩ := hL
  replace hc : c = .type "tuple" := hc
  replace hd : dt = .seq items n := hd
  subst hc hd
  refine callType_new F.called_enumerate (by decide) (F.typeCall_enumerate_1 _) (F.newCall_enumerate_1 _) (fun obj => F.args_object_init_2 obj _) F.entry_enumerate_new
    (meets_enumerate_newT l items n dct sl) ⟨hl, ?_⟩
  have hz : (s.heap.push { cls := .type "tuple_iterator", data := .fields #[.ref l, .int 0 0] }).objs.size = s.heap.objs.size + 1 := Heap.size_push ..
  show _ ∧ _
  rw [hz]
  have he : IsEnum ((s.heap.push { cls := .type "tuple_iterator", data := .fields #[.ref l, .int 0 0] }).push
      { cls := .type "enumerate", data := .fields #[.none, .bool false, .ref s.heap.objs.size, rawInt 0, .none, .none] }) (s.heap.objs.size + 1) s.heap.objs.size 0 .none := by
    have := Heap.get?_push_size (s.heap.push { cls := .type "tuple_iterator", data := .fields #[.ref l, .int 0 0] })
      (o := { cls := .type "enumerate", data := .fields #[.none, .bool false, .ref s.heap.objs.size, rawInt 0, .none, .none] }) rfl
    rw [hz] at this; exact this
  refine ⟨⟨_, he, rfl⟩, h _ he ⟨_, Heap.get?_push_of_some _ (Heap.get?_push_size _ rfl), rfl, rfl⟩ (by rw [Heap.size_push, hz]) fun b o x => Heap.get?_push_of_some _ (Heap.get?_push_of_some _ x)⟩
end
section
variable {prog : Program} {w : World} {A : Around} {E : Value → Shared → Prop} {s : Shared}
theorem wpAny_pyNext_enumT_end {e it t : Addr} {items : Array Value} {i : Nat} {k : Int} {old : Value} {Q : Option Value → Shared → Prop} (hh : A.in1.handled = none)
    (he : IsEnum s.heap e it k old) (h1 : s.heap.IsTupleIter it t i) (h2 : s.heap.IsTuple t items) (hx : items[i]? = none)
    (hQ : ∀ h', Heap.ExtBut it s.heap h' → Q none { s with heap := h' }) : wpAny (model prog w) A (pyNext (.ref e)) Q E s := by
  have hT : s.TypeIs (.ref e) "enumerate" := ⟨_, he, rfl⟩
  unfold pyNext
  refine wpAny_bind (wpAny_attempt (wpAny_callSpecial?_slot (name := Str.ofString "__next__") hT F.slot_enumerate_next
    (wpAny_call_entry F.slot_enumerate_next hT F.entry_enumerate_next ?_ (F.args_enumerate_next_1 _))))
  show wpAny _ _ (field (.ref e) 2 >>= _) _ _ _
  refine wpAny_bind (wpAny_field he rfl (x := .ref it) rfl ?_)
  refine wpAny_bind (wpAny_nextOf_tuple_end hh h1 h2 hx fun h' x he' hx' => ?_)
  obtain ⟨o, ho, hc⟩ := hx'
  refine wpAny_bind (wpAny_isInstance (T := "StopIteration") (b := true) ⟨o, ho, hc⟩ isSubtype_stop ?_)
  exact wpAny_pure (hQ _ he')
end
/-- the tuple at a as it stands at each turn, each item in a new pair -/
def IteT (K : PySem.W.Frag) (a : Addr) : It :=
  ⟨fun i H => ∃ (xs : List V) (x : V), SqT K H a xs ∧ xs[i]? = some x, fun i H v H' => ∃ T x, v = .ref T ∧ H T = none ∧ H' = upd H T (.tup [.int (i : Nat), x]) ∧ ∀ xs, SqT K H a xs → xs[i]? = some x, fun i H => ∃ xs : List V, SqT K H a xs ∧ xs.length ≤ i⟩
theorem turn_enumT {P : Program} {w : World} {K : PySem.W.Frag} {elts : List Expr} {kk : Nat} {tpos : Pos} (a e it : Addr) :
    Turn P w K (.Tuple elts kk tpos) (IteT K a) [e, it] e (fun i h => (∃ old, IsEnum h e it ((i : Nat) : Int) old) ∧ h.IsTupleIter it a i ∧ e ≠ it) where
  mem := by simp
  obj := fun i h st b hb => by
    obtain ⟨⟨old, he⟩, ⟨o, ho, hc, hd⟩, _⟩ := st
    have e' : b = e ∨ b = it := by simpa using hb
    rcases e' with z | z
    · rw [z]; exact ⟨_, he, fun v q => nomatch q⟩
    · rw [z]; exact ⟨o, ho, fun v q => by rw [hd] at q; cases q⟩
  keep := fun i h h' st k => let ⟨⟨old, he⟩, hi, hne⟩ := st; ⟨⟨old, k e (by simp) _ he⟩, hi.at fun o q => k it (by simp) o q, hne⟩
  item := by
    intro X hP hw hK hc i pins s σ H E I hf st hg
    subst hP hw hK
    obtain ⟨⟨old, he⟩, hit, hne⟩ := st
    obtain ⟨xs, x, hq, hx⟩ := hg
    obtain ⟨its, rv, p, hz⟩ := I.tuple hq
    have p : s.heap.IsTuple a its.toArray := p
    obtain ⟨u, hu, ru⟩ := rv.get hx
    have hel : e < s.heap.objs.size := Heap.lt_size he
    have hil : it < s.heap.objs.size := by obtain ⟨_, q, _⟩ := hit; exact Heap.lt_size q
    have na : a ≠ it := fun z => by
      obtain ⟨o1, h1, _, n1, d1⟩ := p
      obtain ⟨o2, h2, _, d2⟩ := hit
      rw [z, h2] at h1
      cases h1
      rw [d2] at d1
      cases d1
    have ne : e ≠ a := fun z => by
      obtain ⟨o1, h1, _, n1, d1⟩ := p
      have h2 := he
      unfold IsEnum at h2
      rw [← z, h2] at h1
      cases h1
      cases d1
    have hlt : i < its.toArray.size := by
      have := (List.getElem?_eq_some_iff.mp hu).1
      simpa using this
    have D := Draws.tuple (prog := X.prog) (w := X.w) (A := X.A.in1) (I.ok.hd hc) it a na its.toArray
    refine wpAny_pyNext_enum_itemD D he ⟨hit, p⟩ hlt hne (by simp [hne, ne]) fun x' h' tk hx' ho hst hT hsz hk => ?_
    have hx'' : x' = u := by
      have h1 : its[i]? = some x' := by simpa using hx'
      rw [hu] at h1
      cases h1
      rfl
    subst hx''
    obtain ⟨hit', _⟩ := hst
    refine ⟨_, rfl, wpAny_letOwnedTupleGo_enum (s := { s with heap := h', toks := tk + 1 }) ho fun h'' he' sb => ?_⟩
    have hT2 : h''.get? s.heap.objs.size = some { cls := .type "tuple", data := .seq #[.int i tk, x'] } := (sb.2 _ (Nat.ne_of_gt hel)).trans hT
    have new : ObjOk X.prog X.w (upd H s.heap.objs.size (.tup [.int (i : Nat), x])) h'' s.heap.objs.size (.tup [.int (i : Nat), x]) :=
      ⟨by show 2 ≤ sizeLine; decide, [.int i tk, x'], .cons ⟨_, rfl⟩ (.cons ru .nil), ⟨_, hT2, rfl, _, rfl⟩⟩
    have I1 : Inv X pins σ (upd H s.heap.objs.size (.tup [.int (i : Nat), x])) { s with heap := h'', toks := tk + 1 } :=
      I.turnedNew (ch := [e, it]) (fun b ob hb q => (sb.2 b (fun z => hb (by simp [z]))).trans (hk b ob (fun z => hb (by simp [z])) (fun z => hb (by simp [z])) q)) hf (Nat.le_refl _) new
    refine ⟨.ref s.heap.objs.size, _, I1, rfl, ⟨_, x, rfl, I.hok.fresh (Nat.le_refl _), rfl, fun ys hy => by rw [I.tuple_inj hy hq]; exact hx⟩, ⟨⟨x', ?_⟩, hit'.at fun o q => (sb.2 it (Ne.symm hne)).trans q, hne⟩, fun b hb => ?_⟩
    · have e1 : ((i + 1 : Nat) : Int) = (i : Int) + 1 := by omega
      rw [e1]; exact he'
    · have hb' : b < s.heap.objs.size := by
        have e' : b = e ∨ b = it := by simpa using hb
        rcases e' with z | z
        · rw [z]; exact hel
        · rw [z]; exact hil
      rw [upd_ne (Nat.ne_of_lt hb')]
      exact (hf b hb).1
  done := by
    intro X hP hw hK hc i pins s σ H E I hf st hg
    subst hP hw hK
    obtain ⟨⟨old, he⟩, hit, hne⟩ := st
    obtain ⟨xs, hq, hx⟩ := hg
    obtain ⟨its, rv, p, hz⟩ := I.tuple hq
    have p : s.heap.IsTuple a its.toArray := p
    obtain ⟨f0, f1, f2, f3, f4, f5⟩ := hf it (by simp)
    have hl := rv.length
    have na : a ≠ it := fun z => by
      obtain ⟨o1, h1, _, n1, d1⟩ := p
      obtain ⟨o2, h2, _, d2⟩ := hit
      rw [z, h2] at h1
      cases h1
      rw [d2] at d1
      cases d1
    exact wpAny_pyNext_enumT_end (I.ok.hd hc) he hit p (by simp; omega) fun h' eb => ⟨rfl, I.turned (t' := s.toks) (fun b o hb q => eb b o hb q) f0 f1 f3 f4 f5⟩
  self := fun A i s Q E st h => let ⟨⟨_, he⟩, _⟩ := st; wpAny_pyIter_enum he h
def iEnum2 (K : PySem.W.Frag) (ta : TA) : TI := fun σ H R => ta σ H fun vs H1 => (∃ a xs, vs = [.ref a] ∧ SqL K H1 a xs ∧ R (Ite K a) H1) ∨ (∃ a xs, vs = [.ref a] ∧ SqT K H1 a xs ∧ R (IteT K a) H1)
theorem pi_enum2 {X : Cx} {e : Expr} {ta : TA} {p pos tpos : Pos} {elts : List Expr} {kk : Nat} (hg : Gl X "enumerate") (hm : X.mg "enumerate" = none) (ha : PA X [e] ta) (hs : starEach [e] X.env = [(false, eval e X.env)] := by rfl) :
    PI X (.Tuple elts kk tpos) (.Call (.Name "enumerate" p) [e] [] pos) (iEnum2 X.K ta) := by
  refine ⟨fun pins s σ H R I h => ?_⟩
  refine Call_ (ld_blt I hg hm boot_enumerate (PyProof.Rows.callWith_type1 (thn (ha.run pos pins s σ H _ I h) fun us s1 ⟨vs, H1, I1, r1, q1⟩ => ?_) hs rfl))
  have fpn : ∀ b, b ∈ [s1.heap.objs.size + 1, s1.heap.objs.size] → s1.heap.objs.size ≤ b := fun b hb => by
    have e' : b = s1.heap.objs.size + 1 ∨ b = s1.heap.objs.size := by simpa using hb
    rcases e' with z | z
    · rw [z]; exact Nat.le_add_right _ _
    · rw [z]; exact Nat.le_refl _
  rcases q1 with ⟨a, xs, ex, hq, q⟩ | ⟨a, xs, ex, hq, q⟩
  · subst ex
    cases r1 with
    | cons r rr =>
      cases rr
      cases r
      obtain ⟨its, rv, p', hz⟩ := I1.list hq
      refine call_enumerate_list p'.isList fun h' he hit hsz hk => wpAny_pyIter_enum he ?_
      have I2 : Inv X pins σ H1 { s1 with heap := h' } := I1.kept (t' := s1.toks) hk
      exact ⟨s1.heap.objs.size + 1, [s1.heap.objs.size + 1, s1.heap.objs.size], _, _, H1, rfl, I2, turn_enum a (s1.heap.objs.size + 1) s1.heap.objs.size, ⟨⟨.none, he⟩, hit, Nat.succ_ne_self _⟩, fun b hb => I1.fpOk (fpn b hb) (I1.hok.fresh (fpn b hb)), q⟩
  · subst ex
    cases r1 with
    | cons r rr =>
      cases rr
      cases r
      obtain ⟨its, rv, p', hz⟩ := I1.tuple hq
      refine call_enumerate_tuple (show s1.heap.IsTuple a its.toArray from p') fun h' he hit hsz hk => wpAny_pyIter_enum he ?_
      have I2 : Inv X pins σ H1 { s1 with heap := h' } := I1.kept (t' := s1.toks) hk
      exact ⟨s1.heap.objs.size + 1, [s1.heap.objs.size + 1, s1.heap.objs.size], _, _, H1, rfl, I2, turn_enumT a (s1.heap.objs.size + 1) s1.heap.objs.size, ⟨⟨.none, he⟩, hit, Nat.succ_ne_self _⟩, fun b hb => I1.fpOk (fpn b hb) (I1.hok.fresh (fpn b hb)), q⟩
end Tf

set_option Elab.async false
set_option linter.all false
set_option maxRecDepth 100000
set_option maxHeartbeats 4000000
/-! Tf, part G: calls, built-in functions, what is walked, comprehensions, over data. -/
namespace Tf
open PySem PySem.Spec PyProof.Rows L2

section
variable {X : Cx} {mg : Str → Option Value} {W : WX} {a b d e : Expr} {wa wb wd : WK D} {wl : WK (List D)} {pos p p2 p3 : Pos} {x : Str} {es : List Expr}
theorem any_star {es : List Expr} {env : Env} {pos : Pos} (h : es.all notStar = true) : (backTo pos (starEach es env)).any (·.1) = false := by
  induction es with
  | nil => rfl
  | cons e r ih =>
    rw [List.all_cons, Bool.and_eq_true] at h
    have st := notStar_each (es := r) (env := env) h.1
    cases r with
    | nil => rw [st]; rfl
    | cons e2 r2 =>
      have ih' := ih h.2
      rw [st]
      have st2 : notStar e2 = true := by
        have := h.2
        rw [List.all_cons, Bool.and_eq_true] at this
        exact this.1
      rw [notStar_each st2] at ih' ⊢
      exact ih'
/-- a call of a def of the text -/
theorem d_call {sp : Spec} {k : Nat} (hr : Room k X.A) (tk : Takes X W) (hg : X.A.guards = some []) (c : CallOk X k x sp) (hp : keyPlain x = true) (hx : Gl X x) (hdb : (x == ("__debug__" : Str)) = false) (h1 : notStar e = true) (hs : es.all notStar = true) (hl : PA X (e :: es) (tA X.K X.mg W wl)) :
    PE X (.Call (.Name x p) (e :: es) [] pos) (tE X.K X.mg W fun δ μ E Q => wl δ μ E fun ds μ1 => sp ds μ1 Q E) := by
  obtain ⟨f, hm, hk, F⟩ := c
  rw [(keyPlain_ok hp).1] at hm
  rw [(keyPlain_ok hp).2] at F
  have F := F.toC
  refine ⟨fun pins s σ H Q I h => ?_⟩
  refine wpAny_Call_Name_kw (ld_glob I hx hm ?_ hdb)
  obtain ⟨δ, G, μ, Φ, E, R, hE, hR, hw, ha, hX⟩ := h
  have ev := hl.run pos pins s σ H (fun vs H' => ∃ ds μ1 G1, Same G G1 ∧ RepL X.K G1 ds vs ∧ Rel X.K G1 μ1 Φ H' ∧ sp ds μ1 R E) I ⟨δ, G, μ, Φ, E, _, hE, hR, hw, fun ds μ1 G1 H1 vs q1 s1 R1 p1 => ⟨ds, μ1, G1, s1, p1, R1, q1⟩, hX⟩
  refine PySem.W.callWith_K (h₀ := X.base) I.ok.mod.kin hk (thn ev fun us s1 hh => ?_) (notStar_each h1) (any_star hs)
  obtain ⟨vs, H1, I1, r, ds, μ1, G1, s1', p1, R1, q1⟩ := hh
  exact ⟨I1.kIn, run_call (E := fun c d H' => W c d σ H') tk (fun _ _ _ z => z) hg F hr I1 r ⟨G1, μ1, Φ, ds, R, E, p1, R1, q1, fun d μ' G' H' v r s => ha d μ' G' H' v r (s1'.trans s), hX.mono s1'⟩⟩
theorem d_call0 {sp : Spec} {k : Nat} (hr : Room k X.A) (tk : Takes X W) (hg : X.A.guards = some []) (c : CallOk X k x sp) (hp : keyPlain x = true) (hx : Gl X x) (hdb : (x == ("__debug__" : Str)) = false) :
    PE X (.Call (.Name x p) [] [] pos) (tE X.K X.mg W fun δ μ E Q => sp [] μ Q E) := by
  obtain ⟨f, hm, hk, F⟩ := c
  rw [(keyPlain_ok hp).1] at hm
  rw [(keyPlain_ok hp).2] at F
  have F := F.toC
  refine ⟨fun pins s σ H Q I h => ?_⟩
  refine wpAny_Call_Name_kw (ld_glob I hx hm ?_ hdb)
  obtain ⟨δ, G, μ, Φ, E, R, hE, hR, hw, ha, hX⟩ := h
  exact PySem.W.callWith_K0 I.kIn hk (run_call (us := []) (E := fun c d H' => W c d σ H') tk (fun _ _ _ z => z) hg F hr I .nil ⟨G, μ, Φ, [], R, E, .nil, hR, hw, ha, hX⟩)

theorem pk_all {ks : List Str} {kws : List Keyword} {env : Env} {pos : Pos} (h : kws.map (·.arg) = ks.map some) : (backToKw pos (keywordEach kws env)).all (·.1.isSome) = true ∧ (backToKw pos (keywordEach kws env)).filterMap (·.1) = ks ∧ (backToKw pos (keywordEach kws env)).any (·.1.isNone) = false := by
  induction kws generalizing ks with
  | nil => cases ks with
    | nil => exact ⟨rfl, rfl, rfl⟩
    | cons _ _ => cases h
  | cons q kws ih =>
    obtain ⟨a, v, p⟩ := q
    cases ks with
    | nil => cases h
    | cons y ks =>
      rw [List.map_cons, List.map_cons, List.cons.injEq] at h
      obtain ⟨h1, h2⟩ := h
      obtain ⟨i1, i2, i3⟩ := ih h2
      cases h1
      refine ⟨?_, ?_, ?_⟩
      · show (true && _) = true
        exact i1
      · show y :: _ = _
        rw [← i2]
        rfl
      · show (false || _) = false
        exact i3
/-- a call of a def of the text, with keywords -/
theorem d_callK {sp : Spec} {k : Nat} {key : Str} {ks : List Str} {kws : List Keyword} {wz : WK (List D)} (hr : Room k X.A) (tk : Takes X W) (hg : X.A.guards = some []) (c : CallOk X k key sp) (e1 : kn key = x) (e2 : kk key = ks) (ek : kws.map (·.arg) = ks.map some) (hx : Gl X x) (hdb : (x == ("__debug__" : Str)) = false) (h1 : notStar e = true) (hs : es.all notStar = true) (hl : PA X (e :: es) (tA X.K X.mg W wl)) (hz : PK X kws (tA X.K X.mg W wz)) :
    PE X (.Call (.Name x p) (e :: es) kws pos) (tE X.K X.mg W fun δ μ E Q => wl δ μ E fun ds μ1 => wz δ μ1 E fun es2 μ2 => es2.length = ks.length ∧ sp (ds ++ es2) μ2 Q E) := by
  obtain ⟨f, hm, hk, F⟩ := c
  rw [e1] at hm
  rw [e2] at F
  refine ⟨fun pins s σ H Q I h => ?_⟩
  refine wpAny_Call_Name_kw (ld_glob I hx hm ?_ hdb)
  obtain ⟨δ, G, μ, Φ, E, R, hE, hR, hw, ha, hX⟩ := h
  have ev := hl.run pos pins s σ H (fun vs H' => ∃ ds μ1 G1, Same G G1 ∧ RepL X.K G1 ds vs ∧ Rel X.K G1 μ1 Φ H' ∧ wz δ μ1 E fun es2 μ2 => es2.length = ks.length ∧ sp (ds ++ es2) μ2 R E) I ⟨δ, G, μ, Φ, E, _, hE, hR, hw, fun ds μ1 G1 H1 vs q1 s1 R1 p1 => ⟨ds, μ1, G1, s1, p1, R1, q1⟩, hX⟩
  obtain ⟨a1, a2, a3⟩ := pk_all (env := X.env) (pos := pos) ek
  have hpl : ((backTo pos (starEach (e :: es) X.env)).any (·.1) || (backToKw pos (keywordEach kws X.env)).any (·.1.isNone)) = false := by
    rw [a3, Bool.or_false]
    exact any_star (es := e :: es) (by rw [List.all_cons, h1, hs]; rfl)
  refine PySem.W.callWith_KW (h₀ := X.base) I.ok.mod.kin hk a1 (thn ev fun us s1 hh => ?_) hpl (notStar_each h1)
  obtain ⟨vs, H1, I1, r, ds, μ1, G1, s1', p1, R1, q1⟩ := hh
  have ez := hz.run pos pins s1 σ H1 (fun zs H' => ∃ es2 μ2 G2, Same G1 G2 ∧ RepL X.K G2 es2 zs ∧ Rel X.K G2 μ2 Φ H' ∧ es2.length = ks.length ∧ sp (ds ++ es2) μ2 R E) I1 ⟨δ, G1, μ1, Φ, E, _, hE.mono s1', R1, q1, fun es2 μ2 G2 H2 zs q2 s2 R2 p2 => ⟨es2, μ2, G2, s2, p2, R2, q2.1, q2.2⟩, hX.mono s1'⟩
  refine thn ez fun ws s2 hh => ?_
  obtain ⟨zs, H2, I2, rz, es2, μ2, G2, s2', p2, R2, l2, q2⟩ := hh
  rw [a2]
  exact ⟨I2.kIn, run_callK (E := fun c d H' => W c d σ H') tk (fun _ _ _ z => z) hg F hr I2 r rz (by rw [← p2.length]; exact l2) ⟨G2, μ2, Φ, ds ++ es2, R, E, (p1.mono s2').append p2, R2, q2, fun d μ' G' H' v r s => ha d μ' G' H' v r ((s1'.trans s2').trans s), hX.mono (s1'.trans s2')⟩⟩

/-! ### built-in functions -/
def bltV : Blt → Value
  | .len => .builtin "len" | .abs => .builtin "abs" | .min2 => .builtin "min" | .max2 => .builtin "max" | .sum => .builtin "sum" | .any => .builtin "any" | .all => .builtin "all"
  | .int => .type "int" | .tuple => .type "tuple" | .list => .type "list" | .listM => .type "list" | .repr => .builtin "repr" | .str => .type "str"
  | .sortI => .builtin "sorted" | .sortP => .builtin "sorted" | .minT => .builtin "min" | .maxI => .builtin "max" | .minI => .builtin "min"
theorem bltV_boot : ∀ f : Blt, bootBuiltins (bltName f) = some (bltV f)
  | .len => boot_len | .abs => boot_abs | .min2 => boot_min | .max2 => boot_max | .sum => boot_sum | .any => boot_any | .all => boot_all | .int => boot_int | .tuple => boot_tuple | .list => boot_list | .listM => boot_list
  | .repr => boot_repr | .str => boot_str | .sortI => boot_sorted | .sortP => boot_sorted | .minT => boot_min | .maxI => boot_max | .minI => boot_min

def rSumT (K : PySem.W.Frag) : List V → Hp → VK → Prop := fun vs H Q => ∃ (a : Addr) (ns : List Int), vs = [V.ref a] ∧ SqT K H a (ns.map V.int) ∧ Q (.int ns.sum) H
theorem cr_sumT (hc : X.calm = true) : CallR X (.builtin "sum") (rSumT X.K) := by
  intro pins s σ H vs us Q I r h
  obtain ⟨a, ns, rfl, hs, q⟩ := h
  obtain ⟨its, rv, ht, _⟩ := I.tuple hs
  rw [Vals.ref1 r]
  have hi := rv.ints
  obtain ⟨xs, hx⟩ := hi.allInts.items
  have hn : numsOf its.toArray.toList = ns := by rw [show its.toArray.toList = its from rfl, hi.numsOf]
  have ht' : s.heap.IsTuple a its.toArray := ht
  rw [hx] at ht' hn
  rw [nums_intItems] at hn
  refine PySem.W.ktm_sumG (I.ok.hd hc) ht' fun h' tk t' hk => ⟨.int ns.sum, H, I.kept hk, ⟨t', ?_⟩, q⟩
  rw [preSum_eq, List.take_of_length_le (by simp), hn]
def rBl (K : PySem.W.Frag) : Blt → List V → Hp → VK → Prop
  | .len => fun xs H Q => (∃ p ys, xs = [.ref p] ∧ (SqL K H p ys ∨ SqT K H p ys) ∧ Q (.int ys.length) H) ∨ ∃ z, xs = [.str z] ∧ z.length ≤ sizeLine ∧ Q (.int z.length) H
  | .abs => fun xs H Q => ∃ i, xs = [.int i] ∧ Q (.int (if i < 0 then -i else i)) H
  | .max2 => fun xs H Q => ∃ i j, xs = [.int i, .int j] ∧ Q (.int (if j > i then j else i)) H
  | .min2 => fun xs H Q => ∃ i j, xs = [.int i, .int j] ∧ Q (.int (if j < i then j else i)) H
  | .sum => fun xs H Q => rSum K xs H Q ∨ rSumT K xs H Q
  | .any => rAny K
  | .all => rAll K
  | .int => fun xs H Q => (∃ i, xs = [.int i] ∧ Q (.int i) H) ∨ ∃ k, xs = [.bl k] ∧ Q (.int (if k then 1 else 0)) H
  | .tuple => fun xs H Q => ∃ p ys, xs = [.ref p] ∧ ((SqL K H p ys ∧ ∀ l, H l = none → Q (.ref l) (upd H l (.tup ys))) ∨ (SqT K H p ys ∧ Q (.ref p) H))
  | .listM => fun xs H Q => ∃ p ys, xs = [.ref p] ∧ (SqL K H p ys ∨ SqT K H p ys) ∧ ∀ l, H l = none → Q (.ref l) (upd H l (.lst ys))
  | .list => fun xs H Q => ∃ p ys, xs = [.ref p] ∧ (SqL K H p ys ∨ SqT K H p ys) ∧ ∀ l, H l = none → Q (.ref l) (upd H l (.lst ys))
  | .repr => fun xs H Q => ∃ v d, xs = [v] ∧ Dp K H v d ∧ d.showable = true ∧ d.hasDict = false ∧ d.depth + 1 ≤ 100 ∧ d.shown.length ≤ sizeLine ∧ Q (.str d.shown) H
  | .sortI => rSortedI K
  | .sortP => rSortedPT K
  | .maxI => rMax K
  | .minI => rMin K
  | _ => fun _ _ _ => False
theorem callNever {f : Value} : CallR X f (fun _ _ _ => False) := fun _ _ _ _ _ _ _ _ _ h => h.elim
theorem callBl (hc : X.calm = true) (hg : X.A.guards = some []) (hu : X.A.units + 200 < cLine) : ∀ f : Blt, CallR X (bltV f) (rBl X.K f)
  | .len => callOr call_len_seq call_len_str
  | .abs => call_abs
  | .max2 => call_max2 hc
  | .min2 => call_min2 hc
  | .sum => callOr (cr_sum hc) (cr_sumT hc)
  | .any => cr_any hc
  | .all => cr_all hc
  | .int => call_int1
  | .tuple => call_tuple_of
  | .listM => call_list_of
  | .list => call_list_of
  | .repr => repr_ok hg hu
  | .sortI => cr_sortedI
  | .maxI => cr_max hc
  | .minI => cr_min hc
  | .str => callNever
  | .sortP => cr_sortedPT
  | .minT => callNever
theorem intsD_ok {K : PySem.W.Frag} {G : Hp} : ∀ {ds : List D} {vs : List V} {ns : List Int}, intsD ds = some ns → RepL K G ds vs → vs = ns.map V.int
  | [], _, _, e, .nil => by cases e; rfl
  | d :: ds, _, ns, e, .cons h r => by
    cases h with
    | int i =>
      rw [intsD] at e
      obtain ⟨ms, e1, e2⟩ := Option.map_eq_some_iff.mp e
      rw [← e2, intsD_ok e1 r]
      rfl
    | _ => cases e
theorem blsD_ok {K : PySem.W.Frag} {G : Hp} : ∀ {ds : List D} {vs : List V} {bs : List Bool}, blsD ds = some bs → RepL K G ds vs → vs = bs.map V.bl
  | [], _, _, e, .nil => by cases e; rfl
  | d :: ds, _, bs, e, .cons h r => by
    cases h with
    | bl i =>
      rw [blsD] at e
      obtain ⟨ms, e1, e2⟩ := Option.map_eq_some_iff.mp e
      rw [← e2, blsD_ok e1 r]
      rfl
    | _ => cases e
inductive Views (K : PySem.W.Frag) (G H : Hp) : List D → List V → Prop
  | nil : Views K G H [] []
  | cons {d : D} {v : V} {ds : List D} {vs : List V} : View K G H d v → Views K G H ds vs → Views K G H (d :: ds) (v :: vs)
theorem Rel.looks {K : PySem.W.Frag} {G H Φ : Hp} {μ : Mu} (r : Rel K G μ Φ H) : ∀ {ds : List D} {vs : List V}, RepL K G ds vs → Views K G H (ds.map (vw μ)) vs
  | _, _, .nil => .nil
  | _, _, .cons h t => .cons (r.look h) (Rel.looks r t)
theorem prsD_ok {K : PySem.W.Frag} {G : Hp} : ∀ {ds : List D} {vs : List V} {ps : List (Int × Int)}, prsD ds = some ps → RepL K G ds vs → Paired (PrV K G) vs ps
  | [], _, _, e, .nil => by cases e; exact .nil
  | d :: ds, _, ps, e, .cons h r => by
    unfold prsD at e
    split at e
    · contradiction
    · rename_i e1
      cases e1
      obtain ⟨ms, e1, e2⟩ := Option.map_eq_some_iff.mp e
      subst e2
      cases h with
      | tup s q =>
        cases q with
        | cons a q =>
          cases q with
          | cons b q =>
            cases q
            cases a
            cases b
            exact .cons ⟨_, rfl, s⟩ (prsD_ok e1 r)
    · cases e
theorem prs_rep {K : PySem.W.Frag} {G : Hp} : ∀ {ys : List V} {ms : List (Int × Int)}, Paired (PrV K G) ys ms → RepL K G (ms.map pairD) ys
  | _, _, .nil => .nil
  | _, _, .cons ⟨t, e, s⟩ r => by
    subst e
    exact .cons (.tup s (.cons (.int _) (.cons (.int _) .nil))) (prs_rep r)
theorem blt_ok {K : PySem.W.Frag} {G H Φ : Hp} {μ : Mu} {R : Post} {Q : VK} (r : Rel K G μ Φ H) (h : Aft K G Φ R Q) (f : Blt) {xs : List D} {vs : List V} (w : wBlt f xs μ R) (p : Views K G H xs vs) : rBl K f vs H Q := by
  unfold wBlt at w
  split at w
  · cases p with | cons p t => cases t; cases p with | tup s q => exact .inl ⟨_, _, rfl, .inr (Same.sqT r.sub s), by rw [← q.length]; exact h.val r w (.int _)⟩
  · cases p with | cons p t => cases t; cases p with | lst s q => exact .inl ⟨_, _, rfl, .inl (.inl (.inl s)), by rw [← q.length]; exact h.val r w (.int _)⟩
  · cases p with | cons p t => cases t; cases p with | lsf s q => exact .inl ⟨_, _, rfl, .inl (r.sub.seq s), by rw [← q.length]; exact h.val r w (.int _)⟩
  · cases p with | cons p t => cases t; cases p with | str z => exact .inr ⟨_, rfl, szLine w.1, h.val r w.2 (.int _)⟩
  · cases p with | cons p t => cases t; cases p with | int i => exact ⟨_, rfl, h.val r w (.int _)⟩
  · cases p with | cons p t => cases t with | cons p2 t => cases t; cases p; cases p2; exact ⟨_, _, rfl, h.val r w (.int _)⟩
  · cases p with | cons p t => cases t with | cons p2 t => cases t; cases p; cases p2; exact ⟨_, _, rfl, h.val r w (.int _)⟩
  · split at w
    · rename_i ns e
      cases p with | cons p t => cases t; cases p with | lst s q => exact .inl ⟨_, ns, rfl, .inl (.inl (by rw [← intsD_ok e q]; exact s)), h.val r w (.int _)⟩
    · exact w.elim
  · split at w
    · rename_i ns e
      cases p with | cons p t => cases t; cases p with | tup s q => exact .inr ⟨_, ns, rfl, by rw [← intsD_ok e q]; exact Same.sqT r.sub s, h.val r w (.int _)⟩
    · exact w.elim
  · split at w
    · rename_i bs e
      cases p with | cons p t => cases t; cases p with | lst s q => exact ⟨_, bs, rfl, .inl (.inl (by rw [← blsD_ok e q]; exact s)), h.val r w (.bl _)⟩
    · exact w.elim
  · split at w
    · rename_i bs e
      cases p with | cons p t => cases t; cases p with | lst s q => exact ⟨_, bs, rfl, .inl (.inl (by rw [← blsD_ok e q]; exact s)), h.val r w (.bl _)⟩
    · exact w.elim
  · cases p with | cons p t => cases t; cases p with | int i => exact .inl ⟨_, rfl, h.val r w (.int _)⟩
  · cases p with | cons p t => cases t; cases p with | bl b => exact .inr ⟨_, rfl, h.val r w (.int _)⟩
  · cases p with | cons p t => cases t; cases p with | lst s q => exact ⟨_, _, rfl, .inl ⟨.inl (.inl s), h.tup r w (q.mono r.sub) q⟩⟩
  · cases p with | cons p t => cases t; cases p with | tup s q => exact ⟨_, _, rfl, .inr ⟨Same.sqT r.sub s, h.val r w (.tup s q)⟩⟩
  · cases p with | cons p t => cases t; cases p with | lst s q => exact ⟨_, _, rfl, .inl (.inl (.inl s)), h.lst r w q⟩
  · cases p with | cons p t => cases t; cases p with | tup s q => exact ⟨_, _, rfl, .inr (Same.sqT r.sub s), h.lst r w q⟩
  · cases p with | cons p t => cases t; cases p with | lst s q => exact ⟨_, _, rfl, .inl (.inl (.inl s)), fun l hl => h _ _ _ _ _ (w l (r.mnone hl)) (Same.refl G) (r.newM hl q) (.ref l)⟩
  · cases p with | cons p t => cases t; cases p with | tup s q => exact ⟨_, _, rfl, .inr (Same.sqT r.sub s), fun l hl => h _ _ _ _ _ (w l (r.mnone hl)) (Same.refl G) (r.newM hl q) (.ref l)⟩
  · cases p with
    | cons p t =>
      cases t
      obtain ⟨⟨w1, w2, w3, w4⟩, w5⟩ := w
      exact ⟨_, _, rfl, (p.rep r.sub).dp w1, w2, flat_noDict _ w1, w3, szLine w4, h.val r w5 (.str _)⟩
  · split at w
    · rename_i ns e
      cases p with | cons p t => cases t; cases p with | lst s q => exact ⟨_, ns, rfl, .inl (.inl (by rw [← intsD_ok e q]; exact s)), fun ms c h1 h2 hc => h.lst r (w ms h1 h2) RepL.ints c hc⟩
    · exact w.elim
  · split at w
    · rename_i ps e
      cases p with | cons p t => cases t; cases p with | lst s q => exact ⟨_, _, ps, PrV K G, rfl, .inl (.inl s), fun x pr h => by obtain ⟨t, e, z⟩ := h; exact ⟨t, e, Same.sqT r.sub z⟩, prsD_ok e q, fun ys ms hp h1 h2 c hc => h.lst r (w ms h1 h2) (prs_rep hp) c hc⟩
    · exact w.elim
  · split at w
    · rename_i ns e
      cases p with | cons p t => cases t; cases p with | lst s q => exact ⟨_, ns, rfl, .inl (.inl (by rw [← intsD_ok e q]; exact s)), List.length_pos_iff.mpr w.1, fun m h1 h2 => h.val r (w.2 m h1 h2) (.int _)⟩
    · exact w.elim
  · split at w
    · rename_i ns e
      cases p with | cons p t => cases t; cases p with | lst s q => exact ⟨_, ns, rfl, .inl (.inl (by rw [← intsD_ok e q]; exact s)), List.length_pos_iff.mpr w.1, fun m h1 h2 => h.val r (w.2 m h1 h2) (.int _)⟩
    · exact w.elim
  · exact w.elim
theorem bltN_ne (f : Blt) : bltName f ≠ "__name__" ∧ (bltName f == ("__debug__" : Str)) = false := by cases f <;> decide +kernel
theorem callBV {r : List V → Hp → VK → Prop} {t : TA} {f : Blt} (hc : CallR X (bltV f) r) (hg : Gl X (bltName f)) (hm : X.mg (bltName f) = none) (h1 : notStar e = true) (hs : es.all notStar = true) (ha : PA X (e :: es) t) : PE X (.Call (.Name (bltName f) p) (e :: es) [] pos) (tCB r t) := by
  have st := notStar_each (es := es) (env := X.env) h1
  have an := any_star (env := X.env) (pos := pos) hs
  have n := bltN_ne f
  have b := bltV_boot f
  have both : (∃ id, bltV f = .builtin id) ∨ ∃ T, bltV f = .type T := by cases f <;> first | exact .inl ⟨_, rfl⟩ | exact .inr ⟨_, rfl⟩
  rcases both with ⟨id, e1⟩ | ⟨T, e1⟩
  · rw [e1] at hc b
    exact pe_callB hc hg hm b ha n.1 n.2 st an
  · rw [e1] at hc b
    exact pe_callTy hc hg hm b ha n.1 n.2 st an
theorem d_blt (hc : X.calm = true) (hgd : X.A.guards = some []) (hu : X.A.units + 200 < cLine) (f : Blt) (hg : Gl X (bltName f)) (hm : X.mg (bltName f) = none) (h1 : notStar e = true) (hs : es.all notStar = true) (hl : PA X (e :: es) (tA X.K mg W wl)) :
    PE X (.Call (.Name (bltName f) p) (e :: es) [] pos) (tE X.K mg W fun δ μ E Q => wl δ μ E fun ds μ1 => wBlt f (ds.map (vw μ1)) μ1 Q) :=
  PE_imp (callBV (callBl hc hgd hu f) hg hm h1 hs hl) fun σ H Q h => by
    obtain ⟨δ, G, μ, Φ, E, R, hE, hR, hw, ha, hx⟩ := h
    refine ⟨δ, G, μ, Φ, E, _, hE, hR, hw, fun ds μ1 G1 H1 vs q1 s1 R1 p1 => ?_, hx⟩
    exact blt_ok R1 (Aft.mono ha s1) f q1 (R1.looks p1)

/-! ### what is walked -/
/-- J yields the items, while stay holds -/
def Serves (K : PySem.W.Frag) (G0 : Hp) (J : It) (items : List D) (stay : Mu → Prop) : Prop := ∀ (i : Nat) (G Φ : Hp) (μ : Mu) (H : Hp), Same G0 G → Rel K G μ Φ H → stay μ →
  (∀ x, items[i]? = some x → J.go i H ∧ ∀ v H2, J.yld i H v H2 → ∃ G2, Same G G2 ∧ Rel K G2 μ Φ H2 ∧ Rep K G2 x v) ∧ (items.length ≤ i → J.stop i H)
abbrev WI := DE → Mu → XPost → (List D → (Mu → Prop) → Mu → Prop) → Prop
def tI (K : PySem.W.Frag) (mg : Str → Option Value) (W : WX) (w : WI) : TI := fun σ H Q =>
  ∃ δ G μ Φ E R, RelE K G δ σ ∧ Rel K G μ Φ H ∧ w δ μ E R ∧ (∀ items stay μ' G' H' J, R items stay μ' → Same G G' → Rel K G' μ' Φ H' → Serves K G' J items stay → stay μ' → Q J H') ∧ AftX K mg G Φ E (fun c d H' => W c d σ H')
theorem PI_imp {tg iter : Expr} {t t' : TI} (h : PI X tg iter t) (i : ∀ σ H Q, t' σ H Q → t σ H Q) : PI X tg iter t' := ⟨fun pins s σ H Q I w => h.run pins s σ H Q I (i σ H Q w)⟩
theorem serves_rng {K : PySem.W.Frag} {G : Hp} (lo : Int) (n : Nat) : Serves K G (Itr lo n) ((List.range n).map fun (i : Nat) => D.int (lo + i)) (fun _ => True) := fun i G Φ μ H _ R _ => by
  refine ⟨fun x e => ?_, fun h => ?_⟩
  · rw [List.getElem?_map] at e
    obtain ⟨j, e1, e2⟩ := Option.map_eq_some_iff.mp e
    obtain ⟨h1, h2⟩ := List.getElem?_eq_some_iff.mp e1
    rw [List.length_range] at h1
    rw [List.getElem_range] at h2
    subst h2
    refine ⟨h1, fun v H2 y => ?_⟩
    obtain ⟨y1, y2⟩ := y
    subst y1 y2 e2
    exact ⟨G, Same.refl G, R, .int _⟩
  · rw [List.length_map, List.length_range] at h
    exact h
theorem serves_lst {K : PySem.W.Frag} {G : Hp} {a : Addr} {ds : List D} {vs : List V} (e : SqL K G a vs) (r : RepL K G ds vs) : Serves K G (Itl K a) ds (fun _ => True) := fun i G1 Φ μ H s R _ => by
  have q := (s.trans R.sub).seq e
  refine ⟨fun x ex => ?_, fun h => ⟨vs, q, by rw [← r.length]; exact h⟩⟩
  obtain ⟨v, e1, e2⟩ := r.get ex
  refine ⟨⟨vs, v, q, e1⟩, fun v' H2 y => ?_⟩
  obtain ⟨y1, y2⟩ := y
  subst y1
  have := y2 vs q
  rw [e1] at this
  cases this
  exact ⟨G1, Same.refl _, R, e2.mono s⟩
theorem serves_tup {K : PySem.W.Frag} {G : Hp} {a : Addr} {ds : List D} {vs : List V} (e : SqT K G a vs) (r : RepL K G ds vs) : Serves K G (Itt K a) ds (fun _ => True) := fun i G1 Φ μ H s R _ => by
  have q := Same.sqT (s.trans R.sub) e
  refine ⟨fun x ex => ?_, fun h => ⟨vs, q, by rw [← r.length]; exact h⟩⟩
  obtain ⟨v, e1, e2⟩ := r.get ex
  refine ⟨⟨vs, v, q, e1⟩, fun v' H2 y => ?_⟩
  obtain ⟨y1, y2⟩ := y
  subst y1
  have := y2 vs q
  rw [e1] at this
  cases this
  exact ⟨G1, Same.refl _, R, e2.mono s⟩
theorem serves_mut {K : PySem.W.Frag} {G : Hp} {a : Addr} {ds : List D} : Serves K G (Itl K a) ds (fun μ => μ a = some ds) := fun i G1 Φ μ H s R e => by
  obtain ⟨_, vs, hh, r⟩ := R.chg a ds e
  have q : SqL K H a vs := .inl (.inl hh)
  refine ⟨fun x ex => ?_, fun h => ⟨vs, q, by rw [← r.length]; exact h⟩⟩
  obtain ⟨v, e1, e2⟩ := r.get ex
  refine ⟨⟨vs, v, q, e1⟩, fun v' H2 y => ?_⟩
  obtain ⟨y1, y2⟩ := y
  subst y1
  have := y2 vs q
  rw [e1] at this
  cases this
  exact ⟨G1, Same.refl _, R, e2⟩
variable {tg : Expr} {K : PySem.W.Frag}
theorem d_rng1 (hg : Gl X "range") (hm : X.mg "range" = none) (h1 : notStar a = true) (ha : PE X a (tE X.K mg W wa)) : PI X tg (.Call (.Name "range" p) [a] [] pos) (tI X.K mg W fun δ μ E R => wa δ μ E fun x μ1 => match x with
    | .int n => -(2 ^ 62) ≤ n ∧ n < 2 ^ 62 ∧ R ((List.range n.toNat).map fun (i : Nat) => .int i) (fun _ => True) μ1
    | _ => False) :=
  PI_imp (pi_range1 hg hm (pa_cons ha pa_nil (notStar_each h1)) (notStar_each h1)) fun σ H Q h => by
    obtain ⟨δ, G, μ, Φ, E, R, hE, hR, hw, ha, hx⟩ := h
    refine ⟨δ, G, μ, Φ, E, _, hE, hR, hw, fun x μ1 G1 H1 v q1 s1 R1 p1 => ?_, hx⟩
    split at q1
    · cases p1
      obtain ⟨b1, b2, q⟩ := q1
      refine ⟨_, rfl, b1, b2, ha _ _ μ1 G1 H1 _ q s1 R1 ?_ trivial⟩
      have := serves_rng (K := X.K) (G := G1) 0 (Int.toNat ‹Int›)
      simpa using this
    · exact q1.elim
theorem d_rng2 (hg : Gl X "range") (hm : X.mg "range" = none) (h1 : notStar a = true) (h2 : notStar b = true) (ha : PE X a (tE X.K mg W wa)) (hb : PE X b (tE X.K mg W wb)) : PI X tg (.Call (.Name "range" p) [a, b] [] pos) (tI X.K mg W fun δ μ E R => wa δ μ E fun x μ1 => wb δ μ1 E fun y μ2 => match x, y with
    | .int m, .int n => (-(2 ^ 62) ≤ m ∧ m < 2 ^ 62 ∧ -(2 ^ 62) ≤ n ∧ n < 2 ^ 62) ∧ R ((List.range (n - m).toNat).map fun (i : Nat) => .int (m + i)) (fun _ => True) μ2
    | _, _ => False) :=
  PI_imp (pi_range2 hg hm (pa_cons ha (pa_cons hb pa_nil (notStar_each h2)) (notStar_each h1)) (by rw [notStar_each h1, notStar_each h2]; rfl) (notStar_each h2)) fun σ H Q h => by
    obtain ⟨δ, G, μ, Φ, E, R, hE, hR, hw, ha, hx⟩ := h
    refine ⟨δ, G, μ, Φ, E, _, hE, hR, hw, fun x μ1 G1 H1 v q1 s1 R1 p1 => ?_, hx⟩
    refine ⟨δ, G1, μ1, Φ, E, _, hE.mono s1, R1, q1, fun y μ2 G2 H2 u q2 s2 R2 p2 => ?_, hx.mono s1⟩
    split at q2
    · cases p1
      cases p2
      exact ⟨_, _, rfl, q2.1, ha _ _ μ2 G2 H2 _ q2.2 (s1.trans s2) R2 (serves_rng _ _) trivial⟩
    · exact q2.elim
/-- a list or a tuple, whichever comes -/
theorem pi_seq {l : Expr} {tl : TE} (hl : PE X l tl) : PI X tg l (fun σ H R => tl σ H fun x H1 => ∃ a, x = .ref a ∧ ((∃ xs, SqL X.K H1 a xs ∧ R (Itl X.K a) H1) ∨ ∃ xs, SqT X.K H1 a xs ∧ R (Itt X.K a) H1)) := by
  refine ⟨fun pins s σ H R I h => thn (hl.run pins s σ H _ I h) fun v s1 hv => ?_⟩
  obtain ⟨x, H1, I1, r1, a, rfl, q⟩ := hv
  cases r1
  have new : ∀ (o : Obj), Inv X pins σ H1 { s1 with heap := s1.heap.push o } := fun o => I1.kept (t' := s1.toks) fun b ob e => Heap.get?_push_of_some _ e
  have only : ∀ b ∈ [s1.heap.objs.size], FpOk X pins H1 b := fun b hb => by
    cases List.mem_singleton.mp hb
    exact I1.fpOk (Nat.le_refl _) (I1.hok.fresh (Nat.le_refl _))
  rcases q with ⟨xs, hq, q⟩ | ⟨xs, hq, q⟩
  · obtain ⟨its, rv, pl, hz⟩ := I1.list hq
    exact wpAny_pyIter_list pl.isList ⟨_, _, _, _, H1, rfl, new _, turn_list a _, ⟨_, Heap.get?_push_size _ rfl, rfl, rfl⟩, only, q⟩
  · obtain ⟨its, rv, pt, hz⟩ := I1.tuple hq
    exact wpAny_pyIter_tuple (show s1.heap.IsTuple a its.toArray from pt) ⟨_, _, _, _, H1, rfl, new _, turn_tuple a _, ⟨_, Heap.get?_push_size _ rfl, rfl, rfl⟩, only, q⟩
theorem d_seq (ha : PE X a (tE X.K mg W wa)) : PI X tg a (tI X.K mg W fun δ μ E R => wa δ μ E fun x μ1 => match x with
    | .lst ds => R ds (fun _ => True) μ1
    | .lsf ds => R ds (fun _ => True) μ1
    | .tup ds => R ds (fun _ => True) μ1
    | .ref p => match μ1 p with | some ds => R ds (fun μ => μ p = some ds) μ1 | none => False
    | _ => False) :=
  PI_imp (pi_seq ha) fun σ H Q h => by
    obtain ⟨δ, G, μ, Φ, E, R, hE, hR, hw, ha, hx⟩ := h
    refine ⟨δ, G, μ, Φ, E, _, hE, hR, hw, fun x μ1 G1 H1 v q1 s1 R1 p1 => ?_, hx⟩
    split at q1
    · cases p1 with | lst e r => exact ⟨_, rfl, .inl ⟨_, .inl (.inl (R1.sub _ _ e)), ha _ _ μ1 G1 H1 _ q1 s1 R1 (serves_lst (.inl (.inl e)) r) trivial⟩⟩
    · cases p1 with | lsf e r => exact ⟨_, rfl, .inl ⟨_, R1.sub.seq e, ha _ _ μ1 G1 H1 _ q1 s1 R1 (serves_lst e r) trivial⟩⟩
    · cases p1 with | tup e r => exact ⟨_, rfl, .inr ⟨_, Same.sqT R1.sub e, ha _ _ μ1 G1 H1 _ q1 s1 R1 (serves_tup e r) trivial⟩⟩
    · rename_i pa
      cases p1
      split at q1
      · rename_i ds e
        obtain ⟨_, vs, hh, r⟩ := R1.chg pa ds e
        exact ⟨_, rfl, .inl ⟨_, .inl (.inl hh), ha _ _ μ1 G1 H1 _ q1 s1 R1 serves_mut e⟩⟩
      · exact q1.elim
    · exact q1.elim
theorem serves_enum {G : Hp} {a : Addr} {ds : List D} {vs : List V} (e : SqL K G a vs) (r : RepL K G ds vs) : Serves K G (Ite K a) (ds.zipIdx.map fun p => .tup [.int (p.2 : Nat), p.1]) (fun _ => True) := fun i G1 Φ μ H s R _ => by
  have q := (s.trans R.sub).seq e
  refine ⟨fun x ex => ?_, fun h => ⟨vs, q, by rw [← r.length]; simpa using h⟩⟩
  rw [List.getElem?_map, List.getElem?_zipIdx] at ex
  obtain ⟨pr, e1, e2⟩ := Option.map_eq_some_iff.mp ex
  obtain ⟨dd, e3, e4⟩ := Option.map_eq_some_iff.mp e1
  obtain ⟨v, e5, e6⟩ := r.get e3
  subst e4 e2
  refine ⟨⟨vs, v, q, e5⟩, fun v' H2 y => ?_⟩
  obtain ⟨T, z, y1, y2, y3, y4⟩ := y
  subst y1 y3
  have := y4 vs q
  rw [e5] at this
  cases this
  obtain ⟨s2, R2⟩ := R.new y2 (.tup [.int ((0 + i : Nat) : Int), v])
  refine ⟨_, s2, ?_, .tup (.inl (.inl upd_same)) (.cons (.int _) (.cons ((e6.mono s).mono s2) .nil))⟩
  simpa using R2
theorem serves_enumM {G : Hp} {a : Addr} {ds : List D} : Serves K G (Ite K a) (ds.zipIdx.map fun p => .tup [.int (p.2 : Nat), p.1]) (fun μ => μ a = some ds) := fun i G1 Φ μ H s R e => by
  obtain ⟨_, vs, hh, r⟩ := R.chg a ds e
  have q : SqL K H a vs := .inl (.inl hh)
  refine ⟨fun x ex => ?_, fun h => ⟨vs, q, by rw [← r.length]; simpa using h⟩⟩
  rw [List.getElem?_map, List.getElem?_zipIdx] at ex
  obtain ⟨pr, e1, e2⟩ := Option.map_eq_some_iff.mp ex
  obtain ⟨dd, e3, e4⟩ := Option.map_eq_some_iff.mp e1
  obtain ⟨v, e5, e6⟩ := r.get e3
  subst e4 e2
  refine ⟨⟨vs, v, q, e5⟩, fun v' H2 y => ?_⟩
  obtain ⟨T, z, y1, y2, y3, y4⟩ := y
  subst y1 y3
  have := y4 vs q
  rw [e5] at this
  cases this
  obtain ⟨s2, R2⟩ := R.new y2 (.tup [.int ((0 + i : Nat) : Int), v])
  refine ⟨_, s2, ?_, .tup (.inl (.inl upd_same)) (.cons (.int _) (.cons (e6.mono s2) .nil))⟩
  simpa using R2
theorem serves_enumT {G : Hp} {a : Addr} {ds : List D} {vs : List V} (e : SqT K G a vs) (r : RepL K G ds vs) : Serves K G (IteT K a) (ds.zipIdx.map fun p => .tup [.int (p.2 : Nat), p.1]) (fun _ => True) := fun i G1 Φ μ H s R _ => by
  have q := Same.sqT (s.trans R.sub) e
  refine ⟨fun x ex => ?_, fun h => ⟨vs, q, by rw [← r.length]; simpa using h⟩⟩
  rw [List.getElem?_map, List.getElem?_zipIdx] at ex
  obtain ⟨pr, e1, e2⟩ := Option.map_eq_some_iff.mp ex
  obtain ⟨dd, e3, e4⟩ := Option.map_eq_some_iff.mp e1
  obtain ⟨v, e5, e6⟩ := r.get e3
  subst e4 e2
  refine ⟨⟨vs, v, q, e5⟩, fun v' H2 y => ?_⟩
  obtain ⟨T, z, y1, y2, y3, y4⟩ := y
  subst y1 y3
  have := y4 vs q
  rw [e5] at this
  cases this
  obtain ⟨s2, R2⟩ := R.new y2 (.tup [.int ((0 + i : Nat) : Int), v])
  refine ⟨_, s2, ?_, .tup (.inl (.inl upd_same)) (.cons (.int _) (.cons ((e6.mono s).mono s2) .nil))⟩
  simpa using R2
theorem d_enum {elts : List Expr} {kk : Nat} {tpos : Pos} (hg : Gl X "enumerate") (hm : X.mg "enumerate" = none) (h1 : notStar a = true) (ha : PE X a (tE X.K mg W wa)) : PI X (.Tuple elts kk tpos) (.Call (.Name "enumerate" p) [a] [] pos) (tI X.K mg W fun δ μ E R => wa δ μ E fun x μ1 => match x with
    | .lst ds => R (ds.zipIdx.map fun p => .tup [.int (p.2 : Nat), p.1]) (fun _ => True) μ1
    | .tup ds => R (ds.zipIdx.map fun p => .tup [.int (p.2 : Nat), p.1]) (fun _ => True) μ1
    | .ref p => match μ1 p with | some ds => R (ds.zipIdx.map fun p => .tup [.int (p.2 : Nat), p.1]) (fun μ => μ p = some ds) μ1 | none => False
    | _ => False) :=
  PI_imp (pi_enum2 hg hm (pa_cons ha pa_nil (notStar_each h1)) (notStar_each h1)) fun σ H Q h => by
    obtain ⟨δ, G, μ, Φ, E, R, hE, hR, hw, ha, hx⟩ := h
    refine ⟨δ, G, μ, Φ, E, _, hE, hR, hw, fun x μ1 G1 H1 v q1 s1 R1 p1 => ?_, hx⟩
    split at q1
    · cases p1 with | lst e r => exact .inl ⟨_, _, rfl, .inl (.inl (R1.sub _ _ e)), ha _ _ μ1 G1 H1 _ q1 s1 R1 (serves_enum (.inl (.inl e)) r) trivial⟩
    · cases p1 with | tup e r => exact .inr ⟨_, _, rfl, Same.sqT R1.sub e, ha _ _ μ1 G1 H1 _ q1 s1 R1 (serves_enumT e r) trivial⟩
    · rename_i pa
      cases p1
      split at q1
      · rename_i ds e
        obtain ⟨_, vs, hh, r⟩ := R1.chg pa ds e
        exact .inl ⟨_, _, rfl, .inl (.inl hh), ha _ _ μ1 G1 H1 _ q1 s1 R1 serves_enumM e⟩
      · exact q1.elim
    · exact q1.elim
theorem serves_zip {G : Hp} {a b : Addr} {ds es : List D} {vs ws : List V} (e : SqL K G a vs) (r : RepL K G ds vs) (e' : SqL K G b ws) (r' : RepL K G es ws) : Serves K G (Itz K a b) (List.zipWith (fun p q => .tup [p, q]) ds es) (fun _ => True) := fun i G1 Φ μ H s R _ => by
  have q := (s.trans R.sub).seq e
  have q' := (s.trans R.sub).seq e'
  refine ⟨fun x ex => ?_, fun h => ⟨vs, ws, q, q', ?_⟩⟩
  · rw [List.getElem?_zipWith] at ex
    cases g1 : ds[i]? with
    | none => rw [g1] at ex; cases ex
    | some d1 =>
      cases g2 : es[i]? with
      | none => rw [g1, g2] at ex; cases ex
      | some d2 =>
        rw [g1, g2] at ex
        cases ex
        obtain ⟨v, e1, e2⟩ := r.get g1
        obtain ⟨u, e3, e4⟩ := r'.get g2
        refine ⟨⟨vs, ws, v, u, q, q', e1, e3⟩, fun v' H2 y => ?_⟩
        obtain ⟨T, z1, z2, y1, y2, y3, y4, y5⟩ := y
        subst y1 y3
        have t1 := y4 vs q
        have t2 := y5 ws q'
        rw [e1] at t1
        rw [e3] at t2
        cases t1
        cases t2
        obtain ⟨s2, R2⟩ := R.new y2 (.tup [v, u])
        exact ⟨_, s2, R2, .tup (.inl (.inl upd_same)) (.cons ((e2.mono s).mono s2) (.cons ((e4.mono s).mono s2) .nil))⟩
  · rw [List.length_zipWith] at h
    rw [← r.length, ← r'.length]
    omega
theorem d_zip {elts : List Expr} {kk : Nat} {tpos : Pos} (hg : Gl X "zip") (hm : X.mg "zip" = none) (h1 : notStar a = true) (h2 : notStar b = true) (ha : PE X a (tE X.K mg W wa)) (hb : PE X b (tE X.K mg W wb)) : PI X (.Tuple elts kk tpos) (.Call (.Name "zip" p) [a, b] [] pos) (tI X.K mg W fun δ μ E R => wa δ μ E fun x μ1 => wb δ μ1 E fun y μ2 => match x, y with
    | .lst xs, .lst ys => R (List.zipWith (fun p q => .tup [p, q]) xs ys) (fun _ => True) μ2
    | _, _ => False) :=
  PI_imp (pi_zip hg hm (pa_cons ha (pa_cons hb pa_nil (notStar_each h2)) (notStar_each h1)) (notStar_each h1) (by rw [notStar_each h2]; rfl)) fun σ H Q h => by
    obtain ⟨δ, G, μ, Φ, E, R, hE, hR, hw, ha, hx⟩ := h
    refine ⟨δ, G, μ, Φ, E, _, hE, hR, hw, fun x μ1 G1 H1 v q1 s1 R1 p1 => ?_, hx⟩
    refine ⟨δ, G1, μ1, Φ, E, _, hE.mono s1, R1, q1, fun y μ2 G2 H2 u q2 s2 R2 p2 => ?_, hx.mono s1⟩
    split at q2
    · cases p1 with
      | lst e r =>
        cases p2 with
        | lst e' r' => exact ⟨_, _, _, _, rfl, .inl (.inl (R2.sub _ _ (s2 _ _ e))), .inl (.inl (R2.sub _ _ e')), ha _ _ μ2 G2 H2 _ q2 (s1.trans s2) R2 (serves_zip (.inl (.inl (s2 _ _ e))) (r.mono s2) (.inl (.inl e')) r') trivial⟩
    · exact q2.elim
end
end Tf

set_option Elab.async false
set_option linter.all false
set_option maxRecDepth 100000
set_option maxHeartbeats 4000000
/-! Tf, part N2: list(range(..)), count of ints. -/
namespace Tf
open PySem PySem.Spec PyProof.Rows L2
section
variable {X : Cx} {mg : Str → Option Value} {W : WX} {K : PySem.W.Frag} {a b e : Expr} {es : List Expr} {p p2 p3 pos pos2 : Pos} {wa wb : WK D} {wl : WK (List D)}
theorem rg_rep {G : Hp} (m n : Int) : RepL K G (rgD m n) (rgV m n) := by
  unfold rgD rgV
  generalize (n - m).toNat = k
  generalize List.range k = l
  induction l with
  | nil => exact .nil
  | cons x l ih => exact .cons (.int _) ih
theorem lrg_ok {m : Bool} {i j : Int} {G H Φ : Hp} {μ : Mu} {R : Post} {Q : VK} (r : Rel K G μ Φ H) (h : Aft K G Φ R Q) (w : wLrg m i j μ R) : RgOk i j ∧ ∀ q, H q = none → Q (.ref q) (upd H q (.lst (rgV i j))) := by
  obtain ⟨⟨w1, w2, w3, w4, w5⟩, w⟩ := w
  refine ⟨⟨w1, w2, w3, w4, by simpa [sz] using w5⟩, ?_⟩
  cases m with
  | true => exact fun l hl => h _ _ _ _ _ (w l (r.mnone hl)) (Same.refl G) (r.newM hl (rg_rep i j)) (.ref l)
  | false => exact h.lst r w (rg_rep i j)
theorem d_lrg1 {m : Bool} (hc : X.calm = true) (hgl : Gl X "list") (hml : X.mg "list" = none) (hg : Gl X "range") (hm : X.mg "range" = none) (h1 : notStar a = true) (ha : PE X a (tE X.K mg W wa)) :
    PE X (.Call (.Name "list" p) [.Call (.Name "range" p2) [a] [] pos2] [] pos) (tE X.K mg W fun δ μ E Q => wa δ μ E fun x μ1 => match x with
      | .int n => wLrg m 0 n μ1 Q
      | _ => False) :=
  PE_imp (pe_listRg hc hgl hml (prg_1 hg hm ha (notStar_each h1))) fun σ H Q h => by
    obtain ⟨δ, G, μ, Φ, E, R, hE, hR, hw, ha, hx⟩ := h
    refine ⟨δ, G, μ, Φ, E, _, hE, hR, hw, fun x μ1 G1 H1 v q1 s1 R1 p1 => ?_, hx⟩
    split at q1
    · cases p1
      exact ⟨_, rfl, lrg_ok R1 (Aft.mono ha s1) q1⟩
    · exact q1.elim
theorem d_lrg2 {m : Bool} (hc : X.calm = true) (hgl : Gl X "list") (hml : X.mg "list" = none) (hg : Gl X "range") (hm : X.mg "range" = none) (h1 : notStar a = true) (h2 : notStar b = true) (ha : PE X a (tE X.K mg W wa)) (hb : PE X b (tE X.K mg W wb)) :
    PE X (.Call (.Name "list" p) [.Call (.Name "range" p2) [a, b] [] pos2] [] pos) (tE X.K mg W fun δ μ E Q => wa δ μ E fun x μ1 => wb δ μ1 E fun y μ2 => match x, y with
      | .int i, .int j => wLrg m i j μ2 Q
      | _, _ => False) :=
  PE_imp (pe_listRg hc hgl hml (prg_2 hg hm ha hb (notStar_each h1) (notStar_each h2) (by rw [notStar_each h2]; rfl))) fun σ H Q h => by
    obtain ⟨δ, G, μ, Φ, E, R, hE, hR, hw, ha, hx⟩ := h
    refine ⟨δ, G, μ, Φ, E, _, hE, hR, hw, fun x μ1 G1 H1 v q1 s1 R1 p1 => ?_, hx⟩
    refine ⟨δ, G1, μ1, Φ, E, _, hE.mono s1, R1, q1, fun y μ2 G2 H2 u q2 s2 R2 p2 => ?_, hx.mono s1⟩
    split at q2
    · cases p1
      cases p2
      exact ⟨_, _, rfl, rfl, lrg_ok R2 (Aft.mono ha (s1.trans s2)) q2⟩
    · exact q2.elim
theorem d_cntI {o : Expr} {apos : Pos} (hb : notSuper o = true) (hst : notStar a = true) (hln : (apos.endLine == pos.line) = true) (ho : PE X o (tE X.K mg W wb)) (ha : PE X a (tE X.K mg W wa)) :
    PE X (.Call (.Attribute o "count" apos) [a] [] pos) (tE X.K mg W fun δ μ E Q => wb δ μ E fun x μ1 => match x with
    | .lst ds => match intsD ds with
      | some ns => wa δ μ1 E fun y μ2 => match y with | .int k => Q (.int (ns.count k : Nat)) μ2 | _ => False
      | none => False
    | _ => False) :=
  PE_imp (pe_bm PySem.F.plainAttrs_list PySem.F.slot_list_count PySem.F.type_list_count mt_lcount ho (pa_cons ha pa_nil (notStar_each hst)) (notSuper_base hb _ _) (few1 a X.env pos hst) hln (notStar_each hst) rfl) fun σ H Q h => by
    obtain ⟨δ, G, μ, Φ, E, R, hE, hR, hw, ha, hx⟩ := h
    refine ⟨δ, G, μ, Φ, E, _, hE, hR, hw, fun x μ1 G1 H1 v q1 s1 R1 p1 => ?_, hx⟩
    split at q1
    · split at q1
      · rename_i ns e
        cases p1 with
        | lst s q =>
          refine ⟨tyL (R1.sub _ _ s), δ, G1, μ1, Φ, E, _, hE.mono s1, R1, q1, fun y μ2 G2 H2 u q2 s2 R2 p2 => ?_, hx.mono s1⟩
          split at q2
          · cases p2
            exact ⟨_, ns, _, rfl, rfl, by rw [← intsD_ok e q]; exact .inl (.inl (R2.sub _ _ (s2 _ _ s))), ha _ _ G2 _ _ q2 (s1.trans s2) R2 (.int _)⟩
          · exact q2.elim
      · exact q1.elim
    · exact q1.elim
theorem d_idx {o : Expr} {apos : Pos} (hu : X.A.units + 65 < cLine) (hb : notSuper o = true) (hst : notStar a = true) (hln : (apos.endLine == pos.line) = true) (ho : PE X o (tE X.K mg W wb)) (ha : PE X a (tE X.K mg W wa)) :
    PE X (.Call (.Attribute o "index" apos) [a] [] pos) (tE X.K mg W fun δ μ E Q => wb δ μ E fun x μ1 => match x with
    | .lst ds => wa δ μ1 E fun y μ2 => wIdx ds (vw μ2 y) μ2 Q
    | _ => False) :=
  PE_imp (pe_bm PySem.F.plainAttrs_list PySem.F.slot_list_index PySem.F.type_list_index (mt_indexD hu) ho (pa_cons ha pa_nil (notStar_each hst)) (notSuper_base hb _ _) (few1 a X.env pos hst) hln (notStar_each hst) rfl) fun σ H Q h => by
    obtain ⟨δ, G, μ, Φ, E, R, hE, hR, hw, ha, hx⟩ := h
    refine ⟨δ, G, μ, Φ, E, _, hE, hR, hw, fun x μ1 G1 H1 v q1 s1 R1 p1 => ?_, hx⟩
    split at q1
    · cases p1 with
      | lst s q =>
        refine ⟨tyL (R1.sub _ _ s), δ, G1, μ1, Φ, E, _, hE.mono s1, R1, q1, fun y μ2 G2 H2 u q2 s2 R2 p2 => ?_, hx.mono s1⟩
        obtain ⟨⟨f1, z1⟩, ⟨f2, z2⟩, j, z, e1, e2, e3, q2⟩ := q2
        rw [flat] at f2
        have vv := (R2.look p2).rep R2.sub
        have ll : Rep X.K H2 (.lst _) (.ref _) := .lst (R2.sub _ _ (s2 _ _ s)) ((q.mono s2).mono R2.sub)
        have ld := ll.dp (by rw [flat]; exact f2)
        rw [pd] at ld z2
        refine ⟨_, _, pd (vw μ2 y), _, j, pd z, rfl, rfl, ld, vv.dp f1, z2, z1, by rw [pds_map, List.getElem?_map, e1]; rfl, e2, fun m z' hm hz => ?_, ha _ _ G2 _ _ q2 (s1.trans s2) R2 (.int _)⟩
        rw [pds_map, List.getElem?_map] at hz
        obtain ⟨d, hd, rfl⟩ := Option.map_eq_some_iff.mp hz
        exact e3 m d hm hd
    · exact q1.elim
end
end Tf

set_option Elab.async false
set_option linter.all false
set_option maxRecDepth 100000
set_option maxHeartbeats 4000000
/-! Tf, part H: targets, comprehensions, statements, over data. -/
namespace Tf
open PySem PySem.Spec PyProof.Rows L2

theorem put_set : ∀ (δ : DE) (i : Nat) (o : Option D), put δ i o = δ.set i o
  | [], _, _ => rfl
  | _ :: _, 0, _ => rfl
  | x :: xs, n + 1, o => by rw [put, put_set xs n o]; rfl
theorem unset_wip (δ : DE) : ∀ vs : List Nat, unset δ vs = wip δ vs
  | [] => rfl
  | v :: vs => by rw [unset, wip, unset_wip δ vs, put_set]
theorem look_get (δ : DE) (i : Nat) : look δ i = (δ[i]?).getD none := by
  induction δ generalizing i with
  | nil => rfl
  | cons x r ih =>
    cases i with
    | zero => rfl
    | succ n => exact ih n
theorem look_some {δ : DE} {i : Nat} {d : D} (h : look δ i = some d) : δ[i]? = some (some d) := by
  rw [look_get] at h
  cases e : δ[i]? with
  | none => rw [e] at h; cases h
  | some o => rw [e] at h; exact congrArg some h
theorem RelE.put {K : PySem.W.Frag} {G : Hp} {δ : DE} {σ : L2.St} (r : RelE K G δ σ) {i : Nat} {d : D} {v : V} (h : Rep K G d v) : RelE K G (Tf.put δ i (some d)) (σ.set i (some v)) := by
  rw [put_set]; exact r.set h
theorem RelE.unset {K : PySem.W.Frag} {G : Hp} {δ : DE} {σ : L2.St} (r : RelE K G δ σ) (vs : List Nat) : RelE K G (Tf.unset δ vs) σ := by
  rw [unset_wip]; exact r.wip vs
theorem wipe_at {σ : L2.St} {j : Nat} : ∀ {vs : List Nat}, j ∈ vs → (wipe σ vs)[j]? = if j < σ.length then some none else none
  | [], h => by cases h
  | v :: vs, h => by
    unfold wipe
    by_cases e : v = j
    · subst e
      by_cases hl : v < σ.length
      · rw [if_pos hl, List.getElem?_set_self (by rw [L2.wipe_length]; exact hl)]
      · rw [if_neg hl, List.getElem?_eq_none (by rw [List.length_set, L2.wipe_length]; omega)]
    · rw [List.getElem?_set_ne e]
      exact wipe_at (by
        rcases List.mem_cons.mp h with z | z
        · exact absurd z.symm e
        · exact z)
theorem wipe_set {σ : L2.St} {i : Nat} {o : Option V} {vs : List Nat} (h : i ∈ vs) : wipe (σ.set i o) vs = wipe σ vs := by
  apply List.ext_getElem?
  intro j
  by_cases hj : j ∈ vs
  · rw [wipe_at hj, wipe_at hj, List.length_set]
  · rw [wipe_get hj, wipe_get hj, List.getElem?_set_ne (fun e => hj (by rw [← e]; exact h))]

theorem Rep.view {K : PySem.W.Frag} {G H : Hp} (s : Same G H) {d : D} {v : V} (h : Rep K G d v) : View K G H d v := by
  cases h with
  | non => exact .non
  | bl b => exact .bl b
  | int i => exact .int i
  | str x => exact .str x
  | tup a b => exact .tup a b
  | lst a b => exact .lst (s _ _ a) b
  | lsf a b => exact .lsf a b
  | dct a b c => exact .dct a b c
  | ref a => exact .ref a
  | fn x => exact .fn x

/-- the module table is a dict -/
def SmOk (K : PySem.W.Frag) : Prop := ∃ o, K.lookup sysModules = some o ∧ o.cls = .type "dict"
/-- where one stands -/
structure XOk (c : Sc) (X : Cx) (W : WX) : Prop where
  hN : X.N = c.N
  hs : X.env.scope = c.sc
  nd : c.N.Nodup
  kd : c.sc.kind = .function
  calm : X.calm = true
  gd : X.A.guards = some []
  un : X.A.units + 200 < cLine
  tk : Takes X W
  rm : Room c.k X.A
  fr : ∀ x ∈ c.fr, X.mg x = none
  fn : ∀ x, c.own x = true → X.fn x = true
  po : c.top = true → PassesOwn (model X.prog X.w) X.A X.env X.xe
  st : c.top = true → X.stack = X.env :: X.outer ∧ X.env.frame = some X.env.locals
  sm : SmOk X.K

def tgIn (K : PySem.W.Frag) (G H : Hp) : IT → D → V → Prop
  | .nm _, x, v => Rep K G x v
  | .tp _, x, v => View K G H x v
def gD (K : PySem.W.Frag) (t : IT) : TG := fun v σ H Q => ∃ δ G μ Φ x R, RelE K G δ σ ∧ Rel K G μ Φ H ∧ tgIn K G H t x v ∧ wTg t x δ R ∧ ∀ δ' σ', R δ' → RelE K G δ' σ' → (∀ vs, (∀ i ∈ slots t, i ∈ vs) → wipe σ' vs = wipe σ vs) → Q σ' H
def gsD (K : PySem.W.Frag) (ts : List IT) : TGs := fun vs σ H Q => ∃ δ G μ Φ xs R, RelE K G δ σ ∧ Rel K G μ Φ H ∧ RepL K G xs vs ∧ wTgs ts xs δ R ∧ ∀ δ' σ', R δ' → RelE K G δ' σ' → (∀ ws, (∀ i ∈ slotss ts, i ∈ ws) → wipe σ' ws = wipe σ ws) → Q σ' H
theorem locB_ok {c : Sc} {i : Nat} {x : Str} (h : locB c i x = true) : c.N[i]? = some x ∧ Loc c.sc x ∧ (c.own x = true ∨ c.sc.names.lookup x = some .local) := by
  unfold locB at h
  rw [Bool.and_eq_true] at h
  obtain ⟨h1, h2⟩ := h
  refine ⟨of_decide_eq_true h1, ?_⟩
  split at h2
  · rename_i e; exact ⟨.inl e, .inr e⟩
  · rename_i e; exact ⟨.inr e, .inl h2⟩
  · cases h2
theorem each_len {es : List Expr} {env : Env} : (assignEach es env).length = es.length := by
  induction es with
  | nil => rfl
  | cons e r ih => cases e <;> (show (assignEach r env).length + 1 = r.length + 1; rw [ih])
theorem notStar_asg {e : Expr} {es : List Expr} {env : Env} (h : notStar e = true) : assignEach (e :: es) env = (false, assign e env) :: assignEach es env := by cases e <;> first | rfl | cases h
theorem tgsB_star {c : Sc} {env : Env} : ∀ {ts : List IT} {es : List Expr}, tgsB c ts es = true → (assignEach es env).findIdx? (·.1) = none ∧ es.length = ts.length
  | [], [], _ => ⟨rfl, rfl⟩
  | [], _ :: _, h => by rw [tgsB] at h; cases h; all_goals simp
  | _ :: _, [], h => by rw [tgsB] at h; cases h; all_goals simp
  | t :: ts, e :: es, h => by
    rw [tgsB, Bool.and_eq_true, Bool.and_eq_true] at h
    obtain ⟨i1, i2⟩ := tgsB_star (env := env) h.2
    refine ⟨?_, by rw [List.length_cons, List.length_cons, i2]⟩
    rw [notStar_asg h.1.1, List.findIdx?_cons, i1]
    rfl
section
variable {X : Cx} {c : Sc} {W : WX}
mutual
theorem d_tg (ok : XOk c X W) : ∀ {t : IT} {e : Expr}, tgB c t e = true → PG X e (gD X.K t)
  | .nm i, .Name x pos, h => by
    rw [tgB] at h
    obtain ⟨h1, h2, h3⟩ := locB_ok h
    have pg := pg_name (X := X) (pos := pos) (i := i) (x := x) (by rw [ok.hN]; exact ok.nd) (by rw [ok.hN]; exact h1) (by rw [ok.hs]; exact h2) (by
      rcases h3 with z | z
      · exact .inl (ok.fn x z)
      · exact .inr (by rw [ok.hs]; exact z))
    refine ⟨fun pins s σ H v u Q I r hw => pg.run pins s σ H v u Q I r ?_⟩
    obtain ⟨δ, G, μ, Φ, y, R, hE, hR, hv, w, fin⟩ := hw
    rw [wTg] at w
    exact fin _ _ w (hE.put hv) fun vs hvs => wipe_set (hvs i (by simp [slots]))
  | .tp ts, .Tuple es k pos, h => by
    rw [tgB] at h
    obtain ⟨h1, h2⟩ := tgsB_star (env := X.env) h
    have pgs := d_tgs ok h
    have p1 := pg_tup (X := X) (k := k) (pos := pos) (n := ts.length) ok.calm pgs (by rw [each_len, h2]) h1
    have p2 := pg_unl (X := X) (k := k) (pos := pos) (n := ts.length) ok.calm pgs (by rw [each_len, h2]) h1
    refine ⟨fun pins s σ H v u Q I r hw => ?_⟩
    obtain ⟨δ, G, μ, Φ, y, R, hE, hR, hv, w, fin⟩ := hw
    have hv' : View X.K G H y v := hv
    cases hv' with
    | tup sq rr =>
      simp only [wTg] at w
      exact p1.run pins s σ H _ u Q I r ⟨_, _, rfl, Same.sqT hR.sub sq, by rw [← rr.length]; exact w.1, δ, G, μ, Φ, _, R, hE, hR, rr, w.2, fun δ' σ' a b c => fin δ' σ' a b (fun vs hvs => c vs (by rw [slots] at hvs; exact hvs))⟩
    | lst sq rr =>
      simp only [wTg] at w
      exact p2.run pins s σ H _ u Q I r ⟨_, _, rfl, .inl (.inl sq), by rw [← rr.length]; exact w.1, δ, G, μ, Φ, _, R, hE, hR, rr, w.2, fun δ' σ' a b c => fin δ' σ' a b (fun vs hvs => c vs (by rw [slots] at hvs; exact hvs))⟩
    | _ => simp [wTg] at w
  | .nm _, .BoolOp .., h | .nm _, .NamedExpr .., h | .nm _, .BinOp .., h | .nm _, .UnaryOp .., h | .nm _, .Lambda .., h | .nm _, .IfExp .., h | .nm _, .Dict .., h | .nm _, .Set .., h | .nm _, .ListComp .., h | .nm _, .SetComp .., h | .nm _, .DictComp .., h | .nm _, .GeneratorExp .., h
  | .nm _, .Await .., h | .nm _, .Yield .., h | .nm _, .YieldFrom .., h | .nm _, .Compare .., h | .nm _, .Call .., h | .nm _, .FormattedValue .., h | .nm _, .JoinedStr .., h | .nm _, .Constant .., h | .nm _, .Attribute .., h | .nm _, .Subscript .., h | .nm _, .Starred .., h | .nm _, .List .., h
  | .nm _, .Tuple .., h | .nm _, .Slice .., h => by simp [tgB] at h
  | .tp _, .BoolOp .., h | .tp _, .NamedExpr .., h | .tp _, .BinOp .., h | .tp _, .UnaryOp .., h | .tp _, .Lambda .., h | .tp _, .IfExp .., h | .tp _, .Dict .., h | .tp _, .Set .., h | .tp _, .ListComp .., h | .tp _, .SetComp .., h | .tp _, .DictComp .., h | .tp _, .GeneratorExp .., h
  | .tp _, .Await .., h | .tp _, .Yield .., h | .tp _, .YieldFrom .., h | .tp _, .Compare .., h | .tp _, .Call .., h | .tp _, .FormattedValue .., h | .tp _, .JoinedStr .., h | .tp _, .Constant .., h | .tp _, .Attribute .., h | .tp _, .Subscript .., h | .tp _, .Starred .., h | .tp _, .List .., h
  | .tp _, .Name .., h | .tp _, .Slice .., h => by simp [tgB] at h
theorem d_tgs (ok : XOk c X W) : ∀ {ts : List IT} {es : List Expr}, tgsB c ts es = true → PGs X es (gsD X.K ts)
  | [], [], _ => by
    refine ⟨fun pins s σ H vs us Q I r hw => (pgs_nil (X := X)).run pins s σ H vs us Q I r ?_⟩
    obtain ⟨δ, G, μ, Φ, xs, R, hE, hR, hv, w, fin⟩ := hw
    cases hv with
    | nil =>
      rw [wTgs] at w
      exact ⟨rfl, fin _ _ w hE fun _ _ => rfl⟩
    | cons a b => simp [wTgs] at w
  | [], _ :: _, h => by simp [tgsB] at h
  | _ :: _, [], h => by simp [tgsB] at h
  | t :: ts, e :: es, h => by
    rw [tgsB, Bool.and_eq_true, Bool.and_eq_true] at h
    have st := notStar_asg (es := es) (env := X.env) h.1.1
    have pgs := pgs_cons (X := X) (d_tg ok h.1.2) (d_tgs ok h.2) (by rw [st]; rfl)
    refine ⟨fun pins s σ H vs us Q I r hw => pgs.run pins s σ H vs us Q I r ?_⟩
    obtain ⟨δ, G, μ, Φ, xs, R, hE, hR, hv, w, fin⟩ := hw
    cases hv with
    | nil => simp [wTgs] at w
    | cons a b =>
      rw [wTgs] at w
      refine ⟨_, _, rfl, δ, G, μ, Φ, _, _, hE, hR, ?_, w, fun δ1 σ1 w1 e1 k1 => ⟨δ1, G, μ, Φ, _, R, e1, hR, b, w1, fun δ2 σ2 w2 e2 k2 => fin δ2 σ2 w2 e2 fun ws hws => ?_⟩⟩
      · cases t with
        | nm i => exact a
        | tp us => exact a.view hR.sub
      · rw [slotss] at hws
        rw [k2 ws fun i hi => hws i (List.mem_append_right _ hi), k1 ws fun i hi => hws i (List.mem_append_left _ hi)]
end

/-! ### comprehensions -/
def noW : WX := fun _ _ _ _ => False
theorem noAft {K : PySem.W.Frag} {mg : Str → Option Value} {G Φ : Hp} {Wf : Value → Option Addr → Hp → Prop} : AftX K mg G Φ noX Wf := fun _ _ _ _ _ _ h => h.elim
theorem wipe_idem {σ : L2.St} {vs : List Nat} : wipe (wipe σ vs) vs = wipe σ vs := by
  apply List.ext_getElem?
  intro j
  by_cases hj : j ∈ vs
  · rw [wipe_at hj, wipe_at hj, L2.wipe_length]
  · rw [wipe_get hj]
def wLc (m : Bool) (t : IT) (vs : List Nat) (wi : WI) (wc : WK Bool) (we : WK D) : WK D := fun δ μ E Q => wi δ μ E fun items stay μ1 => items.length < sz ∧
  wComp stay (fun x μ2 R => wTg t x (unset δ vs) fun δ2 => wc δ2 μ2 noX fun k μ3 => match k with
    | true => we δ2 μ3 noX fun y μ4 => R (some y) μ4
    | false => R none μ3) items μ1 fun ys μ2 => match m with
      | true => ∀ p, μ2 p = none → Q (.ref p) (mput μ2 p ys)
      | false => Q (.lst ys) μ2
theorem lc_read {m : Bool} {t : IT} {vs : List Nat} {wi : WI} {wc : WK Bool} {we : WK D} {mg : Str → Option Value} (hsl : ∀ i ∈ slots t, i ∈ vs) {σ : L2.St} {H : Hp} {Q : VK} (h : tE X.K mg W (wLc m t vs wi wc we) σ H Q) :
    tLc (tI X.K mg W wi) (gD X.K t) (tT X.K mg noW wc) (tE X.K mg noW we) vs σ H Q := by
  obtain ⟨δ, G, μ, Φ, E, R, hE, hR, hw, ha, hx⟩ := h
  refine ⟨δ, G, μ, Φ, E, _, hE, hR, hw, fun items stay μ1 G1 H1 J q1 s1 R1 sv st => ?_, hx⟩
  intro Da hD
  obtain ⟨hsz, hc⟩ := q1
  have fD : Φ Da = none := R1.fnone hD
  generalize hf : (fun (x : D) (μ2 : Mu) (R : Option D → Mu → Prop) => wTg t x (unset δ vs) fun δ2 => wc δ2 μ2 noX fun k μ3 => match k with
    | true => we δ2 μ3 noX fun y μ4 => R (some y) μ4
    | false => R none μ3) = f at hc
  have hfx : ∀ (x : D) (μ2 : Mu) (R : Option D → Mu → Prop), f x μ2 R → wTg t x (unset δ vs) fun δ2 => wc δ2 μ2 noX fun k μ3 => match k with
    | true => we δ2 μ3 noX fun y μ4 => R (some y) μ4
    | false => R none μ3 := by
    subst hf
    exact fun _ _ _ z => z
  generalize hfin : (fun (ys : List D) (μ2 : Mu) => match m with
      | true => ∀ p, μ2 p = none → R (.ref p) (mput μ2 p ys)
      | false => R (.lst ys) μ2) = Rf at hc
  refine ⟨fun i mm Hh => ∃ G2 μ2 dacc vacc R', mm = items.length - i ∧ i ≤ items.length ∧ Same G1 G2 ∧ Rel X.K G2 μ2 (upd Φ Da (.lst vacc)) Hh ∧ RepL X.K G2 dacc vacc ∧ dacc.length ≤ i ∧ wComp stay f (items.drop i) μ2 R' ∧ ∀ ys μ', R' ys μ' → Rf (dacc ++ ys) μ',
    ⟨items.length, G1, μ1, [], [], Rf, rfl, Nat.zero_le _, Same.refl _, R1.newF hD _, .nil, Nat.le_refl _, hc, fun _ _ z => z⟩, ?_⟩
  rintro i mm Hh ⟨G2, μ2, dacc, vacc, R', rfl, hi, s2, R2, ra, hl, w, fin⟩
  by_cases hlt : i < items.length
  · rw [List.drop_eq_getElem_cons hlt, wComp] at w
    obtain ⟨st2, w⟩ := w
    obtain ⟨go, yd⟩ := (sv i G2 _ μ2 Hh s2 R2 st2).1 _ (List.getElem?_eq_getElem hlt)
    refine .inr ⟨go, fun H' => ∃ G2 μ2 dacc vacc R', Same G1 G2 ∧ Rel X.K G2 μ2 (upd Φ Da (.lst vacc)) H' ∧ RepL X.K G2 dacc vacc ∧ dacc.length ≤ i + 1 ∧ wComp stay f (items.drop (i + 1)) μ2 R' ∧ ∀ ys μ', R' ys μ' → Rf (dacc ++ ys) μ',
      fun H' ⟨G3, μ3, da, va, R3, a1, a2, a3, a4, a5, a6⟩ => ⟨items.length - (i + 1), by omega, G3, μ3, da, va, R3, rfl, hlt, a1, a2, a3, a4, a5, a6⟩, fun v H' y => ?_⟩
    obtain ⟨G3, s3, R3, rv⟩ := yd v H' y
    replace w := hfx _ _ _ w
    refine ⟨_, G3, μ2, _, _, _, ?_, R3, ?_, w, fun δ' σ' w' e' k' => ⟨by rw [k' vs hsl, wipe_idem], ?_⟩⟩
    · rw [unset_wip]
      exact (hE.mono ((s1.trans s2).trans s3)).wipe vs
    · cases t with
      | nm i => exact rv
      | tp us => exact rv.view R3.sub
    · refine ⟨δ', G3, μ2, _, noX, _, e', R3, w', fun k μ4 G4 H4 k' q4 s4 R4 p4 => ?_, noAft⟩
      have p4' : k = k' := p4
      subst p4'
      cases k with
      | true =>
        refine iteT ⟨δ', G4, μ4, _, noX, _, e'.mono s4, R4, q4, fun yd μ5 G5 H5 yv q5 s5 R5 p5 => ?_, noAft⟩
        obtain ⟨z1, z2, z3⟩ := R5.frm Da _ upd_same
        refine ⟨vacc, z1, ?_, G5, μ5, dacc ++ [yd], vacc ++ [yv], _, ((s2.trans s3).trans s4).trans s5, ?_, ((ra.mono s3).mono s4 |>.mono s5).snoc p5, by rw [List.length_append, List.length_singleton]; omega, q5, fun ys μ' r => ?_⟩
        · rw [← ra.length]
          exact szLine' (by omega)
        · have := R5.setF (p := Da) (o := .lst vacc) upd_same (.lst (vacc ++ [yv]))
          rw [upd_upd] at this
          exact this
        · rw [List.append_assoc]
          exact fin _ _ r
      | false =>
        exact iteF ⟨G4, μ4, dacc, vacc, R', (s2.trans s3).trans s4, R4, (ra.mono s3).mono s4, by omega, q4, fin⟩
  · have e : i = items.length := by omega
    subst e
    rw [List.drop_length, wComp] at w
    obtain ⟨st2, w⟩ := w
    refine .inl ⟨(sv _ G2 _ μ2 Hh s2 R2 st2).2 (Nat.le_refl _), ?_⟩
    have q := fin _ _ w
    rw [List.append_nil, ← hfin] at q
    obtain ⟨z1, z2, z3⟩ := R2.frm Da _ upd_same
    have sub : ∀ a x, Φ a = some x → upd Φ Da (.lst vacc) a = some x := fun a x e => by rw [upd_ne (fun z => by rw [z, fD] at e; cases e)]; exact e
    cases m with
    | false =>
      obtain ⟨s4, R4⟩ := R2.settleF z1 z2 z3 sub fD
      exact ha _ μ2 _ Hh _ q (s1.trans (s2.trans s4)) R4 (.lst upd_same (ra.mono s4))
    | true => exact ha _ _ G2 Hh _ (q Da z3) (s1.trans s2) (R2.toM upd_same ra sub fD) (.ref Da)
theorem pts0 {mg : Str → Option Value} : PTs X [] (tT X.K mg W fun _ μ _ Q => Q true μ) := ⟨fun pins s σ H Q I h => (pts_nil (X := X)).run pins s σ H Q I (by
  obtain ⟨δ, G, μ, Φ, E, R, hE, hR, hw, ha, hx⟩ := h
  exact ha true μ G H true hw (Same.refl G) hR rfl)⟩
theorem pts1 {mg : Str → Option Value} {e : Expr} {w : WK Bool} (h : PT X e (tT X.K mg W w)) : PTs X [e] (tT X.K mg W fun δ μ E Q => w δ μ E fun k μ1 => match k with | true => Q true μ1 | false => Q false μ1) := ⟨fun pins s σ H Q I hw => (pts_one h).run pins s σ H Q I (by
  obtain ⟨δ, G, μ, Φ, E, R, hE, hR, hw, ha, hx⟩ := hw
  refine ⟨δ, G, μ, Φ, E, _, hE, hR, hw, fun x μ1 G1 H1 v q1 s1 R1 p1 => ?_, hx⟩
  have p1' : x = v := p1
  subst p1'
  cases x <;> exact ha _ μ1 G1 H1 _ q1 s1 R1 rfl)⟩
end
end Tf

set_option Elab.async false
set_option linter.all false
set_option maxRecDepth 100000
set_option maxHeartbeats 4000000
/-! Tf, part Z: tuple(zip(a, b)) of two lists. -/
namespace TfZip
open PySem PySem.Spec
/-- where such a zip stands -/
def ZSt (z TI TO i1 i2 l1 l2 S : Addr) (xs ys : Array Value) (i : Nat) (h : Heap) : Prop :=
  IsPair h TI (.ref i1) (.ref i2) ∧ h.IsListIter i1 l1 i ∧ h.IsListIter i2 l2 i ∧ h.IsList l1 xs ∧ h.IsList l2 ys ∧
    ((IsZip h z TI TO .none ∧ ∃ a b, IsPair h TO a b) ∨ ∃ T f oT, IsZipHeld h z TI TO T f ∧ h.get? T = some oT ∧ T ≠ z ∧ T ≠ i1 ∧ T ≠ i2 ∧ T ≠ S)
/-- what has been gathered -/
def ZAcc (z TO i1 i2 S : Addr) (xs ys : Array Value) (b0 : Nat) (acc : Array Value) (i : Nat) (h : Heap) : Prop :=
  acc.size = i ∧ acc.toList.Nodup ∧ ∀ (j : Nat) (v : Value), acc[j]? = some v → ∃ (T : Addr) (x y : Value), v = .ref T ∧ xs[j]? = some x ∧ ys[j]? = some y ∧ IsPair h T x y ∧ b0 ≤ T ∧ T ≠ z ∧ T ≠ TO ∧ T ≠ i1 ∧ T ≠ i2 ∧ T ≠ S
theorem ZAcc.keep {z TO i1 i2 S : Addr} {xs ys : Array Value} {b0 : Nat} {acc : Array Value} {i : Nat} {h h' : Heap} (a : ZAcc z TO i1 i2 S xs ys b0 acc i h)
    (k : ∀ c o, c ≠ z → c ≠ TO → c ≠ i1 → c ≠ i2 → c ≠ S → h.get? c = some o → h'.get? c = some o) : ZAcc z TO i1 i2 S xs ys b0 acc i h' := by
  refine ⟨a.1, a.2.1, fun j v hj => ?_⟩
  obtain ⟨T, x, y, e, ex, ey, hp, hb, n1, n2, n3, n4, n5⟩ := a.2.2 j v hj
  exact ⟨T, x, y, e, ex, ey, k _ _ n1 n2 n3 n4 n5 hp, hb, n1, n2, n3, n4, n5⟩
theorem ZAcc.push {z TO i1 i2 S : Addr} {xs ys : Array Value} {b0 : Nat} {acc : Array Value} {i : Nat} {h : Heap} (a : ZAcc z TO i1 i2 S xs ys b0 acc i h) {T : Addr} {x y : Value}
    (ex : xs[i]? = some x) (ey : ys[i]? = some y) (hp : IsPair h T x y) (hb : b0 ≤ T) (n1 : T ≠ z) (n2 : T ≠ TO) (n3 : T ≠ i1) (n4 : T ≠ i2) (n5 : T ≠ S) (nn : Value.ref T ∉ acc.toList) : ZAcc z TO i1 i2 S xs ys b0 (acc.push (Value.ref T)) (i + 1) h := by
  refine ⟨by simp [a.1], by rw [Array.toList_push]; exact List.nodup_append.mpr ⟨a.2.1, by simp, fun x hx y hy => by rw [List.mem_singleton.mp hy]; exact fun q => nn (q ▸ hx)⟩, fun j v hj => ?_⟩
  rcases Nat.lt_trichotomy j i with q | q | q
  · rw [Array.getElem?_push, if_neg (by rw [a.1]; omega)] at hj
    exact a.2.2 j v hj
  · subst q
    rw [Array.getElem?_push, if_pos (by rw [a.1])] at hj
    cases hj
    exact ⟨T, x, y, rfl, ex, ey, hp, hb, n1, n2, n3, n4, n5⟩
  · rw [Array.getElem?_push, if_neg (by rw [a.1]; omega)] at hj
    have := (Array.getElem?_eq_some_iff.mp hj).1
    rw [a.1] at this
    omega
section
variable {prog : Program} {w : World} {A : Around} {z TI TO i1 i2 l1 l2 S : Addr} {xs ys : Array Value} {b0 : Nat}
theorem loop (hh : A.handled = none) (D : ZipApart z TI TO i1 i2 l1 l2) (hS : S ≠ z ∧ S ≠ TI ∧ S ≠ TO ∧ S ≠ i1 ∧ S ≠ i2 ∧ S ≠ l1 ∧ S ≠ l2) (hTOb : TO < b0) (hn : min xs.size ys.size ≤ sizeLine) (res : Value) {R : Result → Shared → Prop} :
    ∀ (k i : Nat) (s : Shared) (acc : Array Value) (c : Nat), min xs.size ys.size - i = k → i ≤ min xs.size ys.size → ZSt z TI TO i1 i2 l1 l2 S xs ys i s.heap → b0 ≤ s.heap.objs.size →
    s.heap.get? S = some { cls := .type "list", dict := none, data := .seq acc c, slots := #[] } → ZAcc z TO i1 i2 S xs ys b0 acc i s.heap →
    (∀ h' acc' c', (∀ b o, b ≠ z → b ≠ TO → b ≠ i1 → b ≠ i2 → b ≠ S → s.heap.get? b = some o → h'.get? b = some o) → h'.get? S = some { cls := .type "list", dict := none, data := .seq acc' c', slots := #[] } →
      ZAcc z TO i1 i2 S xs ys b0 acc' (min xs.size ys.size) h' → R (.ok (.ret res)) { s with heap := h' }) →
    codeAny (model prog w) A (.builtin "list.extend.loop" ⟨[.ref S, .ref z, res], []⟩) R s := by
  obtain ⟨q1, q2, q3, q4, q5, q6, q7⟩ := hS
  intro k
  induction k with
  | zero =>
    intro i s acc c hk hi hst hb hl hacc hR
    obtain ⟨hTI, h1, h2, hl1, hl2, hz⟩ := hst
    have hin : i = min xs.size ys.size := by omega
    subst hin
    have hend : xs[min xs.size ys.size]? = none ∨ ys[min xs.size ys.size]? = none := by
      rcases Nat.le_total xs.size ys.size with h | h
      · exact .inl (by rw [Nat.min_eq_left h]; simp)
      · exact .inr (by rw [Nat.min_eq_right h]; simp)
    refine codeAny_builtin F.entry_extend_loop ?_
    rw [Around.under_plainId F.plain_extend_loop _]
    refine (show wpAny _ A.in1 (pyNext (.ref z) >>= _) _ _ s from wpAny_bind ?_)
    rcases hz with ⟨hz, a, b, hTO⟩ | ⟨T, f, oT, hz, hT, r1, r2, r3, r4⟩
    · refine wpAny_pyNext_zip_end (A := A.in1) hh D hz hTI hTO h1 h2 hl1 hl2 hend fun h' hk => wpAny_pure (hR h' acc c (fun b o c1 c2 c3 c4 _ e => hk b o c1 c2 c3 c4 e) (hk S _ q1 q3 q4 q5 hl) (hacc.keep fun c o c1 c2 c3 c4 _ e => hk c o c1 c2 c3 c4 e))
    · refine wpAny_pyNext_zip_end_held (A := A.in1) hh D hz hT hTI h1 h2 hl1 hl2 hend fun h' hk => wpAny_pure (hR h' acc c (fun b o c1 c2 c3 c4 _ e => hk b o c1 c3 c4 e) (hk S _ q1 q4 q5 hl) (hacc.keep fun c o c1 c2 c3 c4 _ e => hk c o c1 c3 c4 e))
  | succ k ih =>
    intro i s acc c hk hi hst hb hl hacc hR
    obtain ⟨hTI, h1, h2, hl1, hl2, hz⟩ := hst
    have hlt : i < min xs.size ys.size := by omega
    have hix : i < xs.size := by omega
    have hiy : i < ys.size := by omega
    have ex := Array.getElem?_eq_getElem hix
    have ey := Array.getElem?_eq_getElem hiy
    have lt : ∀ {c o}, s.heap.get? c = some o → s.heap.objs.size ≠ c := fun e => Nat.ne_of_gt (Heap.lt_size e)
    have n1 : s.heap.objs.size ≠ i1 := let ⟨_, e, _⟩ := h1; lt e
    have n2 : s.heap.objs.size ≠ i2 := let ⟨_, e, _⟩ := h2; lt e
    have nS : s.heap.objs.size ≠ S := lt hl
    have nacc : Value.ref s.heap.objs.size ∉ acc.toList := fun hm => by
      obtain ⟨j, hj, e⟩ := List.mem_iff_getElem.mp hm
      obtain ⟨T, x, y, e', _, _, hp, _⟩ := hacc.2.2 j (.ref s.heap.objs.size) (by rw [← e, Array.getElem?_eq_getElem (by simpa using hj)]; simp)
      cases e'
      exact lt hp rfl
    have nz : s.heap.objs.size ≠ z := by rcases hz with ⟨hz, _⟩ | ⟨_, _, _, hz, _⟩ <;> exact lt hz
    -- the way on, once an item has come
    have on : ∀ (h' : Heap) (f : Bool), IsZipHeld h' z TI TO s.heap.objs.size f ∨ (∃ T oT, IsZipHeld h' z TI TO T f ∧ h'.get? T = some oT ∧ T ≠ z ∧ T ≠ i1 ∧ T ≠ i2 ∧ T ≠ S) → h'.IsListIter i1 l1 (i + 1) → h'.IsListIter i2 l2 (i + 1) → IsPair h' s.heap.objs.size xs[i] ys[i] → s.heap.objs.size ≠ TO →
        h'.objs.size = s.heap.objs.size + 1 → (∀ c o, c ≠ z → c ≠ TO → c ≠ i1 → c ≠ i2 → s.heap.get? c = some o → h'.get? c = some o) →
        wpAny (model prog w) A.in1 (updateSeq S (·.push (.ref s.heap.objs.size)) >>= fun _ => again (.builtin "list.extend.loop" ⟨[.ref S, .ref z, res], []⟩)) (fun fin s' => match fin with | .done g => R (.ok g) s' | .again c' => c'.quiet = true ∧ codeAny (model prog w) A c' R s') (fun e s' => R (.error e) s') { s with heap := h' } := by
      intro h' f g1 a3 a4 a5 nTO a6 hk'
      have hl' := hk' S _ q1 q3 q4 q5 hl
      refine wpAny_bind (wpAny_updateSeq hl' rfl (wpAny_pure ⟨plainId_quiet F.plain_extend_loop _, ?_⟩) (by rw [hacc.1]; omega) (by show (acc.push (.ref s.heap.objs.size)).size ≤ sizeLine + 1; rw [Array.size_push, hacc.1]; omega))
      have oth : ∀ b o, b ≠ S → h'.get? b = some o → (h'.update S (Obj.mapSeq (·.push (.ref s.heap.objs.size)))).get? b = some o := fun b o hb e => (Heap.get?_update_other _ _ (Ne.symm hb)).trans e
      refine ih (i + 1) { s with heap := h'.update S (Obj.mapSeq (·.push (.ref s.heap.objs.size))) } (acc.push (.ref s.heap.objs.size)) _ (by omega) hlt ?_ ?_ (Heap.get?_update_self _ hl' rfl) ?_ fun h'' acc' c' hk'' hl'' hacc' => ?_
      · refine ⟨oth _ _ (Ne.symm q2) (hk' _ _ D.TIz D.TITO D.TIi1 D.TIi2 hTI), a3.at fun o e => oth _ o (Ne.symm q4) e, a4.at fun o e => oth _ o (Ne.symm q5) e, hl1.at fun o e => oth _ o (Ne.symm q6) (hk' _ o D.l1z D.l1TO D.l1i1 D.l1i2 e), hl2.at fun o e => oth _ o (Ne.symm q7) (hk' _ o D.l2z D.l2TO D.l2i1 D.l2i2 e), .inr ?_⟩
        rcases g1 with g1 | ⟨T, oT, g1, g2, g3, g4, g5, g6⟩
        · exact ⟨_, f, _, oth _ _ (Ne.symm q1) g1, oth _ _ nS a5, nz, n1, n2, nS⟩
        · exact ⟨T, f, oT, oth _ _ (Ne.symm q1) g1, oth _ _ g6 g2, g3, g4, g5, g6⟩
      · show b0 ≤ (h'.update S _).objs.size
        rw [(Heap.SameBut.update ..).1]
        omega
      · exact ((hacc.keep fun c o c1 c2 c3 c4 _ e => hk' c o c1 c2 c3 c4 e).keep fun c o _ _ _ _ c5 e => oth c o c5 e).push ex ey (oth _ _ nS a5) hb nz nTO n1 n2 nS nacc
      · exact hR h'' acc' c' (fun b o c1 c2 c3 c4 c5 e => hk'' b o c1 c2 c3 c4 c5 (oth b o c5 (hk' b o c1 c2 c3 c4 e))) hl'' hacc'
    refine codeAny_builtin F.entry_extend_loop ?_
    rw [Around.under_plainId F.plain_extend_loop _]
    refine (show wpAny _ A.in1 (pyNext (.ref z) >>= _) _ _ s from wpAny_bind ?_)
    rcases hz with ⟨hz, a, b, hTO⟩ | ⟨T, f, oT, hz, hT, r1, r2, r3, r4⟩
    · exact wpAny_pyNext_zip_item D hz hTI hTO h1 h2 hl1 hl2 ex ey fun h' a1 a2 a3 a4 a5 a6 hk' => on h' false (.inl a1) a3 a4 a5 (lt hTO) a6 hk'
    · exact wpAny_pyNext_zip_item_held D hz hT hTI h1 h2 hl1 hl2 ex ey fun h' a1 a3 a4 a5 a6 hk' => on h' true (.inr ⟨T, oT, a1, hk' _ _ r1 r2 r3 hT, r1, r2, r3, r4⟩) a3 a4 a5 (Nat.ne_of_gt (Nat.lt_of_lt_of_le hTOb hb)) a6 fun c o c1 c2 c3 c4 e => hk' c o c1 c3 c4 e
theorem zip_nolen : typeLookup (.type "zip") "__len__" = pure none := am_miss_of_fast (by decide +kernel)
theorem zip_nohint : typeLookup (.type "zip") "__length_hint__" = pure none := am_miss_of_fast (by decide +kernel)
section
variable {E : Value → Shared → Prop} {s : Shared}
theorem gathered (hh : A.handled = none) (D : ZipApart z TI TO i1 i2 l1 l2) (hn : min xs.size ys.size ≤ sizeLine) (hz : IsZip s.heap z TI TO .none) (hTI : IsPair s.heap TI (.ref i1) (.ref i2)) {a b : Value} (hTO : IsPair s.heap TO a b)
    (h1 : s.heap.IsListIter i1 l1 0) (h2 : s.heap.IsListIter i2 l2 0) (hl1 : s.heap.IsList l1 xs) (hl2 : s.heap.IsList l2 ys) {Q : List Value → Shared → Prop}
    (hQ : ∀ (h' : Heap) (S : Addr) (acc : Array Value), s.heap.objs.size ≤ S → (∀ b o, b ≠ z → b ≠ TO → b ≠ i1 → b ≠ i2 → s.heap.get? b = some o → h'.get? b = some o) → ZAcc z TO i1 i2 S xs ys s.heap.objs.size acc (min xs.size ys.size) h' → Q acc.toList { s with heap := h' }) :
    wpAny (model prog w) A (collect (.ref z)) Q E s := by
  have fr : ∀ {c : Addr} {o : Obj}, s.heap.get? c = some o → s.heap.objs.size ≠ c := fun e => Nat.ne_of_gt (Heap.lt_size e)
  have nS : s.heap.objs.size ≠ z ∧ s.heap.objs.size ≠ TI ∧ s.heap.objs.size ≠ TO ∧ s.heap.objs.size ≠ i1 ∧ s.heap.objs.size ≠ i2 ∧ s.heap.objs.size ≠ l1 ∧ s.heap.objs.size ≠ l2 :=
    ⟨fr hz, fr hTI, fr hTO, let ⟨_, e, _⟩ := h1; fr e, let ⟨_, e, _⟩ := h2; fr e, let ⟨_, e, _⟩ := hl1; fr e, let ⟨_, e, _⟩ := hl2; fr e⟩
  have hTOl : TO < s.heap.objs.size := Heap.lt_size hTO
  unfold collect
  refine wpAny_bind (wpAny_runValue (codeAny_builtin F.entry_proto_collect ?_))
  rw [Around.under_plainId F.plain_proto_collect _]
  show wpAny _ A.in1 (newList [] >>= fun g => again (.builtin "list.__iadd__" ⟨[g, .ref z], []⟩)) _ _ s
  refine wpAny_bind (wpAny_newObj_type (wpAny_pure ⟨plainId_quiet F.plain_list_iadd _, codeAny_builtin F.entry_list_iadd ?_⟩))
  rw [Around.under_plainId F.plain_list_iadd _]
  generalize hg : s.heap.push { cls := .type "list", data := .seq ([] : List Value).toArray } = g0
  have up : ∀ c o, s.heap.get? c = some o → g0.get? c = some o := fun c o e => by rw [← hg]; exact Heap.get?_push_of_some _ e
  have g0S : g0.get? s.heap.objs.size = some { cls := .type "list", data := .seq ([] : List Value).toArray } := by rw [← hg]; exact Heap.get?_push_size _ rfl
  have ty : ∀ h', IsZip h' z TI TO .none → ({ s with heap := h' } : Shared).TypeIs (.ref z) "zip" := fun h' e => ⟨_, e, rfl⟩
  have z0 := up _ _ hz
  show wpAny _ A.in1 (Builtin.List.listExtendWith (.ref s.heap.objs.size) (.ref z) (.ref s.heap.objs.size)) _ _ _
  unfold Builtin.List.listExtendWith
  refine wpAny_bind (wpAny_typeOf (ty _ z0) ?_)
  have d1 : Builtin.List.listSameRef (.ref s.heap.objs.size) (.ref z) = false := by simp [Builtin.List.listSameRef, nS.1]
  have d2 : (Value.type "zip" == Value.type "list") = false := by decide
  have d3 : (Value.type "zip" == Value.type "tuple") = false := by decide
  simp only [d1, d2, d3, Bool.or_false, Bool.false_eq_true, if_false]
  refine wpAny_bind (wpAny_pyIter_zip (s := { s with heap := g0 }) z0 (wpAny_bind (wpAny_holding ?_)))
  unfold Builtin.List.listLengthHint
  refine wpAny_bind (wpAny_specialOf (ty _ z0) zip_nolen ?_)
  show wpAny _ A.in1 (specialOf (Value.ref z) (Str.ofString "__length_hint__") >>= _) _ _ _
  refine wpAny_bind (wpAny_specialOf (ty _ z0) zip_nohint (wpAny_pure ?_))
  show wpAny _ A.in1 (rule "list.extend.makes-room" >>= fun _ => Builtin.List.listTouch (.ref s.heap.objs.size) >>= fun _ => again (.builtin "list.extend.loop" ⟨[.ref s.heap.objs.size, .ref z, .ref s.heap.objs.size], []⟩)) _ _ _
  refine wpAny_bind (wpAny_rule (wpAny_bind ?_))
  show wpAny _ A.in1 (updateSeq s.heap.objs.size (·.push .none) >>= fun _ => updateSeq s.heap.objs.size (·.pop)) _ _ _
  have e1 := Heap.get?_update_self (Obj.mapSeq (·.push Value.none)) g0S rfl
  have e2 := Heap.get?_update_self (Obj.mapSeq (·.pop)) e1 rfl
  refine wpAny_bind (wpAny_updateSeq g0S rfl (wpAny_updateSeq e1 rfl ?_))
  have oth : ∀ b o, s.heap.get? b = some o → ((g0.update s.heap.objs.size (Obj.mapSeq (·.push Value.none))).update s.heap.objs.size (Obj.mapSeq (·.pop))).get? b = some o :=
    fun b o e => (Heap.get?_update_other _ _ (fr e)).trans ((Heap.get?_update_other _ _ (fr e)).trans (up b o e))
  have sz : s.heap.objs.size ≤ ((g0.update s.heap.objs.size (Obj.mapSeq (·.push Value.none))).update s.heap.objs.size (Obj.mapSeq (·.pop))).objs.size := by
    rw [(Heap.SameBut.update ..).1, (Heap.SameBut.update ..).1, ← hg, Heap.size_push]
    exact Nat.le_succ _
  refine wpAny_pure ⟨plainId_quiet F.plain_extend_loop _, loop (A := A) hh D nS hTOl hn (b0 := s.heap.objs.size) _ _ 0 _ #[] _ rfl (Nat.zero_le _) ⟨oth _ _ hTI, h1.at fun o e => oth _ o e, h2.at fun o e => oth _ o e, hl1.at fun o e => oth _ o e, hl2.at fun o e => oth _ o e, .inl ⟨oth _ _ hz, a, b, oth _ _ hTO⟩⟩ sz e2 ⟨rfl, List.nodup_nil, fun j v hj => by simp at hj⟩ fun h' acc c hk hS hacc => ?_⟩
  show wpAny _ A (load s.heap.objs.size >>= _) _ _ _
  refine wpAny_bind (wpAny_load hS (wpAny_pure (hQ h' s.heap.objs.size acc (Nat.le_refl _) (fun b o c1 c2 c3 c4 e => hk b o c1 c2 c3 c4 (Ne.symm (fr e)) (oth b o e)) hacc)))
theorem tuple_of_zip (hh : A.handled = none) (D : ZipApart z TI TO i1 i2 l1 l2) (hn : min xs.size ys.size ≤ sizeLine) (hz : IsZip s.heap z TI TO .none) (hTI : IsPair s.heap TI (.ref i1) (.ref i2)) {a b : Value} (hTO : IsPair s.heap TO a b)
    (h1 : s.heap.IsListIter i1 l1 0) (h2 : s.heap.IsListIter i2 l2 0) (hl1 : s.heap.IsList l1 xs) (hl2 : s.heap.IsList l2 ys) {Q : Value → Shared → Prop}
    (hQ : ∀ (h' : Heap) (S : Addr) (acc : Array Value), s.heap.objs.size ≤ S → (∀ b o, b ≠ z → b ≠ TO → b ≠ i1 → b ≠ i2 → s.heap.get? b = some o → h'.get? b = some o) → ZAcc z TO i1 i2 S xs ys s.heap.objs.size acc (min xs.size ys.size) h' → Q (.ref h'.objs.size) { s with heap := h'.push { cls := .type "tuple", data := .seq acc } }) :
    wpAny (model prog w) A (call (.type "tuple") [.ref z]) Q E s := by
  have made : ∀ {A : Around} (hh : A.handled = none) {Q₁ : Value → Shared → Prop} (h : ∀ (h' : Heap) (S : Addr) (acc : Array Value), s.heap.objs.size ≤ S → (∀ b o, b ≠ z → b ≠ TO → b ≠ i1 → b ≠ i2 → s.heap.get? b = some o → h'.get? b = some o) → ZAcc z TO i1 i2 S xs ys s.heap.objs.size acc (min xs.size ys.size) h' → Q₁ (.ref h'.objs.size) { s with heap := h'.push { cls := .type "tuple", data := .seq acc } }),
      codeAny (model prog w) A (.call (.builtin "tuple.__new__") ⟨[.type "tuple", .ref z], []⟩) (wants Q₁ E) s := by
    intro A hh Q₁ h
    refine codeAny_of_tree ?_
    show wpAny _ A.in1 (do checkBuiltinCall "tuple.__new__" ⟨[.type "tuple", .ref z], []⟩; again (.builtin "tuple.__new__" ⟨[.type "tuple", .ref z], []⟩)) _ _ s
    refine wpAny_bind (wpAny_of_eq (F.newCall_tuple_1 _) (wpAny_pure ⟨plainId_quiet F.plain_tuple_new _, codeAny_builtin F.entry_tuple_new ?_⟩))
    rw [Around.under_plainId F.plain_tuple_new _]
    have f1 := sub_tuple_self
    have f2 := init_tuple_lookup
    have f3 := madeHere_tuple
    have f4 : s.TypeIs (.ref z) "zip" := ⟨_, hz, rfl⟩
    have f5 : A.in1.handled = none := hh
    wp_walk using wpAny_typeOf f4, gathered (A := A.in1) f5 D hn hz hTI hTO h1 h2 hl1 hl2
    intro h' S acc hS hk hacc
    show wpAny _ _ (Builtin.Tuple.tupleExact acc.toList.toArray >>= fun v => ret v) _ _ _
    unfold Builtin.Tuple.tupleExact
    refine wpAny_bind (wpAny_newObj_type ?_ (by show acc.toList.toArray.size ≤ sizeLine; simp only [Array.toArray_toList]; rw [hacc.1]; exact hn))
    refine wpAny_pure ?_
    have e : acc.toList.toArray = acc := by simp
    rw [e]
    exact h h' S acc hS hk hacc
  refine callType_codes (Q₁ := fun obj s₁ => s₁.TypeIs obj "tuple" ∧ Q obj s₁) F.called_tuple (F.typeCall_tuple_1 _) F.entry_object_init
    (made (A := A.in1) hh fun h' S acc hS hk hacc => ⟨⟨_, Heap.get?_push_size _ rfl, rfl⟩, hQ h' S acc hS hk hacc⟩) fun obj s₁ h₁ => ?_
  exact ⟨h₁.1, F.args_object_init_2 obj _, object_init_meets F.called_tuple.init.lookup F.called_tuple.made (by decide) prog w A.in1 _ s₁ ⟨h₁.1, rfl, h₁.2⟩⟩
end
end
end TfZip
namespace Tf
open PySem PySem.Spec PyProof.Rows L2 TfZip
/-- pairs laid one after the other -/
inductive Made : Hp → List (V × V) → List Addr → Hp → Prop
  | nil {H : Hp} : Made H [] [] H
  | cons {H H2 : Hp} {p : Addr} {x y : V} {r : List (V × V)} {ps : List Addr} : H p = none → Made (upd H p (.tup [x, y])) r ps H2 → Made H ((x, y) :: r) (p :: ps) H2
theorem made_of {P : Program} {w : World} {fs : List Addr} {h h' : Heap} : ∀ {Ts : List Addr} {ps : List (V × V)} {H : Hp}, Paired (fun (T : Addr) (p : V × V) => ∃ u v, RelV p.1 u ∧ RelV p.2 v ∧ IsPair h' T u v) Ts ps → Ts.Nodup → (∀ T ∈ Ts, H T = none ∧ h.get? T = none) → HOk P w H h' →
    ∃ H2, Made H ps Ts H2 ∧ Un fs [] H H2 h h ∧ HOk P w H2 h'
  | _, _, H, .nil, _, _, ok => ⟨H, .nil, Un.refl, ok⟩
  | T :: Ts, p :: ps, H, .cons e r, nd, fr, ok => by
    obtain ⟨u, v, r1, r2, hp⟩ := e
    obtain ⟨f1, f2⟩ := fr T List.mem_cons_self
    have new : ObjOk P w (upd H T (.tup [p.1, p.2])) h' T (.tup [p.1, p.2]) := ⟨by show 2 ≤ sizeLine; decide, [u, v], .cons r1 (.cons r2 .nil), ⟨_, hp, rfl, _, rfl⟩⟩
    obtain ⟨H2, m, un, ok2⟩ := made_of (fs := fs) r (List.nodup_cons.mp nd).2 (fun T' hT' => ⟨by rw [upd_ne (fun q : T' = T => (List.nodup_cons.mp nd).1 (by rw [← q]; exact hT'))]; exact (fr T' (List.mem_cons_of_mem _ hT')).1, (fr T' (List.mem_cons_of_mem _ hT')).2⟩) (HOk.laidN ok (fun _ _ e => e) f1 new)
    exact ⟨H2, .cons f1 m, (Un.laidN (fun _ _ e => e) f2 f1).trans un, ok2⟩
theorem refs_of {h : Heap} {Z : Addr → Prop} : ∀ {l : List Value} {xs ys : List V} {us ws : List Value}, Vals xs us → Vals ys ws → l.length = min us.length ws.length →
    (∀ (j : Nat) (v : Value), l[j]? = some v → ∃ (T : Addr) (x y : Value), v = .ref T ∧ us[j]? = some x ∧ ws[j]? = some y ∧ IsPair h T x y ∧ Z T) →
    ∃ Ts : List Addr, l = Ts.map Value.ref ∧ Paired (fun (T : Addr) (p : V × V) => ∃ u v, RelV p.1 u ∧ RelV p.2 v ∧ IsPair h T u v) Ts (xs.zip ys) ∧ ∀ T ∈ Ts, Z T
  | [], xs, ys, us, ws, a, b, e, _ => by
    refine ⟨[], rfl, ?_, fun _ z => nomatch z⟩
    have h1 := a.length
    have h2 := b.length
    have : (xs.zip ys).length = 0 := by rw [List.length_zip]; simp at e; omega
    rw [List.length_eq_zero_iff.mp this]
    exact .nil
  | v :: l, _, _, _, _, .nil, b, e, _ => by simp at e
  | v :: l, _, _, _, _, .cons _ _, .nil, e, _ => by simp at e
  | v :: l, _, _, _, _, .cons a as, .cons b bs, e, hl => by
    obtain ⟨Ts, e1, e2, e3⟩ := refs_of (Z := Z) (h := h) (l := l) as bs (by simp at e; omega) fun j v hj => by
      have := hl (j + 1) v (by simpa using hj)
      simpa using this
    obtain ⟨T, x, y, f1, f2, f3, f4, f5⟩ := hl 0 v (by simp)
    simp at f2 f3
    subst f1 f2 f3
    exact ⟨T :: Ts, by rw [e1]; rfl, .cons ⟨_, _, a, b, f4⟩ e2, fun T' z => by rcases List.mem_cons.mp z with z | z; exact z ▸ f5; exact e3 T' z⟩
def tTupZip (K : PySem.W.Frag) (ta : TA) : TE := fun σ H Q => ta σ H fun xs H1 => ∃ a b ys zs, xs = [.ref a, .ref b] ∧ SqL K H1 a ys ∧ SqL K H1 b zs ∧
  ∀ (Ts : List Addr) (H2 : Hp), Made H1 (ys.zip zs) Ts H2 → ∀ l, H2 l = none → Q (.ref l) (upd H2 l (.tup (Ts.map .ref)))
theorem pe_tupZip {X : Cx} {e e2 : Expr} {ta : TA} {p p2 pos pos2 : Pos} (hc : X.calm = true) (hgt : Gl X "tuple") (hmt : X.mg "tuple" = none) (hg : Gl X "zip") (hm : X.mg "zip" = none) (ha : PA X [e, e2] ta)
    (hs : starEach [e, e2] X.env = (false, eval e X.env) :: starEach [e2] X.env) (hpl : (backTo pos2 (starEach [e2] X.env)).any (·.1) = false) :
    PE X (.Call (.Name "tuple" p) [.Call (.Name "zip" p2) [e, e2] [] pos2] [] pos) (tTupZip X.K ta) := by
  refine ⟨fun pins s σ H Q I h => ?_⟩
  refine Call_ (ld_blt I hgt hmt PyProof.Rows.boot_tuple (PyProof.Rows.callWith_type1 ?_))
  show wpAny _ _ (spliced ((false, eval (.Call (.Name "zip" p2) [e, e2] [] pos2) X.env) :: backTo pos (starEach [] X.env))) _ _ s
  refine Calls.spliced_cons (Call_ (ld_blt I hg hm PyProof.Rows.boot_zip (PyProof.Rows.callWith_type1 (thn (ha.run pos2 pins s σ H _ I h) fun us s1 ⟨vs, H1, I1, r1, q1⟩ => ?_) hs hpl)))
  obtain ⟨a, b, xs, ys, ex, hqx, hqy, q⟩ := q1
  subst ex
  cases r1 with
  | cons r rr =>
  cases rr with
  | cons r' rr =>
  cases rr
  cases r
  cases r'
  obtain ⟨its, rv, p1, z1⟩ := I1.list hqx
  obtain ⟨its2, rv2, p3, z2⟩ := I1.list hqy
  refine call_zip_2 p1.isList p3.isList fun h' hz hTI hTO h1 h2 hsz hk => Calls.spliced_nil ?_
  refine tuple_of_zip (s := { s1 with heap := h' }) (I1.ok.hd hc) (PySem.W.ktu_apart s1.heap.objs.size a b p1.lt p3.lt) (by have := rv.length; simp; omega) hz hTI hTO h1 h2 (p1.isList.at fun o e => hk _ o e) (p3.isList.at fun o e => hk _ o e) fun h2' S acc hS hk2 hacc => ?_
  have kp : ∀ c o, s1.heap.get? c = some o → h2'.get? c = some o := fun c o e => by
    have lt : c < s1.heap.objs.size := Heap.lt_size e
    exact hk2 c o (Nat.ne_of_lt (Nat.lt_of_lt_of_le lt (Nat.le_add_right _ _))) (Nat.ne_of_lt (Nat.lt_of_lt_of_le lt (Nat.le_add_right _ _))) (Nat.ne_of_lt lt) (Nat.ne_of_lt (Nat.lt_of_lt_of_le lt (Nat.le_add_right _ _))) (hk c o e)
  obtain ⟨Ts, e1, e2, e3⟩ := refs_of (Z := fun T => s1.heap.objs.size ≤ T) (h := h2') (l := acc.toList) rv rv2 (by have := hacc.1; simpa using this) fun j v hj => by
    obtain ⟨T, x, y, f1, f2, f3, f4, f5, _⟩ := hacc.2.2 j v (by simpa using hj)
    refine ⟨T, x, y, f1, by simpa using f2, by simpa using f3, f4, ?_⟩
    have f5' : h'.objs.size ≤ T := f5
    rw [hsz] at f5'
    exact Nat.le_trans (Nat.le_add_right _ _) f5'
  have nd : Ts.Nodup := by
    have := hacc.2.1
    rw [e1] at this
    exact List.Pairwise.imp (fun h q => h (by rw [q])) (List.pairwise_map.mp this)
  have I2 : Inv X pins σ H1 { s1 with heap := h2' } := I1.kept (t' := s1.toks) kp
  obtain ⟨H2, m, un, ok2⟩ := made_of (P := X.prog) (w := X.w) (fs := X.fs) (h := s1.heap) e2 nd (fun T hT => ⟨I1.hok.fresh (e3 T hT), (by cases q : s1.heap.get? T with | none => rfl | some o => exact absurd (Heap.lt_size q) (Nat.not_lt.mpr (e3 T hT)))⟩) I2.hok
  have I3 : Inv X pins σ H2 { s1 with heap := h2' } := I1.un (t' := s1.toks) (un.trans (Un.kept kp)) ok2
  have lenT : Ts.length = acc.size := by rw [← Array.length_toList, e1, List.length_map]
  have new : ObjOk X.prog X.w (upd H2 h2'.objs.size (.tup (Ts.map .ref))) (h2'.push { cls := .type "tuple", data := .seq acc }) h2'.objs.size (.tup (Ts.map .ref)) := by
    refine ⟨by rw [List.length_map, lenT, hacc.1]; have := rv.length; simp; omega, Ts.map Value.ref, ?_, ⟨_, Heap.get?_push_size _ rfl, rfl, _, by rw [← e1]⟩⟩
    clear nd e1 e2 e3 lenT m un ok2
    induction Ts with
    | nil => exact .nil
    | cons T Ts ih => exact .cons rfl ih
  exact ⟨.ref h2'.objs.size, _, I3.laid (t' := s1.toks) (fun c o e => Heap.get?_push_of_some _ e) (Nat.le_refl _) new, rfl, q Ts H2 m _ (I3.hok.fresh (Nat.le_refl _))⟩
end Tf

set_option Elab.async false
set_option linter.all false
set_option maxRecDepth 100000
set_option maxHeartbeats 4000000
/-! Tf, part Y: tuple(zip()), x[::-1], isinstance, {..}[k]. -/
namespace TfRev
open PySem PySem.Spec PyProof.Rows HT
section
variable {prog : Program} {w : World} {A : Around} {E : Value → Shared → Prop} {s : Shared}
theorem applied {sl : Addr} {vl vu vs : Value} {n : Nat} {Q : Int × Int × Nat → Shared → Prop} (hs : s.heap.IsSliceOf sl vl vu vs) (pl : IsPart vl none) (pu : IsPart vu none) (ps : IsPart vs (some (-1)))
    (h : Q ((n : Int) - 1, -1, n) s) : wpAny (model prog w) A (Builtin.Slice.sliceApplied (.ref sl) (pure (n : Int))) Q E s := by
  obtain ⟨os, hos, hcs, hds⟩ := id hs
  unfold Builtin.Slice.sliceApplied Builtin.Slice.sliceFields
  refine wpAny_bind (wpAny_bind (wpAny_field hos hds (x := vl) rfl (wpAny_bind (wpAny_field hos hds (x := vu) rfl (wpAny_bind (wpAny_field hos hds (x := vs) rfl (wpAny_pure ?_)))))))
  refine wpAny_bind (slicePart_ ps ?_)
  show wpAny _ _ (if ((-1 : Int) == 0) = true then _ else _) _ _ s
  rw [if_neg (by decide)]
  refine wpAny_bind (slicePart_ pl (wpAny_bind (slicePart_ pu (wpAny_bind (wpAny_pure ?_)))))
  have e1 : Builtin.Slice.sliceAdjust none none (-1) (n : Int) = ((n : Int) - 1, -1) := rfl
  have e2 : Builtin.Slice.slicePlaces ((n : Int) - 1) (-1) (-1) = n := by
    unfold Builtin.Slice.slicePlaces
    rw [if_neg (by decide)]
    have e3 : (-(-1 : Int)) = 1 := by decide
    rw [e3, Int.ediv_one]
    split <;> omega
  show wpAny _ _ (match Builtin.Slice.sliceAdjust none none (-1) (n : Int) with | (lo, hi) => pure (lo, (-1 : Int), Builtin.Slice.slicePlaces lo hi (-1))) _ _ s
  rw [e1]
  show wpAny _ _ (pure ((n : Int) - 1, (-1 : Int), Builtin.Slice.slicePlaces ((n : Int) - 1) (-1) (-1))) _ _ s
  rw [e2]
  exact wpAny_pure h
theorem picked (xs : Array Value) : ((List.range xs.size).filterMap fun (k : Nat) => xs[((xs.size : Int) - 1 + (k : Int) * -1).toNat]?).toArray = xs.toList.reverse.toArray := by
  congr 1
  have h1 : (List.range xs.size).filterMap (fun (k : Nat) => xs[((xs.size : Int) - 1 + (k : Int) * -1).toNat]?) = ((List.range xs.size).map fun k => xs.size - 1 - k).filterMap fun i => xs[i]? := by
    have e0 : ∀ F : Nat → Option Value, (List.range xs.size).filterMap F = ((List.range xs.size).map F).filterMap id := fun F => by rw [List.filterMap_map]; rfl
    rw [List.filterMap_map, e0, e0]
    congr 1
    refine List.map_congr_left fun k hk => ?_
    have := List.mem_range.mp hk
    have e : ((xs.size : Int) - 1 + (k : Int) * -1).toNat = xs.size - 1 - k := by omega
    show xs[((xs.size : Int) - 1 + (k : Int) * -1).toNat]? = xs[xs.size - 1 - k]?
    rw [e]
  rw [h1, PySem.W.krv_range, List.filterMap_reverse, PySem.W.krv_all]
theorem getItem_rev {t sl : Addr} {items : Array Value} {vl vu vs : Value} {Q : Value → Shared → Prop} (ht : IsTup s.heap t items) (hs : s.heap.IsSliceOf sl vl vu vs) (pl : IsPart vl none) (pu : IsPart vu none) (ps : IsPart vs (some (-1)))
    (h : Q (.ref s.heap.objs.size) { s with heap := s.heap.push { cls := .type "tuple", data := .seq items.toList.reverse.toArray } }) (hsz : items.size ≤ sizeLine) : wpAny (model prog w) A (getItem (.ref t) (.ref sl)) Q E s := by
  have fits : sizeOk (.seq items.toList.reverse.toArray) := by
    show items.toList.reverse.toArray.size ≤ sizeLine
    rw [List.size_toArray, List.length_reverse, Array.length_toList]
    exact hsz
  obtain ⟨os, hos, hcs, hds⟩ := id hs
  have hTs : s.TypeIs (.ref sl) "slice" := ⟨os, hos, hcs⟩
  unfold getItem
  try with_reducible refine wpAny_holding ?_
  first | refine wpAny_bind (wpAny_pure ?_) | skip
  refine wpAny_bind (wpAny_sequenceKey ht.typeIs (by decide) (wpAny_bind (wpAny_callSpecial?_slot (name := Str.ofString "__getitem__") ht.typeIs PyProof.Rows.slot_tuple_getitem
    (wpAny_call_entry PyProof.Rows.slot_tuple_getitem ht.typeIs entry_tuple_getitem ?_ (args_tuple_getitem _ _)))))
  refine (show wpAny _ _ (Builtin.Tuple.tupleItemsOf (.ref t) >>= _) _ _ s from wpAny_bind (tupleItemsOf_ ht (wpAny_bind (wpAny_typeOf hTs ?_))))
  rw [if_pos (by decide)]
  refine wpAny_bind (applied hs pl pu ps ?_)
  have no : ¬ ((((items.size : Int) - 1) == 0 && (-1 : Int) == 1 && items.size == items.size) = true) := by
    intro q
    rw [Bool.and_eq_true, Bool.and_eq_true] at q
    exact absurd q.1.2 (by decide)
  show wpAny _ _ (if (((items.size : Int) - 1) == 0 && (-1 : Int) == 1 && items.size == items.size) = true then _ else _) _ _ s
  rw [if_neg no, picked]
  first
    | exact wpAny_bind (m := Builtin.Tuple.tupleExact _) (wpAny_newObj_type (wpAny_pure ⟨_, rfl, wpAny_pure h⟩) fits)
    | exact wpAny_bind (m := Builtin.Tuple.tupleExact _) (wpAny_newObj_type (wpAny_bind (wpAny_pure (wpAny_pure ⟨_, rfl, wpAny_pure h⟩))) fits)
    | exact wpAny_bind (wpAny_bind (m := Builtin.Tuple.tupleExact _) (wpAny_newObj_type (wpAny_pure (wpAny_pure ⟨_, rfl, wpAny_pure h⟩)) fits))
    | exact wpAny_bind (wpAny_bind (m := Builtin.Tuple.tupleExact _) (wpAny_newObj_type (wpAny_pure ⟨_, rfl, wpAny_pure h⟩) fits))
end
end TfRev
namespace Tf
open PySem PySem.Spec PyProof.Rows L2
def tRev (K : PySem.W.Frag) (te : TE) : TE := fun σ H Q => te σ H fun x H1 => ∃ a xs, x = .ref a ∧ ((SqL K H1 a xs ∧ ∀ p, H1 p = none → Q (.ref p) (upd H1 p (.lst xs.reverse))) ∨ (SqT K H1 a xs ∧ ∀ p, H1 p = none → Q (.ref p) (upd H1 p (.tup xs.reverse))))
theorem pe_rev {X : Cx} {e : Expr} {te : TE} {k : Nat} {p1 p2 p3 pos : Pos} (he : PE X e te) : PE X (.Subscript e (.Slice none none (some (.UnaryOp .USub (.Constant (.int 1) k p1) p2)) p3) pos) (tRev X.K te) := by
  refine ⟨fun pins s σ H Q I h => ?_⟩
  refine Subscript_ (thn (he.run pins s σ H _ I h) fun v s1 ⟨x, H1, I1, r1, a, xs, ex, q⟩ => ?_)
  subst ex
  cases r1
  have hst : PO X (some (.UnaryOp .USub (.Constant (.int 1) k p1) p2)) (tPart (tUn (rU fun i => .int (-i)) (tC (.int 1)))) := po_some (pe_un un_neg pe_int)
  refine wpAny_Slice (thn (po_none.run pins s1 σ H1 (fun o H2 => o = none ∧ H2 = H1) I1 ⟨rfl, rfl⟩) fun vl s2 ⟨l, H2, I2, pl, el, e2⟩ => ?_)
  subst el e2
  refine thn (po_none.run pins s2 σ H2 (fun o H3 => o = none ∧ H3 = H2) I2 ⟨rfl, rfl⟩) fun vu s3 ⟨u, H3, I3, pu, eu, e3⟩ => ?_
  subst eu e3
  refine thn (hst.run pins s3 σ H3 (fun o H4 => o = some (-1) ∧ H4 = H3) I3 ⟨1, rfl, -1, rfl, rfl, rfl⟩) fun vs s4 ⟨o, H4, I4, ps, eo, e4⟩ => ?_
  subst eo e4
  have I5 : Inv X pins σ H4 { s4 with heap := s4.heap.push { cls := .type "slice", data := .fields #[vl, vu, vs] } } := I4.kept (t' := s4.toks) fun b ob q => Heap.get?_push_of_some _ q
  show wpAny (model X.prog X.w) X.A (subscriptTail e (.Slice none none (some (.UnaryOp .USub (.Constant (.int 1) k p1) p2)) p3) (.ref a) (.ref s4.heap.objs.size)) (EP X pins σ Q) X.xe { s4 with heap := s4.heap.push { cls := .type "slice", data := .fields #[vl, vu, vs] } }
  rcases q with ⟨hx, q⟩ | ⟨hx, q⟩
  · obtain ⟨its, r, ht, hz⟩ := I5.list hx
    have hlen := r.length
    refine tail_any (ops := [.ref a, .ref s4.heap.objs.size]) ht.isList.typeIs (PySem.slot_list_getitem.lookup) (wpAny_getItem_list_slice ht.isList (Heap.IsSliceOf.new _ vl vu vs) pl pu ps (by decide) ?_ (by rw [List.size_toArray]; omega)) (by with_unfolding_all rfl)
    rw [PySem.W.krv_pick]
    refine ⟨.ref _, _, I5.laid (t' := s4.toks) (o := .lst xs.reverse) (fun b ob q => Heap.get?_push_of_some _ q) (Nat.le_refl _) ⟨by rw [List.length_reverse]; exact hz, _, 0, r.reverse, Heap.get?_push_size _ rfl⟩, rfl, q _ (I5.hok.fresh (Nat.le_refl _))⟩
  · obtain ⟨its, r, ht, hz⟩ := I5.tuple hx
    have hlen := r.length
    refine tail_any (ops := [.ref a, .ref s4.heap.objs.size]) ht.typeIs (PyProof.Rows.slot_tuple_getitem.lookup) (TfRev.getItem_rev ht (Heap.IsSliceOf.new _ vl vu vs) pl pu ps ?_ (by rw [List.size_toArray]; omega)) (by with_unfolding_all rfl)
    refine ⟨.ref _, _, I5.laid (t' := s4.toks) (o := .tup xs.reverse) (fun b ob q => Heap.get?_push_of_some _ q) (Nat.le_refl _) ⟨by rw [List.length_reverse]; exact hz, _, r.reverse, IsTup.new _ _⟩, rfl, q _ (I5.hok.fresh (Nat.le_refl _))⟩
section
variable {X : Cx} {mg : Str → Option Value} {W : WX} {K : PySem.W.Frag} {a b e : Expr} {es : List Expr} {p p2 p3 pos pos2 : Pos} {wa wb : WK D} {wl : WK (List D)}
theorem d_rev {k : Nat} {p1 : Pos} (ha : PE X a (tE X.K mg W wa)) : PE X (.Subscript a (.Slice none none (some (.UnaryOp .USub (.Constant (.int 1) k p1) p2)) p3) pos) (tE X.K mg W fun δ μ E Q => wa δ μ E fun x μ1 => match vw μ1 x with
    | .lst ds => Q (.lst ds.reverse) μ1
    | .tup ds => Q (.tup ds.reverse) μ1
    | _ => False) :=
  PE_imp (pe_rev ha) fun σ H Q h => by
    obtain ⟨δ, G, μ, Φ, E, R, hE, hR, hw, ha, hx⟩ := h
    refine ⟨δ, G, μ, Φ, E, _, hE, hR, hw, fun x μ1 G1 H1 v q1 s1 R1 p1 => ?_, hx⟩
    have vv := R1.look p1
    split at q1
    · rename_i ds e
      rw [e] at vv
      cases vv with | lst s q => exact ⟨_, _, rfl, .inl ⟨.inl (.inl s), (Aft.mono ha s1).lst R1 q1 q.reverse⟩⟩
    · rename_i ds e
      rw [e] at vv
      cases vv with | tup s q => exact ⟨_, _, rfl, .inr ⟨Same.sqT R1.sub s, (Aft.mono ha s1).tup R1 q1 (q.reverse.mono R1.sub) q.reverse⟩⟩
    · exact q1.elim
theorem made_rep {μ : Mu} {Φ : Hp} : ∀ {ds es : List D} {vs ws : List V} {G H H2 : Hp} {Ts : List Addr}, RepL K G ds vs → RepL K G es ws → Rel K G μ Φ H → Made H (vs.zip ws) Ts H2 →
    ∃ G2, Same G G2 ∧ Rel K G2 μ Φ H2 ∧ RepL K G2 (List.zipWith (fun p q => .tup [p, q]) ds es) (Ts.map .ref)
  | [], es, _, ws, G, H, _, _, .nil, b, R, m => by
    rw [List.zip_nil_left] at m
    cases m
    exact ⟨G, Same.refl G, R, .nil⟩
  | d :: ds, [], _, _, G, H, _, _, .cons _ _, .nil, R, m => by
    rw [List.zip_nil_right] at m
    cases m
    exact ⟨G, Same.refl G, R, .nil⟩
  | d :: ds, e :: es, _, _, G, H, H2, _, .cons a as, .cons b bs, R, m => by
    rw [List.zip_cons_cons] at m
    cases m with
    | cons f m =>
      obtain ⟨s1, R1⟩ := R.new f (.tup [_, _])
      obtain ⟨G2, s2, R2, q⟩ := made_rep (as.mono s1) (bs.mono s1) R1 m
      exact ⟨G2, s1.trans s2, R2, .cons (.tup (.inl (.inl (s2 _ _ upd_same))) (.cons ((a.mono s1).mono s2) (.cons ((b.mono s1).mono s2) .nil))) q⟩
theorem d_tupZip (hc : X.calm = true) (hgt : Gl X "tuple") (hmt : X.mg "tuple" = none) (hg : Gl X "zip") (hm : X.mg "zip" = none) (h1 : notStar a = true) (h2 : notStar b = true) (ha : PE X a (tE X.K mg W wa)) (hb : PE X b (tE X.K mg W wb)) :
    PE X (.Call (.Name "tuple" p) [.Call (.Name "zip" p2) [a, b] [] pos2] [] pos) (tE X.K mg W fun δ μ E Q => wa δ μ E fun x μ1 => wb δ μ1 E fun y μ2 => match vw μ2 x, vw μ2 y with
      | .lst xs, .lst ys => Q (.tup (List.zipWith (fun p q => .tup [p, q]) xs ys)) μ2
      | _, _ => False) :=
  PE_imp (pe_tupZip hc hgt hmt hg hm (pa_cons ha (pa_cons hb pa_nil (notStar_each h2)) (notStar_each h1)) (notStar_each h1) (by rw [notStar_each h2]; rfl)) fun σ H Q h => by
    obtain ⟨δ, G, μ, Φ, E, R, hE, hR, hw, ha, hx⟩ := h
    refine ⟨δ, G, μ, Φ, E, _, hE, hR, hw, fun x μ1 G1 H1 v q1 s1 R1 p1 => ?_, hx⟩
    refine ⟨δ, G1, μ1, Φ, E, _, hE.mono s1, R1, q1, fun y μ2 G2 H2 u q2 s2 R2 p2 => ?_, hx.mono s1⟩
    have v1 := R2.look (p1.mono s2)
    have v2 := R2.look p2
    split at q2
    · rename_i xs ys e1 e2
      rw [e1] at v1
      rw [e2] at v2
      cases v1 with
      | lst t1 r1 =>
        cases v2 with
        | lst t2 r2 =>
          refine ⟨_, _, _, _, rfl, .inl (.inl t1), .inl (.inl t2), fun Ts H3 m l hl => ?_⟩
          obtain ⟨G3, s3, R3, q⟩ := made_rep r1 r2 R2 m
          exact (Aft.mono ha (s1.trans (s2.trans s3))).tup R3 q2 (q.mono R3.sub) q l hl
    · exact q2.elim
/-- a type's name as its value -/
theorem pe_tyName {x : Str} {T : String} (hg : Gl X x) (hm : X.mg x = none) (hv : bootBuiltins x = some (.type T)) (hn : x ≠ "__name__") (hd : (x == ("__debug__" : Str)) = false) : PE X (.Name x p) (tC (.ty T)) := pe_bltn hg hm hv rfl hn hd
theorem isiN_boot {T : String} (h : T ∈ isiN) : bootBuiltins (Str.ofString T) = some (.type T) ∧ Str.ofString T ≠ "__name__" ∧ (Str.ofString T == ("__debug__" : Str)) = false := by
  simp [isiN] at h
  rcases h with rfl | rfl | rfl | rfl | rfl <;> decide +kernel
theorem isi_ok {G H : Hp} {T : String} (hT : T ∈ isiN) (e : Same G H) {d : D} {v : V} {k : Bool} (h : View K G H d v) (w : isiD T d = some k) : ∃ t, TyX K H v t ∧ PySem.W.kitOne K t (.type T) = some k := by
  have tup : ∀ {a : Addr} {vs : List V}, SqT K H a vs → TyX K H (.ref a) (.type "tuple") := fun h => by
    rcases h with (h | ⟨o, h⟩) | h
    · exact .base (.tup h)
    · exact .fTuple h
    · obtain ⟨o, its, n, h1, h2, _⟩ := h
      exact .kTuple h1 h2
  have lst : ∀ {a : Addr} {vs : List V}, SqL K H a vs → TyX K H (.ref a) (.type "list") := fun h => by
    rcases h with (h | ⟨o, h⟩) | h
    · exact .base (.lst h)
    · exact .base (.frz h)
    · obtain ⟨o, its, n, h1, h2, _⟩ := h
      exact .kList h1 h2
  have fin : ∀ {a : String}, TyX K H v (.type a) → kitB a T = some k → ∃ t, TyX K H v t ∧ PySem.W.kitOne K t (.type T) = some k := fun t q => ⟨_, t, kit_ty q⟩
  simp [isiN] at hT
  cases h with
  | ref => cases w
  | fn => cases w
  | non => refine fin (.base .non) ?_; rw [← w]; simp only [isiD]; rcases hT with rfl | rfl | rfl | rfl | rfl <;> decide +kernel
  | bl b => refine fin (.base (.bl b)) ?_; rw [← w]; simp only [isiD]; rcases hT with rfl | rfl | rfl | rfl | rfl <;> decide +kernel
  | int b => refine fin (.base (.int b)) ?_; rw [← w]; simp only [isiD]; rcases hT with rfl | rfl | rfl | rfl | rfl <;> decide +kernel
  | str b => refine fin (.base (.str b)) ?_; rw [← w]; simp only [isiD]; rcases hT with rfl | rfl | rfl | rfl | rfl <;> decide +kernel
  | tup s r => refine fin (tup (Same.sqT e s)) ?_; rw [← w]; simp only [isiD]; rcases hT with rfl | rfl | rfl | rfl | rfl <;> decide +kernel
  | lst s r => refine fin (.base (.lst s)) ?_; rw [← w]; simp only [isiD]; rcases hT with rfl | rfl | rfl | rfl | rfl <;> decide +kernel
  | lsf s r => refine fin (lst (e.seq s)) ?_; rw [← w]; simp only [isiD]; rcases hT with rfl | rfl | rfl | rfl | rfl <;> decide +kernel
  | dct s r => refine fin (.base (.dK (e _ _ s))) ?_; rw [← w]; simp only [isiD]; rcases hT with rfl | rfl | rfl | rfl | rfl <;> decide +kernel
theorem d_isi {x : Str} {T : String} (hT : T ∈ isiN) (hx : x = Str.ofString T) (hg : Gl X "isinstance") (hm : X.mg "isinstance" = none) (hgt : Gl X x) (hmt : X.mg x = none) (h1 : notStar a = true) (ha : PE X a (tE X.K mg W wa)) :
    PE X (.Call (.Name "isinstance" p) [a, .Name x p2] [] pos) (tE X.K mg W fun δ μ E Q => wa δ μ E fun x μ1 => match isiD T (vw μ1 x) with | some k => Q (.bl k) μ1 | none => False) := by
  subst hx
  obtain ⟨b1, b2, b3⟩ := isiN_boot hT
  refine PE_imp (pe_callB call_isi hg hm (by decide +kernel) (pa_cons ha (pa_cons (pe_tyName hgt hmt b1 b2 b3) pa_nil (notStar_each rfl)) (notStar_each h1)) (by decide) (by decide) (notStar_each h1) (by rfl)) fun σ H Q h => ?_
  obtain ⟨δ, G, μ, Φ, E, R, hE, hR, hw, ha, hx⟩ := h
  refine ⟨δ, G, μ, Φ, E, _, hE, hR, hw, fun x μ1 G1 H1 v q1 s1 R1 p1 => ?_, hx⟩
  split at q1
  · rename_i k e
    obtain ⟨t, t1, t2⟩ := isi_ok hT R1.sub (R1.look p1) e
    exact ⟨v, .ty T, t, .type T, k, rfl, .ty T, t1, t2, ha _ μ1 G1 H1 _ q1 s1 R1 (.bl _)⟩
  · exact q1.elim

/-! ### {..}[k] -/
theorem cv_ok {d : D} {e : Expr} (h : cvB d e = true) : ∃ v t, PE X e t ∧ (∀ σ H (Q : VK), Q v H → t σ H Q) ∧ ∀ G, Rep K G d v := by
  unfold cvB at h
  split at h
  · cases of_decide_eq_true h
    exact ⟨_, _, pe_un un_neg pe_int, fun σ H Q q => ⟨_, rfl, q⟩, fun _ => .int _⟩
  · unfold cstB at h
    split at h
    · exact ⟨_, _, pe_non, fun _ _ _ q => q, fun _ => .non⟩
    · cases of_decide_eq_true h; exact ⟨_, _, pe_bl, fun _ _ _ q => q, fun _ => .bl _⟩
    · cases of_decide_eq_true h; exact ⟨_, _, pe_int, fun _ _ _ q => q, fun _ => .int _⟩
    · cases of_decide_eq_true h; exact ⟨_, _, pe_str, fun _ _ _ q => q, fun _ => .str _⟩
    · cases h
  · cases h
theorem dk_ok : ∀ {xs : List Str} {ds : List D} {ks : List (Option Expr)} {es : List Expr}, dkB xs ds ks es = true → ∃ (vs : List V) (trs : List (TE × TE)), PPs X pos ks es trs ∧ (∀ σ H Q, Q ((xs.zip vs).map fun kv => (V.str kv.1, kv.2)) H → tPairs trs σ H Q) ∧
    ks.all (·.isSome) = true ∧ ks.length = es.length ∧ ks.length = xs.length ∧ xs.length = vs.length ∧ ∀ G, RepL K G ds vs
  | [], ds, ks, es, h => by
    cases ds <;> cases ks <;> cases es <;> first | exact ⟨[], [], pps_nil, fun _ _ _ q => q, rfl, rfl, rfl, rfl, fun _ => .nil⟩ | (simp [dkB] at h)
  | x :: xs, ds, ks, es, h => by
    cases ds with
    | nil => simp [dkB] at h
    | cons d ds =>
      cases ks with
      | nil => simp [dkB] at h
      | cons k ks =>
        cases es with
        | nil => simp [dkB] at h
        | cons e es =>
          unfold dkB at h
          split at h
          · contradiction
          · rename_i e1 e2 e3 e4
            cases e1
            cases e2
            cases e3
            cases e4
            simp only [Bool.and_eq_true, decide_eq_true_eq] at h
            obtain ⟨⟨rfl, h2⟩, h3⟩ := h
            obtain ⟨v, t, p1, p2, p3⟩ := cv_ok (X := X) (K := K) h2
            obtain ⟨vs, trs, q1, q2, q3, q4, q5, q6, q7⟩ := dk_ok h3
            exact ⟨v :: vs, _, pps_cons pe_str p1 q1, fun σ H Q q => p2 σ H _ (q2 σ H _ q), by simpa using q3, by simp [q4], by simp [q5], by simp [q6], fun G => .cons (p3 G) (q7 G)⟩
          · cases h
theorem merge_new {kvs acc : List (Key × V)} (h : ((acc ++ kvs).map (·.1)).Nodup) : mergeK acc kvs = acc ++ kvs := by
  induction kvs generalizing acc with
  | nil => simp [mergeK]
  | cons kv kvs ih =>
    have e : putK acc kv.1 kv.2 = acc ++ [kv] := by
      refine putK_new kv.2 ?_
      cases q : valV acc kv.1 with
      | none => rfl
      | some v =>
        have := valV_any kv.1 acc
        rw [q] at this
        obtain ⟨z, hz, e⟩ := List.any_eq_true.mp this
        rw [List.map_append] at h
        refine absurd rfl ((List.nodup_append.mp h).2.2 z.1 (List.mem_map_of_mem hz) kv.1 (by simp) |> fun n => by rw [of_decide_eq_true e] at n; exact n)
    show mergeK (putK acc kv.1 kv.2) kvs = _
    rw [e, ih (by simpa using h)]
    simp
theorem val_look {G : Hp} : ∀ {xs : List Str} {ds : List D} {vs : List V} {k : Str} {d : D}, RepL K G ds vs → (xs.zip ds).lookup k = some d → ∃ v, valV ((xs.zip vs).map fun kv => ((Sum.inr kv.1 : Key), kv.2)) (.inr k) = some v ∧ Rep K G d v
  | [], _, _, _, _, _, h => by simp at h
  | x :: xs, [], _, _, _, .nil, h => by simp at h
  | x :: xs, d :: ds, _, k, dd, .cons (v := v) a as, h => by
    rw [List.zip_cons_cons, List.lookup_cons] at h
    by_cases e : k = x
    · subst e
      simp at h
      subst h
      exact ⟨v, valV_pos rfl, a⟩
    · rw [show (k == x) = false from by simpa using e] at h
      obtain ⟨v', h1, h2⟩ := val_look as h
      refine ⟨v', ?_, h2⟩
      rw [List.zip_cons_cons, List.map_cons, valV_neg (fun q : (Sum.inr x : Key) = .inr k => e (Sum.inr.inj q).symm)]
      exact h1
theorem d_dix {ks : List Str} {vs : List D} {keys : List (Option Expr)} {vals : List Expr} (hu : X.A.units + 1 < cLine) (hk : dkB ks vs keys vals = true) (nd : ks.Nodup) (h0 : ks ≠ []) (h15 : ks.length ≤ 15) (hs : notSlice a = true) (ha : PE X a (tE X.K mg W wa)) :
    PE X (.Subscript (.Dict keys vals p) a pos) (tE X.K mg W fun δ μ E Q => wa δ μ E fun x μ1 => match x with
      | .str k => match (ks.zip vs).lookup k with | some d => Q d μ1 | none => False
      | _ => False) := by
  obtain ⟨us, trs, q1, q2, q3, q4, q5, q6, q7⟩ := dk_ok (X := X) (K := X.K) (pos := p) hk
  refine PE_imp (pe_dget hu (pe_disp q1 q3 q4 (fun z => h0 (by rw [z] at q5; exact List.length_eq_zero_iff.mp q5.symm)) (by rw [q5]; exact h15)) ha (notSlice_ix hs)) fun σ H Q h => ?_
  obtain ⟨δ, G, μ, Φ, E, R, hE, hR, hw, ha, hx⟩ := h
  intro pp hpp
  refine q2 σ _ _ ⟨upd_same, (ks.zip us).map fun kv => ((Sum.inr kv.1 : Key), kv.2), by simp [kV], by rw [List.length_map, List.length_zip]; omega, ?_⟩
  have em : mergeK [] ((ks.zip us).map fun kv => ((Sum.inr kv.1 : Key), kv.2)) = (ks.zip us).map fun kv => ((Sum.inr kv.1 : Key), kv.2) := merge_new (by
    rw [List.nil_append, List.map_map]
    have : ((ks.zip us).map ((fun kv : Key × V => kv.1) ∘ fun kv : Str × V => ((Sum.inr kv.1 : Key), kv.2))) = ks.map Sum.inr := by
      rw [show ((fun kv : Key × V => kv.1) ∘ fun kv : Str × V => ((Sum.inr kv.1 : Key), kv.2)) = Sum.inr ∘ Prod.fst from rfl, ← List.map_map, List.map_fst_zip (by omega)]
    rw [this]
    exact List.pairwise_map.mpr (List.Pairwise.imp (fun n q => n (Sum.inr.inj q)) nd))
  rw [em]
  obtain ⟨s0, R0⟩ := hR.new hpp (.dK ((ks.zip us).map fun kv => ((Sum.inr kv.1 : Key), kv.2)))
  rw [show upd (upd H pp (.dK [])) pp (.dK ((ks.zip us).map fun kv => ((Sum.inr kv.1 : Key), kv.2))) = upd H pp (.dK ((ks.zip us).map fun kv => ((Sum.inr kv.1 : Key), kv.2))) from by funext b; unfold upd; split <;> rfl]
  refine ⟨δ, _, μ, Φ, E, _, hE.mono s0, R0, hw, fun x μ1 G1 H1 v q1 s1 R1 p1 => ?_, hx.mono s0⟩
  split at q1
  · rename_i k
    split at q1
    · rename_i d e
      cases p1
      obtain ⟨v', v1, v2⟩ := val_look (q7 G1) e
      exact ⟨pp, v', rfl, .inl ⟨_, .inr k, .inl (R1.sub _ _ (s1 _ _ upd_same)), rfl, v1.symm⟩, ha _ μ1 G1 H1 _ q1 (s0.trans s1) R1 v2⟩
    · exact q1.elim
  · exact q1.elim
end
end Tf

set_option Elab.async false
set_option linter.all false
set_option maxRecDepth 100000
set_option maxHeartbeats 4000000
/-! Tf, part I: statements over data. -/
namespace Tf
open PySem PySem.Spec PyProof.Rows L2

structure EndsOk (K : PySem.W.Frag) (mg : Str → Option Value) (W : WX) (G Φ : Hp) (N : DEnds) (D : Ends) : Prop where
  nx : ∀ δ' μ' G' H' σ', N.nx δ' μ' → Same G G' → RelE K G' δ' σ' → Rel K G' μ' Φ H' → D.nx σ' H'
  rt : ∀ d μ' G' H' v, N.rt d μ' → Same G G' → Rel K G' μ' Φ H' → Rep K G' d v → D.rt v H'
  bk : ∀ δ' μ' G' H' σ', N.bk δ' μ' → Same G G' → RelE K G' δ' σ' → Rel K G' μ' Φ H' → D.bk σ' H'
  ct : ∀ δ' μ' G' H' σ', N.ct δ' μ' → Same G G' → RelE K G' δ' σ' → Rel K G' μ' Φ H' → D.ct σ' H'
  ex : ∀ σ', AftX K mg G Φ N.ex (fun c d H' => W c d σ' H')
theorem EndsOk.mono {K : PySem.W.Frag} {mg : Str → Option Value} {W : WX} {G G' Φ : Hp} {N : DEnds} {D : Ends} (h : EndsOk K mg W G Φ N D) (s : Same G G') : EndsOk K mg W G' Φ N D :=
  ⟨fun δ' μ' G2 H' σ' a b => h.nx δ' μ' G2 H' σ' a (s.trans b), fun d μ' G2 H' v a b => h.rt d μ' G2 H' v a (s.trans b), fun δ' μ' G2 H' σ' a b => h.bk δ' μ' G2 H' σ' a (s.trans b), fun δ' μ' G2 H' σ' a b => h.ct δ' μ' G2 H' σ' a (s.trans b), fun σ' => (h.ex σ').mono s⟩
abbrev WSt := DE → Mu → DEnds → Prop
def tS (K : PySem.W.Frag) (mg : Str → Option Value) (W : WX) (w : WSt) : TS := fun D σ H => ∃ δ G μ Φ N, RelE K G δ σ ∧ Rel K G μ Φ H ∧ w δ μ N ∧ EndsOk K mg W G Φ N D

section
variable {X : Cx} {c : Sc} {mg : Str → Option Value} {W : WX} {a b d e : Expr} {wa wb wd : WK D} {wc : WK Bool} {ws ws2 : WSt} {st : Stmt} {sts : List Stmt} {pos p p2 p3 : Pos} {x : Str}
theorem s_nil : PSs X [] (tS X.K mg W fun δ μ N => N.nx δ μ) := PSs_imp pss_nil fun D σ H h => by
  obtain ⟨δ, G, μ, Φ, N, hE, hR, hw, en⟩ := h
  exact en.nx δ μ G H σ hw (Same.refl G) hE hR
theorem s_cons (h1 : PS X st (tS X.K mg W ws)) (h2 : PSs X sts (tS X.K mg W ws2)) : PSs X (st :: sts) (tS X.K mg W fun δ μ N => ws δ μ { N with nx := fun δ1 μ1 => ws2 δ1 μ1 N }) := PSs_imp (pss_cons h1 h2) fun D σ H h => by
  obtain ⟨δ, G, μ, Φ, N, hE, hR, hw, en⟩ := h
  exact ⟨δ, G, μ, Φ, _, hE, hR, hw, ⟨fun δ' μ' G' H' σ' a s hE' hR' => ⟨δ', G', μ', Φ, N, hE', hR', a, en.mono s⟩, en.rt, en.bk, en.ct, en.ex⟩⟩
theorem s_pass : PS X (.Pass pos) (tS X.K mg W fun δ μ N => N.nx δ μ) := PS_imp ps_pass fun D σ H h => by
  obtain ⟨δ, G, μ, Φ, N, hE, hR, hw, en⟩ := h
  exact en.nx δ μ G H σ hw (Same.refl G) hE hR
theorem s_brk : PS X (.Break pos) (tS X.K mg W fun δ μ N => N.bk δ μ) := PS_imp ps_break fun D σ H h => by
  obtain ⟨δ, G, μ, Φ, N, hE, hR, hw, en⟩ := h
  exact en.bk δ μ G H σ hw (Same.refl G) hE hR
theorem s_cnt : PS X (.Continue pos) (tS X.K mg W fun δ μ N => N.ct δ μ) := PS_imp ps_continue fun D σ H h => by
  obtain ⟨δ, G, μ, Φ, N, hE, hR, hw, en⟩ := h
  exact en.ct δ μ G H σ hw (Same.refl G) hE hR
theorem s_never : PS X st (tS X.K mg W fun _ _ _ => False) := PS_imp ps_never fun D σ H h => by
  obtain ⟨δ, G, μ, Φ, N, hE, hR, hw, en⟩ := h
  exact hw.elim
theorem s_ret (ha : PE X a (tE X.K mg W wa)) : PS X (.Return (some a) pos) (tS X.K mg W fun δ μ N => wa δ μ N.ex fun x μ1 => N.rt x μ1) := PS_imp (ps_ret ha) fun D σ H h => by
  obtain ⟨δ, G, μ, Φ, N, hE, hR, hw, en⟩ := h
  exact ⟨δ, G, μ, Φ, _, _, hE, hR, hw, en.rt, en.ex σ⟩
theorem s_ret0 : PS X (.Return none pos) (tS X.K mg W fun _ μ N => N.rt .non μ) := PS_imp ps_retN fun D σ H h => by
  obtain ⟨δ, G, μ, Φ, N, hE, hR, hw, en⟩ := h
  exact en.rt .non μ G H .non hw (Same.refl G) hR .non
theorem s_exp (hn : notComp a = true) (ha : PE X a (tE X.K mg W wa)) : PS X (.Expr a pos) (tS X.K mg W fun δ μ N => wa δ μ N.ex fun _ μ1 => N.nx δ μ1) := PS_imp (ps_expr ha (notComp_swap hn _ _ _)) fun D σ H h => by
  obtain ⟨δ, G, μ, Φ, N, hE, hR, hw, en⟩ := h
  exact ⟨δ, G, μ, Φ, _, _, hE, hR, hw, fun x μ1 G1 H1 v q s R1 _ => en.nx δ μ1 G1 H1 σ q s (hE.mono s) R1, en.ex σ⟩
theorem s_ite {as bs : List Stmt} (hc : PT X d (tT X.K mg W wc)) (ha : PSs X as (tS X.K mg W ws)) (hb : PSs X bs (tS X.K mg W ws2)) : PS X (.If d as bs pos) (tS X.K mg W fun δ μ N => wc δ μ N.ex fun k μ1 => match k with | true => ws δ μ1 N | false => ws2 δ μ1 N) := PS_imp (ps_if hc ha hb) fun D σ H h => by
  obtain ⟨δ, G, μ, Φ, N, hE, hR, hw, en⟩ := h
  refine ⟨δ, G, μ, Φ, _, _, hE, hR, hw, fun k μ1 G1 H1 k' q s R1 p1 => ?_, en.ex σ⟩
  have p1' : k = k' := p1
  subst p1'
  cases k with
  | true => exact iteT ⟨δ, G1, μ1, Φ, N, hE.mono s, R1, q, en.mono s⟩
  | false => exact iteF ⟨δ, G1, μ1, Φ, N, hE.mono s, R1, q, en.mono s⟩
/-- name = e -/
theorem s_setN (ok : XOk c X W) {i : Nat} {px : Pos} (hl : locB c i x = true) (hn : swapsWith e (some (.Name x px)) pos.line X.env = pure false) (ha : PE X e (tE X.K mg W wa)) : PS X (.Assign [.Name x px] e pos) (tS X.K mg W fun δ μ N => wa δ μ N.ex fun d μ1 => N.nx (put δ i (some d)) μ1) := by
  obtain ⟨h1, h2, h3⟩ := locB_ok hl
  refine PS_imp (ps_set (i := i) (by rw [ok.hN]; exact ok.nd) (by rw [ok.hN]; exact h1) (by rw [ok.hs]; exact h2) ha hn (by
      rcases h3 with z | z
      · exact .inl (ok.fn x z)
      · exact .inr (by rw [ok.hs]; exact z))) fun D σ H h => ?_
  obtain ⟨δ, G, μ, Φ, N, hE, hR, hw, en⟩ := h
  exact ⟨δ, G, μ, Φ, _, _, hE, hR, hw, fun d μ1 G1 H1 v q s R1 p1 => en.nx _ μ1 G1 H1 _ q s ((hE.mono s).put p1) R1, en.ex σ⟩
/-- name = [..] -/
theorem s_setLc (ok : XOk c X W) {m : Bool} {t : IT} {own : List (Str × Nat)} {wi : WI} {we : WK D} {tg iter : Expr} {ifs : List Expr} {scope : Scope} {i : Nat} {px : Pos} (h1 : c.N[i]? = some x) (h2 : c.sc.names.lookup x = some .local)
    (hsw : swapsWith (.ListComp e [⟨tg, iter, ifs, 0⟩] scope p) (some (.Name x px)) pos.line X.env = pure true) (hi : PI X tg iter (tI X.K X.mg W wi)) (bo : BlkOk X.N X.env.scope scope own) (hsl : ∀ i ∈ slots t, i ∈ own.map (·.2))
    (hg : ∀ (s : Shared) (H : Hp) (C : Addr) (cl : List (Str × Addr)) (fp : List Addr), PG (X.blk s H scope (compEnvC scope cl C X.env) fp) tg (gD X.K t)) (ht : ∀ (s : Shared) (H : Hp) (C : Addr) (cl : List (Str × Addr)) (fp : List Addr), PTs (X.blk s H scope (compEnvC scope cl C X.env) fp) ifs (tT X.K X.mg noW wc))
    (he : ∀ (s : Shared) (H : Hp) (C : Addr) (cl : List (Str × Addr)) (fp : List Addr), PE (X.blk s H scope (compEnvC scope cl C X.env) fp) e (tE X.K X.mg noW we)) (hf : ∀ x, foldedSetIterable iter X.env x = pure x) :
    PS X (.Assign [.Name x px] (.ListComp e [⟨tg, iter, ifs, 0⟩] scope p) pos) (tS X.K X.mg W fun δ μ N => wLc m t (own.map (·.2)) wi wc we δ μ N.ex fun d μ1 => N.nx (put δ i (some d)) μ1) := by
  refine PS_imp (ps_setLc (i := i) ok.calm (by rw [ok.hN]; exact ok.nd) (by rw [ok.hN]; exact h1) (by rw [ok.hs]; exact h2) hsw hi bo hg ht he hf) fun D σ H h => ?_
  obtain ⟨δ, G, μ, Φ, N, hE, hR, hw, en⟩ := h
  exact lc_read (m := m) hsl ⟨δ, G, μ, Φ, _, _, hE, hR, hw, fun d μ1 G1 H1 v q s R1 p1 => en.nx _ μ1 G1 H1 _ q s ((hE.mono s).put p1) R1, en.ex σ⟩
/-- a, b, .. = e -/
theorem s_setT (ok : XOk c X W) {ts : List IT} (hg : tgB c (.tp ts) d = true) (hs : swapsWithSole [d] e pos.line X.env = pure false) (hw : swappedStores [d] e X.env = pure none) (h1 : (assignEach [d] X.env).map (·.2) = [assign d X.env]) (ha : PE X e (tE X.K mg W wa)) :
    PS X (.Assign [d] e pos) (tS X.K mg W fun δ μ N => wa δ μ N.ex fun x μ1 => wTg (.tp ts) (vw μ1 x) δ fun δ1 => N.nx δ1 μ1) := PS_imp (ps_asg ha (d_tg ok hg) hs hw h1) fun D σ H h => by
  obtain ⟨δ, G, μ, Φ, N, hE, hR, hw, en⟩ := h
  exact ⟨δ, G, μ, Φ, _, _, hE, hR, hw, fun x μ1 G1 H1 v q s R1 p1 => ⟨δ, G1, μ1, Φ, _, _, hE.mono s, R1, R1.look p1, q, fun δ' σ' r e' _ => en.nx δ' μ1 G1 H1 σ' r s e' R1⟩, en.ex σ⟩
/-- o[i] = e -/
theorem noSlice_asg {b : Expr} (h : notSlice b = true) (a : Expr) (p : Pos) (env : Env) : ∀ v, assign (.Subscript a b p) env v = (do
      let ov ← holding [v] (eval a env)
      let iv ← holding [v, ov] (eval b env)
      standAt p
      holding [v, ov, iv] (setItem ov iv v)
      release [v, ov, iv] []) := fun v => by cases b <;> first | rfl | cases h
theorem s_set (hsl : notSlice b = true) (hn : swapsWith e (some (.Subscript a b p)) pos.line X.env = pure false) (he : PE X e (tE X.K mg W wd)) (ha : PE X a (tE X.K mg W wa)) (hb : PE X b (tE X.K mg W wb)) :
    PS X (.Assign [.Subscript a b p] e pos) (tS X.K mg W fun δ μ N => wd δ μ N.ex fun v μ1 => wa δ μ1 N.ex fun x μ2 => wb δ μ2 N.ex fun k μ3 => match x, k with
    | .ref p, .int j => match μ3 p with
      | some ds => match ixN ds.length j with | some n => N.nx δ (mput μ3 p (ds.set n v)) | none => False
      | none => False
    | _, _ => False) := PS_imp (ps_asg he (pg_sub ha hb set_list (noSlice_asg hsl a p X.env)) hn (by cases e <;> rfl) rfl) fun D σ H h => by
  obtain ⟨δ, G, μ, Φ, N, hE, hR, hw, en⟩ := h
  refine ⟨δ, G, μ, Φ, _, _, hE, hR, hw, fun v μ1 G1 H1 vv q1 s1 R1 p1 => ?_, en.ex σ⟩
  refine ⟨δ, G1, μ1, Φ, N.ex, _, hE.mono s1, R1, q1, fun x μ2 G2 H2 xv q2 s2 R2 p2 => ?_, (en.ex σ).mono s1⟩
  refine ⟨δ, G2, μ2, Φ, N.ex, _, hE.mono (s1.trans s2), R2, q2, fun k μ3 G3 H3 kv q3 s3 R3 p3 => ?_, (en.ex σ).mono (s1.trans s2)⟩
  split at q3
  · rename_i q j
    split at q3
    · rename_i ds e1
      split at q3
      · rename_i n e2
        cases p2
        cases p3
        obtain ⟨_, vs, hh, rr⟩ := R3.chg q ds e1
        refine ⟨q, vs, j, n, rfl, rfl, hh, by rw [← rr.length]; exact e2, ?_⟩
        exact en.nx δ _ G3 _ σ q3 ((s1.trans s2).trans s3) (hE.mono ((s1.trans s2).trans s3)) (R3.set e1 (rr.set ((p1.mono s2).mono s3) n))
      · exact q3.elim
    · exact q3.elim
  · exact q3.elim
/-- x += e, x -= e -/
def augOf : Bop → Int → Int → Int
  | .sub, i, j => i - j
  | _, i, j => i + j
theorem s_aug (ok : XOk c X W) {i : Nat} {px : Pos} {o : Bop} {op : Operator} (hl : locB c i x = true) (ho : (o = .add ∧ op = .Add) ∨ (o = .sub ∧ op = .Sub)) (ha : PE X e (tE X.K mg W wa)) :
    PS X (.AugAssign (.Name x px) op e pos) (tS X.K mg W fun δ μ N => match look δ i with
    | some x => wa δ μ N.ex fun y μ1 => match x, y with
      | .int a, .int b => wBop o (.int a) (.int b) μ1 fun z μ2 => N.nx (put δ i (some z)) μ2
      | _, _ => False
    | none => False) := by
  obtain ⟨h1, h2, h3⟩ := locB_ok hl
  have hf : X.fn x = true ∨ X.env.scope.names.lookup x = some .local := by
    rcases h3 with z | z
    · exact .inl (ok.fn x z)
    · exact .inr (by rw [ok.hs]; exact z)
  have hip : PIp X op (ipI (augOf o)) := by
    rcases ho with ⟨rfl, rfl⟩ | ⟨rfl, rfl⟩
    · exact ip_add
    · exact ip_sub
  refine PS_imp (ps_aug (i := i) (by rw [ok.hN]; exact ok.nd) (by rw [ok.hN]; exact h1) (by rw [ok.hs]; exact h2) ha hip hf) fun D σ H h => ?_
  obtain ⟨δ, G, μ, Φ, N, hE, hR, hw, en⟩ := h
  split at hw
  · rename_i xd ex
    obtain ⟨v, hv, rv⟩ := hE.at_ i xd (look_some ex)
    refine ⟨v, hv, δ, G, μ, Φ, _, _, hE, hR, hw, fun y μ1 G1 H1 u q s R1 p1 => ?_, en.ex σ⟩
    split at q
    · cases rv
      cases p1
      refine ⟨_, _, rfl, rfl, ?_⟩
      rename_i ia ib
      have q' : N.nx (put δ i (some (.int (augOf o ia ib)))) μ1 := by
        rcases ho with ⟨rfl, rfl⟩ | ⟨rfl, rfl⟩ <;> exact q
      exact en.nx _ μ1 G1 H1 _ q' s ((hE.mono s).put (.int _)) R1
    · exact q.elim
  · exact hw.elim
/-- for -/
theorem s_for (ok : XOk c X W) (top : c.top = true) {tmp : List Nat} {t : IT} {iter : Expr} {wi : WI} (hi : PI X d iter (tI X.K X.mg W wi)) (hf : ∀ x, foldedSetIterable iter X.env x = pure x) (hg : tgB c t d = true) (hb : PSs X sts (tS X.K X.mg W ws)) :
    PS X (.For d iter sts [] pos) (tS X.K X.mg W fun δ μ N => wi δ μ N.ex fun items stay μ1 => wFor stay tmp t ws N items (unset δ tmp) μ1) := PS_imp (ps_for (ok.po top) ok.calm hi (d_tg ok hg) hb hf) fun D σ H h => by
  obtain ⟨δ, G, μ, Φ, N, hE, hR, hw, en⟩ := h
  refine ⟨δ, G, μ, Φ, _, _, hE, hR, hw, fun items stay μ1 G1 H1 J q1 s1 R1 sv st => ?_, en.ex σ⟩
  refine ⟨fun i m σ H => ∃ δ μ G2, m = items.length - i ∧ i ≤ items.length ∧ Same G1 G2 ∧ RelE X.K G2 δ σ ∧ Rel X.K G2 μ Φ H ∧ wFor stay tmp t ws N (items.drop i) δ μ, ⟨items.length, _, μ1, G1, rfl, Nat.zero_le _, Same.refl _, (hE.mono s1).unset tmp, R1, q1⟩, ?_⟩
  rintro i m σ' H' ⟨δ', μ', G2, rfl, hi, s2, hE2, R2, w⟩
  by_cases hlt : i < items.length
  · rw [List.drop_eq_getElem_cons hlt, wFor] at w
    obtain ⟨st2, w⟩ := w
    obtain ⟨go, yd⟩ := (sv i G2 Φ μ' H' s2 R2 st2).1 _ (List.getElem?_eq_getElem hlt)
    refine .inr ⟨go, fun σ' H => ∃ δ μ G2, Same G1 G2 ∧ RelE X.K G2 δ σ' ∧ Rel X.K G2 μ Φ H ∧ wFor stay tmp t ws N (items.drop (i + 1)) δ μ, fun σ' H' ⟨d1, m1, g1, a1, a2, a3, a4⟩ => ⟨items.length - (i + 1), by omega, d1, m1, g1, rfl, hlt, a1, a2, a3, a4⟩, fun v H3 y => ?_⟩
    obtain ⟨G3, s3, R3, rv⟩ := yd v H3 y
    refine ⟨δ', G3, μ', Φ, _, _, hE2.mono s3, R3, ?_, w, fun δ4 σ4 w4 e4 _ => ?_⟩
    · cases t with
      | nm i => exact rv
      | tp us => exact rv.view R3.sub
    · refine ⟨δ4, G3, μ', Φ, _, e4, R3, w4, ?_⟩
      have s13 : Same G G3 := s1.trans (s2.trans s3)
      exact ⟨fun δ5 μ5 G5 H5 σ5 w5 s5 e5 R5 => ⟨_, μ5, G5, (s2.trans s3).trans s5, e5.unset tmp, R5, w5⟩, fun d5 μ5 G5 H5 v5 w5 s5 => en.rt d5 μ5 G5 H5 v5 w5 (s13.trans s5), fun δ5 μ5 G5 H5 σ5 w5 s5 => en.nx δ5 μ5 G5 H5 σ5 w5 (s13.trans s5),
        fun δ5 μ5 G5 H5 σ5 w5 s5 e5 R5 => ⟨_, μ5, G5, (s2.trans s3).trans s5, e5.unset tmp, R5, w5⟩, fun σ5 => (en.ex σ5).mono s13⟩
  · have e : i = items.length := by omega
    subst e
    rw [List.drop_length, wFor] at w
    obtain ⟨st2, w⟩ := w
    exact .inl ⟨(sv _ G2 Φ μ' H' s2 R2 st2).2 (Nat.le_refl _), en.nx δ' μ' G2 H' σ' w (s1.trans s2) hE2 R2⟩
/-- while -/
theorem s_while (ok : XOk c X W) (top : c.top = true) {tmp : List Nat} (hc : PT X d (tT X.K X.mg W wc)) (hb : PSs X sts (tS X.K X.mg W ws)) :
    PS X (.While d sts [] pos) (tS X.K X.mg W fun δ μ N => wWhile tmp (fun δ2 μ2 Q => wc δ2 μ2 N.ex Q) ws N δ μ) := PS_imp (ps_while (ok.po top) hc hb) fun D σ H h => by
  obtain ⟨δ, G, μ, Φ, N, hE, hR, ⟨Wm, ⟨m0, w0⟩, turn⟩, en⟩ := h
  refine ⟨fun m σ H => ∃ δ μ G2, Same G G2 ∧ RelE X.K G2 δ σ ∧ Rel X.K G2 μ Φ H ∧ Wm m δ μ, ⟨m0, _, μ, G, Same.refl _, hE.unset tmp, hR, w0⟩, ?_⟩
  rintro m σ' H' ⟨δ', μ', G2, s2, hE2, R2, w⟩
  refine ⟨δ', G2, μ', Φ, _, _, hE2, R2, turn m δ' μ' w, fun k μ3 G3 H3 k' q3 s3 R3 p3 => ?_, (en.ex σ').mono s2⟩
  have p3' : k = k' := p3
  subst p3'
  have s13 : Same G G3 := s2.trans s3
  cases k with
  | true =>
    refine iteT ⟨fun σ' H' => ∃ m', m' < m ∧ ∃ δ μ G2, Same G G2 ∧ RelE X.K G2 δ σ' ∧ Rel X.K G2 μ Φ H' ∧ Wm m' δ μ, fun σ' H' ⟨m', l, z⟩ => ⟨m', l, z⟩, δ', G3, μ3, Φ, _, hE2.mono s3, R3, q3, ?_⟩
    exact ⟨fun δ5 μ5 G5 H5 σ5 ⟨m', l, w5⟩ s5 e5 R5 => ⟨m', l, _, μ5, G5, s13.trans s5, e5.unset tmp, R5, w5⟩, fun d5 μ5 G5 H5 v5 w5 s5 => en.rt d5 μ5 G5 H5 v5 w5 (s13.trans s5), fun δ5 μ5 G5 H5 σ5 w5 s5 => en.nx δ5 μ5 G5 H5 σ5 w5 (s13.trans s5),
      fun δ5 μ5 G5 H5 σ5 ⟨m', l, w5⟩ s5 e5 R5 => ⟨m', l, _, μ5, G5, s13.trans s5, e5.unset tmp, R5, w5⟩, fun σ5 => (en.ex σ5).mono s13⟩
  | false => exact iteF (en.nx δ' μ3 G3 H3 σ' q3 s13 (hE2.mono s3) R3)
end
end Tf

set_option Elab.async false
set_option linter.all false
set_option maxRecDepth 100000
set_option maxHeartbeats 4000000
/-! Tf, part J: stores of several names. -/
namespace Tf
open PySem PySem.Spec PyProof.Rows L2

def fold8 (v : Expr) : Bool := foldedForSure 8 v
def alone8 (v : Expr) : Bool := constantsAlone 8 v
/-- a, b = x, y in the swapped way -/
def sw2 (c : Sc) (x y : Str) (px py : Pos) (a b : Expr) : Bool :=
  decide (c.sc.names.lookup x = some .local) && decide (c.sc.names.lookup y = some .local) && decide (px.line = py.line) && decide (x ≠ y) && notStar a && notStar b && !(fold8 a && fold8 b) && !(alone8 a && alone8 b)
def sw3 (c : Sc) (x y z : Str) (px py pz : Pos) (a b d : Expr) : Bool :=
  decide (c.sc.names.lookup x = some .local) && decide (c.sc.names.lookup y = some .local) && decide (c.sc.names.lookup z = some .local) && decide (px.line = py.line) && decide (px.line = pz.line) && decide (x ≠ y) && decide (x ≠ z) && decide (y ≠ z) && notStar a && notStar b && notStar d && !(fold8 a && fold8 b && fold8 d) && !(alone8 a && alone8 b && alone8 d)
theorem sw2_ok {c : Sc} {env : Env} {x y : Str} {px py pt : Pos} {kt k2 : Nat} {pt2 : Pos} {a b : Expr} (hs : env.scope = c.sc) (hk : c.sc.kind = .function) (h : sw2 c x y px py a b = true) :
    swappedStores [.Tuple [.Name x px, .Name y py] kt pt] (.Tuple [a, b] k2 pt2) env = pure (some [x, y]) := by
  unfold sw2 at h
  simp only [Bool.and_eq_true, decide_eq_true_eq, Bool.not_eq_true'] at h
  obtain ⟨⟨⟨⟨⟨⟨⟨h1, h2⟩, h3⟩, h4⟩, h5⟩, h6⟩, h7⟩, h8⟩ := h
  have kx : env.kindOf x = some .local := by show env.scope.names.lookup x = _; rw [hs]; exact h1
  have ky : env.kindOf y = some .local := by show env.scope.names.lookup y = _; rw [hs]; exact h2
  have bk : env.blockKind = .function := by unfold Env.blockKind; rw [hs, hk]; rfl
  have f7 : ([a, b].all (foldedForSure 8)) = false := by simpa [fold8] using h7
  have f8 : ([a, b].all (constantsAlone 8)) = false := by simpa [alone8] using h8
  unfold swappedStores
  simp only [bk, kx, ky, f7, f8, List.any_cons, List.any_nil, Bool.or_false, List.length_cons, List.length_nil, List.head?_cons, Option.map_some, Option.getD_some, Expr.pos]
  simp [kx, ky, h3, h4, List.eraseDups_cons, Ne.symm h4, f7, f8]
  intro h
  rcases h with h | h
  · cases a <;> first | (cases h; done) | (cases h5; done)
  · cases b <;> first | (cases h; done) | (cases h6; done)
theorem sw3_ok {c : Sc} {env : Env} {x y z : Str} {px py pz pt : Pos} {kt k2 : Nat} {pt2 : Pos} {a b d : Expr} (hs : env.scope = c.sc) (hk : c.sc.kind = .function) (h : sw3 c x y z px py pz a b d = true) :
    swappedStores [.Tuple [.Name x px, .Name y py, .Name z pz] kt pt] (.Tuple [a, b, d] k2 pt2) env = pure (some [x, y, z]) := by
  unfold sw3 at h
  simp only [Bool.and_eq_true, decide_eq_true_eq, Bool.not_eq_true'] at h
  obtain ⟨⟨⟨⟨⟨⟨⟨⟨⟨⟨⟨⟨h1, h2⟩, h3⟩, h4⟩, h5⟩, h6⟩, h7⟩, h8⟩, h9⟩, h10⟩, h11⟩, h12⟩, h13⟩ := h
  have kx : env.kindOf x = some .local := by show env.scope.names.lookup x = _; rw [hs]; exact h1
  have ky : env.kindOf y = some .local := by show env.scope.names.lookup y = _; rw [hs]; exact h2
  have kz : env.kindOf z = some .local := by show env.scope.names.lookup z = _; rw [hs]; exact h3
  have bk : env.blockKind = .function := by unfold Env.blockKind; rw [hs, hk]; rfl
  have f7 : ([a, b, d].all (foldedForSure 8)) = false := by simpa [fold8, Bool.and_assoc] using h12
  have f8 : ([a, b, d].all (constantsAlone 8)) = false := by simpa [alone8, Bool.and_assoc] using h13
  unfold swappedStores
  simp only [bk, kx, ky, kz, f7, f8, List.any_cons, List.any_nil, Bool.or_false, List.length_cons, List.length_nil, List.head?_cons, Option.map_some, Option.getD_some, Expr.pos]
  simp [kx, ky, kz, ← h4, ← h5, List.eraseDups_cons, Ne.symm h6, Ne.symm h7, Ne.symm h8, f7, f8]
  intro h
  rcases h with h | h | h
  · cases a <;> first | (cases h; done) | (cases h9; done)
  · cases b <;> first | (cases h; done) | (cases h10; done)
  · cases d <;> first | (cases h; done) | (cases h11; done)
/-- a, b, .. = v in the plain way -/
def noSw (c : Sc) (es : List Expr) : Expr → Bool
  | .Tuple vs _ _ => !(es.length == 2 || es.length == 3) || vs.length != es.length || vs.all fold8 || es.any fun e => match e with | .Name x _ => !decide (c.sc.names.lookup x = some .local) | _ => true
  | _ => true
/-- a form of one's own does what it tells -/
def Xo1.Ok (o : Xo1) : Prop := ∀ (c : Sc) (X : Cx) (W : WX) (e u : Expr) (wa : WK D), XOk c X W → o.chk c e = some u → PE X u (tE X.K X.mg W wa) → PE X e (tE X.K X.mg W fun δ μ E Q => wa δ μ E fun x μ1 => o.w x μ1 E Q)
def Xo2.Ok (o : Xo2) : Prop := ∀ (c : Sc) (X : Cx) (W : WX) (e u v : Expr) (wa wb : WK D), XOk c X W → o.chk c e = some (u, v) → PE X u (tE X.K X.mg W wa) → PE X v (tE X.K X.mg W wb) → PE X e (tE X.K X.mg W fun δ μ E Q => wa δ μ E fun x μ1 => wb δ μ1 E fun y μ2 => o.w x y μ2 E Q)
def XoA.Ok (o : XoA) : Prop := ∀ (c : Sc) (X : Cx) (W : WX) (e : Expr) (us : List Expr) (wl : WK (List D)), XOk c X W → o.chk c e = some us → PA X us (tA X.K X.mg W wl) → PE X e (tE X.K X.mg W fun δ μ E Q => wl δ μ E fun ds μ1 => o.w ds μ1 E Q)
def XoI.Ok (o : XoI) : Prop := ∀ (c : Sc) (X : Cx) (W : WX) (tg e : Expr) (us : List Expr) (wl : WK (List D)), XOk c X W → o.chk c tg e = some us → PA X us (tA X.K X.mg W wl) → PI X tg e (tI X.K X.mg W fun δ μ E R => wl δ μ E fun ds μ1 => o.w ds μ1 fun items => R items (fun _ => True) μ1)
/-- the same module, the same run -/
structure Near (X X' : Cx) : Prop where
  K : X'.K = X.K
  mg : X'.mg = X.mg
  prog : X'.prog = X.prog
  w : X'.w = X.w
  base : X'.base = X.base
theorem Near.refl (X : Cx) : Near X X := ⟨rfl, rfl, rfl, rfl, rfl⟩
def XoS.Ok (o : XoS) : Prop := ∀ (c : Sc) (X : Cx) (W : WX) (st : Stmt) (us : List Expr) (sts : List (List Stmt)) (wes : List (WK D)) (wbs : List WSt), XOk c X W → o.chk c st = some (us, sts) →
  Paired (fun u we => ∀ X' W', Near X X' → XOk c X' W' → PE X' u (tE X'.K X'.mg W' we)) us wes → Paired (fun ss wb => ∀ X' W', Near X X' → XOk c X' W' → PSs X' ss (tS X'.K X'.mg W' wb)) sts wbs → PS X st (tS X.K X.mg W (o.w wes wbs))
/-- defs that a slot may hold -/
def rTab (C : Str → Spec → Prop) (Gb : Str → D → Prop) : List (Str × Spec) → Prop
  | [] => True
  | (x, sp) :: r => C x sp ∧ Gb x (.fn x) ∧ rTab C Gb r
theorem rTab_at {C : Str → Spec → Prop} {Gb : Str → D → Prop} : ∀ {tab : List (Str × Spec)} {y : Str} {sp : Spec}, rTab C Gb tab → tab.lookup y = some sp → C y sp ∧ Gb y (.fn y)
  | (x, s) :: r, y, sp, h, e => by
    rw [rTab] at h
    rw [List.lookup_cons] at e
    split at e
    · rename_i hb
      have hb := eq_of_beq hb
      subst hb
      cases e
      exact ⟨h.1, h.2.1⟩
    · exact rTab_at h.2.2 e
mutual
/-- the defs and constants that are named -/
def rE (C : Str → Spec → Prop) (Gb : Str → D → Prop) : IE → Prop
  | .glb x d => Gb x d
  | .bop _ a b => rE C Gb a ∧ rE C Gb b
  | .neg a => rE C Gb a
  | .not a => rE C Gb a
  | .cmp _ a b => rE C Gb a ∧ rE C Gb b
  | .chain _ _ a b d => rE C Gb a ∧ rE C Gb b ∧ rE C Gb d
  | .ands es => rL C Gb es
  | .ors es => rL C Gb es
  | .ite t a b => rE C Gb t ∧ rE C Gb a ∧ rE C Gb b
  | .call x sp es => C x sp ∧ rL C Gb es
  | .calll _ tab es => rTab C Gb tab ∧ rL C Gb es
  | .callk key _ _ sp es zs => C key sp ∧ rL C Gb es ∧ rL C Gb zs
  | .blt _ es => rL C Gb es
  | .isi _ a => rE C Gb a
  | .sub a i => rE C Gb a ∧ rE C Gb i
  | .slc a lo hi => rE C Gb a ∧ rO C Gb lo ∧ rO C Gb hi
  | .rev a => rE C Gb a
  | .tup es => rL C Gb es
  | .lst _ es => rL C Gb es
  | .star a => rE C Gb a
  | .comp _ _ _ it cs e => rE C Gb it ∧ rL C Gb cs ∧ rE C Gb e
  | .dix _ _ a => rE C Gb a
  | .frz a => rE C Gb a
  | .app o e => rE C Gb o ∧ rE C Gb e
  | .ext o e => rE C Gb o ∧ rE C Gb e
  | .pop o => rE C Gb o
  | .popAt o i => rE C Gb o ∧ rE C Gb i
  | .tru a => rE C Gb a
  | .seq a => rE C Gb a
  | .range1 a => rE C Gb a
  | .range2 a b => rE C Gb a ∧ rE C Gb b
  | .zip a b => rE C Gb a ∧ rE C Gb b
  | .enum a => rE C Gb a
  | .tupZip a b => rE C Gb a ∧ rE C Gb b
  | .lrg1 _ a => rE C Gb a
  | .lrg2 _ a b => rE C Gb a ∧ rE C Gb b
  | .cntI a b => rE C Gb a ∧ rE C Gb b
  | .idx a b => rE C Gb a ∧ rE C Gb b
  | .x1 o a => o.Ok ∧ rE C Gb a
  | .x2 o a b => o.Ok ∧ rE C Gb a ∧ rE C Gb b
  | .xa o es => o.Ok ∧ rL C Gb es
  | .xi o es => o.Ok ∧ rL C Gb es
  | _ => True
def rL (C : Str → Spec → Prop) (Gb : Str → D → Prop) : List IE → Prop
  | [] => True
  | e :: es => rE C Gb e ∧ rL C Gb es
def rO (C : Str → Spec → Prop) (Gb : Str → D → Prop) : Option IE → Prop
  | none => True
  | some e => rE C Gb e
end
def GlbOk (X : Cx) (x : Str) (d : D) : Prop := ∃ (u : Value) (v : V), X.mg x = some u ∧ RelV v u ∧ ∀ G, Rep X.K G d v
theorem filterMap_short {α β : Type} (f : α → Option β) : ∀ {l : List α} {a : α}, a ∈ l → f a = none → (l.filterMap f).length < l.length
  | x :: l, a, h, e => by
    rcases List.mem_cons.mp h with rfl | h
    · rw [List.filterMap_cons, e]
      exact Nat.lt_succ_of_le (List.length_filterMap_le f l)
    · have := filterMap_short f h e
      rw [List.filterMap_cons]
      split
      · exact Nat.lt_succ_of_lt this
      · exact Nat.succ_lt_succ this
theorem noSw_ok {c : Sc} {env : Env} {es : List Expr} {k : Nat} {p : Pos} {v : Expr} (hs : env.scope = c.sc) (h : noSw c es v = true) : swappedStores [.Tuple es k p] v env = pure none := by
  cases v with
  | Tuple vs k2 p2 =>
    unfold noSw at h
    simp only [Bool.or_eq_true, Bool.not_eq_true', List.any_eq_true] at h
    unfold swappedStores
    simp only []
    split
    · rfl
    · rename_i n1
      split
      · rfl
      · split
        · rename_i n2
          rfl
        · rename_i n2
          rcases h with ((h | h) | h) | h
          · exact absurd (by simp [h]) n1
          · exact absurd (by simp [h]) n1
          · split
            · rfl
            · rename_i n3
              exact absurd (by simpa [fold8] using h) n3
          · exfalso
            obtain ⟨e, he, hx⟩ := h
            apply n2
            have := filterMap_short (fun x : Expr => match x with | .Name id pos => if (env.kindOf id == some .local && pos.line == (Option.map (fun x => x.pos.line) es.head?).getD 0) = true then some id else none | _ => none) he (by
              cases e with
              | Name x q =>
                have hx' : c.sc.names.lookup x ≠ some .local := by simpa using hx
                have : (env.kindOf x == some .local) = false := by
                  rw [beq_eq_false_iff_ne]
                  show env.scope.names.lookup x ≠ _
                  rw [hs]
                  exact hx'
                simp [this]
              | _ => rfl)
            exact (Bool.or_eq_true _ _).mpr (.inl (bne_iff_ne.mpr (Nat.ne_of_lt this)))
  | _ => rfl
end Tf

set_option Elab.async false
set_option linter.all false
set_option maxRecDepth 100000
set_option maxHeartbeats 4000000
/-! Tf, part K: what stands for a piece of the text does as it. -/
namespace Tf
open PySem PySem.Spec PyProof.Rows L2
theorem visB_ok {c : Sc} {i : Nat} {x : Str} (h : visB c i x = true) : c.N[i]? = some x ∧ Vis c.sc x ∧ (x == ("__debug__" : Str)) = false ∧ (x == ("__classdict__" : Str)) = false := by
  unfold visB at h
  simp only [Bool.and_eq_true, decide_eq_true_eq, Bool.not_eq_true'] at h
  obtain ⟨⟨⟨h1, h2⟩, h3⟩, h4⟩ := h
  refine ⟨h1, ?_, h3, h4⟩
  split at h2
  · rename_i e; exact .inl e
  · rename_i e; exact .inr (.inl e)
  · rename_i e; exact .inr (.inr e)
  · cases h2
theorem glB_ok {c : Sc} {x : Str} (h : glB c x = true) : c.sc.names.lookup x = some .globalImplicit ∧ (x == ("__debug__" : Str)) = false ∧ x ≠ "__name__" := by
  unfold glB at h
  simp only [Bool.and_eq_true, decide_eq_true_eq, Bool.not_eq_true'] at h
  exact ⟨h.1.1, h.1.2, h.2⟩
section
variable {X : Cx} {c : Sc} {W : WX}
theorem bltB_ok {x : Str} (h : bltB c x = true) : glB c x = true ∧ x ∈ c.fr := by
  simp only [bltB, Bool.and_eq_true, decide_eq_true_eq] at h
  exact h
theorem XOk.gl (ok : XOk c X W) {x : Str} (h : glB c x = true) : Gl X x := by
  show X.env.scope.names.lookup x = _
  rw [ok.hs]
  exact (glB_ok h).1
theorem XOk.blk (ok : XOk c X W) {s : Shared} {H : Hp} {scope : Scope} {cl : List (Str × Addr)} {C : Addr} {fp : List Addr} (hk : scope.kind = .function) : XOk ⟨c.N, relS scope c.sc, c.fr, false, c.k, some scope⟩ (X.blk s H scope (compEnvC scope cl C X.env) fp) noW where
  hN := ok.hN
  hs := by rw [← ok.hs]; rfl
  nd := ok.nd
  kd := hk
  calm := ok.calm
  gd := ok.gd
  un := ok.un
  tk := fun u s' h => by
    obtain ⟨a, B, sI, pins, σ, H, cls, d, _, _, _, _, _, _, _, _, w⟩ := h
    exact w
  rm := ok.rm
  fr := ok.fr
  fn := fun x z => by
    show (scope.names.lookup x == some .cell) = true
    simpa [Sc.own] using z
  po := fun z => by cases z
  st := fun z => by cases z
  sm := ok.sm
theorem tW_eta {α β : Type} {K : PySem.W.Frag} {mg : Str → Option Value} {rep : Hp → α → β → Prop} {w w' : WK α} (h : ∀ δ μ E R, w' δ μ E R → w δ μ E R) {σ : L2.St} {H : Hp} {Q : β → Hp → Prop} (x : tW K mg W rep w' σ H Q) : tW K mg W rep w σ H Q := by
  obtain ⟨δ, G, μ, Φ, E, R, hE, hR, hw, ha, hx⟩ := x
  exact ⟨δ, G, μ, Φ, E, R, hE, hR, h _ _ _ _ hw, ha, hx⟩
theorem pe_eta {e : Expr} {w w' : WK D} (p : PE X e (tE X.K X.mg W w)) (h : ∀ δ μ E R, w' δ μ E R → w δ μ E R) : PE X e (tE X.K X.mg W w') := PE_imp p fun _ _ _ x => tW_eta h x
theorem pt_eta {e : Expr} {w w' : WK Bool} (p : PT X e (tT X.K X.mg W w)) (h : ∀ δ μ E R, w' δ μ E R → w δ μ E R) : PT X e (tT X.K X.mg W w') := PT_imp p fun _ _ _ x => tW_eta h x
theorem pw_eta {e : Expr} {w w' : WK Bool} (p : PW X e (tT X.K X.mg W w)) (h : ∀ δ μ E R, w' δ μ E R → w δ μ E R) : PW X e (tT X.K X.mg W w') := ⟨fun wh pins s σ H Q I x => p.run wh pins s σ H Q I (tW_eta h x)⟩
theorem pa_eta {e : List Expr} {w w' : WK (List D)} (p : PA X e (tA X.K X.mg W w)) (h : ∀ δ μ E R, w' δ μ E R → w δ μ E R) : PA X e (tA X.K X.mg W w') := PA_imp p fun _ _ _ x => tW_eta h x
theorem po_eta {e : Option Expr} {w w' : WK (Option Int)} (p : PO X e (tO' X.K X.mg W w)) (h : ∀ δ μ E R, w' δ μ E R → w δ μ E R) : PO X e (tO' X.K X.mg W w') := PO_imp p fun _ _ _ x => tW_eta h x
theorem pi_eta {tg e : Expr} {w w' : WI} (p : PI X tg e (tI X.K X.mg W w)) (h : ∀ δ μ E R, w' δ μ E R → w δ μ E R) : PI X tg e (tI X.K X.mg W w') := PI_imp p fun _ _ _ x => by
  obtain ⟨δ, G, μ, Φ, E, R, hE, hR, hw, ha, hx⟩ := x
  exact ⟨δ, G, μ, Φ, E, R, hE, hR, h _ _ _ _ hw, ha, hx⟩
theorem cst_ok {d : D} {k : Const} {j : Nat} {p : Pos} (h : cstB d k = true) : PE X (.Constant k j p) (tE X.K X.mg W fun _ μ _ Q => Q d μ) := by
  unfold cstB at h
  split at h
  · exact d_cst pe_non (fun _ _ _ q => q) (fun _ => .non)
  · cases of_decide_eq_true h; exact d_cst pe_bl (fun _ _ _ q => q) (fun _ => .bl _)
  · cases of_decide_eq_true h; exact d_cst pe_int (fun _ _ _ q => q) (fun _ => .int _)
  · cases of_decide_eq_true h; exact d_cst pe_str (fun _ _ _ q => q) (fun _ => .str _)
  · cases h
theorem iB_tuple {tg : Expr} {ts : List IT} {t : IT} (h : tgB c t tg = true) (ht : t = .tp ts) : ∃ es k p, tg = .Tuple es k p := by
  subst ht
  cases tg <;> first | exact ⟨_, _, _, rfl⟩ | (simp [tgB] at h)
theorem peF {e : Expr} : PE X e (tE X.K X.mg W fun _ _ _ _ => False) := ⟨fun pins s σ H Q I h => by
  obtain ⟨δ, G, μ, Φ, E, R, hE, hR, hw, ha, hx⟩ := h
  exact hw.elim⟩
theorem ptF {e : Expr} : PT X e (tT X.K X.mg W fun _ _ _ _ => False) := ⟨fun pins s σ H Q I h => by
  obtain ⟨δ, G, μ, Φ, E, R, hE, hR, hw, ha, hx⟩ := h
  exact hw.elim⟩
theorem pwF {e : Expr} : PW X e (tT X.K X.mg W fun _ _ _ _ => False) := ⟨fun _ pins s σ H Q I h => by
  obtain ⟨δ, G, μ, Φ, E, R, hE, hR, hw, ha, hx⟩ := h
  exact hw.elim⟩
theorem piF {tg e : Expr} : PI X tg e (tI X.K X.mg W fun _ _ _ _ => False) := ⟨fun pins s σ H Q I h => by
  obtain ⟨δ, G, μ, Φ, E, R, hE, hR, hw, ha, hx⟩ := h
  exact hw.elim⟩
def SE (ir : IE) : Prop := ∀ (c : Sc) (X : Cx) (W : WX) (e : Expr), XOk c X W → rE (CallOk X c.k) (GlbOk X) ir → eB c ir e = true → PE X e (tE X.K X.mg W (wE ir))
def ST (ir : IE) : Prop := ∀ (c : Sc) (X : Cx) (W : WX) (e : Expr), XOk c X W → rE (CallOk X c.k) (GlbOk X) ir → eB c ir e = true → PT X e (tT X.K X.mg W (wT ir))
def SAll (es : List IE) : Prop := ∀ (c : Sc) (X : Cx) (W : WX) (xs : List Expr), XOk c X W → rL (CallOk X c.k) (GlbOk X) es → bB c es xs = true → ∀ p, PW X (.BoolOp .And xs p) (tT X.K X.mg W (wAll es))
def SAny (es : List IE) : Prop := ∀ (c : Sc) (X : Cx) (W : WX) (xs : List Expr), XOk c X W → rL (CallOk X c.k) (GlbOk X) es → bB c es xs = true → ∀ p, PW X (.BoolOp .Or xs p) (tT X.K X.mg W (wAny es))
def SAnd (es : List IE) : Prop := ∀ (c : Sc) (X : Cx) (W : WX) (xs : List Expr), XOk c X W → rL (CallOk X c.k) (GlbOk X) es → bB c es xs = true → ∀ p, PE X (.BoolOp .And xs p) (tE X.K X.mg W (wAnd es))
def SOr (es : List IE) : Prop := ∀ (c : Sc) (X : Cx) (W : WX) (xs : List Expr), XOk c X W → rL (CallOk X c.k) (GlbOk X) es → bB c es xs = true → ∀ p, PE X (.BoolOp .Or xs p) (tE X.K X.mg W (wOr es))
def SA (es : List IE) : Prop := ∀ (c : Sc) (X : Cx) (W : WX) (xs : List Expr), XOk c X W → rL (CallOk X c.k) (GlbOk X) es → aB c es xs = true → PA X xs (tA X.K X.mg W (wA es))
def SO (o : Option IE) : Prop := ∀ (c : Sc) (X : Cx) (W : WX) (x : Option Expr), XOk c X W → rO (CallOk X c.k) (GlbOk X) o → oB c o x = true → PO X x (tO' X.K X.mg W (wO o))
def SI (ir : IE) : Prop := ∀ (c : Sc) (X : Cx) (W : WX) (tg e : Expr), XOk c X W → rE (CallOk X c.k) (GlbOk X) ir → iB c tg ir e = true → PI X tg e (tI X.K X.mg W (wI ir))
structure IH (n : Nat) : Prop where
  e : ∀ ir : IE, sizeOf ir < n → SE ir
  t : ∀ ir : IE, sizeOf ir < n → ST ir
  all : ∀ es : List IE, sizeOf es < n → SAll es
  any : ∀ es : List IE, sizeOf es < n → SAny es
  and : ∀ es : List IE, sizeOf es < n → SAnd es
  or : ∀ es : List IE, sizeOf es < n → SOr es
  a : ∀ es : List IE, sizeOf es < n → SA es
  o : ∀ o : Option IE, sizeOf o < n → SO o
  i : ∀ ir : IE, sizeOf ir < n → SI ir
variable {n : Nat}
/-- a call of a def that a slot holds -/
theorem d_callL {X : Cx} {W : WX} {i k : Nat} {x : Str} {p pos : Pos} {e : Expr} {es : List Expr} {wl : WK (List D)} {tab : List (Str × Spec)} (hN : X.N[i]? = some x) (hv : Vis X.env.scope x) (hdb : (x == ("__debug__" : Str)) = false) (hcd : (x == ("__classdict__" : Str)) = false) (hr : Room k X.A) (tk : Takes X W) (hg : X.A.guards = some [])
    (c : rTab (CallOk X k) (GlbOk X) tab) (hp : tab.all (fun p => keyPlain p.1) = true) (h1 : notStar e = true) (hs : es.all notStar = true) (hl : PA X (e :: es) (tA X.K X.mg W wl)) :
    PE X (.Call (.Name x p) (e :: es) [] pos) (tE X.K X.mg W fun δ μ E Q => match look δ i with
    | some (.fn y) => (match tab.lookup y with
      | some sp => wl δ μ E fun ds μ1 => sp ds μ1 Q E
      | none => False)
    | _ => False) := by
  refine ⟨fun pins s σ H Q I h => ?_⟩
  obtain ⟨δ, G, μ, Φ, E, R, hE, hR, hw, ha, hX⟩ := h
  split at hw
  · rename_i y ey
    split at hw
    · rename_i sp et
      obtain ⟨⟨f, hm, hk, F⟩, u, v, gm, rv, gr⟩ := rTab_at c et
      have hpl : keyPlain y = true := by
        have : ∀ (tab : List (Str × Spec)), tab.all (fun p => keyPlain p.1) = true → tab.lookup y = some sp → keyPlain y = true := by
          intro tab
          induction tab with
          | nil => intro _ e; cases e
          | cons q r ih =>
            intro h e
            rw [List.all_cons, Bool.and_eq_true] at h
            obtain ⟨z, s'⟩ := q
            rw [List.lookup_cons] at e
            split at e
            · rename_i hb
              rw [eq_of_beq hb]
              exact h.1
            · exact ih h.2 e
        exact this tab hp et
      rw [(keyPlain_ok hpl).1] at hm
      rw [(keyPlain_ok hpl).2] at F
      have F := F.toC
      have ef : f = He.ga X.K y := by
        have g0 := gr (fun _ => none)
        cases g0
        cases rv
        rw [hm] at gm
        cases gm
        rfl
      subst ef
      have lk : ∀ (δ : DE) (i : Nat), look δ i = (δ[i]?).getD none := by
        intro δ
        induction δ with
        | nil => intro i; rfl
        | cons x r ih => intro i; cases i with
          | zero => rfl
          | succ i => rw [look, ih, List.getElem?_cons_succ]
      have eg : δ[i]? = some (some (.fn y)) := by
        rw [lk] at ey
        cases h : δ[i]? with
        | none => rw [h] at ey; cases ey
        | some o => rw [h] at ey; exact congrArg some ey
      obtain ⟨v2, e2, r2⟩ := hE.at_ i _ eg
      cases r2
      refine wpAny_Call_Name_kw (thn ((pe_var (pos := p) hN hv hdb hcd).run pins s σ H (fun v H1 => v = .ref (He.ga X.K y) ∧ H1 = H) I ⟨.ref _, e2, rfl, rfl⟩) fun u2 s1 ⟨v3, H1, I1, r1, q1⟩ => ?_)
      obtain ⟨rfl, rfl⟩ := q1
      cases r1
      have ev := hl.run pos pins s1 σ _ (fun vs H' => ∃ ds μ1 G1, Same G G1 ∧ RepL X.K G1 ds vs ∧ Rel X.K G1 μ1 Φ H' ∧ sp ds μ1 R E) I1 ⟨δ, G, μ, Φ, E, _, hE, hR, hw, fun ds μ1 G1 H1 vs q1 s1 R1 p1 => ⟨ds, μ1, G1, s1, p1, R1, q1⟩, hX⟩
      refine PySem.W.callWith_K (h₀ := X.base) I.ok.mod.kin hk (thn ev fun us s1 hh => ?_) (notStar_each h1) (any_star hs)
      obtain ⟨vs, H1, I1, r, ds, μ1, G1, s1', p1, R1, q1⟩ := hh
      exact ⟨I1.kIn, run_call (E := fun c d H' => W c d σ H') tk (fun _ _ _ z => z) hg F hr I1 r ⟨G1, μ1, Φ, ds, R, E, p1, R1, q1, fun d μ' G' H' v r s => ha d μ' G' H' v r (s1'.trans s), hX.mono s1'⟩⟩
    · exact hw.elim
  · exact hw.elim
theorem d_nilK {X : Cx} {W : WX} : PK X [] (tA X.K X.mg W fun _ μ _ R => R [] μ) := ⟨fun pos pins s σ H Q I h => by
  obtain ⟨δ, G, μ, Φ, E, R, hE, hR, hw, ha, hx⟩ := h
  exact pk_nil.run pos pins s σ H Q I (ha _ μ G H _ hw (Same.refl G) hR .nil)⟩
theorem d_consK {X : Cx} {W : WX} {a : Expr} {nm : Option Str} {p : Pos} {kws : List Keyword} {wa : WK D} {wl : WK (List D)} (ha : PE X a (tE X.K X.mg W wa)) (hl : PK X kws (tA X.K X.mg W wl)) : PK X (⟨nm, a, p⟩ :: kws) (tA X.K X.mg W fun δ μ E R => wa δ μ E fun x μ1 => wl δ μ1 E fun ys μ2 => R (x :: ys) μ2) := ⟨fun pos pins s σ H Q I h => by
  refine (pk_cons ha hl).run pos pins s σ H Q I ?_
  obtain ⟨δ, G, μ, Φ, E, R, hE, hR, hw, ha, hx⟩ := h
  refine ⟨δ, G, μ, Φ, E, _, hE, hR, hw, fun x μ1 G1 H1 v q1 s1 R1 p1 => ?_, hx⟩
  exact ⟨δ, G1, μ1, Φ, E, _, hE.mono s1, R1, q1, fun ys μ2 G2 H2 us q2 s2 R2 p2 => ha _ μ2 G2 H2 _ q2 (s1.trans s2) R2 (.cons (p1.mono s2) p2), hx.mono s1⟩⟩
theorem stepKw (ih : IH n) : ∀ (zs : List IE), sizeOf zs < n → ∀ (kws : List Keyword) {c : Sc} {X : Cx} {W : WX}, XOk c X W → rL (CallOk X c.k) (GlbOk X) zs → aB c zs (kws.map (·.value)) = true → (kws.map (·.value)).all notStar = true → PK X kws (tA X.K X.mg W (wA zs))
  | [], hz, kws, c, X, W, ok, r, h, hs => by
    cases kws with
    | nil =>
      refine ⟨fun pos pins s σ H Q I h => (d_nilK (W := W)).run pos pins s σ H Q I ?_⟩
      obtain ⟨δ, G, μ, Φ, E, R, hE, hR, hw, ha, hx⟩ := h
      refine ⟨δ, G, μ, Φ, E, R, hE, hR, ?_, ha, hx⟩
      rw [wA] at hw
      exact hw
    | cons _ _ => simp [aB] at h
  | e :: es, hz, kws, c, X, W, ok, r, h, hs => by
    rw [rL] at r
    cases kws with
    | nil => cases e <;> simp [aB] at h
    | cons q kws =>
      obtain ⟨nm, x, p⟩ := q
      rw [List.map_cons, List.all_cons, Bool.and_eq_true] at hs
      rw [List.map_cons] at h
      by_cases st : ∃ a, e = .star a
      · obtain ⟨a, rfl⟩ := st
        cases x with
        | Starred y p => cases hs.1
        | _ => simp [aB, eB] at h
      · have h' : notStar x = true ∧ eB c e x = true ∧ aB c es (kws.map (·.value)) = true := by
          rw [aB] at h
          · simp only [Bool.and_eq_true] at h
            exact ⟨h.1.1, h.1.2, h.2⟩
          · intro a b p z; exact fun _ => st ⟨a, z⟩
        have hk := d_consK (nm := nm) (p := p) (ih.e e (by simp at hz; omega) _ _ _ _ ok r.1 h'.2.1) (stepKw ih es (by simp at hz; omega) kws ok r.2 h'.2.2 hs.2)
        refine ⟨fun pos pins s σ H Q I h => hk.run pos pins s σ H Q I ?_⟩
        obtain ⟨δ, G, μ, Φ, E, R, hE, hR, hw, ha, hx⟩ := h
        refine ⟨δ, G, μ, Φ, E, R, hE, hR, ?_, ha, hx⟩
        rw [wA] at hw
        · exact hw
        · intro a z; exact st ⟨a, z⟩
theorem stepE (ih : IH n) : ∀ ir : IE, sizeOf ir < n + 1 → SE ir
  | .var i, hz, c, X, W, e, ok, r, h => by
    cases e with
    | Name x p =>
      simp only [eB] at h
      obtain ⟨h1, h2, h3, h4⟩ := visB_ok h
      exact pe_eta (d_var (mg := X.mg) (by rw [ok.hN]; exact h1) (by rw [ok.hs]; exact h2) h3 h4) fun δ μ E R w => by simp only [wE] at w; exact w
    | _ => simp [eB] at h
  | .cst d, hz, c, X, W, e, ok, r, h => by
    cases e with
    | Constant k j p =>
      simp only [eB] at h
      exact pe_eta (cst_ok h) fun δ μ E R w => by simp only [wE] at w; exact w
    | _ => simp [eB] at h
  | .glb x d, hz, c, X, W, e, ok, r, h => by
    cases e with
    | Name y p =>
      simp only [eB, Bool.and_eq_true, decide_eq_true_eq] at h
      obtain ⟨rfl, h2⟩ := h
      rw [rE] at r
      obtain ⟨u, v, q1, q2, q3⟩ := r
      exact pe_eta (d_cst (pe_glob (ok.gl h2) q1 q2 (glB_ok h2).2.1) (fun _ _ _ q => q) q3) fun δ μ E R w => by simp only [wE] at w; exact w
    | _ => simp [eB] at h
  | .bop o a b, hz, c, X, W, e, ok, r, h => by
    cases e with
    | BinOp l op q p =>
      simp only [eB, Bool.and_eq_true] at h
      rw [rE] at r
      rw [bopB_ok h.1.1]
      exact pe_eta (d_bop o (ih.e a (by simp at hz; omega) _ _ _ _ ok r.1 h.1.2) (ih.e b (by simp at hz; omega) _ _ _ _ ok r.2 h.2)) fun δ μ E R w => by simp only [wE] at w; exact w
    | _ => simp [eB] at h
  | .neg a, hz, c, X, W, e, ok, r, h => by
    cases e with
    | UnaryOp op l p =>
      cases op with
      | USub =>
        simp only [eB] at h
        rw [rE] at r
        exact pe_eta (d_neg (ih.e a (by simp at hz; omega) _ _ _ _ ok r h)) fun δ μ E R w => by simp only [wE] at w; exact w
      | _ => simp [eB] at h
    | _ => simp [eB] at h
  | .not a, hz, c, X, W, e, ok, r, h => by
    cases e with
    | UnaryOp op l p =>
      cases op with
      | Not =>
        simp only [eB] at h
        rw [rE] at r
        exact pe_eta (d_not (ih.e a (by simp at hz; omega) _ _ _ _ ok r h)) fun δ μ E R w => by simp only [wE] at w; exact w
      | _ => simp [eB] at h
    | _ => simp [eB] at h
  | .cmp o a b, hz, c, X, W, e, ok, r, h => by
    cases e with
    | Compare l ops rs p =>
      match ops, rs, h with
      | [op], [q], h =>
        simp only [eB, Bool.and_eq_true] at h
        rw [rE] at r
        rw [copB_ok h.1.1.1]
        exact pe_eta (d_cmp (by have := ok.un; omega) o (notSet_mark h.1.1.2) (ih.e a (by simp at hz; omega) _ _ _ _ ok r.1 h.1.2) (ih.e b (by simp at hz; omega) _ _ _ _ ok r.2 h.2)) fun δ μ E R w => by simp only [wE] at w; exact w
      | [], _, h => simp [eB] at h
      | [_], [], h => simp [eB] at h
      | [_], _ :: _ :: _, h => simp [eB] at h
      | _ :: _ :: _, _, h => simp [eB] at h
    | _ => simp [eB] at h
  | .chain o1 o2 a b d, hz, c, X, W, e, ok, r, h => by
    cases e with
    | Compare l ops rs p =>
      match ops, rs, h with
      | [op1, op2], [q1, q2], h =>
        simp only [eB, Bool.and_eq_true] at h
        obtain ⟨⟨⟨⟨⟨⟨h1, h2⟩, h3⟩, h4⟩, h5⟩, h6⟩, h7⟩ := h
        rw [rE] at r
        rw [copB_ok h1, copB_ok h2]
        exact pe_eta (d_chain (by have := ok.un; omega) o1 o2 h3 h4 (ih.e a (by simp at hz; omega) _ _ _ _ ok r.1 h5) (ih.e b (by simp at hz; omega) _ _ _ _ ok r.2.1 h6) (ih.e d (by simp at hz; omega) _ _ _ _ ok r.2.2 h7)) fun δ μ E R w => by
          simp only [wE] at w
          exact w
      | [], _, h => simp [eB] at h
      | [_], _, h => simp [eB] at h
      | _ :: _ :: _ :: _, _, h => simp [eB] at h
      | [_, _], [], h => simp [eB] at h
      | [_, _], [_], h => simp [eB] at h
      | [_, _], _ :: _ :: _ :: _, h => simp [eB] at h
    | _ => simp [eB] at h
  | .ands es, hz, c, X, W, e, ok, r, h => by
    cases e with
    | BoolOp op xs p =>
      cases op with
      | And =>
        simp only [eB] at h
        rw [rE] at r
        exact pe_eta (ih.and es (by simp at hz; omega) _ _ _ _ ok r h p) fun δ μ E R w => by simp only [wE] at w; exact w
      | Or => simp [eB] at h
    | _ => simp [eB] at h
  | .ors es, hz, c, X, W, e, ok, r, h => by
    cases e with
    | BoolOp op xs p =>
      cases op with
      | Or =>
        simp only [eB] at h
        rw [rE] at r
        exact pe_eta (ih.or es (by simp at hz; omega) _ _ _ _ ok r h p) fun δ μ E R w => by simp only [wE] at w; exact w
      | And => simp [eB] at h
    | _ => simp [eB] at h
  | .ite t a b, hz, c, X, W, e, ok, r, h => by
    cases e with
    | IfExp x y z p =>
      simp only [eB, Bool.and_eq_true] at h
      rw [rE] at r
      exact pe_eta (d_ite (ih.t t (by simp at hz; omega) _ _ _ _ ok r.1 h.1.1) (ih.e a (by simp at hz; omega) _ _ _ _ ok r.2.1 h.1.2) (ih.e b (by simp at hz; omega) _ _ _ _ ok r.2.2 h.2)) fun δ μ E R w => by
        simp only [wE] at w
        exact w
    | _ => simp [eB] at h
  | .call x sp es, hz, c, X, W, e, ok, r, h => by
    cases e with
    | Call f as ks p =>
      cases f with
      | Name y p2 =>
        cases ks with
        | nil =>
          simp only [eB, Bool.and_eq_true, decide_eq_true_eq] at h
          obtain ⟨hkp, ⟨⟨rfl, h2⟩, h3⟩, h4⟩ := h
          rw [rE] at r
          cases as with
          | nil =>
            cases es with
            | nil => exact pe_eta (d_call0 ok.rm ok.tk ok.gd r.1 hkp (ok.gl h2) (glB_ok h2).2.1) fun δ μ E R w => by simp only [wE, wA] at w; exact w
            | cons a as => cases a <;> simp [aB] at h3
          | cons a as =>
            rw [List.all_cons, Bool.and_eq_true] at h4
            exact pe_eta (d_call ok.rm ok.tk ok.gd r.1 hkp (ok.gl h2) (glB_ok h2).2.1 h4.1 h4.2 (ih.a es (by simp at hz; omega) _ _ _ _ ok r.2 h3)) fun δ μ E R w => by simp only [wE] at w; exact w
        | cons _ _ => simp [eB] at h
      | _ => simp [eB] at h
    | _ => simp [eB] at h
  | .calll i tab es, hz, c, X, W, e, ok, r, h => by
    cases e with
    | Call f as ks p =>
      cases f with
      | Name y p2 =>
        cases ks with
        | nil =>
          simp only [eB, Bool.and_eq_true] at h
          obtain ⟨⟨⟨⟨h1, h2⟩, h3⟩, h4⟩, h5⟩ := h
          rw [rE] at r
          obtain ⟨v1, v2, v3, v4⟩ := visB_ok h1
          cases as with
          | nil => cases h3
          | cons a as =>
            rw [List.all_cons, Bool.and_eq_true] at h5
            exact pe_eta (d_callL (by rw [ok.hN]; exact v1) (by rw [ok.hs]; exact v2) v3 v4 ok.rm ok.tk ok.gd r.1 h2 h5.1 h5.2 (ih.a es (by simp at hz; omega) _ _ _ _ ok r.2 h4)) fun δ μ E R w => by simp only [wE] at w; exact w
        | cons _ _ => simp [eB] at h
      | _ => simp [eB] at h
    | _ => simp [eB] at h
  | .callk key y ks sp es zs, hz, c, X, W, e, ok, r, h => by
    cases e with
    | Call f as kws p =>
      cases f with
      | Name y2 p2 =>
        simp only [eB, Bool.and_eq_true, decide_eq_true_eq] at h
        obtain ⟨⟨⟨⟨⟨⟨⟨⟨⟨rfl, h1⟩, h2⟩, h3⟩, h4⟩, h5⟩, h6⟩, h7⟩, h8⟩, h9⟩ := h
        rw [rE] at r
        cases as with
        | nil => cases h5
        | cons a as =>
          rw [List.all_cons, Bool.and_eq_true] at h7
          have hk := stepKw ih zs (by simp at hz; omega) kws ok r.2.2 h8 h9
          exact pe_eta (d_callK ok.rm ok.tk ok.gd r.1 h1 h2 h3 (ok.gl h4) (glB_ok h4).2.1 h7.1 h7.2 (ih.a es (by simp at hz; omega) _ _ _ _ ok r.2.1 h6) hk) fun δ μ E R w => by simp only [wE] at w; exact w
      | _ => simp [eB] at h
    | _ => simp [eB] at h
  | .blt f es, hz, c, X, W, e, ok, r, h => by
    cases e with
    | Call g as ks p =>
      cases g with
      | Name y p2 =>
        cases ks with
        | nil =>
          simp only [eB, Bool.and_eq_true, decide_eq_true_eq] at h
          obtain ⟨⟨⟨⟨rfl, h2⟩, h3⟩, h4⟩, h5⟩ := h
          rw [rE] at r
          rw [bltB, Bool.and_eq_true, decide_eq_true_eq] at h2
          cases as with
          | nil => cases f <;> cases h5
          | cons a as =>
            rw [List.all_cons, Bool.and_eq_true] at h4
            exact pe_eta (d_blt ok.calm ok.gd ok.un f (ok.gl h2.1) (ok.fr _ h2.2) h4.1 h4.2 (ih.a es (by simp at hz; omega) _ _ _ _ ok r h3)) fun δ μ E R w => by simp only [wE] at w; exact w
        | cons _ _ => simp [eB] at h
      | _ => simp [eB] at h
    | _ => simp [eB] at h
  | .sub a i, hz, c, X, W, e, ok, r, h => by
    cases e with
    | Subscript l k p =>
      simp only [eB, Bool.and_eq_true] at h
      rw [rE] at r
      exact pe_eta (d_sub h.2 (ih.e a (by simp at hz; omega) _ _ _ _ ok r.1 h.1.1) (ih.e i (by simp at hz; omega) _ _ _ _ ok r.2 h.1.2)) fun δ μ E R w => by
        simp only [wE] at w
        exact w
    | _ => simp [eB] at h
  | .slc a lo hi, hz, c, X, W, e, ok, r, h => by
    cases e with
    | Subscript l k p =>
      cases k with
      | Slice x y z p2 =>
        cases z with
        | none =>
          simp only [eB, Bool.and_eq_true] at h
          rw [rE] at r
          exact pe_eta (d_slc (ih.e a (by simp at hz; omega) _ _ _ _ ok r.1 h.1.1) (ih.o lo (by simp at hz; omega) _ _ _ _ ok r.2.1 h.1.2) (ih.o hi (by simp at hz; omega) _ _ _ _ ok r.2.2 h.2)) fun δ μ E R w => by
            simp only [wE] at w
            exact w
        | some _ => simp [eB] at h
      | _ => simp [eB] at h
    | _ => simp [eB] at h
  | .tup es, hz, c, X, W, e, ok, r, h => by
    cases e with
    | Tuple as k p =>
      simp only [eB] at h
      rw [rE] at r
      exact pe_eta (d_tup (ih.a es (by simp at hz; omega) _ _ _ _ ok r h)) fun δ μ E R w => by simp only [wE] at w; exact w
    | _ => simp [eB] at h
  | .lst m es, hz, c, X, W, e, ok, r, h => by
    cases e with
    | List as p =>
      simp only [eB] at h
      rw [rE] at r
      exact pe_eta (d_lst (m := m) (ih.a es (by simp at hz; omega) _ _ _ _ ok r h)) fun δ μ E R w => by
        simp only [wE] at w
        exact w
    | _ => simp [eB] at h
  | .comp m own t it cs el, hz, c, X, W, e, ok, r, h => by
    cases e with
    | ListComp elt gens scope p =>
      match gens, h with
      | [⟨tg, iter, ifs, a⟩], h =>
        unfold eB at h
        simp only [Bool.and_eq_true, decide_eq_true_eq] at h
        obtain ⟨⟨⟨⟨⟨⟨⟨rfl, h2⟩, h3⟩, h4⟩, h5⟩, h6⟩, h7⟩, h8⟩ := h
        rw [rE] at r
        have bo := blkOk_by h4
        have sl : ∀ i ∈ slots t, i ∈ own.map (·.2) := fun i hi => by
          have := List.all_eq_true.mp h5 i hi
          simpa using this
        have bo' : BlkOk X.N X.env.scope scope own := by rw [ok.hN, ok.hs]; exact bo
        have hi := ih.i it (by simp at hz; omega) _ _ _ _ _ ok r.1 h2
        have hf := notSet_fold h3 X.env
        match cs, ifs, h7, r with
        | [], [], _, r =>
          exact pe_eta (PE_imp (pe_lc ok.calm (by rw [ok.hN]; exact ok.nd) hi bo' (fun s H C cl fp => d_tg (ok.blk bo.kind) h6) (fun s H C cl fp => pts0 (mg := X.mg)) (fun s H C cl fp => ih.e el (by simp at hz; omega) _ _ _ _ (ok.blk bo.kind) r.2.2 h8) hf) fun σ H Q x => lc_read (m := m) sl x) fun δ μ E R w => by
            simp only [wE, wAll] at w
            exact w
        | [k], [x], h7, r =>
          rw [rL] at r
          exact pe_eta (PE_imp (pe_lc ok.calm (by rw [ok.hN]; exact ok.nd) hi bo' (fun s H C cl fp => d_tg (ok.blk bo.kind) h6) (fun s H C cl fp => pts1 (ih.t k (by simp at hz; omega) _ _ _ _ (ok.blk bo.kind) r.2.1.1 h7)) (fun s H C cl fp => ih.e el (by simp at hz; omega) _ _ _ _ (ok.blk bo.kind) r.2.2 h8) hf) fun σ H Q x => lc_read (m := m) sl x) fun δ μ E R w => by
            simp only [wE, wAll] at w
            exact w
        | [], _ :: _, h7, _ => cases h7
        | [_], [], h7, _ => cases h7
        | [_], _ :: _ :: _, h7, _ => cases h7
        | _ :: _ :: _, _, h7, _ => cases h7
      | [], h => simp [eB] at h
      | _ :: _ :: _, h => simp [eB] at h
    | _ => simp [eB] at h
  | .frz a, hz, c, X, W, e, ok, r, h0 => by
    have h : eB c a e = true := by cases e <;> (simp only [eB] at h0; exact h0)
    rw [rE] at r
    refine PE_imp (ih.e a (by simp at hz; omega) _ _ _ _ ok r h) fun σ H Q x => ?_
    obtain ⟨δ, G, μ, Φ, E, R, hE, hR, hw, ha, hx⟩ := x
    rw [wE] at hw
    refine ⟨δ, G, μ, Φ, E, _, hE, hR, hw, fun d μ1 G1 H1 v q s1 R1 p1 => ?_, hx⟩
    cases p1 with
    | ref a =>
      simp only [] at q
      split at q
      · rename_i ds e1
        obtain ⟨G2, s2, R2, p2⟩ := R1.settle e1
        exact ha _ _ G2 H1 _ q (s1.trans s2) R2 p2
      · exact q.elim
    | _ => exact q.elim
  | .app o a, hz, c, X, W, e, ok, r, h => by
    cases e with
    | Call f as ks p =>
      cases f with
      | Attribute x m p2 =>
        match as, ks, h with
        | [q], [], h =>
          simp only [eB, Bool.and_eq_true, decide_eq_true_eq] at h
          obtain ⟨⟨⟨⟨⟨rfl, h2⟩, h3⟩, h4⟩, h5⟩, h6⟩ := h
          rw [rE] at r
          exact pe_eta (d_app h4 h5 h6 (ih.e o (by simp at hz; omega) _ _ _ _ ok r.1 h2) (ih.e a (by simp at hz; omega) _ _ _ _ ok r.2 h3)) fun δ μ E R w => by
            simp only [wE] at w
            exact w
        | [], _, h => simp [eB] at h
        | [_], _ :: _, h => simp [eB] at h
        | _ :: _ :: _, _, h => simp [eB] at h
      | _ => simp [eB] at h
    | _ => simp [eB] at h
  | .ext o a, hz, c, X, W, e, ok, r, h => by
    cases e with
    | Call f as ks p =>
      cases f with
      | Attribute x m p2 =>
        match as, ks, h with
        | [q], [], h =>
          simp only [eB, Bool.and_eq_true, decide_eq_true_eq] at h
          obtain ⟨⟨⟨⟨⟨rfl, h2⟩, h3⟩, h4⟩, h5⟩, h6⟩ := h
          rw [rE] at r
          exact pe_eta (d_ext h4 h5 h6 (ih.e o (by simp at hz; omega) _ _ _ _ ok r.1 h2) (ih.e a (by simp at hz; omega) _ _ _ _ ok r.2 h3)) fun δ μ E R w => by
            simp only [wE] at w
            exact w
        | [], _, h => simp [eB] at h
        | [_], _ :: _, h => simp [eB] at h
        | _ :: _ :: _, _, h => simp [eB] at h
      | _ => simp [eB] at h
    | _ => simp [eB] at h
  | .pop o, hz, c, X, W, e, ok, r, h => by
    cases e with
    | Call f as ks p =>
      cases f with
      | Attribute x m p2 =>
        match as, ks, h with
        | [], [], h =>
          simp only [eB, Bool.and_eq_true, decide_eq_true_eq] at h
          obtain ⟨⟨⟨rfl, h2⟩, h4⟩, h6⟩ := h
          rw [rE] at r
          exact pe_eta (d_pop h4 h6 (ih.e o (by simp at hz; omega) _ _ _ _ ok r h2)) fun δ μ E R w => by
            simp only [wE] at w
            exact w
        | [], _ :: _, h => simp [eB] at h
        | _ :: _, _, h => simp [eB] at h
      | _ => simp [eB] at h
    | _ => simp [eB] at h
  | .popAt o a, hz, c, X, W, e, ok, r, h => by
    cases e with
    | Call f as ks p =>
      cases f with
      | Attribute x m p2 =>
        match as, ks, h with
        | [q], [], h =>
          simp only [eB, Bool.and_eq_true, decide_eq_true_eq] at h
          obtain ⟨⟨⟨⟨⟨rfl, h2⟩, h3⟩, h4⟩, h5⟩, h6⟩ := h
          rw [rE] at r
          exact pe_eta (d_popAt h4 h5 h6 (ih.e o (by simp at hz; omega) _ _ _ _ ok r.1 h2) (ih.e a (by simp at hz; omega) _ _ _ _ ok r.2 h3)) fun δ μ E R w => by
            simp only [wE] at w
            exact w
        | [], _, h => simp [eB] at h
        | [_], _ :: _, h => simp [eB] at h
        | _ :: _ :: _, _, h => simp [eB] at h
      | _ => simp [eB] at h
    | _ => simp [eB] at h
  | .isi ty a, hz, c, X, W, e, ok, r, h => by
    cases e with
    | Call f as ks p =>
      cases f with
      | Name y p2 =>
        match as, ks, h with
        | [u, t], [], h =>
          cases t with
          | Name t p3 =>
            simp only [eB, Bool.and_eq_true, decide_eq_true_eq] at h
            obtain ⟨⟨⟨⟨⟨⟨rfl, h2⟩, h3⟩, h4⟩, h5⟩, h6⟩, h7⟩ := h
            rw [rE] at r
            exact pe_eta (d_isi (by simpa using h7) h5 (ok.gl (bltB_ok h2).1) (ok.fr _ (bltB_ok h2).2) (ok.gl (bltB_ok h6).1) (ok.fr _ (bltB_ok h6).2) h4 (ih.e a (by simp at hz; omega) _ _ _ _ ok r h3)) fun δ μ E R w => by
              simp only [wE] at w
              exact w
          | _ => simp [eB] at h
        | [], _, h => simp [eB] at h
        | [_], _, h => simp [eB] at h
        | [_, t], _ :: _, h => cases t <;> simp [eB] at h
        | _ :: _ :: _ :: _, _, h => simp [eB] at h
      | _ => simp [eB] at h
    | _ => simp [eB] at h
  | .rev a, hz, c, X, W, e, ok, r, h => by
    unfold eB at h
    split at h <;> first | contradiction | skip
    rename_i e1
    cases e1
    simp only [Bool.and_eq_true, decide_eq_true_eq] at h
    obtain ⟨rfl, h2⟩ := h
    rw [rE] at r
    exact pe_eta (d_rev (ih.e a (by simp at hz; omega) _ _ _ _ ok r h2)) fun δ μ E R w => by
      simp only [wE] at w
      exact w
  | .dix ks vs a, hz, c, X, W, e, ok, r, h => by
    unfold eB at h
    split at h <;> first | contradiction | skip
    rename_i keys vals i e1
    obtain ⟨p, q, rfl⟩ := dixE_ok e1
    simp only [Bool.and_eq_true, decide_eq_true_eq, Bool.not_eq_true'] at h
    obtain ⟨⟨⟨⟨⟨h1, h2⟩, h3⟩, h4⟩, h5⟩, h6⟩ := h
    rw [rE] at r
    exact pe_eta (d_dix (by have := ok.un; omega) h1 h2 (fun z => by rw [z] at h3; cases h3) h4 h5 (ih.e a (by simp at hz; omega) _ _ _ _ ok r h6)) fun δ μ E R w => by
      simp only [wE] at w
      exact w
  | .lrg1 m a, hz, c, X, W, e, ok, r, h => by
    unfold eB at h
    split at h <;> first | contradiction | skip
    rename_i x y u e1
    obtain ⟨p, q, p3, p4, rfl⟩ := nestE_ok e1
    simp only [Bool.and_eq_true, decide_eq_true_eq] at h
    obtain ⟨⟨⟨⟨⟨rfl, rfl⟩, h3⟩, h4⟩, h5⟩, h7⟩ := h
    rw [rE] at r
    exact pe_eta (d_lrg1 (m := m) ok.calm (ok.gl (bltB_ok h3).1) (ok.fr _ (bltB_ok h3).2) (ok.gl (bltB_ok h4).1) (ok.fr _ (bltB_ok h4).2) h5 (ih.e a (by simp at hz; omega) _ _ _ _ ok r h7)) fun δ μ E R w => by
      simp only [wE] at w
      exact w
  | .lrg2 m a b, hz, c, X, W, e, ok, r, h => by
    unfold eB at h
    split at h <;> first | contradiction | skip
    rename_i x y u v e1
    obtain ⟨p, q, p3, p4, rfl⟩ := nestE_ok e1
    simp only [Bool.and_eq_true, decide_eq_true_eq] at h
    obtain ⟨⟨⟨⟨⟨⟨⟨rfl, rfl⟩, h3⟩, h4⟩, h5⟩, h6⟩, h7⟩, h8⟩ := h
    rw [rE] at r
    exact pe_eta (d_lrg2 (m := m) ok.calm (ok.gl (bltB_ok h3).1) (ok.fr _ (bltB_ok h3).2) (ok.gl (bltB_ok h4).1) (ok.fr _ (bltB_ok h4).2) h5 h6 (ih.e a (by simp at hz; omega) _ _ _ _ ok r.1 h7) (ih.e b (by simp at hz; omega) _ _ _ _ ok r.2 h8)) fun δ μ E R w => by
      simp only [wE] at w
      exact w
  | .x1 o a, hz, c, X, W, e, ok, r, h => by
    unfold eB at h
    split at h <;> first | contradiction | skip
    rename_i u e1
    rw [rE] at r
    exact pe_eta (r.1 c X W e u _ ok e1 (ih.e a (by simp at hz; omega) _ _ _ _ ok r.2 h)) fun δ μ E R w => by
      simp only [wE] at w
      exact w
  | .x2 o a b, hz, c, X, W, e, ok, r, h => by
    unfold eB at h
    split at h <;> first | contradiction | skip
    rename_i u v e1
    rw [Bool.and_eq_true] at h
    rw [rE] at r
    exact pe_eta (r.1 c X W e u v _ _ ok e1 (ih.e a (by simp at hz; omega) _ _ _ _ ok r.2.1 h.1) (ih.e b (by simp at hz; omega) _ _ _ _ ok r.2.2 h.2)) fun δ μ E R w => by
      simp only [wE] at w
      exact w
  | .xa o es, hz, c, X, W, e, ok, r, h => by
    unfold eB at h
    split at h <;> first | contradiction | skip
    rename_i us e1
    rw [rE] at r
    exact pe_eta (r.1 c X W e us _ ok e1 (ih.a es (by simp at hz; omega) _ _ _ _ ok r.2 h)) fun δ μ E R w => by
      simp only [wE] at w
      exact w
  | .xi o es, hz, c, X, W, e, ok, r, h => pe_eta peF fun δ μ E R w => by simp only [wE] at w
  | .cntI o a, hz, c, X, W, e, ok, r, h => by
    cases e with
    | Call f as ks p =>
      cases f with
      | Attribute x m p2 =>
        match as, ks, h with
        | [q], [], h =>
          simp only [eB, Bool.and_eq_true, decide_eq_true_eq] at h
          obtain ⟨⟨⟨⟨⟨rfl, h2⟩, h3⟩, h4⟩, h5⟩, h6⟩ := h
          rw [rE] at r
          exact pe_eta (d_cntI h4 h5 h6 (ih.e o (by simp at hz; omega) _ _ _ _ ok r.1 h2) (ih.e a (by simp at hz; omega) _ _ _ _ ok r.2 h3)) fun δ μ E R w => by
            simp only [wE] at w
            exact w
        | [], _, h => simp [eB] at h
        | [_], _ :: _, h => simp [eB] at h
        | _ :: _ :: _, _, h => simp [eB] at h
      | _ => simp [eB] at h
    | _ => simp [eB] at h
  | .idx o a, hz, c, X, W, e, ok, r, h => by
    cases e with
    | Call f as ks p =>
      cases f with
      | Attribute x m p2 =>
        match as, ks, h with
        | [q], [], h =>
          simp only [eB, Bool.and_eq_true, decide_eq_true_eq] at h
          obtain ⟨⟨⟨⟨⟨rfl, h2⟩, h3⟩, h4⟩, h5⟩, h6⟩ := h
          rw [rE] at r
          exact pe_eta (d_idx (by have := ok.un; omega) h4 h5 h6 (ih.e o (by simp at hz; omega) _ _ _ _ ok r.1 h2) (ih.e a (by simp at hz; omega) _ _ _ _ ok r.2 h3)) fun δ μ E R w => by
            simp only [wE] at w
            exact w
        | [], _, h => simp [eB] at h
        | [_], _ :: _, h => simp [eB] at h
        | _ :: _ :: _, _, h => simp [eB] at h
      | _ => simp [eB] at h
    | _ => simp [eB] at h
  | .tupZip a b, hz, c, X, W, e, ok, r, h => by
    unfold eB at h
    split at h <;> first | contradiction | skip
    rename_i x y u v e1
    obtain ⟨p, q, p3, p4, rfl⟩ := zipE_ok e1
    simp only [Bool.and_eq_true, decide_eq_true_eq] at h
    obtain ⟨⟨⟨⟨⟨⟨⟨rfl, rfl⟩, h3⟩, h4⟩, h5⟩, h6⟩, h7⟩, h8⟩ := h
    rw [rE] at r
    exact pe_eta (d_tupZip ok.calm (ok.gl (bltB_ok h3).1) (ok.fr _ (bltB_ok h3).2) (ok.gl (bltB_ok h4).1) (ok.fr _ (bltB_ok h4).2) h5 h6 (ih.e a (by simp at hz; omega) _ _ _ _ ok r.1 h7) (ih.e b (by simp at hz; omega) _ _ _ _ ok r.2 h8)) fun δ μ E R w => by
      simp only [wE] at w
      exact w
  | .star _, hz, c, X, W, e, ok, r, h => pe_eta peF fun δ μ E R w => by simp only [wE] at w
  | .tru _, hz, c, X, W, e, ok, r, h => pe_eta peF fun δ μ E R w => by simp only [wE] at w
  | .seq _, hz, c, X, W, e, ok, r, h => pe_eta peF fun δ μ E R w => by simp only [wE] at w
  | .range1 _, hz, c, X, W, e, ok, r, h => pe_eta peF fun δ μ E R w => by simp only [wE] at w
  | .range2 _ _, hz, c, X, W, e, ok, r, h => pe_eta peF fun δ μ E R w => by simp only [wE] at w
  | .zip _ _, hz, c, X, W, e, ok, r, h => pe_eta peF fun δ μ E R w => by simp only [wE] at w
  | .enum _, hz, c, X, W, e, ok, r, h => pe_eta peF fun δ μ E R w => by simp only [wE] at w
/-- a test -/
theorem stepT (ih : IH n) : ∀ ir : IE, sizeOf ir < n + 1 → ST ir
  | .not a, hz, c, X, W, e, ok, r, h => by
    cases e with
    | UnaryOp op l p =>
      cases op with
      | Not =>
        simp only [eB] at h
        rw [rE] at r
        exact pt_eta (d_notT (ih.t a (by simp at hz; omega) _ _ _ _ ok r h)) fun δ μ E R w => by simp only [wT] at w; exact w
      | _ => simp [eB] at h
    | _ => simp [eB] at h
  | .ands es, hz, c, X, W, e, ok, r, h => by
    cases e with
    | BoolOp op xs p =>
      cases op with
      | And =>
        simp only [eB] at h
        rw [rE] at r
        exact pt_eta (ih.all es (by simp at hz; omega) _ _ _ _ ok r h p).pt fun δ μ E R w => by simp only [wT] at w; exact w
      | Or => simp [eB] at h
    | _ => simp [eB] at h
  | .ors es, hz, c, X, W, e, ok, r, h => by
    cases e with
    | BoolOp op xs p =>
      cases op with
      | Or =>
        simp only [eB] at h
        rw [rE] at r
        exact pt_eta (ih.any es (by simp at hz; omega) _ _ _ _ ok r h p).pt fun δ μ E R w => by simp only [wT] at w; exact w
      | And => simp [eB] at h
    | _ => simp [eB] at h
  | .cmp o a b, hz, c, X, W, e, ok, r, h => by
    cases e with
    | Compare l ops rs p =>
      match ops, rs, h with
      | [op], [q], h =>
        simp only [eB, Bool.and_eq_true] at h
        rw [rE] at r
        rw [copB_ok h.1.1.1]
        exact pt_eta (d_cmpT (by have := ok.un; omega) o (notSet_mark h.1.1.2) (ih.e a (by simp at hz; omega) _ _ _ _ ok r.1 h.1.2) (ih.e b (by simp at hz; omega) _ _ _ _ ok r.2 h.2)) fun δ μ E R w => by simp only [wT] at w; exact w
      | [], _, h => simp [eB] at h
      | [_], [], h => simp [eB] at h
      | [_], _ :: _ :: _, h => simp [eB] at h
      | _ :: _ :: _, _, h => simp [eB] at h
    | _ => simp [eB] at h
  | .chain o1 o2 a b d, hz, c, X, W, e, ok, r, h => by
    cases e with
    | Compare l ops rs p =>
      match ops, rs, h with
      | [op1, op2], [q1, q2], h =>
        simp only [eB, Bool.and_eq_true] at h
        obtain ⟨⟨⟨⟨⟨⟨h1, h2⟩, h3⟩, h4⟩, h5⟩, h6⟩, h7⟩ := h
        rw [rE] at r
        rw [copB_ok h1, copB_ok h2]
        exact pt_eta (d_chainT (by have := ok.un; omega) o1 o2 h3 h4 (ih.e a (by simp at hz; omega) _ _ _ _ ok r.1 h5) (ih.e b (by simp at hz; omega) _ _ _ _ ok r.2.1 h6) (ih.e d (by simp at hz; omega) _ _ _ _ ok r.2.2 h7)) fun δ μ E R w => by
          simp only [wT] at w
          exact w
      | [], _, h => simp [eB] at h
      | [_], _, h => simp [eB] at h
      | _ :: _ :: _ :: _, _, h => simp [eB] at h
      | [_, _], [], h => simp [eB] at h
      | [_, _], [_], h => simp [eB] at h
      | [_, _], _ :: _ :: _ :: _, h => simp [eB] at h
    | _ => simp [eB] at h
  | .tru a, hz, c, X, W, e, ok, r, h => by
    rw [rE] at r
    have h' : eB c a e = true ∧ plainT e = true := by cases e <;> (simp only [eB, Bool.and_eq_true] at h; exact h)
    exact pt_eta (d_tru h'.2 (ih.e a (by simp at hz; omega) _ _ _ _ ok r h'.1)) fun δ μ E R w => by
      simp only [wT] at w
      exact w
  | .var _, hz, _, _, _, _, _, _, _ => pt_eta ptF fun δ μ E R w => by simp only [wT] at w
  | .cst _, hz, _, _, _, _, _, _, _ => pt_eta ptF fun δ μ E R w => by simp only [wT] at w
  | .glb _ _, hz, _, _, _, _, _, _, _ => pt_eta ptF fun δ μ E R w => by simp only [wT] at w
  | .bop _ _ _, hz, _, _, _, _, _, _, _ => pt_eta ptF fun δ μ E R w => by simp only [wT] at w
  | .neg _, hz, _, _, _, _, _, _, _ => pt_eta ptF fun δ μ E R w => by simp only [wT] at w
  | .ite _ _ _, hz, _, _, _, _, _, _, _ => pt_eta ptF fun δ μ E R w => by simp only [wT] at w
  | .calll _ _ _, hz, _, _, _, _, _, _, _ => pt_eta ptF fun δ μ E R w => by simp only [wT] at w
  | .callk _ _ _ _ _ _, hz, _, _, _, _, _, _, _ => pt_eta ptF fun δ μ E R w => by simp only [wT] at w
  | .call _ _ _, hz, _, _, _, _, _, _, _ => pt_eta ptF fun δ μ E R w => by simp only [wT] at w
  | .blt _ _, hz, _, _, _, _, _, _, _ => pt_eta ptF fun δ μ E R w => by simp only [wT] at w
  | .isi _ _, hz, _, _, _, _, _, _, _ => pt_eta ptF fun δ μ E R w => by simp only [wT] at w
  | .sub _ _, hz, _, _, _, _, _, _, _ => pt_eta ptF fun δ μ E R w => by simp only [wT] at w
  | .slc _ _ _, hz, _, _, _, _, _, _, _ => pt_eta ptF fun δ μ E R w => by simp only [wT] at w
  | .rev _, hz, _, _, _, _, _, _, _ => pt_eta ptF fun δ μ E R w => by simp only [wT] at w
  | .tup _, hz, _, _, _, _, _, _, _ => pt_eta ptF fun δ μ E R w => by simp only [wT] at w
  | .lst _ _, hz, _, _, _, _, _, _, _ => pt_eta ptF fun δ μ E R w => by simp only [wT] at w
  | .star _, hz, _, _, _, _, _, _, _ => pt_eta ptF fun δ μ E R w => by simp only [wT] at w
  | .comp _ _ _ _ _ _, hz, _, _, _, _, _, _, _ => pt_eta ptF fun δ μ E R w => by simp only [wT] at w
  | .dix _ _ _, hz, _, _, _, _, _, _, _ => pt_eta ptF fun δ μ E R w => by simp only [wT] at w
  | .frz _, hz, _, _, _, _, _, _, _ => pt_eta ptF fun δ μ E R w => by simp only [wT] at w
  | .app _ _, hz, _, _, _, _, _, _, _ => pt_eta ptF fun δ μ E R w => by simp only [wT] at w
  | .ext _ _, hz, _, _, _, _, _, _, _ => pt_eta ptF fun δ μ E R w => by simp only [wT] at w
  | .pop _, hz, _, _, _, _, _, _, _ => pt_eta ptF fun δ μ E R w => by simp only [wT] at w
  | .popAt _ _, hz, _, _, _, _, _, _, _ => pt_eta ptF fun δ μ E R w => by simp only [wT] at w
  | .seq _, hz, _, _, _, _, _, _, _ => pt_eta ptF fun δ μ E R w => by simp only [wT] at w
  | .range1 _, hz, _, _, _, _, _, _, _ => pt_eta ptF fun δ μ E R w => by simp only [wT] at w
  | .range2 _ _, hz, _, _, _, _, _, _, _ => pt_eta ptF fun δ μ E R w => by simp only [wT] at w
  | .zip _ _, hz, _, _, _, _, _, _, _ => pt_eta ptF fun δ μ E R w => by simp only [wT] at w
  | .enum _, hz, _, _, _, _, _, _, _ => pt_eta ptF fun δ μ E R w => by simp only [wT] at w
  | .tupZip _ _, hz, _, _, _, _, _, _, _ => pt_eta ptF fun δ μ E R w => by simp only [wT] at w
  | .lrg1 _ _, hz, _, _, _, _, _, _, _ => pt_eta ptF fun δ μ E R w => by simp only [wT] at w
  | .lrg2 _ _ _, hz, _, _, _, _, _, _, _ => pt_eta ptF fun δ μ E R w => by simp only [wT] at w
  | .cntI _ _, hz, _, _, _, _, _, _, _ => pt_eta ptF fun δ μ E R w => by simp only [wT] at w
  | .idx _ _, hz, _, _, _, _, _, _, _ => pt_eta ptF fun δ μ E R w => by simp only [wT] at w
  | .x1 _ _, hz, _, _, _, _, _, _, _ => pt_eta ptF fun δ μ E R w => by simp only [wT] at w
  | .x2 _ _ _, hz, _, _, _, _, _, _, _ => pt_eta ptF fun δ μ E R w => by simp only [wT] at w
  | .xa _ _, hz, _, _, _, _, _, _, _ => pt_eta ptF fun δ μ E R w => by simp only [wT] at w
  | .xi _ _, hz, _, _, _, _, _, _, _ => pt_eta ptF fun δ μ E R w => by simp only [wT] at w
theorem stepAll (ih : IH n) : ∀ es : List IE, sizeOf es < n + 1 → SAll es
  | [], hz, c, X, W, xs, ok, r, h, p => by cases xs <;> simp [bB] at h
  | [e], hz, c, X, W, xs, ok, r, h, p => by
    rw [rL] at r
    match xs, h with
    | [], h => simp [bB] at h
    | [x], h =>
      simp only [bB] at h
      exact pw_eta (d_and1 (xs := []) (ih.t e (by simp at hz; omega) _ _ _ _ ok r.1 h)) fun δ μ E R w => by simp only [wAll] at w; exact w
    | _ :: _ :: _, h => simp [bB] at h
  | e :: e2 :: es, hz, c, X, W, xs, ok, r, h, p => by
    rw [rL] at r
    match xs, h with
    | [], h => simp [bB] at h
    | [x], h => simp [bB] at h
    | x :: x2 :: xs, h =>
      have h' : eB c e x = true ∧ bB c (e2 :: es) (x2 :: xs) = true := by
        rw [bB] at h
        · rwa [Bool.and_eq_true] at h
        · intros; simp_all
      exact pw_eta (d_andC (ih.t e (by simp at hz; omega) _ _ _ _ ok r.1 h'.1) (ih.all (e2 :: es) (by simp at hz ⊢; omega) _ _ _ _ ok r.2 h'.2 p)) fun δ μ E R w => by
        rw [wAll] at w
        exact w
theorem stepAny (ih : IH n) : ∀ es : List IE, sizeOf es < n + 1 → SAny es
  | [], hz, c, X, W, xs, ok, r, h, p => by cases xs <;> simp [bB] at h
  | [e], hz, c, X, W, xs, ok, r, h, p => by
    rw [rL] at r
    match xs, h with
    | [], h => simp [bB] at h
    | [x], h =>
      simp only [bB] at h
      exact pw_eta (d_or1 (xs := []) (ih.t e (by simp at hz; omega) _ _ _ _ ok r.1 h)) fun δ μ E R w => by simp only [wAny] at w; exact w
    | _ :: _ :: _, h => simp [bB] at h
  | e :: e2 :: es, hz, c, X, W, xs, ok, r, h, p => by
    rw [rL] at r
    match xs, h with
    | [], h => simp [bB] at h
    | [x], h => simp [bB] at h
    | x :: x2 :: xs, h =>
      have h' : eB c e x = true ∧ bB c (e2 :: es) (x2 :: xs) = true := by
        rw [bB] at h
        · rwa [Bool.and_eq_true] at h
        · intros; simp_all
      exact pw_eta (d_orC (ih.t e (by simp at hz; omega) _ _ _ _ ok r.1 h'.1) (ih.any (e2 :: es) (by simp at hz ⊢; omega) _ _ _ _ ok r.2 h'.2 p)) fun δ μ E R w => by
        rw [wAny] at w
        exact w
theorem stepAnd (ih : IH n) : ∀ es : List IE, sizeOf es < n + 1 → SAnd es
  | [], hz, c, X, W, xs, ok, r, h, p => by cases xs <;> simp [bB] at h
  | [e], hz, c, X, W, xs, ok, r, h, p => by
    rw [rL] at r
    match xs, h with
    | [], h => simp [bB] at h
    | [x], h =>
      simp only [bB] at h
      exact pe_eta (pe_one (ih.e e (by simp at hz; omega) _ _ _ _ ok r.1 h)) fun δ μ E R w => by simp only [wAnd] at w; exact w
    | _ :: _ :: _, h => simp [bB] at h
  | e :: e2 :: es, hz, c, X, W, xs, ok, r, h, p => by
    rw [rL] at r
    match xs, h with
    | [], h => simp [bB] at h
    | [x], h => simp [bB] at h
    | x :: x2 :: xs, h =>
      have h' : eB c e x = true ∧ bB c (e2 :: es) (x2 :: xs) = true := by
        rw [bB] at h
        · rwa [Bool.and_eq_true] at h
        · intros; simp_all
      exact pe_eta (d_andV (ih.e e (by simp at hz; omega) _ _ _ _ ok r.1 h'.1) (ih.and (e2 :: es) (by simp at hz ⊢; omega) _ _ _ _ ok r.2 h'.2 p)) fun δ μ E R w => by
        rw [wAnd] at w
        · exact w
        · intros; simp_all
theorem stepOr (ih : IH n) : ∀ es : List IE, sizeOf es < n + 1 → SOr es
  | [], hz, c, X, W, xs, ok, r, h, p => by cases xs <;> simp [bB] at h
  | [e], hz, c, X, W, xs, ok, r, h, p => by
    rw [rL] at r
    match xs, h with
    | [], h => simp [bB] at h
    | [x], h =>
      simp only [bB] at h
      exact pe_eta (pe_one (ih.e e (by simp at hz; omega) _ _ _ _ ok r.1 h)) fun δ μ E R w => by simp only [wOr] at w; exact w
    | _ :: _ :: _, h => simp [bB] at h
  | e :: e2 :: es, hz, c, X, W, xs, ok, r, h, p => by
    rw [rL] at r
    match xs, h with
    | [], h => simp [bB] at h
    | [x], h => simp [bB] at h
    | x :: x2 :: xs, h =>
      have h' : eB c e x = true ∧ bB c (e2 :: es) (x2 :: xs) = true := by
        rw [bB] at h
        · rwa [Bool.and_eq_true] at h
        · intros; simp_all
      exact pe_eta (d_orV (ih.e e (by simp at hz; omega) _ _ _ _ ok r.1 h'.1) (ih.or (e2 :: es) (by simp at hz ⊢; omega) _ _ _ _ ok r.2 h'.2 p)) fun δ μ E R w => by
        rw [wOr] at w
        · exact w
        · intros; simp_all
theorem stepA (ih : IH n) : ∀ es : List IE, sizeOf es < n + 1 → SA es
  | [], hz, c, X, W, xs, ok, r, h => by
    cases xs with
    | nil => exact pa_eta d_nil fun δ μ E R w => by simp only [wA] at w; exact w
    | cons _ _ => simp [aB] at h
  | e :: es, hz, c, X, W, xs, ok, r, h => by
    rw [rL] at r
    cases xs with
    | nil => cases e <;> simp [aB] at h
    | cons x xs =>
      by_cases st : ∃ a, e = .star a
      · obtain ⟨a, rfl⟩ := st
        cases x with
        | Starred y p =>
          simp only [aB, Bool.and_eq_true] at h
          have r1 := r.1
          rw [rE] at r1
          exact pa_eta (d_star (ih.e a (by simp at hz; omega) _ _ _ _ ok r1 h.1) (ih.a es (by simp at hz; omega) _ _ _ _ ok r.2 h.2)) fun δ μ E R w => by
            simp only [wA] at w
            exact w
        | _ => simp [aB, eB] at h
      · have h' : notStar x = true ∧ eB c e x = true ∧ aB c es xs = true := by
          rw [aB] at h
          · simp only [Bool.and_eq_true] at h
            exact ⟨h.1.1, h.1.2, h.2⟩
          · intro a b p z; exact fun _ => st ⟨a, z⟩
        exact pa_eta (d_cons h'.1 (ih.e e (by simp at hz; omega) _ _ _ _ ok r.1 h'.2.1) (ih.a es (by simp at hz; omega) _ _ _ _ ok r.2 h'.2.2)) fun δ μ E R w => by
          rw [wA] at w
          · exact w
          · intro a z; exact st ⟨a, z⟩
theorem stepO (ih : IH n) : ∀ o : Option IE, sizeOf o < n + 1 → SO o
  | none, hz, c, X, W, x, ok, r, h => by
    cases x with
    | none => exact po_eta d_none fun δ μ E R w => by simp only [wO] at w; exact w
    | some _ => simp [oB] at h
  | some a, hz, c, X, W, x, ok, r, h => by
    cases x with
    | none => simp [oB] at h
    | some y =>
      simp only [oB] at h
      rw [rO] at r
      exact po_eta (d_some (ih.e a (by simp at hz; omega) _ _ _ _ ok r h)) fun δ μ E R w => by
        simp only [wO] at w
        exact w
theorem stepI (ih : IH n) : ∀ ir : IE, sizeOf ir < n + 1 → SI ir
  | .seq a, hz, c, X, W, tg, e, ok, r, h => by
    rw [rE] at r
    have h' : eB c a e = true := by cases e <;> (simp only [iB] at h; exact h)
    exact pi_eta (d_seq (ih.e a (by simp at hz; omega) _ _ _ _ ok r h')) fun δ μ E R w => by
      simp only [wI] at w
      exact w
  | .range1 a, hz, c, X, W, tg, e, ok, r, h => by
    rw [rE] at r
    cases e with
    | Call f as ks p =>
      cases f with
      | Name y p2 =>
        match as, ks, h with
        | [q], [], h =>
          simp only [iB, Bool.and_eq_true, decide_eq_true_eq] at h
          obtain ⟨⟨⟨rfl, h2⟩, h3⟩, h4⟩ := h
          rw [bltB, Bool.and_eq_true, decide_eq_true_eq] at h2
          exact pi_eta (d_rng1 (ok.gl h2.1) (ok.fr _ h2.2) h4 (ih.e a (by simp at hz; omega) _ _ _ _ ok r h3)) fun δ μ E R w => by simp only [wI] at w; exact w
        | [], _, h => simp [iB] at h
        | [_], _ :: _, h => simp [iB] at h
        | _ :: _ :: _, _, h => simp [iB] at h
      | _ => simp [iB] at h
    | _ => simp [iB] at h
  | .range2 a b, hz, c, X, W, tg, e, ok, r, h => by
    rw [rE] at r
    cases e with
    | Call f as ks p =>
      cases f with
      | Name y p2 =>
        match as, ks, h with
        | [q, q2], [], h =>
          simp only [iB, Bool.and_eq_true, decide_eq_true_eq] at h
          obtain ⟨⟨⟨⟨⟨rfl, h2⟩, h3⟩, h4⟩, h5⟩, h6⟩ := h
          rw [bltB, Bool.and_eq_true, decide_eq_true_eq] at h2
          exact pi_eta (d_rng2 (ok.gl h2.1) (ok.fr _ h2.2) h4 h6 (ih.e a (by simp at hz; omega) _ _ _ _ ok r.1 h3) (ih.e b (by simp at hz; omega) _ _ _ _ ok r.2 h5)) fun δ μ E R w => by simp only [wI] at w; exact w
        | [], _, h => simp [iB] at h
        | [_], _, h => simp [iB] at h
        | [_, _], _ :: _, h => simp [iB] at h
        | _ :: _ :: _ :: _, _, h => simp [iB] at h
      | _ => simp [iB] at h
    | _ => simp [iB] at h
  | .enum a, hz, c, X, W, tg, e, ok, r, h => by
    rw [rE] at r
    cases e with
    | Call f as ks p =>
      cases f with
      | Name y p2 =>
        match as, ks, h with
        | [q], [], h =>
          simp only [iB, Bool.and_eq_true, decide_eq_true_eq] at h
          obtain ⟨⟨⟨⟨rfl, h2⟩, h3⟩, h4⟩, h5⟩ := h
          rw [bltB, Bool.and_eq_true, decide_eq_true_eq] at h2
          cases tg with
          | Tuple es k p3 =>
            exact pi_eta (d_enum (ok.gl h2.1) (ok.fr _ h2.2) h4 (ih.e a (by simp at hz; omega) _ _ _ _ ok r h3)) fun δ μ E R w => by simp only [wI] at w; exact w
          | _ => cases h5
        | [], _, h => simp [iB] at h
        | [_], _ :: _, h => simp [iB] at h
        | _ :: _ :: _, _, h => simp [iB] at h
      | _ => simp [iB] at h
    | _ => simp [iB] at h
  | .zip a b, hz, c, X, W, tg, e, ok, r, h => by
    rw [rE] at r
    cases e with
    | Call f as ks p =>
      cases f with
      | Name y p2 =>
        match as, ks, h with
        | [q, q2], [], h =>
          simp only [iB, Bool.and_eq_true, decide_eq_true_eq] at h
          obtain ⟨⟨⟨⟨⟨⟨rfl, h2⟩, h3⟩, h4⟩, h5⟩, h6⟩, h7⟩ := h
          rw [bltB, Bool.and_eq_true, decide_eq_true_eq] at h2
          cases tg with
          | Tuple es k p3 =>
            exact pi_eta (d_zip (ok.gl h2.1) (ok.fr _ h2.2) h4 h6 (ih.e a (by simp at hz; omega) _ _ _ _ ok r.1 h3) (ih.e b (by simp at hz; omega) _ _ _ _ ok r.2 h5)) fun δ μ E R w => by simp only [wI] at w; exact w
          | _ => cases h7
        | [], _, h => simp [iB] at h
        | [_], _, h => simp [iB] at h
        | [_, _], _ :: _, h => simp [iB] at h
        | _ :: _ :: _ :: _, _, h => simp [iB] at h
      | _ => simp [iB] at h
    | _ => simp [iB] at h
  | .var _, hz, _, _, _, _, _, _, _, _ => pi_eta piF fun δ μ E R w => by simp only [wI] at w
  | .cst _, hz, _, _, _, _, _, _, _, _ => pi_eta piF fun δ μ E R w => by simp only [wI] at w
  | .glb _ _, hz, _, _, _, _, _, _, _, _ => pi_eta piF fun δ μ E R w => by simp only [wI] at w
  | .bop _ _ _, hz, _, _, _, _, _, _, _, _ => pi_eta piF fun δ μ E R w => by simp only [wI] at w
  | .neg _, hz, _, _, _, _, _, _, _, _ => pi_eta piF fun δ μ E R w => by simp only [wI] at w
  | .not _, hz, _, _, _, _, _, _, _, _ => pi_eta piF fun δ μ E R w => by simp only [wI] at w
  | .cmp _ _ _, hz, _, _, _, _, _, _, _, _ => pi_eta piF fun δ μ E R w => by simp only [wI] at w
  | .chain _ _ _ _ _, hz, _, _, _, _, _, _, _, _ => pi_eta piF fun δ μ E R w => by simp only [wI] at w
  | .ands _, hz, _, _, _, _, _, _, _, _ => pi_eta piF fun δ μ E R w => by simp only [wI] at w
  | .ors _, hz, _, _, _, _, _, _, _, _ => pi_eta piF fun δ μ E R w => by simp only [wI] at w
  | .ite _ _ _, hz, _, _, _, _, _, _, _, _ => pi_eta piF fun δ μ E R w => by simp only [wI] at w
  | .calll _ _ _, hz, _, _, _, _, _, _, _, _ => pi_eta piF fun δ μ E R w => by simp only [wI] at w
  | .callk _ _ _ _ _ _, hz, _, _, _, _, _, _, _, _ => pi_eta piF fun δ μ E R w => by simp only [wI] at w
  | .call _ _ _, hz, _, _, _, _, _, _, _, _ => pi_eta piF fun δ μ E R w => by simp only [wI] at w
  | .blt _ _, hz, _, _, _, _, _, _, _, _ => pi_eta piF fun δ μ E R w => by simp only [wI] at w
  | .isi _ _, hz, _, _, _, _, _, _, _, _ => pi_eta piF fun δ μ E R w => by simp only [wI] at w
  | .sub _ _, hz, _, _, _, _, _, _, _, _ => pi_eta piF fun δ μ E R w => by simp only [wI] at w
  | .slc _ _ _, hz, _, _, _, _, _, _, _, _ => pi_eta piF fun δ μ E R w => by simp only [wI] at w
  | .rev _, hz, _, _, _, _, _, _, _, _ => pi_eta piF fun δ μ E R w => by simp only [wI] at w
  | .tup _, hz, _, _, _, _, _, _, _, _ => pi_eta piF fun δ μ E R w => by simp only [wI] at w
  | .lst _ _, hz, _, _, _, _, _, _, _, _ => pi_eta piF fun δ μ E R w => by simp only [wI] at w
  | .star _, hz, _, _, _, _, _, _, _, _ => pi_eta piF fun δ μ E R w => by simp only [wI] at w
  | .comp _ _ _ _ _ _, hz, _, _, _, _, _, _, _, _ => pi_eta piF fun δ μ E R w => by simp only [wI] at w
  | .dix _ _ _, hz, _, _, _, _, _, _, _, _ => pi_eta piF fun δ μ E R w => by simp only [wI] at w
  | .frz _, hz, _, _, _, _, _, _, _, _ => pi_eta piF fun δ μ E R w => by simp only [wI] at w
  | .app _ _, hz, _, _, _, _, _, _, _, _ => pi_eta piF fun δ μ E R w => by simp only [wI] at w
  | .ext _ _, hz, _, _, _, _, _, _, _, _ => pi_eta piF fun δ μ E R w => by simp only [wI] at w
  | .pop _, hz, _, _, _, _, _, _, _, _ => pi_eta piF fun δ μ E R w => by simp only [wI] at w
  | .popAt _ _, hz, _, _, _, _, _, _, _, _ => pi_eta piF fun δ μ E R w => by simp only [wI] at w
  | .tru _, hz, _, _, _, _, _, _, _, _ => pi_eta piF fun δ μ E R w => by simp only [wI] at w
  | .tupZip _ _, hz, _, _, _, _, _, _, _, _ => pi_eta piF fun δ μ E R w => by simp only [wI] at w
  | .lrg1 _ _, hz, _, _, _, _, _, _, _, _ => pi_eta piF fun δ μ E R w => by simp only [wI] at w
  | .lrg2 _ _ _, hz, _, _, _, _, _, _, _, _ => pi_eta piF fun δ μ E R w => by simp only [wI] at w
  | .cntI _ _, hz, _, _, _, _, _, _, _, _ => pi_eta piF fun δ μ E R w => by simp only [wI] at w
  | .idx _ _, hz, _, _, _, _, _, _, _, _ => pi_eta piF fun δ μ E R w => by simp only [wI] at w
  | .x1 _ _, hz, _, _, _, _, _, _, _, _ => pi_eta piF fun δ μ E R w => by simp only [wI] at w
  | .x2 _ _ _, hz, _, _, _, _, _, _, _, _ => pi_eta piF fun δ μ E R w => by simp only [wI] at w
  | .xa _ _, hz, _, _, _, _, _, _, _, _ => pi_eta piF fun δ μ E R w => by simp only [wI] at w
  | .xi o es, hz, c, X, W, tg, e, ok, r, h => by
    unfold iB at h
    split at h <;> first | contradiction | skip
    rename_i us e1
    rw [rE] at r
    exact pi_eta (r.1 c X W tg e us _ ok e1 (ih.a es (by simp at hz; omega) _ _ _ _ ok r.2 h)) fun δ μ E R w => by
      simp only [wI] at w
      exact w
theorem ih_all : ∀ n : Nat, IH n
  | 0 => ⟨fun _ h => absurd h (Nat.not_lt_zero _), fun _ h => absurd h (Nat.not_lt_zero _), fun _ h => absurd h (Nat.not_lt_zero _), fun _ h => absurd h (Nat.not_lt_zero _), fun _ h => absurd h (Nat.not_lt_zero _), fun _ h => absurd h (Nat.not_lt_zero _), fun _ h => absurd h (Nat.not_lt_zero _), fun _ h => absurd h (Nat.not_lt_zero _), fun _ h => absurd h (Nat.not_lt_zero _)⟩
  | n + 1 => have ih := ih_all n; ⟨stepE ih, stepT ih, stepAll ih, stepAny ih, stepAnd ih, stepOr ih, stepA ih, stepO ih, stepI ih⟩
theorem sE (ir : IE) : SE ir := (ih_all (sizeOf ir + 1)).e ir (Nat.lt_succ_self _)
theorem sT (ir : IE) : ST ir := (ih_all (sizeOf ir + 1)).t ir (Nat.lt_succ_self _)
theorem sA (es : List IE) : SA es := (ih_all (sizeOf es + 1)).a es (Nat.lt_succ_self _)
theorem sI (ir : IE) : SI ir := (ih_all (sizeOf ir + 1)).i ir (Nat.lt_succ_self _)
end
end Tf

set_option Elab.async false
set_option linter.all false
set_option maxRecDepth 100000
set_option maxHeartbeats 4000000
/-! Tf: repr of any settled value; exception classes over any built-in class; several clauses with a name. -/
namespace Tf
open PySem PySem.Spec PyProof.Rows L2
theorem sm_list {X : Cx} {pins : List (Addr × Obj)} {σ : L2.St} {H : Hp} {s : Shared} {a : Addr} {o : Obj} (sm : SmOk X.K) (I : Inv X pins σ H s) (h : s.heap.get? a = some o) (hc : o.cls = .type "list") : a ≠ sysModules := fun e => by
  obtain ⟨m, h1, h2⟩ := sm
  have := I.kIn _ _ h1
  rw [e, this] at h
  cases h
  rw [h2] at hc
  injection hc with e2
  exact absurd e2 (by decide)
theorem key_str {x : Str} {v : Value} (h : keyIs (Sum.inr x) v = true) : ∃ t, v = .str x t := by
  rcases keyIs_shape h with ⟨i, t, e, _⟩ | ⟨y, t, e, rfl⟩
  · cases e
  · cases e; exact ⟨t, rfl⟩
section
variable {X : Cx} {pins : List (Addr × Obj)} {σ : L2.St} {H : Hp} {s : Shared}
theorem keys_read {P : Program} {w : World} : ∀ (ks : List Str) (vs : List V) (es : List DictEntry) (rs : List (Key × Value)), ks.length = vs.length → KV ((ks.map Sum.inr).zip vs) rs → Pairs (mixKind P w) es rs →
    ReadsAll s.heap (es.map (·.key)) (ks.map PyData.str) [] ∧ Vals vs (es.map (·.val))
  | [], [], es, rs, _, h1, h2 => by
    cases h1
    cases h2
    exact ⟨.nil, .nil⟩
  | k :: ks, v :: vs, es, rs, hl, h1, h2 => by
    cases h1 with
    | cons a b =>
      cases h2 with
      | cons c d e =>
        obtain ⟨q1, q2⟩ := keys_read ks vs _ _ (by simpa using hl) b e
        obtain ⟨a1, a2⟩ := a
        rw [← a1] at c
        obtain ⟨t, et⟩ := key_str c
        refine ⟨?_, .cons (by have z := a2; rw [← d] at z; exact z) q2⟩
        rw [List.map_cons, List.map_cons, et]
        exact ReadsAll.cons (Reads.str k t) q1
  | [], _ :: _, _, _, hl, _, _ => by cases hl
  | _ :: _, [], _, _, hl, _, _ => by cases hl
mutual
theorem repM (sm : SmOk X.K) (I : Inv X pins σ H s) : ∀ (d : D) (v : V) (u : Value), Rep X.K H d v → RelV v u → flatM d = true → ∃ as, Reads s.heap u (pd d) as ∧ sysModules ∉ as
  | .non, _, _, h, r, _ => by
    cases h
    cases r
    exact ⟨_, by rw [pd]; exact Reads.none, by simp⟩
  | .bl b, _, _, h, r, _ => by
    cases h
    cases r
    exact ⟨_, by rw [pd]; exact Reads.bool b, by simp⟩
  | .int i, _, _, h, r, _ => by
    cases h
    obtain ⟨t, rfl⟩ := r
    exact ⟨_, by rw [pd]; exact Reads.int i t, by simp⟩
  | .str x, _, _, h, r, _ => by
    cases h
    obtain ⟨t, rfl⟩ := r
    exact ⟨_, by rw [pd]; exact Reads.str x t, by simp⟩
  | .tup ds, _, _, h, r, f => by
    cases h with
    | tup hs ha =>
      cases r
      obtain ⟨its, rv, ⟨o, ho, hc, n, hd⟩, _⟩ := I.tuple hs
      obtain ⟨as, hr, hn⟩ := repMs sm I ds _ its ha rv (by rw [flatM] at f; exact f)
      exact ⟨_, by rw [pd]; exact Reads.tuple ho hc hd hr, hn⟩
  | .lst ds, _, _, h, r, f => by
    cases h with
    | lst hs ha =>
      cases r
      obtain ⟨its, rv, ⟨o, n, ho, hc, _, hd⟩, _⟩ := I.list (.inl (.inl hs))
      obtain ⟨as, hr, hn⟩ := repMs sm I ds _ its ha rv (by rw [flatM] at f; exact f)
      exact ⟨_, by rw [pd]; exact Reads.list ho hc hd hr, fun z => by
        rcases List.mem_cons.mp z with h | h
        · exact sm_list sm I ho hc h.symm
        · exact hn h⟩
  | .lsf ds, _, _, h, r, f => by
    cases h with
    | lsf hs ha =>
      cases r
      obtain ⟨its, rv, ⟨o, n, ho, hc, _, hd⟩, _⟩ := I.list hs
      obtain ⟨as, hr, hn⟩ := repMs sm I ds _ its ha rv (by rw [flatM] at f; exact f)
      exact ⟨_, by rw [pd]; exact Reads.list ho hc hd hr, fun z => by
        rcases List.mem_cons.mp z with h | h
        · exact sm_list sm I ho hc h.symm
        · exact hn h⟩
  | .dct ks ds, _, _, h, r, f => by
    rw [flatM, Bool.and_eq_true, decide_eq_true_eq] at f
    cases h with
    | dct e hl ha =>
      cases r
      obtain ⟨_, na, rs, kv, o, es, ep, ho, hx, hd, _, hp, _⟩ := dk_of I.hok e
      obtain ⟨q1, q2⟩ := keys_read (s := s) ks _ _ _ hl kv hp
      obtain ⟨as, hr, hn⟩ := repMs sm I ds _ _ ha q2 f.2
      have l2 : (pds ds).length = ks.length := by rw [pds_map, List.length_map]; exact f.1.symm
      have rx := Reads.dict (as := []) (bs := as) (kvs := (ks.map PyData.str).zip (pds ds)) ho hx.1 hd (by rw [List.map_fst_zip (by rw [List.length_map]; omega)]; exact q1) (by rw [List.map_snd_zip (by rw [List.length_map]; omega)]; exact hr)
      refine ⟨_, by rw [pd]; exact rx, fun z => ?_⟩
      have sm2 := beq_eq_false_iff_ne.mp na
      simp at z
      rcases z with h | h
      · exact sm2 h.symm
      · exact hn h
  | .ref _, _, _, _, _, f => by simp [flatM] at f
  | .fn _, _, _, _, _, f => by simp [flatM] at f
theorem repMs (sm : SmOk X.K) (I : Inv X pins σ H s) : ∀ (ds : List D) (vs : List V) (us : List Value), RepL X.K H ds vs → Vals vs us → flatMs ds = true → ∃ as, ReadsAll s.heap us (pds ds) as ∧ sysModules ∉ as
  | [], _, _, h, r, _ => by
    cases h
    cases r
    exact ⟨_, by rw [pds]; exact ReadsAll.nil, by simp⟩
  | d :: ds, _, _, h, r, f => by
    rw [flatMs, Bool.and_eq_true] at f
    cases h with
    | cons h1 h2 =>
      cases r with
      | cons r1 r2 =>
        obtain ⟨as, q1, n1⟩ := repM sm I d _ _ h1 r1 f.1
        obtain ⟨bs, q2, n2⟩ := repMs sm I ds _ _ h2 r2 f.2
        exact ⟨_, by rw [pds]; exact ReadsAll.cons q1 q2, fun z => by
          rcases List.mem_append.mp z with h | h
          · exact n1 h
          · exact n2 h⟩
end
theorem repr_okM (sm : SmOk X.K) (hg : X.A.guards = some []) (hu : X.A.units + 200 < cLine) : CallR X (.builtin "repr") (fun xs H Q => ∃ v d, xs = [v] ∧ Rep X.K H d v ∧ flatM d = true ∧ (pd d).showable = true ∧ (pd d).depth + 1 ≤ 100 ∧ (pd d).shown.length ≤ sizeLine ∧ Q (.str (pd d).shown) H) := by
  intro pins s σ H xs us Q I r h
  obtain ⟨v, d, rfl, dp, fl, sh, dep, len, q⟩ := h
  obtain ⟨u, rfl, rx⟩ := vals1 r
  obtain ⟨as, rd, nm⟩ := repM sm I d v u dp rx fl
  have fin : ∀ (h' : Heap) (t : Tok) (tk : Nat), (∀ b o, s.heap.get? b = some o → h'.get? b = some o) → EP X pins σ Q (.str (pd d).shown t) { s with heap := h', toks := tk } := fun h' t tk kp =>
    ⟨.str (pd d).shown, H, I.kept kp, ⟨t, rfl⟩, q⟩
  cases dp with
  | non => cases rx; exact P.repr_of_none (fin s.heap _ _ fun _ _ e => e)
  | bl b => cases rx; exact P.repr_of_bool (fin s.heap _ _ fun _ _ e => e)
  | int i =>
    obtain ⟨t, rfl⟩ := rx
    exact P.repr_of_int (by simpa [pd, PyData.showable] using sh) (fin s.heap _ _ fun _ _ e => e)
  | str x =>
    obtain ⟨t, rfl⟩ := rx
    exact P.repr_of_str (fin s.heap _ _ fun _ _ e => e) (by simpa [pd, PyData.shown] using len)
  | ref a => simp [flatM] at fl
  | fn x => simp [flatM] at fl
  | lst a b =>
    cases rx
    exact repr_of_reads' rd sh (fun _ => nm) hg (by omega) (fun _ _ e => e) (fun h' t tk kp => fin h' t tk kp) len
  | lsf a b =>
    cases rx
    exact repr_of_reads' rd sh (fun _ => nm) hg (by omega) (fun _ _ e => e) (fun h' t tk kp => fin h' t tk kp) len
  | tup a b =>
    cases rx
    exact repr_of_reads' rd sh (fun _ => nm) hg (by omega) (fun _ _ e => e) (fun h' t tk kp => fin h' t tk kp) len
  | dct a b c =>
    cases rx
    exact repr_of_reads' rd sh (fun _ => nm) hg (by omega) (fun _ _ e => e) (fun h' t tk kp => fin h' t tk kp) len
end
end Tf
/-! ### exception classes with one field over a built-in class -/
namespace Tf
open PySem PySem.W PySem.Calls PyProof.Rows PySem.HandSPX
open Builtin Builtin.ObjectAttr
/-- own classes, then the mro of a built-in class -/
def refsT (tl : List Value) : List Value → Bool
  | .ref _ :: r => refsT tl r
  | l => l == tl
theorem refsT_cases {tl : List Value} : ∀ l : List Value, refsT tl l = true → (∃ c r, l = .ref c :: r ∧ refsT tl r = true) ∨ l = tl
  | l, e => by
    unfold refsT at e
    split at e
    · exact .inl ⟨_, _, rfl, e⟩
    · exact .inr (beq_iff_eq.mp e)
/-- what is used of the built-in class -/
structure ExT (tl : List Value) (newId : String) : Prop where
  ne : tl ≠ []
  pass : ∀ self, refuseLoop self "__setattr__" tl = pure ()
  ob : tl.contains (.type "object") = true
  base : ∃ B initId, ExcBaseFacts B newId initId tl
theorem exT_value : ExT [.type "ValueError", .type "Exception", .type "BaseException", .type "object"] "ValueError.__new__" := ⟨by simp, F.store_ValueError.passes, by decide +kernel, _, _, F.excBase_ValueError⟩
theorem exT_lookup : ExT [.type "LookupError", .type "Exception", .type "BaseException", .type "object"] "LookupError.__new__" := ⟨by simp, F.store_LookupError.passes, by decide +kernel, _, _, F.excBase_LookupError⟩
section
variable {tl : List Value} {newId : String}
theorem ExT.passAll (T : ExT tl newId) (self : Value) : ∀ l : List Value, refsT tl l = true → refuseLoop self "__setattr__" l = pure () := by
  intro l
  induction l with
  | nil =>
    intro e
    rcases refsT_cases _ e with ⟨c, r, q, _⟩ | q
    · cases q
    · exact absurd q.symm T.ne
  | cons a r ih =>
    intro e
    rcases refsT_cases _ e with ⟨c, r', q, h⟩ | q
    · obtain ⟨rfl, rfl⟩ := List.cons.inj q
      rw [refuseLoop_ref]; exact ih h
    · rw [q]; exact T.pass self
theorem ExT.has (T : ExT tl newId) (X : String) : ∀ l : List Value, refsT tl l = true → l.contains (.type X) = tl.contains (.type X) := by
  intro l
  induction l with
  | nil =>
    intro e
    rcases refsT_cases _ e with ⟨c, r, q, _⟩ | q
    · cases q
    · exact absurd q.symm T.ne
  | cons a r ih =>
    intro e
    rcases refsT_cases _ e with ⟨c, r', q, h⟩ | q
    · obtain ⟨rfl, rfl⟩ := List.cons.inj q
      rw [List.contains_cons, ih h]; rfl
    · rw [q]
theorem ExT.nonE (T : ExT tl newId) {l : List Value} (e : refsT tl l = true) : l.isEmpty = false := by
  cases l with
  | nil =>
    rcases refsT_cases _ e with ⟨c, r, q, _⟩ | q
    · cases q
    · exact absurd q.symm T.ne
  | cons _ _ => rfl
section
variable {prog : Program} {w : World} {A : Around} {E : Value → Shared → Prop} {R : Result → Shared → Prop} {hp : Heap} {g : Array GenState} {d : Drawn} {t : Nat} {os : OsState}
/-- the first field of an exception -/
theorem ExT.osa (T : ExT tl newId) {K : W.Frag} {name : Str} {tk : Tok} {v : Value} {x C : Addr} {fv : Array Value} {cd : ClassData}
    (X : K.In hp) (hx : hp.get? x = some { cls := .ref C, data := .fields fv }) (hcd : W.clsIn K C = some cd) (hm : refsT tl cd.mro = true) (hh : cd.hasDict = true) (ha : W.findIn K (.ref C) name = some none)
    (hq : ∀ h' tk' dx, (∀ b o, b ≠ x → hp.get? b = some o → h'.get? b = some o) → hp.objs.size ≤ dx → dx ≠ x → h'.get? x = some { cls := .ref C, dict := some dx, data := .fields fv } →
      h'.Ns1 dx (fun y => if y = name then some v else none) → R (.ok (.ret .none)) ⟨h', g, d, tk', os⟩) :
    codeAny (model prog w) A (.call (.builtin "object.__setattr__") ⟨[.ref x, .str name tk, v], []⟩) R ⟨hp, g, d, t, os⟩ := by
  have I : W.InstAt hp x { cls := .ref C, data := .fields fv } C none := ⟨hx, rfl, rfl, trivial⟩
  have SF := F.store_object
  have hxs : x ≠ hp.objs.size := Nat.ne_of_lt (Heap.lt_size hx)
  have sub : W.Looks (model prog w) hp (isInstance (.ref x) (.type "object")) true := I.type.andThen (W.looks_mroIn X (by unfold W.mroIn; rw [hcd, Option.bind_some, if_neg (by rw [T.nonE hm]; decide), T.has "object" _ hm, T.ob]))
  refine codeAny_call_builtin SF.slot.plain SF.entry (@W.check_slot (model prog w) _ _ ⟨hp, g, d, t, os⟩ "object.__setattr__" "object" "__setattr__" (.ref x) [.str name tk, v] [] _ SF.kind SF.split sub (SF.args (.ref x) (.str name tk) v) ?_)
  have hmr : W.Looks (model prog w) hp (mroOf (.ref C)) cd.mro := (W.looks_clsIn X hcd).andThen .now
  have L3 : W.Looks (model prog w) hp (storeTaker? none) none := .now
  have hcls : W.Looks (model prog w) hp (classData C) cd := W.looks_clsIn X hcd
  rw [W.osa_eq, refuse_eq]
  refine wpAny_bind (wpAny_bind (I.type.at (wpAny_bind (hmr.at ?_))))
  rw [T.passAll _ _ hm]
  refine wpAny_pure (wpAny_bind (I.type.at (wpAny_bind ((W.looks_findIn X ha).at (wpAny_bind (L3.at ?_))))))
  show wpAny _ _ (storeInOwnDict (.ref x) (.ref C) (.str name tk) name v false) _ _ _
  obtain ⟨nm, bs, mro, ns, qn, hd, sn, sb, ab, col, del⟩ := cd
  dsimp only at hh
  subst hh
  unfold storeInOwnDict ownDictForStores
  repeat (first | with_reducible refine store_in_new ?_ ?_ | with_reducible refine wpAny_loadPart_at hx ?_ | with_reducible refine hcls.at ?_ | wp_step)
  · exact ⟨_, #[], _, (Heap.get?_update_ne _ _ _ _ hxs.symm).trans (Heap.get?_push_at rfl rfl), rfl, fun e he => absurd he (by simp), fun _ => rfl⟩
  · intro h' tk' hn' hs
    have hx₁ : (hp.push { cls := .type "dict", data := .dict #[] }).get? x = some { cls := .ref C, data := .fields fv } := Heap.get?_push_of_some _ hx
    refine hq h' tk' hp.objs.size (fun b o hb ho => ?_) (Nat.le_refl _) hxs.symm ?_ hn'
    · exact (hs.2 b (Nat.ne_of_lt (Heap.lt_size ho))).trans ((Heap.get?_update_ne _ _ _ _ hb).trans (Heap.get?_push_of_some _ ho))
    · exact (hs.2 x hxs).trans (Heap.get?_update_self _ hx₁ rfl)
end
end
end Tf
namespace Tf
open PySem PySem.Spec PyProof.Rows L2
/-- what the written part says of the class -/
structure OexT (K : PySem.W.Frag) (C : Addr) : Prop where
  cls : ∃ tl newId, ExT tl newId ∧ ∃ nm q N bs bm sn sub ab col dd k0 k1 k2 k3 k5, K.lookup C = some (excClassObj nm q C N bs bm true sn sub ab col dd k0 k1 k2 k3 k5 newId) ∧ refsT tl bm = true
  sa : PySem.W.findIn K (.ref C) "__setattr__" = some (some (.builtin "object.__setattr__"))
  exC : PySem.W.subIn K (.ref C) (.type "BaseException") = some true
  tyC : PySem.W.typeIn K (.ref C) = some (.type "type")
  kC : PySem.W.keepIn K (.ref C) = true
section
variable {X : Cx} {pins : List (Addr × Obj)} {σ : L2.St} {H : Hp} {s : Shared} {a C dx : Addr} {f : Str} {y : V} {u : Value} {fs : List (Str × V)} {Q : Unit → Shared → Prop} {E : Value → Shared → Prop} {A : Around}
theorem ost_newT (T : OexT X.K C) (I : Inv X pins σ H s) (e : H a = some (exo a C none)) (hno : PySem.W.findIn X.K (.ref C) f = some none) (ry : RelV y u)
    (h : ∀ dx s', H dx = none → dx ≠ a → Inv X pins σ (upd (upd H dx (exd dx [(f, y)])) a (exo a C (some dx))) s' → Q () s') : wpAny (model X.prog X.w) A (setAttr (.ref a) f u) Q E s := by
  obtain ⟨tl, nid, T0, nm, q, N, bs, bm, sn, sub, ab, col, dd, k0, k1, k2, k3, k5, hC, hbm⟩ := T.cls
  have hcl : PySem.W.clsIn X.K C = some { name := nm, bases := bs, mro := .ref C :: bm, ns := N, qualname := q, hasDict := true, slotNames := sn, subclasses := sub, abstract := ab, collection := col, hasDel := false } := by unfold PySem.W.clsIn; rw [hC] <;> rfl
  obtain ⟨t1, ho⟩ := exo_at I.hok e
  obtain ⟨hp, g, d, t, os⟩ := s
  refine PySem.W.set_plain I.kIn (ox := { cls := .ref C, dict := none, data := .fields #[.ref t1, .none, .none, .none, .bool false, .none] }) (od := none) ⟨ho, rfl, rfl, trivial⟩ T.sa ?_
  refine T0.osa I.kIn ho hcl (show refsT tl (.ref C :: bm) = true from hbm) rfl hno (fun h' tk' dx k dn dne hx hn => ?_)
  have hnd : H dx = none := I.hok.fresh dn
  have nd : ∀ {b : Addr} {o : Obj}, hp.get? b = some o → b ≠ dx := fun {b o} q => Nat.ne_of_lt (Nat.lt_of_lt_of_le (Heap.lt_size q) dn)
  have na : ∀ {b : Addr}, H b = none → b ≠ a := fun {b} n z => by
    rw [z, e] at n
    cases n
  have Un1 : Un X.fs [] H (upd (upd H dx (exd dx [(f, y)])) a (exo a C (some dx))) hp h' := {
    keep := fun b o q n _ _ => k b o (na n) q
    slot := fun b o q n _ _ => ⟨o.slots, k b o (na n) q⟩
    free := fun b o q n _ => by rw [upd_ne (na n), upd_ne (nd q)]; exact n
    there := fun b o q _ => by
      by_cases hb : b = a
      · exact ⟨_, by rw [hb]; exact hx⟩
      · exact ⟨o, k b o hb q⟩
    tups := fun b xs q => by rw [upd_ne (at_ne e q exo_tup), upd_ne (ne_of_none q hnd)]; exact q
    frzs := fun b o v q => by rw [upd_ne (at_ne e q exo_frz), upd_ne (ne_of_none q hnd)]; exact q
    tbls := fun b ps q => ⟨#[], by rw [upd_ne (at_ne e q exo_tbl), upd_ne (ne_of_none q hnd), q]; simp⟩ }
  refine h dx _ hnd dne (I.un (t' := tk') Un1 fun b o q => ?_)
  by_cases hb : b = a
  · subst hb
    rw [upd_same] at q
    cases q
    exact exo_ok hx
  · rw [upd_ne hb] at q
    by_cases hd : b = dx
    · subst hd
      rw [upd_same] at q
      cases q
      exact exd_ok hn (relO_put (fs := []) ry fun g => True.intro)
    · rw [upd_ne hd] at q
      exact (I.hok b o q).stay (fun c v hc z => k c v (by
          rcases hc with hc | hc
          · rw [hc]
            exact hb
          · exact at_ne e hc exo_own) z)
        (fun c hc => by rw [upd_ne (at_ne e hc exo_own), upd_ne (ne_of_none hc hnd)]; exact hc) (fun c xs hc => by rw [upd_ne (at_ne e hc exo_tup), upd_ne (ne_of_none hc hnd)]; exact hc)
end
/-- self.f = e, the first field -/
def tOstT (K : PySem.W.Frag) (f : Str) (to te : TE) : TS := fun D σ H => te σ H fun y H1 => to σ H1 fun x H2 => ∃ a C : Addr, x = .ref a ∧ OexT K C ∧ PySem.W.findIn K (.ref C) f = some none ∧
  H2 a = some (exo a C none) ∧ ∀ dx, H2 dx = none → dx ≠ a → D.nx σ (upd (upd H2 dx (exd dx [(f, y)])) a (exo a C (some dx)))
/-- C(e, ..), C's own __init__ keeping sp -/
def tMkT (C : Addr) (sp : Sp) (dvs : List V) (ta : TA) : L2.St → Hp → XK → Prop := fun σ H Q => ta σ H fun vs H1 => vs.length ≤ 1000 ∧ ∀ a, H1 a = none → sp (.ref a :: (vs ++ dvs)) (upd H1 a (exo a C none))
  (fun v H2 => v = .non ∧ ∃ (d : Addr) (fs : List (Str × V)), H2 a = some (exo a C (some d)) ∧ H2 d = some (exd d fs) ∧ H1 d = none ∧ Q (.ref C) (some d) (upd (L2.del H2 a) d (.xd fs))) (fun _ _ _ => False)
section
variable {X : Cx} {o e : Expr} {es : List Expr} {to te : TE} {ta : TA} {f : Str} {p p' p1 p2 pos : Pos}
theorem ps_ostT (ho : PE X o to) (he : PE X e te) (hs : swapsWith e (some (.Attribute o f p')) pos.line X.env = pure false := by rfl) : PS X (.Assign [.Attribute o f p'] e pos) (tOstT X.K f to te) := by
  refine ⟨fun pins s σ H D I h => ?_⟩
  refine plainObj_wpAny_Assign_Attribute (thn (he.run pins s σ H _ I h) fun v s1 ⟨y, H1, I1, r1, q1⟩ => thn (ho.run pins s1 σ H1 _ I1 q1) fun u s2 ⟨x, H2, I2, r2, a, C, ex, T, hno, ea, q⟩ => ?_) hs
  subst ex
  obtain rfl : u = Value.ref a := r2
  exact ost_newT T I2 ea hno r1 fun dx s' n ne J => ⟨σ, _, J, q dx n ne⟩
theorem pmk_oexT {CX : CXT} {x : Str} {C fI : Addr} {k : Nat} {fd : FuncData} {ps : List Str} {sp : Sp} {ds : List Value} {dvs : List V} (T : OexT X.K C) (iC : PySem.W.findIn X.K (.ref C) "__init__" = some (some (.ref fI))) (tI : PySem.W.typeIn X.K (.ref fI) = some (.type "function"))
    (F1 : FnOk X.prog X.w X.K X.mg X.base CX k fI fd ps sp) (hr : Room (k + 1) X.A) (hb : Binds X.K fd ps ds) (hd : Vals dvs ds) (hx : Passes CX X (fun _ _ _ => False)) (hg : Gl X x) (hm : X.mg x = some (.ref C)) (ha : PA X (e :: es) ta)
    (hdb : (x == ("__debug__" : Str)) = false := by decide) (he : starEach (e :: es) X.env = (false, eval e X.env) :: starEach es X.env := by rfl) (hpl : (backTo pos (starEach es X.env)).any (·.1) = false := by rfl) :
    PMk X (.Call (.Name x p) (e :: es) [] pos) (tMkT C sp dvs ta) := by
  intro pins s σ H Q I h
  obtain ⟨tl, nid, T0, nm, q, N, bs, bm, sn, sub, ab, col, dd, k0, k1, k2, k3, k5, hC, hbm⟩ := T.cls
  obtain ⟨B, iid, FB⟩ := T0.base
  refine wpAny_Call_Name_kw (ld_glob I hg hm ?_ hdb)
  refine PySem.W.callWith_K (h₀ := X.base) I.ok.mod.kin T.kC (thn (ha.run pos pins s σ H _ I h) fun us s1 ⟨vs, H1, I1, r1, hz, q1⟩ => ⟨I1.kIn, ?_⟩) he hpl
  show wpAny _ _ (call (.ref C) us) _ _ _
  obtain ⟨hp, g, dr, tk, os⟩ := s1
  have hsz : hp.objs.size ≤ hp.objs.size + 1 := Nat.le_succ _
  have hn : H1 (hp.objs.size + 1) = none := I1.hok.fresh hsz
  have hq := q1 (hp.objs.size + 1) hn
  have kk : ∀ b o, hp.get? b = some o → ((hp.push (PySem.W.kdv_tup us)).push (PySem.HandSPX.excO C hp.objs.size)).get? b = some o := fun b o e => Heap.get?_push_of_some _ (Heap.get?_push_of_some _ e)
  have hget : ((hp.push (PySem.W.kdv_tup us)).push (PySem.HandSPX.excO C hp.objs.size)).get? (hp.objs.size + 1) = some (PySem.HandSPX.excO C hp.objs.size) := by heap_get
  have I2 : Inv X pins σ (upd H1 (hp.objs.size + 1) (exo (hp.objs.size + 1) C none)) ⟨(hp.push (PySem.W.kdv_tup us)).push (PySem.HandSPX.excO C hp.objs.size), g, dr, tk, os⟩ :=
    I1.laid (t' := tk) (a := hp.objs.size + 1) (o := exo (hp.objs.size + 1) C none) (h' := (hp.push (PySem.W.kdv_tup us)).push (PySem.HandSPX.excO C hp.objs.size)) kk hsz (exo_ok hget)
  have r2 : Vals (V.ref (hp.objs.size + 1) :: (vs ++ dvs)) (Value.ref (hp.objs.size + 1) :: (us ++ ds)) := .cons rfl (r1.append hd)
  have hl : (Value.ref (hp.objs.size + 1) :: us ++ ds).length = ps.length := by
    have e := r2.length
    rw [F1.len _ _ _ _ hq] at e
    exact e.symm
  have hus : us.length ≤ sizeLine := by
    rw [← Paired.length r1, sizeLine_eq]
    omega
  refine wpAny_call (PySem.HandSPX.call_own FB (fun Y => T0.has Y bm hbm) (I1.kIn _ _ hC) (PySem.W.looks_findIn I1.kIn iC) (fun self => PySem.W.bind_fn I1.kIn self tI) hus
    (codeAny_mono (F1.run _ X.stack _ _ ⟨Value.ref (hp.objs.size + 1) :: us, []⟩ (Value.ref (hp.objs.size + 1) :: (us ++ ds)) _ _ (fun _ _ _ => False) (hr.make C us []) (I2.env0.make C us []) (hb _ (Value.ref (hp.objs.size + 1) :: us) I2.kIn hl) r2 hq) fun r s' hq' => ?_))
  cases r with
  | error er => exact hx pins σ _ _ er s' I2 hq'
  | ok fl =>
    cases fl with
    | ret u =>
      obtain ⟨v, H2, os2, bare2, un2, hok2, rv, ev, d, fs, ea, ed, hd1, q2⟩ := hq'
      subst ev
      obtain ⟨h2, g2, d2, t2, os'⟩ := s'
      exact ⟨rv, mk_end (raises_own T.exC T.tyC) I1 hsz kk un2 hok2 os2 bare2 ea ed hd1 q2⟩
    | next => exact False.elim hq'
    | brk => exact False.elim hq'
    | cont => exact False.elim hq'
end
/-! ### several clauses, each with a name; a clause of one class or of two -/
abbrev TsA := Addr → Value → Option Addr → TS
abbrev ClA := Value × Nat × TsA × Option (Value × TsA)
abbrev endA (D : Ends) (i : Nat) : Ends := { nx := fun σ' H' => D.nx (σ'.set i none) H', rt := D.rt, bk := fun σ' H' => D.bk (σ'.set i none) H', ct := fun σ' H' => D.ct (σ'.set i none) H' }
def wManyA (K : PySem.W.Frag) (Wout : WX) (D : Ends) : List ClA → WX
  | [] => Wout
  | (c, i, ts, none) :: r => fun cls d σ H => ∃ b, PySem.W.exmOne K cls c = some b ∧ (b = true → ∀ a, H a = none → ts a cls d (endA D i) (σ.set i (some (.ref a))) H) ∧ (b = false → wManyA K Wout D r cls d σ H)
  | (c, i, ts, some (c2, ts2)) :: r => fun cls d σ H => ∃ b b2, PySem.W.exmOne K cls c = some b ∧ PySem.W.exmOne K cls c2 = some b2 ∧ (b = true → ∀ a, H a = none → ts a cls d (endA D i) (σ.set i (some (.ref a))) H) ∧
      (b = false → b2 = true → ∀ a, H a = none → ts2 a cls d (endA D i) (σ.set i (some (.ref a))) H) ∧ (b = false → b2 = false → wManyA K Wout D r cls d σ H)
inductive HdsA (X : Cx) : List ExceptHandler → List ClA → Prop
  | nil : HdsA X [] []
  | cons {x n : Str} {c : Value} {i : Nat} {ts : TsA} {b₀ : Stmt} {suite : List Stmt} {np pos' : Pos} {hds : List ExceptHandler} {l : List ClA} (hc : Names X x c) (hi : X.N[i]? = some n) (hln : X.env.kindOf n = some .local)
      (hsu : ∀ (a : Addr) (oe : Obj) (cls : Value) (d : Option Addr) (pn : List (Addr × Obj)), Zc cls d oe → (∃ vs, oe.data = .fields vs) → PSs (X.suite a ((a, oe) :: pn)) (b₀ :: suite) (ts a cls d)) (r : HdsA X hds l) :
      HdsA X (.ExceptHandler (some (.Name x np)) (some n) (b₀ :: suite) pos' :: hds) ((c, i, ts, none) :: l)
  | cons2 {x x2 n : Str} {c c2 : Value} {i : Nat} {ts ts2 : TsA} {b₀ : Stmt} {suite : List Stmt} {np np2 tp pos' : Pos} {k : Nat} {hds : List ExceptHandler} {l : List ClA} (hc : Names X x c) (hc2 : Names X x2 c2) (hi : X.N[i]? = some n) (hln : X.env.kindOf n = some .local)
      (hsu : ∀ (a : Addr) (oe : Obj) (cls : Value) (d : Option Addr) (pn : List (Addr × Obj)), Zc cls d oe → (∃ vs, oe.data = .fields vs) → PSs (X.suite a ((a, oe) :: pn)) (b₀ :: suite) (ts a cls d))
      (hsu2 : ∀ (a : Addr) (oe : Obj) (cls : Value) (d : Option Addr) (pn : List (Addr × Obj)), Zc cls d oe → (∃ vs, oe.data = .fields vs) → PSs (X.suite a ((a, oe) :: pn)) (b₀ :: suite) (ts2 a cls d)) (r : HdsA X hds l) :
      HdsA X (.ExceptHandler (some (.Tuple [.Name x np, .Name x2 np2] k tp)) (some n) (b₀ :: suite) pos' :: hds) ((c, i, ts, some (c2, ts2)) :: l)
theorem flying_keep {base h h' : Heap} {l : List Env} {e : Addr} {Z : Obj → Prop} (k : ∀ b o, h.get? b = some o → h'.get? b = some o) (f : HandSPX.FlyingZ base l e Z h) : HandSPX.FlyingZ base l e Z h' :=
  ⟨fun b o q => k _ _ (f.1 b o q), f.2.1, Heap.FunFrames.of_keeps (fun b o q _ => ⟨o, k b o q, rfl⟩) f.2.2.1, by
    obtain ⟨oe, vs, T, oT, ts, e1, z, d, v1, bT, ne, e2, d2, t3⟩ := f.2.2.2
    exact ⟨oe, vs, T, oT, ts, k _ _ e1, z, d, v1, bT, ne, k _ _ e2, d2, t3⟩⟩
section
variable {X : Cx} {body : List Stmt} {h₀ : ExceptHandler} {hds : List ExceptHandler} {l : List ClA} {pos : Pos} {tb : WX → TS} {Wout : WX}
theorem ps_try_manyA (hs : X.stack = X.env :: X.outer) (hf : X.env.frame = some X.env.locals) (hN : X.N.Nodup) (tk : Takes X Wout)
    (hb : ∀ (W : WX) (pn : List (Addr × Obj)) (xe : Value → Shared → Prop), Takes (X.tr pn xe) W → PassesOwn (model X.prog X.w) X.A X.env xe → PSs (X.tr pn xe) body (tb W))
    (hh : HdsA X (h₀ :: hds) l) : PS X (.Try body (h₀ :: hds) [] [] pos) (fun D σ H => tb (wManyA X.K Wout D l) D σ H) := by
  refine ⟨fun pins s σ H D I h => ?_⟩
  have ok := I.ok
  have hfr : X.A.frames = some (X.env :: X.outer) := by rw [ok.frames, hs]
  refine wpAny_Try_except ?_
  refine wpAny_mono ((hb (wManyA X.K Wout D l) (X.pn ++ pins) (fun e s₁ => wpAny (model X.prog X.w) X.A (noteFrame e X.env) (fun _ s₂ => wpAny (model X.prog X.w) X.A (setFlight e none) (fun _ s₃ =>
    wpAny (model X.prog X.w) X.A (handleBy e X.env (h₀ :: hds)) (SP X pins D) X.xe s₃) X.xe s₂) X.xe s₁) (fun u s' xx => ?_) PassesOwn.looking).run [] s σ H D (I.toTry _) h) (fun f s1 hsp => ?_) (fun e s1 he => he)
  · obtain ⟨a, B, sI, pins', σ', H', cls, d, rfl, J', nb, up, sky, na, os, ag, w⟩ := xx
    have J : Inv X pins σ' H' sI := J'.ofTry ok
    have sky' : Sky B (X.env :: X.outer) a (Zc cls d) X.env.locals s'.heap := by rw [← hs]; exact sky
    show wpAny (model X.prog X.w) X.A (noteFrame (.ref a) X.env) _ _ _
    refine Sky.land Zc.steady hfr hf sky' fun h3 fl3 up3 => ?_
    have J3 : Inv X pins σ' H' { s' with heap := h3 } := J.landed nb fl3.1 (up.trans up3) os ag
    obtain ⟨oe3, vs3, he3, hz3, hd3⟩ := fl3.there
    have notFr : ∀ {h : Heap} {o : Obj} {vs : Array Value}, h.FunFrames B (X.env :: X.outer) → h.get? a = some o → o.data = .fields vs → a ∉ frs (X.env :: X.outer) := fun {h o vs} ff e dd hm => by
      obtain ⟨_, o', e', hnf⟩ := ff.mem hm
      rw [e] at e'; cases e'
      exact hnf _ dd
    have nfr := notFr fl3.2.2.1 he3 hd3
    have nL : a ≠ X.env.locals := fun z => nfr (List.mem_filterMap.mpr ⟨X.env, List.mem_cons_self, by rw [hf, z]⟩)
    have nF : a ∉ X.fs := fun hm => by
      obtain ⟨e, he, q⟩ := List.mem_filterMap.mp hm
      exact nfr (List.mem_filterMap.mpr ⟨e, List.mem_cons_of_mem _ he, q⟩)
    have go : ∀ {hds' : List ExceptHandler} {l' : List ClA}, HdsA X hds' l' → ∀ (h3 : Heap), HandSPX.FlyingZ B (X.env :: X.outer) a (Zc cls d) h3 → s'.heap.UpToSlots h3 → wManyA X.K Wout D l' cls d σ' H' →
        wpAny (model X.prog X.w) X.A (handleBy (.ref a) X.env hds') (SP X pins D) X.xe { s' with heap := h3 } := by
      intro hds' l' hk
      induction hk with
      | nil =>
        intro h3 fl3 up3 w
        refine wpAny_handleBy_nil ?_
        obtain ⟨k1, k2, k3, oe, vs, T, oT, ts', he, hz, hd, h1, hr⟩ := id fl3
        unfold PySem.passOn
        refine wpAny_bind (wpAny_field he hd h1 ?_)
        rw [if_neg (show ¬ ((Value.ref T == Value.none) = true) from by simp)]
        have fin : wpAny (model X.prog X.w) X.A (setFlight (.ref a) X.env.frame) (fun _ s4 => wpAny (model X.prog X.w) X.A (throw (.ref a) : Sem Flow) (SP X pins D) X.xe s4) X.xe { s' with heap := h3 } := by
          rw [hf]
          refine HandSPX.setFlight_upZ fl3 fun h4 hh4 up4 => wpAny_throw (tk _ _ ?_)
          exact ⟨a, B, sI, pins, σ', H', cls, d, rfl, J, nb, (up.trans up3).trans up4, .inr (.inr (by rw [hs]; exact hh4)), na, os, ag, w⟩
        first
          | exact wpAny_bind (wpAny_pure (wpAny_bind fin))
          | exact wpAny_bind fin
      | @cons x n c i ts b₀ suite np pos' hds2 l2 hc hi hln hsu r ih =>
        intro h3 fl3 up3 w
        have J3 : Inv X pins σ' H' { s' with heap := h3 } := J.landed nb fl3.1 (up.trans up3) os ag
        obtain ⟨oe3, vs3, he3, hz3, hd3⟩ := fl3.there
        have S3 := J3.suite he3 hd3 na nL nF
        have hloc : Loc X.env.scope n := .inl hln
        obtain ⟨b, hb1, hyes, hno⟩ := w
        refine wpAny_handleBy_cons (codeAny_handlers_test ?_) (by intro q; cases q)
        have LT : PySem.W.Looks (model X.prog X.w) h3 (typeOf (.ref a)) cls := fun A Q E s k q => wpAny_typeOf_ref (k _ _ he3) (by rw [hz3.1]; exact q)
        have LM := PySem.W.exm_one (M := model X.prog X.w) (J3.kIn) LT hb1
        have test : ∀ {Q : Value → Shared → Prop} {E : Value → Shared → Prop}, Q c { s' with heap := h3 } → wpAny (model X.prog X.w) (X.A.mark (some (.ref a))) (eval (.Name x np) X.env) Q E { s' with heap := h3 } := fun {Q E} q => by
          obtain ⟨hg, hdbg, hm | ⟨hm, hv, hnn⟩⟩ := hc
          · exact ld_glob (X := X.suite a ((a, oe3) :: (X.pn ++ pins))) S3 hg hm q hdbg
          · exact ld_blt (X := X.suite a ((a, oe3) :: (X.pn ++ pins))) S3 hg hm hv q hnn hdbg
        refine test (LM.here ?_)
        cases b with
        | true =>
          refine codeAny_handlers_suite_as ?_
          refine HandSPX.lands_againZ fl3 fun h4 fl4 up4 => ?_
          have J4 : Inv X pins σ' H' { s' with heap := h4 } := J.landed nb fl4.1 ((up.trans up3).trans up4) os ag
          obtain ⟨oe4, vs4, he4, hz4, hd4⟩ := fl4.there
          have S4 := J4.suite he4 hd4 na nL nF
          refine store_ok (X := X.suite a ((a, oe4) :: (X.pn ++ pins))) (v := .ref a) S4 hN hi hloc rfl (fun s5 S5 => ?_) (.inr hln)
          refine wpAny_mono ((hsu a oe4 cls d (X.pn ++ pins) hz4 ⟨_, hd4⟩).run [] s5 _ H' _ S5 (hyes rfl a na)) (fun f s6 hsp => ?_) (fun _ _ z => False.elim z)
          have end_ : ∀ {σ6 : L2.St} {H6 : Hp} {Q : Shared → Prop}, Inv (X.suite a ((a, oe4) :: (X.pn ++ pins))) [] σ6 H6 s6 → (∀ s7, Inv X pins (σ6.set i none) H6 s7 → Q s7) →
              wpAny (model X.prog X.w) X.A (do bindName X.env n .none; unbindBehindTheSuite X.env n pos') (fun _ s7 => Q s7) X.xe s6 := fun {σ6 H6 Q} S6 hq => gone_ok (S6.unsuite ok) hN hi hln hq
          cases f with
          | next =>
            obtain ⟨σ6, H6, S6, q6⟩ := hsp
            exact end_ S6 fun s7 J7 => ⟨_, _, J7, q6⟩
          | brk =>
            obtain ⟨σ6, H6, S6, q6⟩ := hsp
            exact end_ S6 fun s7 J7 => ⟨_, _, J7, q6⟩
          | cont =>
            obtain ⟨σ6, H6, S6, q6⟩ := hsp
            exact end_ S6 fun s7 J7 => ⟨_, _, J7, q6⟩
          | ret u =>
            obtain ⟨v6, σ6, H6, S6, r6, q6⟩ := hsp
            exact end_ S6 fun s7 J7 => ⟨_, _, _, J7, r6, q6⟩
        | false =>
          show wpAny _ X.A (handleBy (.ref a) X.env hds2) _ _ _
          exact ih h3 fl3 up3 (hno rfl)
      | @cons2 x x2 n c c2 i ts ts2 b₀ suite np np2 tp pos' k hds2 l2 hc hc2 hi hln hsu hsu2 r ih =>
        intro h3 fl3 up3 w
        have J3 : Inv X pins σ' H' { s' with heap := h3 } := J.landed nb fl3.1 (up.trans up3) os ag
        obtain ⟨oe3, vs3, he3, hz3, hd3⟩ := fl3.there
        have S3 := J3.suite he3 hd3 na nL nF
        have hloc : Loc X.env.scope n := .inl hln
        obtain ⟨b, b2, hb1, hb2, hyes, hyes2, hno⟩ := w
        refine wpAny_handleBy_cons (codeAny_handlers_test ?_) (by intro q; cases q)
        have ld : ∀ {x : Str} {np : Pos} {c : Value} {Q : Value → Shared → Prop} {E : Value → Shared → Prop}, Names X x c → Q c { s' with heap := h3 } → wpAny (model X.prog X.w) (X.A.mark (some (.ref a))) (eval (.Name x np) X.env) Q E { s' with heap := h3 } := fun {x np c Q E} hc q => by
          obtain ⟨hg, hdbg, hm | ⟨hm, hv, hnn⟩⟩ := hc
          · exact ld_glob (X := X.suite a ((a, oe3) :: (X.pn ++ pins))) S3 hg hm q hdbg
          · exact ld_blt (X := X.suite a ((a, oe3) :: (X.pn ++ pins))) S3 hg hm hv q hnn hdbg
        have test : ∀ {Q : Value → Shared → Prop} {E : Value → Shared → Prop}, Q (.ref h3.objs.size) { s' with heap := h3.push { cls := .type "tuple", data := .seq [c, c2].toArray } } → wpAny (model X.prog X.w) (X.A.mark (some (.ref a))) (eval (.Tuple [.Name x np, .Name x2 np2] k tp) X.env) Q E { s' with heap := h3 } := fun {Q E} q =>
          wpAny_Tuple_spliced (PyProof.Rows.args_cons (ld hc (PyProof.Rows.args_cons (ld hc2 (PyProof.Rows.args_nil ⟨(show 2 ≤ sizeLine by rw [sizeLine_eq]; omega), q⟩)))))
        have kp : ∀ b o, h3.get? b = some o → (h3.push { cls := .type "tuple", data := .seq [c, c2].toArray }).get? b = some o := fun b o e => Heap.get?_push_of_some _ e
        have fl5 := flying_keep kp fl3
        have up5 : s'.heap.UpToSlots (h3.push { cls := .type "tuple", data := .seq [c, c2].toArray }) := up3.trans (Heap.UpToSlots.of_keeps kp)
        have J5 : Inv X pins σ' H' { s' with heap := h3.push { cls := .type "tuple", data := .seq [c, c2].toArray } } := J.landed nb fl5.1 (up.trans up5) os ag
        have LT : PySem.W.Looks (model X.prog X.w) (h3.push { cls := .type "tuple", data := .seq [c, c2].toArray }) (typeOf (.ref a)) cls := fun A Q E s k q => wpAny_typeOf_ref (k _ _ (kp _ _ he3)) (by rw [hz3.1]; exact q)
        have hany : PySem.W.exmAny X.K cls [c, c2] = some (b || (b2 || false)) := by
          unfold PySem.W.exmAny
          rw [hb1]
          unfold PySem.W.exmAny
          rw [hb2]
          rfl
        have LM := PySem.W.exm_tup2 (M := model X.prog X.w) (J5.kIn) LT (Heap.get?_push_size _ rfl) hany
        refine test (LM.here ?_)
        cases b with
        | true =>
          refine codeAny_handlers_suite_as ?_
          refine HandSPX.lands_againZ fl5 fun h4 fl4 up4 => ?_
          have J4 : Inv X pins σ' H' { s' with heap := h4 } := J.landed nb fl4.1 ((up.trans up5).trans up4) os ag
          obtain ⟨oe4, vs4, he4, hz4, hd4⟩ := fl4.there
          have S4 := J4.suite he4 hd4 na nL nF
          refine store_ok (X := X.suite a ((a, oe4) :: (X.pn ++ pins))) (v := .ref a) S4 hN hi hloc rfl (fun s5 S5 => ?_) (.inr hln)
          refine wpAny_mono ((hsu a oe4 cls d (X.pn ++ pins) hz4 ⟨_, hd4⟩).run [] s5 _ H' _ S5 (hyes rfl a na)) (fun f s6 hsp => ?_) (fun _ _ z => False.elim z)
          have end_ : ∀ {σ6 : L2.St} {H6 : Hp} {Q : Shared → Prop}, Inv (X.suite a ((a, oe4) :: (X.pn ++ pins))) [] σ6 H6 s6 → (∀ s7, Inv X pins (σ6.set i none) H6 s7 → Q s7) →
              wpAny (model X.prog X.w) X.A (do bindName X.env n .none; unbindBehindTheSuite X.env n pos') (fun _ s7 => Q s7) X.xe s6 := fun {σ6 H6 Q} S6 hq => gone_ok (S6.unsuite ok) hN hi hln hq
          cases f with
          | next =>
            obtain ⟨σ6, H6, S6, q6⟩ := hsp
            exact end_ S6 fun s7 J7 => ⟨_, _, J7, q6⟩
          | brk =>
            obtain ⟨σ6, H6, S6, q6⟩ := hsp
            exact end_ S6 fun s7 J7 => ⟨_, _, J7, q6⟩
          | cont =>
            obtain ⟨σ6, H6, S6, q6⟩ := hsp
            exact end_ S6 fun s7 J7 => ⟨_, _, J7, q6⟩
          | ret u =>
            obtain ⟨v6, σ6, H6, S6, r6, q6⟩ := hsp
            exact end_ S6 fun s7 J7 => ⟨_, _, _, J7, r6, q6⟩
        | false =>
          cases b2 with
          | true =>
            refine codeAny_handlers_suite_as ?_
            refine HandSPX.lands_againZ fl5 fun h4 fl4 up4 => ?_
            have J4 : Inv X pins σ' H' { s' with heap := h4 } := J.landed nb fl4.1 ((up.trans up5).trans up4) os ag
            obtain ⟨oe4, vs4, he4, hz4, hd4⟩ := fl4.there
            have S4 := J4.suite he4 hd4 na nL nF
            refine store_ok (X := X.suite a ((a, oe4) :: (X.pn ++ pins))) (v := .ref a) S4 hN hi hloc rfl (fun s5 S5 => ?_) (.inr hln)
            refine wpAny_mono ((hsu2 a oe4 cls d (X.pn ++ pins) hz4 ⟨_, hd4⟩).run [] s5 _ H' _ S5 (hyes2 rfl rfl a na)) (fun f s6 hsp => ?_) (fun _ _ z => False.elim z)
            have end_ : ∀ {σ6 : L2.St} {H6 : Hp} {Q : Shared → Prop}, Inv (X.suite a ((a, oe4) :: (X.pn ++ pins))) [] σ6 H6 s6 → (∀ s7, Inv X pins (σ6.set i none) H6 s7 → Q s7) →
                wpAny (model X.prog X.w) X.A (do bindName X.env n .none; unbindBehindTheSuite X.env n pos') (fun _ s7 => Q s7) X.xe s6 := fun {σ6 H6 Q} S6 hq => gone_ok (S6.unsuite ok) hN hi hln hq
            cases f with
            | next =>
              obtain ⟨σ6, H6, S6, q6⟩ := hsp
              exact end_ S6 fun s7 J7 => ⟨_, _, J7, q6⟩
            | brk =>
              obtain ⟨σ6, H6, S6, q6⟩ := hsp
              exact end_ S6 fun s7 J7 => ⟨_, _, J7, q6⟩
            | cont =>
              obtain ⟨σ6, H6, S6, q6⟩ := hsp
              exact end_ S6 fun s7 J7 => ⟨_, _, J7, q6⟩
            | ret u =>
              obtain ⟨v6, σ6, H6, S6, r6, q6⟩ := hsp
              exact end_ S6 fun s7 J7 => ⟨_, _, _, J7, r6, q6⟩
          | false =>
            show wpAny _ X.A (handleBy (.ref a) X.env hds2) _ _ _
            exact ih _ fl5 up5 (hno rfl rfl)
    exact go hh h3 fl3 up3 w
  · cases f with
    | next =>
      obtain ⟨σ', H', J', q⟩ := hsp
      exact wpAny_execs_nil ⟨σ', H', J'.ofTry ok, q⟩
    | brk =>
      obtain ⟨σ', H', J', q⟩ := hsp
      exact ⟨σ', H', J'.ofTry ok, q⟩
    | cont =>
      obtain ⟨σ', H', J', q⟩ := hsp
      exact ⟨σ', H', J'.ofTry ok, q⟩
    | ret u =>
      obtain ⟨v, σ', H', J', r, q⟩ := hsp
      exact ⟨v, σ', H', J'.ofTry ok, r, q⟩
end
end Tf

set_option Elab.async false
set_option linter.all false
set_option maxRecDepth 100000
set_option maxHeartbeats 4000000
/-! Tf: raise, try .. except as. -/
namespace Tf
open PySem PySem.Spec PyProof.Rows L2
/-- y names a class -/
def FactV (mg : Str → Option Value) (y : Str) (c : V) (u : Value) : Prop :=
  (∃ C2 : Addr, mg y = some (.ref C2) ∧ c = .ref C2 ∧ u = .ref C2) ∨ ∃ T : String, mg y = none ∧ bootBuiltins y = some (.type T) ∧ c = .ty T ∧ u = .type T
theorem FactV.one {mg : Str → Option Value} {y : Str} {c c2 : V} {u u2 : Value} (a : FactV mg y c u) (b : FactV mg y c2 u2) : c = c2 ∧ u = u2 := by
  rcases a with ⟨C, m, rfl, rfl⟩ | ⟨T, m, h, rfl, rfl⟩ <;> rcases b with ⟨C2, m2, rfl, rfl⟩ | ⟨T2, m2, h2, rfl, rfl⟩
  · rw [m] at m2; cases m2; exact ⟨rfl, rfl⟩
  · rw [m] at m2; cases m2
  · rw [m] at m2; cases m2
  · rw [h] at h2; cases h2; exact ⟨rfl, rfl⟩
theorem FactV.rel {mg : Str → Option Value} {y : Str} {c : V} {u v : Value} (a : FactV mg y c u) (r : RelV c v) : v = u := by
  rcases a with ⟨C, m, rfl, rfl⟩ | ⟨T, m, h, rfl, rfl⟩ <;> exact r
theorem FactV.has {mg : Str → Option Value} {y : Str} {c : V} {u : Value} (a : FactV mg y c u) : RelV c u := by
  rcases a with ⟨C, m, rfl, rfl⟩ | ⟨T, m, h, rfl, rfl⟩ <;> rfl
/-- y names a class; whether C is one of them -/
def FactI (K : PySem.W.Frag) (mg : Str → Option Value) (C : Addr) (y : Str) (b : Bool) : Prop :=
  ∃ c u, FactV mg y c u ∧ PySem.W.kitOne K (.ref C) u = some b ∧ PySem.W.exmOne K (.ref C) u = some b
/-- what __init__(self, v): self.f = v does -/
def spI (K : PySem.W.Frag) (f : Str) : Sp := fun vs H Q _ => ∃ (a : Addr) (x : V) (C : Addr), vs = [.ref a, x] ∧ OexT K C ∧ PySem.W.findIn K (.ref C) f = some none ∧ H a = some (exo a C none) ∧ ∀ dx, H dx = none → dx ≠ a → Q .non (upd (upd H dx (exd dx [(f, x)])) a (exo a C (some dx)))
/-- a class of exceptions with one field -/
structure FactC (P : Program) (w : World) (K : PySem.W.Frag) (mg : Str → Option Value) (base : Heap) (c f : Str) (C : Addr) : Prop where
  at_ : mg c = some (.ref C)
  oex : OexT K C
  xf : XfC K C
  no : PySem.W.findIn K (.ref C) f = some none
  isa : PySem.W.findIn K (.ref C) "__class__" = some (some (.builtin "object.__class__"))
  isn : PySem.W.specialIn K (.builtin "object.__class__") "__get__" = some (some (.builtin "getset_descriptor.__get__"))
  ist : PySem.W.takesIn K (.builtin "object.__class__") = some true
  ism : PySem.W.mroIn K C (.type "object") = some true
  cl : (PySem.W.clsIn K C).isSome = true
  mkr : ∃ (fI : Addr) (fd : FuncData) (p1 p2 : Str), PySem.W.findIn K (.ref C) "__init__" = some (some (.ref fI)) ∧ PySem.W.typeIn K (.ref fI) = some (.type "function") ∧ FnOk P w K mg base (L2.CX P w) 1 fI fd [p1, p2] (spI K f) ∧ Binds K fd [p1, p2] []
def FactD (P : Program) (w : World) (K : PySem.W.Frag) (mg : Str → Option Value) (base : Heap) (c f : Str) (ys ns : List Str) : Prop := ∃ C, FactC P w K mg base c f C ∧ (∀ y ∈ ys, FactI K mg C y true) ∧ ∀ y ∈ ns, FactI K mg C y false
def FactOk (X : Cx) (c f : Str) (ys ns : List Str) : Prop := FactD X.prog X.w X.K X.mg X.base c f ys ns
theorem upd_end {H : Hp} {a d : Addr} {o1 o2 o3 o4 : HO} (ha : H a = none) (hd : H d = none) (ne : d ≠ a) : upd (del (upd (upd (upd H a o1) d o2) a o3) a) d o4 = upd H d o4 := by
  funext b
  by_cases h : b = d
  · subst h; rw [upd_same, upd_same]
  · rw [upd_ne h, upd_ne h]
    by_cases h2 : b = a
    · subst h2; rw [del_same, ha]
    · rw [del_ne h2, upd_ne h2, upd_ne h, upd_ne h2]
section
variable {X : Cx} {c : Sc} {W : WX} {wa : WK D} {a : Expr} {pos p pos2 : Pos}
theorem s_raise (ok : XOk c X W) (hk : 2 ≤ c.k) {x f : Str} (F : FactOk X x f [] []) (hx : glB c x = true) (hs : notStar a = true) (ha : PE X a (tE X.K X.mg W wa)) :
    PS X (.Raise (some (.Call (.Name x p) [a] [] pos)) none pos2) (tS X.K X.mg W fun δ μ N => wa δ μ N.ex fun d μ1 => N.ex ⟨x, [(f, d)]⟩ μ1) := by
  obtain ⟨C, FC, _, _⟩ := F
  obtain ⟨fI, fd, p1, p2, i1, i2, fok, bi⟩ := FC.mkr
  refine PS_imp (ps_raise (W := W) ok.calm ok.tk (pmk_oexT (sp := spI X.K f) (ds := []) (dvs := []) FC.oex i1 i2 fok (ok.rm.mono hk) bi .nil (fun _ _ _ _ _ _ _ z => ?_) (ok.gl hx) FC.at_ (pa_cons ha pa_nil (notStar_each hs)) (glB_ok hx).2.1 (notStar_each hs))) fun D σ H h => ?_
  · obtain ⟨_, _, _, _, _, _, _, _, _, _, _, _, z⟩ := z
    exact z.elim
  · obtain ⟨δ, G, μ, Φ, N, hE, hR, hw, en⟩ := h
    refine ⟨δ, G, μ, Φ, _, _, hE, hR, hw, fun d μ1 G1 H1 v q1 s1 R1 p1 => ?_, en.ex σ⟩
    · refine ⟨by simp, fun b hb => ?_⟩
      refine ⟨b, v, C, rfl, FC.oex, FC.no, upd_same, fun dx hdx ne => ⟨rfl, dx, [(f, v)], upd_same, by rw [upd_ne ne, upd_same], ?_, ?_⟩⟩
      · rw [upd_ne ne] at hdx; exact hdx
      · have hdx' : H1 dx = none := by rw [upd_ne ne] at hdx; exact hdx
        rw [upd_end hb hdx' ne]
        obtain ⟨s2, R2⟩ := R1.new hdx' (.xd [(f, v)])
        exact en.ex σ _ μ1 _ _ _ _ q1 (s1.trans s2) R2 ⟨C, FC.at_, rfl, dx, v, rfl, upd_same, p1.mono s2⟩
end
/-! ### the except suite -/
theorem vals_fact {mg : Str → Option Value} : ∀ {ys : List Str} {cs : List (V × Value)} {its : List Value}, Paired (fun y p => FactV mg y p.1 p.2) ys cs → Vals (cs.map (·.1)) its → its = cs.map (·.2)
  | [], [], its, _, r => by cases r; rfl
  | y :: ys, p :: cs, its, .cons h1 h2, r => by
    cases r with
    | cons r1 r2 => rw [h1.rel r1, vals_fact h2 r2]; rfl
section
variable {X : Cx} {a C : Addr} {oe : Obj} {cls : Value} {d : Option Addr} {pn : List (Addr × Obj)}
def rIsX (K : PySem.W.Frag) (mg : Str → Option Value) (C a : Addr) (d : Option Addr) : List V → Hp → VK → Prop := fun xs H Q => ∃ c, xs = [.ref a, c] ∧ (∃ dd fs, d = some dd ∧ H dd = some (.xd fs)) ∧ ∃ b, Q (.bl b) H ∧
  ((∃ y u, FactV mg y c u ∧ PySem.W.kitOne K (.ref C) u = some b) ∨ ∃ (t : Addr) (ys : List Str) (cs : List (V × Value)), c = .ref t ∧ Paired (fun y p => FactV mg y p.1 p.2) ys cs ∧ SqT K H t (cs.map (·.1)) ∧ PySem.W.kitAny K (.ref C) (cs.map (·.2)) = some b)
theorem call_isX {P : Program} {w : World} {mg : Str → Option Value} {base : Heap} {cn f : Str} (F : FactC P w X.K mg base cn f C) (hz : Zc (.ref C) d oe) (hf : ∃ vs, oe.data = .fields vs) : CallR (X.suite a ((a, oe) :: pn)) (.builtin "isinstance") (rIsX X.K mg C a d) := by
  intro pins s σ H xs us Q I r h
  obtain ⟨c, rfl, ⟨dd, fs, rfl, ea⟩, b, q, h⟩ := h
  cases r with
  | cons rx rr =>
    cases rr with
    | cons rt rr =>
      cases rr
      cases rx
      obtain ⟨hget, _⟩ := I.pin (a, oe) (List.mem_append.mpr (.inl List.mem_cons_self))
      obtain ⟨vs, hv⟩ := hf
      have hx : ObjOk X.prog X.w H s.heap dd (.xd fs) := I.hok dd _ ea
      obtain ⟨mA, hns, hr⟩ := hx
      obtain ⟨od, ho, hl⟩ := lookIn_ns hns
      have J : PySem.W.InstAt s.heap a oe C (some od) := ⟨hget, hz.1, by unfold PySem.W.notCls; rw [hv] <;> rfl, by rw [hz.2]; exact ho⟩
      have Z := PySem.W.kitx_exc (x := a) (ox := oe) (od := some od) F.cl F.xf.ga F.xf.gg F.xf.exC F.isa F.isn F.ist F.ism
      rcases h with ⟨y, u, fv, e⟩ | ⟨t, ys, cs, rfl, pr, hs, e⟩
      · rw [fv.rel rt]
        exact PySem.W.kia_one Z I.kIn J e (fun z => nomatch z) fun tk => ⟨.bl b, H, I.kept (t' := tk) fun _ _ z => z, rfl, q⟩
      · cases rt
        obtain ⟨its, rv, ⟨o, ho2, hc, n, hd⟩, _⟩ := I.tuple hs
        have ei := vals_fact pr rv
        subst ei
        obtain ⟨oc, odd, oda, osl⟩ := o
        dsimp only at hc hd
        subst hc hd
        exact PySem.W.kia_tup Z I.kIn J ho2 e (fun z => nomatch z) fun tk => ⟨.bl b, H, I.kept (t' := tk) fun _ _ z => z, rfl, q⟩
end
/-- an expression of the suite as a reading -/
def tH (K : PySem.W.Frag) (mg : Str → Option Value) (t : ETab) (x : Ex) (a : Addr) (i : Nat) (cls : Value) (d : Option Addr) (h : HE) : TE := fun σ H Q =>
  ∃ G δ μ Φ dv, RepX K mg G x cls d ∧ RelE K G δ σ ∧ Rel K G μ Φ H ∧ σ[i]? = some (some (.ref a)) ∧ hE t x δ h = some dv ∧ ∀ G' H' v, Same G G' → Rel K G' μ Φ H' → Rep K G' dv v → Q v H'
def tHL (K : PySem.W.Frag) (mg : Str → Option Value) (t : ETab) (x : Ex) (a : Addr) (i : Nat) (cls : Value) (d : Option Addr) (h : List HE) : TA := fun σ H Q =>
  ∃ G δ μ Φ ds, RepX K mg G x cls d ∧ RelE K G δ σ ∧ Rel K G μ Φ H ∧ σ[i]? = some (some (.ref a)) ∧ hL t x δ h = some ds ∧ ∀ G' H' vs, Same G G' → Rel K G' μ Φ H' → RepL K G' ds vs → Q vs H'
def tHT (K : PySem.W.Frag) (mg : Str → Option Value) (t : ETab) (x : Ex) (a : Addr) (i : Nat) (cls : Value) (d : Option Addr) (h : HE) : TT := fun σ H Q =>
  ∃ G δ μ Φ k, RepX K mg G x cls d ∧ RelE K G δ σ ∧ Rel K G μ Φ H ∧ σ[i]? = some (some (.ref a)) ∧ hE t x δ h = some (.bl k) ∧ ∀ G' H', Same G G' → Rel K G' μ Φ H' → Q k H'
theorem RepX.mono {K : PySem.W.Frag} {mg : Str → Option Value} {G G' : Hp} {x : Ex} {cls : Value} {d : Option Addr} (h : RepX K mg G x cls d) (s : Same G G') : RepX K mg G' x cls d := by
  obtain ⟨C, h1, h2, h3⟩ := h
  refine ⟨C, h1, h2, ?_⟩
  split at h3
  · exact h3
  · obtain ⟨a, v, e1, e2, e3⟩ := h3
    exact ⟨a, v, e1, s _ _ e2, e3.mono s⟩
  · exact h3
/-- what the table says -/
theorem mem_look {c f : Str} {ys ns : List Str} : ∀ {t : ETab}, t.lookup c = some (f, ys, ns) → (c, f, ys, ns) ∈ t
  | [], z => by cases z
  | p :: t, z => by
    obtain ⟨q, r⟩ := p
    rw [List.lookup_cons] at z
    split at z
    · rename_i e2
      have e3 : c = q := by simpa using e2
      cases z
      rw [e3]
      exact List.mem_cons_self
    · exact List.mem_cons_of_mem _ (mem_look z)
theorem isT_fact {X : Cx} {t : ETab} (hT : ∀ p ∈ t, FactOk X p.1 p.2.1 p.2.2.1 p.2.2.2) {c y : Str} {b : Bool} {C : Addr} (h : isT t c y = some b) (hC : X.mg c = some (.ref C)) :
    ∃ f, FactC X.prog X.w X.K X.mg X.base c f C ∧ FactI X.K X.mg C y b := by
  unfold isT at h
  split at h
  · rename_i f ys ns e
    have hm : ∃ p ∈ t, p = (c, f, ys, ns) := by
      have : ∀ t : ETab, t.lookup c = some (f, ys, ns) → (c, f, ys, ns) ∈ t := fun t => by
        induction t with
        | nil => intro z; cases z
        | cons p t ih =>
          intro z
          obtain ⟨q, r⟩ := p
          rw [List.lookup_cons] at z
          split at z
          · rename_i e2
            have e3 : c = q := by simpa using e2
            cases z
            rw [e3]
            exact List.mem_cons_self
          · exact List.mem_cons_of_mem _ (ih z)
      exact ⟨_, this t e, rfl⟩
    obtain ⟨p, hp, rfl⟩ := hm
    obtain ⟨C2, F, h1, h2⟩ := hT _ hp
    have ec : C2 = C := by
      have := F.at_.symm.trans hC
      cases this
      rfl
    subst ec
    refine ⟨f, F, ?_⟩
    by_cases c1 : y ∈ ys
    · rw [if_pos c1] at h; cases h; exact h1 y c1
    · rw [if_neg c1] at h
      by_cases c2 : y ∈ ns
      · rw [if_pos c2] at h; cases h; exact h2 y c2
      · rw [if_neg c2] at h; cases h
  · cases h
theorem anyT_fact {X : Cx} {t : ETab} (hT : ∀ p ∈ t, FactOk X p.1 p.2.1 p.2.2.1 p.2.2.2) {c : Str} {C : Addr} (hC : X.mg c = some (.ref C)) : ∀ {ys : List Str} {b : Bool}, anyT t c ys = some b →
    ∃ cs : List (V × Value), Paired (fun y p => FactV X.mg y p.1 p.2) ys cs ∧ PySem.W.kitAny X.K (.ref C) (cs.map (·.2)) = some b
  | [], b, h => by cases h; exact ⟨[], .nil, rfl⟩
  | y :: ys, b, h => by
    rw [anyT] at h
    split at h
    · rename_i b1 b2 e1 e2
      cases h
      obtain ⟨f, _, cv, u, m2, k2, _⟩ := isT_fact hT e1 hC
      obtain ⟨cs, p, k⟩ := anyT_fact hT hC e2
      refine ⟨(cv, u) :: cs, .cons m2 p, ?_⟩
      rw [List.map_cons, PySem.W.kitAny, k2]
      cases b1
      · exact k
      · rfl
    · cases h
/-- names of classes -/
def namesB (c : Sc) : List Str → List Expr → Bool
  | [], [] => true
  | y :: ys, .Name z _ :: es => decide (z = y) && glB c z && namesB c ys es
  | _, _ => false
/-- isinstance(e, ..) -/
def isiB (c : Sc) (i : Nat) (n : Str) (ys : List Str) : Expr → Bool
  | .Call (.Name s _) [.Name m _, .Name z _] [] _ => decide (s = "isinstance") && bltB c s && decide (m = n) && visB c i n && decide (ys = [z]) && glB c z
  | .Call (.Name s _) [.Name m _, .Tuple es _ _] [] _ => decide (s = "isinstance") && bltB c s && decide (m = n) && visB c i n && namesB c ys es && decide (es.length ≤ 1000) && !ys.isEmpty
  | _ => false
mutual
def heB (c : Sc) (i : Nat) (n : Str) : HE → Expr → Bool
  | .cst d, .Constant k _ _ => cstB d k
  | .fld f, .Attribute (.Name m _) g _ => decide (m = n) && decide (f = g) && visB c i n
  | .isi ys, e => isiB c i n ys e
  | .lst es, .List as _ => hlB c i n es as
  | .ite t a b, .IfExp x y z _ => htB c i n t x && heB c i n a y && heB c i n b z
  | .and_ a b, .BoolOp .And [x, y] _ => heB c i n a x && heB c i n b y
  | .or_ a b, .BoolOp .Or [x, y] _ => heB c i n a x && heB c i n b y
  | .not_ a, .UnaryOp .Not x _ => heB c i n a x
  | .var j, .Name m _ => visB c j m
  | .rpr h, .Call (.Name s _) [e] [] _ => decide (s = "repr") && bltB c s && notStar e && heB c i n h e
  | _, _ => false
def htB (c : Sc) (i : Nat) (n : Str) : HE → Expr → Bool
  | .isi ys, e => isiB c i n ys e
  | .and_ a b, .BoolOp .And [x, y] _ => htB c i n a x && htB c i n b y
  | .and3 a b d, .BoolOp .And [x, y, z] _ => htB c i n a x && htB c i n b y && htB c i n d z
  | .or_ a b, .BoolOp .Or [x, y] _ => htB c i n a x && htB c i n b y
  | .not_ a, .UnaryOp .Not x _ => htB c i n a x
  | .var j, .Name m _ => visB c j m
  | _, _ => false
def hlB (c : Sc) (i : Nat) (n : Str) : List HE → List Expr → Bool
  | [], [] => true
  | h :: hs, e :: es => notStar e && heB c i n h e && hlB c i n hs es
  | _, _ => false
end
/-- the class of an exception with a row -/
theorem cls_fact {X : Cx} {x : Ex} {G : Hp} {cls : Value} {d : Option Addr} (h : RepX X.K X.mg G x cls d) : ∃ C, X.mg x.c = some (.ref C) ∧ cls = .ref C := let ⟨C, h1, h2, _⟩ := h; ⟨C, h1, h2⟩
section
variable {X : Cx} {c : Sc} {W : WX} {t : ETab} {x : Ex} {a : Addr} {i : Nat} {n : Str} {oe : Obj} {cls : Value} {d : Option Addr} {pn : List (Addr × Obj)}
theorem fact_pe (ok : XOk c X W) {y : Str} {cv : V} {u : Value} {p : Pos} (h : FactV X.mg y cv u) (h3 : glB c y = true) : PE (X.suite a ((a, oe) :: pn)) (.Name y p) (tC cv) := by
  rcases h with ⟨C2, m, rfl, rfl⟩ | ⟨T, m, b, rfl, rfl⟩
  · exact pe_glob (X := X.suite a ((a, oe) :: pn)) (v := .ref _) (ok.gl h3) m rfl (glB_ok h3).2.1
  · exact pe_bltn (X := X.suite a ((a, oe) :: pn)) (v := .ty _) (ok.gl h3) m b rfl (glB_ok h3).2.2 (glB_ok h3).2.1
theorem names_pa (ok : XOk c X W) : ∀ {ys : List Str} {es : List Expr}, namesB c ys es = true → ∀ {cs : List (V × Value)}, Paired (fun y p => FactV X.mg y p.1 p.2) ys cs → ∃ tn, PA (X.suite a ((a, oe) :: pn)) es tn ∧ ∀ σ H Q, Q (cs.map (·.1)) H → tn σ H Q
  | [], [], _, _, .nil => ⟨_, pa_nil, fun σ H Q q => q⟩
  | y :: ys, e :: es, h, _, .cons h1 h2 => by
    cases e with
    | Name z p =>
      simp only [namesB, Bool.and_eq_true, decide_eq_true_eq] at h
      obtain ⟨⟨rfl, h3⟩, h4⟩ := h
      obtain ⟨tn, q1, q2⟩ := names_pa ok h4 h2
      exact ⟨_, pa_cons (fact_pe ok h1 h3) q1 (notStar_each rfl), fun σ H Q q => q2 σ H _ q⟩
    | _ => simp [namesB] at h
  | [], _ :: _, h, _, _ => by simp [namesB] at h
  | _ :: _, [], h, _, _ => by simp [namesB] at h
theorem names_len : ∀ {ys : List Str} {es : List Expr}, namesB c ys es = true → ys.length = es.length
  | [], [], _ => rfl
  | [], _ :: _, h => by simp [namesB] at h
  | _ :: _, [], h => by simp [namesB] at h
  | y :: ys, e :: es, h => by
    cases e with
    | Name z p => simp only [namesB, Bool.and_eq_true] at h; simp [names_len h.2]
    | _ => simp [namesB] at h
theorem h_isi (ok : XOk c X W) (hT : ∀ p ∈ t, FactOk X p.1 p.2.1 p.2.2.1 p.2.2.2) (hz : Zc cls d oe) (hf : ∃ vs, oe.data = .fields vs) {ys : List Str} {e : Expr} (h : isiB c i n ys e = true) : PE (X.suite a ((a, oe) :: pn)) e (tH X.K X.mg t x a i cls d (.isi ys)) := by
  refine ⟨fun pins s σ H Q I q => ?_⟩
  obtain ⟨G, δ, μ, Φ, dv, rx, re, R, hσ, he, q⟩ := q
  rw [hE] at he
  obtain ⟨fx, efx⟩ : ∃ fx, x.f = [fx] := by
    split at he
    · rename_i fx e; exact ⟨fx, e⟩
    · cases he
  rw [efx] at he
  dsimp only at he
  rw [Option.map_eq_some_iff] at he
  obtain ⟨b, he, rfl⟩ := he
  obtain ⟨C, m1, m2, r3⟩ := id rx
  rw [efx] at r3
  subst m2
  obtain ⟨Cs, pr, kt⟩ := anyT_fact hT m1 he
  have dd : ∃ dd fs, d = some dd ∧ H dd = some (.xd fs) := by
    obtain ⟨a2, v, e1, e2, e3⟩ := r3
    exact ⟨a2, _, e1, R.sub _ _ e2⟩
  have fc : ∃ f, FactC X.prog X.w X.K X.mg X.base x.c f C := by
    cases ys with
    | nil => unfold isiB at h; split at h <;> simp at h
    | cons y ys =>
      rw [anyT] at he
      split at he
      · rename_i e1 e2
        obtain ⟨f, F, _⟩ := isT_fact hT e1 m1
        exact ⟨f, F⟩
      · cases he
  obtain ⟨f, F⟩ := fc
  unfold isiB at h
  split at h
  · simp only [Bool.and_eq_true, decide_eq_true_eq] at h
    obtain ⟨⟨⟨⟨⟨rfl, h2⟩, rfl⟩, h4⟩, rfl⟩, h6⟩ := h
    obtain ⟨v1, v2, v3, v4⟩ := visB_ok h4
    cases pr with
    | cons p1 p2 =>
      cases p2
      rename_i cv
      have k1 : PySem.W.kitOne X.K (.ref C) cv.2 = some b := by
        rw [List.map_cons, PySem.W.kitAny] at kt
        split at kt
        · rename_i e; rw [e, ← kt]
        · rename_i e; cases kt; exact e
        · cases kt
      exact (pe_callB (X := X.suite a ((a, oe) :: pn)) (call_isX (mg := X.mg) F hz hf) (ok.gl (bltB_ok h2).1) (ok.fr _ (bltB_ok h2).2) PyProof.Rows.boot_isinstance (pa_cons (pe_var (i := i) (by show X.N[i]? = _; rw [ok.hN]; exact v1) (by show Vis X.env.scope _; rw [ok.hs]; exact v2) v3 v4) (pa_cons (fact_pe ok p1 h6) pa_nil (notStar_each rfl)) (notStar_each rfl)) (by decide) (by decide) (notStar_each rfl)).run pins s σ H Q I
        ⟨_, hσ, _, rfl, dd, b, q _ _ _ (Same.refl G) R (.bl b), .inl ⟨_, _, p1, k1⟩⟩
  · simp only [Bool.and_eq_true, decide_eq_true_eq] at h
    obtain ⟨⟨⟨⟨⟨⟨rfl, h2⟩, rfl⟩, h4⟩, h5⟩, h6⟩, _⟩ := h
    obtain ⟨v1, v2, v3, v4⟩ := visB_ok h4
    obtain ⟨tn, q1, q2⟩ := names_pa (oe := oe) (a := a) (pn := pn) ok h5 pr
    refine (pe_callB (X := X.suite a ((a, oe) :: pn)) (call_isX (mg := X.mg) F hz hf) (ok.gl (bltB_ok h2).1) (ok.fr _ (bltB_ok h2).2) PyProof.Rows.boot_isinstance (pa_cons (pe_var (i := i) (by show X.N[i]? = _; rw [ok.hN]; exact v1) (by show Vis X.env.scope _; rw [ok.hs]; exact v2) v3 v4) (pa_cons (pe_tup q1) pa_nil (notStar_each rfl)) (notStar_each rfl)) (by decide) (by decide) (notStar_each rfl)).run pins s σ H Q I ⟨_, hσ, ?_⟩
    refine q2 σ H _ ⟨?_, fun p hp => ?_⟩
    · rw [List.length_map, ← pr.length, sizeLine_eq]
      rw [names_len h5]
      omega
    · obtain ⟨s2, R2⟩ := R.new hp (.tup (Cs.map (·.1)))
      obtain ⟨dd, fs, e1, e2⟩ := dd
      exact ⟨_, rfl, ⟨dd, fs, e1, by rw [upd_ne (fun z => by rw [z, hp] at e2; cases e2)]; exact e2⟩, b, q _ _ _ s2 R2 (.bl b), .inr ⟨p, ys, Cs, rfl, pr, .inl (.inl upd_same), kt⟩⟩
  · cases h
theorem isiB_plain {ys : List Str} {e : Expr} (h : isiB c i n ys e = true) : plainT e = true := by
  unfold isiB at h
  split at h
  · rfl
  · rfl
  · cases h
theorem relE_none {K : PySem.W.Frag} {G : Hp} {σ : L2.St} : RelE K G (List.replicate σ.length none) σ := by
  refine ⟨fun i d h => ?_, List.length_replicate⟩
  rw [List.getElem?_replicate] at h
  split at h <;> cases h
theorem htB_and {u v : HE} {e : Expr} (h : htB c i n (.and_ u v) e = true) : ∃ y z p, e = .BoolOp .And [y, z] p ∧ htB c i n u y = true ∧ htB c i n v z = true := by
  cases e with
  | BoolOp op xs p =>
    cases op with
    | And =>
      match xs, h with
      | [y, z], h => rw [htB, Bool.and_eq_true] at h; exact ⟨_, _, _, rfl, h.1, h.2⟩
      | [], h => simp [htB] at h
      | [_], h => simp [htB] at h
      | _ :: _ :: _ :: _, h => simp [htB] at h
    | Or => simp [htB] at h
  | _ => simp [htB] at h
theorem htB_and3 {u v w : HE} {e : Expr} (h : htB c i n (.and3 u v w) e = true) : ∃ y z k p, e = .BoolOp .And [y, z, k] p ∧ htB c i n u y = true ∧ htB c i n v z = true ∧ htB c i n w k = true := by
  cases e with
  | BoolOp op xs p =>
    cases op with
    | And =>
      match xs, h with
      | [y, z, k], h => rw [htB, Bool.and_eq_true, Bool.and_eq_true] at h; exact ⟨_, _, _, _, rfl, h.1.1, h.1.2, h.2⟩
      | [], h => simp [htB] at h
      | [_], h => simp [htB] at h
      | [_, _], h => simp [htB] at h
      | _ :: _ :: _ :: _ :: _, h => simp [htB] at h
    | Or => simp [htB] at h
  | _ => simp [htB] at h
theorem htB_or {u v : HE} {e : Expr} (h : htB c i n (.or_ u v) e = true) : ∃ y z p, e = .BoolOp .Or [y, z] p ∧ htB c i n u y = true ∧ htB c i n v z = true := by
  cases e with
  | BoolOp op xs p =>
    cases op with
    | Or =>
      match xs, h with
      | [y, z], h => rw [htB, Bool.and_eq_true] at h; exact ⟨_, _, _, rfl, h.1, h.2⟩
      | [], h => simp [htB] at h
      | [_], h => simp [htB] at h
      | _ :: _ :: _ :: _, h => simp [htB] at h
    | And => simp [htB] at h
  | _ => simp [htB] at h
theorem htB_not {u : HE} {e : Expr} (h : htB c i n (.not_ u) e = true) : ∃ y p, e = .UnaryOp .Not y p ∧ htB c i n u y = true := by
  cases e with
  | UnaryOp op y p =>
    cases op with
    | Not => rw [htB] at h; exact ⟨_, _, rfl, h⟩
    | _ => simp [htB] at h
  | _ => simp [htB] at h
theorem heB_and {u v : HE} {e : Expr} (h : heB c i n (.and_ u v) e = true) : ∃ y z p, e = .BoolOp .And [y, z] p ∧ heB c i n u y = true ∧ heB c i n v z = true := by
  cases e with
  | BoolOp op xs p =>
    cases op with
    | And =>
      match xs, h with
      | [y, z], h => rw [heB, Bool.and_eq_true] at h; exact ⟨_, _, _, rfl, h.1, h.2⟩
      | [], h => simp [heB] at h
      | [_], h => simp [heB] at h
      | _ :: _ :: _ :: _, h => simp [heB] at h
    | Or => simp [heB] at h
  | _ => simp [heB] at h
theorem heB_or {u v : HE} {e : Expr} (h : heB c i n (.or_ u v) e = true) : ∃ y z p, e = .BoolOp .Or [y, z] p ∧ heB c i n u y = true ∧ heB c i n v z = true := by
  cases e with
  | BoolOp op xs p =>
    cases op with
    | Or =>
      match xs, h with
      | [y, z], h => rw [heB, Bool.and_eq_true] at h; exact ⟨_, _, _, rfl, h.1, h.2⟩
      | [], h => simp [heB] at h
      | [_], h => simp [heB] at h
      | _ :: _ :: _ :: _, h => simp [heB] at h
    | And => simp [heB] at h
  | _ => simp [heB] at h
theorem heB_not {u : HE} {e : Expr} (h : heB c i n (.not_ u) e = true) : ∃ y p, e = .UnaryOp .Not y p ∧ heB c i n u y = true := by
  cases e with
  | UnaryOp op y p =>
    cases op with
    | Not => rw [heB] at h; exact ⟨_, _, rfl, h⟩
    | _ => simp [heB] at h
  | _ => simp [heB] at h
theorem heB_rpr {u : HE} {e : Expr} (h : heB c i n (.rpr u) e = true) : ∃ s p1 y p, e = .Call (.Name s p1) [y] [] p ∧ s = "repr" ∧ bltB c s = true ∧ notStar y = true ∧ heB c i n u y = true := by
  cases e with
  | Call f as ks p =>
    cases f with
    | Name s p1 =>
      match as, ks, h with
      | [y], [], h =>
        simp only [heB, Bool.and_eq_true, decide_eq_true_eq] at h
        exact ⟨_, _, _, _, rfl, h.1.1.1, h.1.1.2, h.1.2, h.2⟩
      | [], _, h => simp [heB] at h
      | [_], _ :: _, h => simp [heB] at h
      | _ :: _ :: _, _, h => simp [heB] at h
    | _ => simp [heB] at h
  | _ => simp [heB] at h
theorem look_at {δ : DE} {i : Nat} {dv : D} (h : look δ i = some dv) : δ[i]? = some (some dv) := by
  have lk : ∀ (δ : DE) (i : Nat), look δ i = (δ[i]?).getD none := by
    intro δ
    induction δ with
    | nil => intro i; rfl
    | cons x r ih => intro i; cases i with
      | zero => rfl
      | succ n => exact ih n
  rw [lk] at h
  cases e : δ[i]? with
  | none => rw [e] at h; cases h
  | some o => rw [e] at h; exact congrArg some h
theorem h_pt (ok : XOk c X W) (hT : ∀ p ∈ t, FactOk X p.1 p.2.1 p.2.2.1 p.2.2.2) (hz : Zc cls d oe) (hf : ∃ vs, oe.data = .fields vs) : ∀ (h : HE) (e : Expr), htB c i n h e = true → PT (X.suite a ((a, oe) :: pn)) e (tHT X.K X.mg t x a i cls d h)
  | .isi ys, e, h => by
    have h' : isiB c i n ys e = true := by cases e <;> (simp only [htB] at h; exact h)
    refine PT_imp (pt_truth (h_isi (t := t) (x := x) (pn := pn) ok hT hz hf h') (plainT_ok (isiB_plain h') _)) fun σ H Q q => ?_
    obtain ⟨G, δ, μ, Φ, k, rx, re, R, hσ, he, q⟩ := q
    exact ⟨G, δ, μ, Φ, .bl k, rx, re, R, hσ, he, fun G' H' v s R' p => by cases p; exact ⟨k, rfl, q G' H' s R'⟩⟩
  | .and_ u v, e, h => by
    obtain ⟨y, z, p, rfl, h1, h2⟩ := htB_and h
    refine PT_imp (pw_and (pos := p) (h_pt ok hT hz hf u y h1) (pw_and1 (h_pt ok hT hz hf v z h2))).pt fun σ H Q q => ?_
    obtain ⟨G, δ, μ, Φ, k, rx, re, R, hσ, he, q⟩ := q
    rw [hE] at he
    split at he
    · rename_i e1
      exact ⟨G, δ, μ, Φ, true, rx, re, R, hσ, e1, fun G' H' s R' => by
        dsimp only
        rw [if_pos rfl]
        exact ⟨G', δ, μ, Φ, k, rx.mono s, re.mono s, R', hσ, he, fun G2 H2 s2 R2 => q G2 H2 (s.trans s2) R2⟩⟩
    · rename_i e1
      cases he
      exact ⟨G, δ, μ, Φ, false, rx, re, R, hσ, e1, fun G' H' s R' => by
        dsimp only
        rw [if_neg (by decide)]
        exact q G' H' s R'⟩
    · cases he
  | .and3 u v w, e, h => by
    obtain ⟨y, z, k3, p, rfl, h1, h2, h3⟩ := htB_and3 h
    refine PT_imp (pw_and (pos := p) (h_pt ok hT hz hf u y h1) (pw_and (pos := p) (h_pt ok hT hz hf v z h2) (pw_and1 (h_pt ok hT hz hf w k3 h3)))).pt fun σ H Q q => ?_
    obtain ⟨G, δ, μ, Φ, k, rx, re, R, hσ, he, q⟩ := q
    rw [hE] at he
    split at he
    · rename_i e1
      exact ⟨G, δ, μ, Φ, true, rx, re, R, hσ, e1, fun G' H' s R' => by
        dsimp only
        rw [if_pos rfl]
        split at he
        · rename_i e2
          exact ⟨G', δ, μ, Φ, true, rx.mono s, re.mono s, R', hσ, e2, fun G2 H2 s2 R2 => by
            dsimp only
            rw [if_pos rfl]
            exact ⟨G2, δ, μ, Φ, k, (rx.mono s).mono s2, (re.mono s).mono s2, R2, hσ, he, fun G3 H3 s3 R3 => q G3 H3 ((s.trans s2).trans s3) R3⟩⟩
        · rename_i e2
          cases he
          exact ⟨G', δ, μ, Φ, false, rx.mono s, re.mono s, R', hσ, e2, fun G2 H2 s2 R2 => by
            dsimp only
            rw [if_neg (by decide)]
            exact q G2 H2 (s.trans s2) R2⟩
        · cases he⟩
    · rename_i e1
      cases he
      exact ⟨G, δ, μ, Φ, false, rx, re, R, hσ, e1, fun G' H' s R' => by
        dsimp only
        rw [if_neg (by decide)]
        exact q G' H' s R'⟩
    · cases he
  | .or_ u v, e, h => by
    obtain ⟨y, z, p, rfl, h1, h2⟩ := htB_or h
    refine PT_imp (pw_or (pos := p) (h_pt ok hT hz hf u y h1) (pw_or1 (h_pt ok hT hz hf v z h2))).pt fun σ H Q q => ?_
    obtain ⟨G, δ, μ, Φ, k, rx, re, R, hσ, he, q⟩ := q
    rw [hE] at he
    split at he
    · rename_i e1
      cases he
      exact ⟨G, δ, μ, Φ, true, rx, re, R, hσ, e1, fun G' H' s R' => by
        dsimp only
        rw [if_pos rfl]
        exact q G' H' s R'⟩
    · rename_i e1
      exact ⟨G, δ, μ, Φ, false, rx, re, R, hσ, e1, fun G' H' s R' => by
        dsimp only
        rw [if_neg (by decide)]
        exact ⟨G', δ, μ, Φ, k, rx.mono s, re.mono s, R', hσ, he, fun G2 H2 s2 R2 => q G2 H2 (s.trans s2) R2⟩⟩
    · cases he
  | .not_ u, e, h => by
    obtain ⟨y, p, rfl, h1⟩ := htB_not h
    refine PT_imp (pt_not (pos := p) (h_pt ok hT hz hf u y h1)) fun σ H Q q => ?_
    obtain ⟨G, δ, μ, Φ, k, rx, re, R, hσ, he, q⟩ := q
    rw [hE] at he
    split at he
    · rename_i j e1
      cases he
      exact ⟨G, δ, μ, Φ, j, rx, re, R, hσ, e1, fun G' H' s R' => q G' H' s R'⟩
    · cases he
  | .cst _, e, h => by cases e <;> simp [htB] at h
  | .fld _, e, h => by cases e <;> simp [htB] at h
  | .lst _, e, h => by cases e <;> simp [htB] at h
  | .ite _ _ _, e, h => by cases e <;> simp [htB] at h
  | .var j, e, h => by
    cases e with
    | Name m p =>
      rw [htB] at h
      obtain ⟨v1, v2, v3, v4⟩ := visB_ok h
      refine PT_imp (pt_truth (pe_var (X := X.suite a ((a, oe) :: pn)) (pos := p) (i := j) (by show X.N[j]? = _; rw [ok.hN]; exact v1) (by show Vis X.env.scope _; rw [ok.hs]; exact v2) v3 v4) (plainT_ok (e := .Name m p) rfl _)) fun σ H Q q => ?_
      obtain ⟨G, δ, μ, Φ, k, rx, re, R, hσ, he, q⟩ := q
      rw [hE] at he
      have hk : look δ j = some (.bl k) := by
        split at he
        · cases he
        · exact he
      obtain ⟨v, e1, e2⟩ := re.at_ j _ (look_at hk)
      cases e2
      exact ⟨.bl k, e1, k, rfl, q G H (Same.refl G) R⟩
    | _ => simp [htB] at h
  | .rpr _, e, h => by cases e <;> simp [htB] at h
mutual
theorem h_pe (ok : XOk c X W) (hT : ∀ p ∈ t, FactOk X p.1 p.2.1 p.2.2.1 p.2.2.2) (hz : Zc cls d oe) (hf : ∃ vs, oe.data = .fields vs) : ∀ (h : HE) (e : Expr), heB c i n h e = true → PE (X.suite a ((a, oe) :: pn)) e (tH X.K X.mg t x a i cls d h)
  | .cst dv, e, h => by
    cases e with
    | Constant k j p =>
      rw [heB] at h
      refine PE_imp (cst_ok (X := X.suite a ((a, oe) :: pn)) (W := fun _ _ _ _ => False) h) fun σ H Q q => ?_
      obtain ⟨G, δ, μ, Φ, d2, rx, re, R, hσ, he, q⟩ := q
      rw [hE] at he
      cases he
      exact ⟨_, G, μ, Φ, noX, fun d' μ' => d' = dv ∧ μ' = μ, relE_none, R, ⟨rfl, rfl⟩, fun d' μ' G' H' v z s R' p => by
        obtain ⟨rfl, rfl⟩ := z
        exact q G' H' v s R' p, fun _ _ _ _ _ _ z => z.elim⟩
    | _ => simp [heB] at h
  | .fld f, e, h => by
    cases e with
    | Attribute o g p =>
      cases o with
      | Name m p2 =>
        simp only [heB, Bool.and_eq_true, decide_eq_true_eq] at h
        obtain ⟨⟨rfl, rfl⟩, h3⟩ := h
        obtain ⟨v1, v2, v3, v4⟩ := visB_ok h3
        refine ⟨fun pins s σ H Q I q => ?_⟩
        obtain ⟨G, δ, μ, Φ, d2, rx, re, R, hσ, he, q⟩ := q
        rw [hE] at he
        split at he
        · rename_i g' ys ns g dv e1 e2
          split at he
          · rename_i e3
            obtain ⟨e3, e4⟩ := e3
            subst e3
            subst e4
            cases he
            obtain ⟨C, m1, m2, r3⟩ := rx
            rw [e2] at r3
            obtain ⟨a2, v, e5, e6, e7⟩ := r3
            obtain ⟨C2, F, _, _⟩ := hT _ (mem_look e1)
            have ec : C2 = C := by
              have := F.at_.symm.trans m1
              cases this
              rfl
            subst ec
            exact (pe_xf (X := X) F.xf F.no hz hf (pe_var (X := X.suite a ((a, oe) :: pn)) (i := i) (by show X.N[i]? = _; rw [ok.hN]; exact v1) (by show Vis X.env.scope _; rw [ok.hs]; exact v2) v3 v4)).run pins s σ H Q I
              ⟨_, hσ, rfl, m2, a2, _, v, e5, R.sub _ _ e6, by simp, q _ _ _ (Same.refl G) R e7⟩
          · cases he
        · cases he
      | _ => simp [heB] at h
    | _ => simp [heB] at h
  | .isi ys, e, h => by
    have h' : isiB c i n ys e = true := by cases e <;> (simp only [heB] at h; exact h)
    exact h_isi ok hT hz hf h'
  | .lst es, e, h => by
    cases e with
    | List as p =>
      rw [heB] at h
      refine PE_imp (pe_lst (h_pas ok hT hz hf es as h)) fun σ H Q q => ?_
      obtain ⟨G, δ, μ, Φ, d2, rx, re, R, hσ, he, q⟩ := q
      rw [hE] at he
      split at he
      · rename_i ds e1
        split at he
        · rename_i e2
          cases he
          refine ⟨G, δ, μ, Φ, ds, rx, re, R, hσ, e1, fun G' H' vs s R' p => ⟨by rw [← p.length, sizeLine_eq]; omega, fun b hb => ?_⟩⟩
          obtain ⟨s2, R2⟩ := R'.new hb (.lst vs)
          exact q _ _ _ (s.trans s2) R2 (.lst upd_same (p.mono s2))
        · cases he
      · cases he
    | _ => simp [heB] at h
  | .ite u v w, e, h => by
    cases e with
    | IfExp y z r p =>
      rw [heB, Bool.and_eq_true, Bool.and_eq_true] at h
      refine PE_imp (pe_ifExp (h_pt (x := x) ok hT hz hf u y h.1.1) (h_pe ok hT hz hf v z h.1.2) (h_pe ok hT hz hf w r h.2)) fun σ H Q q => ?_
      obtain ⟨G, δ, μ, Φ, d2, rx, re, R, hσ, he, q⟩ := q
      rw [hE] at he
      split at he
      · rename_i e1
        exact ⟨G, δ, μ, Φ, true, rx, re, R, hσ, e1, fun G' H' s R' => by
          dsimp only
          rw [if_pos rfl]
          exact ⟨G', δ, μ, Φ, d2, rx.mono s, re.mono s, R', hσ, he, fun G2 H2 v2 s2 R2 => q G2 H2 v2 (s.trans s2) R2⟩⟩
      · rename_i e1
        exact ⟨G, δ, μ, Φ, false, rx, re, R, hσ, e1, fun G' H' s R' => by
          dsimp only
          rw [if_neg (by decide)]
          exact ⟨G', δ, μ, Φ, d2, rx.mono s, re.mono s, R', hσ, he, fun G2 H2 v2 s2 R2 => q G2 H2 v2 (s.trans s2) R2⟩⟩
      · cases he
    | _ => simp [heB] at h
  | .and_ u v, e, h => by
    obtain ⟨y, z, p, rfl, h1, h2⟩ := heB_and h
    refine PE_imp (pe_and (pos := p) (h_pe ok hT hz hf u y h1) (pe_one (h_pe ok hT hz hf v z h2))) fun σ H Q q => ?_
    obtain ⟨G, δ, μ, Φ, d2, rx, re, R, hσ, he, q⟩ := q
    rw [hE] at he
    split at he
    · rename_i e1
      exact ⟨G, δ, μ, Φ, _, rx, re, R, hσ, e1, fun G' H' v' s R' p => by
        cases p
        refine ⟨true, rfl, ?_⟩
        rw [if_pos rfl]
        exact ⟨G', δ, μ, Φ, d2, rx.mono s, re.mono s, R', hσ, he, fun G2 H2 v2 s2 R2 => q G2 H2 v2 (s.trans s2) R2⟩⟩
    · rename_i e1
      cases he
      exact ⟨G, δ, μ, Φ, _, rx, re, R, hσ, e1, fun G' H' v' s R' p => by
        cases p
        refine ⟨false, rfl, ?_⟩
        rw [if_neg (by decide)]
        exact q G' H' _ s R' (.bl false)⟩
    · cases he
  | .or_ u v, e, h => by
    obtain ⟨y, z, p, rfl, h1, h2⟩ := heB_or h
    refine PE_imp (pe_or (pos := p) (h_pe ok hT hz hf u y h1) (pe_one (h_pe ok hT hz hf v z h2))) fun σ H Q q => ?_
    obtain ⟨G, δ, μ, Φ, d2, rx, re, R, hσ, he, q⟩ := q
    rw [hE] at he
    split at he
    · rename_i e1
      cases he
      exact ⟨G, δ, μ, Φ, _, rx, re, R, hσ, e1, fun G' H' v' s R' p => by
        cases p
        refine ⟨true, rfl, ?_⟩
        rw [if_pos rfl]
        exact q G' H' _ s R' (.bl true)⟩
    · rename_i e1
      exact ⟨G, δ, μ, Φ, _, rx, re, R, hσ, e1, fun G' H' v' s R' p => by
        cases p
        refine ⟨false, rfl, ?_⟩
        rw [if_neg (by decide)]
        exact ⟨G', δ, μ, Φ, d2, rx.mono s, re.mono s, R', hσ, he, fun G2 H2 v2 s2 R2 => q G2 H2 v2 (s.trans s2) R2⟩⟩
    · cases he
  | .not_ u, e, h => by
    obtain ⟨y, p, rfl, h1⟩ := heB_not h
    refine PE_imp (pe_not (pos := p) (h_pe ok hT hz hf u y h1)) fun σ H Q q => ?_
    obtain ⟨G, δ, μ, Φ, d2, rx, re, R, hσ, he, q⟩ := q
    rw [hE] at he
    split at he
    · rename_i k e1
      cases he
      exact ⟨G, δ, μ, Φ, _, rx, re, R, hσ, e1, fun G' H' v' s R' p => by
        cases p
        exact ⟨k, rfl, q G' H' _ s R' (.bl _)⟩⟩
    · cases he
  | .var j, e, h => by
    cases e with
    | Name m p =>
      rw [heB] at h
      obtain ⟨v1, v2, v3, v4⟩ := visB_ok h
      refine PE_imp (pe_var (X := X.suite a ((a, oe) :: pn)) (i := j) (by show X.N[j]? = _; rw [ok.hN]; exact v1) (by show Vis X.env.scope _; rw [ok.hs]; exact v2) v3 v4) fun σ H Q q => ?_
      obtain ⟨G, δ, μ, Φ, d2, rx, re, R, hσ, he, q⟩ := q
      rw [hE] at he
      split at he
      · cases he
      · obtain ⟨v, e1, e2⟩ := re.at_ j _ (look_at he)
        exact ⟨v, e1, q G H v (Same.refl G) R e2⟩
    | _ => simp [heB] at h
  | .rpr u, e, h => by
    obtain ⟨sn, p1, y, p, rfl, h1, h2, h3, h4⟩ := heB_rpr h
    subst h1
    refine PE_imp (pe_callB (X := X.suite a ((a, oe) :: pn)) (repr_okM (X := X.suite a ((a, oe) :: pn)) ok.sm ok.gd ok.un) (ok.gl (bltB_ok h2).1) (ok.fr _ (bltB_ok h2).2) (by decide +kernel) (pa_cons (h_pe ok hT hz hf u y h4) pa_nil (notStar_each h3)) (by decide) (by decide) (notStar_each h3)) fun σ H Q q => ?_
    obtain ⟨G, δ, μ, Φ, d2, rx, re, R, hσ, he, q⟩ := q
    rw [hE] at he
    split at he
    · rename_i dv e1
      split at he
      · rename_i e2
        cases he
        unfold reprB at e2
        simp only [Bool.and_eq_true, decide_eq_true_eq] at e2
        obtain ⟨f1, f2, f3, f4⟩ := e2
        exact ⟨G, δ, μ, Φ, _, rx, re, R, hσ, e1, fun G' H' v' s R' p => ⟨v', dv, rfl, p.mono R'.sub, f1, f2, f3, szLine f4, q G' H' _ s R' (.str _)⟩⟩
      · cases he
    · cases he
  | .and3 _ _ _, e, h => by cases e <;> simp [heB] at h
theorem h_pas (ok : XOk c X W) (hT : ∀ p ∈ t, FactOk X p.1 p.2.1 p.2.2.1 p.2.2.2) (hz : Zc cls d oe) (hf : ∃ vs, oe.data = .fields vs) : ∀ (hs : List HE) (es : List Expr), hlB c i n hs es = true → PA (X.suite a ((a, oe) :: pn)) es (tHL X.K X.mg t x a i cls d hs)
  | [], [], h => PA_imp pa_nil fun σ H Q q => by
    obtain ⟨G, δ, μ, Φ, ds, rx, re, R, hσ, he, q⟩ := q
    rw [hL] at he
    cases he
    exact q G H [] (Same.refl G) R .nil
  | h1 :: hs, e :: es, h => by
    rw [hlB, Bool.and_eq_true, Bool.and_eq_true] at h
    refine PA_imp (pa_cons (h_pe ok hT hz hf h1 e h.1.2) (h_pas ok hT hz hf hs es h.2) (notStar_each h.1.1)) fun σ H Q q => ?_
    obtain ⟨G, δ, μ, Φ, ds, rx, re, R, hσ, he, q⟩ := q
    rw [hL] at he
    split at he
    · rename_i d1 ds1 e1 e2
      cases he
      exact ⟨G, δ, μ, Φ, d1, rx, re, R, hσ, e1, fun G' H' v s R' p => ⟨G', δ, μ, Φ, ds1, rx.mono s, re.mono s, R', hσ, e2, fun G2 H2 vs s2 R2 p2 => q G2 H2 _ (s.trans s2) R2 (.cons (p.mono s2) p2)⟩⟩
    · cases he
  | [], _ :: _, h => by simp [hlB] at h
  | _ :: _, [], h => by simp [hlB] at h
end
mutual
def hsB (c : Sc) (i : Nat) (n : Str) : HS → Stmt → Bool
  | .ret e, .Return (some v) _ => heB c i n e v
  | .asg j e, .Assign [.Name m _] v _ => locB c j m && notComp v && heB c i n e v && decide (j ≠ i)
  | .ite h as bs, .If y ss us _ => htB c i n h y && hssB c i n as ss && hssB c i n bs us
  | _, _ => false
def hssB (c : Sc) (i : Nat) (n : Str) : List HS → List Stmt → Bool
  | [], [] => true
  | h :: hs, s :: ss => hsB c i n h s && hssB c i n hs ss
  | _, _ => false
end
theorem look_put {j i : Nat} (hj : j ≠ i) (o : Option D) : ∀ (δ : DE) (j i : Nat), j ≠ i → look (put δ j o) i = look δ i
  | [], _, _, _ => rfl
  | _ :: _, 0, 0, h => absurd rfl h
  | _ :: _, 0, _ + 1, _ => rfl
  | _ :: _, _ + 1, 0, _ => rfl
  | _ :: δ, j + 1, i + 1, h => by
    show look (put δ j o) i = look δ i
    exact look_put hj o δ j i (by omega)
mutual
theorem hS_mono : ∀ (s : HS) (δ : DE) {Q Q' : DE → Prop} {R : D → Prop}, (∀ δ1, Q δ1 → Q' δ1) → hS t x s δ Q R → hS t x s δ Q' R
  | .ret e, δ, Q, Q', R, m, h => by rw [hS] at h ⊢; exact h
  | .asg j e, δ, Q, Q', R, m, h => by
    rw [hS] at h ⊢
    split at h
    · exact m _ h
    · exact h
  | .ite e as bs, δ, Q, Q', R, m, h => by
    rw [hS] at h ⊢
    split at h
    · exact hSs_mono as δ m h
    · exact hSs_mono bs δ m h
    · exact h
theorem hSs_mono : ∀ (s : List HS) (δ : DE) {Q Q' : DE → Prop} {R : D → Prop}, (∀ δ1, Q δ1 → Q' δ1) → hSs t x s δ Q R → hSs t x s δ Q' R
  | [], δ, Q, Q', R, m, h => by rw [hSs] at h ⊢; exact m _ h
  | s :: ss, δ, Q, Q', R, m, h => by
    rw [hSs] at h ⊢
    exact hS_mono s δ (fun δ1 h1 => hSs_mono ss δ1 m h1) h
end
mutual
theorem hS_keep : ∀ (s : HS) (st : Stmt), hsB c i n s st = true → ∀ (δ : DE) (Q : DE → Prop) (R : D → Prop), hS t x s δ Q R → hS t x s δ (fun δ1 => look δ1 i = look δ i ∧ Q δ1) R
  | .ret e, st, _, δ, Q, R, h => by rw [hS] at h ⊢; exact h
  | .asg j e, st, hk, δ, Q, R, h => by
    rw [hS] at h ⊢
    split at h
    · refine ⟨?_, h⟩
      cases st with
      | Assign tg v p =>
        match tg, hk with
        | [.Name m q], hk =>
          simp only [hsB, Bool.and_eq_true, decide_eq_true_eq] at hk
          exact look_put hk.2 _ δ j i hk.2
        | [], hk => simp [hsB] at hk
        | a :: b :: l, hk => cases a <;> simp [hsB] at hk
      | _ => simp [hsB] at hk
    · exact h.elim
  | .ite e as bs, st, hk, δ, Q, R, h => by
    rw [hS] at h ⊢
    cases st with
    | If y ss us p =>
      simp only [hsB, Bool.and_eq_true] at hk
      split at h
      · exact hSs_keep as ss hk.1.2 δ Q R h
      · exact hSs_keep bs us hk.2 δ Q R h
      · exact h.elim
    | _ => simp [hsB] at hk
theorem hSs_keep : ∀ (s : List HS) (st : List Stmt), hssB c i n s st = true → ∀ (δ : DE) (Q : DE → Prop) (R : D → Prop), hSs t x s δ Q R → hSs t x s δ (fun δ1 => look δ1 i = look δ i ∧ Q δ1) R
  | [], st, _, δ, Q, R, h => by rw [hSs] at h ⊢; exact ⟨rfl, h⟩
  | s :: ss, [], hk, _, _, _, _ => by simp [hssB] at hk
  | s :: ss, u :: us, hk, δ, Q, R, h => by
    rw [hssB, Bool.and_eq_true] at hk
    rw [hSs] at h ⊢
    exact hS_mono s δ (fun δ1 h1 => hSs_mono ss δ1 (fun δ2 h2 => ⟨h2.1.trans h1.1, h2.2⟩) (hSs_keep ss us hk.2 δ1 Q R h1.2)) (hS_keep s u hk.1 δ _ R h)
end
/-- statements of the suite as a reading -/
def tHS (K : PySem.W.Frag) (mg : Str → Option Value) (t : ETab) (x : Ex) (a : Addr) (i : Nat) (cls : Value) (d : Option Addr) (w : DE → (DE → Prop) → (D → Prop) → Prop) : TS := fun D σ H =>
  ∃ G δ μ Φ Q R, RepX K mg G x cls d ∧ RelE K G δ σ ∧ Rel K G μ Φ H ∧ look δ i = some (.ref a) ∧ w δ Q R ∧
    (∀ δ' G' H' σ', Q δ' → Same G G' → RelE K G' δ' σ' → Rel K G' μ Φ H' → D.nx σ' H') ∧ ∀ dv G' H' v, R dv → Same G G' → Rel K G' μ Φ H' → Rep K G' dv v → D.rt v H'
theorem slot_ref {K : PySem.W.Frag} {G : Hp} {δ : DE} {σ : L2.St} (hE : RelE K G δ σ) (h : look δ i = some (.ref a)) : σ[i]? = some (some (.ref a)) := by
  obtain ⟨v, h1, h2⟩ := hE.at_ i _ (look_at h)
  cases h2
  exact h1
theorem hs_ret (ok : XOk c X W) (hT : ∀ p ∈ t, FactOk X p.1 p.2.1 p.2.2.1 p.2.2.2) (hz : Zc cls d oe) (hf : ∃ vs, oe.data = .fields vs) {e : HE} {v : Expr} {p : Pos} (h : heB c i n e v = true) :
    PS (X.suite a ((a, oe) :: pn)) (.Return (some v) p) (tHS X.K X.mg t x a i cls d (hS t x (.ret e))) := PS_imp (ps_ret (h_pe (t := t) (x := x) (pn := pn) ok hT hz hf e v h)) fun D σ H q => by
  obtain ⟨G, δ, μ, Φ, Q, R, rx, hE, hR, hl, w, q1, q2⟩ := q
  rw [hS] at w
  split at w
  · rename_i dv e1
    exact ⟨G, δ, μ, Φ, dv, rx, hE, hR, slot_ref hE hl, e1, fun G' H' v s R' p => q2 dv G' H' v w s R' p⟩
  · exact w.elim
theorem hs_asg (ok : XOk c X W) (hT : ∀ p ∈ t, FactOk X p.1 p.2.1 p.2.2.1 p.2.2.2) (hz : Zc cls d oe) (hf : ∃ vs, oe.data = .fields vs) {e : HE} {v : Expr} {p q : Pos} {j : Nat} {m : Str} (h1 : locB c j m = true) (h2 : notComp v = true) (h : heB c i n e v = true) :
    PS (X.suite a ((a, oe) :: pn)) (.Assign [.Name m q] v p) (tHS X.K X.mg t x a i cls d (hS t x (.asg j e))) := by
  obtain ⟨l1, l2, l3⟩ := locB_ok h1
  refine PS_imp (ps_set (X := X.suite a ((a, oe) :: pn)) (i := j) (by show X.N.Nodup; rw [ok.hN]; exact ok.nd) (by show X.N[j]? = _; rw [ok.hN]; exact l1) (by show Loc X.env.scope _; rw [ok.hs]; exact l2) (h_pe (t := t) (x := x) (pn := pn) ok hT hz hf e v h) (notComp_swap h2 _ _ _) (by
      rcases l3 with z | z
      · exact .inl (ok.fn m z)
      · exact .inr (by show X.env.scope.names.lookup m = _; rw [ok.hs]; exact z))) fun D σ H q => ?_
  obtain ⟨G, δ, μ, Φ, Q, R, rx, hE, hR, hl, w, q1, q2⟩ := q
  rw [hS] at w
  split at w
  · rename_i dv e1
    exact ⟨G, δ, μ, Φ, dv, rx, hE, hR, slot_ref hE hl, e1, fun G' H' v s R' p => q1 _ G' H' _ w s ((hE.mono s).put p) R'⟩
  · exact w.elim
mutual
theorem h_ps (ok : XOk c X W) (hT : ∀ p ∈ t, FactOk X p.1 p.2.1 p.2.2.1 p.2.2.2) (hz : Zc cls d oe) (hf : ∃ vs, oe.data = .fields vs) : ∀ (s : HS) (st : Stmt), hsB c i n s st = true → PS (X.suite a ((a, oe) :: pn)) st (tHS X.K X.mg t x a i cls d (hS t x s))
  | .ret e, st, h => by
    cases st with
    | Return v p =>
      cases v with
      | none => simp [hsB] at h
      | some v => rw [hsB] at h; exact hs_ret ok hT hz hf h
    | _ => simp [hsB] at h
  | .asg j e, st, h => by
    cases st with
    | Assign tg v p =>
      match tg, h with
      | [.Name m q], h =>
        simp only [hsB, Bool.and_eq_true, decide_eq_true_eq] at h
        exact hs_asg ok hT hz hf h.1.1.1 h.1.1.2 h.1.2
      | [], h => simp [hsB] at h
      | a :: b :: l, h => cases a <;> simp [hsB] at h
    | _ => simp [hsB] at h
  | .ite e as bs, st, h => by
    cases st with
    | If y ss us p =>
      simp only [hsB, Bool.and_eq_true] at h
      refine PS_imp (ps_if (h_pt (x := x) (pn := pn) ok hT hz hf e y h.1.1) (h_pss ok hT hz hf as ss h.1.2) (h_pss ok hT hz hf bs us h.2)) fun D σ H q => ?_
      obtain ⟨G, δ, μ, Φ, Q, R, rx, hE, hR, hl, w, q1, q2⟩ := q
      rw [hS] at w
      split at w
      · rename_i e1
        refine ⟨G, δ, μ, Φ, true, rx, hE, hR, slot_ref hE hl, e1, fun G' H' s R' => ?_⟩
        exact iteT ⟨G', δ, μ, Φ, Q, R, rx.mono s, hE.mono s, R', hl, w, fun δ' G2 H2 σ' z s2 => q1 δ' G2 H2 σ' z (s.trans s2), fun dv G2 H2 v z s2 => q2 dv G2 H2 v z (s.trans s2)⟩
      · rename_i e1
        refine ⟨G, δ, μ, Φ, false, rx, hE, hR, slot_ref hE hl, e1, fun G' H' s R' => ?_⟩
        exact iteF ⟨G', δ, μ, Φ, Q, R, rx.mono s, hE.mono s, R', hl, w, fun δ' G2 H2 σ' z s2 => q1 δ' G2 H2 σ' z (s.trans s2), fun dv G2 H2 v z s2 => q2 dv G2 H2 v z (s.trans s2)⟩
      · exact w.elim
    | _ => simp [hsB] at h
theorem h_pss (ok : XOk c X W) (hT : ∀ p ∈ t, FactOk X p.1 p.2.1 p.2.2.1 p.2.2.2) (hz : Zc cls d oe) (hf : ∃ vs, oe.data = .fields vs) : ∀ (s : List HS) (st : List Stmt), hssB c i n s st = true → PSs (X.suite a ((a, oe) :: pn)) st (tHS X.K X.mg t x a i cls d (hSs t x s))
  | [], [], h => PSs_imp pss_nil fun D σ H q => by
    obtain ⟨G, δ, μ, Φ, Q, R, rx, hE, hR, hl, w, q1, q2⟩ := q
    rw [hSs] at w
    exact q1 δ G H σ w (Same.refl G) hE hR
  | s :: ss, u :: us, h => by
    rw [hssB, Bool.and_eq_true] at h
    refine PSs_imp (pss_cons (h_ps ok hT hz hf s u h.1) (h_pss ok hT hz hf ss us h.2)) fun D σ H q => ?_
    obtain ⟨G, δ, μ, Φ, Q, R, rx, hE, hR, hl, w, q1, q2⟩ := q
    rw [hSs] at w
    refine ⟨G, δ, μ, Φ, _, R, rx, hE, hR, hl, hS_keep s u h.1 δ _ R w, fun δ' G' H' σ' z s1 e1 R1 => ?_, q2⟩
    exact ⟨G', δ', μ, Φ, Q, R, rx.mono s1, e1, R1, z.1.trans hl, z.2, fun δ2 G2 H2 σ2 z2 s2 => q1 δ2 G2 H2 σ2 z2 (s1.trans s2), fun dv G2 H2 v z2 s2 => q2 dv G2 H2 v z2 (s1.trans s2)⟩
  | [], _ :: _, h => by simp [hssB] at h
  | _ :: _, [], h => by simp [hssB] at h
end
end
section
variable {X : Cx} {c : Sc} {W : WX} {t : ETab}
theorem look_put_same (o : Option D) : ∀ (δ : DE) (i : Nat), i < δ.length → look (put δ i o) i = o
  | [], _, h => by simp at h
  | _ :: _, 0, _ => rfl
  | _ :: δ, i + 1, h => by
    show look (put δ i o) i = o
    exact look_put_same o δ i (by simpa using h)
theorem RelE.put0 {K : PySem.W.Frag} {G : Hp} {δ : DE} {σ : L2.St} (r : RelE K G δ σ) (v : Nat) : RelE K G (Tf.put δ v none) (σ.set v none) := by
  refine ⟨fun j d h => ?_, by rw [put_set, List.length_set, List.length_set]; exact r.len⟩
  rw [put_set] at h
  by_cases e : v = j
  · subst e
    rw [List.getElem?_set] at h
    simp at h
  · rw [List.getElem?_set_ne e] at h
    obtain ⟨u, h1, h2⟩ := r.at_ j d h
    exact ⟨u, by rw [List.getElem?_set_ne e]; exact h1, h2⟩
theorem XOk.try_ (ok : XOk c X W) {W' : WX} {pn : List (Addr × Obj)} {xe : Value → Shared → Prop} (tk : Takes (X.tr pn xe) W') (po : PassesOwn (model X.prog X.w) X.A X.env xe) : XOk c (X.tr pn xe) W' :=
  ⟨ok.hN, ok.hs, ok.nd, ok.kd, ok.calm, ok.gd, ok.un, tk, ok.rm, ok.fr, ok.fn, fun _ => po, ok.st, ok.sm⟩
/-- what is known of each class that may come -/
def headAll (t : ETab) (hds : List (Str × Nat × List HS)) : Bool := t.all fun q => hds.all fun p => decide (p.1 ∈ q.2.2.1) || decide (p.1 ∈ q.2.2.2)
/-- the clauses as the text has them -/
def hdsB (c : Sc) : List (Str × Nat × List HS) → List ExceptHandler → Bool
  | [], [] => true
  | (cn, v, hs) :: r, .ExceptHandler (some (.Name z _)) (some n) (b0 :: su) _ :: es => decide (z = cn) && glB c z && decide (c.N[v]? = some n) && decide (c.sc.names.lookup n = some .local) && hssB c v n hs (b0 :: su) && hdsB c r es
  | (cn, v, hs) :: (cn2, v2, hs2) :: r, .ExceptHandler (some (.Tuple [.Name z _, .Name z2 _] _ _)) (some n) (b0 :: su) _ :: es => decide (z = cn) && decide (z2 = cn2) && decide (v = v2) && glB c z && glB c z2 && decide (c.N[v]? = some n) && decide (c.sc.names.lookup n = some .local) && hssB c v n hs (b0 :: su) && hssB c v n hs2 (b0 :: su) && hdsB c r es
  | _, _ => false
theorem isT_all {t : ETab} {hds : List (Str × Nat × List HS)} (h : headAll t hds = true) {x c d : Str} {b : Bool} (e : isT t x c = some b) {v : Nat} {hs : List HS} (m : (d, v, hs) ∈ hds) : ∃ b2, isT t x d = some b2 := by
  unfold isT at e ⊢
  split at e
  · rename_i f ys ns er
    have hm : (x, f, ys, ns) ∈ t := by
      clear h e m
      induction t with
      | nil => cases er
      | cons q r ih =>
        obtain ⟨y, z⟩ := q
        rw [List.lookup_cons] at er
        split at er
        · rename_i hb
          cases er
          rw [eq_of_beq hb]
          exact List.mem_cons_self
        · exact List.mem_cons_of_mem _ (ih er)
    have h1 := List.all_eq_true.mp (List.all_eq_true.mp h _ hm) _ m
    simp only [Bool.or_eq_true, decide_eq_true_eq] at h1
    by_cases c1 : d ∈ ys
    · exact ⟨true, by simp [c1]⟩
    · rcases h1 with h1 | h1
      · exact absurd h1 c1
      · exact ⟨false, by simp [c1, h1]⟩
  · cases e
theorem headAll_tail {t : ETab} {p : Str × Nat × List HS} {hds : List (Str × Nat × List HS)} (h : headAll t (p :: hds) = true) : headAll t hds = true := by
  unfold headAll at h ⊢
  rw [List.all_eq_true] at h ⊢
  intro q hq
  have := h q hq
  rw [List.all_cons, Bool.and_eq_true] at this
  exact this.2
theorem hds_ok (ok : XOk c X W) (hT : ∀ p ∈ t, FactOk X p.1 p.2.1 p.2.2.1 p.2.2.2) : ∀ {hds : List (Str × Nat × List HS)} {es : List ExceptHandler}, hdsB c hds es = true → headAll t hds = true → (∀ p ∈ hds, ∃ cv u, FactV X.mg p.1 cv u) →
    ∃ l, HdsA X es l ∧ ∀ (N : DEnds) (D : Ends) (G Φ : Hp) (L : Nat) (x : Ex) (μ1 : Mu) (G1 H1 : Hp) (C : Addr) (d : Option Addr) (σ' : L2.St), EndsOk X.K X.mg W G Φ N D → L = X.N.length → Same G G1 → Rel X.K G1 μ1 Φ H1 → RepX X.K X.mg G1 x (.ref C) d → X.mg x.c = some (.ref C) →
      wHds t x L N μ1 hds → wManyA X.K W D l (.ref C) d σ' H1
  | [], [], _, _, _ => ⟨[], .nil, fun N D G Φ L x μ1 G1 H1 C d σ' en hL s1 R1 rx m1 w => by
    rw [wHds] at w
    exact en.ex σ' x μ1 G1 H1 _ d w s1 R1 rx⟩
  | (cn, v, hs) :: r, e :: es, h, hA, hF => by
    cases e with
    | ExceptHandler ty nm bd pos =>
      match ty, nm, bd, h with
      | some (.Name z np), some n, b0 :: su, h =>
        simp only [hdsB, Bool.and_eq_true, decide_eq_true_eq] at h
        obtain ⟨⟨⟨⟨⟨rfl, h2⟩, h3⟩, h4⟩, h5⟩, h6⟩ := h
        obtain ⟨cv, u, fv⟩ := hF _ List.mem_cons_self
        obtain ⟨l, q1, q2⟩ := hds_ok ok hT h6 (headAll_tail hA) fun p hp => hF p (List.mem_cons_of_mem _ hp)
        refine ⟨(u, v, fun a cls d D σ H => σ.length = X.N.length → ∃ x, tHS X.K X.mg t x a v cls d (hSs t x hs) D σ H, none) :: l, .cons ?_ (by rw [ok.hN]; exact h3) (by show X.env.scope.names.lookup n = _; rw [ok.hs]; exact h4) (fun a oe cls d pn hz hf => ⟨fun pins s σ H D I q => ?_⟩) q1, ?_⟩
        · refine ⟨ok.gl h2, (glB_ok h2).2.1, ?_⟩
          rcases fv with ⟨C2, m, rfl, rfl⟩ | ⟨T, m, b, rfl, rfl⟩
          · exact .inl m
          · exact .inr ⟨m, b, (glB_ok h2).2.2⟩
        · obtain ⟨x, q⟩ := q I.len
          exact (h_pss (t := t) (x := x) (pn := pn) ok hT hz hf hs _ h5).run pins s σ H D I q
        · intro N D G Φ L x μ1 G1 H1 C d σ' en hL s1 R1 rx m1 w
          rw [wHds] at w
          cases e : isT t x.c z with
          | none => rw [e] at w; exact w.elim
          | some b =>
            rw [e] at w
            obtain ⟨f, F, cv2, u2, fv2, k3, x3⟩ := isT_fact hT e m1
            obtain ⟨_, rfl⟩ := fv.one fv2
            cases b with
            | false => exact ⟨false, x3, fun z => absurd z (by decide), fun _ => q2 N D G Φ L x μ1 G1 H1 C d σ' en hL s1 R1 rx m1 w⟩
            | true =>
              refine ⟨true, x3, fun _ a ha ln => ⟨x, G1, _, μ1, Φ, _, _, rx, ?_, R1, ?_, w a (R1.mnone ha), fun δ' G2 H2 σ2 z s2 e2 R2 => en.nx _ μ1 G2 H2 _ z (s1.trans s2) (e2.put0 v) R2, fun dv G2 H2 v2 z s2 R2 p2 => en.rt dv μ1 G2 H2 v2 z (s1.trans s2) R2 p2⟩, fun z => absurd z (by decide)⟩
              · have e0 : L = σ'.length := by
                  rw [hL]
                  simpa using ln.symm
                rw [e0]
                exact relE_none.put (.ref a)
              · refine look_put_same _ _ _ ?_
                rw [List.length_replicate, hL, ok.hN]
                exact (List.getElem?_eq_some_iff.mp h3).1
      | some (.Tuple [.Name z np, .Name z2 np2] kc tp), some n, b0 :: su, h =>
        cases r with
        | nil => simp [hdsB] at h
        | cons q2 r =>
          obtain ⟨cn2, v2, hs2⟩ := q2
          simp only [hdsB, Bool.and_eq_true, decide_eq_true_eq] at h
          obtain ⟨⟨⟨⟨⟨⟨⟨⟨⟨rfl, rfl⟩, rfl⟩, h2⟩, h2'⟩, h3⟩, h4⟩, h5⟩, h5'⟩, h6⟩ := h
          obtain ⟨cv, u, fv⟩ := hF _ List.mem_cons_self
          obtain ⟨cv', u', fv'⟩ := hF _ (List.mem_cons_of_mem _ List.mem_cons_self)
          obtain ⟨l, q1, q2⟩ := hds_ok ok hT h6 (headAll_tail (headAll_tail hA)) fun p hp => hF p (List.mem_cons_of_mem _ (List.mem_cons_of_mem _ hp))
          have nm : ∀ {z : Str} {cv u}, glB c z = true → FactV X.mg z cv u → Names X z u := fun {z cv u} hg fv => by
            refine ⟨ok.gl hg, (glB_ok hg).2.1, ?_⟩
            rcases fv with ⟨C2, m, rfl, rfl⟩ | ⟨T, m, b, rfl, rfl⟩
            · exact .inl m
            · exact .inr ⟨m, b, (glB_ok hg).2.2⟩
          refine ⟨(u, v, (fun a cls d D σ H => σ.length = X.N.length → ∃ x, tHS X.K X.mg t x a v cls d (hSs t x hs) D σ H), some (u', fun a cls d D σ H => σ.length = X.N.length → ∃ x, tHS X.K X.mg t x a v cls d (hSs t x hs2) D σ H)) :: l, .cons2 (nm h2 fv) (nm h2' fv') (by rw [ok.hN]; exact h3) (by show X.env.scope.names.lookup n = _; rw [ok.hs]; exact h4) (fun a oe cls d pn hz hf => ⟨fun pins s σ H D I q => ?_⟩) (fun a oe cls d pn hz hf => ⟨fun pins s σ H D I q => ?_⟩) q1, ?_⟩
          · obtain ⟨x, q⟩ := q I.len
            exact (h_pss (t := t) (x := x) (pn := pn) ok hT hz hf hs _ h5).run pins s σ H D I q
          · obtain ⟨x, q⟩ := q I.len
            exact (h_pss (t := t) (x := x) (pn := pn) ok hT hz hf hs2 _ h5').run pins s σ H D I q
          · intro N D G Φ L x μ1 G1 H1 C d σ' en hL s1 R1 rx m1 w
            have fin : ∀ (hs : List HS) (a : Addr), H1 a = none → hSs t x hs (Tf.put (List.replicate L none) v (some (.ref a))) (fun δ1 => N.nx (Tf.put δ1 v none) μ1) (fun d => N.rt d μ1) → (σ'.set v (some (V.ref a))).length = X.N.length → ∃ x, tHS X.K X.mg t x a v (.ref C) d (hSs t x hs) (endA D v) (σ'.set v (some (V.ref a))) H1 := fun hs a ha w ln => by
              refine ⟨x, G1, _, μ1, Φ, _, _, rx, ?_, R1, ?_, w, fun δ' G2 H2 σ2 z s2 e2 R2 => en.nx _ μ1 G2 H2 _ z (s1.trans s2) (e2.put0 v) R2, fun dv G2 H2 v2 z s2 R2 p2 => en.rt dv μ1 G2 H2 v2 z (s1.trans s2) R2 p2⟩
              · have e0 : L = σ'.length := by
                  rw [hL]
                  simpa using ln.symm
                rw [e0]
                exact relE_none.put (.ref a)
              · refine look_put_same _ _ _ ?_
                rw [List.length_replicate, hL, ok.hN]
                exact (List.getElem?_eq_some_iff.mp h3).1
            rw [wHds] at w
            cases e : isT t x.c z with
            | none => rw [e] at w; exact w.elim
            | some b =>
              rw [e] at w
              obtain ⟨f, F, cv2, u2, fv2, k3, x3⟩ := isT_fact hT e m1
              obtain ⟨_, rfl⟩ := fv.one fv2
              obtain ⟨b2, e2⟩ := isT_all hA e (List.mem_cons_of_mem _ List.mem_cons_self)
              obtain ⟨f', F', cv2', u2', fv2', k3', x3'⟩ := isT_fact hT e2 m1
              obtain ⟨_, rfl⟩ := fv'.one fv2'
              refine ⟨b, b2, x3, x3', fun hb a ha ln => ?_, fun hb hb2 a ha ln => ?_, fun hb hb2 => ?_⟩
              · subst hb
                exact fin hs a ha (w a (R1.mnone ha)) ln
              · subst hb hb2
                dsimp only at w
                rw [wHds, e2] at w
                exact fin hs2 a ha (w a (R1.mnone ha)) ln
              · subst hb hb2
                dsimp only at w
                rw [wHds, e2] at w
                exact q2 N D G Φ L x μ1 G1 H1 C d σ' en hL s1 R1 rx m1 w
      | none, _, _, h => simp [hdsB] at h
      | some e, none, _, h => cases e <;> simp [hdsB] at h
      | some e, some _, [], h => cases e <;> simp [hdsB] at h
  | [], _ :: _, h, _, _ => by simp [hdsB] at h
  | _ :: _, [], h, _, _ => by simp [hdsB] at h
theorem s_try (ok : XOk c X W) (top : c.top = true) (hT : ∀ p ∈ t, FactOk X p.1 p.2.1 p.2.2.1 p.2.2.2) {hds : List (Str × Nat × List HS)} {h₀ : ExceptHandler} {es : List ExceptHandler} {body : List Stmt} {pos : Pos} {wb : WSt}
    (hh : hdsB c hds (h₀ :: es) = true) (hA : headAll t hds = true) (hF : ∀ p ∈ hds, ∃ cv u, FactV X.mg p.1 cv u)
    (hb : ∀ X' W', Near X X' → XOk c X' W' → PSs X' body (tS X'.K X'.mg W' wb)) :
    PS X (.Try body (h₀ :: es) [] [] pos) (tS X.K X.mg W fun δ μ N => wb δ μ { N with ex := fun x μ1 => wHds t x δ.length N μ1 hds }) := by
  obtain ⟨st1, st2⟩ := ok.st top
  obtain ⟨l, q1, q2⟩ := hds_ok ok hT hh hA hF
  refine ⟨fun pins s σ H D I h => ?_⟩
  refine (ps_try_manyA (X := X) (Wout := W) (tb := fun W' => tS X.K X.mg W' wb) st1 st2 (by rw [ok.hN]; exact ok.nd) ok.tk (fun W' pn xe tk po => hb (X.tr pn xe) W' ⟨rfl, rfl, rfl, rfl, rfl⟩ (ok.try_ tk po)) q1).run pins s σ H D I ?_
  obtain ⟨δ, G, μ, Φ, N, hE, hR, hw, en⟩ := h
  refine ⟨δ, G, μ, Φ, _, hE, hR, hw, en.nx, en.rt, en.bk, en.ct, fun σ' x μ1 G1 H1 cls d w s1 R1 rx => ?_⟩
  obtain ⟨C, m1, m2⟩ := cls_fact rx
  subst m2
  exact q2 N D G Φ δ.length x μ1 G1 H1 C d σ' en (by rw [hE.len, I.len]) s1 R1 rx m1 w
end
end Tf

set_option Elab.async false
set_option linter.all false
set_option maxRecDepth 100000
set_option maxHeartbeats 4000000
/-! Tf, part L: statements of the text, a whole def. -/
namespace Tf
open PySem PySem.Spec PyProof.Rows L2
/-- name = [..], in the one way or the other -/
def isCompE : IE → Bool
  | .comp .. => true
  | _ => false
def compStB (c : Sc) (e : IE) (x : Str) (px pos : Pos) : Expr → Bool
  | .ListComp _ _ scope p => isCompE e && (decide (c.sc.names.lookup x = some .local) && decide ((px.line == p.line) = true) && !(scope.names.any fun (n, k) => n == x && (k == .local || k == .cell)) || decide (c.sc.names.lookup x = some .cell))
  | v => notComp v
def tgName : List Expr → Option (Str × Pos)
  | [.Name x p] => some (x, p)
  | _ => none
def tgTup : List Expr → Option (List Expr × Nat × Pos)
  | [.Tuple es k p] => some (es, k, p)
  | _ => none
def tgSub : List Expr → Option (Expr × Expr × Pos)
  | [.Subscript a b p] => some (a, b, p)
  | _ => none
def vTup : Expr → Option (List Expr × Nat × Pos)
  | .Tuple es k p => some (es, k, p)
  | _ => none
theorem tgName_ok {l : List Expr} {x : Str} {p : Pos} (h : tgName l = some (x, p)) : l = [.Name x p] := by
  unfold tgName at h
  split at h
  · cases h; rfl
  · cases h
theorem tgTup_ok {l : List Expr} {x : List Expr} {k : Nat} {p : Pos} (h : tgTup l = some (x, k, p)) : l = [.Tuple x k p] := by
  unfold tgTup at h
  split at h
  · cases h; rfl
  · cases h
theorem tgSub_ok {l : List Expr} {a b : Expr} {p : Pos} (h : tgSub l = some (a, b, p)) : l = [.Subscript a b p] := by
  unfold tgSub at h
  split at h
  · cases h; rfl
  · cases h
theorem vTup_ok {e : Expr} {x : List Expr} {k : Nat} {p : Pos} (h : vTup e = some (x, k, p)) : e = .Tuple x k p := by
  unfold vTup at h
  split at h
  · cases h; rfl
  · cases h
def parB (c : Sc) (is : List Nat) (es : List IE) (ns vs : List Expr) : Bool :=
  match is, ns, vs with
  | [i, j], [n1, n2], [a, b] => (match tgName [n1], tgName [n2] with
    | some (x, px), some (y, py) => decide (c.N[i]? = some x) && decide (c.N[j]? = some y) && decide (i ≠ j) && sw2 c x y px py a b && aB c es [a, b]
    | _, _ => false)
  | [i, j, l], [n1, n2, n3], [a, b, d] => (match tgName [n1], tgName [n2], tgName [n3] with
    | some (x, px), some (y, py), some (z, pz) => decide (c.N[i]? = some x) && decide (c.N[j]? = some y) && decide (c.N[l]? = some z) && decide (i ≠ j) && decide (i ≠ l) && decide (j ≠ l) && sw3 c x y z px py pz a b d && aB c es [a, b, d]
    | _, _, _ => false)
  | _, _, _ => false
def augB : Bop → Operator → Bool
  | .add, .Add => true
  | .sub, .Sub => true
  | _, _ => false
def esB (c : Sc) : List IE → List Expr → Bool
  | [], [] => true
  | e :: es, x :: xs => eB c e x && esB c es xs
  | _, _ => false
def raiseP : Stmt → Option (Str × Expr)
  | .Raise (some (.Call (.Name z _) [a] [] _)) none _ => some (z, a)
  | _ => none
theorem raiseP_ok {s : Stmt} {z : Str} {a : Expr} (h : raiseP s = some (z, a)) : ∃ p q r, s = .Raise (some (.Call (.Name z p) [a] [] q)) none r := by
  unfold raiseP at h
  split at h
  · cases h; exact ⟨_, _, _, rfl⟩
  · cases h
def tryP : Stmt → Option (List Stmt × ExceptHandler × List ExceptHandler)
  | .Try bd (h :: es) [] [] _ => some (bd, h, es)
  | _ => none
theorem tryP_ok {s : Stmt} {bd : List Stmt} {h : ExceptHandler} {es : List ExceptHandler} (e : tryP s = some (bd, h, es)) : ∃ r, s = .Try bd (h :: es) [] [] r := by
  unfold tryP at e
  split at e
  · cases e; exact ⟨_, rfl⟩
  · cases e
def headIn (t : ETab) (hds : List (Str × Nat × List HS)) : Bool := match t with
  | (_, _, ys, ns) :: _ => hds.all fun p => decide (p.1 ∈ ys) || decide (p.1 ∈ ns)
  | [] => false
mutual
def stB (c : Sc) : IS → Stmt → Bool
  | .asg (.nm i) e, .Assign tgs v pos => (match tgName tgs with | some (x, px) => locB c i x && compStB c e x px pos v && eB c e v | none => false)
  | .asg (.tp ts) e, .Assign tgs v _ => (match tgTup tgs with | some (es, k, p) => tgB c (.tp ts) (.Tuple es k p) && noSw c es v && eB c e v | none => false)
  | .par is es, .Assign tgs v _ => (match tgTup tgs, vTup v with | some (ns, _, _), some (vs, _, _) => parB c is es ns vs | _, _ => false)
  | .aug i o e, .AugAssign t op v _ => (match tgName [t] with | some (x, _) => locB c i x && augB o op && eB c e v | none => false)
  | .exp e, .Expr v _ => notComp v && eB c e v
  | .set o i e, .Assign tgs v _ => (match tgSub tgs with | some (a, b, _) => notSlice b && notComp v && eB c e v && eB c o a && eB c i b | none => false)
  | .ret e, .Return (some v) _ => eB c e v
  | .ret0, .Return none _ => true
  | .ite t a b, .If x as bs _ => eB c t x && ssB c a as && ssB c b bs
  | .for_ _ t it body, .For tg iter bd [] _ => c.top && tgB c t tg && iB c tg it iter && notSet iter && ssB c body bd
  | .while_ _ t body, .While x bd [] _ => c.top && eB c t x && ssB c body bd
  | .pass_, .Pass _ => true
  | .brk, .Break _ => true
  | .cnt, .Continue _ => true
  | .never, _ => true
  | .raise x _ e, s => (match raiseP s with | some (z, a) => decide (z = x) && glB c x && notStar a && eB c e a && decide (2 ≤ c.k) | none => false)
  | .tryx t body hds, s => (match tryP s with | some (bd, h, es) => c.top && hdsB c hds (h :: es) && ssB c body bd && headIn t hds && headAll t hds | none => false)
  | .xs o es bs, t => (match o.chk c t with | some (us, sts) => esB c es us && sssB c bs sts | none => false)
  | _, _ => false
def ssB (c : Sc) : List IS → List Stmt → Bool
  | [], [] => true
  | s :: ss, t :: ts => stB c s t && ssB c ss ts
  | _, _ => false
def sssB (c : Sc) : List (List IS) → List (List Stmt) → Bool
  | [], [] => true
  | b :: bs, t :: ts => ssB c b t && sssB c bs ts
  | _, _ => false
end
mutual
def rS (C : Str → Spec → Prop) (Gb : Str → D → Prop) (Fx : Str → Str → List Str → List Str → Prop) : IS → Prop
  | .asg _ e => rE C Gb e
  | .par _ es => rL C Gb es
  | .aug _ _ e => rE C Gb e
  | .exp e => rE C Gb e
  | .set o i e => rE C Gb o ∧ rE C Gb i ∧ rE C Gb e
  | .ret e => rE C Gb e
  | .ite t a b => rE C Gb t ∧ rSs C Gb Fx a ∧ rSs C Gb Fx b
  | .for_ _ _ it body => rE C Gb it ∧ rSs C Gb Fx body
  | .while_ _ t body => rE C Gb t ∧ rSs C Gb Fx body
  | .raise x f e => Fx x f [] [] ∧ rE C Gb e
  | .tryx t body _ => (∀ p ∈ t, Fx p.1 p.2.1 p.2.2.1 p.2.2.2) ∧ rSs C Gb Fx body
  | .xs o es bs => o.Ok ∧ rL C Gb es ∧ rSss C Gb Fx bs
  | _ => True
def rSs (C : Str → Spec → Prop) (Gb : Str → D → Prop) (Fx : Str → Str → List Str → List Str → Prop) : List IS → Prop
  | [] => True
  | s :: ss => rS C Gb Fx s ∧ rSs C Gb Fx ss
def rSss (C : Str → Spec → Prop) (Gb : Str → D → Prop) (Fx : Str → Str → List Str → List Str → Prop) : List (List IS) → Prop
  | [] => True
  | b :: bs => rSs C Gb Fx b ∧ rSss C Gb Fx bs
end
section
variable {X : Cx} {c : Sc} {W : WX}
theorem tS_eta {K : PySem.W.Frag} {mg : Str → Option Value} {w w' : WSt} (h : ∀ δ μ N, w' δ μ N → w δ μ N) {D : Ends} {σ : L2.St} {H : Hp} (x : tS K mg W w' D σ H) : tS K mg W w D σ H := by
  obtain ⟨δ, G, μ, Φ, N, hE, hR, hw, en⟩ := x
  exact ⟨δ, G, μ, Φ, N, hE, hR, h _ _ _ hw, en⟩
theorem ps_eta {s : Stmt} {w w' : WSt} (p : PS X s (tS X.K X.mg W w)) (h : ∀ δ μ N, w' δ μ N → w δ μ N) : PS X s (tS X.K X.mg W w') := PS_imp p fun _ _ _ x => tS_eta h x
theorem pss_eta {s : List Stmt} {w w' : WSt} (p : PSs X s (tS X.K X.mg W w)) (h : ∀ δ μ N, w' δ μ N → w δ μ N) : PSs X s (tS X.K X.mg W w') := PSs_imp p fun _ _ _ x => tS_eta h x
theorem s_par2 (ok : XOk c X W) {i j : Nat} {x y : Str} {a b : Expr} {px py pt pos : Pos} {kt k2 : Nat} {pt2 : Pos} {wl : WK (List D)} (hi : c.N[i]? = some x) (hj : c.N[j]? = some y) (hij : i ≠ j) (h : sw2 c x y px py a b = true) (ha : PA X [a, b] (tA X.K X.mg W wl)) :
    PS X (.Assign [.Tuple [.Name x px, .Name y py] kt pt] (.Tuple [a, b] k2 pt2) pos) (tS X.K X.mg W fun δ μ N => wl δ μ N.ex fun ds μ1 => putMany [i, j] ds δ fun δ1 => N.nx δ1 μ1) := by
  have hw := sw2_ok (kt := kt) (pt := pt) (k2 := k2) (pt2 := pt2) ok.hs ok.kd h
  unfold sw2 at h
  simp only [Bool.and_eq_true, decide_eq_true_eq] at h
  refine PS_imp (ps_par (i := i) (j := j) ok.calm (by rw [ok.hN]; exact ok.nd) (by rw [ok.hN]; exact hi) (by rw [ok.hN]; exact hj) hij (by rw [ok.hs]; exact h.1.1.1.1.1.1.1) (by rw [ok.hs]; exact h.1.1.1.1.1.1.2) ha hw) fun D σ H q => ?_
  obtain ⟨δ, G, μ, Φ, N, hE, hR, w, en⟩ := q
  refine ⟨δ, G, μ, Φ, _, _, hE, hR, w, fun ds μ1 G1 H1 vs q s R1 p1 => ?_, en.ex σ⟩
  match p1, q with
  | .cons r1 (.cons r2 .nil), q =>
    exact ⟨_, _, rfl, en.nx _ μ1 G1 H1 _ q s (((hE.mono s).put r1).put r2) R1⟩
theorem s_par3 (ok : XOk c X W) {i j l : Nat} {x y z : Str} {a b d : Expr} {px py pz pt pos : Pos} {kt k2 : Nat} {pt2 : Pos} {wl : WK (List D)} (hi : c.N[i]? = some x) (hj : c.N[j]? = some y) (hl : c.N[l]? = some z) (hij : i ≠ j) (hil : i ≠ l) (hjl : j ≠ l) (h : sw3 c x y z px py pz a b d = true) (ha : PA X [a, b, d] (tA X.K X.mg W wl)) :
    PS X (.Assign [.Tuple [.Name x px, .Name y py, .Name z pz] kt pt] (.Tuple [a, b, d] k2 pt2) pos) (tS X.K X.mg W fun δ μ N => wl δ μ N.ex fun ds μ1 => putMany [i, j, l] ds δ fun δ1 => N.nx δ1 μ1) := by
  have hw := sw3_ok (kt := kt) (pt := pt) (k2 := k2) (pt2 := pt2) ok.hs ok.kd h
  unfold sw3 at h
  simp only [Bool.and_eq_true, decide_eq_true_eq] at h
  refine PS_imp (ps_par3 (i := i) (j := j) (l := l) ok.calm (by rw [ok.hN]; exact ok.nd) (by rw [ok.hN]; exact hi) (by rw [ok.hN]; exact hj) (by rw [ok.hN]; exact hl) hij hil hjl (by rw [ok.hs]; exact h.1.1.1.1.1.1.1.1.1.1.1.1) (by rw [ok.hs]; exact h.1.1.1.1.1.1.1.1.1.1.1.2) (by rw [ok.hs]; exact h.1.1.1.1.1.1.1.1.1.1.2) ha hw) fun D σ H q => ?_
  obtain ⟨δ, G, μ, Φ, N, hE, hR, w, en⟩ := q
  refine ⟨δ, G, μ, Φ, _, _, hE, hR, w, fun ds μ1 G1 H1 vs q s R1 p1 => ?_, en.ex σ⟩
  match p1, q with
  | .cons r1 (.cons r2 (.cons r3 .nil)), q =>
    exact ⟨_, _, _, rfl, en.nx _ μ1 G1 H1 _ q s ((((hE.mono s).put r1).put r2).put r3) R1⟩
def SS (s : IS) : Prop := ∀ (c : Sc) (X : Cx) (W : WX) (t : Stmt), XOk c X W → rS (CallOk X c.k) (GlbOk X) (FactOk X) s → stB c s t = true → PS X t (tS X.K X.mg W (wS s))
def SSs (ss : List IS) : Prop := ∀ (c : Sc) (X : Cx) (W : WX) (ts : List Stmt), XOk c X W → rSs (CallOk X c.k) (GlbOk X) (FactOk X) ss → ssB c ss ts = true → PSs X ts (tS X.K X.mg W (wB ss))
structure IHS (n : Nat) : Prop where
  s : ∀ s : IS, sizeOf s < n → SS s
  b : ∀ ss : List IS, sizeOf ss < n → SSs ss
variable {n : Nat}
theorem sw_cell {elt : Expr} {gs : List Comprehension} {scope : Scope} {pos py : Pos} {y : Str} {l : Nat} {env : Env} (hy : env.scope.names.lookup y = some .cell) : swapsWith (.ListComp elt gs scope pos) (some (.Name y py)) l env = pure false := by
  have ky : env.kindOf y = some .cell := hy
  unfold swapsWith
  simp only [ky]
  have : (some NameKind.cell == some NameKind.local) = false := by decide
  simp [this]
theorem ok_asgN (ok : XOk c X W) {i : Nat} {e : IE} {x : Str} {px pos : Pos} {v : Expr} (r : rE (CallOk X c.k) (GlbOk X) e) (h : locB c i x = true) (h2 : compStB c e x px pos v = true) (h3 : eB c e v = true) : PS X (.Assign [.Name x px] v pos) (tS X.K X.mg W fun δ μ N => wE e δ μ N.ex fun d μ1 => N.nx (put δ i (some d)) μ1) := by
  by_cases hn : notComp v = true
  · exact s_setN ok h (notComp_swap hn _ _ _) (sE e _ _ _ _ ok r h3)
  · cases v with
    | ListComp elt gens scope p =>
      unfold compStB at h2
      simp only [Bool.or_eq_true, Bool.and_eq_true, decide_eq_true_eq, Bool.not_eq_true'] at h2
      obtain ⟨hc, h2⟩ := h2
      rcases h2 with ⟨⟨k1, k2⟩, k3⟩ | k
      · cases e with
        | comp m own t it cs el =>
          match gens, h3 with
          | [⟨tg, iter, ifs, a⟩], h3 =>
            unfold eB at h3
            simp only [Bool.and_eq_true, decide_eq_true_eq] at h3
            obtain ⟨⟨⟨⟨⟨⟨⟨rfl, q2⟩, q3⟩, q4⟩, q5⟩, q6⟩, q7⟩, q8⟩ := h3
            rw [rE] at r
            have bo := blkOk_by q4
            have sl : ∀ i ∈ slots t, i ∈ own.map (·.2) := fun i hi => by
              have := List.all_eq_true.mp q5 i hi
              simpa using this
            have bo' : BlkOk X.N X.env.scope scope own := by rw [ok.hN, ok.hs]; exact bo
            have hi := sI it _ _ _ _ _ ok r.1 q2
            have hf := notSet_fold q3 X.env
            have lk : X.env.scope.names.lookup x = some .local := by rw [ok.hs]; exact k1
            have kd : X.env.scope.kind = .function := by rw [ok.hs]; exact ok.kd
            have sw := sw_true (elt := elt) (gs := [⟨tg, iter, ifs, 0⟩]) (scope := scope) (l := pos.line) kd lk k2 k3
            have hNi : c.N[i]? = some x := (locB_ok h).1
            match cs, ifs, q7, r with
            | [], [], _, r =>
              exact ps_eta (s_setLc (m := m) (wc := fun _ μ _ Q => Q true μ) (we := wE el) ok hNi k1 sw hi bo' sl (fun s H C cl fp => d_tg (ok.blk bo.kind) q6) (fun s H C cl fp => pts0 (mg := X.mg)) (fun s H C cl fp => sE el _ _ _ _ (ok.blk bo.kind) r.2.2 q8) hf) fun δ μ N w => by
                simp only [wE, wAll] at w
                exact w
            | [k], [y], q7, r =>
              rw [rL] at r
              exact ps_eta (s_setLc (m := m) (we := wE el) ok hNi k1 sw hi bo' sl (fun s H C cl fp => d_tg (ok.blk bo.kind) q6) (fun s H C cl fp => pts1 (sT k _ _ _ _ (ok.blk bo.kind) r.2.1.1 q7)) (fun s H C cl fp => sE el _ _ _ _ (ok.blk bo.kind) r.2.2 q8) hf) fun δ μ N w => by
                simp only [wE, wAll] at w
                exact w
            | [], _ :: _, h7, _ => cases h7
            | [_], [], h7, _ => cases h7
            | [_], _ :: _ :: _, h7, _ => cases h7
            | _ :: _ :: _, _, h7, _ => cases h7
          | [], h => simp [eB] at h
          | _ :: _ :: _, h => simp [eB] at h
        | _ => cases hc
      · exact s_setN ok h (sw_cell (by rw [ok.hs]; exact k)) (sE e _ _ _ _ ok r h3)
    | _ => first | exact absurd rfl hn | (cases h2)
theorem one_asg {e : Expr} {env : Env} (h : notStar e = true) : (assignEach [e] env).map (·.2) = [assign e env] := by rw [notStar_asg h]; rfl
theorem Near.call {X X' : Cx} (n : Near X X') (k : Nat) : CallOk X' k = CallOk X k := by
  obtain ⟨a, b, c, d, e⟩ := n
  funext x sp
  unfold CallOk
  rw [a, b, c, d, e]
theorem Near.glb {X X' : Cx} (n : Near X X') : GlbOk X' = GlbOk X := by
  obtain ⟨a, b, c, d, e⟩ := n
  funext x sp
  unfold GlbOk
  rw [a, b]
theorem Near.fact {X X' : Cx} (n : Near X X') : FactOk X' = FactOk X := by
  obtain ⟨a, b, c, d, e⟩ := n
  funext x f ys ns
  unfold FactOk
  rw [a, b, c, d, e]
theorem xs_es {c : Sc} {X : Cx} : ∀ (es : List IE) (us : List Expr), rL (CallOk X c.k) (GlbOk X) es → esB c es us = true → Paired (fun u we => ∀ X' W', Near X X' → XOk c X' W' → PE X' u (tE X'.K X'.mg W' we)) us (wEs es)
  | [], [], _, _ => .nil
  | [], _ :: _, _, h => by simp [esB] at h
  | _ :: _, [], _, h => by simp [esB] at h
  | e :: es, u :: us, r, h => by
    rw [rL] at r
    rw [esB, Bool.and_eq_true] at h
    exact .cons (fun X' W' nr ok => sE e _ _ _ _ ok (by rw [nr.call, nr.glb]; exact r.1) h.1) (xs_es es us r.2 h.2)
theorem xs_bs {c : Sc} {X : Cx} : ∀ (bs : List (List IS)) (sts : List (List Stmt)), (∀ b ∈ bs, SSs b) → rSss (CallOk X c.k) (GlbOk X) (FactOk X) bs → sssB c bs sts = true → Paired (fun ss wb => ∀ X' W', Near X X' → XOk c X' W' → PSs X' ss (tS X'.K X'.mg W' wb)) sts (wBs bs)
  | [], [], _, _, _ => .nil
  | [], _ :: _, _, _, h => by simp [sssB] at h
  | _ :: _, [], _, _, h => by simp [sssB] at h
  | b :: bs, t :: ts, i, r, h => by
    rw [rSss] at r
    rw [sssB, Bool.and_eq_true] at h
    exact .cons (fun X' W' nr ok => i b (by simp) _ _ _ _ ok (by rw [nr.call, nr.glb, nr.fact]; exact r.1) h.1) (xs_bs bs ts (fun b hb => i b (by simp [hb])) r.2 h.2)
theorem stepS (ih : IHS n) : ∀ s : IS, sizeOf s < n + 1 → SS s
  | .asg (.nm i) e, hz, c, X, W, t, ok, r, h => by
    cases t with
    | Assign tgs v pos =>
      unfold stB at h
      split at h
      · rename_i x px et
        cases tgName_ok et
        simp only [Bool.and_eq_true] at h
        rw [rS] at r
        exact ps_eta (ok_asgN ok r h.1.1 h.1.2 h.2) fun δ μ N w => by
          simp only [wS, wTg] at w
          exact w
      · cases h
    | _ => simp [stB] at h
  | .asg (.tp ts) e, hz, c, X, W, t, ok, r, h => by
    cases t with
    | Assign tgs v pos =>
      unfold stB at h
      split at h
      · rename_i es k p et
        cases tgTup_ok et
        simp only [Bool.and_eq_true] at h
        rw [rS] at r
        have hs : swapsWithSole [.Tuple es k p] v pos.line X.env = pure false := by
          show swapsWith v (some (.Tuple es k p)) pos.line X.env = pure false
          cases v <;> rfl
        exact ps_eta (s_setT ok h.1.1 hs (noSw_ok ok.hs h.1.2) rfl (sE e _ _ _ _ ok r h.2)) fun δ μ N w => by
          simp only [wS] at w
          exact w
      · cases h
    | _ => simp [stB] at h
  | .par is es, hz, c, X, W, t, ok, r, h => by
    cases t with
    | Assign tgs v pos =>
      unfold stB at h
      split at h
      · rename_i ns _ _ vs _ _ e1 e2
        cases tgTup_ok e1
        cases vTup_ok e2
        rw [rS] at r
        unfold parB at h
        split at h
        · split at h
          · rename_i f1 f2
            cases tgName_ok f1
            cases tgName_ok f2
            simp only [Bool.and_eq_true, decide_eq_true_eq] at h
            exact ps_eta (s_par2 ok h.1.1.1.1 h.1.1.1.2 h.1.1.2 h.1.2 (sA es _ _ _ _ ok r h.2)) fun δ μ N w => by
              rw [wS] at w
              exact w
          · cases h
        · split at h
          · rename_i f1 f2 f3
            cases tgName_ok f1
            cases tgName_ok f2
            cases tgName_ok f3
            simp only [Bool.and_eq_true, decide_eq_true_eq] at h
            exact ps_eta (s_par3 ok h.1.1.1.1.1.1.1 h.1.1.1.1.1.1.2 h.1.1.1.1.1.2 h.1.1.1.1.2 h.1.1.1.2 h.1.1.2 h.1.2 (sA es _ _ _ _ ok r h.2)) fun δ μ N w => by
              rw [wS] at w
              exact w
          · cases h
        · cases h
      · cases h
    | _ => simp [stB] at h
  | .aug i o e, hz, c, X, W, t, ok, r, h => by
    cases t with
    | AugAssign tg op v pos =>
      unfold stB at h
      split at h
      · rename_i x px et
        cases tgName_ok et
        simp only [Bool.and_eq_true] at h
        rw [rS] at r
        have ho : (o = .add ∧ op = .Add) ∨ (o = .sub ∧ op = .Sub) := by
          have := h.1.2
          unfold augB at this
          split at this
          · exact .inl ⟨rfl, rfl⟩
          · exact .inr ⟨rfl, rfl⟩
          · cases this
        exact ps_eta (s_aug ok h.1.1 ho (sE e _ _ _ _ ok r h.2)) fun δ μ N w => by
          rw [wS] at w
          exact w
      · cases h
    | _ => simp [stB] at h
  | .exp e, hz, c, X, W, t, ok, r, h => by
    cases t with
    | Expr v pos =>
      simp only [stB, Bool.and_eq_true] at h
      rw [rS] at r
      exact ps_eta (s_exp h.1 (sE e _ _ _ _ ok r h.2)) fun δ μ N w => by
        simp only [wS] at w
        exact w
    | _ => simp [stB] at h
  | .set o i e, hz, c, X, W, t, ok, r, h => by
    cases t with
    | Assign tgs v pos =>
      unfold stB at h
      split at h
      · rename_i a b p et
        cases tgSub_ok et
        simp only [Bool.and_eq_true] at h
        rw [rS] at r
        exact ps_eta (s_set h.1.1.1.1 (notComp_swap h.1.1.1.2 _ _ _) (sE e _ _ _ _ ok r.2.2 h.1.1.2) (sE o _ _ _ _ ok r.1 h.1.2) (sE i _ _ _ _ ok r.2.1 h.2)) fun δ μ N w => by
          simp only [wS] at w
          exact w
      · cases h
    | _ => simp [stB] at h
  | .ret e, hz, c, X, W, t, ok, r, h => by
    cases t with
    | Return v pos =>
      cases v with
      | none => simp [stB] at h
      | some v =>
        simp only [stB] at h
        rw [rS] at r
        exact ps_eta (s_ret (sE e _ _ _ _ ok r h)) fun δ μ N w => by
          simp only [wS] at w
          exact w
    | _ => simp [stB] at h
  | .ret0, hz, c, X, W, t, ok, r, h => by
    cases t with
    | Return v pos =>
      cases v with
      | none => exact ps_eta s_ret0 fun δ μ N w => by simp only [wS] at w; exact w
      | some v => simp [stB] at h
    | _ => simp [stB] at h
  | .ite e a b, hz, c, X, W, t, ok, r, h => by
    cases t with
    | If x as bs pos =>
      simp only [stB, Bool.and_eq_true] at h
      rw [rS] at r
      exact ps_eta (s_ite (sT e _ _ _ _ ok r.1 h.1.1) (ih.b a (by simp at hz; omega) _ _ _ _ ok r.2.1 h.1.2) (ih.b b (by simp at hz; omega) _ _ _ _ ok r.2.2 h.2)) fun δ μ N w => by
        simp only [wS] at w
        exact w
    | _ => simp [stB] at h
  | .for_ tmp g it body, hz, c, X, W, t, ok, r, h => by
    cases t with
    | For tg iter bd orelse pos =>
      cases orelse with
      | nil =>
        simp only [stB, Bool.and_eq_true] at h
        rw [rS] at r
        exact ps_eta (s_for (tmp := tmp) ok h.1.1.1.1 (sI it _ _ _ _ _ ok r.1 h.1.1.2) (notSet_fold h.1.2 X.env) h.1.1.1.2 (ih.b body (by simp at hz; omega) _ _ _ _ ok r.2 h.2)) fun δ μ N w => by
          simp only [wS] at w
          exact w
      | cons _ _ => simp [stB] at h
    | _ => simp [stB] at h
  | .while_ tmp e body, hz, c, X, W, t, ok, r, h => by
    cases t with
    | While x bd orelse pos =>
      cases orelse with
      | nil =>
        simp only [stB, Bool.and_eq_true] at h
        rw [rS] at r
        exact ps_eta (s_while (tmp := tmp) ok h.1.1 (sT e _ _ _ _ ok r.1 h.1.2) (ih.b body (by simp at hz; omega) _ _ _ _ ok r.2 h.2)) fun δ μ N w => by
          simp only [wS] at w
          exact w
      | cons _ _ => simp [stB] at h
    | _ => simp [stB] at h
  | .pass_, hz, c, X, W, t, ok, r, h => by
    cases t with
    | Pass p => exact ps_eta s_pass fun δ μ N w => by simp only [wS] at w; exact w
    | _ => simp [stB] at h
  | .brk, hz, c, X, W, t, ok, r, h => by
    cases t with
    | Break p => exact ps_eta s_brk fun δ μ N w => by simp only [wS] at w; exact w
    | _ => simp [stB] at h
  | .cnt, hz, c, X, W, t, ok, r, h => by
    cases t with
    | Continue p => exact ps_eta s_cnt fun δ μ N w => by simp only [wS] at w; exact w
    | _ => simp [stB] at h
  | .never, hz, c, X, W, t, ok, r, h => ps_eta s_never fun δ μ N w => by simp only [wS] at w
  | .raise x f e, hz, c, X, W, s, ok, r, h => by
    unfold stB at h
    split at h <;> first | contradiction | skip
    rename_i z a e1
    obtain ⟨p, q, p2, rfl⟩ := raiseP_ok e1
    simp only [Bool.and_eq_true, decide_eq_true_eq] at h
    obtain ⟨⟨⟨⟨rfl, h2⟩, h3⟩, h4⟩, h5⟩ := h
    rw [rS] at r
    exact ps_eta (s_raise ok h5 r.1 h2 h3 (sE e _ _ _ _ ok r.2 h4)) fun δ μ N w => by
      simp only [wS] at w
      exact w
  | .tryx t body hds, hz, c, X, W, s, ok, r, h => by
    unfold stB at h
    split at h <;> first | contradiction | skip
    rename_i bd h0 es e1
    obtain ⟨p2, rfl⟩ := tryP_ok e1
    simp only [Bool.and_eq_true, decide_eq_true_eq] at h
    obtain ⟨⟨⟨⟨h1, h2⟩, h7⟩, h8⟩, h9⟩ := h
    rw [rS] at r
    have hF : ∀ p ∈ hds, ∃ cv u, FactV X.mg p.1 cv u := by
      cases t with
      | nil => cases h8
      | cons q t =>
        obtain ⟨C, _, F1, F2⟩ := r.1 q (by simp)
        intro p hp
        have := List.all_eq_true.mp h8 p hp
        simp only [Bool.or_eq_true, decide_eq_true_eq] at this
        rcases this with z | z
        · obtain ⟨cv, u, m, _⟩ := F1 _ z; exact ⟨cv, u, m⟩
        · obtain ⟨cv, u, m, _⟩ := F2 _ z; exact ⟨cv, u, m⟩
    exact ps_eta (s_try (wb := wB body) ok h1 r.1 h2 h9 hF (fun X' W' nr ok' => ih.b body (by simp at hz; omega) _ _ _ _ ok' (by rw [nr.call, nr.glb, nr.fact]; exact r.2) h7)) fun δ μ N w => by
      simp only [wS] at w
      exact w
  | .xs o es bs, hz, c, X, W, t, ok, r, h => by
    unfold stB at h
    split at h <;> first | contradiction | skip
    rename_i us sts e1
    rw [Bool.and_eq_true] at h
    rw [rS] at r
    exact ps_eta (r.1 c X W t us sts _ _ ok e1 (xs_es es us r.2.1 h.1) (xs_bs bs sts (fun b hb => ih.b b (by have := List.sizeOf_lt_of_mem hb; simp at hz; omega)) r.2.2 h.2)) fun δ μ N w => by
      simp only [wS] at w
      exact w
theorem stepB (ih : IHS n) : ∀ ss : List IS, sizeOf ss < n + 1 → SSs ss
  | [], hz, c, X, W, ts, ok, r, h => by
    cases ts with
    | nil => exact pss_eta s_nil fun δ μ N w => by simp only [wB] at w; exact w
    | cons _ _ => simp [ssB] at h
  | s :: ss, hz, c, X, W, ts, ok, r, h => by
    cases ts with
    | nil => simp [ssB] at h
    | cons t ts =>
      simp only [ssB, Bool.and_eq_true] at h
      rw [rSs] at r
      exact pss_eta (s_cons (ih.s s (by simp at hz; omega) _ _ _ _ ok r.1 h.1) (ih.b ss (by simp at hz; omega) _ _ _ _ ok r.2 h.2)) fun δ μ N w => by
        simp only [wB] at w
        exact w
theorem ihs_all : ∀ n : Nat, IHS n
  | 0 => ⟨fun _ h => absurd h (Nat.not_lt_zero _), fun _ h => absurd h (Nat.not_lt_zero _)⟩
  | n + 1 => have ih := ihs_all n; ⟨stepS ih, stepB ih⟩
theorem sB (ss : List IS) : SSs ss := (ihs_all (sizeOf ss + 1)).b ss (Nat.lt_succ_self _)
end
end Tf

set_option Elab.async false
set_option linter.all false
set_option maxRecDepth 100000
set_option maxHeartbeats 4000000
/-! Tf, part M: a def of the text, the law's own end. -/
namespace Tf
open PySem PySem.Spec PyProof.Rows L2

section
variable (P : Program) (w : World) (K : PySem.W.Frag) (mg : Str → Option Value) (base : Heap)
/-- a def of the module that keeps sp -/
def Callee (k : Nat) (x : Str) (sp : Spec) : Prop := ∃ (f : Addr), mg (kn x) = some (.ref f) ∧ PySem.W.keepIn K (.ref f) = true ∧ FnCK P w K mg base k f (kk x) sp
variable {P w K mg base} in
theorem Callee.ofC {k : Nat} {x : Str} {sp : Spec} {f : Addr} (hp : keyPlain x = true) (g : mg x = some (.ref f)) (kp : PySem.W.keepIn K (.ref f) = true) (F : FnC P w K mg base k f sp) : Callee P w K mg base k x sp := by
  obtain ⟨e1, e2⟩ := keyPlain_ok hp
  refine ⟨f, by rw [e1]; exact g, kp, ?_⟩
  rw [e2]
  exact F.toK
variable {P w K mg base} in
theorem Callee.of {k : Nat} {x : Str} {sp : Spec} {f : Addr} {fd : FuncData} {ps : List Str} (hp : keyPlain x = true) (g : mg x = some (.ref f)) (kp : PySem.W.keepIn K (.ref f) = true) (b : Binds K fd ps []) (F : FnG P w K mg base k f fd ps sp) : Callee P w K mg base k x sp := .ofC hp g kp (F.fnC b)
def GlbIn (x : Str) (d : D) : Prop := ∃ (u : Value) (v : V), mg x = some u ∧ RelV v u ∧ ∀ G, Rep K G d v
end
def start0 (N : List Str) (ds : List D) : DE := ds.map some ++ List.replicate (N.length - ds.length) none
def endsF (R : Post) (E : XPost) : DEnds := { nx := fun _ μ => ∃ μ2, Sub μ2 μ ∧ R .non μ2, rt := fun d μ => ∃ μ2, Sub μ2 μ ∧ R d μ2, bk := fun _ _ => False, ct := fun _ _ => False, ex := E }
theorem relE_start {K : PySem.W.Frag} {G : Hp} {N : List Str} {ds : List D} {vs : List V} (r : RepL K G ds vs) : RelE K G (start0 N ds) (L2.start N vs) := by
  have hl := r.length
  refine ⟨fun i d h => ?_, by simp [start0, L2.start, hl]⟩
  unfold start0 at h
  unfold L2.start
  by_cases hi : i < ds.length
  · rw [List.getElem?_append_left (by simpa using hi), List.getElem?_map] at h
    obtain ⟨e, e1, e2⟩ := Option.map_eq_some_iff.mp h
    cases e2
    obtain ⟨v, e3, e4⟩ := r.get e1
    exact ⟨v, by rw [List.getElem?_append_left (by simpa [← hl] using hi), List.getElem?_map, e3]; rfl, e4⟩
  · rw [List.getElem?_append_right (by simpa using hi), List.getElem?_replicate] at h
    split at h <;> cases h
variable {P : Program} {w : World} {K : PySem.W.Frag} {mg : Str → Option Value} {base : Heap}
/-- THE RULE for a def: its body in the small language, what must hold of it -/
theorem fn_ok {k : Nat} {f : Addr} {fd : FuncData} {x qual : Str} {st : Stmt} {N ps fr : List Str} {sp : Spec} {ir : List IS} (F : Fun K x qual st f fd) (S : FnScope N ps (defScope st)) (hb : ssB ⟨N, defScope st, fr, true, k, none⟩ ir (defBody st) = true)
    (hfr : ∀ y ∈ fr, mg y = none) (hsm : SmOk K) (calls : rSs (Callee P w K mg base k) (GlbIn K mg) (FactD P w K mg base) ir) (len : ∀ ds μ R E, sp ds μ R E → ds.length = ps.length) (hw : ∀ ds μ R E, sp ds μ R E → wB ir (start0 N ds) μ (endsF R E)) : FnG P w K mg base (k + 1) f fd ps sp := by
  refine fnG_of F S len fun cdv A outer s H vs Q E hr hg hsp => ?_
  generalize hX : cxOf (L2.CX P w) P w K mg base N qual (defScope st) f cdv A outer s H E = X
  have ok : XOk ⟨N, defScope st, fr, true, k, none⟩ X (fun cls d _ H' => E cls d H') := by
    subst hX
    exact ⟨rfl, rfl, S.nd, S.kind, rfl, hg, by have := hr.un; show (A.deeper _).units + 200 < cLine; omega, takes_of rfl rfl rfl rfl, hr, hfr, fun _ _ => rfl, fun _ => passes_of rfl, fun _ => ⟨rfl, rfl⟩, hsm⟩
  have cs : rSs (CallOk X k) (GlbOk X) (FactOk X) ir := by subst hX; exact calls
  refine ⟨_, sB ir _ _ _ _ ok cs hb, ?_⟩
  have eK : X.K = K := by subst hX; rfl
  have eM : X.mg = mg := by subst hX; rfl
  rw [eK, eM]
  obtain ⟨G, μ, Φ, ds, R, Ed, rl, Rl, spd, aft, aftx⟩ := hsp
  refine ⟨_, G, μ, Φ, _, relE_start rl, Rl, hw ds μ R Ed spd, ?_⟩
  refine ⟨?_, ?_, fun _ _ _ _ _ h => h.elim, fun _ _ _ _ _ h => h.elim, fun σ' => aftx⟩
  · rintro δ' μ' G' H' σ' ⟨μ2, h1, h2⟩ s' _ R'
    exact aft .non μ2 G' H' .non h2 s' (R'.sub' h1) .non
  · rintro d μ' G' H' v ⟨μ2, h1, h2⟩ s' R' p
    exact aft d μ2 G' H' v h2 s' (R'.sub' h1) p

/-! ### the law's own end -/
/-- the law's def, called on the script by the claim's caller -/
theorem law_at {mb : Str → Option Value} {k : Nat} {fa a : Addr} {fd : FuncData} {x : Str} {sp : Spec} {s₁ : Shared} {vs : List Value} {ns : List Int} (KX : K.In s₁.heap) (hG : s₁.heap.Ns mainGlobals mg) (hB : s₁.heap.Ns builtinsNs mb)
    (hBB : ∀ x : Str, x ≠ "__name__" → mb x = bootBuiltins x) (hL : s₁.heap.NoLimit) (hgen : s₁.gens = #[]) (ha : s₁.heap.get? a = some { cls := .type "list", data := .seq vs.toArray }) (hi : IntsAre vs ns) (hl : ns.length ≤ sizeLine) (hr : Room k callerA)
    (F : ∀ base : Heap, K.In base → base.Ns mainGlobals mg → FnG P w K mg base k fa fd [x] sp) (bind : ∀ (s : Shared) (u : Value), BindsTo s fd ⟨[u], []⟩ [(x, u)])
    (hsp : sp [.lsf (ns.map .int)] (fun _ => none) (fun d _ => d = .bl true) noX) :
    codeAny (model P w) callerA (.call (.ref fa) ⟨[.ref a], []⟩) (fun r s' => r = .ok (.ret (.bool true)) ∧ OldK s₁.heap s'.heap ∧ s'.os = s₁.os ∧ AllBare s'.gens) s₁ := by
  have rv := vals_ints hi
  have key : ∃ H : Hp, Only H ∧ SqL K H a (ns.map V.int) ∧ HOk P w H s₁.heap ∧ (∀ b, H b ≠ none → b = a) ∧ (H a ≠ none → K.lookup a = none) := by
    cases hk : K.lookup a with
    | some o =>
      have e := KX a o hk
      rw [ha] at e
      cases e
      refine ⟨fun _ => none, fun _ => .inl rfl, .inr ⟨_, vs.toArray, _, hk, rfl, rfl, rfl, ?_, by simpa using rv⟩, fun b u z => (nomatch z), fun b z => absurd rfl z, fun z => absurd rfl z⟩
      rw [List.size_toArray, hi.length]
      exact hl
    | none =>
      let ob : Obj := { cls := .type "list", data := .seq vs.toArray }
      have at_ : ∀ b, (fun b => if b = a then some (HO.frz ob (.lst (ns.map V.int))) else none : Hp) b ≠ none → b = a := fun b z => by
        by_cases hb : b = a
        · exact hb
        · exact absurd (if_neg hb) z
      refine ⟨fun b => if b = a then some (.frz ob (.lst (ns.map V.int))) else none, fun b => ?_, .inl (.inr ⟨ob, if_pos rfl⟩), fun b u z => ?_, at_, fun _ => rfl⟩
      · by_cases hb : b = a
        · exact .inr ⟨ob, ns.map V.int, if_pos hb⟩
        · exact .inl (if_neg hb)
      · have hb := at_ b (by rw [z]; exact fun q => nomatch q)
        subst hb
        cases (if_pos rfl).symm.trans z
        exact ⟨ha, by rw [List.length_map]; exact hl, vs, _, rv, ha⟩
  obtain ⟨H, hO, hS, hok, hA, hK⟩ := key
  have apart : ∀ {b : Addr} {o : Obj}, s₁.heap.get? b = some o → (∀ vs n, o.data ≠ .seq vs n) → H b = none := fun {b o} e d => by
    cases q : H b with
    | none => rfl
    | some u =>
      have hb := hA b (by rw [q]; exact fun z => nomatch z)
      subst hb
      rw [ha] at e
      cases e
      exact absurd rfl (d _ _)
  have ns_of : ∀ {b : Addr} {m : Str → Option Value}, s₁.heap.Ns b m → (hidT s₁.heap H).Ns b m := by
    rintro b m ⟨o, es, ep, e, d, r⟩
    exact ⟨o, es, ep, hidT_get e (apart e fun vs n z => by rw [d] at z; cases z), d, r⟩
  have hKb : K.In (hidT s₁.heap H) := fun b o e => by
    refine hidT_get (KX b o e) ?_
    cases q : H b with
    | none => rfl
    | some u =>
      have ne : H b ≠ none := by rw [q]; exact fun z => nomatch z
      have hb := hA b ne
      subst hb
      rw [hK ne] at e
      cases e
  have hLb : (hidT s₁.heap H).NoLimit := let ⟨mc, h1, h2⟩ := hL; ⟨mc, ns_of h1, h2⟩
  have e0 : Env0 P w K mg (hidT s₁.heap H) callerA [] s₁ H := ⟨rfl, ⟨hKb, ns_of hG, ⟨mb, ns_of hB, hBB⟩, hLb⟩, fun _ _ e => of_hidT e, Nat.le_of_eq (hidT_size _ _), trivial, fun b hb => (by cases hb), hok, .of_eq hgen⟩
  have sp0 : spOf K mg sp [.ref a] H (fun v _ => v = .bl true) (fun _ _ _ => False) := by
    refine ⟨H, fun _ => none, fun _ => none, [.lsf (ns.map .int)], _, noX, .cons (.lsf hS RepL.ints) .nil, ⟨Same.refl H, fun _ _ z => (nomatch z), fun _ _ z => (nomatch z)⟩, hsp, fun d μ' G' H' v r _ _ p => ?_, fun _ _ _ _ _ _ z => z.elim⟩
    subst r
    cases p
    rfl
  refine codeAny_mono ((F _ hKb (ns_of hG)).go callerA [] s₁ H ⟨[.ref a], []⟩ [.ref a] [.ref a] _ _ hr rfl e0 (bind s₁ (.ref a)) (.cons rfl .nil) sp0) fun r s' h => ?_
  match r, h with
  | .error e, h =>
    obtain ⟨_, _, _, _, _, _, _, _, _, _, _, _, z⟩ := h
    exact z.elim
  | .ok (.ret u), ⟨v, H', os, bare, un, hok', rv', q⟩ =>
    have q' : v = .bl true := q
    subst q'
    cases rv'
    refine ⟨rfl, OldK.of_keep fun b o e => ?_, os, bare⟩
    cases q : H b with
    | none => exact un.keep b o e q (fun z => by cases z) (fun z => by cases z)
    | some u =>
      rcases hO b with z | ⟨ob, xs, z⟩
      · rw [q] at z; cases z
      · have e1 := (hok b _ z).1
        have e2 := (hok' b _ (un.frzs b ob _ z)).1
        rw [e] at e1
        cases e1
        exact e2
theorem law_end {l : PySem.W.OpenLaw} {n k : Nat} {q : Program} {loose : List Str} {XP : (Str → Option Value) → Heap → Prop} {YP : World → Heap → Prop} {d : DefRec} {x : Str} (hn : l.most = some n) (hn2 : n ≤ sizeLine) (hdf : d.params.defaults = []) (hr : Room k callerA)
    (F : ∀ (w : World) (mg : Str → Option Value) (fa : Addr) (h : Heap), YP w h → h.Ns mainGlobals mg → mg d.name = some (.ref fa) →
      ∃ (K : PySem.W.Frag) (fd : FuncData) (sp : Spec), K.In h ∧ (∀ (s : Shared) (u : Value), BindsTo s fd ⟨[u], []⟩ [(x, u)]) ∧ (∀ ns : List Int, ns.length ≤ n → sp [.lsf (ns.map .int)] (fun _ => none) (fun d _ => d = .bl true) noX) ∧
        ∀ base : Heap, K.In base → base.Ns mainGlobals mg → FnG l.prog w K mg base k fa fd [x] sp) : PySem.W.WalkO q loose XP YP l.row.toRowW d [] (fun f vs => PySem.call f vs) :=
  Att.attach_call hn hdf fun w s₀ s₁ mg mb fa o pm cd doc a vs ns G Y ho hd hcd hmg hobj hints hlen hg => by
    obtain ⟨K, fd, sp, KX, hb, hsp, hF⟩ := F w mg fa _ Y G.T.g hmg
    exact law_at KX G.T.g G.T.b G.T.builtins G.T.nolimit hg hobj hints (Nat.le_trans hlen hn2) hr hF hb (hsp ns hlen)
end Tf

set_option Elab.async false
set_option linter.all false
set_option maxRecDepth 100000
set_option maxHeartbeats 4000000
/-! Tf, part Sr: a def with *rest. -/
namespace Tf
open PySem PySem.Spec PyProof.Rows L2
/-- what a call must tell: what is left over comes as a tuple -/
def starS (n : Nat) (sp : Spec) : Spec := fun ds μ R E => ∃ ws rest, ds = ws ++ rest ∧ ws.length = n ∧ rest.length ≤ sz ∧ sp (ws ++ [.tup rest]) μ R E
theorem RepL.split {K : PySem.W.Frag} {G : Hp} : ∀ {ws rest : List D} {vs : List V}, RepL K G (ws ++ rest) vs → ∃ v1 v2, vs = v1 ++ v2 ∧ RepL K G ws v1 ∧ RepL K G rest v2
  | [], _, vs, r => ⟨[], vs, rfl, .nil, r⟩
  | _ :: ws, rest, _, .cons a r => by
    obtain ⟨v1, v2, e, r1, r2⟩ := RepL.split (ws := ws) (rest := rest) r
    exact ⟨_ :: v1, v2, by rw [e]; rfl, .cons a r1, r2⟩
variable {P : Program} {w : World} {K : PySem.W.Frag} {mg : Str → Option Value} {base : Heap}
theorem fnS_ok {k : Nat} {f : Addr} {fd : FuncData} {x qual pv : Str} {st : Stmt} {N ps fr : List Str} {sp : Spec} {ir : List IS} (F : Fun K x qual st f fd) (S : FnScope N (ps ++ [pv]) (defScope st)) (hb : ssB ⟨N, defScope st, fr, true, k, none⟩ ir (defBody st) = true)
    (hfr : ∀ y ∈ fr, mg y = none) (hsm : SmOk K) (calls : rSs (Callee P w K mg base k) (GlbIn K mg) (FactD P w K mg base) ir)
    (hbind : ∀ (kV doc pm : Value) (an : Option Addr) (cdv ct : Value) (us rest : List Value), us.length = ps.length → bindArgs (PySem.W.fnOf x qual (defArgs st) (defBody st) (defScope st) .none kV doc pm an cdv ct) ⟨us ++ rest, []⟩ = (newTuple rest >>= fun t => pure (ps.zip us ++ [(pv, t)])))
    (hw : ∀ ds μ R E, sp ds μ R E → wB ir (start0 N ds) μ (endsF R E)) : FnC P w K mg base (k + 1) f (starS ps.length sp) := by
  obtain ⟨oc, od, kV, doc, pm, an, cdv, ct, osl, rfl, lk, hcd⟩ := F.ex
  intro A outer s H us vs Q E hr hg e0 r h
  obtain ⟨G, μ, Φ, ds, R, Ed, rl, Rl, ⟨ws, rest, rfl, hl, hz, spd⟩, aft, aftx⟩ := h
  obtain ⟨v1, v2, rfl, rl1, rl2⟩ := RepL.split rl
  obtain ⟨u1, u2, rfl, r1, r2⟩ := StX.vals_split r
  have hn : H s.heap.objs.size = Option.none := e0.hok.fresh (Nat.le_refl _)
  have hl1 : u1.length = ps.length := by rw [← r1.length, ← rl1.length]; exact hl
  have hlv : v1.length = ps.length := by rw [← rl1.length]; exact hl
  have hz2 : v2.length ≤ sizeLine := by rw [← rl2.length]; exact szLine hz
  have hz3 : u2.length ≤ sizeLine := by rw [← r2.length]; exact hz2
  refine StX.run_bnd lk hcd S hr e0 (G := fun xs H2 => spOf K mg sp xs H2 Q E) (fun A' Ex Q' h => ?_) fun s2 H2 xs hsp hr' => ?_
  · rw [hbind _ _ _ _ _ _ u1 u2 hl1]
    refine wpAny_bind (wpAny_newTuple (wpAny_pure ?_) hz3)
    have new : ObjOk P w (upd H s.heap.objs.size (.tup v2)) (s.heap.push ({ cls := .type "tuple", data := .seq u2.toArray } : Obj)) s.heap.objs.size (.tup v2) := ⟨hz2, u2, r2, ⟨_, Heap.get?_push_size _ rfl, rfl, _, rfl⟩⟩
    have un := StX.un_laid (fs := frs outer) (s := s) (o := ({ cls := .type "tuple", data := .seq u2.toArray } : Obj)) (u := .tup v2) hn
    obtain ⟨sG, RN⟩ := Rl.new hn (.tup v2)
    have z := h _ _ (v1 ++ [V.ref s.heap.objs.size]) (u1 ++ [Value.ref s.heap.objs.size]) (StX.env0_laid e0 new) un rfl (fun e s' => StX.cxUp outer s H _ _ E e s' un (fun b o q => Heap.get?_push_of_some _ q) rfl) (r1.append (.cons rfl .nil))
      (by rw [List.length_append, List.length_append, hlv] <;> rfl)
      ⟨_, μ, Φ, _, R, Ed, (rl1.mono sG).append (.cons (.tup (.inl (.inl upd_same)) (rl2.mono sG)) .nil), RN, spd, Aft.mono aft sG, AftX.mono aftx sG⟩
    rw [List.zip_append hl1.symm] at z
    exact z
  · generalize hX : cxOf (L2.CX P w) P w K mg base N qual (defScope st) f cdv A outer s2 H2 E = X
    have ok : XOk ⟨N, defScope st, fr, true, k, none⟩ X (fun cls d _ H' => E cls d H') := by
      subst hX
      exact ⟨rfl, rfl, S.nd, S.kind, rfl, hg, by have := hr'.un; show (A.deeper _).units + 200 < cLine; omega, takes_of rfl rfl rfl rfl, hr', hfr, fun _ _ => rfl, fun _ => passes_of rfl, fun _ => ⟨rfl, rfl⟩, hsm⟩
    have cs : rSs (CallOk X k) (GlbOk X) (FactOk X) ir := by subst hX; exact calls
    refine ⟨_, sB ir _ _ _ _ ok cs hb, ?_⟩
    have eK : X.K = K := by subst hX; rfl
    have eM : X.mg = mg := by subst hX; rfl
    rw [eK, eM]
    obtain ⟨G, μ, Φ, ds, R, Ed, rl, Rl, spd, aft, aftx⟩ := hsp
    refine ⟨_, G, μ, Φ, _, relE_start rl, Rl, hw ds μ R Ed spd, ?_⟩
    refine ⟨?_, ?_, fun _ _ _ _ _ h => h.elim, fun _ _ _ _ _ h => h.elim, fun σ' => aftx⟩
    · rintro δ' μ' G' H' σ' ⟨μ2, h1, h2⟩ s' _ R'
      exact aft .non μ2 G' H' .non h2 s' (R'.sub' h1) .non
    · rintro d μ' G' H' v ⟨μ2, h1, h2⟩ s' R' p
      exact aft d μ2 G' H' v h2 s' (R'.sub' h1) p
end Tf

set_option Elab.async false
set_option linter.all false
set_option maxRecDepth 100000
/-! Tf, part Hk: the head's facts, and a further one of one's own. -/
namespace Tf
open PySem PySem.Spec PyProof.Rows L2 He
def obsX (fa : List Fa) (fn : List DefD) (bs : PySem.W.Frag → Bool) (K : PySem.W.Frag) : AlD := ((obsD fa fn K).1 && bs K, (obsD fa fn K).2)
def SaysX (fa : List Fa) (fn : List DefD) (bs : PySem.W.Frag → Bool) (K : PySem.W.Frag) : Prop := obsX fa fn bs K = valD fn
def obsXG (n : Nat) (fa : List Fa) (fn : List DefD) (bs : PySem.W.Frag → Bool) (g : Addr → Option Obj) : AlD := obsX fa fn bs (frG g (sysModules :: asD g n))
def hookX (n : Nat) (fa : List Fa) (fn : List DefD) (bs : PySem.W.Frag → Bool) : PySem.W.Hook where
  α := AlD
  obs := fun s => obsXG n fa fn bs s.heap.get?
  val := fun _ => valD fn
  says := fun _ h => ∃ K : PySem.W.Frag, K.In h ∧ SaysX fa fn bs K
  of := fun _ _ e => ⟨_, frG_in, e⟩
  keeps := fun _ _ _ ⟨K, hK, c⟩ k => ⟨K, PySem.W.Frag.In.keeps hK k, c⟩
theorem obsXG_eq {n : Nat} {fa : List Fa} {fn : List DefD} {bs : PySem.W.Frag → Bool} {g : Addr → Option Obj} {s : Shared} (h : ∀ a, g a = s.heap.get? a) : obsXG n fa fn bs g = (hookX n fa fn bs).obs s := by
  have e : g = s.heap.get? := funext h
  rw [e] <;> rfl
section
variable {fa : List Fa} {fn : List DefD} {bs : PySem.W.Frag → Bool} {K : PySem.W.Frag}
theorem SaysX.b (c : SaysX fa fn bs K) : bs K = true := (ba (show ((obsD fa fn K).1 && bs K) = true from congrArg (fun z : AlD => z.1) c)).2
theorem SaysX.d (c : SaysX fa fn bs K) : SaysD fa fn K := by
  have h : obsX fa fn bs K = valD fn := c
  have h1 := congrArg (fun z : AlD => z.1) h
  have h2 := congrArg (fun z : AlD => z.2) h
  have e : obsD fa fn K = valD fn := Prod.ext (ba (show ((obsD fa fn K).1 && bs K) = true from h1)).1 (by exact h2)
  exact e
theorem SaysX.fact (c : SaysX fa fn bs K) (i : Nat) {f : Fa} (h : fa[i]? = some f := by rfl) : f.ok K = true := c.d.fact i h
theorem SaysX.def_ (c : SaysX fa fn bs K) (i : Nat) {d : DefD} (h : fn[i]? = some d := by rfl) : ∃ fd, FunD K d.name d.qual d.params d.body d.scope (d.dvs K) (d.kws K) (fAd K d.at_) fd := c.d.def_ i h
end
/-- the module table is a dict -/
def smB (K : PySem.W.Frag) : Bool := match K.lookup sysModules with
  | some o => decide (o.cls = .type "dict")
  | none => false
theorem smB_ok {K : PySem.W.Frag} (h : smB K = true) : SmOk K := by
  unfold smB at h
  split at h
  · rename_i o e; exact ⟨o, e, of_decide_eq_true h⟩
  · cases h
/-- the module's name x is a tuple of texts -/
def tupS (K : PySem.W.Frag) (x : Str) (xs : List Str) : Bool := eqO (PySem.W.nsIn K mainGlobals x) (some (some (.ref (ga K x)))) && tupB K x (xs.map Dv.str)
theorem tupS_ok {K : PySem.W.Frag} {h : Heap} {mg : Str → Option Value} (X : K.In h) (G : h.Ns mainGlobals mg) {x : Str} {xs : List Str} (c : tupS K x xs = true) : GlbIn K mg x (.tup (xs.map .str)) := by
  obtain ⟨c1, c2⟩ := ba c
  refine ⟨_, .ref (ga K x), PySem.W.mg_of X G (eqO_ok c1), rfl, fun H => .tup (tupB_ok c2 H) ?_⟩
  clear c2 c
  induction xs with
  | nil => exact .nil
  | cons a xs ih => exact .cons (.str a) ih
end Tf

set_option Elab.async false
set_option linter.all false
set_option maxRecDepth 100000
set_option maxHeartbeats 4000000
/-! Tf: the head's facts of exception classes with one field. -/
namespace Tf
open PySem PySem.Spec PyProof.Rows L2 He
abbrev vTail : List Value := [.type "ValueError", .type "Exception", .type "BaseException", .type "object"]
abbrev lTail : List Value := [.type "LookupError", .type "Exception", .type "BaseException", .type "object"]
/-- a class with a field, derived from ValueError or from LookupError -/
def oexB (K : PySem.W.Frag) (C : Addr) : Bool := match K.lookup C with
  | some ⟨.type "type", _, .cls cd, sl⟩ => (match cd.mro, sl.toList with
    | .ref C' :: bm, [_, _, _, _, some (.builtin n), _] => C' == C && !cd.hasDel && cd.hasDict && ((n == "ValueError.__new__" && refsT vTail bm) || (n == "LookupError.__new__" && refsT lTail bm))
    | _, _ => false)
  | _ => false
theorem oexB_ok {K : PySem.W.Frag} {C : Addr} (q : oexB K C = true) : ∃ tl newId, ExT tl newId ∧ ∃ nm q N bs bm sn sub ab col dd k0 k1 k2 k3 k5, K.lookup C = some (excClassObj nm q C N bs bm true sn sub ab col dd k0 k1 k2 k3 k5 newId) ∧ refsT tl bm = true := by
  unfold oexB at q
  split at q
  · rename_i dd cd sl ho
    split at q
    · rename_i C' bm k0 k1 k2 k3 n k5 hm hs
      simp only [Bool.and_eq_true, Bool.or_eq_true, beq_iff_eq, Bool.not_eq_true'] at q
      obtain ⟨⟨⟨rfl, hdel⟩, hdict⟩, ht⟩ := q
      obtain ⟨nm, bs, mro, ns, qn, hd, sn, sub, ab, col, del⟩ := cd
      dsimp only at hm hdel hdict
      subst hm hdel hdict
      have hsl : sl = #[k0, k1, k2, k3, some (.builtin n), k5] := by
        obtain ⟨l⟩ := sl
        simp only at hs
        rw [hs]
      subst hsl
      rcases ht with ⟨rfl, ht⟩ | ⟨rfl, ht⟩
      · exact ⟨_, _, exT_value, nm, qn, ns, bs, bm, sn, sub, ab, col, dd, k0, k1, k2, k3, k5, ho, ht⟩
      · exact ⟨_, _, exT_lookup, nm, qn, ns, bs, bm, sn, sub, ab, col, dd, k0, k1, k2, k3, k5, ho, ht⟩
    · cases q
  · cases q
def gloB (K : PySem.W.Frag) (x : Str) : Bool := eqO (PySem.W.nsIn K mainGlobals x) (some (some (.ref (ga K x))))
/-- the name of a built-in class -/
def bltT (K : PySem.W.Frag) (y : Str) : Option String := if eqO (PySem.W.nsIn K mainGlobals y) (some none) = true then (match bootBuiltins y with | some (.type T) => some T | _ => none) else none
def isB' (K : PySem.W.Frag) (C : Addr) (b : Bool) (y : Str) : Bool := (gloB K y && (decide (PySem.W.kitOne K (.ref C) (.ref (ga K y)) = some b) && decide (PySem.W.exmOne K (.ref C) (.ref (ga K y)) = some b))) ||
  match bltT K y with
  | some T => decide (PySem.W.kitOne K (.ref C) (.type T) = some b) && decide (PySem.W.exmOne K (.ref C) (.type T) = some b)
  | none => false
def excB (K : PySem.W.Frag) (cn f : Str) (ys ns : List Str) : Bool :=
  gloB K cn && (oexB K (ga K cn) && (eqO (PySem.W.findIn K (.ref (ga K cn)) "__setattr__") (some (some (.builtin "object.__setattr__"))) && (decide (PySem.W.subIn K (.ref (ga K cn)) (.type "BaseException") = some true) && (decide (PySem.W.typeIn K (.ref (ga K cn)) = some (.type "type")) && (PySem.W.keepIn K (.ref (ga K cn)) &&
  (xfB K (ga K cn) && (eqO (PySem.W.findIn K (.ref (ga K cn)) f) (some none) && (eqO (PySem.W.findIn K (.ref (ga K cn)) "__class__") (some (some (.builtin "object.__class__"))) && (decide (PySem.W.specialIn K (.builtin "object.__class__") "__get__" = some (some (.builtin "getset_descriptor.__get__"))) && (decide (PySem.W.takesIn K (.builtin "object.__class__") = some true) &&
  (decide (PySem.W.mroIn K (ga K cn) (.type "object") = some true) && ((PySem.W.clsIn K (ga K cn)).isSome && (eqO (PySem.W.findIn K (.ref (ga K cn)) "__init__") (some (some (.ref (ma K (ga K cn) "__init__")))) && (decide (PySem.W.typeIn K (.ref (ma K (ga K cn) "__init__")) = some (.type "function")) && (ys.all (isB' K (ga K cn) true) && ns.all (isB' K (ga K cn) false))))))))))))))))
theorem factD_of {P : Program} {w : World} {K : PySem.W.Frag} {h : Heap} {mg : Str → Option Value} {base : Heap} {cn f : Str} {ys ns : List Str} {fd : FuncData} {p1 p2 : Str} (X : K.In h) (G : h.Ns mainGlobals mg) (c : excB K cn f ys ns = true)
    (F : FnOk P w K mg base (L2.CX P w) 1 (ma K (ga K cn) "__init__") fd [p1, p2] (spI K f)) (b : Binds K fd [p1, p2] []) : FactD P w K mg base cn f ys ns := by
  unfold excB at c
  obtain ⟨c1, c⟩ := ba c
  obtain ⟨c2, c⟩ := ba c
  obtain ⟨c3, c⟩ := ba c
  obtain ⟨c4, c⟩ := ba c
  obtain ⟨c5, c⟩ := ba c
  obtain ⟨c6, c⟩ := ba c
  obtain ⟨c7, c⟩ := ba c
  obtain ⟨c8, c⟩ := ba c
  obtain ⟨c9, c⟩ := ba c
  obtain ⟨c10, c⟩ := ba c
  obtain ⟨c11, c⟩ := ba c
  obtain ⟨c12, c⟩ := ba c
  obtain ⟨c13, c⟩ := ba c
  obtain ⟨c14, c⟩ := ba c
  obtain ⟨c15, c⟩ := ba c
  obtain ⟨c16, c17⟩ := ba c
  have isf : ∀ {b : Bool} {l : List Str}, l.all (isB' K (ga K cn) b) = true → ∀ y ∈ l, FactI K mg (ga K cn) y b := fun {b l} hl y hy => by
    have := List.all_eq_true.mp hl y hy
    unfold isB' at this
    rcases Bool.or_eq_true_iff.mp this with this | this
    · obtain ⟨q1, q2⟩ := ba this
      obtain ⟨q2, q3⟩ := ba q2
      exact ⟨.ref (ga K y), .ref (ga K y), .inl ⟨_, PySem.W.mg_of X G (eqO_ok q1), rfl, rfl⟩, of_decide_eq_true q2, of_decide_eq_true q3⟩
    · split at this
      · rename_i T e
        obtain ⟨q2, q3⟩ := ba this
        unfold bltT at e
        split at e
        · rename_i e1
          split at e
          · rename_i T2 e2
            cases e
            exact ⟨.ty T, .type T, .inr ⟨T, PySem.W.mg_none_of X G (eqO_ok e1), e2, rfl, rfl⟩, of_decide_eq_true q2, of_decide_eq_true q3⟩
          · cases e
        · cases e
      · cases this
  exact ⟨ga K cn, ⟨PySem.W.mg_of X G (eqO_ok c1), ⟨oexB_ok c2, eqO_ok c3, of_decide_eq_true c4, of_decide_eq_true c5, c6⟩, xfB_ok c7, eqO_ok c8, eqO_ok c9, of_decide_eq_true c10, of_decide_eq_true c11, of_decide_eq_true c12, c13,
    ⟨_, fd, p1, p2, eqO_ok c14, of_decide_eq_true c15, F, b⟩⟩, isf c16, isf c17⟩
/-- the statement of a class -/
def meth (st : Stmt) (j : Nat) : Stmt := match st with
  | .ClassDef _ _ _ body _ _ _ _ _ _ _ => body.getD j (.Pass ⟨0, 0, 0, 0⟩)
  | _ => .Pass ⟨0, 0, 0, 0⟩
theorem init_ok {P : Program} {w : World} {K : PySem.W.Frag} {mg : Str → Option Value} {base : Heap} {f : Addr} {fd : FuncData} {x qual : Str} {st : Stmt} {s v fld : Str} {p1 p2 p3 p4 : Pos} (F : Fun K x qual st f fd) (S : FnScope [s, v] [s, v] (defScope st))
    (hb : defBody st = [.Assign [.Attribute (.Name s p1) fld p2] (.Name v p3) p4]) (ks : Vis (defScope st) s) (kv : Vis (defScope st) v) (d1 : (s == ("__debug__" : Str)) = false) (d2 : (s == ("__classdict__" : Str)) = false) (d3 : (v == ("__debug__" : Str)) = false) (d4 : (v == ("__classdict__" : Str)) = false) :
    FnOk P w K mg base (L2.CX P w) 1 f fd [s, v] (spI K fld) := by
  obtain ⟨oc, od, kV, doc, pm, an, cdv, ct, osl, rfl, lk, hcd⟩ := F.ex
  refine fn_of (CX := L2.CX P w) lk hcd S (fun vs H Q E h => ?_) fun A outer s0 H vs Q E hr h => ?_
  · obtain ⟨a, y, C, rfl, _⟩ := h
    rfl
  · obtain ⟨a, y, C, rfl, oex, no, ea, q⟩ := h
    rw [hb]
    refine ⟨_, pss_cons (ps_ostT (pe_var (i := 0) rfl ks d1 d2) (pe_var (i := 1) rfl kv d3 d4)) pss_nil, ?_⟩
    exact ⟨y, rfl, .ref a, rfl, a, C, rfl, oex, no, ea, fun dx h1 h2 => q dx h1 h2⟩
end Tf

set_option Elab.async false
set_option linter.all false
set_option maxRecDepth 100000
set_option maxHeartbeats 1000000
/-! Tf, part P: plain tools: small data, comprehensions, loops, the deck. -/
namespace Tf
open PySem PySem.Spec PyProof.Rows L2

/-! ### small data: its text, its equality -/
structure Fit (h n : Nat) (d : D) : Prop where
  fl : flat d = true
  sh : (pd d).showable = true
  la : (pd d).canLay0 = true
  le : (pd d).leavesShort 70 = true
  de : (pd d).depth ≤ h
  we : (pd d).weight ≤ n
structure FitL (h n k : Nat) (ds : List D) : Prop where
  fl : flats ds = true
  sh : PyData.showableAll (pds ds) = true
  la : PyData.canLayAll0 (pds ds) = true
  le : PyData.leavesShortAll 70 (pds ds) = true
  de : PyData.depthAll (pds ds) ≤ h
  we : PyData.weightAll (pds ds) ≤ n
theorem Fit.mono {h n h' n' : Nat} {d : D} (f : Fit h n d) (a : h ≤ h') (b : n ≤ n') : Fit h' n' d := ⟨f.fl, f.sh, f.la, f.le, Nat.le_trans f.de a, Nat.le_trans f.we b⟩
theorem Fit.non {h n : Nat} : Fit h n .non := ⟨rfl, by simp [pd, PyData.showable], by simp [pd, PyData.canLay0], by simp [pd, PyData.leavesShort], by simp [pd, PyData.depth], by simp [pd, PyData.weight]⟩
theorem Fit.bl {h n : Nat} (b : Bool) : Fit h n (.bl b) := ⟨rfl, by simp [pd, PyData.showable], by simp [pd, PyData.canLay0], by simp [pd, PyData.leavesShort], by simp [pd, PyData.depth], by simp [pd, PyData.weight]⟩
theorem log_of_lt {a k : Nat} (hk : 0 < k) (h : a < 2 ^ k) : a.log2 < k := by
  by_cases z : a = 0
  · subst z; simpa using hk
  · exact (Nat.log2_lt z).mpr h
theorem Fit.int {h : Nat} {i : Int} (hi : i.natAbs < 10 ^ 60) : Fit h 200 (.int i) := by
  have l : i.natAbs.log2 < 200 := log_of_lt (by decide) (Nat.lt_of_lt_of_le hi (by decide))
  refine ⟨rfl, ?_, by simp [pd, PyData.canLay0], ?_, by simp [pd, PyData.depth], ?_⟩
  · simp only [pd, PyData.showable, decide_eq_true_eq]; omega
  · simp only [pd, PyData.leavesShort, decide_eq_true_eq, PyData.shown_int]
    have := int_text_length_le10 (a := i) (k := 60) (by decide) hi
    have e : ((toString i : String) : Str).length = (toString i).length := by
      show (Str.ofString (toString i)).length = _
      rw [PySem.ofString_length]
    rw [e]
    omega
  · simp only [pd, PyData.weight]
    split <;> omega
theorem Fit.str {h : Nat} {x : Str} (h1 : PyData.strOk x = true) (h2 : (x.cps.toList.all fun c => decide (c < 16 ^ 8)) = true) (h3 : x.cps.size ≤ 200) : Fit h 200 (.str x) :=
  ⟨rfl, by simp [pd, PyData.showable], by simp [pd, PyData.canLay0, h1], by simp only [pd, PyData.leavesShort]; exact h2, by simp [pd, PyData.depth], by simp only [pd, PyData.weight]; exact h3⟩
theorem FitL.nil {h n k : Nat} : FitL h n k [] := ⟨rfl, by simp [pds, PyData.showableAll], by simp [pds, PyData.canLayAll0], by simp [pds, PyData.leavesShortAll], by simp [pds, PyData.depthAll], by simp [pds, PyData.weightAll]⟩
theorem FitL.cons {h n k m : Nat} {d : D} {ds : List D} (f : Fit h n d) (g : FitL h m k ds) : FitL h (n + 1 + m) (k + 1) (d :: ds) where
  fl := by simp [flats, f.fl, g.fl]
  sh := by simp [pds, PyData.showableAll, f.sh, g.sh]
  la := by simp [pds, PyData.canLayAll0, f.la, g.la]
  le := by simp [pds, PyData.leavesShortAll, f.le, g.le]
  de := by simp only [pds, PyData.depthAll]; exact Nat.max_le.mpr ⟨f.de, g.de⟩
  we := by simp only [pds, PyData.weightAll]; have := f.we; have := g.we; omega
theorem FitL.all {h n : Nat} : ∀ {ds : List D}, (∀ d ∈ ds, Fit h n d) → FitL h (ds.length * (n + 1)) ds.length ds
  | [], _ => .nil
  | d :: ds, q => by
    have r := FitL.cons (q d List.mem_cons_self) (FitL.all (ds := ds) fun e he => q e (List.mem_cons_of_mem _ he))
    have e : n + 1 + ds.length * (n + 1) = (d :: ds).length * (n + 1) := by rw [List.length_cons, Nat.add_mul, Nat.one_mul, Nat.add_comm]
    rw [e] at r
    exact r
theorem Fit.tup {h n k : Nat} {ds : List D} (f : FitL h n k ds) : Fit (h + 1) n (.tup ds) :=
  ⟨f.fl, by simp only [pd, PyData.showable]; exact f.sh, by simp only [pd, PyData.canLay0]; exact f.la, by simp only [pd, PyData.leavesShort]; exact f.le, by simp only [pd, PyData.depth]; exact Nat.succ_le_succ f.de, by simp only [pd, PyData.weight]; exact f.we⟩
theorem Fit.lst {h n k : Nat} {ds : List D} (f : FitL h n k ds) : Fit (h + 1) n (.lst ds) :=
  ⟨f.fl, by simp only [pd, PyData.showable]; exact f.sh, by simp only [pd, PyData.canLay0]; exact f.la, by simp only [pd, PyData.leavesShort]; exact f.le, by simp only [pd, PyData.depth]; exact Nat.succ_le_succ f.de, by simp only [pd, PyData.weight]; exact f.we⟩
theorem Fit.repr {d : D} (f : Fit 50 200000 d) : ReprOk d := by
  refine ⟨f.fl, f.sh, by have := f.de; omega, ?_⟩
  have h := PyData.shown_le 70 (by decide) (pd d) f.le
  have := f.we
  unfold sz
  omega
theorem Fit.eq {d : D} (f : Fit 50 200000 d) : EqOk d := ⟨f.fl, by
  unfold SeqAt.shaped
  rw [f.la]
  have := f.de
  simp
  omega⟩

/-! ### rows for simp -/
@[simp] theorem b_add {μ : Mu} {Q : Post}{i j : Int} : wBop .add (.int i) (.int j) μ Q = Q (.int (i + j)) μ := rfl
@[simp] theorem b_sub {μ : Mu} {Q : Post}{i j : Int} : wBop .sub (.int i) (.int j) μ Q = Q (.int (i - j)) μ := rfl
@[simp] theorem b_mul {μ : Mu} {Q : Post}{i j : Int} : wBop .mul (.int i) (.int j) μ Q = (CMulW i j ∧ Q (.int (i * j)) μ) := rfl
@[simp] theorem b_fdiv {μ : Mu} {Q : Post}{i j : Int} : wBop .fdiv (.int i) (.int j) μ Q = (CDivW i j ∧ Q (.int (i / j)) μ) := rfl
@[simp] theorem b_mod {μ : Mu} {Q : Post}{i j : Int} : wBop .mod (.int i) (.int j) μ Q = (0 < j ∧ Q (.int (i % j)) μ) := rfl
@[simp] theorem b_pow {μ : Mu} {Q : Post}{i j : Int} : wBop .pow (.int i) (.int j) μ Q = (CPow i j ∧ Q (.int (i ^ j.toNat)) μ) := rfl
@[simp] theorem b_shl {μ : Mu} {Q : Post}{i j : Int} : wBop .shl (.int i) (.int j) μ Q = (CPow i j ∧ Q (.int (i * 2 ^ j.toNat)) μ) := rfl
@[simp] theorem b_addT {μ : Mu} {Q : Post}{xs ys : List D} : wBop .add (.tup xs) (.tup ys) μ Q = (xs.length + ys.length ≤ sz ∧ Q (.tup (xs ++ ys)) μ) := rfl
@[simp] theorem b_addL {μ : Mu} {Q : Post}{xs ys : List D} : wBop .add (.lst xs) (.lst ys) μ Q = (xs.length + ys.length ≤ sz ∧ Q (.lst (xs ++ ys)) μ) := rfl
@[simp] theorem b_mulL {μ : Mu} {Q : Post}{xs : List D} {k : Int} : wBop .mul (.lst xs) (.int k) μ Q = (0 ≤ k ∧ k < 2 ^ 63 ∧ xs.length * k.toNat ≤ sz ∧ Q (.lst (List.replicate k.toNat xs).flatten) μ) := rfl
@[simp] theorem b_mulT {μ : Mu} {Q : Post}{xs : List D} {k : Int} : wBop .mul (.tup xs) (.int k) μ Q = (xs ≠ [] ∧ 2 ≤ k ∧ k ≤ 1000 ∧ xs.length ≤ 1000 ∧ Q (.tup (List.replicate k.toNat xs).flatten) μ) := rfl
@[simp] theorem c_lt {μ : Mu} {Q : Bool → Mu → Prop}{i j : Int} : wCop .lt (.int i) (.int j) μ Q = Q (decide (i < j)) μ := rfl
@[simp] theorem c_le {μ : Mu} {Q : Bool → Mu → Prop}{i j : Int} : wCop .le (.int i) (.int j) μ Q = Q (decide (i ≤ j)) μ := rfl
@[simp] theorem c_gt {μ : Mu} {Q : Bool → Mu → Prop}{i j : Int} : wCop .gt (.int i) (.int j) μ Q = Q (decide (j < i)) μ := rfl
@[simp] theorem c_ge {μ : Mu} {Q : Bool → Mu → Prop}{i j : Int} : wCop .ge (.int i) (.int j) μ Q = Q (decide (j ≤ i)) μ := rfl
@[simp] theorem c_eq_ii {μ : Mu} {Q : Bool → Mu → Prop}{i j : Int} : wCop .eq (.int i) (.int j) μ Q = Q (decide (i = j)) μ := rfl
@[simp] theorem c_ne_ii {μ : Mu} {Q : Bool → Mu → Prop}{i j : Int} : wCop .ne (.int i) (.int j) μ Q = Q (!(decide (i = j))) μ := rfl
@[simp] theorem c_eq_ss {μ : Mu} {Q : Bool → Mu → Prop}{x y : Str} : wCop .eq (.str x) (.str y) μ Q = Q (decide (x = y)) μ := rfl
@[simp] theorem c_ne_ss {μ : Mu} {Q : Bool → Mu → Prop}{x y : Str} : wCop .ne (.str x) (.str y) μ Q = Q (!(decide (x = y))) μ := rfl
@[simp] theorem c_eq_bb {μ : Mu} {Q : Bool → Mu → Prop}{x y : Bool} : wCop .eq (.bl x) (.bl y) μ Q = Q (decide (x = y)) μ := rfl
@[simp] theorem c_ne_bb {μ : Mu} {Q : Bool → Mu → Prop}{x y : Bool} : wCop .ne (.bl x) (.bl y) μ Q = Q (!(decide (x = y))) μ := rfl
@[simp] theorem c_eq_nn {μ : Mu} {Q : Bool → Mu → Prop} : wCop .eq (.non) (.non) μ Q = Q (true) μ := rfl
@[simp] theorem c_ne_nn {μ : Mu} {Q : Bool → Mu → Prop} : wCop .ne (.non) (.non) μ Q = Q (!(true)) μ := rfl
@[simp] theorem c_eq_ni {μ : Mu} {Q : Bool → Mu → Prop}{j : Int} : wCop .eq (.non) (.int j) μ Q = Q (false) μ := rfl
@[simp] theorem c_ne_ni {μ : Mu} {Q : Bool → Mu → Prop}{j : Int} : wCop .ne (.non) (.int j) μ Q = Q (!(false)) μ := rfl
@[simp] theorem c_eq_in {μ : Mu} {Q : Bool → Mu → Prop}{j : Int} : wCop .eq (.int j) (.non) μ Q = Q (false) μ := rfl
@[simp] theorem c_ne_in {μ : Mu} {Q : Bool → Mu → Prop}{j : Int} : wCop .ne (.int j) (.non) μ Q = Q (!(false)) μ := rfl
@[simp] theorem c_eq_ns {μ : Mu} {Q : Bool → Mu → Prop}{x : Str} : wCop .eq (.non) (.str x) μ Q = Q (false) μ := rfl
@[simp] theorem c_ne_ns {μ : Mu} {Q : Bool → Mu → Prop}{x : Str} : wCop .ne (.non) (.str x) μ Q = Q (!(false)) μ := rfl
@[simp] theorem c_eq_sn {μ : Mu} {Q : Bool → Mu → Prop}{x : Str} : wCop .eq (.str x) (.non) μ Q = Q (false) μ := rfl
@[simp] theorem c_ne_sn {μ : Mu} {Q : Bool → Mu → Prop}{x : Str} : wCop .ne (.str x) (.non) μ Q = Q (!(false)) μ := rfl
@[simp] theorem c_eq_nb {μ : Mu} {Q : Bool → Mu → Prop}{b : Bool} : wCop .eq (.non) (.bl b) μ Q = Q (false) μ := rfl
@[simp] theorem c_ne_nb {μ : Mu} {Q : Bool → Mu → Prop}{b : Bool} : wCop .ne (.non) (.bl b) μ Q = Q (!(false)) μ := rfl
@[simp] theorem c_eq_bn {μ : Mu} {Q : Bool → Mu → Prop}{b : Bool} : wCop .eq (.bl b) (.non) μ Q = Q (false) μ := rfl
@[simp] theorem c_ne_bn {μ : Mu} {Q : Bool → Mu → Prop}{b : Bool} : wCop .ne (.bl b) (.non) μ Q = Q (!(false)) μ := rfl
@[simp] theorem c_eq_is {μ : Mu} {Q : Bool → Mu → Prop}{i : Int} {x : Str} : wCop .eq (.int i) (.str x) μ Q = Q (false) μ := rfl
@[simp] theorem c_ne_is {μ : Mu} {Q : Bool → Mu → Prop}{i : Int} {x : Str} : wCop .ne (.int i) (.str x) μ Q = Q (!(false)) μ := rfl
@[simp] theorem c_eq_si {μ : Mu} {Q : Bool → Mu → Prop}{i : Int} {x : Str} : wCop .eq (.str x) (.int i) μ Q = Q (false) μ := rfl
@[simp] theorem c_ne_si {μ : Mu} {Q : Bool → Mu → Prop}{i : Int} {x : Str} : wCop .ne (.str x) (.int i) μ Q = Q (!(false)) μ := rfl
@[simp] theorem c_eq_bs {μ : Mu} {Q : Bool → Mu → Prop}{b : Bool} {x : Str} : wCop .eq (.bl b) (.str x) μ Q = Q (false) μ := rfl
@[simp] theorem c_ne_bs {μ : Mu} {Q : Bool → Mu → Prop}{b : Bool} {x : Str} : wCop .ne (.bl b) (.str x) μ Q = Q (!(false)) μ := rfl
@[simp] theorem c_eq_sb {μ : Mu} {Q : Bool → Mu → Prop}{b : Bool} {x : Str} : wCop .eq (.str x) (.bl b) μ Q = Q (false) μ := rfl
@[simp] theorem c_ne_sb {μ : Mu} {Q : Bool → Mu → Prop}{b : Bool} {x : Str} : wCop .ne (.str x) (.bl b) μ Q = Q (!(false)) μ := rfl
@[simp] theorem c_eq_tttt {μ : Mu} {Q : Bool → Mu → Prop}{xs ys : List D} : wCop .eq (.tup xs) (.tup ys) μ Q = (EqOk (.tup xs) ∧ EqOk (.tup ys) ∧ Q (eqD (.tup xs) (.tup ys)) μ) := rfl
@[simp] theorem c_ne_tttt {μ : Mu} {Q : Bool → Mu → Prop}{xs ys : List D} : wCop .ne (.tup xs) (.tup ys) μ Q = (EqOk (.tup xs) ∧ EqOk (.tup ys) ∧ Q (!eqD (.tup xs) (.tup ys)) μ) := rfl
@[simp] theorem c_eq_ttll {μ : Mu} {Q : Bool → Mu → Prop}{xs ys : List D} : wCop .eq (.tup xs) (.lst ys) μ Q = (EqOk (.tup xs) ∧ EqOk (.lst ys) ∧ Q (eqD (.tup xs) (.lst ys)) μ) := rfl
@[simp] theorem c_ne_ttll {μ : Mu} {Q : Bool → Mu → Prop}{xs ys : List D} : wCop .ne (.tup xs) (.lst ys) μ Q = (EqOk (.tup xs) ∧ EqOk (.lst ys) ∧ Q (!eqD (.tup xs) (.lst ys)) μ) := rfl
@[simp] theorem c_eq_ttlf {μ : Mu} {Q : Bool → Mu → Prop}{xs ys : List D} : wCop .eq (.tup xs) (.lsf ys) μ Q = (EqOk (.tup xs) ∧ EqOk (.lsf ys) ∧ Q (eqD (.tup xs) (.lsf ys)) μ) := rfl
@[simp] theorem c_ne_ttlf {μ : Mu} {Q : Bool → Mu → Prop}{xs ys : List D} : wCop .ne (.tup xs) (.lsf ys) μ Q = (EqOk (.tup xs) ∧ EqOk (.lsf ys) ∧ Q (!eqD (.tup xs) (.lsf ys)) μ) := rfl
@[simp] theorem c_eq_ntt {μ : Mu} {Q : Bool → Mu → Prop}{xs : List D} : wCop .eq .non (.tup xs) μ Q = (EqOk .non ∧ EqOk (.tup xs) ∧ Q (eqD .non (.tup xs)) μ) := rfl
@[simp] theorem c_ne_ntt {μ : Mu} {Q : Bool → Mu → Prop}{xs : List D} : wCop .ne .non (.tup xs) μ Q = (EqOk .non ∧ EqOk (.tup xs) ∧ Q (!eqD .non (.tup xs)) μ) := rfl
@[simp] theorem c_eq_ttn {μ : Mu} {Q : Bool → Mu → Prop}{xs : List D} : wCop .eq (.tup xs) .non μ Q = (EqOk (.tup xs) ∧ EqOk .non ∧ Q (eqD (.tup xs) .non) μ) := rfl
@[simp] theorem c_ne_ttn {μ : Mu} {Q : Bool → Mu → Prop}{xs : List D} : wCop .ne (.tup xs) .non μ Q = (EqOk (.tup xs) ∧ EqOk .non ∧ Q (!eqD (.tup xs) .non) μ) := rfl
@[simp] theorem c_eq_lltt {μ : Mu} {Q : Bool → Mu → Prop}{xs ys : List D} : wCop .eq (.lst xs) (.tup ys) μ Q = (EqOk (.lst xs) ∧ EqOk (.tup ys) ∧ Q (eqD (.lst xs) (.tup ys)) μ) := rfl
@[simp] theorem c_ne_lltt {μ : Mu} {Q : Bool → Mu → Prop}{xs ys : List D} : wCop .ne (.lst xs) (.tup ys) μ Q = (EqOk (.lst xs) ∧ EqOk (.tup ys) ∧ Q (!eqD (.lst xs) (.tup ys)) μ) := rfl
@[simp] theorem c_eq_llll {μ : Mu} {Q : Bool → Mu → Prop}{xs ys : List D} : wCop .eq (.lst xs) (.lst ys) μ Q = (EqOk (.lst xs) ∧ EqOk (.lst ys) ∧ Q (eqD (.lst xs) (.lst ys)) μ) := rfl
@[simp] theorem c_ne_llll {μ : Mu} {Q : Bool → Mu → Prop}{xs ys : List D} : wCop .ne (.lst xs) (.lst ys) μ Q = (EqOk (.lst xs) ∧ EqOk (.lst ys) ∧ Q (!eqD (.lst xs) (.lst ys)) μ) := rfl
@[simp] theorem c_eq_lllf {μ : Mu} {Q : Bool → Mu → Prop}{xs ys : List D} : wCop .eq (.lst xs) (.lsf ys) μ Q = (EqOk (.lst xs) ∧ EqOk (.lsf ys) ∧ Q (eqD (.lst xs) (.lsf ys)) μ) := rfl
@[simp] theorem c_ne_lllf {μ : Mu} {Q : Bool → Mu → Prop}{xs ys : List D} : wCop .ne (.lst xs) (.lsf ys) μ Q = (EqOk (.lst xs) ∧ EqOk (.lsf ys) ∧ Q (!eqD (.lst xs) (.lsf ys)) μ) := rfl
@[simp] theorem c_eq_nll {μ : Mu} {Q : Bool → Mu → Prop}{xs : List D} : wCop .eq .non (.lst xs) μ Q = (EqOk .non ∧ EqOk (.lst xs) ∧ Q (eqD .non (.lst xs)) μ) := rfl
@[simp] theorem c_ne_nll {μ : Mu} {Q : Bool → Mu → Prop}{xs : List D} : wCop .ne .non (.lst xs) μ Q = (EqOk .non ∧ EqOk (.lst xs) ∧ Q (!eqD .non (.lst xs)) μ) := rfl
@[simp] theorem c_eq_lln {μ : Mu} {Q : Bool → Mu → Prop}{xs : List D} : wCop .eq (.lst xs) .non μ Q = (EqOk (.lst xs) ∧ EqOk .non ∧ Q (eqD (.lst xs) .non) μ) := rfl
@[simp] theorem c_ne_lln {μ : Mu} {Q : Bool → Mu → Prop}{xs : List D} : wCop .ne (.lst xs) .non μ Q = (EqOk (.lst xs) ∧ EqOk .non ∧ Q (!eqD (.lst xs) .non) μ) := rfl
@[simp] theorem c_eq_lftt {μ : Mu} {Q : Bool → Mu → Prop}{xs ys : List D} : wCop .eq (.lsf xs) (.tup ys) μ Q = (EqOk (.lsf xs) ∧ EqOk (.tup ys) ∧ Q (eqD (.lsf xs) (.tup ys)) μ) := rfl
@[simp] theorem c_ne_lftt {μ : Mu} {Q : Bool → Mu → Prop}{xs ys : List D} : wCop .ne (.lsf xs) (.tup ys) μ Q = (EqOk (.lsf xs) ∧ EqOk (.tup ys) ∧ Q (!eqD (.lsf xs) (.tup ys)) μ) := rfl
@[simp] theorem c_eq_lfll {μ : Mu} {Q : Bool → Mu → Prop}{xs ys : List D} : wCop .eq (.lsf xs) (.lst ys) μ Q = (EqOk (.lsf xs) ∧ EqOk (.lst ys) ∧ Q (eqD (.lsf xs) (.lst ys)) μ) := rfl
@[simp] theorem c_ne_lfll {μ : Mu} {Q : Bool → Mu → Prop}{xs ys : List D} : wCop .ne (.lsf xs) (.lst ys) μ Q = (EqOk (.lsf xs) ∧ EqOk (.lst ys) ∧ Q (!eqD (.lsf xs) (.lst ys)) μ) := rfl
@[simp] theorem c_eq_lflf {μ : Mu} {Q : Bool → Mu → Prop}{xs ys : List D} : wCop .eq (.lsf xs) (.lsf ys) μ Q = (EqOk (.lsf xs) ∧ EqOk (.lsf ys) ∧ Q (eqD (.lsf xs) (.lsf ys)) μ) := rfl
@[simp] theorem c_ne_lflf {μ : Mu} {Q : Bool → Mu → Prop}{xs ys : List D} : wCop .ne (.lsf xs) (.lsf ys) μ Q = (EqOk (.lsf xs) ∧ EqOk (.lsf ys) ∧ Q (!eqD (.lsf xs) (.lsf ys)) μ) := rfl
@[simp] theorem c_eq_nlf {μ : Mu} {Q : Bool → Mu → Prop}{xs : List D} : wCop .eq .non (.lsf xs) μ Q = (EqOk .non ∧ EqOk (.lsf xs) ∧ Q (eqD .non (.lsf xs)) μ) := rfl
@[simp] theorem c_ne_nlf {μ : Mu} {Q : Bool → Mu → Prop}{xs : List D} : wCop .ne .non (.lsf xs) μ Q = (EqOk .non ∧ EqOk (.lsf xs) ∧ Q (!eqD .non (.lsf xs)) μ) := rfl
@[simp] theorem c_eq_lfn {μ : Mu} {Q : Bool → Mu → Prop}{xs : List D} : wCop .eq (.lsf xs) .non μ Q = (EqOk (.lsf xs) ∧ EqOk .non ∧ Q (eqD (.lsf xs) .non) μ) := rfl
@[simp] theorem c_ne_lfn {μ : Mu} {Q : Bool → Mu → Prop}{xs : List D} : wCop .ne (.lsf xs) .non μ Q = (EqOk (.lsf xs) ∧ EqOk .non ∧ Q (!eqD (.lsf xs) .non) μ) := rfl
@[simp] theorem c_is_bb {μ : Mu} {Q : Bool → Mu → Prop}{x y : Bool} : wCop .is_ (.bl x) (.bl y) μ Q = Q (decide (x = y)) μ := rfl
@[simp] theorem c_isNot_bb {μ : Mu} {Q : Bool → Mu → Prop}{x y : Bool} : wCop .isNot (.bl x) (.bl y) μ Q = Q (!decide (x = y)) μ := rfl
@[simp] theorem c_is_non {μ : Mu} {Q : Bool → Mu → Prop} : wCop .is_ (.non) .non μ Q = Q true μ := rfl
@[simp] theorem c_isNot_non {μ : Mu} {Q : Bool → Mu → Prop} : wCop .isNot (.non) .non μ Q = Q false μ := rfl
@[simp] theorem vw_non {μ : Mu} : vw μ (.non) = (.non) := rfl
@[simp] theorem c_is_bl {μ : Mu} {Q : Bool → Mu → Prop}{b : Bool} : wCop .is_ (.bl b) .non μ Q = Q false μ := rfl
@[simp] theorem c_isNot_bl {μ : Mu} {Q : Bool → Mu → Prop}{b : Bool} : wCop .isNot (.bl b) .non μ Q = Q true μ := rfl
@[simp] theorem vw_bl {μ : Mu}{b : Bool} : vw μ (.bl b) = (.bl b) := rfl
@[simp] theorem c_is_int {μ : Mu} {Q : Bool → Mu → Prop}{i : Int} : wCop .is_ (.int i) .non μ Q = Q false μ := rfl
@[simp] theorem c_isNot_int {μ : Mu} {Q : Bool → Mu → Prop}{i : Int} : wCop .isNot (.int i) .non μ Q = Q true μ := rfl
@[simp] theorem vw_int {μ : Mu}{i : Int} : vw μ (.int i) = (.int i) := rfl
@[simp] theorem c_is_str {μ : Mu} {Q : Bool → Mu → Prop}{x : Str} : wCop .is_ (.str x) .non μ Q = Q false μ := rfl
@[simp] theorem c_isNot_str {μ : Mu} {Q : Bool → Mu → Prop}{x : Str} : wCop .isNot (.str x) .non μ Q = Q true μ := rfl
@[simp] theorem vw_str {μ : Mu}{x : Str} : vw μ (.str x) = (.str x) := rfl
@[simp] theorem c_is_tup {μ : Mu} {Q : Bool → Mu → Prop}{ds : List D} : wCop .is_ (.tup ds) .non μ Q = Q false μ := rfl
@[simp] theorem c_isNot_tup {μ : Mu} {Q : Bool → Mu → Prop}{ds : List D} : wCop .isNot (.tup ds) .non μ Q = Q true μ := rfl
@[simp] theorem vw_tup {μ : Mu}{ds : List D} : vw μ (.tup ds) = (.tup ds) := rfl
@[simp] theorem c_is_lst {μ : Mu} {Q : Bool → Mu → Prop}{ds : List D} : wCop .is_ (.lst ds) .non μ Q = Q false μ := rfl
@[simp] theorem c_isNot_lst {μ : Mu} {Q : Bool → Mu → Prop}{ds : List D} : wCop .isNot (.lst ds) .non μ Q = Q true μ := rfl
@[simp] theorem vw_lst {μ : Mu}{ds : List D} : vw μ (.lst ds) = (.lst ds) := rfl
@[simp] theorem c_is_lsf {μ : Mu} {Q : Bool → Mu → Prop}{ds : List D} : wCop .is_ (.lsf ds) .non μ Q = Q false μ := rfl
@[simp] theorem c_isNot_lsf {μ : Mu} {Q : Bool → Mu → Prop}{ds : List D} : wCop .isNot (.lsf ds) .non μ Q = Q true μ := rfl
@[simp] theorem vw_lsf {μ : Mu}{ds : List D} : vw μ (.lsf ds) = (.lsf ds) := rfl
@[simp] theorem c_is_dct {μ : Mu} {Q : Bool → Mu → Prop}{ks : List Str} {ds : List D} : wCop .is_ (.dct ks ds) .non μ Q = Q false μ := rfl
@[simp] theorem c_isNot_dct {μ : Mu} {Q : Bool → Mu → Prop}{ks : List Str} {ds : List D} : wCop .isNot (.dct ks ds) .non μ Q = Q true μ := rfl
@[simp] theorem vw_dct {μ : Mu}{ks : List Str} {ds : List D} : vw μ (.dct ks ds) = (.dct ks ds) := rfl
@[simp] theorem vw_ref {μ : Mu} {p : Addr} : vw μ (.ref p) = (match μ p with | some ds => .lst ds | none => .ref p) := rfl
@[simp] theorem t_non  : truth .non = some false := rfl
@[simp] theorem t_bl {b : Bool} : truth (.bl b) = some b := rfl
@[simp] theorem t_int {i : Int} : truth (.int i) = some (i != 0) := rfl
@[simp] theorem t_tup {ds : List D} : truth (.tup ds) = some (!ds.isEmpty) := rfl
@[simp] theorem q_tup {ds : List D} : seqD (.tup ds) = some ds := rfl
@[simp] theorem t_lst {ds : List D} : truth (.lst ds) = some (!ds.isEmpty) := rfl
@[simp] theorem q_lst {ds : List D} : seqD (.lst ds) = some ds := rfl
@[simp] theorem t_lsf {ds : List D} : truth (.lsf ds) = some (!ds.isEmpty) := rfl
@[simp] theorem q_lsf {ds : List D} : seqD (.lsf ds) = some ds := rfl
@[simp] theorem l_len_tup {μ : Mu} {Q : Post}{ds : List D} : wBlt .len [.tup ds] μ Q = Q (.int ds.length) μ := rfl
@[simp] theorem l_len_lst {μ : Mu} {Q : Post}{ds : List D} : wBlt .len [.lst ds] μ Q = Q (.int ds.length) μ := rfl
@[simp] theorem l_len_lsf {μ : Mu} {Q : Post}{ds : List D} : wBlt .len [.lsf ds] μ Q = Q (.int ds.length) μ := rfl
@[simp] theorem l_abs {μ : Mu} {Q : Post}{i : Int} : wBlt .abs [.int i] μ Q = Q (.int (if i < 0 then -i else i)) μ := rfl
@[simp] theorem l_min2 {μ : Mu} {Q : Post}{i j : Int} : wBlt .min2 [.int i, .int j] μ Q = Q (.int (if j < i then j else i)) μ := rfl
@[simp] theorem l_max2 {μ : Mu} {Q : Post}{i j : Int} : wBlt .max2 [.int i, .int j] μ Q = Q (.int (if j > i then j else i)) μ := rfl
@[simp] theorem l_sumL {μ : Mu} {Q : Post}{ds : List D} : wBlt .sum [.lst ds] μ Q = (match intsD ds with | some ns => Q (.int ns.sum) μ | none => False) := rfl
@[simp] theorem l_sumT {μ : Mu} {Q : Post}{ds : List D} : wBlt .sum [.tup ds] μ Q = (match intsD ds with | some ns => Q (.int ns.sum) μ | none => False) := rfl
@[simp] theorem l_any {μ : Mu} {Q : Post}{ds : List D} : wBlt .any [.lst ds] μ Q = (match blsD ds with | some bs => Q (.bl (bs.any id)) μ | none => False) := rfl
@[simp] theorem l_all {μ : Mu} {Q : Post}{ds : List D} : wBlt .all [.lst ds] μ Q = (match blsD ds with | some bs => Q (.bl (bs.all id)) μ | none => False) := rfl
@[simp] theorem l_intI {μ : Mu} {Q : Post}{i : Int} : wBlt .int [.int i] μ Q = Q (.int i) μ := rfl
@[simp] theorem l_intB {μ : Mu} {Q : Post}{b : Bool} : wBlt .int [.bl b] μ Q = Q (.int (if b then 1 else 0)) μ := rfl
@[simp] theorem l_tuple_lst {μ : Mu} {Q : Post}{ds : List D} : wBlt .tuple [.lst ds] μ Q = Q (.tup ds) μ := rfl
@[simp] theorem l_list_lst {μ : Mu} {Q : Post}{ds : List D} : wBlt .list [.lst ds] μ Q = Q (.lst ds) μ := rfl
@[simp] theorem l_listM_lst {μ : Mu} {Q : Post}{ds : List D} : wBlt .listM [.lst ds] μ Q = (∀ p, μ p = none → Q (.ref p) (mput μ p ds)) := rfl
@[simp] theorem l_tuple_tup {μ : Mu} {Q : Post}{ds : List D} : wBlt .tuple [.tup ds] μ Q = Q (.tup ds) μ := rfl
@[simp] theorem l_list_tup {μ : Mu} {Q : Post}{ds : List D} : wBlt .list [.tup ds] μ Q = Q (.lst ds) μ := rfl
@[simp] theorem l_listM_tup {μ : Mu} {Q : Post}{ds : List D} : wBlt .listM [.tup ds] μ Q = (∀ p, μ p = none → Q (.ref p) (mput μ p ds)) := rfl
@[simp] theorem l_repr {μ : Mu} {Q : Post}{a : D} : wBlt .repr [a] μ Q = (ReprOk a ∧ Q (.str (pd a).shown) μ) := rfl
@[simp] theorem l_sortI {μ : Mu} {Q : Post}{ds : List D} : wBlt .sortI [.lst ds] μ Q = (match intsD ds with | some ns => ∀ ms : List Int, ms.Perm ns → ms.Pairwise (· ≤ ·) → Q (.lst (ms.map .int)) μ | none => False) := rfl
@[simp] theorem l_sortP {μ : Mu} {Q : Post}{ds : List D} : wBlt .sortP [.lst ds] μ Q = (match prsD ds with | some ps => ∀ ms : List (Int × Int), ms.Perm ps → ms.Pairwise lexLe → Q (.lst (ms.map pairD)) μ | none => False) := rfl
@[simp] theorem l_maxI {μ : Mu} {Q : Post}{ds : List D} : wBlt .maxI [.lst ds] μ Q = (match intsD ds with | some ns => ns ≠ [] ∧ ∀ m, m ∈ ns → (∀ y, y ∈ ns → y ≤ m) → Q (.int m) μ | none => False) := rfl
@[simp] theorem l_minI {μ : Mu} {Q : Post}{ds : List D} : wBlt .minI [.lst ds] μ Q = (match intsD ds with | some ns => ns ≠ [] ∧ ∀ m, m ∈ ns → (∀ y, y ∈ ns → m ≤ y) → Q (.int m) μ | none => False) := rfl

/-! ### the small language, clause by clause -/
@[simp] theorem E1 : wE (.var i) δ μ E Q = (match look δ i with | some d => Q d μ | none => False) := by first | rfl | (simp only [wE]; done) | (rw [wE]; done) | (unfold wE; rfl)
@[simp] theorem E2 : wE (.cst d) δ μ E Q = (Q d μ) := by first | rfl | (simp only [wE]; done) | (rw [wE]; done) | (unfold wE; rfl)
@[simp] theorem E3 : wE (.glb y5 d) δ μ E Q = (Q d μ) := by first | rfl | (simp only [wE]; done) | (rw [wE]; done) | (unfold wE; rfl)
@[simp] theorem E4 : wE (.bop o a b) δ μ E Q = (wE a δ μ E fun x μ1 => wE b δ μ1 E fun y μ2 => wBop o (vw μ2 x) (vw μ2 y) μ2 Q) := by first | rfl | (simp only [wE]; done) | (rw [wE]; done) | (unfold wE; rfl)
@[simp] theorem E5 : wE (.neg a) δ μ E Q = (wE a δ μ E fun x μ1 => match x with | .int i => Q (.int (-i)) μ1 | _ => False) := by first | rfl | (simp only [wE]; done) | (rw [wE]; done) | (unfold wE; rfl)
@[simp] theorem E6 : wE (.not a) δ μ E Q = (wE a δ μ E fun x μ1 => match truth (vw μ1 x) with | some k => Q (.bl (!k)) μ1 | none => False) := by first | rfl | (simp only [wE]; done) | (rw [wE]; done) | (unfold wE; rfl)
@[simp] theorem E7 : wE (.cmp o a b) δ μ E Q = (wE a δ μ E fun x μ1 => wE b δ μ1 E fun y μ2 => wCop o (vw μ2 x) (vw μ2 y) μ2 fun k μ3 => Q (.bl k) μ3) := by first | rfl | (simp only [wE]; done) | (rw [wE]; done) | (unfold wE; rfl)
@[simp] theorem E8 : wE (.chain o1 o2 a b c) δ μ E Q = (wE a δ μ E fun x μ1 => wE b δ μ1 E fun y μ2 => wCop o1 (vw μ2 x) (vw μ2 y) μ2 fun k μ3 => match k with
    | true => wE c δ μ3 E fun z μ4 => wCop o2 (vw μ4 y) (vw μ4 z) μ4 fun k2 μ5 => Q (.bl k2) μ5
    | false => Q (.bl false) μ3) := by first | rfl | (simp only [wE]; done) | (rw [wE]; done) | (unfold wE; rfl)
@[simp] theorem E9 : wE (.ands es) δ μ E Q = (wAnd es δ μ E Q) := by first | rfl | (simp only [wE]; done) | (rw [wE]; done) | (unfold wE; rfl)
@[simp] theorem E10 : wE (.ors es) δ μ E Q = (wOr es δ μ E Q) := by first | rfl | (simp only [wE]; done) | (rw [wE]; done) | (unfold wE; rfl)
@[simp] theorem E11 : wE (.ite c a b) δ μ E Q = (wT c δ μ E fun k μ1 => match k with | true => wE a δ μ1 E Q | false => wE b δ μ1 E Q) := by first | rfl | (simp only [wE]; done) | (rw [wE]; done) | (unfold wE; rfl)
@[simp] theorem E12 : wE (.call y6 sp es) δ μ E Q = (wA es δ μ E fun ds μ1 => sp ds μ1 Q E) := by first | rfl | (simp only [wE]; done) | (rw [wE]; done) | (unfold wE; rfl)
@[simp] theorem E13 : wE (.calll i tab es) δ μ E Q = (match look δ i with
    | some (.fn y) => (match tab.lookup y with
      | some sp => wA es δ μ E fun ds μ1 => sp ds μ1 Q E
      | none => False)
    | _ => False) := by first | rfl | (simp only [wE]; done) | (rw [wE]; done) | (unfold wE; rfl)
@[simp] theorem E14 : wE (.callk y7 y9 ks sp es zs) δ μ E Q = (wA es δ μ E fun ds μ1 => wA zs δ μ1 E fun es2 μ2 => es2.length = ks.length ∧ sp (ds ++ es2) μ2 Q E) := by first | rfl | (simp only [wE]; done) | (rw [wE]; done) | (unfold wE; rfl)
@[simp] theorem E15 : wE (.blt f es) δ μ E Q = (wA es δ μ E fun ds μ1 => wBlt f (ds.map (vw μ1)) μ1 Q) := by first | rfl | (simp only [wE]; done) | (rw [wE]; done) | (unfold wE; rfl)
@[simp] theorem E16 : wE (.isi ty a) δ μ E Q = (wE a δ μ E fun x μ1 => match isiD ty (vw μ1 x) with | some k => Q (.bl k) μ1 | none => False) := by first | rfl | (simp only [wE]; done) | (rw [wE]; done) | (unfold wE; rfl)
@[simp] theorem E17 : wE (.sub a i) δ μ E Q = (wE a δ μ E fun x μ1 => wE i δ μ1 E fun k μ2 => match seqD (vw μ2 x), k with
    | some ds, .int j => match atI ds j with | some d => Q d μ2 | none => False
    | _, _ => False) := by first | rfl | (simp only [wE]; done) | (rw [wE]; done) | (unfold wE; rfl)
@[simp] theorem E18 : wE (.slc a lo2 hi2) δ μ E Q = (wE a δ μ E fun x μ1 => wO lo2 δ μ1 E fun l μ2 => wO hi2 δ μ2 E fun h μ3 => match vw μ3 x with
    | .tup ds => Q (.tup (cutD ds l h)) μ3
    | .lst ds => Q (.lst (cutD ds l h)) μ3
    | .lsf ds => Q (.lst (cutD ds l h)) μ3
    | _ => False) := by first | rfl | (simp only [wE]; done) | (rw [wE]; done) | (unfold wE; rfl)
@[simp] theorem E19 : wE (.rev a) δ μ E Q = (wE a δ μ E fun x μ1 => match vw μ1 x with
    | .lst ds => Q (.lst ds.reverse) μ1
    | .tup ds => Q (.tup ds.reverse) μ1
    | _ => False) := by first | rfl | (simp only [wE]; done) | (rw [wE]; done) | (unfold wE; rfl)
@[simp] theorem E20 : wE (.tup es) δ μ E Q = (wA es δ μ E fun ds μ1 => ds.length ≤ sz ∧ Q (.tup ds) μ1) := by first | rfl | (simp only [wE]; done) | (rw [wE]; done) | (unfold wE; rfl)
@[simp] theorem E21 : wE (.lst m es) δ μ E Q = (wA es δ μ E fun ds μ1 => ds.length ≤ sz ∧ match m with
    | true => ∀ p, μ1 p = none → Q (.ref p) (mput μ1 p ds)
    | false => Q (.lst ds) μ1) := by first | rfl | (simp only [wE]; done) | (rw [wE]; done) | (unfold wE; rfl)
@[simp] theorem E22 : wE (.star y6) δ μ E Q = (False) := by first | rfl | (simp only [wE]; done) | (rw [wE]; done) | (unfold wE; rfl)
@[simp] theorem E23 : wE (.comp m own tg it cs e) δ μ E Q = (wI it δ μ E fun items stay μ1 => items.length < sz ∧
      wComp stay (fun x μ2 R => wTg tg x (unset δ (own.map (·.2))) fun δ2 => wAll cs δ2 μ2 noX fun k μ3 => match k with
        | true => wE e δ2 μ3 noX fun y μ4 => R (some y) μ4
        | false => R none μ3) items μ1 fun ys μ2 => match m with
          | true => ∀ p, μ2 p = none → Q (.ref p) (mput μ2 p ys)
          | false => Q (.lst ys) μ2) := by first | rfl | (simp only [wE]; done) | (rw [wE]; done) | (unfold wE; rfl)
@[simp] theorem E24 : wE (.dix ks vs a) δ μ E Q = (wE a δ μ E fun x μ1 => match x with
    | .str k => match (ks.zip vs).lookup k with | some d => Q d μ1 | none => False
    | _ => False) := by first | rfl | (simp only [wE]; done) | (rw [wE]; done) | (unfold wE; rfl)
@[simp] theorem E25 : wE (.frz a) δ μ E Q = (wE a δ μ E fun x μ1 => match x with
    | .ref p => match μ1 p with | some ds => Q (.lst ds) (mdel μ1 p) | none => False
    | _ => False) := by first | rfl | (simp only [wE]; done) | (rw [wE]; done) | (unfold wE; rfl)
@[simp] theorem E26 : wE (.app o e) δ μ E Q = (wE o δ μ E fun x μ1 => match x with
    | .ref p => match μ1 p with
      | some _ => wE e δ μ1 E fun y μ2 => match μ2 p with | some ds => ds.length < sz ∧ Q .non (mput μ2 p (ds ++ [y])) | none => False
      | none => False
    | _ => False) := by first | rfl | (simp only [wE]; done) | (rw [wE]; done) | (unfold wE; rfl)
@[simp] theorem E27 : wE (.ext o e) δ μ E Q = (wE o δ μ E fun x μ1 => match x with
    | .ref p => match μ1 p with
      | some _ => wE e δ μ1 E fun y μ2 => match μ2 p, y with | some ds, .lst es => ds.length + es.length ≤ sz ∧ Q .non (mput μ2 p (ds ++ es)) | _, _ => False
      | none => False
    | _ => False) := by first | rfl | (simp only [wE]; done) | (rw [wE]; done) | (unfold wE; rfl)
@[simp] theorem E28 : wE (.pop o) δ μ E Q = (wE o δ μ E fun x μ1 => match x with
    | .ref p => match μ1 p with | some ds => (match ds.getLast? with | some y => Q y (mput μ1 p ds.dropLast) | none => False) | none => False
    | _ => False) := by first | rfl | (simp only [wE]; done) | (rw [wE]; done) | (unfold wE; rfl)
@[simp] theorem E29 : wE (.popAt o i) δ μ E Q = (wE o δ μ E fun x μ1 => match x with
    | .ref p => match μ1 p with
      | some _ => wE i δ μ1 E fun k μ2 => match μ2 p, k with
        | some ds, .int j => match ixN ds.length j with
          | some n => match ds[n]? with | some d => (-(2 ^ 63) ≤ j ∧ j < 2 ^ 63) ∧ Q d (mput μ2 p (ds.eraseIdx n)) | none => False
          | none => False
        | _, _ => False
      | none => False
    | _ => False) := by first | rfl | (simp only [wE]; done) | (rw [wE]; done) | (unfold wE; rfl)
@[simp] theorem E30 : wE (.tru y5) δ μ E Q = (False) := by first | rfl | (simp only [wE]; done) | (rw [wE]; done) | (unfold wE; rfl)
@[simp] theorem E31 : wE (.seq y5) δ μ E Q = (False) := by first | rfl | (simp only [wE]; done) | (rw [wE]; done) | (unfold wE; rfl)
@[simp] theorem E32 : wE (.range1 y8) δ μ E Q = (False) := by first | rfl | (simp only [wE]; done) | (rw [wE]; done) | (unfold wE; rfl)
@[simp] theorem E33 : wE (.range2 y8 y10) δ μ E Q = (False) := by first | rfl | (simp only [wE]; done) | (rw [wE]; done) | (unfold wE; rfl)
@[simp] theorem E34 : wE (.zip y5 y7) δ μ E Q = (False) := by first | rfl | (simp only [wE]; done) | (rw [wE]; done) | (unfold wE; rfl)
@[simp] theorem E35 : wE (.enum y6) δ μ E Q = (False) := by first | rfl | (simp only [wE]; done) | (rw [wE]; done) | (unfold wE; rfl)
@[simp] theorem E36 : wE (.tupZip a b) δ μ E Q = (wE a δ μ E fun x μ1 => wE b δ μ1 E fun y μ2 => match vw μ2 x, vw μ2 y with
    | .lst xs, .lst ys => Q (.tup (List.zipWith (fun p q => .tup [p, q]) xs ys)) μ2
    | _, _ => False) := by first | rfl | (simp only [wE]; done) | (rw [wE]; done) | (unfold wE; rfl)
@[simp] theorem E37 : wE (.lrg1 m a) δ μ E Q = (wE a δ μ E fun x μ1 => match x with
    | .int n => wLrg m 0 n μ1 Q
    | _ => False) := by first | rfl | (simp only [wE]; done) | (rw [wE]; done) | (unfold wE; rfl)
@[simp] theorem E38 : wE (.lrg2 m a b) δ μ E Q = (wE a δ μ E fun x μ1 => wE b δ μ1 E fun y μ2 => match x, y with
    | .int i, .int j => wLrg m i j μ2 Q
    | _, _ => False) := by first | rfl | (simp only [wE]; done) | (rw [wE]; done) | (unfold wE; rfl)
@[simp] theorem E39 : wE (.cntI o a) δ μ E Q = (wE o δ μ E fun x μ1 => match x with
    | .lst ds => match intsD ds with
      | some ns => wE a δ μ1 E fun y μ2 => match y with | .int k => Q (.int (ns.count k : Nat)) μ2 | _ => False
      | none => False
    | _ => False) := by first | rfl | (simp only [wE]; done) | (rw [wE]; done) | (unfold wE; rfl)
@[simp] theorem E40 : wE (.idx o a) δ μ E Q = (wE o δ μ E fun x μ1 => match x with
    | .lst ds => wE a δ μ1 E fun y μ2 => wIdx ds (vw μ2 y) μ2 Q
    | _ => False) := by first | rfl | (simp only [wE]; done) | (rw [wE]; done) | (unfold wE; rfl)
@[simp] theorem E41 : wE (.x1 o a) δ μ E Q = (wE a δ μ E fun x μ1 => o.w x μ1 E Q) := by first | rfl | (simp only [wE]; done) | (rw [wE]; done) | (unfold wE; rfl)
@[simp] theorem E42 : wE (.x2 o a b) δ μ E Q = (wE a δ μ E fun x μ1 => wE b δ μ1 E fun y μ2 => o.w x y μ2 E Q) := by first | rfl | (simp only [wE]; done) | (rw [wE]; done) | (unfold wE; rfl)
@[simp] theorem E43 : wE (.xa o es) δ μ E Q = (wA es δ μ E fun ds μ1 => o.w ds μ1 E Q) := by first | rfl | (simp only [wE]; done) | (rw [wE]; done) | (unfold wE; rfl)
@[simp] theorem E44 : wE (.xi y4 y6) δ μ E Q = (False) := by first | rfl | (simp only [wE]; done) | (rw [wE]; done) | (unfold wE; rfl)
@[simp] theorem T_45 : wT (.not a) δ μ E Q = (wT a δ μ E fun k μ1 => Q (!k) μ1) := by first | rfl | (simp only [wT]; done) | (rw [wT]; done) | (unfold wT; rfl)
@[simp] theorem T_46 : wT (.ands es) δ μ E Q = (wAll es δ μ E Q) := by first | rfl | (simp only [wT]; done) | (rw [wT]; done) | (unfold wT; rfl)
@[simp] theorem T_47 : wT (.ors es) δ μ E Q = (wAny es δ μ E Q) := by first | rfl | (simp only [wT]; done) | (rw [wT]; done) | (unfold wT; rfl)
@[simp] theorem T_48 : wT (.cmp o a b) δ μ E Q = (wE a δ μ E fun x μ1 => wE b δ μ1 E fun y μ2 => wCop o (vw μ2 x) (vw μ2 y) μ2 Q) := by first | rfl | (simp only [wT]; done) | (rw [wT]; done) | (unfold wT; rfl)
@[simp] theorem T_49 : wT (.chain o1 o2 a b c) δ μ E Q = (wE a δ μ E fun x μ1 => wE b δ μ1 E fun y μ2 => wCop o1 (vw μ2 x) (vw μ2 y) μ2 fun k μ3 => match k with
    | true => wE c δ μ3 E fun z μ4 => wCop o2 (vw μ4 y) (vw μ4 z) μ4 Q
    | false => Q false μ3) := by first | rfl | (simp only [wT]; done) | (rw [wT]; done) | (unfold wT; rfl)
@[simp] theorem T_50 : wT (.tru e) δ μ E Q = (wE e δ μ E fun x μ1 => match truth (vw μ1 x) with | some k => Q k μ1 | none => False) := by first | rfl | (simp only [wT]; done) | (rw [wT]; done) | (unfold wT; rfl)
@[simp] theorem All51 : wAll [] δ μ E Q = (Q true μ) := by first | rfl | (simp only [wAll]; done) | (rw [wAll]; done) | (unfold wAll; rfl)
@[simp] theorem All52 : wAll (e :: es) δ μ E Q = (wT e δ μ E fun k μ1 => match k with | true => wAll es δ μ1 E Q | false => Q false μ1) := by first | rfl | (simp only [wAll]; done) | (rw [wAll]; done) | (unfold wAll; rfl)
@[simp] theorem Any53 : wAny [] δ μ E Q = (Q false μ) := by first | rfl | (simp only [wAny]; done) | (rw [wAny]; done) | (unfold wAny; rfl)
@[simp] theorem Any54 : wAny (e :: es) δ μ E Q = (wT e δ μ E fun k μ1 => match k with | true => Q true μ1 | false => wAny es δ μ1 E Q) := by first | rfl | (simp only [wAny]; done) | (rw [wAny]; done) | (unfold wAny; rfl)
@[simp] theorem And55 : wAnd [] δ μ E Q = (False) := by first | rfl | (simp only [wAnd]; done) | (rw [wAnd]; done) | (unfold wAnd; rfl)
@[simp] theorem And56 : wAnd [e] δ μ E Q = (wE e δ μ E Q) := by first | rfl | (simp only [wAnd]; done) | (rw [wAnd]; done) | (unfold wAnd; rfl)
@[simp] theorem And57 : wAnd (e :: e2 :: es) δ μ E Q = (wE e δ μ E fun x μ1 => match x with | .bl true => wAnd (e2 :: es) δ μ1 E Q | .bl false => Q (.bl false) μ1 | _ => False) := by first | rfl | (simp only [wAnd]; done) | (rw [wAnd]; done) | (unfold wAnd; rfl)
@[simp] theorem Or58 : wOr [] δ μ E Q = (False) := by first | rfl | (simp only [wOr]; done) | (rw [wOr]; done) | (unfold wOr; rfl)
@[simp] theorem Or59 : wOr [e] δ μ E Q = (wE e δ μ E Q) := by first | rfl | (simp only [wOr]; done) | (rw [wOr]; done) | (unfold wOr; rfl)
@[simp] theorem Or60 : wOr (e :: e2 :: es) δ μ E Q = (wE e δ μ E fun x μ1 => match x with | .bl true => Q (.bl true) μ1 | .bl false => wOr (e2 :: es) δ μ1 E Q | _ => False) := by first | rfl | (simp only [wOr]; done) | (rw [wOr]; done) | (unfold wOr; rfl)
@[simp] theorem A61 : wA [] δ μ E R = (R [] μ) := by first | rfl | (simp only [wA]; done) | (rw [wA]; done) | (unfold wA; rfl)
@[simp] theorem A62 : wA (.star a :: es) δ μ E R = (wE a δ μ E fun x μ1 => match seqD (vw μ1 x) with
    | some xs => wA es δ μ1 E fun ys μ2 => R (xs ++ ys) μ2
    | none => False) := by first | rfl | (simp only [wA]; done) | (rw [wA]; done) | (unfold wA; rfl)
@[simp] theorem O63 : wO none δ μ E R = (R none μ) := by first | rfl | (simp only [wO]; done) | (rw [wO]; done) | (unfold wO; rfl)
@[simp] theorem O64 : wO (some e) δ μ E R = (wE e δ μ E fun x μ1 => match x with | .int i => R (some i) μ1 | _ => False) := by first | rfl | (simp only [wO]; done) | (rw [wO]; done) | (unfold wO; rfl)
@[simp] theorem I65 : wI (.range1 a) δ μ E R = (wE a δ μ E fun x μ1 => match x with
    | .int n => -(2 ^ 62) ≤ n ∧ n < 2 ^ 62 ∧ R ((List.range n.toNat).map fun (i : Nat) => .int i) (fun _ => True) μ1
    | _ => False) := by first | rfl | (simp only [wI]; done) | (rw [wI]; done) | (unfold wI; rfl)
@[simp] theorem I66 : wI (.range2 a b) δ μ E R = (wE a δ μ E fun x μ1 => wE b δ μ1 E fun y μ2 => match x, y with
    | .int m, .int n => (-(2 ^ 62) ≤ m ∧ m < 2 ^ 62 ∧ -(2 ^ 62) ≤ n ∧ n < 2 ^ 62) ∧ R ((List.range (n - m).toNat).map fun (i : Nat) => .int (m + i)) (fun _ => True) μ2
    | _, _ => False) := by first | rfl | (simp only [wI]; done) | (rw [wI]; done) | (unfold wI; rfl)
@[simp] theorem I67 : wI (.enum a) δ μ E R = (wE a δ μ E fun x μ1 => match x with
    | .lst ds => R (ds.zipIdx.map fun p => .tup [.int (p.2 : Nat), p.1]) (fun _ => True) μ1
    | .tup ds => R (ds.zipIdx.map fun p => .tup [.int (p.2 : Nat), p.1]) (fun _ => True) μ1
    | .ref p => match μ1 p with | some ds => R (ds.zipIdx.map fun p => .tup [.int (p.2 : Nat), p.1]) (fun μ => μ p = some ds) μ1 | none => False
    | _ => False) := by first | rfl | (simp only [wI]; done) | (rw [wI]; done) | (unfold wI; rfl)
@[simp] theorem I68 : wI (.zip a b) δ μ E R = (wE a δ μ E fun x μ1 => wE b δ μ1 E fun y μ2 => match x, y with
    | .lst xs, .lst ys => R (List.zipWith (fun p q => .tup [p, q]) xs ys) (fun _ => True) μ2
    | _, _ => False) := by first | rfl | (simp only [wI]; done) | (rw [wI]; done) | (unfold wI; rfl)
@[simp] theorem I69 : wI (.seq e) δ μ E R = (wE e δ μ E fun x μ1 => match x with
    | .lst ds => R ds (fun _ => True) μ1
    | .lsf ds => R ds (fun _ => True) μ1
    | .tup ds => R ds (fun _ => True) μ1
    | .ref p => match μ1 p with | some ds => R ds (fun μ => μ p = some ds) μ1 | none => False
    | _ => False) := by first | rfl | (simp only [wI]; done) | (rw [wI]; done) | (unfold wI; rfl)
@[simp] theorem I70 : wI (.xi o es) δ μ E R = (wA es δ μ E fun ds μ1 => o.w ds μ1 fun items => R items (fun _ => True) μ1) := by first | rfl | (simp only [wI]; done) | (rw [wI]; done) | (unfold wI; rfl)
@[simp] theorem G71 : wTg (.nm i) d δ R = (R (put δ i (some d))) := by first | rfl | (simp only [wTg]; done) | (rw [wTg]; done) | (unfold wTg; rfl)
@[simp] theorem G72 : wTg (.tp ts) d δ R = (match d with
    | .tup ds => ds.length = ts.length ∧ wTgs ts ds δ R
    | .lst ds => ds.length = ts.length ∧ wTgs ts ds δ R
    | _ => False) := by first | rfl | (simp only [wTg]; done) | (rw [wTg]; done) | (unfold wTg; rfl)
@[simp] theorem Gs73 : wTgs [] [] δ R = (R δ) := by first | rfl | (simp only [wTgs]; done) | (rw [wTgs]; done) | (unfold wTgs; rfl)
@[simp] theorem Gs74 : wTgs (t :: ts) (d :: ds) δ R = (wTg t d δ fun δ1 => wTgs ts ds δ1 R) := by first | rfl | (simp only [wTgs]; done) | (rw [wTgs]; done) | (unfold wTgs; rfl)
@[simp] theorem look_75 : look [] z1 = (none) := by first | rfl | (simp only [look]; done) | (rw [look]; done) | (unfold look; rfl)
@[simp] theorem look_76 : look (x :: y5) 0 = (x) := by first | rfl | (simp only [look]; done) | (rw [look]; done) | (unfold look; rfl)
@[simp] theorem look_77 : look (y0 :: xs) (n + 1) = (look xs n) := by first | rfl | (simp only [look]; done) | (rw [look]; done) | (unfold look; rfl)
@[simp] theorem put_78 : put [] z1 z2 = ([]) := by first | rfl | (simp only [put]; done) | (rw [put]; done) | (unfold put; rfl)
@[simp] theorem put_79 : put (y0 :: xs) 0 d = (d :: xs) := by first | rfl | (simp only [put]; done) | (rw [put]; done) | (unfold put; rfl)
@[simp] theorem put_80 : put (x :: xs) (n + 1) d = (x :: put xs n d) := by first | rfl | (simp only [put]; done) | (rw [put]; done) | (unfold put; rfl)
@[simp] theorem pm81 : putMany [] [] δ R = (R δ) := by first | rfl | (simp only [putMany]; done) | (rw [putMany]; done) | (unfold putMany; rfl)
@[simp] theorem pm82 : putMany (i :: is) (d :: ds) δ R = (putMany is ds (put δ i (some d)) R) := by first | rfl | (simp only [putMany]; done) | (rw [putMany]; done) | (unfold putMany; rfl)
@[simp] theorem A83 : wA ((.var i') :: es) δ μ E R = (wE (.var i') δ μ E fun x μ1 => wA es δ μ1 E fun ys μ2 => R (x :: ys) μ2) := by first | rfl | (simp only [wA]; done) | (rw [wA]; done) | (unfold wA; rfl)
@[simp] theorem A84 : wA ((.cst d') :: es) δ μ E R = (wE (.cst d') δ μ E fun x μ1 => wA es δ μ1 E fun ys μ2 => R (x :: ys) μ2) := by first | rfl | (simp only [wA]; done) | (rw [wA]; done) | (unfold wA; rfl)
@[simp] theorem A85 : wA ((.glb x' d') :: es) δ μ E R = (wE (.glb x' d') δ μ E fun x μ1 => wA es δ μ1 E fun ys μ2 => R (x :: ys) μ2) := by first | rfl | (simp only [wA]; done) | (rw [wA]; done) | (unfold wA; rfl)
@[simp] theorem A86 : wA ((.bop o' a' b') :: es) δ μ E R = (wE (.bop o' a' b') δ μ E fun x μ1 => wA es δ μ1 E fun ys μ2 => R (x :: ys) μ2) := by first | rfl | (simp only [wA]; done) | (rw [wA]; done) | (unfold wA; rfl)
@[simp] theorem A87 : wA ((.neg a') :: es) δ μ E R = (wE (.neg a') δ μ E fun x μ1 => wA es δ μ1 E fun ys μ2 => R (x :: ys) μ2) := by first | rfl | (simp only [wA]; done) | (rw [wA]; done) | (unfold wA; rfl)
@[simp] theorem A88 : wA ((.not a') :: es) δ μ E R = (wE (.not a') δ μ E fun x μ1 => wA es δ μ1 E fun ys μ2 => R (x :: ys) μ2) := by first | rfl | (simp only [wA]; done) | (rw [wA]; done) | (unfold wA; rfl)
@[simp] theorem A89 : wA ((.cmp o' a' b') :: es) δ μ E R = (wE (.cmp o' a' b') δ μ E fun x μ1 => wA es δ μ1 E fun ys μ2 => R (x :: ys) μ2) := by first | rfl | (simp only [wA]; done) | (rw [wA]; done) | (unfold wA; rfl)
@[simp] theorem A90 : wA ((.chain o1' o2' a' b' c') :: es) δ μ E R = (wE (.chain o1' o2' a' b' c') δ μ E fun x μ1 => wA es δ μ1 E fun ys μ2 => R (x :: ys) μ2) := by first | rfl | (simp only [wA]; done) | (rw [wA]; done) | (unfold wA; rfl)
@[simp] theorem A91 : wA ((.ands es') :: es) δ μ E R = (wE (.ands es') δ μ E fun x μ1 => wA es δ μ1 E fun ys μ2 => R (x :: ys) μ2) := by first | rfl | (simp only [wA]; done) | (rw [wA]; done) | (unfold wA; rfl)
@[simp] theorem A92 : wA ((.ors es') :: es) δ μ E R = (wE (.ors es') δ μ E fun x μ1 => wA es δ μ1 E fun ys μ2 => R (x :: ys) μ2) := by first | rfl | (simp only [wA]; done) | (rw [wA]; done) | (unfold wA; rfl)
@[simp] theorem A93 : wA ((.ite c' a' b') :: es) δ μ E R = (wE (.ite c' a' b') δ μ E fun x μ1 => wA es δ μ1 E fun ys μ2 => R (x :: ys) μ2) := by first | rfl | (simp only [wA]; done) | (rw [wA]; done) | (unfold wA; rfl)
@[simp] theorem A94 : wA ((.call x' sp' es') :: es) δ μ E R = (wE (.call x' sp' es') δ μ E fun x μ1 => wA es δ μ1 E fun ys μ2 => R (x :: ys) μ2) := by first | rfl | (simp only [wA]; done) | (rw [wA]; done) | (unfold wA; rfl)
@[simp] theorem A95 : wA ((.calll i' tab' es') :: es) δ μ E R = (wE (.calll i' tab' es') δ μ E fun x μ1 => wA es δ μ1 E fun ys μ2 => R (x :: ys) μ2) := by first | rfl | (simp only [wA]; done) | (rw [wA]; done) | (unfold wA; rfl)
@[simp] theorem A96 : wA ((.callk key' y' ks' sp' es' zs') :: es) δ μ E R = (wE (.callk key' y' ks' sp' es' zs') δ μ E fun x μ1 => wA es δ μ1 E fun ys μ2 => R (x :: ys) μ2) := by first | rfl | (simp only [wA]; done) | (rw [wA]; done) | (unfold wA; rfl)
@[simp] theorem A97 : wA ((.blt f' es') :: es) δ μ E R = (wE (.blt f' es') δ μ E fun x μ1 => wA es δ μ1 E fun ys μ2 => R (x :: ys) μ2) := by first | rfl | (simp only [wA]; done) | (rw [wA]; done) | (unfold wA; rfl)
@[simp] theorem A98 : wA ((.isi ty' a') :: es) δ μ E R = (wE (.isi ty' a') δ μ E fun x μ1 => wA es δ μ1 E fun ys μ2 => R (x :: ys) μ2) := by first | rfl | (simp only [wA]; done) | (rw [wA]; done) | (unfold wA; rfl)
@[simp] theorem A99 : wA ((.sub a' i') :: es) δ μ E R = (wE (.sub a' i') δ μ E fun x μ1 => wA es δ μ1 E fun ys μ2 => R (x :: ys) μ2) := by first | rfl | (simp only [wA]; done) | (rw [wA]; done) | (unfold wA; rfl)
@[simp] theorem A100 : wA ((.slc a' lo' hi') :: es) δ μ E R = (wE (.slc a' lo' hi') δ μ E fun x μ1 => wA es δ μ1 E fun ys μ2 => R (x :: ys) μ2) := by first | rfl | (simp only [wA]; done) | (rw [wA]; done) | (unfold wA; rfl)
@[simp] theorem A101 : wA ((.rev a') :: es) δ μ E R = (wE (.rev a') δ μ E fun x μ1 => wA es δ μ1 E fun ys μ2 => R (x :: ys) μ2) := by first | rfl | (simp only [wA]; done) | (rw [wA]; done) | (unfold wA; rfl)
@[simp] theorem A102 : wA ((.tup es') :: es) δ μ E R = (wE (.tup es') δ μ E fun x μ1 => wA es δ μ1 E fun ys μ2 => R (x :: ys) μ2) := by first | rfl | (simp only [wA]; done) | (rw [wA]; done) | (unfold wA; rfl)
@[simp] theorem A103 : wA ((.lst m' es') :: es) δ μ E R = (wE (.lst m' es') δ μ E fun x μ1 => wA es δ μ1 E fun ys μ2 => R (x :: ys) μ2) := by first | rfl | (simp only [wA]; done) | (rw [wA]; done) | (unfold wA; rfl)
@[simp] theorem A104 : wA ((.comp m' own' tg' it' cs' e') :: es) δ μ E R = (wE (.comp m' own' tg' it' cs' e') δ μ E fun x μ1 => wA es δ μ1 E fun ys μ2 => R (x :: ys) μ2) := by first | rfl | (simp only [wA]; done) | (rw [wA]; done) | (unfold wA; rfl)
@[simp] theorem A105 : wA ((.dix ks' vs' a') :: es) δ μ E R = (wE (.dix ks' vs' a') δ μ E fun x μ1 => wA es δ μ1 E fun ys μ2 => R (x :: ys) μ2) := by first | rfl | (simp only [wA]; done) | (rw [wA]; done) | (unfold wA; rfl)
@[simp] theorem A106 : wA ((.frz a') :: es) δ μ E R = (wE (.frz a') δ μ E fun x μ1 => wA es δ μ1 E fun ys μ2 => R (x :: ys) μ2) := by first | rfl | (simp only [wA]; done) | (rw [wA]; done) | (unfold wA; rfl)
@[simp] theorem A107 : wA ((.app o' e') :: es) δ μ E R = (wE (.app o' e') δ μ E fun x μ1 => wA es δ μ1 E fun ys μ2 => R (x :: ys) μ2) := by first | rfl | (simp only [wA]; done) | (rw [wA]; done) | (unfold wA; rfl)
@[simp] theorem A108 : wA ((.ext o' e') :: es) δ μ E R = (wE (.ext o' e') δ μ E fun x μ1 => wA es δ μ1 E fun ys μ2 => R (x :: ys) μ2) := by first | rfl | (simp only [wA]; done) | (rw [wA]; done) | (unfold wA; rfl)
@[simp] theorem A109 : wA ((.pop o') :: es) δ μ E R = (wE (.pop o') δ μ E fun x μ1 => wA es δ μ1 E fun ys μ2 => R (x :: ys) μ2) := by first | rfl | (simp only [wA]; done) | (rw [wA]; done) | (unfold wA; rfl)
@[simp] theorem A110 : wA ((.popAt o' i') :: es) δ μ E R = (wE (.popAt o' i') δ μ E fun x μ1 => wA es δ μ1 E fun ys μ2 => R (x :: ys) μ2) := by first | rfl | (simp only [wA]; done) | (rw [wA]; done) | (unfold wA; rfl)
@[simp] theorem A111 : wA ((.tru a') :: es) δ μ E R = (wE (.tru a') δ μ E fun x μ1 => wA es δ μ1 E fun ys μ2 => R (x :: ys) μ2) := by first | rfl | (simp only [wA]; done) | (rw [wA]; done) | (unfold wA; rfl)
@[simp] theorem A112 : wA ((.seq a') :: es) δ μ E R = (wE (.seq a') δ μ E fun x μ1 => wA es δ μ1 E fun ys μ2 => R (x :: ys) μ2) := by first | rfl | (simp only [wA]; done) | (rw [wA]; done) | (unfold wA; rfl)
@[simp] theorem A113 : wA ((.range1 a') :: es) δ μ E R = (wE (.range1 a') δ μ E fun x μ1 => wA es δ μ1 E fun ys μ2 => R (x :: ys) μ2) := by first | rfl | (simp only [wA]; done) | (rw [wA]; done) | (unfold wA; rfl)
@[simp] theorem A114 : wA ((.range2 a' b') :: es) δ μ E R = (wE (.range2 a' b') δ μ E fun x μ1 => wA es δ μ1 E fun ys μ2 => R (x :: ys) μ2) := by first | rfl | (simp only [wA]; done) | (rw [wA]; done) | (unfold wA; rfl)
@[simp] theorem A115 : wA ((.zip a' b') :: es) δ μ E R = (wE (.zip a' b') δ μ E fun x μ1 => wA es δ μ1 E fun ys μ2 => R (x :: ys) μ2) := by first | rfl | (simp only [wA]; done) | (rw [wA]; done) | (unfold wA; rfl)
@[simp] theorem A116 : wA ((.enum a') :: es) δ μ E R = (wE (.enum a') δ μ E fun x μ1 => wA es δ μ1 E fun ys μ2 => R (x :: ys) μ2) := by first | rfl | (simp only [wA]; done) | (rw [wA]; done) | (unfold wA; rfl)
@[simp] theorem A117 : wA ((.tupZip a' b') :: es) δ μ E R = (wE (.tupZip a' b') δ μ E fun x μ1 => wA es δ μ1 E fun ys μ2 => R (x :: ys) μ2) := by first | rfl | (simp only [wA]; done) | (rw [wA]; done) | (unfold wA; rfl)
@[simp] theorem A118 : wA ((.lrg1 m' a') :: es) δ μ E R = (wE (.lrg1 m' a') δ μ E fun x μ1 => wA es δ μ1 E fun ys μ2 => R (x :: ys) μ2) := by first | rfl | (simp only [wA]; done) | (rw [wA]; done) | (unfold wA; rfl)
@[simp] theorem A119 : wA ((.lrg2 m' a' b') :: es) δ μ E R = (wE (.lrg2 m' a' b') δ μ E fun x μ1 => wA es δ μ1 E fun ys μ2 => R (x :: ys) μ2) := by first | rfl | (simp only [wA]; done) | (rw [wA]; done) | (unfold wA; rfl)
@[simp] theorem A120 : wA ((.cntI o' a') :: es) δ μ E R = (wE (.cntI o' a') δ μ E fun x μ1 => wA es δ μ1 E fun ys μ2 => R (x :: ys) μ2) := by first | rfl | (simp only [wA]; done) | (rw [wA]; done) | (unfold wA; rfl)
@[simp] theorem A121 : wA ((.idx o' a') :: es) δ μ E R = (wE (.idx o' a') δ μ E fun x μ1 => wA es δ μ1 E fun ys μ2 => R (x :: ys) μ2) := by first | rfl | (simp only [wA]; done) | (rw [wA]; done) | (unfold wA; rfl)
@[simp] theorem A122 : wA ((.x1 o' a') :: es) δ μ E R = (wE (.x1 o' a') δ μ E fun x μ1 => wA es δ μ1 E fun ys μ2 => R (x :: ys) μ2) := by first | rfl | (simp only [wA]; done) | (rw [wA]; done) | (unfold wA; rfl)
@[simp] theorem A123 : wA ((.x2 o' a' b') :: es) δ μ E R = (wE (.x2 o' a' b') δ μ E fun x μ1 => wA es δ μ1 E fun ys μ2 => R (x :: ys) μ2) := by first | rfl | (simp only [wA]; done) | (rw [wA]; done) | (unfold wA; rfl)
@[simp] theorem A124 : wA ((.xa o' es') :: es) δ μ E R = (wE (.xa o' es') δ μ E fun x μ1 => wA es δ μ1 E fun ys μ2 => R (x :: ys) μ2) := by first | rfl | (simp only [wA]; done) | (rw [wA]; done) | (unfold wA; rfl)
@[simp] theorem A125 : wA ((.xi o' es') :: es) δ μ E R = (wE (.xi o' es') δ μ E fun x μ1 => wA es δ μ1 E fun ys μ2 => R (x :: ys) μ2) := by first | rfl | (simp only [wA]; done) | (rw [wA]; done) | (unfold wA; rfl)
@[simp] theorem un1 : unset δ [] = δ := rfl
@[simp] theorem un2 : unset δ (v :: vs) = put (unset δ vs) v none := rfl
@[simp] theorem B1 : wB [] δ μ N = N.nx δ μ := by simp only [wB]
@[simp] theorem B2 {s : IS} : wB (s :: ss) δ μ N = wS s δ μ { N with nx := fun δ1 μ1 => wB ss δ1 μ1 N } := by simp only [wB]

/-! ### comprehensions -/
/-- each item gives its image -/
theorem wComp_mapS {stay : Mu → Prop} {α : Type} {enc : α → D} {f : D → Mu → (Option D → Mu → Prop) → Prop} (g : α → D) {R : List D → Mu → Prop} {μ : Mu} (hs : stay μ) : ∀ {xs : List α}, (∀ x ∈ xs, ∀ R', R' (some (g x)) μ → f (enc x) μ R') → R (xs.map g) μ → wComp stay f (xs.map enc) μ R
  | [], _, q => ⟨hs, q⟩
  | x :: xs, hf, q => ⟨hs, hf x (by simp) _ (by
      show wComp _ f (xs.map enc) μ _
      exact wComp_mapS (R := fun ys μ2 => R (g x :: ys) μ2) g hs (fun y hy => hf y (by simp [hy])) q)⟩
theorem wComp_map {α : Type} {enc : α → D} {f : D → Mu → (Option D → Mu → Prop) → Prop} (g : α → D) {R : List D → Mu → Prop} {μ : Mu} {xs : List α} (h : ∀ x ∈ xs, ∀ R', R' (some (g x)) μ → f (enc x) μ R') (q : R (xs.map g) μ) : wComp (fun _ => True) f (xs.map enc) μ R := wComp_mapS g trivial h q
/-- some items give theirs -/
theorem wComp_filter {α : Type} {enc : α → D} {f : D → Mu → (Option D → Mu → Prop) → Prop} (g : α → Option D) {R : List D → Mu → Prop} {μ : Mu} : ∀ {xs : List α}, (∀ x ∈ xs, ∀ R', R' (g x) μ → f (enc x) μ R') → R (xs.filterMap g) μ → wComp (fun _ => True) f (xs.map enc) μ R
  | [], _, q => ⟨trivial, q⟩
  | x :: xs, hf, q => ⟨trivial, hf x (by simp) _ (by
      rw [List.filterMap_cons] at q
      cases e : g x with
      | none =>
        rw [e] at q
        exact wComp_filter g (fun y hy => hf y (by simp [hy])) q
      | some y =>
        rw [e] at q
        exact wComp_filter (R := fun ys μ2 => R (y :: ys) μ2) g (fun z hz => hf z (by simp [hz])) q)⟩
/-- the store may go on -/
theorem wComp_run {stay : Mu → Prop} {f : D → Mu → (Option D → Mu → Prop) → Prop} (J : Nat → Mu → Prop) (G : D → Prop) (L : Nat) {R : List D → Mu → Prop} (hs : ∀ i μ, J i μ → stay μ) : ∀ {xs : List D} {i : Nat} {μ : Mu}, i + xs.length = L → (∀ (i : Nat) (μ : Mu) x R', i < L → x ∈ xs → J i μ → (∀ y μ', G y → J (i + 1) μ' → R' (some y) μ') → f x μ R') → J i μ →
    (∀ ys μ', ys.length = xs.length → (∀ y ∈ ys, G y) → J L μ' → R ys μ') → wComp stay f xs μ R
  | [], i, μ, hL, _, j, q => ⟨hs i μ j, q [] μ rfl (by simp) (by simpa [← hL] using j)⟩
  | x :: xs, i, μ, hL, hf, j, q => ⟨hs i μ j, hf i μ x _ (by rw [← hL, List.length_cons]; omega) (by simp) j fun y μ' gy j' => by
      show wComp stay f xs μ' _
      exact wComp_run (R := fun ys μ2 => R (y :: ys) μ2) J G L hs (by rw [← hL, List.length_cons]; omega) (fun i μ x' R' hi hx => hf i μ x' R' hi (by simp [hx])) j' fun ys μ2 hl hg j2 => q (y :: ys) μ2 (by simp [hl]) (by simpa [gy] using hg) j2⟩
theorem bools_of : ∀ {ys : List D}, (∀ y ∈ ys, ∃ b, y = .bl b) → ∃ fl : List Bool, ys = fl.map .bl
  | [], _ => ⟨[], rfl⟩
  | y :: ys, h => by
    obtain ⟨b, rfl⟩ := h y (by simp)
    obtain ⟨fl, rfl⟩ := bools_of (ys := ys) fun z hz => h z (by simp [hz])
    exact ⟨b :: fl, rfl⟩
theorem ints_of : ∀ {ys : List D}, (∀ y ∈ ys, ∃ b, y = .int b) → ∃ fl : List Int, ys = fl.map .int
  | [], _ => ⟨[], rfl⟩
  | y :: ys, h => by
    obtain ⟨b, rfl⟩ := h y (by simp)
    obtain ⟨fl, rfl⟩ := ints_of (ys := ys) fun z hz => h z (by simp [hz])
    exact ⟨b :: fl, rfl⟩
theorem blsD_map {α : Type} (f : α → Bool) : ∀ xs : List α, blsD (xs.map fun x => D.bl (f x)) = some (xs.map f)
  | [] => rfl
  | x :: xs => by simp [blsD, blsD_map f xs]
theorem intsD_map {α : Type} (f : α → Int) : ∀ xs : List α, intsD (xs.map fun x => D.int (f x)) = some (xs.map f)
  | [] => rfl
  | x :: xs => by simp [intsD, intsD_map f xs]

/-! ### statements, a loop's body left as it stands -/
def wForB (stay : Mu → Prop) (tmp : List Nat) (t : IT) (body : List IS) (N : DEnds) (items : List D) (δ : DE) (μ : Mu) : Prop := wFor stay tmp t (fun δ2 μ2 N2 => wB body δ2 μ2 N2) N items δ μ
def wWhileB (tmp : List Nat) (c : IE) (body : List IS) (N : DEnds) (δ : DE) (μ : Mu) : Prop := wWhile tmp (fun δ2 μ2 Q => wT c δ2 μ2 N.ex Q) (fun δ2 μ2 N2 => wB body δ2 μ2 N2) N δ μ
section
variable {δ : DE} {μ : Mu} {N : DEnds} {e c o i : IE} {es : List IE} {a b body : List IS} {tmp is : List Nat} {t : IT} {ts : List IT} {k : Nat} {op : Bop} {s : IS} {ss : List IS}
@[simp] theorem S_nm : wS (.asg (.nm k) e) δ μ N = wE e δ μ N.ex fun x μ1 => N.nx (put δ k (some x)) μ1 := by simp only [wS, wTg]
@[simp] theorem S_tp : wS (.asg (.tp ts) e) δ μ N = wE e δ μ N.ex fun x μ1 => wTg (.tp ts) (vw μ1 x) δ fun δ1 => N.nx δ1 μ1 := by simp only [wS]
@[simp] theorem S_par : wS (.par is es) δ μ N = wA es δ μ N.ex fun ds μ1 => putMany is ds δ fun δ1 => N.nx δ1 μ1 := by simp only [wS]
@[simp] theorem S_aug : wS (.aug k op e) δ μ N = (match look δ k with
    | some x => wE e δ μ N.ex fun y μ1 => match x, y with
      | .int a, .int b => wBop op (.int a) (.int b) μ1 fun z μ2 => N.nx (put δ k (some z)) μ2
      | _, _ => False
    | none => False) := by first | (simp only [wS]; done) | (simp only [wS]; rfl)
@[simp] theorem S_exp : wS (.exp e) δ μ N = wE e δ μ N.ex fun _ μ1 => N.nx δ μ1 := by simp only [wS]
@[simp] theorem S_set : wS (.set o i e) δ μ N = wE e δ μ N.ex fun v μ1 => wE o δ μ1 N.ex fun x μ2 => wE i δ μ2 N.ex fun k μ3 => match x, k with
    | .ref p, .int j => match μ3 p with
      | some ds => match ixN ds.length j with | some n => N.nx δ (mput μ3 p (ds.set n v)) | none => False
      | none => False
    | _, _ => False := by first | (simp only [wS]; done) | (simp only [wS]; rfl)
@[simp] theorem S_ret : wS (.ret e) δ μ N = wE e δ μ N.ex fun x μ1 => N.rt x μ1 := by simp only [wS]
@[simp] theorem S_ret0 : wS .ret0 δ μ N = N.rt .non μ := by simp only [wS]
@[simp] theorem S_ite : wS (.ite c a b) δ μ N = wT c δ μ N.ex fun k μ1 => match k with | true => wB a δ μ1 N | false => wB b δ μ1 N := by first | (simp only [wS]; done) | (simp only [wS]; rfl)
@[simp] theorem S_for : wS (.for_ tmp t e body) δ μ N = wI e δ μ N.ex fun items stay μ1 => wForB stay tmp t body N items (unset δ tmp) μ1 := by first | (simp only [wS]; done) | (simp only [wS]; rfl)
@[simp] theorem S_while : wS (.while_ tmp c body) δ μ N = wWhileB tmp c body N δ μ := by first | (simp only [wS]; done) | (simp only [wS]; rfl)
@[simp] theorem S_pass : wS .pass_ δ μ N = N.nx δ μ := by simp only [wS]
@[simp] theorem S_brk : wS .brk δ μ N = N.bk δ μ := by simp only [wS]
@[simp] theorem S_cnt : wS .cnt δ μ N = N.ct δ μ := by simp only [wS]
@[simp] theorem S_never : wS .never δ μ N = False := by simp only [wS]
@[simp] theorem S_xs {o : XoS} {es : List IE} {bs : List (List IS)} : wS (.xs o es bs) δ μ N = o.w (wEs es) (wBs bs) δ μ N := by simp only [wS]
@[simp] theorem S_es0 : wEs [] = [] := by simp only [wEs]
@[simp] theorem S_es1 {e : IE} {es : List IE} : wEs (e :: es) = wE e :: wEs es := by simp only [wEs]
@[simp] theorem S_bs0 : wBs [] = [] := by simp only [wBs]
@[simp] theorem S_bs1 {b : List IS} {bs : List (List IS)} : wBs (b :: bs) = (fun δ μ N => wB b δ μ N) :: wBs bs := by simp only [wBs]
end

/-! ### loops -/
/-- by what holds ahead of each turn -/
theorem wFor_run0 {stay : Mu → Prop} {tmp : List Nat} {t : IT} {body : DE → Mu → DEnds → Prop} {N : DEnds} (J : Nat → DE → Mu → Prop) (L : Nat) (hs : ∀ i δ μ, J i δ μ → stay μ) : ∀ {xs : List D} {i : Nat} {δ : DE} {μ : Mu}, i + xs.length = L →
    (∀ (i : Nat) (δ : DE) (μ : Mu) x nx, i < L → x ∈ xs → J i δ μ → (∀ δ2 μ2, J (i + 1) (unset δ2 tmp) μ2 → nx δ2 μ2) → wTg t x δ fun δ1 => body δ1 μ { nx := nx, rt := N.rt, bk := N.nx, ct := nx, ex := N.ex }) → J i δ μ → (∀ δ μ, J L δ μ → N.nx δ μ) → wFor stay tmp t body N xs δ μ
  | [], i, δ, μ, hL, _, j, q => ⟨hs i δ μ j, q δ μ (by simpa [← hL] using j)⟩
  | x :: xs, i, δ, μ, hL, hf, j, q => ⟨hs i δ μ j, hf i δ μ x _ (by rw [← hL, List.length_cons]; omega) (by simp) j fun δ2 μ2 j2 => wFor_run0 J L hs (by rw [← hL, List.length_cons]; omega) (fun i δ μ x' nx hi hx => hf i δ μ x' nx hi (by simp [hx])) j2 q⟩
theorem wFor_run {stay : Mu → Prop} {tmp : List Nat} {t : IT} {body : List IS} {N : DEnds} (J : Nat → DE → Mu → Prop) {xs : List D} {δ : DE} {μ : Mu} (hs : ∀ i δ μ, J i δ μ → stay μ)
    (hb : ∀ (i : Nat) (δ : DE) (μ : Mu) x nx, i < xs.length → xs[i]? = some x → J i δ μ → (∀ δ2 μ2, J (i + 1) (unset δ2 tmp) μ2 → nx δ2 μ2) → wTg t x δ fun δ1 => wB body δ1 μ { nx := nx, rt := N.rt, bk := N.nx, ct := nx, ex := N.ex })
    (h0 : J 0 δ μ) (hn : ∀ δ μ, J xs.length δ μ → N.nx δ μ) : wForB stay tmp t body N xs δ μ := by
  have go : ∀ (ys : List D) (i : Nat) (δ : DE) (μ : Mu), i + ys.length = xs.length → (∀ j, ys[j]? = xs[i + j]?) → J i δ μ → wForB stay tmp t body N ys δ μ := by
    intro ys
    induction ys with
    | nil => intro i δ μ h _ j; exact ⟨hs _ _ _ j, hn _ _ (by simpa [← h] using j)⟩
    | cons y ys ih =>
      intro i δ μ h hy j
      refine ⟨hs _ _ _ j, hb i δ μ y _ (by rw [← h, List.length_cons]; omega) (by have := hy 0; simpa using this.symm) j fun δ2 μ2 j2 => ?_⟩
      exact ih (i + 1) _ _ (by rw [← h, List.length_cons]; omega) (fun k => by have := hy (k + 1); simp at this; rw [this]; congr 1; omega) j2
  exact go xs 0 δ μ (by simp) (fun j => by simp) h0

/-- behind a def: what is wanted of its answer -/
def start1 (N : List Str) (ds : List D) : DE := ds.map some ++ List.replicate (N.length - ds.length) none
@[simp] theorem start1_ (N : List Str) (ds : List D) : start1 N ds = ds.map some ++ List.replicate (N.length - ds.length) none := rfl
def endsG (R : Post) (E : XPost) : DEnds := { nx := fun _ μ => ∃ μ2, Sub μ2 μ ∧ R .non μ2, rt := fun d μ => ∃ μ2, Sub μ2 μ ∧ R d μ2, bk := fun _ _ => False, ct := fun _ _ => False, ex := E }
@[simp] theorem eg_nx (R : Post) (E : XPost) : (endsG R E).nx = fun _ μ => ∃ μ2, Sub μ2 μ ∧ R .non μ2 := rfl
@[simp] theorem eg_rt (R : Post) (E : XPost) : (endsG R E).rt = fun d μ => ∃ μ2, Sub μ2 μ ∧ R d μ2 := rfl
@[simp] theorem eg_ex (R : Post) (E : XPost) : (endsG R E).ex = E := rfl
def Keeps (N : List Str) (ir : List IS) (sp : Spec) : Prop := ∀ ds μ R E, sp ds μ R E → wB ir (start1 N ds) μ (endsG R E)
/-- the rest of a body, not yet looked at -/
def wR (ss : List IS) (δ : DE) (μ : Mu) (N : DEnds) : Prop := wB ss δ μ N
theorem step {s : IS} {ss : List IS} {δ : DE} {μ : Mu} {N : DEnds} (h : wS s δ μ { N with nx := fun δ1 μ1 => wR ss δ1 μ1 N }) : wB (s :: ss) δ μ N := by rw [B2]; exact h
theorem rt_ok {R : Post} {μ : Mu} {d : D} (h : R d μ) : ∃ μ2, Sub μ2 μ ∧ R d μ2 := ⟨μ, Sub.refl μ, h⟩
end Tf

set_option linter.all false
namespace Tf
/-! ### tables of truth values, runs: plain mathematics -/
abbrev Rn := Int × Int
def bi (b : Bool) : Int := if b then 1 else 0
theorem bi_inj {a b : Bool} (h : bi a = bi b) : a = b := by cases a <;> cases b <;> simp_all [bi]
def ex : List Rn → List Bool
  | [] => []
  | r :: rs => List.replicate r.2.toNat (r.1 == 1) ++ ex rs
def Good (rs : List Rn) : Prop := ∀ r ∈ rs, (r.1 = 0 ∨ r.1 = 1) ∧ 0 ≤ r.2
theorem Good.nil : Good [] := by simp [Good]
theorem Good.cons {r : Rn} {rs : List Rn} (h1 : r.1 = 0 ∨ r.1 = 1) (h2 : 0 ≤ r.2) (h : Good rs) : Good (r :: rs) := by
  intro x hx
  rcases List.mem_cons.mp hx with rfl | hx
  · exact ⟨h1, h2⟩
  · exact h x hx
theorem Good.tail {r : Rn} {rs : List Rn} (h : Good (r :: rs)) : Good rs := fun x hx => h x (by simp [hx])
theorem Good.app {a b : List Rn} (h : Good a) (g : Good b) : Good (a ++ b) := fun x hx => by
  rcases List.mem_append.mp hx with q | q
  · exact h x q
  · exact g x q
theorem ex_app (a b : List Rn) : ex (a ++ b) = ex a ++ ex b := by
  induction a with
  | nil => rfl
  | cons r a ih => simp [ex, ih, List.append_assoc]
theorem ex_one (r : Rn) : ex [r] = List.replicate r.2.toNat (r.1 == 1) := by simp [ex]
/-- runs by turns, none empty -/
def Canon : List Rn → Prop
  | [] => True
  | [r] => (r.1 = 0 ∨ r.1 = 1) ∧ 0 < r.2
  | r :: s :: rs => ((r.1 = 0 ∨ r.1 = 1) ∧ 0 < r.2) ∧ r.1 ≠ s.1 ∧ Canon (s :: rs)
theorem Canon.head {r : Rn} {rs : List Rn} (h : Canon (r :: rs)) : (r.1 = 0 ∨ r.1 = 1) ∧ 0 < r.2 := by
  cases rs with
  | nil => exact h
  | cons s rs => exact h.1
theorem Canon.tail {r : Rn} {rs : List Rn} (h : Canon (r :: rs)) : Canon rs := by
  cases rs with
  | nil => trivial
  | cons s rs => exact h.2.2
theorem Canon.good : ∀ {rs : List Rn}, Canon rs → Good rs
  | [], _ => Good.nil
  | r :: rs, h => Good.cons h.head.1 (Int.le_of_lt h.head.2) h.tail.good
theorem Canon.pos : ∀ {rs : List Rn}, Canon rs → ∀ r ∈ rs, 0 < r.2
  | [], _ => by simp
  | r :: rs, h => fun x hx => by
    rcases List.mem_cons.mp hx with rfl | hx
    · exact h.head.2
    · exact h.tail.pos x hx
theorem Canon.cons {r : Rn} {rs : List Rn} (h1 : r.1 = 0 ∨ r.1 = 1) (h2 : 0 < r.2) (h : Canon rs) (h3 : ∀ s, rs.head? = some s → r.1 ≠ s.1) : Canon (r :: rs) := by
  cases rs with
  | nil => exact ⟨h1, h2⟩
  | cons s rs => exact ⟨⟨h1, h2⟩, h3 s rfl, h⟩
theorem Canon.ne {r s : Rn} {rs : List Rn} (h : Canon (r :: s :: rs)) : r.1 ≠ s.1 := h.2.1
theorem Canon.snoc : ∀ {rs : List Rn} {r : Rn}, Canon rs → (r.1 = 0 ∨ r.1 = 1) → 0 < r.2 → (∀ s, rs.getLast? = some s → s.1 ≠ r.1) → Canon (rs ++ [r])
  | [], r, _, h1, h2, _ => ⟨h1, h2⟩
  | [s], r, h, h1, h2, h3 => ⟨h, h3 s rfl, h1, h2⟩
  | s :: t :: rs, r, h, h1, h2, h3 => ⟨h.1, h.2.1, Canon.snoc (rs := t :: rs) h.2.2 h1 h2 fun u hu => h3 u (by simpa using hu)⟩
theorem Canon.reverse : ∀ {rs : List Rn}, Canon rs → Canon rs.reverse
  | [], _ => trivial
  | r :: rs, h => by
    rw [List.reverse_cons]
    refine Canon.snoc h.tail.reverse h.head.1 h.head.2 fun s hs => ?_
    rw [List.getLast?_reverse] at hs
    cases rs with
    | nil => cases hs
    | cons t rs =>
      simp at hs
      subst hs
      exact fun e => h.ne e.symm
theorem Canon.turned : ∀ {rs : List Rn}, Canon rs → Canon (rs.map fun r => (1 - r.1, r.2))
  | [], _ => trivial
  | [r], h => ⟨by have := h.1; simp; omega, h.2⟩
  | r :: s :: rs, h => ⟨⟨by have := h.1.1; simp; omega, h.1.2⟩, by have := h.2.1; simp; omega, Canon.turned (rs := s :: rs) h.2.2⟩
/-- the runs of a row -/
def rle : List Bool → List Rn
  | [] => []
  | b :: l => match rle l with
    | [] => [(bi b, 1)]
    | (c, k) :: r => if c = bi b then (c, k + 1) :: r else (bi b, 1) :: (c, k) :: r
theorem bi_or (b : Bool) : bi b = 0 ∨ bi b = 1 := by cases b <;> simp [bi]
theorem bi_eq (b : Bool) : (bi b == 1) = b := by cases b <;> simp [bi]
theorem rle_canon : ∀ l : List Bool, Canon (rle l)
  | [] => trivial
  | b :: l => by
    have h := rle_canon l
    rw [rle]
    split
    · exact ⟨bi_or b, Int.zero_lt_one⟩
    · rename_i c k r e
      rw [e] at h
      split
      · rename_i hc
        exact Canon.cons h.head.1 (by have := h.head.2; simp at this ⊢; omega) h.tail fun s hs => by
          cases r with
          | nil => cases hs
          | cons t r => simp at hs; subst hs; exact h.ne
      · rename_i hc
        exact ⟨⟨bi_or b, Int.zero_lt_one⟩, fun e => hc e.symm, h⟩
theorem ex_rle : ∀ l : List Bool, ex (rle l) = l
  | [] => rfl
  | b :: l => by
    have h := ex_rle l
    have hc := rle_canon l
    rw [rle]
    split
    · rename_i e
      rw [e] at h
      rw [← h]
      simp [ex, bi_eq]
    · rename_i c k r e
      rw [e] at h hc
      have hk := hc.head.2
      simp at hk
      split
      · rename_i hb
        have : (k + 1).toNat = k.toNat + 1 := by omega
        rw [← h]
        simp [ex, this, List.replicate_succ, hb, bi_eq]
      · rw [← h]
        simp [ex, bi_eq]
theorem ex_head {rs : List Rn} (h : Canon rs) : (ex rs).head? = rs.head?.map fun r => r.1 == 1 := by
  cases rs with
  | nil => rfl
  | cons r rs =>
    have := h.head.2
    obtain ⟨k, hk⟩ : ∃ k, r.2.toNat = k + 1 := ⟨r.2.toNat - 1, by omega⟩
    simp [ex, hk, List.replicate_succ]
theorem rle_rep {b : Bool} {l : List Bool} (h : l.head? ≠ some b) : ∀ k : Nat, rle (List.replicate (k + 1) b ++ l) = (bi b, (k : Int) + 1) :: rle l
  | 0 => by
    have c := rle_canon l
    have e := ex_head c
    rw [ex_rle] at e
    simp [List.replicate, rle]
    split
    · rename_i e'; rw [e']
    · rename_i c' k r e'
      rw [e'] at e c
      simp at e
      have hn : c' ≠ bi b := fun z => by
        subst z
        rw [bi_eq] at e
        exact h e
      simp [hn, e']
  | k + 1 => by
    rw [List.replicate_succ, List.cons_append, rle, rle_rep h k]
    simp
/-- runs by turns are the runs of their row -/
theorem canon_eq : ∀ {rs : List Rn}, Canon rs → rs = rle (ex rs)
  | [], _ => rfl
  | r :: rs, h => by
    obtain ⟨b, n⟩ := r
    have hp := h.head.2
    have hb := h.head.1
    simp at hp hb
    obtain ⟨k, hk⟩ : ∃ k, n.toNat = k + 1 := ⟨n.toNat - 1, by omega⟩
    have e : b = bi (b == 1) := by rcases hb with rfl | rfl <;> rfl
    have hh : (ex rs).head? ≠ some (b == 1) := by
      rw [ex_head h.tail]
      cases rs with
      | nil => simp
      | cons s rs =>
        have hn := h.ne
        have hs := h.tail.head.1
        simp at hn hs ⊢
        rcases hb with rfl | rfl <;> rcases hs with q | q <;> simp [q] at hn ⊢
    show _ = rle (List.replicate n.toNat (b == 1) ++ ex rs)
    rw [hk, rle_rep hh k, ← canon_eq h.tail, ← e]
    congr 2
    omega
theorem canon_uniq {a b : List Rn} (ha : Canon a) (hb : Canon b) (h : ex a = ex b) : a = b := by rw [canon_eq ha, canon_eq hb, h]
theorem rle_inj {a b : List Bool} (h : rle a = rle b) : a = b := by rw [← ex_rle a, ← ex_rle b, h]
/-! put together -/
/-- the last one stands first -/
def pt1 : List Rn → Rn → List Rn
  | [], r => if 0 < r.2 then [r] else []
  | (b, k) :: a, (c, n) => if b = c then (if 0 < k + n then (c, n + k) :: a else a) else if 0 < n then (c, n) :: (b, k) :: a else (b, k) :: a
theorem pt1_ok {a : List Rn} {r : Rn} (h : Canon a) (h1 : r.1 = 0 ∨ r.1 = 1) (h2 : 0 ≤ r.2) : Canon (pt1 a r) ∧ ex (pt1 a r).reverse = ex a.reverse ++ List.replicate r.2.toNat (r.1 == 1) := by
  obtain ⟨c, n⟩ := r
  simp at h1 h2
  cases a with
  | nil =>
    rw [pt1]
    split
    · exact ⟨⟨h1, by assumption⟩, by simp [ex]⟩
    · have : n.toNat = 0 := by rename_i q; simp at q; omega
      exact ⟨trivial, by simp [ex, this]⟩
  | cons s a =>
    obtain ⟨b, k⟩ := s
    have hk := h.head.2
    simp at hk
    rw [pt1]
    split
    · rename_i e
      subst e
      rw [if_pos (by omega)]
      refine ⟨Canon.cons h1 (by simp; omega) h.tail fun s hs => ?_, ?_⟩
      · cases a with
        | nil => cases hs
        | cons t a => simp at hs; subst hs; exact h.ne
      · have : (n + k).toNat = k.toNat + n.toNat := by omega
        rw [List.reverse_cons, List.reverse_cons, ex_app, ex_app, List.append_assoc, ex_one, ex_one]
        simp only [this]
        rw [← List.replicate_append_replicate]
    · rename_i e
      split
      · rename_i hn
        refine ⟨⟨⟨h1, hn⟩, fun z => e z.symm, h⟩, ?_⟩
        rw [List.reverse_cons, ex_app, ex_one]
      · have : n.toNat = 0 := by omega
        exact ⟨h, by simp [this]⟩
def ptR (a rs : List Rn) : List Rn := rs.foldl pt1 a
theorem ptR_ok : ∀ (rs : List Rn) {a : List Rn}, Canon a → Good rs → Canon (ptR a rs) ∧ ex (ptR a rs).reverse = ex a.reverse ++ ex rs
  | [], a, h, _ => ⟨h, by simp [ptR, ex]⟩
  | r :: rs, a, h, g => by
    have q := pt1_ok h (g r (by simp)).1 (g r (by simp)).2
    have i := ptR_ok rs q.1 g.tail
    exact ⟨i.1, by show ex (ptR (pt1 a r) rs).reverse = _; rw [i.2, q.2, List.append_assoc]; rfl⟩
theorem pt_ok {rs : List Rn} (g : Good rs) : (ptR [] rs).reverse = rle (ex rs) := by
  have q := ptR_ok rs (a := []) trivial g
  rw [canon_eq q.1.reverse, q.2]
  rfl
theorem pt1_len (a : List Rn) (r : Rn) : (pt1 a r).length ≤ a.length + 1 := by
  obtain ⟨c, n⟩ := r
  cases a with
  | nil => rw [pt1]; split <;> simp
  | cons s a =>
    obtain ⟨b, k⟩ := s
    rw [pt1]
    split
    · split <;> simp; omega
    · split <;> simp
/-! how many runs -/
def nr (l : List Bool) : Nat := (rle l).length
theorem ptR_len : ∀ (rs a : List Rn), (ptR a rs).length ≤ a.length + rs.length
  | [], a => by simp [ptR]
  | r :: rs, a => by
    have := pt1_len a r
    have := ptR_len rs (pt1 a r)
    show (ptR (pt1 a r) rs).length ≤ _
    simp
    omega
theorem nr_ex {rs : List Rn} (g : Good rs) : nr (ex rs) ≤ rs.length := by
  have := ptR_len rs []
  unfold nr
  rw [← pt_ok g]
  simpa using this
theorem nr_append (a b : List Bool) : nr (a ++ b) ≤ nr a + nr b := by
  have h : Good (rle a ++ rle b) := (rle_canon a).good.app (rle_canon b).good
  have := nr_ex h
  rw [ex_app, ex_rle, ex_rle] at this
  simpa [nr] using this
theorem rle_reverse (l : List Bool) : rle l.reverse = (rle l).reverse := by
  refine canon_uniq (rle_canon _) (rle_canon l).reverse ?_
  rw [ex_rle]
  have : ∀ rs : List Rn, ex rs.reverse = (ex rs).reverse := by
    intro rs
    induction rs with
    | nil => rfl
    | cons r rs ih => simp [ex_app, ex, ih]
  rw [this, ex_rle]
theorem rle_not (l : List Bool) : rle (l.map not) = (rle l).map fun r => (1 - r.1, r.2) := by
  refine canon_uniq (rle_canon _) (rle_canon l).turned ?_
  rw [ex_rle]
  have : ∀ rs : List Rn, Good rs → ex (rs.map fun r => (1 - r.1, r.2)) = (ex rs).map not := by
    intro rs
    induction rs with
    | nil => intro _; rfl
    | cons r rs ih =>
      intro h
      have h1 := (h r (by simp)).1
      simp [ex, ih h.tail]
      right
      rcases h1 with q | q <;> simp [q]
  rw [this _ (rle_canon l).good, ex_rle]
theorem nr_reverse (l : List Bool) : nr l.reverse = nr l := by simp [nr, rle_reverse]
theorem nr_not (l : List Bool) : nr (l.map not) = nr l := by simp [nr, rle_not]
theorem nr_le (l : List Bool) : nr l ≤ l.length := by
  induction l with
  | nil => simp [nr, rle]
  | cons b l ih =>
    unfold nr at *
    rw [rle]
    split
    · simp
    · rename_i e
      rw [e] at ih
      split
      · simp at *; omega
      · simp at *; omega
/-! cut -/
def cutOn (first many : Int) : Int → List Rn → List Rn
  | _, [] => []
  | begin, r :: rs =>
    let low := if begin < first then first else begin
    let high := if begin + r.2 > first + many then first + many else begin + r.2
    (r.1, if high - low > 0 then high - low else 0) :: cutOn first many (begin + r.2) rs
theorem cutOn_good {first many : Int} : ∀ {rs : List Rn} {begin : Int}, Good rs → Good (cutOn first many begin rs)
  | [], _, _ => Good.nil
  | r :: rs, b, h => by
    rw [cutOn]
    exact Good.cons (h r (by simp)).1 (by simp only; split <;> omega) (cutOn_good h.tail)
theorem cutOn_len {first many : Int} : ∀ (rs : List Rn) (begin : Int), (cutOn first many begin rs).length = rs.length
  | [], _ => rfl
  | r :: rs, b => by simp [cutOn, cutOn_len rs]
theorem cutOn_ex {first many : Int} (hm : 0 ≤ many) : ∀ {rs : List Rn} {begin : Int}, Good rs → ex (cutOn first many begin rs) = ((ex rs).take (first + many - begin).toNat).drop (first - begin).toNat
  | [], _, _ => by simp [cutOn, ex]
  | r :: rs, b, h => by
    have hr := (h r (by simp)).2
    have i := cutOn_ex hm (first := first) (rs := rs) (begin := b + r.2) h.tail
    rw [cutOn]
    simp only [ex]
    rw [i, List.take_append, List.drop_append, List.take_replicate, List.drop_replicate, List.length_replicate, List.length_replicate]
    congr 1
    · congr 1
      split <;> split <;> split <;> omega
    · congr 1
      · omega
      · congr 1; omega
theorem cut_ok {l : List Bool} {first many : Int} (h1 : 0 ≤ first) (h2 : 0 ≤ many) : ex (cutOn first many 0 (rle l)) = (l.drop first.toNat).take many.toNat := by
  rw [cutOn_ex h2 (rle_canon l).good, ex_rle, List.drop_take]
  congr 1
  · omega
  · simp
theorem nr_cut (l : List Bool) (a b : Nat) : nr ((l.drop a).take b) ≤ nr l := by
  have h := nr_ex (cutOn_good (first := a) (many := b) (begin := 0) (rle_canon l).good)
  rw [cut_ok (by omega) (by omega), cutOn_len] at h
  simpa [nr] using h
/-! sums -/
def lens (rs : List Rn) : List Int := rs.map (·.2)
theorem len_ex : ∀ {rs : List Rn}, Good rs → ((ex rs).length : Int) = (lens rs).sum
  | [], _ => rfl
  | r :: rs, h => by
    have := (h r (by simp)).2
    simp [ex, lens, len_ex h.tail]
    have i := len_ex h.tail
    simp [lens] at i
    omega
theorem len_rle (l : List Bool) : (lens (rle l)).sum = l.length := by rw [← len_ex (rle_canon l).good, ex_rle]
/-- how many true ones -/
def ct (l : List Bool) : Int := (l.count true : Nat)
def ones (rs : List Rn) : Int := (rs.filterMap fun r => if r.1 = 1 then some r.2 else none).sum
theorem ct_app (a b : List Bool) : ct (a ++ b) = ct a + ct b := by simp [ct]
theorem ones_ex : ∀ {rs : List Rn}, Good rs → ones rs = ct (ex rs)
  | [], _ => rfl
  | r :: rs, h => by
    have i := ones_ex h.tail
    obtain ⟨h1, h2⟩ := h r (by simp)
    simp only [ex]
    rw [ct_app, ← i]
    unfold ones ct
    rcases h1 with q | q <;> simp [q, List.count_replicate] <;> omega
end Tf

set_option linter.all false
namespace Tf
/-! ### pairs of raised stretches -/
def placeOn (size place : Int) (right : Bool) (many : Int) : Int := if right then (place + many) % size else (place - many) % size
def flagUp (ps : List (Int × Int)) (x : Int) : Bool := ps.any fun p => decide (p.1 ≤ x) && decide (x < p.2)
theorem up_nil (x : Int) : flagUp [] x = false := rfl
theorem up_cons (p : Int × Int) (ps : List (Int × Int)) (x : Int) : flagUp (p :: ps) x = (decide (p.1 ≤ x ∧ x < p.2) || flagUp ps x) := by simp [flagUp]
def prsOn : Int → List Rn → List (Int × Int)
  | _, [] => []
  | p, r :: rs => if r.1 = 1 then (p, p + r.2) :: prsOn (p + r.2) rs else prsOn (p + r.2) rs
def prs (l : List Bool) : List (Int × Int) := prsOn 0 (rle l)
theorem up_prsOn : ∀ {rs : List Rn} (p x : Int), Good rs → flagUp (prsOn p rs) x = (decide (p ≤ x) && (ex rs)[(x - p).toNat]?.getD false)
  | [], p, x, _ => by simp [prsOn, ex, up_nil]
  | r :: rs, p, x, h => by
    obtain ⟨h1, h2⟩ := h r (by simp)
    have i := up_prsOn (p + r.2) x h.tail
    simp only [prsOn, ex]
    by_cases hx : p ≤ x
    · by_cases hk : x < p + r.2
      · have e0 : (List.replicate r.2.toNat (r.1 == 1) ++ ex rs)[(x - p).toNat]? = some (r.1 == 1) := by
          rw [List.getElem?_append_left (by simp; omega), List.getElem?_replicate, if_pos (by omega)]
        rw [e0]
        rcases h1 with q | q
        · have q' : ¬ r.1 = 1 := by omega
          rw [if_neg q', i]
          simp [q]
          omega
        · rw [if_pos q, up_cons, i]
          simp [q, hx, hk]
      · rw [List.getElem?_append_right (by simp; omega)]
        have e : (x - p).toNat - (List.replicate r.2.toNat (r.1 == 1)).length = (x - (p + r.2)).toNat := by simp; omega
        rw [e]
        have d1 : decide (p + r.2 ≤ x) = true := by simp; omega
        have d2 : decide (p ≤ x) = true := by simpa using hx
        rw [d1] at i
        split
        · rw [up_cons, i]; simp [d2]; intro; omega
        · rw [i, d2]
    · have d1 : decide (p + r.2 ≤ x) = false := by simp; omega
      have d2 : decide (p ≤ x) = false := by simpa using hx
      rw [d1] at i
      rw [d2]
      split
      · rw [up_cons, i]; simp; omega
      · rw [i]; rfl
theorem up_prs (l : List Bool) (x : Int) : flagUp (prs l) x = (decide (0 ≤ x) && l[x.toNat]?.getD false) := by
  unfold prs
  rw [up_prsOn 0 x (rle_canon l).good, ex_rle]
  simp
theorem prsOn_len : ∀ (p : Int) (rs : List Rn), (prsOn p rs).length ≤ rs.length
  | _, [] => by simp [prsOn]
  | p, r :: rs => by
    have := prsOn_len (p + r.2) rs
    rw [prsOn]
    split <;> simp <;> omega
theorem prs_len (l : List Bool) : (prs l).length ≤ nr l := prsOn_len 0 (rle l)
/-! the runs of pairs -/
def ronOn : Int → List (Int × Int) → List Rn
  | _, [] => []
  | e, p :: ps => (0, p.1 - e) :: (1, p.2 - p.1) :: ronOn p.2 ps
def lastEnd : Int → List (Int × Int) → Int
  | e, [] => e
  | _, p :: ps => lastEnd p.2 ps
def sumL (rs : List Rn) : Int := (lens rs).sum
theorem sumL_cons (r : Rn) (rs : List Rn) : sumL (r :: rs) = r.2 + sumL rs := by simp [sumL, lens]
theorem sumL_nn : ∀ {rs : List Rn}, Good rs → 0 ≤ sumL rs
  | [], _ => by simp [sumL, lens]
  | r :: rs, h => by rw [sumL_cons]; have := (h r (by simp)).2; have := sumL_nn h.tail; omega
theorem ron_ok : ∀ {rs : List Rn} (e p : Int), Good rs → e ≤ p → Good (ronOn e (prsOn p rs) ++ [(0, p + sumL rs - lastEnd e (prsOn p rs))]) ∧ ex (ronOn e (prsOn p rs) ++ [(0, p + sumL rs - lastEnd e (prsOn p rs))]) = List.replicate (p - e).toNat false ++ ex rs
  | [], e, p, _, h => by
    simp only [prsOn, ronOn, lastEnd, ex, sumL, lens, List.nil_append, List.map_nil, List.sum_nil, Int.add_zero, List.append_nil]
    refine ⟨Good.cons (.inl rfl) (by simp; omega) Good.nil, rfl⟩
  | r :: rs, e, p, h, he => by
    obtain ⟨h1, h2⟩ := h r (by simp)
    rw [sumL_cons, prsOn]
    have es : p + (r.2 + sumL rs) = p + r.2 + sumL rs := by omega
    rw [es]
    split
    · rename_i q
      obtain ⟨i1, i2⟩ := ron_ok (p + r.2) (p + r.2) h.tail (Int.le_refl _)
      simp only [ronOn, lastEnd, List.cons_append]
      refine ⟨Good.cons (.inl rfl) (by simp; omega) (Good.cons (.inr rfl) (by simp; omega) i1), ?_⟩
      simp only [ex]
      rw [i2]
      have e1 : p + r.2 - p = r.2 := by omega
      simp [q, e1]
    · rename_i q
      have q0 : r.1 = 0 := by omega
      obtain ⟨i1, i2⟩ := ron_ok e (p + r.2) h.tail (by omega)
      refine ⟨i1, ?_⟩
      rw [i2]
      have e1 : (p + r.2 - e).toNat = (p - e).toNat + r.2.toNat := by omega
      rw [e1, ← List.replicate_append_replicate, List.append_assoc]
      simp [ex, q0]
theorem ron_len : ∀ (e : Int) (ps : List (Int × Int)), (ronOn e ps).length = 2 * ps.length
  | _, [] => rfl
  | e, p :: ps => by simp [ronOn, ron_len p.2 ps]; omega
/-- the runs of a state's pairs -/
theorem runs_prs (l : List Bool) : Good (ronOn 0 (prs l) ++ [(0, l.length - lastEnd 0 (prs l))]) ∧ ex (ronOn 0 (prs l) ++ [(0, l.length - lastEnd 0 (prs l))]) = l := by
  have h := ron_ok 0 0 (rle_canon l).good (Int.le_refl _)
  have e : sumL (rle l) = l.length := len_rle l
  rw [e, ex_rle] at h
  simpa [prs] using h
/-! pairs in order -/
def Norm : Int → Int → List (Int × Int) → Prop
  | _, _, [] => True
  | lo, n, p :: ps => lo ≤ p.1 ∧ p.1 < p.2 ∧ p.2 ≤ n ∧ Norm (p.2 + 1) n ps
theorem Norm.low : ∀ {ps : List (Int × Int)} {lo n x : Int}, Norm lo n ps → x < lo → flagUp ps x = false
  | [], _, _, _, _, _ => rfl
  | p :: ps, lo, n, x, h, hx => by
    rw [up_cons, Norm.low h.2.2.2 (by have := h.1; have := h.2.1; omega)]
    have := h.1
    simp; omega
theorem Norm.uniq : ∀ {a b : List (Int × Int)} {lo n : Int}, Norm lo n a → Norm lo n b → (∀ x, lo ≤ x → x < n → flagUp a x = flagUp b x) → a = b
  | [], [], _, _, _, _, _ => rfl
  | [], p :: ps, lo, n, _, h, e => by
    have := e p.1 h.1 (by have := h.2.1; have := h.2.2.1; omega)
    rw [up_cons, up_nil] at this
    have := h.2.1
    simp_all
  | p :: ps, [], lo, n, h, _, e => by
    have := e p.1 h.1 (by have := h.2.1; have := h.2.2.1; omega)
    rw [up_cons, up_nil] at this
    have := h.2.1
    simp_all
  | p :: ps, q :: qs, lo, n, h, g, e => by
    obtain ⟨p1, p2⟩ := p
    obtain ⟨q1, q2⟩ := q
    obtain ⟨h1, h2, h3, h4⟩ := h
    obtain ⟨g1, g2, g3, g4⟩ := g
    simp only at h1 h2 h3 h4 g1 g2 g3 g4
    have e1 : p1 = q1 := by
      rcases Int.lt_trichotomy p1 q1 with z | z | z
      · have := e p1 h1 (by omega)
        rw [up_cons, up_cons, g4.low (x := p1) (by omega)] at this
        have d : decide (p1 ≤ p1 ∧ p1 < p2) = true := by simp; omega
        have d2 : decide (q1 ≤ p1 ∧ p1 < q2) = false := by simp; omega
        simp only [d, d2] at this
        simp at this
      · exact z
      · have := e q1 g1 (by omega)
        rw [up_cons, up_cons, h4.low (x := q1) (by omega)] at this
        have d : decide (q1 ≤ q1 ∧ q1 < q2) = true := by simp; omega
        have d2 : decide (p1 ≤ q1 ∧ q1 < p2) = false := by simp; omega
        simp only [d, d2] at this
        simp at this
    subst e1
    have e2 : p2 = q2 := by
      rcases Int.lt_trichotomy p2 q2 with z | z | z
      · have := e p2 (by omega) (by omega)
        rw [up_cons, up_cons, h4.low (x := p2) (by omega)] at this
        simp at this
        omega
      · exact z
      · have := e q2 (by omega) (by omega)
        rw [up_cons, up_cons, g4.low (x := q2) (by omega)] at this
        simp at this
        omega
    subst e2
    congr 1
    refine Norm.uniq h4 g4 fun x hx hn => ?_
    have := e x (by omega) hn
    rw [up_cons, up_cons] at this
    have d : decide (p1 ≤ x ∧ x < p2) = false := by simp; omega
    simpa [d] using this
theorem norm_prsOn : ∀ {rs : List Rn} {lo p n : Int}, Canon rs → p + sumL rs = n → (∀ r, rs.head? = some r → if r.1 = 1 then lo ≤ p else lo ≤ p + 1) → Norm lo n (prsOn p rs)
  | [], _, _, _, _, _, _ => trivial
  | r :: rs, lo, p, n, h, hn, hl => by
    have h1 := h.head
    have hl := hl r rfl
    rw [sumL_cons] at hn
    have s0 := sumL_nn h.tail.good
    rw [prsOn]
    split
    · rename_i q
      rw [if_pos q] at hl
      refine ⟨hl, by simp; omega, by simp; omega, norm_prsOn h.tail (by omega) fun s hs => ?_⟩
      cases rs with
      | nil => cases hs
      | cons t rs =>
        simp at hs
        subst hs
        have := h.ne
        rw [if_neg (by omega)]
        simp
    · rename_i q
      rw [if_neg q] at hl
      refine norm_prsOn h.tail (by omega) fun s hs => ?_
      split <;> omega
theorem norm_prs (l : List Bool) : Norm 0 l.length (prs l) := norm_prsOn (rle_canon l) (by have e : sumL (rle l) = l.length := len_rle l; omega) fun r _ => by split <;> omega
/-! ### tables -/
def tab (n : Nat) (f : Int → Bool) : List Bool := (List.range n).map fun i => f (i : Nat)
theorem tab_len (n : Nat) (f : Int → Bool) : (tab n f).length = n := by simp [tab]
theorem tab_get {n : Nat} {f : Int → Bool} {i : Nat} (h : i < n) : (tab n f)[i]? = some (f i) := by simp [tab, h]
theorem tab_ext {n : Nat} {f g : Int → Bool} (h : ∀ i : Int, 0 ≤ i → i < n → f i = g i) : tab n f = tab n g := by
  refine List.map_congr_left fun i hi => h i (by omega) ?_
  have := List.mem_range.mp hi
  omega
theorem tab_of {l : List Bool} {n : Nat} {f : Int → Bool} (h : l.length = n) (g : ∀ i : Nat, i < n → l[i]? = some (f i)) : l = tab n f := by
  refine List.ext_getElem? fun i => ?_
  by_cases hi : i < n
  · rw [g i hi, tab_get hi]
  · rw [List.getElem?_eq_none (by omega), List.getElem?_eq_none (by rw [tab_len]; omega)]
theorem tab_drop (n : Nat) (f : Int → Bool) (k : Nat) : (tab n f).drop k = tab (n - k) fun i => f (i + k) := by
  refine tab_of (by simp [tab_len]) fun i hi => ?_
  rw [List.getElem?_drop, tab_get (by omega)]
  congr 2
  omega
theorem tab_take (n : Nat) (f : Int → Bool) (k : Nat) (h : k ≤ n) : (tab n f).take k = tab k f := by
  refine tab_of (by simp [tab_len]; omega) fun i hi => ?_
  rw [List.getElem?_take, if_pos hi, tab_get (by omega)]
theorem tab_append (a b : Nat) (f g : Int → Bool) : tab a f ++ tab b g = tab (a + b) fun i => if i < a then f i else g (i - a) := by
  refine tab_of (by simp [tab_len]) fun i hi => ?_
  by_cases h : i < a
  · rw [List.getElem?_append_left (by rw [tab_len]; exact h), tab_get h, if_pos (by omega)]
  · rw [List.getElem?_append_right (by rw [tab_len]; omega), tab_len, tab_get (by omega), if_neg (by omega)]
    congr 2
    omega
theorem tab_reverse (n : Nat) (f : Int → Bool) : (tab n f).reverse = tab n fun i => f (n - 1 - i) := by
  refine tab_of (by simp [tab_len]) fun i hi => ?_
  rw [List.getElem?_reverse (by rw [tab_len]; exact hi), tab_len, tab_get (by omega)]
  congr 2
  omega
theorem tab_not (n : Nat) (f : Int → Bool) : (tab n f).map not = tab n fun i => !f i := by simp [tab]
theorem tab_cons (b : Bool) (n : Nat) (f : Int → Bool) : b :: tab n f = tab (n + 1) fun i => if i = 0 then b else f (i - 1) := by
  refine tab_of (by simp [tab_len]) fun i hi => ?_
  cases i with
  | zero => simp
  | succ i =>
    rw [List.getElem?_cons_succ, tab_get (by omega)]
    rw [if_neg (by omega)]
    congr 2
    omega
theorem tab_one (b : Bool) : [b] = tab 1 fun _ => b := by simp [tab]
theorem tab_list (l : List Bool) : l = tab l.length fun i => l[i.toNat]?.getD false := tab_of rfl fun i hi => by simp [hi]
theorem up_tab {n : Nat} {f : Int → Bool} {x : Int} (h0 : 0 ≤ x) (h : x < n) : flagUp (prs (tab n f)) x = f x := by
  rw [up_prs, tab_get (by omega)]
  simp [h0]
  congr 1
  omega
theorem prs_norm {n : Nat} {ps : List (Int × Int)} (h : Norm 0 n ps) : ps = prs (tab n (flagUp ps)) := by
  refine Norm.uniq h (by have := norm_prs (tab n (flagUp ps)); rwa [tab_len] at this) fun x h0 hn => ?_
  rw [up_tab h0 hn]
/-! counts -/
def cn (f : Int → Bool) : Nat → Int
  | 0 => 0
  | k + 1 => cn f k + bi (f k)
theorem ct_tab (f : Int → Bool) : ∀ k : Nat, ct (tab k f) = cn f k
  | 0 => rfl
  | k + 1 => by
    have : tab (k + 1) f = tab k f ++ [f k] := by simp [tab, List.range_succ]
    rw [this, ct_app, ct_tab f k, cn]
    congr 1
    cases f k <;> rfl
theorem cn_ext {f g : Int → Bool} : ∀ {k : Nat}, (∀ i : Nat, i < k → f i = g i) → cn f k = cn g k
  | 0, _ => rfl
  | k + 1, h => by rw [cn, cn, cn_ext fun i hi => h i (by omega), h k (by omega)]
theorem cn_not (f : Int → Bool) : ∀ k : Nat, cn (fun i => !f i) k = k - cn f k
  | 0 => rfl
  | k + 1 => by
    rw [cn, cn, cn_not f k]
    cases f k <;> simp [bi] <;> omega
theorem cn_add (f : Int → Bool) (a : Nat) : ∀ k : Nat, cn f (a + k) = cn f a + cn (fun i => f (a + i)) k
  | 0 => by simp [cn]
  | k + 1 => by
    rw [← Nat.add_assoc, cn, cn, cn_add f a k]
    have : ((a + k : Nat) : Int) = (a : Int) + k := by omega
    rw [this]
    omega
theorem cn_nn (f : Int → Bool) : ∀ k : Nat, 0 ≤ cn f k ∧ cn f k ≤ k
  | 0 => by simp [cn]
  | k + 1 => by
    have := cn_nn f k
    rw [cn]
    cases f k <;> simp [bi] <;> omega
end Tf

set_option linter.all false
namespace Tf
/-! ### what the passes find: a row that turns over after h numbers -/
def Anti (h : Nat) (a : Int → Bool) : Prop := ∀ j, a (j + h) = !a j
theorem Anti.two {h : Nat} {a : Int → Bool} (p : Anti h a) (j : Int) : a (j + 2 * h) = a j := by
  have : j + 2 * (h : Int) = j + h + h := by omega
  rw [this, p, p, Bool.not_not]
theorem per_mul {f : Int → Bool} {P : Int} (h : ∀ j, f (j + P) = f j) : ∀ (k j : Int), f (j + k * P) = f j := by
  have nat : ∀ (k : Nat) (j : Int), f (j + k * P) = f j := by
    intro k
    induction k with
    | zero => intro j; simp
    | succ k ih =>
      intro j
      have : j + ((k + 1 : Nat) : Int) * P = (j + k * P) + P := by rw [Int.natCast_add, Int.add_mul]; simp; omega
      rw [this, h, ih]
  intro k j
  rcases Int.le_total 0 k with hk | hk
  · have := nat k.toNat j
    rwa [Int.toNat_of_nonneg hk] at this
  · have := nat (-k).toNat (j + k * P)
    rw [Int.toNat_of_nonneg (by omega), Int.neg_mul] at this
    rw [← this]
    congr 1
    omega
theorem per_mod {f : Int → Bool} {P : Int} (h : ∀ j, f (j + P) = f j) (j : Int) : f (j % P) = f j := by
  have := per_mul h (j / P) (j % P)
  rw [← this]
  congr 1
  rw [Int.mul_comm]
  exact Int.emod_add_mul_ediv j P
theorem Anti.shift {h : Nat} {a : Int → Bool} (p : Anti h a) (m : Int) : Anti h fun j => a (j + m) := fun j => by
  have : j + h + m = j + m + h := by omega
  simp only [this, p (j + m)]
theorem Anti.uniq {h : Nat} {a b : Int → Bool} (h0 : 0 < h) (p : Anti h a) (q : Anti h b) (e : ∀ j : Int, 0 ≤ j → j < h → a j = b j) : a = b := by
  have e2 : ∀ j : Int, 0 ≤ j → j < 2 * h → a j = b j := fun j h1 h2 => by
    by_cases hj : j < h
    · exact e j h1 hj
    · have : j = (j - h) + h := by omega
      rw [this, p, q, e (j - h) (by omega) (by omega)]
  funext j
  rw [← per_mod p.two j, ← per_mod q.two j]
  exact e2 _ (Int.emod_nonneg _ (by omega)) (Int.emod_lt_of_pos _ (by omega))
/-- a row going on -/
def extW (h : Nat) (f : Int → Bool) : Int → Bool := fun j => xor (f (j % h)) (decide ((j / h) % 2 = 1))
theorem extW_anti {h : Nat} (h0 : 0 < h) (f : Int → Bool) : Anti h (extW h f) := fun j => by
  unfold extW
  have e1 : (j + h) % h = j % h := by simp
  have e2 : (j + h) / h = j / h + 1 := Int.add_ediv_of_dvd_right ⟨1, by simp⟩ |>.trans (by rw [Int.ediv_self (by omega)])
  rw [e1, e2]
  have : decide ((j / h + 1) % 2 = 1) = !decide ((j / h) % 2 = 1) := by
    by_cases z : (j / h) % 2 = 1
    · simp [z]; omega
    · simp [z]; omega
  rw [this]
  cases f (j % h) <;> simp
theorem extW_at {h : Nat} {f : Int → Bool} {j : Int} (h0 : 0 ≤ j) (h1 : j < h) : extW h f j = f j := by
  unfold extW
  rw [Int.emod_eq_of_lt h0 h1, Int.ediv_eq_zero_of_lt h0 h1]
  simp
theorem extW_self {h : Nat} {a : Int → Bool} (h0 : 0 < h) (p : Anti h a) : extW h a = a := Anti.uniq h0 (extW_anti h0 a) p fun j h1 h2 => extW_at h1 h2
theorem extW_congr {h : Nat} {f g : Int → Bool} (h0 : 0 < h) (e : ∀ j : Int, 0 ≤ j → j < h → f j = g j) : extW h f = extW h g := by
  refine Anti.uniq h0 (extW_anti h0 f) (extW_anti h0 g) fun j h1 h2 => ?_
  rw [extW_at h1 h2, extW_at h1 h2, e j h1 h2]
/-! how many are true -/
theorem anti_half {h : Nat} {a : Int → Bool} (p : Anti h a) (k : Nat) : cn a (h + k) = cn a h + k - cn a k := by
  rw [cn_add]
  have : cn (fun i => a (h + i)) k = cn (fun i => !a i) k := cn_ext fun i _ => by rw [Int.add_comm, p]
  rw [this, cn_not]
  omega
theorem anti_full {h : Nat} {a : Int → Bool} (p : Anti h a) : cn a (2 * h) = h := by
  rw [show 2 * h = h + h by omega, anti_half p]
  omega
/-- how many before m are true; below 0 counted off -/
def Sm (h : Nat) (a : Int → Bool) (m : Int) : Int := m / (2 * h) * h + cn a (m % (2 * h)).toNat
theorem Sm_zero (h : Nat) (a : Int → Bool) : Sm h a 0 = 0 := by simp [Sm, cn]
theorem Sm_succ {h : Nat} {a : Int → Bool} (h0 : 0 < h) (p : Anti h a) (m : Int) : Sm h a (m + 1) = Sm h a m + bi (a m) := by
  unfold Sm
  have d := Int.emod_add_mul_ediv m (2 * h)
  have r0 := Int.emod_nonneg m (show (2 * (h : Int)) ≠ 0 by omega)
  have r1 := Int.emod_lt_of_pos m (show 0 < 2 * (h : Int) by omega)
  have am : a m = a (m % (2 * h)) := (per_mod p.two m).symm
  rw [am]
  generalize m % (2 * (h : Int)) = r at *
  generalize m / (2 * (h : Int)) = q at *
  have em : m = r + 2 * h * q := by omega
  by_cases hr : r + 1 < 2 * h
  · have e1 : (m + 1) % (2 * h) = r + 1 := by
      rw [em, show r + 2 * h * q + 1 = r + 1 + 2 * h * q by omega, Int.add_mul_emod_self_left]
      exact Int.emod_eq_of_lt (by omega) hr
    have e2 : (m + 1) / (2 * h) = q := by
      rw [em, show r + 2 * h * q + 1 = r + 1 + 2 * h * q by omega, Int.add_mul_ediv_left _ _ (by omega), Int.ediv_eq_zero_of_lt (by omega) hr]
      omega
    rw [e1, e2]
    have : (r + 1).toNat = r.toNat + 1 := by omega
    rw [this, cn]
    have : ((r.toNat : Nat) : Int) = r := by omega
    rw [this]
    omega
  · have hr' : r = 2 * h - 1 := by omega
    have e0 : m + 1 = 2 * h * (q + 1) := by rw [em, Int.mul_add]; omega
    have e1 : (m + 1) % (2 * h) = 0 := by rw [e0]; simp
    have e2 : (m + 1) / (2 * h) = q + 1 := by rw [e0]; exact Int.mul_ediv_cancel_left _ (by omega)
    rw [e1, e2]
    have f := anti_full p
    have : 2 * h = r.toNat + 1 := by omega
    rw [this, cn] at f
    have : ((r.toNat : Nat) : Int) = r := by omega
    rw [this] at f
    rw [Int.add_mul]
    simp [cn]
    omega
/-- two rows of sums with the same steps -/
theorem sums_eq {F G : Int → Int} (h0 : F 0 = G 0) (hs : ∀ m, F (m + 1) - F m = G (m + 1) - G m) : ∀ m, F m = G m := by
  have up : ∀ k : Nat, F k = G k := by
    intro k
    induction k with
    | zero => exact h0
    | succ k ih => have := hs k; rw [Int.natCast_add]; simp; omega
  have dn : ∀ k : Nat, F (-(k : Int)) = G (-(k : Int)) := by
    intro k
    induction k with
    | zero => exact h0
    | succ k ih =>
      have := hs (-((k + 1 : Nat) : Int))
      have e : -((k + 1 : Nat) : Int) + 1 = -(k : Int) := by omega
      rw [e] at this
      omega
  intro m
  rcases Int.le_total 0 m with h | h
  · have := up m.toNat; rwa [Int.toNat_of_nonneg h] at this
  · have := dn (-m).toNat; rw [Int.toNat_of_nonneg (by omega)] at this; simpa using this
theorem Sm_shift {h : Nat} {a : Int → Bool} (h0 : 0 < h) (p : Anti h a) (m k : Int) : Sm h (fun j => a (j + m)) k = Sm h a (k + m) - Sm h a m := by
  refine sums_eq (F := fun k => Sm h (fun j => a (j + m)) k) (G := fun k => Sm h a (k + m) - Sm h a m) ?_ (fun k => ?_) k
  · simp [Sm_zero]
  · simp only [Sm_succ h0 (p.shift m)]
    have : k + 1 + m = k + m + 1 := by omega
    rw [this, Sm_succ h0 p]
    omega
theorem Sm_nat {h : Nat} {a : Int → Bool} (h0 : 0 < h) (p : Anti h a) : ∀ k : Nat, Sm h a k = cn a k
  | 0 => by simp [Sm_zero, cn]
  | k + 1 => by rw [Int.natCast_add]; simp [Sm_succ h0 p, Sm_nat h0 p k, cn]
theorem Sm_half {h : Nat} {a : Int → Bool} (h0 : 0 < h) (p : Anti h a) (m : Int) : Sm h a (m + 2 * h) = Sm h a m + h := by
  refine sums_eq (F := fun m => Sm h a (m + 2 * h)) (G := fun m => Sm h a m + h) ?_ (fun k => ?_) m
  · have : (0 : Int) + 2 * (h : Int) = ((2 * h : Nat) : Int) := by omega
    simp only [this, Sm_nat h0 p, anti_full p, Sm_zero]
    omega
  · have : k + 1 + 2 * (h : Int) = k + 2 * h + 1 := by omega
    simp only [this, Sm_succ h0 p, p.two]
    omega
theorem Sm_le {h : Nat} {a : Int → Bool} (h0 : 0 < h) (p : Anti h a) (m : Int) : ∀ k : Nat, Sm h a m ≤ Sm h a (m + k) ∧ Sm h a (m + k) ≤ Sm h a m + k
  | 0 => by simp
  | k + 1 => by
    have := Sm_le h0 p m k
    have e : m + ((k + 1 : Nat) : Int) = m + k + 1 := by omega
    rw [e, Sm_succ h0 p]
    cases a (m + k) <;> simp [bi] <;> omega
/-- how many steps the passes before m take -/
def Tm (h : Nat) (a : Int → Bool) (m : Int) : Int := m + 2 * Sm h a m
theorem Tm_zero (h : Nat) (a : Int → Bool) : Tm h a 0 = 0 := by simp [Tm, Sm_zero]
theorem Tm_succ {h : Nat} {a : Int → Bool} (h0 : 0 < h) (p : Anti h a) (m : Int) : Tm h a (m + 1) = Tm h a m + (if a m then 3 else 1) := by
  unfold Tm
  rw [Sm_succ h0 p]
  cases a m <;> simp [bi] <;> omega
theorem Tm_shift {h : Nat} {a : Int → Bool} (h0 : 0 < h) (p : Anti h a) (m k : Int) : Tm h (fun j => a (j + m)) k = Tm h a (k + m) - Tm h a m := by
  unfold Tm
  rw [Sm_shift h0 p]
  omega
theorem Tm_full {h : Nat} {a : Int → Bool} (h0 : 0 < h) (p : Anti h a) (m : Int) : Tm h a (m + 2 * h) = Tm h a m + 4 * h := by
  unfold Tm
  rw [Sm_half h0 p]
  omega
theorem Tm_mono {h : Nat} {a : Int → Bool} (h0 : 0 < h) (p : Anti h a) {m n : Int} (l : m ≤ n) : Tm h a m + (n - m) ≤ Tm h a n := by
  have := Sm_le h0 p m (n - m).toNat
  rw [Int.toNat_of_nonneg (by omega)] at this
  have e : m + (n - m) = n := by omega
  rw [e] at this
  unfold Tm
  omega
/-- the passes that t steps complete -/
def IsW (h : Nat) (a : Int → Bool) (t m : Int) : Prop := Tm h a m ≤ t ∧ t < Tm h a (m + 1)
theorem IsW.uniq {h : Nat} {a : Int → Bool} (h0 : 0 < h) (p : Anti h a) {t m n : Int} (x : IsW h a t m) (y : IsW h a t n) : m = n := by
  obtain ⟨x1, x2⟩ := x
  obtain ⟨y1, y2⟩ := y
  rcases Int.lt_trichotomy m n with z | z | z
  · have := Tm_mono h0 p (m := m + 1) (n := n) (by omega); omega
  · exact z
  · have := Tm_mono h0 p (m := n + 1) (n := m) (by omega); omega
/-! the walk within one turn -/
def inOn : Int → List Rn → Int
  | _, [] => 0
  | rest, r :: rs =>
    let q := rest / (1 + 2 * r.1)
    let many := if q < r.2 then q else r.2
    many + inOn (if many = r.2 then rest - many * (1 + 2 * r.1) else 0) rs
/-- the steps of a row -/
def tl (l : List Bool) : Int := l.length + 2 * ct l
theorem tl_app (a b : List Bool) : tl (a ++ b) = tl a + tl b := by unfold tl; rw [ct_app, List.length_append]; omega
theorem tl_rep (k : Nat) (b : Bool) : tl (List.replicate k b) = k * (1 + 2 * bi b) := by
  unfold tl ct
  cases b <;> simp [bi, List.count_replicate] <;> omega
theorem tl_ge (l : List Bool) : (l.length : Int) ≤ tl l := by unfold tl ct; omega
theorem inOn_ok : ∀ {rs : List Rn} {rest : Int}, Good rs → (∀ r ∈ rs, 0 < r.2) → 0 ≤ rest → 0 ≤ inOn rest rs ∧ inOn rest rs ≤ (ex rs).length ∧ tl ((ex rs).take (inOn rest rs).toNat) ≤ rest ∧ (inOn rest rs < (ex rs).length → rest < tl ((ex rs).take ((inOn rest rs).toNat + 1)))
  | [], rest, _, _, h => by simp [inOn, ex, tl, ct]; exact h
  | r :: rs, rest, g, hp, h => by
    obtain ⟨b, k⟩ := r
    obtain ⟨g1, g2⟩ := g _ List.mem_cons_self
    have hk := hp _ List.mem_cons_self
    simp only at g1 g2 hk
    have eb : b = bi (b == 1) := by rcases g1 with rfl | rfl <;> rfl
    have c0 : 0 < 1 + 2 * b := by omega
    have q0 : 0 ≤ rest / (1 + 2 * b) := Int.ediv_nonneg h (by omega)
    have q1 := Int.emod_add_mul_ediv rest (1 + 2 * b)
    have q2 := Int.emod_nonneg rest (show 1 + 2 * b ≠ 0 by omega)
    have q3 := Int.emod_lt_of_pos rest c0
    simp only [inOn, ex]
    generalize rest % (1 + 2 * b) = m at *
    generalize hq : rest / (1 + 2 * b) = q at *
    have ek : ((k.toNat : Nat) : Int) = k := by omega
    by_cases hqk : q < k
    · have n1 : ¬ q = k := by omega
      simp only [if_pos hqk, if_neg n1]
      obtain ⟨i1, i2, i3, i4⟩ := inOn_ok (rs := rs) (rest := 0) g.tail (fun r hr => hp r (by simp [hr])) (Int.le_refl _)
      have z : inOn 0 rs = 0 := by
        have := tl_ge ((ex rs).take (inOn 0 rs).toNat)
        rw [List.length_take] at this
        omega
      rw [z]
      have t1 : ∀ j : Nat, j ≤ k.toNat → tl ((List.replicate k.toNat (b == 1) ++ ex rs).take j) = j * (1 + 2 * b) := fun j hj => by
        rw [List.take_append_of_le_length (by simpa using hj), List.take_replicate, tl_rep, ← eb]
        congr 2
        omega
      refine ⟨by omega, by simp; omega, ?_, fun _ => ?_⟩
      · rw [t1 _ (by omega), show ((q + 0).toNat : Int) = q by omega, Int.mul_comm]
        omega
      · rw [t1 _ (by omega), show (((q + 0).toNat + 1 : Nat) : Int) = q + 1 by omega, Int.add_mul, Int.mul_comm]
        omega
    · simp only [if_neg hqk, if_true]
      have r0 : 0 ≤ rest - k * (1 + 2 * b) := by
        have : k * (1 + 2 * b) ≤ q * (1 + 2 * b) := Int.mul_le_mul_of_nonneg_right (by omega) (by omega)
        rw [Int.mul_comm q] at this
        omega
      obtain ⟨i1, i2, i3, i4⟩ := inOn_ok (rs := rs) (rest := rest - k * (1 + 2 * b)) g.tail (fun r hr => hp r (by simp [hr])) r0
      generalize inOn (rest - k * (1 + 2 * b)) rs = z at *
      have t1 : ∀ j : Nat, tl ((List.replicate k.toNat (b == 1) ++ ex rs).take (k.toNat + j)) = k * (1 + 2 * b) + tl ((ex rs).take j) := fun j => by
        rw [List.take_append, List.take_of_length_le (by simp), tl_app, tl_rep, ← eb, ek]
        simp
      have e1 : (k + z).toNat = k.toNat + z.toNat := by omega
      refine ⟨by omega, by simp; omega, ?_, fun hl => ?_⟩
      · rw [e1, t1]; omega
      · rw [e1, Nat.add_assoc, t1]
        simp at hl
        have := i4 (by omega)
        omega
/-- steps_within -/
def Wn (h : Nat) (a : Int → Bool) (t : Int) : Int := t / (4 * h) * 2 * h + inOn (t % (4 * h)) (rle (tab h a) ++ (rle (tab h a)).map fun r => (1 - r.1, r.2))
theorem tl_tab {h : Nat} {a : Int → Bool} (h0 : 0 < h) (p : Anti h a) (k : Nat) : tl (tab k a) = Tm h a k := by
  unfold tl Tm
  rw [tab_len, ct_tab, Sm_nat h0 p]
theorem whole_ex {h : Nat} {a : Int → Bool} (p : Anti h a) : Good (rle (tab h a) ++ (rle (tab h a)).map fun r => (1 - r.1, r.2)) ∧ (∀ r ∈ rle (tab h a) ++ (rle (tab h a)).map fun r => (1 - r.1, r.2), 0 < r.2) ∧ ex (rle (tab h a) ++ (rle (tab h a)).map fun r => (1 - r.1, r.2)) = tab (2 * h) a := by
  rw [← rle_not]
  refine ⟨(rle_canon _).good.app (rle_canon _).good, fun r hr => ?_, ?_⟩
  · rcases List.mem_append.mp hr with q | q
    · exact (rle_canon _).pos r q
    · exact (rle_canon _).pos r q
  · rw [ex_app, ex_rle, ex_rle, tab_not, tab_append, show h + h = 2 * h by omega]
    refine tab_ext fun i h1 h2 => ?_
    split
    · rfl
    · have e : i = (i - h) + h := by omega
      conv => rhs; rw [e, p]
theorem Wn_ok {h : Nat} {a : Int → Bool} (h0 : 0 < h) (p : Anti h a) (t : Int) : IsW h a t (Wn h a t) := by
  unfold Wn
  have d := Int.emod_add_mul_ediv t (4 * h)
  have r0 := Int.emod_nonneg t (show (4 * (h : Int)) ≠ 0 by omega)
  have r1 := Int.emod_lt_of_pos t (show 0 < 4 * (h : Int) by omega)
  generalize t % (4 * (h : Int)) = r at *
  generalize t / (4 * (h : Int)) = q at *
  obtain ⟨w1, w2, w3⟩ := whole_ex p
  obtain ⟨i1, i2, i3, i4⟩ := inOn_ok w1 w2 r0
  rw [w3] at i2 i3 i4
  generalize inOn r (rle (tab h a) ++ (rle (tab h a)).map fun r => (1 - r.1, r.2)) = m at *
  rw [tab_len] at i2 i4
  have em : ((m.toNat : Nat) : Int) = m := by omega
  have full := Tm_full h0 p 0
  rw [Tm_zero] at full
  have tq : ∀ x : Int, Tm h a (x + q * (2 * h)) = Tm h a x + q * (4 * h) := fun x => by
    refine sums_eq (F := fun q => Tm h a (x + q * (2 * h))) (G := fun q => Tm h a x + q * (4 * h)) (by simp) (fun q => ?_) q
    have e : x + (q + 1) * (2 * (h : Int)) = x + q * (2 * h) + 2 * h := by rw [Int.add_mul]; omega
    simp only [e, Tm_full h0 p]
    rw [Int.add_mul]
    omega
  have hm : m < 2 * h := by
    rcases Int.lt_or_le m (2 * h) with z | z
    · exact z
    · have e : m.toNat = 2 * h := by omega
      rw [e, List.take_of_length_le (by rw [tab_len]; omega), tl_tab h0 p] at i3
      have e2 : ((2 * h : Nat) : Int) = 0 + 2 * (h : Int) := by omega
      rw [e2, full] at i3
      omega
  have i4 := i4 (by omega)
  rw [tab_take _ _ _ (by omega), tl_tab h0 p] at i3 i4
  have e3 : q * 2 * (h : Int) + m = m + q * (2 * h) := by rw [Int.mul_assoc]; omega
  have e4 : q * 2 * (h : Int) + m + 1 = (m + 1) + q * (2 * h) := by rw [Int.mul_assoc]; omega
  have e5 : 4 * (h : Int) * q = q * (4 * h) := Int.mul_comm _ _
  constructor
  · rw [e3, tq, ← em]
    omega
  · rw [e4, tq]
    have e6 : ((m.toNat + 1 : Nat) : Int) = m + 1 := by omega
    rw [e6] at i4
    omega
theorem Wn_eq {h : Nat} {a : Int → Bool} (h0 : 0 < h) (p : Anti h a) {t m : Int} (x : IsW h a t m) : Wn h a t = m := (Wn_ok h0 p t).uniq h0 p x
end Tf

set_option linter.all false
namespace Tf
/-! ### rings, and where their passes stand -/
def sg (rt : Bool) : Int := if rt then 1 else -1
structure Rg where
  n : Nat
  up : Int → Bool
  pl : Int
  rt : Bool
def Per (n : Nat) (f : Int → Bool) : Prop := ∀ x, f (x + n) = f x
theorem Per.mod {n : Nat} {f : Int → Bool} (p : Per n f) (x : Int) : f (x % n) = f x := per_mod p x
theorem Per.ext {n : Nat} {f g : Int → Bool} (h0 : 0 < n) (p : Per n f) (q : Per n g) (e : ∀ x : Int, 0 ≤ x → x < n → f x = g x) : f = g := by
  funext x
  rw [← p.mod x, ← q.mod x]
  exact e _ (Int.emod_nonneg _ (by omega)) (Int.emod_lt_of_pos _ (by omega))
/-- way, spot, phase, what the passes find -/
structure Cf where
  n : Nat
  rt : Bool
  sp : Int
  ph : Int
  a : Int → Bool
structure Cf.ok (c : Cf) : Prop where
  n2 : 2 ≤ c.n
  sp0 : 0 ≤ c.sp
  sp1 : c.sp < c.n
  ph : c.ph = 0 ∨ c.ph = 1 ∨ c.ph = 2
  an : Anti (c.n - 1) c.a
  up : 0 < c.ph → c.a 0 = true
structure Rg.ok (r : Rg) : Prop where
  n2 : 2 ≤ r.n
  pl0 : 0 ≤ r.pl
  pl1 : r.pl < r.n
  per : Per r.n r.up
/-- the flags along the way, from the spot on -/
def Cf.al (c : Cf) (i : Int) : Bool := if i = 0 then decide (c.ph = 0) && c.a 0 else if i = c.n - 1 then !decide (c.ph = 2) else c.a i
def Cf.ring (c : Cf) : Rg := ⟨c.n, fun x => c.al ((x - c.sp) * sg c.rt % c.n), if c.ph = 1 then (c.sp - sg c.rt) % c.n else c.sp, if c.ph = 1 then !c.rt else c.rt⟩
def Rg.hd (r : Rg) : Bool × Int × Int := if r.up (r.pl - sg r.rt) then (r.rt, r.pl, 0) else if r.up r.pl then (!r.rt, (r.pl - sg r.rt) % r.n, 1) else (r.rt, r.pl, 2)
def Rg.wd (r : Rg) : Int → Bool := extW (r.n - 1) fun j => if j = 0 then decide (0 < r.hd.2.2) || r.up r.hd.2.1 else r.up (r.hd.2.1 + j * sg r.hd.1)
def Rg.cf (r : Rg) : Cf := ⟨r.n, r.hd.1, r.hd.2.1, r.hd.2.2, r.wd⟩
/-- one step -/
def Rg.next (r : Rg) : Rg :=
  let rt := if r.up r.pl then !r.rt else r.rt
  ⟨r.n, fun x => if (x - r.pl) % r.n = 0 then !r.up x else r.up x, (r.pl + sg rt) % r.n, rt⟩
def Cf.step (c : Cf) : Cf := if (c.ph = 0 ∧ c.a 0 = false) ∨ c.ph = 2 then ⟨c.n, c.rt, (c.sp + sg c.rt) % c.n, 0, fun j => c.a (j + 1)⟩ else ⟨c.n, c.rt, c.sp, c.ph + 1, c.a⟩
theorem sg_or (b : Bool) : sg b = 1 ∨ sg b = -1 := by cases b <;> simp [sg]
theorem sg_not (b : Bool) : sg (!b) = - sg b := by cases b <;> simp [sg]
theorem sg_sq (b : Bool) : sg b * sg b = 1 := by cases b <;> simp [sg]
theorem Rg.ext {r s : Rg} (h1 : r.n = s.n) (h2 : r.up = s.up) (h3 : r.pl = s.pl) (h4 : r.rt = s.rt) : r = s := by cases r; cases s; simp_all
theorem Cf.ext {r s : Cf} (h1 : r.n = s.n) (h2 : r.rt = s.rt) (h3 : r.sp = s.sp) (h4 : r.ph = s.ph) (h5 : r.a = s.a) : r = s := by cases r; cases s; simp_all
/-- remainders of neighbours -/
theorem md_near {v n : Int} (h1 : -n ≤ v) (h2 : v < n) : v % n = if v < 0 then v + n else v := by
  split
  · have e : (v + n * 1) % n = v % n := Int.add_mul_emod_self_left v n 1
    rw [← e, Int.mul_one]
    exact Int.emod_eq_of_lt (by omega) (by omega)
  · exact Int.emod_eq_of_lt (by omega) h2
theorem md_far {v n : Int} (h1 : 0 ≤ v) (h2 : v < 2 * n) : v % n = if v < n then v else v - n := by
  split
  · exact Int.emod_eq_of_lt h1 (by omega)
  · have e : (v + n * (-1)) % n = v % n := Int.add_mul_emod_self_left v n (-1)
    rw [← e, show v + n * (-1) = v - n by omega]
    exact Int.emod_eq_of_lt (by omega) (by omega)
theorem md_rng (v : Int) {n : Int} (h : 0 < n) : 0 ≤ v % n ∧ v % n < n := ⟨Int.emod_nonneg _ (by omega), Int.emod_lt_of_pos _ h⟩
theorem md_add (v w n : Int) : (v % n + w) % n = (v + w) % n := Int.emod_add_emod v n w
theorem md_sub (v w n : Int) : (v % n - w) % n = (v - w) % n := Int.emod_sub_emod v n w
theorem md_sub2 (v w n : Int) : (v - w % n) % n = (v - w) % n := Int.sub_emod_emod v w n
theorem md_add2 (v w n : Int) : (v + w % n) % n = (v + w) % n := Int.add_emod_emod v w n
/-- index and place -/
theorem ix_mod {n : Int} (rt : Bool) (x : Int) : (x % n) * sg rt % n = x * sg rt % n := by rw [Int.mul_emod, Int.emod_emod_of_dvd x (Int.dvd_refl n), ← Int.mul_emod]
theorem md_eq {a b n : Int} (h : n ∣ a - b) : a % n = b % n := Int.emod_eq_emod_iff_emod_sub_eq_zero.mpr (Int.emod_eq_zero_of_dvd h)
theorem Cf.al_per (c : Cf) : Per c.n c.ring.up := fun x => by
  show c.al _ = c.al _
  congr 1
  have : (x + c.n - c.sp) * sg c.rt = (x - c.sp) * sg c.rt + c.n * sg c.rt := by rw [← Int.add_mul]; congr 1; omega
  rw [this, Int.add_mul_emod_self_left]
theorem Cf.ring_ok {c : Cf} (k : c.ok) : c.ring.ok := by
  have h := k.n2
  refine ⟨h, ?_, ?_, c.al_per⟩
  · show 0 ≤ (if c.ph = 1 then (c.sp - sg c.rt) % c.n else c.sp)
    split
    · exact (md_rng _ (by omega)).1
    · exact k.sp0
  · show (if c.ph = 1 then (c.sp - sg c.rt) % c.n else c.sp) < (c.n : Int)
    split
    · exact (md_rng _ (by omega)).2
    · exact k.sp1
/-- a flag of the ring, i places on from the spot -/
theorem Cf.ring_at (c : Cf) (i : Int) : c.ring.up (c.sp + i * sg c.rt) = c.al (i % c.n) := by
  show c.al ((c.sp + i * sg c.rt - c.sp) * sg c.rt % c.n) = _
  congr 2
  have : c.sp + i * sg c.rt - c.sp = i * sg c.rt := by omega
  rw [this, Int.mul_assoc, sg_sq, Int.mul_one]
theorem Cf.at_spot {c : Cf} (k : c.ok) : c.ring.up c.sp = c.al 0 := by
  have := c.ring_at 0
  simpa using this
theorem Cf.at_before {c : Cf} (k : c.ok) : c.ring.up (c.sp - sg c.rt) = !decide (c.ph = 2) := by
  have h := k.n2
  have := c.ring_at (-1)
  have e : c.sp + -1 * sg c.rt = c.sp - sg c.rt := by omega
  rw [e] at this
  rw [this, md_near (by omega) (by omega), if_pos (by omega)]
  unfold Cf.al
  rw [if_neg (by omega), if_pos (by omega)]
theorem Cf.ring_hd {c : Cf} (k : c.ok) : c.ring.hd = (c.rt, c.sp, c.ph) := by
  have hn := k.n2
  have a0 := Cf.at_spot k
  have a1 := Cf.at_before k
  have p := c.al_per
  unfold Rg.hd
  rcases k.ph with h | h | h
  · have e1 : c.ring.pl = c.sp := if_neg (by omega)
    have e2 : c.ring.rt = c.rt := if_neg (by omega)
    rw [e1, e2, a1, h]
    simp
  · have e1 : c.ring.pl = (c.sp - sg c.rt) % c.n := if_pos h
    have e2 : c.ring.rt = !c.rt := if_pos h
    have e3 : c.ring.up (c.ring.pl - sg c.ring.rt) = c.ring.up c.sp := by
      rw [e1, e2, sg_not, ← p.mod, show (c.sp - sg c.rt) % c.n - -sg c.rt = (c.sp - sg c.rt) % c.n + sg c.rt by omega, md_add, show c.sp - sg c.rt + sg c.rt = c.sp by omega, p.mod]
    have e4 : c.ring.up c.ring.pl = c.ring.up (c.sp - sg c.rt) := by rw [e1, p.mod]
    have e5 : (c.ring.pl - sg c.ring.rt) % c.ring.n = c.sp := by
      show (c.ring.pl - sg c.ring.rt) % (c.n : Int) = c.sp
      rw [e1, e2, sg_not, show (c.sp - sg c.rt) % c.n - -sg c.rt = (c.sp - sg c.rt) % c.n + sg c.rt by omega, md_add, show c.sp - sg c.rt + sg c.rt = c.sp by omega]
      exact Int.emod_eq_of_lt k.sp0 k.sp1
    rw [e3, e4, a0, a1, e5, e2]
    simp [Cf.al, h]
  · have e1 : c.ring.pl = c.sp := if_neg (by omega)
    have e2 : c.ring.rt = c.rt := if_neg (by omega)
    rw [e1, e2, a1, a0, h]
    simp [Cf.al, h]
theorem Cf.ring_cf {c : Cf} (k : c.ok) : c.ring.cf = c := by
  have hn := k.n2
  have hd := c.ring_hd k
  refine Cf.ext rfl ?_ ?_ ?_ ?_
  · show c.ring.hd.1 = _; rw [hd]
  · show c.ring.hd.2.1 = _; rw [hd]
  · show c.ring.hd.2.2 = _; rw [hd]
  · show c.ring.wd = c.a
    unfold Rg.wd
    rw [hd]
    have en : c.ring.n - 1 = c.n - 1 := rfl
    rw [en]
    refine Anti.uniq (h := c.n - 1) (by omega) (extW_anti (by omega) _) k.an fun j h0 h1 => ?_
    rw [extW_at h0 h1]
    simp only
    by_cases hj : j = 0
    · subst hj
      rw [if_pos rfl, Cf.at_spot k]
      unfold Cf.al
      rw [if_pos rfl]
      rcases k.ph with h | h | h
      · simp [h]
      · simp [h, k.up (by omega)]
      · simp [h, k.up (by omega)]
    · rw [if_neg hj, c.ring_at, Int.emod_eq_of_lt h0 (by omega)]
      unfold Cf.al
      rw [if_neg hj, if_neg (by omega)]
theorem Rg.hd_ok {r : Rg} (k : r.ok) : 0 ≤ r.hd.2.1 ∧ r.hd.2.1 < r.n ∧ (r.hd.2.2 = 0 ∨ r.hd.2.2 = 1 ∨ r.hd.2.2 = 2) := by
  have hn := k.n2
  unfold Rg.hd
  split
  · exact ⟨k.pl0, k.pl1, .inl rfl⟩
  · split
    · exact ⟨(md_rng _ (by omega)).1, (md_rng _ (by omega)).2, .inr (.inl rfl)⟩
    · exact ⟨k.pl0, k.pl1, .inr (.inr rfl)⟩
theorem Rg.cf_ok {r : Rg} (k : r.ok) : r.cf.ok := by
  have hn := k.n2
  obtain ⟨h1, h2, h3⟩ := r.hd_ok k
  refine ⟨hn, h1, h2, h3, (show Anti (r.n - 1) r.wd from extW_anti (by omega) _), fun h => ?_⟩
  show r.wd 0 = true
  unfold Rg.wd
  rw [extW_at (by omega) (by omega), if_pos rfl]
  have : decide (0 < r.hd.2.2) = true := decide_eq_true h
  rw [this]
  rfl
theorem Rg.cf_ring {r : Rg} (k : r.ok) : r.cf.ring = r := by
  have hn := k.n2
  obtain ⟨q1, q2, q3⟩ := r.hd_ok k
  have p := k.per
  have pre : r.cf.ring.pl = r.pl ∧ r.cf.ring.rt = r.rt ∧ r.cf.al 0 = r.up r.hd.2.1 ∧ r.up (r.hd.2.1 - sg r.hd.1) = !decide (r.hd.2.2 = 2) := by
    have w0 : r.wd 0 = (decide (0 < r.hd.2.2) || r.up r.hd.2.1) := by
      unfold Rg.wd
      rw [extW_at (by omega) (by omega), if_pos rfl]
    have al0 : r.cf.al 0 = (decide (r.hd.2.2 = 0) && r.wd 0) := if_pos rfl
    rw [al0, w0]
    show (if r.hd.2.2 = 1 then (r.hd.2.1 - sg r.hd.1) % r.n else r.hd.2.1) = r.pl ∧ (if r.hd.2.2 = 1 then !r.hd.1 else r.hd.1) = r.rt ∧ _
    by_cases b1 : r.up (r.pl - sg r.rt)
    · have e : r.hd = (r.rt, r.pl, 0) := by unfold Rg.hd; rw [if_pos b1]
      rw [e]
      simp [b1]
    · by_cases b2 : r.up r.pl
      · have e : r.hd = (!r.rt, (r.pl - sg r.rt) % r.n, 1) := by unfold Rg.hd; rw [if_neg b1, if_pos b2]
        rw [e]
        have s1 : ((r.pl - sg r.rt) % r.n - sg (!r.rt)) % r.n = r.pl := by
          rw [sg_not, show (r.pl - sg r.rt) % r.n - -sg r.rt = (r.pl - sg r.rt) % r.n + sg r.rt by omega, md_add, show r.pl - sg r.rt + sg r.rt = r.pl by omega]
          exact Int.emod_eq_of_lt k.pl0 k.pl1
        refine ⟨by simpa using s1, by simp, ?_, ?_⟩
        · simp only
          rw [p.mod]
          simpa using b1
        · simp only
          rw [← p.mod, s1, b2]
          rfl
      · have e : r.hd = (r.rt, r.pl, 2) := by unfold Rg.hd; rw [if_neg b1, if_neg b2]
        rw [e]
        simp [b1, b2]
  obtain ⟨r1, r2, r3, r4⟩ := pre
  refine Rg.ext rfl (Per.ext (n := r.n) (by omega) r.cf.al_per p fun x h0 h1 => ?_) r1 r2
  show r.cf.al ((x - r.hd.2.1) * sg r.hd.1 % r.n) = r.up x
  have rg := md_rng ((x - r.hd.2.1) * sg r.hd.1) (n := r.n) (by omega)
  have back : r.up x = r.up (r.hd.2.1 + (x - r.hd.2.1) * sg r.hd.1 % r.n * sg r.hd.1) := by
    rw [← p.mod (r.hd.2.1 + _)]
    have : (r.hd.2.1 + (x - r.hd.2.1) * sg r.hd.1 % r.n * sg r.hd.1) % r.n = x % r.n := by
      rw [Int.add_emod, ix_mod, ← Int.add_emod, Int.mul_assoc, sg_sq, Int.mul_one]
      congr 1
      omega
    rw [this, p.mod]
  rw [back]
  generalize (x - r.hd.2.1) * sg r.hd.1 % (r.n : Int) = i at *
  by_cases i0 : i = 0
  · rw [i0, r3]
    congr 1
    omega
  · by_cases i1 : i = r.n - 1
    · have e : r.up (r.hd.2.1 + i * sg r.hd.1) = r.up (r.hd.2.1 - sg r.hd.1) := by
        rw [← p (r.hd.2.1 - sg r.hd.1), ← p.mod, ← p.mod (r.hd.2.1 - sg r.hd.1 + r.n)]
        congr 1
        refine md_eq ?_
        rw [i1]
        rcases sg_or r.hd.1 with z | z <;> rw [z]
        · exact ⟨0, by omega⟩
        · exact ⟨-2, by omega⟩
      rw [e, r4]
      unfold Cf.al
      rw [if_neg i0, if_pos (by exact i1)]
      rfl
    · unfold Cf.al
      rw [if_neg i0, if_neg (by exact i1)]
      show r.wd i = _
      unfold Rg.wd
      rw [extW_at (by omega) (by omega), if_neg i0]
theorem Rg.next_ok {r : Rg} (k : r.ok) : r.next.ok := by
  have hn := k.n2
  refine ⟨hn, (md_rng _ (by omega)).1, (md_rng _ (by omega)).2, fun x => ?_⟩
  show (if (x + r.n - r.pl) % r.n = 0 then !r.up (x + r.n) else r.up (x + r.n)) = if (x - r.pl) % r.n = 0 then !r.up x else r.up x
  have e : (x + r.n - r.pl) % r.n = (x - r.pl) % r.n := by
    rw [show x + (r.n : Int) - r.pl = x - r.pl + r.n by omega]
    simp
  rw [k.per, e]
theorem al_step {c : Cf} (k : c.ok) (q : (c.ph = 0 ∧ c.a 0 = false) ∨ c.ph = 2) (i : Int) (i0 : 0 ≤ i) (i1 : i < c.n) : c.step.al i = if i = c.n - 1 then !c.al 0 else c.al (i + 1) := by
  have hn := k.n2
  have e : c.step = ⟨c.n, c.rt, (c.sp + sg c.rt) % c.n, 0, fun j => c.a (j + 1)⟩ := if_pos q
  rw [e]
  have an := k.an
  have last : c.a (c.n - 1) = !c.a 0 := by
    have := an 0
    rw [Int.zero_add] at this
    rw [← this]
    congr 1
    omega
  unfold Cf.al
  simp only [decide_true, if_true]
  have L : (if i = 0 then decide ((0 : Int) = 0) && c.a (0 + 1) else if i = c.n - 1 then !decide ((0 : Int) = 2) else c.a (i + 1)) = if i = c.n - 1 ∧ i ≠ 0 then true else c.a (i + 1) := by
    by_cases z : i = 0
    · simp [z]
    · by_cases z1 : i = c.n - 1
      · rw [if_neg z, if_pos z1, if_pos ⟨z1, z⟩]
        rfl
      · rw [if_neg z, if_neg z1, if_neg (fun y => z1 y.1)]
  simp only [decide_true] at L
  rw [L]
  by_cases h1 : i = c.n - 1
  · rw [if_pos ⟨h1, by omega⟩, if_pos h1]
    rcases q with ⟨q1, q2⟩ | q1
    · simp [q2]
    · simp [q1]
  · rw [if_neg (by omega), if_neg h1, if_neg (by omega : ¬ i + 1 = 0)]
    by_cases h2 : i + 1 = c.n - 1
    · rw [if_pos h2, h2, last]
      rcases q with ⟨q1, q2⟩ | q1
      · simp [q1, q2]
      · simp [q1, k.up (by omega)]
    · rw [if_neg h2]
theorem al_stay {c : Cf} (k : c.ok) (q : ¬ ((c.ph = 0 ∧ c.a 0 = false) ∨ c.ph = 2)) (i : Int) (i0 : 0 ≤ i) (i1 : i < c.n) : c.step.al i = if (c.ph = 0 ∧ i = 0) ∨ (c.ph = 1 ∧ i = c.n - 1) then false else c.al i := by
  have hn := k.n2
  have e : c.step = ⟨c.n, c.rt, c.sp, c.ph + 1, c.a⟩ := if_neg q
  rw [e]
  unfold Cf.al
  simp only
  rcases k.ph with h | h | h
  · by_cases h0 : i = 0
    · simp [h, h0]
    · simp [h, h0]
  · by_cases h0 : i = 0
    · have : ¬ (0 : Int) = c.n - 1 := by omega
      simp [h, h0, this]
    · by_cases h1 : i = c.n - 1
      · simp [h, h0, h1]
      · simp [h, h0, h1]
  · exact absurd (.inr h) q
theorem Cf.step_ok {c : Cf} (k : c.ok) : c.step.ok := by
  have hn := k.n2
  unfold Cf.step
  split
  · exact ⟨hn, (md_rng _ (by omega)).1, (md_rng _ (by omega)).2, .inl rfl, k.an.shift 1, fun h => absurd h (by simp)⟩
  · rename_i q
    refine ⟨hn, k.sp0, k.sp1, ?_, k.an, fun _ => ?_⟩
    · rcases k.ph with h | h | h
      · simp [h]
      · simp [h]
      · exact absurd (.inr h) q
    · rcases k.ph with h | h | h
      · cases e : c.a 0
        · exact absurd (.inl ⟨h, e⟩) q
        · rfl
      · exact k.up (by omega)
      · exact k.up (by omega)
/-- index of a place -/
def Cf.ix (c : Cf) (x : Int) : Int := (x - c.sp) * sg c.rt % c.n
theorem Cf.ring_ix (c : Cf) (x : Int) : c.ring.up x = c.al (c.ix x) := rfl
theorem ix_on {n : Int} {rt : Bool} {sp x : Int} (hn : 2 ≤ n) : (x - (sp + sg rt) % n) * sg rt % n = if (x - sp) * sg rt % n = 0 then n - 1 else (x - sp) * sg rt % n - 1 := by
  have e : (x - (sp + sg rt) % n) * sg rt % n = ((x - sp) * sg rt % n - 1) % n := by
    rw [md_sub]
    rw [Int.mul_emod, md_sub2, ← Int.mul_emod]
    congr 1
    rw [show x - (sp + sg rt) = x - sp - sg rt by omega, Int.sub_mul, sg_sq]
  have r := md_rng ((x - sp) * sg rt) (n := n) (by omega)
  rw [e, md_near (by omega) (by omega)]
  split <;> split <;> omega
theorem ix_zero {n : Int} {rt : Bool} {sp x : Int} : (x - sp) * sg rt % n = 0 ↔ (x - sp) % n = 0 := by
  rcases sg_or rt with z | z <;> rw [z]
  · rw [Int.mul_one]
  · rw [Int.mul_neg_one]
    constructor
    · intro h
      exact Int.emod_eq_zero_of_dvd ((Int.dvd_neg).mp (Int.dvd_of_emod_eq_zero h))
    · intro h
      exact Int.emod_eq_zero_of_dvd ((Int.dvd_neg).mpr (Int.dvd_of_emod_eq_zero h))
theorem Cf.ring_next {c : Cf} (k : c.ok) : c.step.ring = c.ring.next := by
  have hn := k.n2
  have a0 := Cf.at_spot k
  have a1 := Cf.at_before k
  have p := c.al_per
  have z0 : c.al 0 = (decide (c.ph = 0) && c.a 0) := if_pos rfl
  have rg : ∀ x, 0 ≤ c.ix x ∧ c.ix x < c.n := fun x => md_rng _ (by omega)
  by_cases q : (c.ph = 0 ∧ c.a 0 = false) ∨ c.ph = 2
  · have e : c.step = ⟨c.n, c.rt, (c.sp + sg c.rt) % c.n, 0, fun j => c.a (j + 1)⟩ := if_pos q
    have e1 : c.ring.pl = c.sp := if_neg (by omega)
    have e2 : c.ring.rt = c.rt := if_neg (by omega)
    have low : c.al 0 = false := by
      rw [z0]
      rcases q with ⟨_, q2⟩ | q1
      · simp [q2]
      · simp [q1]
    have up0 : c.ring.up c.ring.pl = false := by rw [e1, a0, low]
    refine Rg.ext (by rw [e]; rfl) ?_ ?_ ?_
    · funext x
      rw [Cf.ring_ix]
      have ixn : c.step.ix x = if c.ix x = 0 then (c.n : Int) - 1 else c.ix x - 1 := by
        unfold Cf.ix
        rw [e]
        exact ix_on (by omega)
      have r := rg x
      rw [ixn, al_step k q _ (by split <;> omega) (by split <;> omega)]
      show _ = if (x - c.ring.pl) % c.n = 0 then !c.ring.up x else c.ring.up x
      rw [Cf.ring_ix, e1]
      have iz : c.ix x = 0 ↔ (x - c.sp) % c.n = 0 := ix_zero
      by_cases h : c.ix x = 0
      · rw [if_pos h, if_pos rfl, if_pos (iz.mp h), h]
      · rw [if_neg h, if_neg (by omega), if_neg (fun z => h (iz.mpr z))]
        congr 1
        omega
    · rw [e]
      show (if (0 : Int) = 1 then ((c.sp + sg c.rt) % c.n - sg c.rt) % c.n else (c.sp + sg c.rt) % c.n) = (c.ring.pl + sg (if c.ring.up c.ring.pl then !c.ring.rt else c.ring.rt)) % c.n
      rw [up0, e1, e2]
      simp
    · rw [e]
      show (if (0 : Int) = 1 then !c.rt else c.rt) = if c.ring.up c.ring.pl then !c.ring.rt else c.ring.rt
      rw [up0, e2]
      simp
  · have e : c.step = ⟨c.n, c.rt, c.sp, c.ph + 1, c.a⟩ := if_neg q
    have ixn : ∀ x, c.step.ix x = c.ix x := fun x => by rw [e]; rfl
    have al_ := fun x => al_stay k q (c.ix x) (rg x).1 (rg x).2
    have up : ∀ x, c.step.ring.up x = if (c.ph = 0 ∧ c.ix x = 0) ∨ (c.ph = 1 ∧ c.ix x = c.n - 1) then false else c.ring.up x := fun x => by
      rw [Cf.ring_ix, ixn, al_, Cf.ring_ix]
    rcases k.ph with h | h | h
    · have c0 : c.a 0 = true := by
        cases z : c.a 0
        · exact absurd (.inl ⟨h, z⟩) q
        · rfl
      have e1 : c.ring.pl = c.sp := if_neg (by omega)
      have e2 : c.ring.rt = c.rt := if_neg (by omega)
      have up0 : c.ring.up c.ring.pl = true := by rw [e1, a0, z0]; simp [h, c0]
      refine Rg.ext (by rw [e]; rfl) ?_ ?_ ?_
      · funext x
        rw [up]
        show _ = if (x - c.ring.pl) % c.n = 0 then !c.ring.up x else c.ring.up x
        have iz : c.ix x = 0 ↔ (x - c.sp) % c.n = 0 := ix_zero
        rw [e1]
        by_cases hz : c.ix x = 0
        · rw [if_pos (.inl ⟨h, hz⟩), if_pos (iz.mp hz), Cf.ring_ix, hz, z0]
          simp [h, c0]
        · rw [if_neg (by omega), if_neg (fun z => hz (iz.mpr z))]
      · rw [e]
        show (if c.ph + 1 = 1 then (c.sp - sg c.rt) % c.n else c.sp) = (c.ring.pl + sg (if c.ring.up c.ring.pl then !c.ring.rt else c.ring.rt)) % c.n
        rw [up0, e1, e2, h]
        simp [sg_not]
        congr 1
      · rw [e]
        show (if c.ph + 1 = 1 then !c.rt else c.rt) = if c.ring.up c.ring.pl then !c.ring.rt else c.ring.rt
        rw [up0, e2, h]
        simp
    · have e1 : c.ring.pl = (c.sp - sg c.rt) % c.n := if_pos h
      have e2 : c.ring.rt = !c.rt := if_pos h
      have up0 : c.ring.up c.ring.pl = true := by rw [e1, p.mod, a1, h]; rfl
      refine Rg.ext (by rw [e]; rfl) ?_ ?_ ?_
      · funext x
        rw [up]
        show _ = if (x - c.ring.pl) % c.n = 0 then !c.ring.up x else c.ring.up x
        have iz : c.ix x = c.n - 1 ↔ (x - c.ring.pl) % c.n = 0 := by
          rw [e1, md_sub2, ← ix_zero (rt := c.rt)]
          have : (x - (c.sp - sg c.rt)) * sg c.rt % c.n = (c.ix x + 1) % c.n := by
            unfold Cf.ix
            rw [md_add, show x - (c.sp - sg c.rt) = x - c.sp + sg c.rt by omega, Int.add_mul, sg_sq]
          rw [this, md_far (by have := rg x; omega) (by have := rg x; omega)]
          have := rg x
          split <;> omega
        by_cases hz : c.ix x = c.n - 1
        · rw [if_pos (.inr ⟨h, hz⟩), if_pos (iz.mp hz), Cf.ring_ix, hz]
          unfold Cf.al
          rw [if_neg (by omega), if_pos rfl, h]
          rfl
        · rw [if_neg (by omega), if_neg (fun z => hz (iz.mpr z))]
      · rw [e]
        show (if c.ph + 1 = 1 then (c.sp - sg c.rt) % c.n else c.sp) = (c.ring.pl + sg (if c.ring.up c.ring.pl then !c.ring.rt else c.ring.rt)) % c.n
        rw [up0, e1, e2, h, if_neg (by decide)]
        simp only [if_true, Bool.not_not]
        rw [md_add, show c.sp - sg c.rt + sg c.rt = c.sp by omega, Int.emod_eq_of_lt k.sp0 k.sp1]
      · rw [e]
        show (if c.ph + 1 = 1 then !c.rt else c.rt) = if c.ring.up c.ring.pl then !c.ring.rt else c.ring.rt
        rw [up0, e2, h]
        simp
    · exact absurd (.inr h) q
/-! many steps -/
def Cf.go (c : Cf) (t : Int) : Cf :=
  let m := Wn (c.n - 1) c.a (c.ph + t)
  ⟨c.n, c.rt, (c.sp + m * sg c.rt) % c.n, c.ph + t - Tm (c.n - 1) c.a m, fun j => c.a (j + m)⟩
theorem Cf.go_by {c : Cf} (k : c.ok) {t m : Int} (w : IsW (c.n - 1) c.a (c.ph + t) m) : c.go t = ⟨c.n, c.rt, (c.sp + m * sg c.rt) % c.n, c.ph + t - Tm (c.n - 1) c.a m, fun j => c.a (j + m)⟩ := by
  have hn := k.n2
  unfold Cf.go
  rw [Wn_eq (by omega) k.an w]
theorem Cf.go_zero {c : Cf} (k : c.ok) : c.go 0 = c := by
  have hn := k.n2
  have t1 : Tm (c.n - 1) c.a (0 + 1) = 0 + if c.a 0 then 3 else 1 := by rw [Tm_succ (by omega) k.an, Tm_zero]
  have w : IsW (c.n - 1) c.a (c.ph + 0) 0 := by
    refine ⟨by rw [Tm_zero]; rcases k.ph with h | h | h <;> omega, ?_⟩
    rw [t1]
    rcases k.ph with h | h | h
    · split <;> omega
    · rw [k.up (by omega)]; simp; omega
    · rw [k.up (by omega)]; simp; omega
  rw [Cf.go_by k w, Tm_zero]
  refine Cf.ext rfl rfl ?_ (by simp) (by simp)
  simp
  exact Int.emod_eq_of_lt k.sp0 k.sp1
theorem Cf.go_ok {c : Cf} (k : c.ok) (t : Int) : (c.go t).ok := by
  have hn := k.n2
  obtain ⟨w1, w2⟩ := Wn_ok (h := c.n - 1) (by omega) k.an (c.ph + t)
  rw [Tm_succ (by omega) k.an] at w2
  unfold Cf.go
  simp only
  generalize Wn (c.n - 1) c.a (c.ph + t) = m at *
  refine ⟨hn, (md_rng _ (by omega)).1, (md_rng _ (by omega)).2, ?_, k.an.shift m, fun h => ?_⟩
  · show c.ph + t - Tm (c.n - 1) c.a m = 0 ∨ c.ph + t - Tm (c.n - 1) c.a m = 1 ∨ c.ph + t - Tm (c.n - 1) c.a m = 2
    split at w2 <;> omega
  · have h : 0 < c.ph + t - Tm (c.n - 1) c.a m := h
    show c.a (0 + m) = true
    rw [Int.zero_add]
    cases e : c.a m
    · rw [e] at w2; simp at w2; omega
    · rfl
theorem Cf.go_succ {c : Cf} (k : c.ok) (t : Int) : c.go (t + 1) = (c.go t).step := by
  have hn := k.n2
  obtain ⟨w1, w2⟩ := Wn_ok (h := c.n - 1) (by omega) k.an (c.ph + t)
  have g := Cf.go_by k ⟨w1, w2⟩
  have k2 := (Cf.go_ok k t)
  rw [g] at k2 ⊢
  generalize Wn (c.n - 1) c.a (c.ph + t) = m at *
  have t1 := Tm_succ (show 0 < c.n - 1 by omega) k.an m
  by_cases q : (c.ph + t - Tm (c.n - 1) c.a m = 0 ∧ c.a m = false) ∨ c.ph + t - Tm (c.n - 1) c.a m = 2
  · have e0 : c.ph + (t + 1) = Tm (c.n - 1) c.a (m + 1) := by
      rw [t1]
      rcases q with ⟨q1, q2⟩ | q
      · rw [q2]; simp; omega
      · have := k2.up (by show 0 < c.ph + t - Tm (c.n - 1) c.a m; omega)
        simp only [Int.zero_add] at this
        rw [this]
        simp
        omega
    have w : IsW (c.n - 1) c.a (c.ph + (t + 1)) (m + 1) := by
      refine ⟨by omega, ?_⟩
      rw [Tm_succ (by omega) k.an (m + 1)]
      split <;> omega
    rw [Cf.go_by k w]
    unfold Cf.step
    simp only [Int.zero_add]
    rw [if_pos q]
    refine Cf.ext rfl rfl ?_ (by simp; omega) ?_
    · simp only
      rw [md_add, Int.add_mul]
      congr 1
      omega
    · funext j
      simp only
      congr 1
      omega
  · have w : IsW (c.n - 1) c.a (c.ph + (t + 1)) m := by
      refine ⟨by omega, ?_⟩
      have ph := k2.ph
      simp only at ph
      rw [t1] at w2 ⊢
      cases e : c.a m
      · rw [e] at w2; simp at w2
        exfalso
        exact q (.inl ⟨by omega, e⟩)
      · rw [e] at w2
        simp at w2 ⊢
        omega
    rw [Cf.go_by k w]
    unfold Cf.step
    simp only [Int.zero_add]
    rw [if_neg q]
    refine Cf.ext rfl rfl rfl (by simp; omega) rfl
theorem Cf.go_add {c : Cf} (k : c.ok) (s t : Int) : (c.go s).go t = c.go (s + t) := by
  have hn := k.n2
  have w := Wn_ok (h := c.n - 1) (by omega) k.an (c.ph + s)
  have v := Wn_ok (h := c.n - 1) (by omega) k.an (c.ph + (s + t))
  have k2 := Cf.go_ok k s
  have g := Cf.go_by k w
  generalize Wn (c.n - 1) c.a (c.ph + s) = m at *
  generalize Wn (c.n - 1) c.a (c.ph + (s + t)) = m2 at *
  rw [Cf.go_by k v]
  rw [g] at k2 ⊢
  have u : IsW (c.n - 1) (fun j => c.a (j + m)) (c.ph + s - Tm (c.n - 1) c.a m + t) (m2 - m) := by
    obtain ⟨v1, v2⟩ := v
    refine ⟨?_, ?_⟩
    · rw [Tm_shift (by omega) k.an, show m2 - m + m = m2 by omega]; omega
    · rw [Tm_shift (by omega) k.an, show m2 - m + 1 + m = m2 + 1 by omega]; omega
  rw [Cf.go_by k2 u]
  refine Cf.ext rfl rfl ?_ ?_ ?_
  · simp only
    rw [md_add]
    congr 1
    rw [Int.sub_mul]
    omega
  · simp only
    rw [Tm_shift (by omega) k.an, show m2 - m + m = m2 by omega]
    omega
  · funext j
    simp only
    congr 1
    omega
def Rg.go (r : Rg) (t : Int) : Rg := (r.cf.go t).ring
theorem Rg.go_ok {r : Rg} (k : r.ok) (t : Int) : (r.go t).ok := Cf.ring_ok (Cf.go_ok (Rg.cf_ok k) t)
theorem Rg.go_zero {r : Rg} (k : r.ok) : r.go 0 = r := by unfold Rg.go; rw [Cf.go_zero (Rg.cf_ok k), Rg.cf_ring k]
theorem Rg.go_succ {r : Rg} (k : r.ok) (t : Int) : r.go (t + 1) = (r.go t).next := by
  unfold Rg.go
  rw [Cf.go_succ (Rg.cf_ok k), Cf.ring_next (Cf.go_ok (Rg.cf_ok k) t)]
theorem Rg.go_cf {r : Rg} (k : r.ok) (t : Int) : (r.go t).cf = r.cf.go t := Cf.ring_cf (Cf.go_ok (Rg.cf_ok k) t)
theorem Rg.go_add {r : Rg} (k : r.ok) (s t : Int) : (r.go s).go t = r.go (s + t) := by
  show ((r.go s).cf.go t).ring = _
  rw [Rg.go_cf k, Cf.go_add (Rg.cf_ok k)]
  rfl
theorem Rg.go_one {r : Rg} (k : r.ok) : r.go 1 = r.next := by
  have := Rg.go_succ k 0
  rw [Rg.go_zero k] at this
  simpa using this
/-- single steps -/
def Rg.it (r : Rg) : Nat → Rg
  | 0 => r
  | t + 1 => (r.it t).next
theorem Rg.go_nat {r : Rg} (k : r.ok) : ∀ t : Nat, r.go t = r.it t
  | 0 => Rg.go_zero k
  | t + 1 => by rw [Int.natCast_add]; show r.go ((t : Int) + 1) = _; rw [Rg.go_succ k, Rg.go_nat k t]; rfl
end Tf

set_option Elab.async false
set_option linter.all false
set_option maxRecDepth 100000
set_option maxHeartbeats 1000000
namespace Tf
open PySem PySem.Spec PyProof.Rows L2
/-! ### sides, runs -/
def side (r : Bool) : D := .str (if r then "right" else "left")
theorem lr1 : (Str.ofString "left" == Str.ofString "right") = false := by decide +kernel
theorem lr2 : (Str.ofString "right" == Str.ofString "left") = false := by decide +kernel
theorem lr3 : (Str.ofString "left" = Str.ofString "right") = False := by simpa using lr1
theorem lr4 : (Str.ofString "right" = Str.ofString "left") = False := by simpa using lr2
theorem sd_t : side true = .str "right" := rfl
theorem sd_f : side false = .str "left" := rfl
def pairsD (ps : List (Int × Int)) : D := .tup (ps.map pairD)
/-- a state's parts -/
structure St4 where
  n : Int
  ps : List (Int × Int)
  pl : Int
  rt : Bool
def St4.d (s : St4) : D := .tup [.int s.n, pairsD s.ps, .int s.pl, side s.rt]
def St4.hd (s : St4) : Bool × Int × Int :=
  if flagUp s.ps (placeOn s.n s.pl s.rt (-1)) then (s.rt, s.pl, 0) else if flagUp s.ps s.pl then (!s.rt, placeOn s.n s.pl s.rt (-1), 1) else (s.rt, s.pl, 2)
def St4.ok (s : St4) : Prop := 0 < s.n ∧ s.ps.length < sz

def s_other_side : Spec := fun ds μ R _ => ∃ r, ds = [side r] ∧ R (side !r) μ
def s_place_on : Spec := fun ds μ R _ => ∃ n p r m, ds = [.int n, .int p, side r, .int m] ∧ 0 < n ∧ R (.int (placeOn n p r m)) μ
def s_flag_is_up : Spec := fun ds μ R _ => ∃ ps x, ds = [pairsD ps, .int x] ∧ ps.length < sz ∧ R (.bl (flagUp ps x)) μ
def s_heading_of : Spec := fun ds μ R _ => ∃ s : St4, ds = [s.d] ∧ s.ok ∧ R (.tup [side s.hd.1, .int s.hd.2.1, .int s.hd.2.2]) μ
def s_way_of : Spec := fun ds μ R _ => ∃ s : St4, ds = [s.d] ∧ s.ok ∧ R (side s.hd.1) μ
def s_spot_of : Spec := fun ds μ R _ => ∃ s : St4, ds = [s.d] ∧ s.ok ∧ R (.int s.hd.2.1) μ
def s_phase_of : Spec := fun ds μ R _ => ∃ s : St4, ds = [s.d] ∧ s.ok ∧ R (.int s.hd.2.2) μ

def s_law_other : Spec := fun ds μ R _ => ∃ r, ds = [side r] ∧ R (side !r) μ
def s_law_on : Spec := fun ds μ R _ => ∃ n p r m, ds = [.int n, .int p, side r, .int m] ∧ 0 < n ∧ m.natAbs < 2 ^ 200 ∧ R (.int ((p + m * (if r then 1 else -1)) % n)) μ
def n_other_side : List Str := ["side"]
def i_other_side : List IS := [.ret (.ite (.cmp .eq (.var 0) (.glb "RIGHT" (.str "right"))) (.glb "LEFT" (.str "left")) (.glb "RIGHT" (.str "right")))]
def n_place_on : List Str := ["size", "place", "side", "many"]
def i_place_on : List IS := [.ret (.ite (.cmp .eq (.var 2) (.glb "RIGHT" (.str "right"))) (.bop .mod (.bop .add (.var 1) (.var 3)) (.var 0)) (.bop .mod (.bop .sub (.var 1) (.var 3)) (.var 0)))]
def n_flag_is_up : List Str := ["raised", "place", "begin", "end"]
def i_flag_is_up : List IS := [.ret (.blt .any [.comp false [("begin", 2), ("end", 3)] (.tp [.nm 2, .nm 3]) (.seq (.var 0)) [] (.chain .le .lt (.var 2) (.var 1) (.var 3))])]
def n_heading_of : List Str := ["state", "behind", "size", "raised", "place", "facing"]
def i_heading_of : List IS := [.asg (.tp [.nm 2, .nm 3, .nm 4, .nm 5]) (.var 0), .asg (.nm 1) (.call "place_on" s_place_on [.var 2, .var 4, .var 5, .neg (.cst (.int 1))]), .ite (.tru (.call "flag_is_up" s_flag_is_up [.var 3, .var 1])) [.ret (.tup [.var 5, .var 4, .cst (.int 0)])] [], .ret (.ite (.tru (.call "flag_is_up" s_flag_is_up [.var 3, .var 4])) (.tup [.call "other_side" s_other_side [.var 5], .var 1, .cst (.int 1)]) (.tup [.var 5, .var 4, .cst (.int 2)]))]
def n_way_of : List Str := ["state"]
def i_way_of : List IS := [.ret (.sub (.call "heading_of" s_heading_of [.var 0]) (.cst (.int 0)))]
def n_spot_of : List Str := ["state"]
def i_spot_of : List IS := [.ret (.sub (.call "heading_of" s_heading_of [.var 0]) (.cst (.int 1)))]
def n_phase_of : List Str := ["state"]
def i_phase_of : List IS := [.ret (.sub (.call "heading_of" s_heading_of [.var 0]) (.cst (.int 2)))]
def n_law_other : List Str := ["_law_side"]
def i_law_other : List IS := [.ret (.dix ["right", "left"] [.str "left", .str "right"] (.var 0))]
def n_law_on : List Str := ["_law_size", "_law_place", "_law_side", "_law_many"]
def i_law_on : List IS := [.ret (.bop .mod (.bop .add (.var 1) (.bop .mul (.var 3) (.dix ["right", "left"] [.int 1, .int (-1)] (.var 2)))) (.var 0))]
theorem k_other_side : Keeps n_other_side i_other_side s_other_side := by
  rintro ds μ R E ⟨r, rfl, q⟩
  cases r <;> simp [n_other_side, i_other_side, side] <;> exact rt_ok q
theorem k_place_on : Keeps n_place_on i_place_on s_place_on := by
  rintro ds μ R E ⟨n, p, r, m, rfl, h, q⟩
  cases r <;> simp [n_place_on, i_place_on, side, h] <;> exact rt_ok q
theorem k_flag_is_up : Keeps n_flag_is_up i_flag_is_up s_flag_is_up := by
  rintro ds μ R E ⟨ps, x, rfl, h, q⟩
  simp [n_flag_is_up, i_flag_is_up, pairsD, h]
  refine wComp_map (fun p => .bl (decide (p.1 ≤ x) && decide (x < p.2))) (fun p _ R' q => ?_) ?_
  · simp [pairD]
    split <;> simp_all
  · simp [blsD_map]
    exact rt_ok q
theorem k_heading_of : Keeps n_heading_of i_heading_of s_heading_of := by
  rintro ds μ R E ⟨s, rfl, ⟨h1, h2⟩, q⟩
  simp [n_heading_of, i_heading_of, St4.d]
  refine ⟨_, _, _, _, rfl, h1, _, _, rfl, h2, ?_⟩
  unfold St4.hd at q
  cases e1 : flagUp s.ps (placeOn s.n s.pl s.rt (-1))
  · refine ⟨_, _, rfl, h2, ?_⟩
    cases e2 : flagUp s.ps s.pl
    · simp [e1, e2] at q ⊢
      exact ⟨by decide, rt_ok q⟩
    · simp [e1, e2] at q ⊢
      exact ⟨_, rfl, by decide, rt_ok q⟩
  · simp [e1] at q ⊢
    exact ⟨by decide, rt_ok q⟩
theorem k_way_of : Keeps n_way_of i_way_of s_way_of := by
  rintro ds μ R E ⟨s, rfl, h, q⟩
  simp [n_way_of, i_way_of]
  refine ⟨_, rfl, h, ?_⟩
  simp [atI, ixN]
  exact rt_ok q
theorem k_spot_of : Keeps n_spot_of i_spot_of s_spot_of := by
  rintro ds μ R E ⟨s, rfl, h, q⟩
  simp [n_spot_of, i_spot_of]
  refine ⟨_, rfl, h, ?_⟩
  simp [atI, ixN]
  exact rt_ok q
theorem k_phase_of : Keeps n_phase_of i_phase_of s_phase_of := by
  rintro ds μ R E ⟨s, rfl, h, q⟩
  simp [n_phase_of, i_phase_of]
  refine ⟨_, rfl, h, ?_⟩
  simp [atI, ixN]
  exact rt_ok q
theorem k_law_other : Keeps n_law_other i_law_other s_law_other := by
  rintro ds μ R E ⟨r, rfl, q⟩
  cases r <;> simp [n_law_other, i_law_other, side, List.lookup] <;> exact rt_ok q
theorem k_law_on : Keeps n_law_on i_law_on s_law_on := by
  rintro ds μ R E ⟨n, p, r, m, rfl, h, hm, q⟩
  have l : m.natAbs.log2 < 200 := log_of_lt (by decide) hm
  have l1 : Nat.log2 1 = 0 := by decide +kernel
  have c1 : CMulW m (-1) := by unfold CMulW; simp [l1]; omega
  have c2 : CMulW m 1 := by unfold CMulW; simp [l1]; omega
  cases r
  · simp [n_law_on, i_law_on, side, List.lookup, h, c1, lr1, lr3]
    exact rt_ok (by simpa using q)
  · simp [n_law_on, i_law_on, side, List.lookup, h, c2, lr2, lr4]
    exact rt_ok (by simpa using q)
theorem cut_all {α : Type} {xs : List α} {k : Nat} (h : xs.length ≤ k) : cutD xs none (some (k : Int)) = xs := by
  have e1 : HT.sIx xs.length 0 (none : Option Int) = 0 := rfl
  have e2 : HT.sIx xs.length xs.length (some (k : Int)) = xs.length := by
    have : ¬ ((k : Int) < 0) := by omega
    unfold HT.sIx
    simp [this]
    omega
  unfold cutD
  rw [e1, e2]
  simp
theorem c_pow3 {i : Int} (h0 : 0 ≤ i) (h : i < 2 ^ 63) : CPow i 3 := ⟨by decide, by decide, by omega⟩
theorem c_mulS {i j : Int} (h1 : i.natAbs < 2 ^ 200) (h2 : j.natAbs < 2 ^ 200) : CMulW i j := by
  have := log_of_lt (by decide) h1
  have := log_of_lt (by decide) h2
  unfold CMulW
  omega
theorem c_divS {i j : Int} (h0 : 0 < j) (h : j.natAbs < 2 ^ 200) : CDivW i j := ⟨h0, by have := log_of_lt (by decide) h; omega⟩
theorem wrap {C : Int} {x M : Int} (h : 0 < M) : 0 ≤ x % M ∧ x % M < M := ⟨Int.emod_nonneg _ (by omega), Int.emod_lt_of_pos _ h⟩
theorem ints_eq {cs : List Int} : EqOk (.lst (cs.map .int)) := by
  have h1 : ∀ cs : List Int, flats (cs.map D.int) = true ∧ PyData.canLayAll0 (pds (cs.map D.int)) = true ∧ PyData.depthAll (pds (cs.map D.int)) = 0 := by
    intro cs
    induction cs with
    | nil => simp [flats, pds, PyData.canLayAll0, PyData.depthAll]
    | cons c cs ih => simp [flats, flat, pds, pd, PyData.canLayAll0, PyData.canLay0, PyData.depthAll, PyData.depth, ih]
  obtain ⟨a, b, c⟩ := h1 cs
  refine ⟨a, ?_⟩
  unfold SeqAt.shaped
  simp [pd, PyData.canLay0, PyData.depth, b, c]
theorem eq_nil {cs : List Int} : eqD (.lst (cs.map .int)) (.lst []) = cs.isEmpty := by
  cases cs <;> simp [eqD, pd, pds, PyData.eqv, PyData.eqvAll]
end Tf

set_option linter.all false
namespace Tf
/-! ### how many runs there are -/
theorem nr_same (b : Bool) (l : List Bool) : nr (b :: b :: l) = nr (b :: l) := by
  have h : ∀ r : List Rn, rle (b :: l) = r → nr (b :: b :: l) = r.length := fun r e => by
    unfold nr
    rw [rle, e]
    have hh : ∃ k t, r = (bi b, k) :: t := by
      rw [← e, rle]
      split
      · exact ⟨_, _, rfl⟩
      · rename_i c k t _
        split
        · rename_i q; exact ⟨k + 1, t, by rw [q]⟩
        · exact ⟨_, _, rfl⟩
    obtain ⟨k, t, rfl⟩ := hh
    simp
  exact h _ rfl
theorem nr_other {b c : Bool} (h : b ≠ c) (l : List Bool) : nr (b :: c :: l) = nr (c :: l) + 1 := by
  unfold nr
  have hh : ∃ k t, rle (c :: l) = (bi c, k) :: t := by
    rw [rle]
    split
    · exact ⟨_, _, rfl⟩
    · rename_i d k t _
      split
      · rename_i q; exact ⟨k + 1, t, by rw [q]⟩
      · exact ⟨_, _, rfl⟩
  obtain ⟨k, t, e⟩ := hh
  rw [rle, e]
  have : ¬ bi c = bi b := fun z => h (bi_inj z.symm)
  simp [this]
/-- changes -/
def chg (f : Int → Bool) : Int → Bool := fun j => xor (f (j + 1)) (f j)
theorem tab_succ (k : Nat) (f : Int → Bool) : tab (k + 1) f = tab k f ++ [f k] := by simp [tab, List.range_succ]
theorem nr_tab (f : Int → Bool) : ∀ k : Nat, (nr (tab (k + 1) f) : Int) = 1 + cn (chg f) k
  | 0 => by simp [tab, nr, rle, cn]
  | k + 1 => by
    have i := nr_tab f k
    rw [tab_succ, ← nr_reverse] at i ⊢
    rw [tab_succ (f := f) (k := k)]
    rw [List.reverse_append] at i ⊢
    rw [List.reverse_append]
    simp only [List.reverse_cons, List.reverse_nil, List.nil_append, List.singleton_append, List.cons_append] at i ⊢
    rw [cn]
    have ec : chg f k = xor (f ((k : Int) + 1)) (f k) := rfl
    rw [ec]
    have ek : ((k + 1 : Nat) : Int) = (k : Int) + 1 := by omega
    rw [ek]
    by_cases q : f ((k : Int) + 1) = f k
    · rw [q, nr_same, i]
      simp [bi]
    · rw [nr_other q]
      have : xor (f ((k : Int) + 1)) (f k) = true := by
        cases h1 : f ((k : Int) + 1) <;> cases h2 : f k <;> simp_all
      rw [this]
      simp [bi]
      omega
def gp (h : Nat) (a : Int → Bool) : Int := cn (chg a) h
theorem gp_nr {h : Nat} (h0 : 0 < h) (a : Int → Bool) : (nr (tab h a) : Int) ≤ 1 + gp h a ∧ gp h a ≤ nr (tab h a) := by
  obtain ⟨k, rfl⟩ : ∃ k, h = k + 1 := ⟨h - 1, by omega⟩
  have i := nr_tab a k
  unfold gp
  rw [cn]
  cases chg a k <;> simp [bi] <;> omega
theorem cn_slide {f : Int → Bool} {h : Nat} (p : ∀ j, f (j + h) = f j) : cn (fun j => f (j + 1)) h = cn f h := by
  have e : ∀ k : Nat, cn (fun j => f (j + 1)) k = cn f k + bi (f k) - bi (f 0) := by
    intro k
    induction k with
    | zero => simp [cn]
    | succ k ih =>
      rw [cn, cn, ih]
      have : ((k + 1 : Nat) : Int) = (k : Int) + 1 := by omega
      rw [this]
      omega
  rw [e h]
  have := p 0
  rw [Int.zero_add] at this
  rw [this]
  omega
theorem cn_shift {f : Int → Bool} {h : Nat} (p : ∀ j, f (j + h) = f j) (m : Int) : cn (fun j => f (j + m)) h = cn f h := by
  refine sums_eq (F := fun m => cn (fun j => f (j + m)) h) (G := fun _ => cn f h) (by simp) (fun m => ?_) m
  have q : ∀ j, (fun j => f (j + m)) (j + h) = (fun j => f (j + m)) j := fun j => by
    show f (j + h + m) = f (j + m)
    rw [show j + (h : Int) + m = j + m + h by omega, p]
  have := cn_slide (f := fun j => f (j + m)) q
  have e : (fun j => f (j + (m + 1))) = fun j => f (j + 1 + m) := by funext j; congr 1; omega
  simp only [e]
  omega
theorem gp_shift {h : Nat} {a : Int → Bool} (p : Anti h a) (m : Int) : gp h (fun j => a (j + m)) = gp h a := by
  have c : ∀ j, chg a (j + h) = chg a j := fun j => by
    unfold chg
    rw [show j + (h : Int) + 1 = j + 1 + h by omega, p, p]
    cases a (j + 1) <;> cases a j <;> rfl
  unfold gp
  rw [← cn_shift c m]
  refine cn_ext fun i _ => ?_
  unfold chg
  show xor (a (i + 1 + m)) (a (i + m)) = _
  rw [show (i : Int) + 1 + m = i + m + 1 by omega]
/-! a turned table -/
theorem tab_rot {n : Nat} {f : Int → Bool} (p : Per n f) (k : Nat) (hk : k ≤ n) : (tab n f).drop k ++ (tab n f).take k = tab n fun i => f (i + k) := by
  rw [tab_drop, tab_take _ _ _ hk, tab_append]
  have : n - k + k = n := by omega
  rw [this]
  refine tab_ext fun i h0 h1 => ?_
  split
  · rfl
  · rw [← p (i - _)]
    congr 1
    omega
theorem nr_rot {n : Nat} {f : Int → Bool} (p : Per n f) (k : Nat) (hk : k ≤ n) : nr (tab n fun i => f (i + k)) ≤ 2 * nr (tab n f) := by
  rw [← tab_rot p k hk]
  have h1 := nr_append ((tab n f).drop k) ((tab n f).take k)
  have h2 := nr_cut (tab n f) k (n - k)
  have h3 := nr_cut (tab n f) 0 k
  rw [List.take_of_length_le (by simp [tab_len])] at h2
  simp at h3
  omega
/-- flags along a way -/
def along (f : Int → Bool) (sp : Int) (rt : Bool) : Int → Bool := fun i => f (sp + i * sg rt)
theorem along_per {n : Nat} {f : Int → Bool} (p : Per n f) (sp : Int) (rt : Bool) : Per n (along f sp rt) := fun x => by
  unfold along
  have : sp + (x + n) * sg rt = sp + x * sg rt + sg rt * n := by rw [Int.add_mul, Int.mul_comm (n : Int)]; omega
  rw [this, per_mul p]
theorem tab_along {n : Nat} {f : Int → Bool} (p : Per n f) {sp : Int} (h0 : 0 ≤ sp) (h1 : sp < n) (rt : Bool) : tab n (along f sp rt) = if rt then (tab n f).drop sp.toNat ++ (tab n f).take sp.toNat else (tab n f).reverse.drop (n - 1 - sp).toNat ++ (tab n f).reverse.take (n - 1 - sp).toNat := by
  cases rt
  · simp only [Bool.false_eq_true, if_false]
    rw [tab_reverse]
    have q : Per n (fun i => f (n - 1 - i)) := fun x => by
      show f _ = f _
      rw [show (n : Int) - 1 - x = (n - 1 - (x + n)) + n by omega, p]
    rw [tab_rot q _ (by omega)]
    refine tab_ext fun i _ _ => ?_
    unfold along
    congr 1
    simp [sg]
    omega
  · simp only [if_true]
    rw [tab_rot p _ (by omega)]
    refine tab_ext fun i _ _ => ?_
    unfold along
    congr 1
    simp [sg]
    omega
theorem nr_along {n : Nat} {f : Int → Bool} (p : Per n f) {sp : Int} (h0 : 0 ≤ sp) (h1 : sp < n) (rt : Bool) : nr (tab n (along f sp rt)) ≤ 2 * nr (tab n f) := by
  have go : ∀ (l : List Bool) (k : Nat), nr (l.drop k ++ l.take k) ≤ 2 * nr l := fun l k => by
    have h1 := nr_append (l.drop k) (l.take k)
    have h2 := nr_cut l k l.length
    have h3 := nr_cut l 0 k
    rw [List.take_of_length_le (by simp)] at h2
    simp at h3
    omega
  rw [tab_along p h0 h1]
  cases rt
  · simp only [Bool.false_eq_true, if_false]
    have := go (tab n f).reverse (n - 1 - sp).toNat
    rwa [nr_reverse] at this
  · exact go _ _
theorem along_inv {f : Int → Bool} {sp : Int} {rt : Bool} : f = along (along f sp rt) (- sp * sg rt) rt := by
  funext x
  unfold along
  congr 1
  rw [Int.add_mul, Int.mul_assoc, sg_sq, Int.mul_assoc, sg_sq]
  omega
/-- what comes ahead of the spot -/
theorem word_tab {r : Rg} (k : r.ok) : tab (r.n - 1) r.wd = (decide (0 < r.hd.2.2) || r.up r.hd.2.1) :: ((tab r.n (along r.up r.hd.2.1 r.hd.1)).drop 1).take (r.n - 2) := by
  have hn := k.n2
  rw [tab_drop, tab_take _ _ _ (by omega), tab_cons]
  have : r.n - 2 + 1 = r.n - 1 := by omega
  rw [this]
  refine tab_ext fun i h0 h1 => ?_
  unfold Rg.wd
  rw [extW_at h0 h1]
  split
  · rfl
  · show _ = along r.up r.hd.2.1 r.hd.1 (i - 1 + (1 : Nat))
    unfold along
    congr 2
    simp
theorem nr_word {r : Rg} (k : r.ok) : nr (tab (r.n - 1) r.wd) ≤ 2 * nr (tab r.n r.up) + 1 := by
  obtain ⟨h1, h2, _⟩ := r.hd_ok k
  rw [word_tab k]
  have e : ∀ (b : Bool) (l : List Bool), b :: l = [b] ++ l := fun _ _ => rfl
  rw [e]
  have a := nr_append [decide (0 < r.hd.2.2) || r.up r.hd.2.1] (((tab r.n (along r.up r.hd.2.1 r.hd.1)).drop 1).take (r.n - 2))
  have b := nr_cut (tab r.n (along r.up r.hd.2.1 r.hd.1)) 1 (r.n - 2)
  have c := nr_along k.per h1 h2 r.hd.1
  have d := nr_le [decide (0 < r.hd.2.2) || r.up r.hd.2.1]
  simp only [List.length_singleton] at d
  omega
theorem al_tab {c : Cf} (k : c.ok) : tab c.n c.al = c.al 0 :: (((tab (c.n - 1) c.a).drop 1).take (c.n - 2) ++ [!decide (c.ph = 2)]) := by
  have hn := k.n2
  rw [tab_drop, tab_take _ _ _ (by omega), tab_one, tab_append, tab_cons]
  have : c.n - 2 + 1 + 1 = c.n := by omega
  rw [this]
  refine tab_ext fun i h0 h1 => ?_
  split
  · rename_i z; rw [z]
  · rename_i z
    unfold Cf.al
    rw [if_neg z]
    split
    · rw [if_neg (by omega)]
    · rw [if_pos (by omega)]
      congr 1
      omega
theorem nr_al {c : Cf} (k : c.ok) : nr (tab c.n c.al) ≤ nr (tab (c.n - 1) c.a) + 2 := by
  rw [al_tab k]
  have e : ∀ (b : Bool) (l : List Bool), b :: l = [b] ++ l := fun _ _ => rfl
  rw [e]
  have a := nr_append [c.al 0] (((tab (c.n - 1) c.a).drop 1).take (c.n - 2) ++ [!decide (c.ph = 2)])
  have b := nr_append (((tab (c.n - 1) c.a).drop 1).take (c.n - 2)) [!decide (c.ph = 2)]
  have d := nr_cut (tab (c.n - 1) c.a) 1 (c.n - 2)
  have e1 := nr_le [c.al 0]
  have e2 := nr_le [!decide (c.ph = 2)]
  simp only [List.length_singleton] at e1 e2
  omega
/-- the ring's flags from place 0 on -/
theorem ring_along {c : Cf} (k : c.ok) : tab c.n c.ring.up = tab c.n (along (fun i => c.al (i % c.n)) ((- c.sp * sg c.rt) % c.n) c.rt) := by
  refine tab_ext fun x _ _ => ?_
  show c.al _ = c.al _
  congr 1
  rw [md_add]
  congr 1
  rw [Int.sub_mul, Int.neg_mul]
  omega
theorem al_mod_per (c : Cf) : Per c.n fun i => c.al (i % c.n) := fun x => by
  show c.al _ = c.al _
  congr 1
  simp
theorem al_mod_tab {c : Cf} : tab c.n (fun i => c.al (i % c.n)) = tab c.n c.al := tab_ext fun i h0 h1 => by rw [Int.emod_eq_of_lt h0 h1]
theorem nr_ring {c : Cf} (k : c.ok) : nr (tab c.n c.ring.up) ≤ 2 * nr (tab (c.n - 1) c.a) + 4 := by
  have hn := k.n2
  rw [ring_along k]
  have r := md_rng (- c.sp * sg c.rt) (n := c.n) (by omega)
  have a := nr_along (al_mod_per c) r.1 r.2 c.rt
  rw [al_mod_tab] at a
  have b := nr_al k
  omega
/-- rings that the programs can hold -/
structure Rg.fit (r : Rg) : Prop where
  ok : r.ok
  big : r.n ≤ 10 ^ 13
  few : gp (r.n - 1) r.wd ≤ 10000
theorem Rg.fit_of {r : Rg} (k : r.ok) (h : r.n ≤ 10 ^ 13) (f : nr (tab r.n r.up) ≤ 4900) : r.fit := by
  have hn := k.n2
  refine ⟨k, h, ?_⟩
  have := nr_word k
  have := (gp_nr (h := r.n - 1) (by omega) r.wd).2
  omega
theorem Rg.fit.go {r : Rg} (k : r.fit) (t : Int) : (r.go t).fit := by
  have e : (r.go t).wd = (r.cf.go t).a := by
    have := Rg.go_cf k.ok t
    show (r.go t).cf.a = _
    rw [this]
  refine ⟨Rg.go_ok k.ok t, k.big, ?_⟩
  show gp (r.n - 1) (r.go t).wd ≤ 10000
  rw [e]
  show gp (r.n - 1) (fun j => r.wd (j + _)) ≤ 10000
  have an : Anti (r.n - 1) r.wd := (Rg.cf_ok k.ok).an
  rw [gp_shift an]
  exact k.few
theorem Rg.fit.nrs {r : Rg} (k : r.fit) : nr (tab r.n r.up) ≤ 21000 ∧ nr (tab (r.n - 1) r.wd) ≤ 10001 := by
  have hn := k.ok.n2
  have a := (gp_nr (h := r.n - 1) (by omega) r.wd).1
  have b := nr_ring (Rg.cf_ok k.ok)
  have c := k.few
  rw [Rg.cf_ring k.ok] at b
  have b' : nr (tab r.n r.up) ≤ 2 * nr (tab (r.n - 1) r.wd) + 4 := b
  omega
/-- words that the programs can hold -/
structure Wf (h : Nat) (a : Int → Bool) : Prop where
  pos : 0 < h
  an : Anti h a
  big : h ≤ 10 ^ 13
  few : gp h a ≤ 10000
theorem Wf.shift {h : Nat} {a : Int → Bool} (k : Wf h a) (m : Int) : Wf h fun j => a (j + m) := ⟨k.pos, k.an.shift m, k.big, by rw [gp_shift k.an]; exact k.few⟩
theorem Wf.nr {h : Nat} {a : Int → Bool} (k : Wf h a) : Tf.nr (tab h a) ≤ 10001 := by
  have a := (gp_nr k.pos a).1
  have := k.few
  omega
theorem Rg.fit.wf {r : Rg} (k : r.fit) : Wf (r.n - 1) r.wd := ⟨by have := k.ok.n2; omega, (Rg.cf_ok k.ok).an, by have := k.big; omega, k.few⟩
/-! what the words' functions compute -/
theorem ones_sum {h : Nat} {a : Int → Bool} (k : Anti h a) (h0 : 0 < h) (m : Int) : m / (2 * h) * h + cn a (if (h : Int) < m % (2 * h) then (h : Int) else m % (2 * h)).toNat + cn (fun i => !a i) (if (h : Int) < m % (2 * h) then m % (2 * h) - h else 0).toNat = Sm h a m := by
  unfold Sm
  have r0 := md_rng m (n := 2 * (h : Int)) (by omega)
  generalize m % (2 * (h : Int)) = r at *
  by_cases q : (h : Int) < r
  · rw [if_pos q, if_pos q]
    have e : r.toNat = h + (r - h).toNat := by omega
    rw [e, cn_add]
    have : cn (fun i => a (h + i)) (r - h).toNat = cn (fun i => !a i) (r - h).toNat := cn_ext fun i _ => by rw [Int.add_comm, k]
    rw [this, Int.toNat_natCast]
    omega
  · rw [if_neg q, if_neg q]
    simp [cn]
theorem moved_tab {h : Nat} {a : Int → Bool} (k : Anti h a) (h0 : 0 < h) (m : Int) : (((tab h a ++ (tab h a).map not) ++ tab h a).drop (m % (2 * h)).toNat).take h = tab h fun j => a (j + m) := by
  have r0 := md_rng m (n := 2 * (h : Int)) (by omega)
  have e : (tab h a ++ (tab h a).map not) ++ tab h a = tab (h + h + h) a := by
    rw [tab_not, tab_append, tab_append]
    refine tab_ext fun i q0 q1 => ?_
    split
    · split
      · rfl
      · have : i = (i - h) + h := by omega
        conv => rhs; rw [this, k]
    · rw [← k.two]
      congr 1
      omega
  rw [e, tab_drop, tab_take _ _ _ (by omega)]
  refine tab_ext fun i _ _ => ?_
  have p := per_mod (f := fun x => a (i + x)) (P := 2 * h) (fun x => by show a _ = a _; rw [show i + (x + 2 * (h : Int)) = i + x + 2 * h by omega, k.two]) m
  show a _ = a _
  rw [← p]
  congr 1
  omega
/-- the flags of a ring from its word, as state_from lays them -/
theorem from_tab {c : Cf} (k : c.ok) : (if c.rt then (tab c.n c.al).drop (c.n - c.sp).toNat ++ (tab c.n c.al).take (c.n - c.sp).toNat else (tab c.n c.al).reverse.drop (c.n - (c.sp + 1) % c.n).toNat ++ (tab c.n c.al).reverse.take (c.n - (c.sp + 1) % c.n).toNat) = tab c.n c.ring.up := by
  have hn := k.n2
  have h0 := k.sp0
  have h1 := k.sp1
  rw [ring_along k, tab_along (al_mod_per c) (md_rng _ (by omega)).1 (md_rng _ (by omega)).2, al_mod_tab]
  have whole : ∀ l : List Bool, l.length = c.n → l.drop c.n ++ l.take c.n = l := fun l hl => by
    rw [List.drop_of_length_le (by omega), List.take_of_length_le (by omega)]
    rfl
  cases hr : c.rt
  · simp only [Bool.false_eq_true, if_false, sg]
    have e2 : (- c.sp * -1) % (c.n : Int) = c.sp := by
      rw [show - c.sp * -1 = c.sp by omega]
      exact Int.emod_eq_of_lt h0 h1
    rw [e2]
    by_cases z : c.sp + 1 < c.n
    · rw [Int.emod_eq_of_lt (by omega) z]
      have : ((c.n : Int) - (c.sp + 1)).toNat = ((c.n : Int) - 1 - c.sp).toNat := by omega
      rw [this]
    · have e : c.sp + 1 = c.n := by omega
      rw [e, Int.emod_self]
      have e1 : ((c.n : Int) - 0).toNat = c.n := by omega
      have e3 : ((c.n : Int) - 1 - c.sp).toNat = 0 := by omega
      rw [e1, e3, whole _ (by simp [tab_len])]
      simp
  · simp only [if_true, sg]
    by_cases z : c.sp = 0
    · rw [z]
      have e1 : ((c.n : Int) - 0).toNat = c.n := by omega
      rw [e1, whole _ (tab_len _ _)]
      simp
    · have e2 : (- c.sp * 1) % (c.n : Int) = c.n - c.sp := by
        rw [show - c.sp * 1 = - c.sp by omega, md_near (by omega) (by omega), if_pos (by omega)]
        omega
      rw [e2]
end Tf

set_option Elab.async false
set_option linter.all false
set_option maxRecDepth 100000
set_option maxHeartbeats 1000000
namespace Tf
open PySem PySem.Spec PyProof.Rows L2
/-! ### more plain tools -/
theorem sum_ints (ls : List Int) : intsD (ls.map D.int) = some ls := by
  have := intsD_map (fun x : Int => x) ls
  simpa using this
theorem at_int {ls : List Int} {i : Nat} {x : D} (h : (ls.map D.int)[i]? = some x) : ∃ l r, x = .int l ∧ ls.drop i = l :: r ∧ ls.drop (i + 1) = r ∧ l ∈ ls := by
  rw [List.getElem?_map] at h
  obtain ⟨l, h1, rfl⟩ := Option.map_eq_some_iff.mp h
  obtain ⟨h2, h3⟩ := List.getElem?_eq_some_iff.mp h1
  refine ⟨l, ls.drop (i + 1), rfl, ?_, rfl, List.mem_of_getElem? h1⟩
  rw [List.drop_eq_getElem_cons h2, h3]
theorem pairs_eq {ps : List (Int × Int)} : EqOk (.lst (ps.map pairD)) := by
  have h1 : ∀ ps : List (Int × Int), flats (ps.map pairD) = true ∧ PyData.canLayAll0 (pds (ps.map pairD)) = true ∧ PyData.depthAll (pds (ps.map pairD)) ≤ 1 := by
    intro ps
    induction ps with
    | nil => simp [flats, pds, PyData.canLayAll0, PyData.depthAll]
    | cons c cs ih => simp [pairD, flats, flat, pds, pd, PyData.canLayAll0, PyData.canLay0, PyData.depthAll, PyData.depth] at ih ⊢; exact ⟨ih.1, ih.2.1, by omega⟩
  obtain ⟨a, b, c⟩ := h1 ps
  refine ⟨a, ?_⟩
  unfold SeqAt.shaped
  simp [pd, PyData.canLay0, PyData.depth, b]
  omega
theorem pairs_nil {ps : List (Int × Int)} : eqD (.lst (ps.map pairD)) (.lst []) = ps.isEmpty := by
  cases ps <;> simp [eqD, pd, pds, PyData.eqv, PyData.eqvAll]
theorem prs_map (ps : List (Int × Int)) : prsD (ps.map pairD) = some ps := by
  induction ps with
  | nil => rfl
  | cons p ps ih => simp [pairD, prsD] at ih ⊢; exact ih
theorem last_at {α : Type} {xs : List α} {x : α} : atI (xs ++ [x]) (-1) = some x := by
  have h : ixN (xs ++ [x]).length (-1) = some xs.length := by
    unfold ixN
    rw [if_neg (by omega), if_pos (by simp; omega)]
    simp
    omega
  unfold atI
  rw [h]
  simp
theorem ite_len {α : Type} {c : Prop} [Decidable c] {x : α} : (if c then [x] else []).length ≤ 1 := by split <;> simp
theorem mput_swap {μ : Mu} {a b : Addr} {x y : List D} (h : a ≠ b) : mput (mput μ a x) b y = mput (mput μ b y) a x := by
  funext c
  unfold mput
  by_cases h1 : c = a
  · subst h1
    simp [h]
  · simp [h1]
theorem at_pair {ps : List (Int × Int)} {i : Nat} {x : D} (h : (ps.map pairD)[i]? = some x) : ∃ p r, x = pairD p ∧ ps.drop i = p :: r ∧ ps.drop (i + 1) = r ∧ i < ps.length := by
  rw [List.getElem?_map] at h
  obtain ⟨l, h1, rfl⟩ := Option.map_eq_some_iff.mp h
  obtain ⟨h2, h3⟩ := List.getElem?_eq_some_iff.mp h1
  refine ⟨l, ps.drop (i + 1), rfl, ?_, rfl, h2⟩
  rw [List.drop_eq_getElem_cons h2, h3]
theorem ints_ofM {M : Int} : ∀ {ys : List D}, (∀ y ∈ ys, ∃ l, y = .int l ∧ 1 ≤ l ∧ l ≤ M) → ∃ ls : List Int, ys = ls.map .int ∧ ∀ l ∈ ls, 1 ≤ l ∧ l ≤ M
  | [], _ => ⟨[], rfl, by simp⟩
  | y :: ys, h => by
    obtain ⟨b, rfl, h1, h2⟩ := h y (by simp)
    obtain ⟨fl, rfl, h3⟩ := ints_ofM (ys := ys) fun z hz => h z (by simp [hz])
    exact ⟨b :: fl, rfl, by simpa using ⟨⟨h1, h2⟩, h3⟩⟩
theorem sum_pos : ∀ ls : List Int, (∀ l ∈ ls, 1 ≤ l) → 0 ≤ ls.sum
  | [], _ => by simp
  | l :: ls, h => by
    have h1 := h l (by simp)
    have h2 := sum_pos ls fun x hx => h x (by simp [hx])
    simp
    omega
theorem sum_le {M : Int} : ∀ ls : List Int, (∀ l ∈ ls, l ≤ M) → ls.sum ≤ ls.length * M
  | [], _ => by simp
  | l :: ls, h => by
    have h1 := h l (by simp)
    have h2 := sum_le ls fun x hx => h x (by simp [hx])
    rw [List.sum_cons, List.length_cons]
    have : ((ls.length + 1 : Nat) : Int) * M = ls.length * M + M := by rw [Int.natCast_add, Int.add_mul]; simp
    omega
end Tf

set_option Elab.async false
set_option linter.all false
set_option maxRecDepth 100000
set_option maxHeartbeats 1000000
namespace Tf
open PySem PySem.Spec PyProof.Rows L2
/-! ### the deck -/
structure Deck (p q : Addr) (n : Nat) (μ : Mu) : Prop where
  ne : p ≠ q
  top : μ p = some [.ref q, .int n]
  cells : ∃ cs : List Int, μ q = some (cs.map .int) ∧ cs.length ≤ 63 ∧ ∀ x ∈ cs, 0 ≤ x
/-- what else there is stays -/
def Rest (p q : Addr) (μ μ' : Mu) : Prop := ∀ a, a ≠ p → a ≠ q → μ' a = μ a
def s_law_deck : Spec := fun ds μ R _ => ∃ ns : List Int, ds = [.lsf (ns.map .int)] ∧ ns.length ≤ 63 ∧ ∀ p q μ', Deck p q 0 μ' → Sub μ μ' → R (.ref p) μ'
def s_law_draw : Spec := fun ds μ R _ => ∃ p q n m, ds = [.ref p, .int m] ∧ Deck p q n μ ∧ n < 2 ^ 40 ∧ 0 < m ∧ m < 2 ^ 60 ∧ ∀ r μ', 0 ≤ r → r < m → Deck p q (n + 1) μ' → Rest p q μ μ' → R (.int r) μ'

def n_law_deck : List Str := ["_law_script", "_law_cell"]
def i_law_deck : List IS := [.ret (.lst true [.comp true [("_law_cell", 1)] (.nm 1) (.seq (.slc (.var 0) none (some (.cst (.int 63))))) [] (.blt .abs [.var 1]), .cst (.int 0)])]
def n_law_draw : List Str := ["_law_deck_here", "_law_many", "_law_mixed", "_law_cell", "_law_seat"]
def i_law_draw : List IS := [.set (.var 0) (.cst (.int 1)) (.bop .add (.sub (.var 0) (.cst (.int 1))) (.cst (.int 1))), .asg (.tp [.nm 3, .nm 4]) (.tup [.cst (.int 0), .cst (.int 0)]), .ite (.cmp .ne (.sub (.var 0) (.cst (.int 0))) (.lst false [])) [.asg (.nm 4) (.bop .mod (.sub (.var 0) (.cst (.int 1))) (.blt .len [.sub (.var 0) (.cst (.int 0))])), .asg (.nm 3) (.sub (.sub (.var 0) (.cst (.int 0))) (.var 4))] [], .ite (.cmp .ge (.var 3) (.bop .pow (.cst (.int 10)) (.cst (.int 18)))) [.set (.sub (.var 0) (.cst (.int 0))) (.var 4) (.bop .fdiv (.var 3) (.var 1)), .ret (.bop .mod (.var 3) (.var 1))] [], .asg (.nm 2) (.bop .mod (.bop .pow (.bop .add (.bop .add (.bop .mod (.var 3) (.cst (.int 2147483629))) (.bop .mul (.cst (.int 7919)) (.sub (.var 0) (.cst (.int 1))))) (.cst (.int 23))) (.cst (.int 3))) (.cst (.int 2147483587))), .asg (.nm 2) (.bop .mod (.bop .pow (.bop .add (.var 2) (.bop .mul (.cst (.int 104729)) (.sub (.var 0) (.cst (.int 1))))) (.cst (.int 3))) (.cst (.int 2147483563))), .ret (.bop .mod (.bop .fdiv (.var 2) (.cst (.int 8))) (.var 1))]
theorem k_law_deck : Keeps n_law_deck i_law_deck s_law_deck := by
  rintro ds μ R E ⟨ns, rfl, hl, q⟩
  have c := cut_all (xs := ns.map D.int) (k := 63) (by simpa using hl)
  have c' : cutD (ns.map D.int) none (some 63) = ns.map D.int := c
  simp [n_law_deck, i_law_deck, c']
  refine ⟨by unfold sz; omega, wComp_map (fun i => .int (if i < 0 then -i else i)) (fun i _ R' h => by simp []; exact h) ?_⟩
  intro q' hq'
  refine ⟨by decide, fun p hp => rt_ok (q p q' _ ⟨?_, ?_, ?_⟩ ?_)⟩
  · intro e
    subst e
    rw [mput_same] at hp
    cases hp
  · exact mput_same
  · refine ⟨ns.map fun i => if i < 0 then -i else i, ?_, by simpa using hl, ?_⟩
    · have ne : q' ≠ p := by
        intro e
        subst e
        rw [mput_same] at hp
        cases hp
      rw [mput_ne ne, mput_same, List.map_map]
      rfl
    · intro x hx
      obtain ⟨y, _, rfl⟩ := List.mem_map.mp hx
      split <;> omega
  · exact (sub_mput hq').trans (sub_mput hp)
theorem k_law_draw : Keeps n_law_draw i_law_draw s_law_draw := by
  rintro ds μ R E ⟨p, q, n, m, rfl, ⟨hne, hp, cs, hq, hl, h0⟩, hn, hm, hm2, qq⟩
  have c0 : CPow 10 18 := ⟨by decide, by decide, by decide⟩
  -- the last rows, from a cell on
  have top : ∀ c : Int, 0 ≤ c → c < 2147483629 → CMulW 7919 (n + 1) ∧ CPow (c + 7919 * (n + 1) + 23) 3 ∧ CMulW 104729 (n + 1) ∧ CPow ((c + 7919 * (n + 1) + 23) ^ 3 % 2147483587 + 104729 * (n + 1)) 3 := fun c h1 h2 => by
    have := wrap (C := 0) (x := (c + 7919 * (n + 1) + 23) ^ 3) (M := 2147483587) (by decide)
    exact ⟨c_mulS (by decide) (by omega), c_pow3 (by omega) (by omega), c_mulS (by decide) (by omega), c_pow3 (by omega) (by omega)⟩
  have deck1 : Deck p q (n + 1) (mput μ p [.ref q, .int (n + 1)]) := ⟨hne, by rw [mput_same]; simp, cs, by rw [mput_ne (Ne.symm hne)]; exact hq, hl, h0⟩
  have rest1 : Rest p q μ (mput μ p [.ref q, .int (n + 1)]) := fun a a1 a2 => mput_ne a1
  cases ec : cs with
  | nil =>
    subst ec
    simp [n_law_draw, i_law_draw, hp, hq, hne, Ne.symm hne, atI, ixN, mput_same, mput_ne (Ne.symm hne)]
    have t := top 0 (by decide) (by decide)
    simp at t
    refine ⟨by decide, ints_eq (cs := []), c0, t.1, t.2.1, t.2.2.1, t.2.2.2, c_divS (by decide) (by decide), hm, rt_ok (qq _ _ (wrap (C := 0) hm).1 (wrap (C := 0) hm).2 deck1 rest1)⟩
  | cons c1 cs1 =>
    obtain ⟨j, hj, hlt⟩ : ∃ j : Nat, ((n : Int) + 1) % (cs.length : Int) = j ∧ j < cs.length := by
      have : 0 < cs.length := by rw [ec]; simp
      have := wrap (C := 0) (x := (n : Int) + 1) (M := cs.length) (by omega)
      exact ⟨(((n : Int) + 1) % (cs.length : Int)).toNat, by omega, by omega⟩
    obtain ⟨c, hc⟩ : ∃ c, cs[j]? = some c := ⟨cs[j], List.getElem?_eq_getElem hlt⟩
    have hc0 : 0 ≤ c := h0 c (List.mem_of_getElem? hc)
    have en : eqD (.lst (cs.map .int)) (.lst []) = false := by rw [eq_nil, ec]; rfl
    have l0 : 0 < cs.length := by omega
    rw [← ec] at *
    simp [n_law_draw, i_law_draw, hp, hq, hne, Ne.symm hne, atI, ixN, mput_same, mput_ne (Ne.symm hne), en, hj, hlt, hc, l0]
    refine ⟨by decide, ints_eq, ints_eq (cs := []), c0, ?_⟩
    have hc1 : 0 ≤ cs[j] := h0 _ (List.getElem_mem hlt)
    by_cases big : 1000000000000000000 ≤ cs[j]
    · simp only [big, decide_true]
      refine ⟨c_divS hm (by omega), hm, rt_ok (qq _ _ (wrap (C := 0) hm).1 (wrap (C := 0) hm).2 ⟨hne, ?_, cs.set j (cs[j] / m), ?_, by simpa using hl, ?_⟩ ?_)⟩
      · rw [mput_ne hne, mput_same]; simp
      · rw [mput_same, List.map_set]
      · intro x hx
        rcases List.mem_or_eq_of_mem_set hx with h | h
        · exact h0 x h
        · rw [h]; exact Int.ediv_nonneg hc1 (by omega)
      · intro a a1 a2
        rw [mput_ne a2, mput_ne a1]
    · simp only [big, decide_false]
      have w := wrap (C := 0) (x := cs[j]) (M := 2147483629) (by decide)
      have t := top _ w.1 w.2
      refine ⟨t.1, t.2.1, t.2.2.1, t.2.2.2, c_divS (by decide) (by decide), hm, rt_ok (qq _ _ (wrap (C := 0) hm).1 (wrap (C := 0) hm).2 deck1 rest1)⟩
theorem Rest.refl {p q : Addr} {μ : Mu} : Rest p q μ μ := fun _ _ _ => rfl
theorem Rest.trans {p q : Addr} {a b c : Mu} (x : Rest p q a b) (y : Rest p q b c) : Rest p q a c := fun e h1 h2 => (y e h1 h2).trans (x e h1 h2)
theorem draw_bits {p q : Addr} {n : Nat} {m c : Int} {μ : Mu} {xs : List D} {R : List D → Mu → Prop} (dk : Deck p q n μ) (hn : n + xs.length < 2 ^ 40) (h0 : 0 < m) (h1 : m < 2 ^ 60)
    (h : ∀ (fl : List Bool) μ', fl.length = xs.length → Deck p q (n + xs.length) μ' → Rest p q μ μ' → R (fl.map .bl) μ') :
    wComp (fun _ => True) (fun x μ2 R => s_law_draw [.ref p, .int m] μ2 (fun x μ1 => wCop .eq (vw μ1 x) (.int c) μ1 fun k μ3 => R (some (.bl k)) μ3) noX) xs μ R := by
  refine wComp_run (fun i μ' => Deck p q (n + i) μ' ∧ Rest p q μ μ') (fun d => ∃ b, d = .bl b) xs.length (fun _ _ _ => trivial) (i := 0) (by simp) (fun i μ' x R' hi hx ⟨d1, e1⟩ k => ?_) ⟨dk, Rest.refl⟩ fun ys μ' hl hg ⟨d3, e3⟩ => ?_
  · refine ⟨p, q, _, _, rfl, d1, by omega, h0, h1, fun r μ3 a b d2 e2 => ?_⟩
    simp []
    exact k _ _ ⟨_, rfl⟩ ⟨d2, e1.trans e2⟩
  · obtain ⟨fl, rfl⟩ := bools_of hg
    exact h fl μ' (by simpa using hl) d3 e3
theorem Deck.other {p q a : Addr} {n : Nat} {μ : Mu} {x : List D} (dk : Deck p q n μ) (h1 : a ≠ p) (h2 : a ≠ q) : Deck p q n (mput μ a x) ∧ Deck p q n (mdel μ a) := by
  obtain ⟨ne, t, cs, c1, c2, c3⟩ := dk
  exact ⟨⟨ne, by rw [mput_ne (Ne.symm h1)]; exact t, cs, by rw [mput_ne (Ne.symm h2)]; exact c1, c2, c3⟩, ⟨ne, by rw [mdel_ne (Ne.symm h1)]; exact t, cs, by rw [mdel_ne (Ne.symm h2)]; exact c1, c2, c3⟩⟩
theorem Deck.new {p q a : Addr} {n : Nat} {μ : Mu} (dk : Deck p q n μ) (h : μ a = none) : a ≠ p ∧ a ≠ q := by
  obtain ⟨ne, t, cs, c1, c2, c3⟩ := dk
  refine ⟨fun e => ?_, fun e => ?_⟩
  · rw [e, t] at h; cases h
  · rw [e, c1] at h; cases h
end Tf

set_option Elab.async false
set_option linter.all false
set_option maxRecDepth 100000
set_option maxHeartbeats 1000000
namespace Tf
open PySem PySem.Spec PyProof.Rows L2
/-! ### words, their far states -/
structure Wd where
  up : Int
  ls : List Int
def Wd.ok (w : Wd) : Prop := (w.up = 0 ∨ w.up = 1) ∧ w.ls ≠ [] ∧ w.ls.length ≤ 41 ∧ (∀ l ∈ w.ls, 1 ≤ l) ∧ w.ls.sum ≤ 999999999999
def Wd.n (w : Wd) : Int := w.ls.sum + 1
def Wd.ds (w : Wd) : List D := [.int w.up, .lst (w.ls.map .int)]
def Wd.d (w : Wd) : D := .lst w.ds
/-- the raised stretches by their places on the way -/
def upOn (ph : Int) : Int → Int → List Int → List (Int × Int)
  | _, _, [] => []
  | up, seat, l :: ls =>
    let b := if (if ph > 0 then 1 else 0) > seat then (if ph > 0 then 1 else 0) else seat
    (if up = 1 ∧ b < seat + l then [(b, seat + l - b)] else []) ++ upOn ph (1 - up) (seat + l) ls
def Wd.found (w : Wd) (ph : Int) : List (Int × Int) := upOn ph w.up 0 w.ls ++ (if ph < 2 then [(w.n - 1, 1)] else [])
def Wd.str (w : Wd) (spot : Int) (r : Bool) (ph : Int) : List (Int × Int) := (w.found ph).map fun q => if r then ((spot + q.1) % w.n, q.2) else ((spot - q.1 - q.2 + 1) % w.n, q.2)
def partsOf (n : Int) (str : List (Int × Int)) : List (Int × Int) := str.flatMap fun q => (q.1, if q.1 + q.2 < n then q.1 + q.2 else n) :: (if q.1 + q.2 > n then [(0, q.1 + q.2 - n)] else [])
/-- neighbours put together; the last pair made stands apart -/
def touch (acc : List (Int × Int)) (b : Int) : Bool := match acc.getLast? with | some q => decide (q.2 = b) | none => false
def joinOn : List (Int × Int) → List (Int × Int) → List (Int × Int)
  | acc, [] => acc
  | acc, (b, e) :: r => if touch acc b then joinOn (acc.dropLast ++ [((acc.getLast?.map (·.1)).getD 0, e)]) r else joinOn (acc ++ [(b, e)]) r
def s_law_great : Spec := fun ds μ R _ => ∃ p q n m, ds = [.ref p, .int m] ∧ Deck p q n μ ∧ n < 2 ^ 35 ∧ 0 < m ∧ m < 2 ^ 100 ∧ ∀ r μ', 0 ≤ r → r < m → Deck p q (n + 5) μ' → Rest p q μ μ' → R (.int r) μ'
def s_law_word : Spec := fun ds μ R _ => ∃ p q n, ds = [.ref p] ∧ Deck p q n μ ∧ n < 2 ^ 34 ∧ ∀ (w : Wd) a n' μ', w.ok → n' ≤ n + 1000 → Deck p q n' μ' → a ≠ p → a ≠ q → μ' a = some w.ds → R (.ref a) μ'
def s_law_stretches : Spec := fun ds μ R _ => ∃ (w : Wd) (spot : Int) (r : Bool) (ph : Int), ds = [w.d, .int spot, side r, .int ph] ∧ w.ok ∧ R (.lst ((w.str spot r ph).map pairD)) μ
def s_law_faraway : Spec := fun ds μ R _ => ∃ (w : Wd) (spot : Int) (r : Bool) (ph : Int), ds = [w.d, .int spot, side r, .int ph] ∧ w.ok ∧ ∀ ms : List (Int × Int), ms.Perm (partsOf w.n (w.str spot r ph)) → ms.Pairwise lexLe → R (St4.d ⟨w.n, joinOn [] ms, if ph = 1 then (spot + (-1) * (if r then 1 else -1)) % w.n else spot, if ph = 1 then !r else r⟩) μ
def s_law_drawn : Spec := fun ds μ R _ => ∃ p q n, ds = [.ref p] ∧ Deck p q n μ ∧ n < 2 ^ 33 ∧ ∀ (w : Wd) spot r ph n' μ', w.ok → (0 < ph → w.up = 1) → 0 ≤ spot → spot < w.n → 0 ≤ ph → ph ≤ 2 → n' ≤ n + 2000 → Deck p q n' μ' → R (.lst [w.d, .int spot, side r, .int ph]) μ'
def n_law_great : List Str := ["_law_deck_here", "_law_many", "_law_found", "_law_k"]
def i_law_great : List IS := [.asg (.nm 2) (.cst (.int 0)), .for_ [3] (.nm 3) (.range1 (.cst (.int 5))) [.asg (.nm 2) (.bop .add (.bop .mul (.var 2) (.bop .pow (.cst (.int 10)) (.cst (.int 6)))) (.call "_law_draw" s_law_draw [.var 0, .bop .pow (.cst (.int 10)) (.cst (.int 6))]))], .ret (.bop .mod (.var 2) (.var 1))]
def n_law_word : List Str := ["_law_deck_here", "_law_count", "_law_great_here", "_law_lengths", "_law_k"]
def i_law_word : List IS := [.asg (.nm 1) (.bop .add (.cst (.int 1)) (.call "_law_draw" s_law_draw [.var 0, .sub (.lst false [.cst (.int 6), .cst (.int 41)]) (.call "_law_draw" s_law_draw [.var 0, .cst (.int 2)])])), .asg (.nm 2) (.sub (.lst false [.cst (.int 1), .cst (.int 3), .bop .pow (.cst (.int 10)) (.cst (.int 9)), .bop .mul (.cst (.int 2)) (.bop .pow (.cst (.int 10)) (.cst (.int 10)))]) (.call "_law_draw" s_law_draw [.var 0, .cst (.int 4)])), .asg (.nm 3) (.comp true [("_law_k", 4)] (.nm 4) (.range1 (.var 1)) [] (.bop .add (.cst (.int 1)) (.call "_law_great" s_law_great [.var 0, .var 2]))), .ite (.cmp .eq (.call "_law_draw" s_law_draw [.var 0, .cst (.int 4)]) (.cst (.int 0))) [.set (.var 3) (.neg (.cst (.int 1))) (.bop .sub (.bop .sub (.bop .add (.sub (.var 3) (.neg (.cst (.int 1)))) (.bop .pow (.cst (.int 10)) (.cst (.int 12)))) (.cst (.int 1))) (.blt .sum [.var 3]))] [], .ret (.lst true [.call "_law_draw" s_law_draw [.var 0, .cst (.int 2)], .frz (.var 3)])]
def n_law_stretches : List Str := ["_law_word_here", "_law_spot", "_law_side", "_law_phase", "_law_length", "_law_up", "_law_lengths", "_law_size", "_law_seat", "_law_found", "_law_begin", "_law_end"]
def i_law_stretches : List IS := [.asg (.tp [.nm 5, .nm 6]) (.var 0), .asg (.tp [.nm 7, .nm 8, .nm 9]) (.tup [.bop .add (.blt .sum [.var 6]) (.cst (.int 1)), .cst (.int 0), .lst true []]), .for_ [4, 10, 11] (.nm 4) (.seq (.var 6)) [.par [10, 11] [.blt .max2 [.var 8, .blt .int [.cmp .gt (.var 3) (.cst (.int 0))]], .bop .add (.var 8) (.var 4)], .ite (.ands [.cmp .eq (.var 5) (.cst (.int 1)), .cmp .lt (.var 10) (.var 11)]) [.exp (.app (.var 9) (.tup [.var 10, .bop .sub (.var 11) (.var 10)]))] [], .par [8, 5] [.var 11, .bop .sub (.cst (.int 1)) (.var 5)]], .ite (.cmp .lt (.var 3) (.cst (.int 2))) [.exp (.app (.var 9) (.tup [.bop .sub (.var 7) (.cst (.int 1)), .cst (.int 1)]))] [], .ite (.cmp .eq (.var 2) (.cst (.str "right"))) [.ret (.comp false [("_law_begin", 10), ("_law_length", 4)] (.tp [.nm 10, .nm 4]) (.seq (.var 9)) [] (.tup [.bop .mod (.bop .add (.var 1) (.var 10)) (.var 7), .var 4]))] [], .ret (.comp false [("_law_begin", 10), ("_law_length", 4)] (.tp [.nm 10, .nm 4]) (.seq (.var 9)) [] (.tup [.bop .mod (.bop .add (.bop .sub (.bop .sub (.var 1) (.var 10)) (.var 4)) (.cst (.int 1))) (.var 7), .var 4]))]
def n_law_faraway : List Str := ["_law_word_here", "_law_spot", "_law_side", "_law_phase", "_law_size", "_law_parts", "_law_pairs", "_law_begin", "_law_length", "_law_end"]
def i_law_faraway : List IS := [.par [4, 5, 6] [.bop .add (.blt .sum [.sub (.var 0) (.cst (.int 1))]) (.cst (.int 1)), .lst true [], .lst true []], .for_ [7, 8] (.tp [.nm 7, .nm 8]) (.seq (.call "_law_stretches" s_law_stretches [.var 0, .var 1, .var 2, .var 3])) [.exp (.app (.var 5) (.tup [.var 7, .blt .min2 [.var 4, .bop .add (.var 7) (.var 8)]])), .ite (.cmp .gt (.bop .add (.var 7) (.var 8)) (.var 4)) [.exp (.app (.var 5) (.tup [.cst (.int 0), .bop .sub (.bop .add (.var 7) (.var 8)) (.var 4)]))] []], .for_ [7, 9] (.tp [.nm 7, .nm 9]) (.seq (.blt .sortP [.var 5])) [.ite (.ands [.cmp .ne (.var 6) (.lst false []), .cmp .eq (.sub (.sub (.var 6) (.neg (.cst (.int 1)))) (.cst (.int 1))) (.var 7)]) [.asg (.nm 7) (.sub (.pop (.var 6)) (.cst (.int 0)))] [], .exp (.app (.var 6) (.tup [.var 7, .var 9]))], .ite (.cmp .eq (.var 3) (.cst (.int 1))) [.ret (.tup [.var 4, .blt .tuple [.var 6], .call "_law_on" s_law_on [.var 4, .var 1, .var 2, .neg (.cst (.int 1))], .call "_law_other" s_law_other [.var 2]])] [], .ret (.tup [.var 4, .blt .tuple [.var 6], .var 1, .var 2])]
def n_law_drawn : List Str := ["_law_deck_here", "_law_size", "_law_spot", "_law_word_here", "_law_phase"]
def i_law_drawn : List IS := [.par [3, 4] [.call "_law_word" s_law_word [.var 0], .sub (.lst false [.cst (.int 0), .cst (.int 0), .cst (.int 0), .cst (.int 1), .cst (.int 2)]) (.call "_law_draw" s_law_draw [.var 0, .cst (.int 5)])], .asg (.nm 1) (.bop .add (.blt .sum [.sub (.var 3) (.cst (.int 1))]) (.cst (.int 1))), .ite (.cmp .gt (.var 4) (.cst (.int 0))) [.set (.var 3) (.cst (.int 0)) (.cst (.int 1))] [], .asg (.nm 2) (.sub (.lst false [.cst (.int 0), .bop .sub (.var 1) (.cst (.int 1)), .call "_law_great" s_law_great [.var 0, .var 1], .call "_law_great" s_law_great [.var 0, .var 1]]) (.call "_law_draw" s_law_draw [.var 0, .cst (.int 4)])), .ret (.lst false [.frz (.var 3), .var 2, .sub (.lst false [.cst (.str "right"), .cst (.str "left")]) (.call "_law_draw" s_law_draw [.var 0, .cst (.int 2)]), .var 4])]

theorem k_law_great : Keeps n_law_great i_law_great s_law_great := by
  rintro ds μ R E ⟨p, q, n, m, rfl, dk, hn, h0, hm, qq⟩
  have c0 : CPow 10 6 := ⟨by decide, by decide, by decide⟩
  simp [n_law_great, i_law_great]
  refine wFor_run (fun i δ μ' => ∃ f : Int, δ = [some (.ref p), some (.int m), some (.int f), none] ∧ 0 ≤ f ∧ f < 10 ^ (6 * i) ∧ Deck p q (n + i) μ' ∧ Rest p q μ μ') (fun _ _ _ _ => trivial) ?_ ⟨0, rfl, by decide, by decide, dk, Rest.refl⟩ ?_
  · rintro i δ μ' x nx hi hx ⟨f, rfl, f0, f1, d, e⟩ on
    simp at hi
    have f2 : f < 10 ^ 30 := Int.lt_of_lt_of_le f1 (by
      have : (10 : Nat) ^ (6 * i) ≤ 10 ^ 30 := Nat.pow_le_pow_right (by decide) (by omega)
      exact_mod_cast this)
    simp [c0]
    refine ⟨c_mulS (by omega) (by decide), p, q, _, _, rfl, d, by omega, by decide, by decide, fun r μ2 r0 r1 d2 e2 => ?_⟩
    simp []
    refine on _ _ ⟨f * 1000000 + r, by simp [unset, put], by omega, ?_, d2, e.trans e2⟩
    have : (10 : Int) ^ (6 * (i + 1)) = 10 ^ (6 * i) * 1000000 := by rw [Nat.mul_add, Int.pow_add]; rfl
    omega
  · rintro δ μ' ⟨f, rfl, f0, f1, d, e⟩
    simp [h0]
    exact rt_ok (qq _ _ (wrap (C := 0) h0).1 (wrap (C := 0) h0).2 (by simpa using d) e)
theorem k_law_stretches : Keeps n_law_stretches i_law_stretches s_law_stretches := by
  rintro ds μ R E ⟨w, spot, r, ph, rfl, ⟨hu, hn, hl, h1, hs⟩, qq⟩
  simp [n_law_stretches, i_law_stretches, Wd.d, Wd.ds, sum_ints]
  intro pf hpf
  refine ⟨by decide, ?_⟩
  refine wFor_run (fun i δ μ' => ∃ (up seat : Int) (acc : List (Int × Int)), acc ++ upOn ph up seat (w.ls.drop i) = upOn ph w.up 0 w.ls ∧ acc.length ≤ i ∧
    δ = [some (.lst [.int w.up, .lst (w.ls.map .int)]), some (.int spot), some (side r), some (.int ph), none, some (.int up), some (.lst (w.ls.map .int)), some (.int w.n), some (.int seat), some (.ref pf), none, none] ∧ μ' = mput μ pf (acc.map pairD)) (fun _ _ _ _ => trivial) ?_ ⟨w.up, 0, [], rfl, by simp, rfl, rfl⟩ ?_
  · rintro i δ μ' x nx hi hx ⟨up, seat, acc, ha, hal, rfl, rfl⟩ on
    simp at hi
    obtain ⟨l, rs, rfl, e1, e2, hm⟩ := at_int hx
    rw [e1] at ha
    have st : ∀ b : Int, b = (if (if ph > 0 then 1 else 0) > seat then (if ph > 0 then 1 else 0) else seat) → acc ++ ((if up = 1 ∧ b < seat + l then [(b, seat + l - b)] else []) ++ upOn ph (1 - up) (seat + l) rs) = upOn ph w.up 0 w.ls := fun b hb => by rw [hb, ← ha]; rfl
    simp []
    generalize hb : (if seat < if 0 < ph then 1 else 0 then if 0 < ph then 1 else 0 else seat) = b
    have st := st b hb.symm
    by_cases hu1 : up = 1
    · by_cases hb1 : b < seat + l
      · simp only [hu1, hb1, decide_true, mput_same]
        refine ⟨by decide, by rw [List.length_map]; show acc.length < 16777216; omega, on _ _ ⟨1 - up, seat + l, acc ++ [(b, seat + l - b)], ?_, by simp; omega, by simp [unset, put, hu1], by rw [mput_mput]; simp [pairD]⟩⟩
        rw [e2, ← st, if_pos ⟨hu1, hb1⟩, List.append_assoc]
      · simp only [hu1, hb1, decide_true, decide_false]
        refine on _ _ ⟨1 - up, seat + l, acc, ?_, by omega, by simp [unset, put, hu1], rfl⟩
        rw [e2, ← st, if_neg (by omega), List.nil_append]
    · simp only [hu1, decide_false]
      refine on _ _ ⟨1 - up, seat + l, acc, ?_, by omega, by simp [unset, put], rfl⟩
      rw [e2, ← st, if_neg (by omega), List.nil_append]
  · rintro δ μ' ⟨up, seat, acc, ha, hal, rfl, rfl⟩
    simp at hal
    rw [List.length_map, List.drop_length, upOn, List.append_nil] at ha
    have w0 : 0 < w.n := by
      have : ∀ ls : List Int, (∀ l ∈ ls, 1 ≤ l) → 0 ≤ ls.sum := fun ls => by
        induction ls with
        | nil => simp
        | cons l ls ih => intro h; have := h l (by simp); have := ih fun x hx => h x (by simp [hx]); simp; omega
      have := this w.ls h1
      unfold Wd.n
      omega
    have fits : ∀ f : List (Int × Int), f = w.found ph → f.length < sz := fun f hf => by
      rw [hf]
      unfold Wd.found sz
      rw [List.length_append, ← ha]
      split <;> simp <;> omega
    by_cases hp : ph < 2
    · have hf : acc ++ [(w.n - 1, 1)] = w.found ph := by unfold Wd.found; rw [ha, if_pos hp]
      have ep : (acc.map pairD ++ [D.tup [.int (w.n - 1), .int 1]]) = (acc ++ [(w.n - 1, 1)]).map pairD := by simp [pairD]
      simp [hp, mput_same, mput_mput]
      refine ⟨by decide, by show acc.length < 16777216; omega, ?_⟩
      rw [ep]
      generalize acc ++ [(w.n - 1, 1)] = f at hf ⊢
      cases r
      · simp [side, lr1, lr3, mput_same]
        refine ⟨by simpa using fits _ hf, wComp_mapS (enc := pairD) (fun q => .tup [.int ((spot - q.1 - q.2 + 1) % w.n), .int q.2]) mput_same (fun q _ R' h => ?_) ?_⟩
        · simp [pairD, w0]
          exact ⟨by decide, h⟩
        · refine ⟨μ, sub_mput hpf, ?_⟩
          rw [hf]
          simpa [Wd.str, pairD, Function.comp_def] using qq
      · simp [side, lr2, lr4, mput_same]
        refine ⟨by simpa using fits _ hf, wComp_mapS (enc := pairD) (fun q => .tup [.int ((spot + q.1) % w.n), .int q.2]) mput_same (fun q _ R' h => ?_) ?_⟩
        · simp [pairD, w0]
          exact ⟨by decide, h⟩
        · refine ⟨μ, sub_mput hpf, ?_⟩
          rw [hf]
          simpa [Wd.str, pairD, Function.comp_def] using qq
    · have hf : acc = w.found ph := by unfold Wd.found; rw [ha, if_neg hp, List.append_nil]
      simp [hp, mput_same, mput_mput]
      cases r
      · simp [side, lr1, lr3, mput_same]
        refine ⟨by simpa using fits _ hf, wComp_mapS (enc := pairD) (fun q => .tup [.int ((spot - q.1 - q.2 + 1) % w.n), .int q.2]) mput_same (fun q _ R' h => ?_) ?_⟩
        · simp [pairD, w0]
          exact ⟨by decide, h⟩
        · refine ⟨μ, sub_mput hpf, ?_⟩
          rw [hf]
          simpa [Wd.str, pairD, Function.comp_def] using qq
      · simp [side, lr2, lr4, mput_same]
        refine ⟨by simpa using fits _ hf, wComp_mapS (enc := pairD) (fun q => .tup [.int ((spot + q.1) % w.n), .int q.2]) mput_same (fun q _ R' h => ?_) ?_⟩
        · simp [pairD, w0]
          exact ⟨by decide, h⟩
        · refine ⟨μ, sub_mput hpf, ?_⟩
          rw [hf]
          simpa [Wd.str, pairD, Function.comp_def] using qq
theorem upOn_len (ph : Int) : ∀ (ls : List Int) (up seat : Int), (upOn ph up seat ls).length ≤ ls.length
  | [], _, _ => by simp [upOn]
  | l :: ls, up, seat => by
    have h := upOn_len ph ls (1 - up) (seat + l)
    rw [upOn]
    show ((if _ then [_] else []) ++ _).length ≤ _
    rw [List.length_append, List.length_cons]
    exact Nat.le_trans (Nat.add_le_add ite_len h) (by omega)
theorem str_len {w : Wd} (h : w.ok) (spot : Int) (r : Bool) (ph : Int) : (w.str spot r ph).length ≤ 42 := by
  have := upOn_len ph w.ls w.up 0
  have := h.2.2.1
  unfold Wd.str Wd.found
  rw [List.length_map, List.length_append]
  split <;> simp <;> omega
theorem joinOn_len : ∀ (ms acc : List (Int × Int)), (joinOn acc ms).length ≤ acc.length + ms.length + 1
  | [], acc => by simp [joinOn]
  | (b, e) :: r, acc => by
    rw [joinOn]
    split
    · have := joinOn_len r (acc.dropLast ++ [((acc.getLast?.map (·.1)).getD 0, e)])
      rw [List.length_append, List.length_dropLast, List.length_singleton] at this
      rw [List.length_cons]
      omega
    · have := joinOn_len r (acc ++ [(b, e)])
      rw [List.length_append, List.length_singleton] at this
      rw [List.length_cons]
      omega
theorem partsOf_len (n : Int) : ∀ str : List (Int × Int), (partsOf n str).length ≤ 2 * str.length
  | [] => by simp [partsOf]
  | q :: r => by
    have h := partsOf_len n r
    have e : partsOf n (q :: r) = ((q.1, if q.1 + q.2 < n then q.1 + q.2 else n) :: (if q.1 + q.2 > n then [(0, q.1 + q.2 - n)] else [])) ++ partsOf n r := rfl
    have i := ite_len (c := q.1 + q.2 > n) (x := ((0 : Int), q.1 + q.2 - n))
    rw [e, List.length_append, List.length_cons, List.length_cons]
    omega
theorem k_law_faraway : Keeps n_law_faraway i_law_faraway s_law_faraway := by
  rintro ds μ R E ⟨w, spot, r, ph, rfl, ok, qq⟩
  have sl := str_len ok spot r ph
  simp [n_law_faraway, i_law_faraway, Wd.d, Wd.ds, atI, ixN, sum_ints]
  intro pp hpp pq hpq
  have ne : pq ≠ pp := by
    intro e
    subst e
    rw [mput_same] at hpq
    cases hpq
  refine ⟨w, spot, r, ph, rfl, ok, ?_⟩
  simp []
  refine wFor_run (fun i δ μ' => ∃ (acc : List (Int × Int)), acc ++ partsOf w.n ((w.str spot r ph).drop i) = partsOf w.n (w.str spot r ph) ∧ acc.length ≤ 2 * i ∧
    δ = [some w.d, some (.int spot), some (side r), some (.int ph), some (.int w.n), some (.ref pp), some (.ref pq), none, none, none] ∧ μ' = mput (mput μ pp (acc.map pairD)) pq []) (fun _ _ _ _ => trivial) ?_ ⟨[], rfl, by simp, rfl, rfl⟩ ?_
  · rintro i δ μ' x nx hi hx ⟨acc, ha, hal, rfl, rfl⟩ on
    obtain ⟨⟨b, l⟩, rs, rfl, e1, e2, hlt⟩ := at_pair hx
    rw [e1] at ha
    have ec : partsOf w.n ((b, l) :: rs) = ((b, if b + l < w.n then b + l else w.n) :: (if b + l > w.n then [(0, b + l - w.n)] else [])) ++ partsOf w.n rs := rfl
    rw [ec, ← List.append_assoc] at ha
    have li : acc.length < 16777215 := by rw [List.length_map] at hi; omega
    have at_ : ∀ A : List D, mput (mput μ pp A) pq [] pp = some A := fun A => by rw [mput_ne (Ne.symm ne), mput_same]
    have set_ : ∀ A B : List D, mput (mput (mput μ pp A) pq []) pp B = mput (mput μ pp B) pq [] := fun A B => by rw [← mput_swap ne, mput_mput, mput_swap ne]
    simp [pairD, at_, set_]
    by_cases big : w.n < b + l
    · simp only [big, decide_true]
      refine ⟨by decide, by show acc.length < 16777216; omega, by decide, by show acc.length + 1 < 16777216; omega, on _ _ ⟨acc ++ [(b, if b + l < w.n then b + l else w.n), (0, b + l - w.n)], ?_, ?_, by simp [unset, put], ?_⟩⟩
      · rw [e2, ← ha, if_pos (show b + l > w.n from big)]
      · simp; omega
      · simp [pairD]
    · simp only [big, decide_false]
      refine ⟨by decide, by show acc.length < 16777216; omega, on _ _ ⟨acc ++ [(b, if b + l < w.n then b + l else w.n)], ?_, ?_, by simp [unset, put], ?_⟩⟩
      · rw [e2, ← ha, if_neg (by omega : ¬ (b + l > w.n))]
      · simp; omega
      · simp [pairD]
  · rintro δ μ' ⟨acc, ha, hal, rfl, rfl⟩
    rw [List.length_map, List.drop_length] at ha
    have ha : acc = partsOf w.n (w.str spot r ph) := by rw [← ha]; simp [partsOf]
    have al : acc.length ≤ 84 := by have := partsOf_len w.n (w.str spot r ph); rw [ha]; omega
    have at_ : ∀ A : List D, mput (mput μ pp A) pq [] pp = some A := fun A => by rw [mput_ne (Ne.symm ne), mput_same]
    simp [at_, prs_map]
    intro ms hms hsort
    have ml : ms.length ≤ 84 := by rw [hms.length_eq]; exact al
    refine wFor_run (fun i δ μ' => ∃ (as : List (Int × Int)), joinOn as (ms.drop i) = joinOn [] ms ∧ as.length ≤ i ∧
      δ = [some w.d, some (.int spot), some (side r), some (.int ph), some (.int w.n), some (.ref pp), some (.ref pq), none, none, none] ∧ μ' = mput (mput μ pp (acc.map pairD)) pq (as.map pairD)) (fun _ _ _ _ => trivial) ?_ ⟨[], rfl, by simp, rfl, rfl⟩ ?_
    · rintro i δ μ' x nx hi hx ⟨as, hj, hal2, rfl, rfl⟩ on
      obtain ⟨⟨b, e⟩, rs, rfl, e1, e2, hlt⟩ := at_pair hx
      rw [e1, joinOn] at hj
      simp [pairD, mput_same]
      refine ⟨pairs_eq, pairs_eq (ps := []), ?_⟩
      rw [pairs_nil]
      rcases List.eq_nil_or_concat as with rfl | ⟨init, q, rfl⟩
      · simp only [List.isEmpty_nil, Bool.not_true]
        refine ⟨by decide, by decide, on _ _ ⟨[(b, e)], ?_, by simp, by simp [unset, put], by rw [mput_mput]; rfl⟩⟩
        rw [e2, ← hj]
        rfl
      · simp only [List.concat_eq_append] at hj hal2 ⊢
        have en : (init ++ [q]).isEmpty = false := by cases init <;> rfl
        rw [en, List.map_append, List.map_singleton, last_at]
        obtain ⟨q1, q2⟩ := q
        have hl3 : init.length < 85 := by rw [List.length_append] at hal2; omega
        simp [pairD, atI, ixN, mput_same]
        by_cases hq : q2 = b
        · have tt : touch (init ++ [(q1, q2)]) b = true := by simp [touch, hq]
          rw [if_pos tt] at hj
          simp [hq]
          refine ⟨by decide, by show init.length < 16777216; omega, on _ _ ⟨init ++ [(q1, e)], ?_, ?_, by simp [unset, put], ?_⟩⟩
          · rw [e2, ← hj]; simp
          · simp at hal2 ⊢; omega
          · rw [mput_mput, mput_mput]; simp [pairD]
        · have tt : touch (init ++ [(q1, q2)]) b = false := by simp [touch, hq]
          rw [tt, if_neg (by decide)] at hj
          simp [hq, mput_same]
          refine ⟨by decide, by show init.length + 1 < 16777216; omega, on _ _ ⟨init ++ [(q1, q2)] ++ [(b, e)], ?_, ?_, by simp [unset, put], ?_⟩⟩
          · rw [e2, ← hj]
          · simp at hal2 ⊢; omega
          · rw [mput_mput]; simp [pairD]
    · rintro δ μ' ⟨as, hj, hal2, rfl, rfl⟩
      rw [List.length_map, List.drop_length, joinOn] at hj
      have qq := qq ms (by rw [← ha]; exact hms) hsort
      have back : Sub μ (mput (mput μ pp (acc.map pairD)) pq (as.map pairD)) := (sub_mput hpp).trans (sub_mput (by rw [mput_ne ne]; rw [mput_ne ne] at hpq; exact hpq))
      have w0 : 0 < w.n := by
        have : ∀ ls : List Int, (∀ l ∈ ls, 1 ≤ l) → 0 ≤ ls.sum := fun ls => by
          induction ls with
          | nil => simp
          | cons l ls ih => intro h; have := h l (by simp); have := ih fun x hx => h x (by simp [hx]); simp; omega
        have := this w.ls ok.2.2.2.1
        unfold Wd.n
        omega
      simp [mput_same]
      by_cases h1 : ph = 1
      · simp only [h1, decide_true, if_true] at qq ⊢
        refine ⟨_, _, _, _, rfl, w0, by decide, _, rfl, by decide, _, back, ?_⟩
        rw [hj]
        exact qq
      · simp only [h1, decide_false, if_false] at qq ⊢
        refine ⟨by decide, _, back, ?_⟩
        rw [hj]
        exact qq

theorem k_law_word : Keeps n_law_word i_law_word s_law_word := by
  rintro ds μ R E ⟨p, q, n, rfl, dk, hn, qq⟩
  have c1 : CPow 10 9 := ⟨by decide, by decide, by decide⟩
  have c2 : CPow 10 10 := ⟨by decide, by decide, by decide⟩
  have c3 : CPow 10 12 := ⟨by decide, by decide, by decide⟩
  have c4 : CMulW 2 10000000000 := c_mulS (by decide) (by decide)
  simp [n_law_word, i_law_word, c1, c2, c3, c4]
  refine ⟨by decide, p, q, n, _, rfl, dk, by omega, by decide, by decide, fun x0 μ0 a0 b0 d0 e0 => ?_⟩
  have h0 : x0 = 0 ∨ x0 = 1 := by omega
  -- the number of parts
  have cnt : ∃ m : Int, atI [D.int 6, D.int 41] x0 = some (.int m) ∧ 1 ≤ m ∧ m ≤ 41 := by
    rcases h0 with rfl | rfl
    · exact ⟨6, rfl, by decide, by decide⟩
    · exact ⟨41, rfl, by decide, by decide⟩
  obtain ⟨m, em, m1, m2⟩ := cnt
  simp [em]
  refine ⟨p, q, _, m, rfl, d0, by omega, by omega, by omega, fun x1 μ1 a1 b1 d1 e1 => ?_⟩
  simp []
  refine ⟨by decide, p, q, _, _, rfl, d1, by omega, by decide, by decide, fun x2 μ2 a2 b2 d2 e2 => ?_⟩
  have h2 : x2 = 0 ∨ x2 = 1 ∨ x2 = 2 ∨ x2 = 3 := by omega
  have gr : ∃ g : Int, atI [D.int 1, D.int 3, D.int 1000000000, D.int 20000000000] x2 = some (.int g) ∧ 1 ≤ g ∧ g ≤ 20000000000 := by
    rcases h2 with rfl | rfl | rfl | rfl
    · exact ⟨_, rfl, by decide, by decide⟩
    · exact ⟨_, rfl, by decide, by decide⟩
    · exact ⟨_, rfl, by decide, by decide⟩
    · exact ⟨_, rfl, by decide, by decide⟩
  obtain ⟨g, eg, g1, g2⟩ := gr
  simp [eg]
  refine ⟨by omega, by omega, by omega, wComp_run (fun i μ' => Deck p q (n + 3 + 5 * i) μ') (fun d => ∃ l, d = .int l ∧ 1 ≤ l ∧ l ≤ 20000000000) (1 + x1).toNat (fun _ _ _ => trivial) (i := 0) (by simp) (fun i μ' x R' hi hx d k => ?_) (by simpa [Nat.add_assoc] using d2) fun ys μ3 hl hg d3 => ?_⟩
  · refine ⟨p, q, _, g, rfl, d, by omega, by omega, by omega, fun r μ4 a4 b4 d4 e4 => ?_⟩
    simp []
    exact k _ _ ⟨_, rfl, by omega, by omega⟩ (by rw [show n + 3 + 5 * (i + 1) = n + 3 + 5 * i + 5 by omega]; exact d4)
  obtain ⟨ls, rfl, hls⟩ := ints_ofM hg
  simp at hl
  intro a ha
  obtain ⟨na, nb⟩ := d3.new ha
  have d4 := (d3.other (x := ls.map D.int) na nb).1
  refine ⟨p, q, _, _, rfl, d4, by omega, by decide, by decide, fun x3 μ4 a4 b4 d5 e5 => ?_⟩
  have g4 : μ4 a = some (ls.map .int) := by rw [e5 a na nb, mput_same]
  -- the last row
  have fin : ∀ (ls' : List Int) (μ5 : Mu) (n5 : Nat), Deck p q n5 μ5 → μ5 a = some (ls'.map .int) → n5 ≤ n + 900 → ls' ≠ [] → ls'.length ≤ 41 → (∀ l ∈ ls', 1 ≤ l) → ls'.sum ≤ 999999999999 → s_law_draw [.ref p, .int 2] μ5 (fun x μ1 => match μ1 a with
      | some ds => 2 ≤ sz ∧ ∀ (p : Addr), mdel μ1 a p = none → ∃ μ2, Sub μ2 (mput (mdel μ1 a) p [x, .lst ds]) ∧ R (.ref p) μ2
      | none => False) E := by
    intro ls' μ5 n5 d6 g5 hn5 k1 k2 k3 k4
    refine ⟨p, q, _, _, rfl, d6, by omega, by decide, by decide, fun x4 μ6 a6 b6 d7 e7 => ?_⟩
    have g6 : μ6 a = some (ls'.map .int) := by rw [e7 a na nb, g5]
    simp only [g6]
    refine ⟨by decide, fun c hc => ?_⟩
    have d8 := (d7.other (x := []) na nb).2
    obtain ⟨nc, nd⟩ := d8.new hc
    exact rt_ok (qq ⟨x4, ls'⟩ c _ _ ⟨by show x4 = 0 ∨ x4 = 1; omega, k1, k2, k3, k4⟩ (by omega) (d8.other nc nd).1 nc nd mput_same)
  have ne : ls ≠ [] := by
    intro z
    rw [z] at hl
    simp at hl
    omega
  have le : ls.length ≤ 41 := by omega
  have sm := sum_le (M := 20000000000) ls fun l h => (hls l h).2
  have sp := sum_pos ls fun l h => (hls l h).1
  have sm2 : ls.sum ≤ 820000000000 := by
    have : (ls.length : Int) * 20000000000 ≤ 41 * 20000000000 := Int.mul_le_mul_of_nonneg_right (by omega) (by decide)
    omega
  by_cases h3 : x3 = 0
  · rcases List.eq_nil_or_concat ls with rfl | ⟨init, z, rfl⟩
    · exact absurd rfl ne
    · simp only [List.concat_eq_append] at *
      have hz := hls z (by simp)
      have g4' : μ4 a = some (init.map .int ++ [.int z]) := by rw [g4, List.map_append]; rfl
      have e6 : intsD (init.map D.int ++ [.int z]) = some (init ++ [z]) := by have := sum_ints (init ++ [z]); rw [List.map_append] at this; exact this
      have e7 : ixN (init.map D.int ++ [D.int z]).length (-1) = some init.length := by
        unfold ixN
        rw [if_neg (by omega), if_pos (by simp; omega)]
        simp
        omega
      simp [h3, g4', last_at, e6, e7]
      have e8 : ixN (init.length + 1) (-1) = some init.length := by simpa using e7
      have e9 : ∀ v : Int, (init.map D.int ++ [D.int z]).set init.length (.int v) = (init ++ [v]).map .int := fun v => by simp [List.set_append]
      simp only [e8, e9]
      have sI : (init ++ [z]).sum = init.sum + z := by simp
      have s0 := sum_pos init fun l h => (hls l (by simp [h])).1
      refine fin _ _ _ (d5.other na nb).1 mput_same (by omega) (by simp) (by simpa using le) (fun l h => ?_) ?_
      · rcases List.mem_append.mp h with h | h
        · exact (hls l (by simp [h])).1
        · rw [List.mem_singleton.mp h]; omega
      · rw [List.sum_append, List.sum_singleton]; omega
  · simp [h3]
    exact fin ls μ4 _ d5 g4 (by omega) ne le (fun l h => (hls l h).1) (by omega)
theorem k_law_drawn : Keeps n_law_drawn i_law_drawn s_law_drawn := by
  rintro ds μ R E ⟨p, q, n, rfl, dk, hn, qq⟩
  simp [n_law_drawn, i_law_drawn]
  refine ⟨p, q, n, rfl, dk, by omega, fun w a n1 μ1 ok hn1 d1 na nb ga => ?_⟩
  simp []
  refine ⟨by decide, p, q, _, _, rfl, d1, by omega, by decide, by decide, fun x1 μ2 a1 b1 d2 e2 => ?_⟩
  have h1 : x1 = 0 ∨ x1 = 1 ∨ x1 = 2 ∨ x1 = 3 ∨ x1 = 4 := by omega
  have phs : ∃ ph : Int, atI [D.int 0, D.int 0, D.int 0, D.int 1, D.int 2] x1 = some (.int ph) ∧ 0 ≤ ph ∧ ph ≤ 2 := by
    rcases h1 with rfl | rfl | rfl | rfl | rfl
    · exact ⟨0, rfl, by decide, by decide⟩
    · exact ⟨0, rfl, by decide, by decide⟩
    · exact ⟨0, rfl, by decide, by decide⟩
    · exact ⟨1, rfl, by decide, by decide⟩
    · exact ⟨2, rfl, by decide, by decide⟩
  obtain ⟨ph, eph, p0, p1⟩ := phs
  have g2 : μ2 a = some w.ds := by rw [e2 a na nb]; exact ga
  have i1 : atI w.ds 1 = some (.lst (w.ls.map .int)) := rfl
  have i2 : ixN w.ds.length 0 = some 0 := rfl
  simp [eph, g2, i1, i2, sum_ints]
  have s0 := sum_pos w.ls ok.2.2.2.1
  have s1 : 1 ≤ w.ls.sum := by
    have h := ok.2.1
    have h' := ok.2.2.2.1
    cases e : w.ls with
    | nil => exact absurd e h
    | cons l ls =>
      rw [e] at h'
      have := h' l (by simp)
      have := sum_pos ls fun x hx => h' x (by simp [hx])
      simp
      omega
  have s2 := ok.2.2.2.2
  have fin : ∀ (w' : Wd) (μ3 : Mu) (n3 : Nat), w'.ok → (0 < ph → w'.up = 1) → w'.ls = w.ls → Deck p q n3 μ3 → n3 ≤ n + 1500 → μ3 a = some w'.ds → s_law_great [.ref p, .int (w.ls.sum + 1)] μ3 (fun x μ1 => s_law_great [.ref p, .int (w.ls.sum + 1)] μ1 (fun x_1 μ1 => 4 ≤ sz ∧ s_law_draw [.ref p, .int 4] μ1 (fun k μ2 =>
      match some [D.int 0, D.int w.ls.sum, x, x_1], k with
      | some ds, D.int j => (match atI ds j with
        | some d => (match μ2 a with
          | some ds => 2 ≤ sz ∧ s_law_draw [.ref p, .int 2] (mdel μ2 a) (fun k μ2 =>
            match some [D.str (Str.ofString "right"), D.str (Str.ofString "left")], k with
            | some ds_1, D.int j => (match atI ds_1 j with
              | some d_1 => 4 ≤ sz ∧ ∃ μ2_1, Sub μ2_1 μ2 ∧ R (.lst [.lst ds, d, d_1, .int ph]) μ2_1
              | none => False)
            | x, x_2 => False) E
          | none => False)
        | none => False)
      | x, x_2 => False) E) E) E := by
    intro w' μ3 n3 ok' hup el d3 hn3 g3
    refine ⟨p, q, _, _, rfl, d3, by omega, by omega, by omega, fun y1 μ4 l1 u1 d4 e4 => ⟨p, q, _, _, rfl, d4, by omega, by omega, by omega, fun y2 μ5 l2 u2 d5 e5 => ⟨by decide, p, q, _, _, rfl, d5, by omega, by decide, by decide, fun x2 μ6 a2 b2 d6 e6 => ?_⟩⟩⟩
    have h2 : x2 = 0 ∨ x2 = 1 ∨ x2 = 2 ∨ x2 = 3 := by omega
    have sps : ∃ sp : Int, atI [D.int 0, D.int w.ls.sum, D.int y1, D.int y2] x2 = some (.int sp) ∧ 0 ≤ sp ∧ sp < w.ls.sum + 1 := by
      rcases h2 with rfl | rfl | rfl | rfl
      · exact ⟨0, rfl, by decide, by omega⟩
      · exact ⟨w.ls.sum, rfl, by omega, by omega⟩
      · exact ⟨y1, rfl, by omega, by omega⟩
      · exact ⟨y2, rfl, by omega, by omega⟩
    obtain ⟨sp, esp, sp0, sp1⟩ := sps
    have g6 : μ6 a = some w'.ds := by rw [e6 a na nb, e5 a na nb, e4 a na nb, g3]
    simp only [esp, g6]
    refine ⟨by decide, p, q, _, _, rfl, (d6.other (x := []) na nb).2, by omega, by decide, by decide, fun x3 μ7 a3 b3 d7 e7 => ?_⟩
    have go := fun b => qq w' sp b ph _ μ7 ok' hup sp0 (by show sp < w'.ls.sum + 1; rw [el]; exact sp1) p0 p1 (by omega) d7
    have h3 : x3 = 0 ∨ x3 = 1 := by omega
    rcases h3 with rfl | rfl
    · exact ⟨by decide, rt_ok (go true)⟩
    · exact ⟨by decide, rt_ok (go false)⟩
  by_cases hp : 0 < ph
  · simp only [hp, decide_true]
    exact fin ⟨1, w.ls⟩ _ _ ⟨.inr rfl, ok.2⟩ (fun _ => rfl) rfl (d2.other na nb).1 (by omega) mput_same
  · simp only [hp, decide_false]
    exact fin w μ2 _ ok (fun z => absurd z hp) rfl d2 (by omega) g2

theorem up_perm {ms ps : List (Int × Int)} (h : ms.Perm ps) (x : Int) : flagUp ms x = flagUp ps x := h.any_eq
theorem up_app (as bs : List (Int × Int)) (x : Int) : flagUp (as ++ bs) x = (flagUp as x || flagUp bs x) := by simp [flagUp]
theorem up_join (x : Int) : ∀ (ms acc : List (Int × Int)), (∀ p ∈ ms, p.1 ≤ p.2) → (∀ p ∈ acc, p.1 ≤ p.2) → flagUp (joinOn acc ms) x = (flagUp acc x || flagUp ms x) ∧ ∀ p ∈ joinOn acc ms, p.1 ≤ p.2
  | [], acc, _, h => by
    rw [joinOn]
    exact ⟨by simp [flagUp], h⟩
  | (b, e) :: r, acc, hm, ha => by
    have hbe : b ≤ e := hm (b, e) (by simp)
    have hr : ∀ p ∈ r, p.1 ≤ p.2 := fun p hp => hm p (by simp [hp])
    have ec : flagUp ((b, e) :: r) x = (decide (b ≤ x) && decide (x < e) || flagUp r x) := rfl
    rw [joinOn, ec]
    split
    · rename_i ht
      rcases List.eq_nil_or_concat acc with rfl | ⟨init, q, rfl⟩
      · cases ht
      · simp only [List.concat_eq_append] at ha ht ⊢
        obtain ⟨q1, q2⟩ := q
        have hq : q2 = b := by simpa [touch] using ht
        have hqq : q1 ≤ q2 := ha (q1, q2) (by simp)
        have i := up_join x r (init ++ [(q1, e)]) hr fun p hp => by
          rcases List.mem_append.mp hp with h | h
          · exact ha p (by simp [h])
          · rw [List.mem_singleton.mp h]; show q1 ≤ e; omega
        have ed : ((init ++ [(q1, q2)]).dropLast ++ [(((init ++ [(q1, q2)]).getLast?.map (·.1)).getD 0, e)]) = init ++ [(q1, e)] := by simp
        rw [ed]
        refine ⟨?_, i.2⟩
        rw [i.1, up_app, up_app]
        have e1 : flagUp [(q1, e)] x = (decide (q1 ≤ x) && decide (x < e)) := by simp [flagUp]
        have e2 : flagUp [(q1, q2)] x = (decide (q1 ≤ x) && decide (x < q2)) := by simp [flagUp]
        rw [e1, e2, Bool.or_assoc, Bool.or_assoc, ← Bool.or_assoc (decide (q1 ≤ x) && decide (x < q2))]
        congr 2
        rw [← Bool.decide_and, ← Bool.decide_and, ← Bool.decide_and, ← Bool.decide_or]
        congr 1
        apply propext
        omega
    · have i := up_join x r (acc ++ [(b, e)]) hr fun p hp => by
        rcases List.mem_append.mp hp with h | h
        · exact ha p h
        · rw [List.mem_singleton.mp h]; exact hbe
      refine ⟨?_, i.2⟩
      rw [i.1, up_app, Bool.or_assoc]
      congr 1
      simp [flagUp]
theorem up_parts (n x : Int) (h0 : 0 ≤ x) (hn : x < n) : ∀ str : List (Int × Int), flagUp (partsOf n str) x = str.any fun q => decide ((q.1 ≤ x ∧ x < q.1 + q.2) ∨ (q.1 + q.2 > n ∧ x < q.1 + q.2 - n))
  | [] => rfl
  | q :: r => by
    have e : partsOf n (q :: r) = ((q.1, if q.1 + q.2 < n then q.1 + q.2 else n) :: (if q.1 + q.2 > n then [(0, q.1 + q.2 - n)] else [])) ++ partsOf n r := rfl
    rw [e, up_app, up_parts n x h0 hn r, List.any_cons]
    congr 1
    have e2 : ∀ (p : Int × Int) (ps : List (Int × Int)), flagUp (p :: ps) x = (decide (p.1 ≤ x) && decide (x < p.2) || flagUp ps x) := fun _ _ => rfl
    rw [e2]
    by_cases big : q.1 + q.2 > n
    · rw [if_pos big]
      have e3 : flagUp [((0 : Int), q.1 + q.2 - n)] x = (decide (0 ≤ x) && decide (x < q.1 + q.2 - n)) := by simp [flagUp]
      rw [e3, ← Bool.decide_and, ← Bool.decide_and, ← Bool.decide_or]
      congr 1
      apply propext
      split <;> omega
    · rw [if_neg big]
      have e3 : flagUp [] x = false := rfl
      rw [e3, Bool.or_false, ← Bool.decide_and]
      congr 1
      apply propext
      split <;> omega
/-- the place's number on the way -/
def onWay (n spot : Int) (r : Bool) (x : Int) : Int := if r then (x - spot) % n else (spot - x) % n
theorem mod_near {v n : Int} (h1 : -n ≤ v) (h2 : v < n) : v % n = if v < 0 then v + n else v := by
  split
  · have e : (v + n * 1) % n = v % n := Int.add_mul_emod_self_left v n 1
    rw [← e, Int.mul_one]
    exact Int.emod_eq_of_lt (by omega) (by omega)
  · exact Int.emod_eq_of_lt (by omega) h2
theorem mod_far {v n : Int} (h1 : 0 ≤ v) (h2 : v < 2 * n) : v % n = if v < n then v else v - n := by
  split
  · exact Int.emod_eq_of_lt h1 (by omega)
  · have e : (v + n * (-1)) % n = v % n := Int.add_mul_emod_self_left v n (-1)
    rw [← e, show v + n * (-1) = v - n by omega]
    exact Int.emod_eq_of_lt (by omega) (by omega)
theorem cover {n spot x b l : Int} (r : Bool) (s0 : 0 ≤ spot) (s1 : spot < n) (x0 : 0 ≤ x) (x1 : x < n) (b0 : 0 ≤ b) (l1 : 1 ≤ l) (bl : b + l ≤ n) (a : Int) (ha : a = if r then (spot + b) % n else (spot - b - l + 1) % n) :
    ((a ≤ x ∧ x < a + l) ∨ (a + l > n ∧ x < a + l - n)) ↔ (b ≤ onWay n spot r x ∧ onWay n spot r x < b + l) := by
  unfold onWay
  cases r
  · simp only [if_false, Bool.false_eq_true] at ha ⊢
    rw [mod_near (by omega) (by omega)] at ha
    rw [mod_near (by omega) (by omega)]
    split at ha <;> split <;> omega
  · simp only [if_true] at ha ⊢
    rw [mod_far (by omega) (by omega)] at ha
    rw [mod_near (by omega) (by omega)]
    split at ha <;> split <;> omega
theorem upOn_in {ph : Int} : ∀ (ls : List Int) (up seat : Int), 0 ≤ seat → (∀ l ∈ ls, 1 ≤ l) → ∀ q ∈ upOn ph up seat ls, 0 ≤ q.1 ∧ 1 ≤ q.2 ∧ q.1 + q.2 ≤ seat + ls.sum ∧ (0 < ph → 1 ≤ q.1)
  | [], _, _, _, _, q, hq => by simp [upOn] at hq
  | l :: ls, up, seat, hs, hl, q, hq => by
    have h1 := hl l (by simp)
    have sp := sum_pos ls fun x hx => hl x (by simp [hx])
    obtain ⟨B, hB⟩ : ∃ B, B = (if (if ph > 0 then 1 else 0) > seat then (if ph > 0 then 1 else 0) else seat) := ⟨_, rfl⟩
    have e : upOn ph up seat (l :: ls) = (if up = 1 ∧ B < seat + l then [(B, seat + l - B)] else []) ++ upOn ph (1 - up) (seat + l) ls := by rw [hB]; rfl
    have b1 : seat ≤ B ∧ (0 < ph → 1 ≤ B) := by
      rw [hB]
      split <;> split <;> omega
    rw [e] at hq
    rw [List.sum_cons]
    rcases List.mem_append.mp hq with h | h
    · by_cases hc : up = 1 ∧ B < seat + l
      · rw [if_pos hc] at h
        rw [List.mem_singleton.mp h]
        simp only
        omega
      · rw [if_neg hc] at h
        cases h
    · have := upOn_in ls (1 - up) (seat + l) (by omega) (fun x hx => hl x (by simp [hx])) q h
      omega
theorem wd_n {w : Wd} (ok : w.ok) : 1 ≤ w.ls.sum := by
  have h := ok.2.1
  have h' := ok.2.2.2.1
  cases e : w.ls with
  | nil => exact absurd e h
  | cons l ls =>
    rw [e] at h'
    have := h' l (by simp)
    have := sum_pos ls fun x hx => h' x (by simp [hx])
    simp
    omega
theorem found_in {w : Wd} (ok : w.ok) {ph : Int} : ∀ q ∈ w.found ph, 0 ≤ q.1 ∧ 1 ≤ q.2 ∧ q.1 + q.2 ≤ w.n ∧ (0 < ph → 1 ≤ q.1) := fun q hq => by
  have n1 := wd_n ok
  unfold Wd.found Wd.n at *
  rcases List.mem_append.mp hq with h | h
  · have := upOn_in w.ls w.up 0 (by decide) ok.2.2.2.1 q h
    omega
  · split at h
    · rw [List.mem_singleton.mp h]
      simp only
      omega
    · cases h
/-- the far state's flags, by the way -/
theorem far_up {w : Wd} (ok : w.ok) {spot x ph : Int} {r : Bool} (s0 : 0 ≤ spot) (s1 : spot < w.n) (x0 : 0 ≤ x) (x1 : x < w.n) {ms : List (Int × Int)} (hp : ms.Perm (partsOf w.n (w.str spot r ph))) :
    flagUp (joinOn [] ms) x = (w.found ph).any fun q => decide (q.1 ≤ onWay w.n spot r x ∧ onWay w.n spot r x < q.1 + q.2) := by
  have asc : ∀ p ∈ ms, p.1 ≤ p.2 := fun p hm => by
    have := hp.mem_iff.mp hm
    unfold partsOf at this
    obtain ⟨q, hq, h⟩ := List.mem_flatMap.mp this
    unfold Wd.str at hq
    obtain ⟨q0, hq0, rfl⟩ := List.mem_map.mp hq
    have f := found_in ok q0 hq0
    have m1 := wrap (C := 0) (x := spot + q0.1) (M := w.n) (by omega)
    have m2 := wrap (C := 0) (x := spot - q0.1 - q0.2 + 1) (M := w.n) (by omega)
    cases r
    · simp only [if_false, Bool.false_eq_true] at h
      rcases List.mem_cons.mp h with h | h
      · rw [h]; simp only; split <;> omega
      · split at h
        · rw [List.mem_singleton.mp h]; simp only; omega
        · cases h
    · simp only [if_true] at h
      rcases List.mem_cons.mp h with h | h
      · rw [h]; simp only; split <;> omega
      · split at h
        · rw [List.mem_singleton.mp h]; simp only; omega
        · cases h
  rw [(up_join x ms [] asc (by simp)).1, up_perm hp, up_parts _ _ x0 x1]
  show (false || _) = _
  rw [Bool.false_or]
  unfold Wd.str
  rw [List.any_map]
  have : ∀ q ∈ w.found ph, ((fun q : Int × Int => decide ((q.1 ≤ x ∧ x < q.1 + q.2) ∨ (q.1 + q.2 > w.n ∧ x < q.1 + q.2 - w.n))) ∘ fun q : Int × Int => if r then ((spot + q.1) % w.n, q.2) else ((spot - q.1 - q.2 + 1) % w.n, q.2)) q = decide (q.1 ≤ onWay w.n spot r x ∧ onWay w.n spot r x < q.1 + q.2) := fun q hq => by
    have f := found_in ok q hq
    have c := cover (n := w.n) (spot := spot) (x := x) (b := q.1) (l := q.2) r s0 s1 x0 x1 f.1 f.2.1 f.2.2.1 _ rfl
    rw [← decide_eq_decide.mpr c]
    cases r <;> rfl
  clear hp asc
  generalize w.found ph = fs at this ⊢
  induction fs with
  | nil => rfl
  | cons q qs ih =>
    rw [List.any_cons, List.any_cons, this q (by simp), ih fun z hz => this z (by simp [hz])]
theorem no_first {w : Wd} (ok : w.ok) {ph : Int} (h : 0 < ph) : ((w.found ph).any fun q => decide (q.1 ≤ 0 ∧ 0 < q.1 + q.2)) = false := by
  refine List.any_eq_false.mpr fun q hq => ?_
  have := found_in ok q hq
  simp
  omega
theorem last_up {w : Wd} {ph : Int} (h : ph < 2) : ((w.found ph).any fun q => decide (q.1 ≤ w.n - 1 ∧ w.n - 1 < q.1 + q.2)) = true := by
  unfold Wd.found
  rw [if_pos h, List.any_append]
  simp
  right
  omega
theorem last_dn {w : Wd} (ok : w.ok) {ph : Int} (h : ¬ ph < 2) : ((w.found ph).any fun q => decide (q.1 ≤ w.n - 1 ∧ w.n - 1 < q.1 + q.2)) = false := by
  unfold Wd.found
  rw [if_neg h, List.append_nil]
  refine List.any_eq_false.mpr fun q hq => ?_
  have := upOn_in w.ls w.up 0 (by decide) ok.2.2.2.1 q hq
  unfold Wd.n
  simp
  omega
theorem way0 {n spot : Int} {r : Bool} (s0 : 0 ≤ spot) (s1 : spot < n) : onWay n spot r spot = 0 := by
  unfold onWay
  cases r <;> simp
theorem wayL {n spot : Int} (r : Bool) (n2 : 2 ≤ n) (s0 : 0 ≤ spot) (s1 : spot < n) (b : Int) (hb : b = placeOn n spot r (-1)) : 0 ≤ b ∧ b < n ∧ onWay n spot r b = n - 1 ∧ placeOn n b (!r) (-1) = spot := by
  unfold placeOn at hb ⊢
  unfold onWay
  cases r
  · simp only [if_false, Bool.false_eq_true, Bool.not_false, if_true] at hb ⊢
    rw [mod_far (by omega) (by omega)] at hb
    have hb2 : 0 ≤ b ∧ b < n := by split at hb <;> omega
    rw [mod_near (by omega) (by omega), mod_near (by omega) (by omega)]
    split at hb <;> refine ⟨hb2.1, hb2.2, ?_, ?_⟩ <;> split <;> omega
  · simp only [if_false, Bool.false_eq_true, Bool.not_true, if_true] at hb ⊢
    rw [mod_near (by omega) (by omega)] at hb
    have hb2 : 0 ≤ b ∧ b < n := by split at hb <;> omega
    rw [mod_near (by omega) (by omega), mod_far (by omega) (by omega)]
    split at hb <;> refine ⟨hb2.1, hb2.2, ?_, ?_⟩ <;> split <;> omega
theorem far_hd {w : Wd} (ok : w.ok) {spot ph : Int} {r : Bool} (s0 : 0 ≤ spot) (s1 : spot < w.n) (p0 : 0 ≤ ph) (p2 : ph ≤ 2) {ms : List (Int × Int)} (hp : ms.Perm (partsOf w.n (w.str spot r ph))) :
    (St4.hd ⟨w.n, joinOn [] ms, if ph = 1 then (spot + (-1) * (if r then 1 else -1)) % w.n else spot, if ph = 1 then !r else r⟩) = (r, spot, ph) := by
  have n2 : 2 ≤ w.n := by have := wd_n ok; unfold Wd.n; omega
  have ep : (spot + (-1) * (if r then 1 else -1)) % w.n = placeOn w.n spot r (-1) := by
    unfold placeOn
    cases r <;> simp <;> congr 1 <;> omega
  obtain ⟨b0, b1, b2, b3⟩ := wayL r n2 s0 s1 _ rfl
  have f0 := far_up ok s0 s1 s0 s1 hp
  have f1 := far_up ok s0 s1 b0 b1 hp
  rw [way0 s0 s1] at f0
  rw [b2] at f1
  unfold St4.hd
  by_cases h1 : ph = 1
  · subst h1
    simp only [if_true, ep, b3, f0, f1, no_first ok (ph := 1) (by decide), last_up (w := w) (ph := 1) (by decide)]
    simp
  · simp only [h1, if_false]
    by_cases h0 : ph = 0
    · subst h0
      simp only [f1, last_up (w := w) (ph := 0) (by decide)]
      simp
    · have h2 : ph = 2 := by omega
      subst h2
      simp only [f0, f1, no_first ok (ph := 2) (by decide), last_dn ok (ph := 2) (by decide)]
      simp
theorem join_all {A : Int → Prop} : ∀ (ms acc : List (Int × Int)), (∀ p ∈ ms, A p.1 ∧ A p.2) → (∀ p ∈ acc, A p.1 ∧ A p.2) → ∀ p ∈ joinOn acc ms, A p.1 ∧ A p.2
  | [], acc, _, h => by rw [joinOn]; exact h
  | (b, e) :: r, acc, hm, ha => by
    have hbe := hm (b, e) (by simp)
    have hr : ∀ p ∈ r, A p.1 ∧ A p.2 := fun p hp => hm p (by simp [hp])
    rw [joinOn]
    split
    · rename_i ht
      rcases List.eq_nil_or_concat acc with rfl | ⟨init, q, rfl⟩
      · cases ht
      · simp only [List.concat_eq_append] at ha ht ⊢
        obtain ⟨q1, q2⟩ := q
        have ed : ((init ++ [(q1, q2)]).dropLast ++ [(((init ++ [(q1, q2)]).getLast?.map (·.1)).getD 0, e)]) = init ++ [(q1, e)] := by simp
        rw [ed]
        refine join_all r _ hr fun p hp => ?_
        rcases List.mem_append.mp hp with h | h
        · exact ha p (by simp [h])
        · rw [List.mem_singleton.mp h]
          exact ⟨(ha (q1, q2) (by simp)).1, hbe.2⟩
    · refine join_all r _ hr fun p hp => ?_
      rcases List.mem_append.mp hp with h | h
      · exact ha p h
      · rw [List.mem_singleton.mp h]; exact hbe
theorem far_ok {w : Wd} (ok : w.ok) {spot ph : Int} {r : Bool} (s0 : 0 ≤ spot) (s1 : spot < w.n) {ms : List (Int × Int)} (hp : ms.Perm (partsOf w.n (w.str spot r ph))) (pl : Int) (rt : Bool) (hpl : pl.natAbs < 10 ^ 60) :
    St4.ok ⟨w.n, joinOn [] ms, pl, rt⟩ ∧ Fit 3 100000 (St4.d ⟨w.n, joinOn [] ms, pl, rt⟩) := by
  have n1 := wd_n ok
  have n2 := ok.2.2.2.2
  have len : (joinOn [] ms).length ≤ 85 := by
    have a := joinOn_len ms []
    have b := partsOf_len w.n (w.str spot r ph)
    have c := str_len ok spot r ph
    have d := hp.length_eq
    simp at a
    omega
  have hn : w.n = w.ls.sum + 1 := rfl
  have sm : ∀ p ∈ ms, (p.1.natAbs < 10 ^ 60) ∧ (p.2.natAbs < 10 ^ 60) := fun p hm => by
    have := hp.mem_iff.mp hm
    unfold partsOf at this
    obtain ⟨q, hq, h⟩ := List.mem_flatMap.mp this
    unfold Wd.str at hq
    obtain ⟨q0, hq0, rfl⟩ := List.mem_map.mp hq
    have f := found_in ok q0 hq0
    have m1 := wrap (C := 0) (x := spot + q0.1) (M := w.n) (by omega)
    have m2 := wrap (C := 0) (x := spot - q0.1 - q0.2 + 1) (M := w.n) (by omega)
    cases r
    · simp only [if_false, Bool.false_eq_true] at h
      rcases List.mem_cons.mp h with h | h
      · rw [h]; simp only; split <;> omega
      · split at h
        · rw [List.mem_singleton.mp h]; simp only; omega
        · cases h
    · simp only [if_true] at h
      rcases List.mem_cons.mp h with h | h
      · rw [h]; simp only; split <;> omega
      · split at h
        · rw [List.mem_singleton.mp h]; simp only; omega
        · cases h
  have sj := join_all (A := fun i => i.natAbs < 10 ^ 60) ms [] sm (by simp)
  have fp : Fit 2 40000 (pairsD (joinOn [] ms)) := by
    have : ∀ d ∈ (joinOn [] ms).map pairD, Fit 1 402 d := fun d hd => by
      obtain ⟨p, hp, rfl⟩ := List.mem_map.mp hd
      exact .tup (.cons (.int (sj p hp).1) (.cons (.int (sj p hp).2) (.nil (n := 0) (k := 0))))
    exact (Fit.tup (FitL.all this)).mono (by decide) (by rw [List.length_map]; omega)
  refine ⟨⟨by show 0 < w.n; omega, by show (joinOn [] ms).length < 16777216; omega⟩, ?_⟩
  have sd : ∀ (h : Nat) (r : Bool), Fit h 200 (side r) := fun h r => by cases r <;> exact Fit.str (by decide +kernel) (by decide +kernel) (by decide +kernel)
  exact (Fit.tup (.cons (.int (by show w.n.natAbs < _; omega)) (.cons fp (.cons (.int hpl) (.cons (sd _ _) (.nil (n := 0) (k := 0))))))).mono (by decide) (by decide)
end Tf

set_option Elab.async false
set_option linter.all false
set_option maxRecDepth 100000
set_option maxHeartbeats 1000000
namespace Tf
open PySem PySem.Spec PyProof.Rows L2
/-! ### far states as rings -/
def altR : Int → List Int → List Rn
  | _, [] => []
  | u, l :: ls => (u, l) :: altR (1 - u) ls
theorem altR_canon : ∀ (ls : List Int) (u : Int), (u = 0 ∨ u = 1) → (∀ l ∈ ls, 1 ≤ l) → Canon (altR u ls)
  | [], _, _, _ => trivial
  | [l], u, h, hl => ⟨h, by have := hl l (by simp); simp; omega⟩
  | l :: m :: ls, u, h, hl => ⟨⟨h, by have := hl l (by simp); simp; omega⟩, by simp; omega, altR_canon (m :: ls) (1 - u) (by omega) fun x hx => hl x (by simp [hx])⟩
theorem altR_lens : ∀ (ls : List Int) (u : Int), lens (altR u ls) = ls
  | [], _ => rfl
  | l :: ls, u => by simp [altR, lens]; have := altR_lens ls (1 - u); simpa [lens] using this
theorem altR_len : ∀ (ls : List Int) (u : Int), (altR u ls).length = ls.length
  | [], _ => rfl
  | l :: ls, u => by simp [altR, altR_len ls]
/-- what the first passes find -/
def Wd.bits (w : Wd) : List Bool := ex (altR w.up w.ls)
def Wd.a (w : Wd) : Int → Bool := extW (w.n.toNat - 1) fun j => w.bits[j.toNat]?.getD false
theorem bits_len {w : Wd} (ok : w.ok) : (w.bits.length : Int) = w.n - 1 := by
  unfold Wd.bits
  rw [len_ex (altR_canon w.ls w.up ok.1 ok.2.2.2.1).good, altR_lens]
  unfold Wd.n
  omega
theorem bits_rle {w : Wd} (ok : w.ok) : rle w.bits = altR w.up w.ls := (canon_eq (altR_canon w.ls w.up ok.1 ok.2.2.2.1)).symm
theorem upOn_cons (ph up seat l : Int) (ls : List Int) (h0 : 0 ≤ seat) : ∃ B, (B = seat ∨ (0 < ph ∧ B = 1 ∧ seat ≤ B)) ∧ seat ≤ B ∧ (0 < ph → 1 ≤ B) ∧ upOn ph up seat (l :: ls) = (if up = 1 ∧ B < seat + l then [(B, seat + l - B)] else []) ++ upOn ph (1 - up) (seat + l) ls := by
  refine ⟨if (if ph > 0 then 1 else 0) > seat then (if ph > 0 then 1 else 0) else seat, ?_, ?_, ?_, rfl⟩
  · by_cases h : ph > 0
    · simp only [if_pos h]; split <;> omega
    · simp only [if_neg h]; split <;> omega
  · split <;> omega
  · intro h
    simp only [if_pos (show ph > 0 from h)]
    split <;> omega
theorem upOn_low (ph : Int) : ∀ (ls : List Int) (up seat : Int), 0 ≤ seat → (∀ l ∈ ls, 1 ≤ l) → ∀ q ∈ upOn ph up seat ls, seat ≤ q.1
  | [], _, _, _, _, q, hq => by simp [upOn] at hq
  | m :: ms, up, seat, hs, hl, q, hq => by
    have hm := hl m (by simp)
    obtain ⟨B, _, b1, _, e⟩ := upOn_cons ph up seat m ms hs
    rw [e] at hq
    rcases List.mem_append.mp hq with z | z
    · by_cases c : up = 1 ∧ B < seat + m
      · rw [if_pos c] at z
        rw [List.mem_singleton.mp z]
        exact b1
      · rw [if_neg c] at z; cases z
    · have := upOn_low ph ms (1 - up) (seat + m) (by omega) (fun x hx => hl x (by simp [hx])) q z
      omega
/-- a stretch covers what is up in the word -/
theorem upOn_any (ph : Int) : ∀ (ls : List Int) (up seat i : Int), (up = 0 ∨ up = 1) → 0 ≤ seat → (∀ l ∈ ls, 1 ≤ l) → seat ≤ i →
    ((upOn ph up seat ls).any fun q => decide (q.1 ≤ i ∧ i < q.1 + q.2)) = (decide (0 < ph → 1 ≤ i) && (ex (altR up ls))[(i - seat).toNat]?.getD false)
  | [], up, seat, i, _, _, _, _ => by simp [upOn, altR, ex]
  | l :: ls, up, seat, i, hu, h0, hl, hi => by
    have l1 := hl l (by simp)
    obtain ⟨B, b0, b1, b2, e⟩ := upOn_cons ph up seat l ls h0
    rw [e, List.any_append]
    simp only [altR, ex]
    by_cases hin : i < seat + l
    · have tail0 : ((upOn ph (1 - up) (seat + l) ls).any fun q => decide (q.1 ≤ i ∧ i < q.1 + q.2)) = false := by
        refine List.any_eq_false.mpr fun q hq => ?_
        have := upOn_low ph ls (1 - up) (seat + l) (by omega) (fun x hx => hl x (by simp [hx])) q hq
        have n : ¬ (q.1 ≤ i ∧ i < q.1 + q.2) := by omega
        simpa using n
      rw [tail0, Bool.or_false]
      have ei : (List.replicate l.toNat (up == 1) ++ ex (altR (1 - up) ls))[(i - seat).toNat]? = some (up == 1) := by
        rw [List.getElem?_append_left (by simp; omega), List.getElem?_replicate, if_pos (by omega)]
      rw [ei]
      rcases hu with rfl | rfl
      · simp
      · by_cases hb : B < seat + l
        · rw [if_pos ⟨rfl, hb⟩]
          have iff_ : (B ≤ i ∧ i < B + (seat + l - B)) ↔ (0 < ph → 1 ≤ i) := by
            constructor
            · intro h hp; have := b2 hp; omega
            · intro h
              refine ⟨?_, by omega⟩
              rcases b0 with z | ⟨z1, z2, _⟩
              · omega
              · have := h z1; omega
          have sg1 : ([(B, seat + l - B)].any fun q : Int × Int => decide (q.1 ≤ i ∧ i < q.1 + q.2)) = decide (0 < ph → 1 ≤ i) := by
            rw [List.any_cons, List.any_nil, Bool.or_false]
            exact decide_eq_decide.mpr iff_
          rw [sg1]
          simp
        · rw [if_neg (fun z => hb z.2)]
          have n : ¬ (0 < ph → 1 ≤ i) := by
            rcases b0 with z | ⟨z1, z2, _⟩
            · omega
            · intro h; have := h z1; omega
          simp [n]
    · have h1 : ((if up = 1 ∧ B < seat + l then [(B, seat + l - B)] else []).any fun q : Int × Int => decide (q.1 ≤ i ∧ i < q.1 + q.2)) = false := by
        by_cases c : up = 1 ∧ B < seat + l
        · rw [if_pos c]
          have n : ¬ (B ≤ i ∧ i < B + (seat + l - B)) := by omega
          simpa using n
        · rw [if_neg c]; rfl
      rw [h1, Bool.false_or, upOn_any ph ls (1 - up) (seat + l) i (by omega) (by omega) (fun x hx => hl x (by simp [hx])) (by omega)]
      rw [List.getElem?_append_right (by simp; omega)]
      congr 3
      simp
      omega
/-! each place is in one stretch alone -/
def hits (x : Int) (ms : List (Int × Int)) : Nat := ms.countP fun p => decide (p.1 ≤ x ∧ x < p.2)
theorem hits_nil (x : Int) : hits x [] = 0 := rfl
theorem hits_cons (x : Int) (p : Int × Int) (ms : List (Int × Int)) : hits x (p :: ms) = hits x ms + if p.1 ≤ x ∧ x < p.2 then 1 else 0 := by
  unfold hits
  rw [List.countP_cons]
  simp
theorem hits_app (x : Int) (a b : List (Int × Int)) : hits x (a ++ b) = hits x a + hits x b := by simp [hits]
theorem hits_perm {x : Int} {a b : List (Int × Int)} (h : a.Perm b) : hits x a = hits x b := h.countP_eq _
def fhits (i : Int) (fs : List (Int × Int)) : Nat := fs.countP fun q => decide (q.1 ≤ i ∧ i < q.1 + q.2)
theorem fhits_up (ph i : Int) : ∀ (ls : List Int) (up seat : Int), 0 ≤ seat → (∀ l ∈ ls, 1 ≤ l) → fhits i (upOn ph up seat ls) ≤ 1
  | [], _, _, _, _ => by simp [upOn, fhits]
  | l :: ls, up, seat, h0, hl => by
    have l1 := hl l (by simp)
    obtain ⟨B, b0, b1, b2, e⟩ := upOn_cons ph up seat l ls h0
    have ih := fhits_up ph i ls (1 - up) (seat + l) (by omega) fun x hx => hl x (by simp [hx])
    rw [e]
    unfold fhits at *
    rw [List.countP_append]
    by_cases c : up = 1 ∧ B < seat + l
    · rw [if_pos c, List.countP_singleton]
      by_cases hin : i < seat + l
      · have z : (upOn ph (1 - up) (seat + l) ls).countP (fun q => decide (q.1 ≤ i ∧ i < q.1 + q.2)) = 0 := by
          refine List.countP_eq_zero.mpr fun q hq => ?_
          have := upOn_low ph ls (1 - up) (seat + l) (by omega) (fun x hx => hl x (by simp [hx])) q hq
          have n : ¬ (q.1 ≤ i ∧ i < q.1 + q.2) := by omega
          simpa using n
        rw [z]
        split <;> omega
      · have n : ¬ (B ≤ i ∧ i < B + (seat + l - B)) := by omega
        rw [if_neg (by simpa using n)]
        omega
    · rw [if_neg c]
      simpa using ih
theorem fhits_found {w : Wd} (ok : w.ok) (ph i : Int) : fhits i (w.found ph) ≤ 1 := by
  unfold Wd.found
  have h := fhits_up ph i w.ls w.up 0 (by decide) ok.2.2.2.1
  unfold fhits at *
  rw [List.countP_append]
  split
  · rw [List.countP_singleton]
    by_cases hi : i = w.n - 1
    · have z : (upOn ph w.up 0 w.ls).countP (fun q => decide (q.1 ≤ i ∧ i < q.1 + q.2)) = 0 := by
        refine List.countP_eq_zero.mpr fun q hq => ?_
        have := upOn_in w.ls w.up 0 (by decide) ok.2.2.2.1 q hq
        have hn : w.n = w.ls.sum + 1 := rfl
        have n : ¬ (q.1 ≤ i ∧ i < q.1 + q.2) := by omega
        simpa using n
      rw [z]
      split <;> omega
    · have n : ¬ (w.n - 1 ≤ i ∧ i < w.n - 1 + 1) := by omega
      rw [if_neg (by simpa using n)]
      omega
  · simpa using h
theorem hits_parts (n x : Int) (h0 : 0 ≤ x) (hn : x < n) : ∀ str : List (Int × Int), (∀ q ∈ str, 0 ≤ q.1 ∧ q.1 < n ∧ 1 ≤ q.2 ∧ q.2 ≤ n) → hits x (partsOf n str) = str.countP fun q => decide ((q.1 ≤ x ∧ x < q.1 + q.2) ∨ (q.1 + q.2 > n ∧ x < q.1 + q.2 - n))
  | [], _ => rfl
  | q :: r, hq => by
    have e : partsOf n (q :: r) = ((q.1, if q.1 + q.2 < n then q.1 + q.2 else n) :: (if q.1 + q.2 > n then [(0, q.1 + q.2 - n)] else [])) ++ partsOf n r := rfl
    obtain ⟨a1, a2, a3, a4⟩ := hq q (by simp)
    rw [e, hits_app, hits_parts n x h0 hn r (fun z hz => hq z (by simp [hz])), List.countP_cons, hits_cons]
    by_cases big : q.1 + q.2 > n
    · rw [if_pos big, hits_cons, hits_nil, if_neg (by omega : ¬ q.1 + q.2 < n)]
      simp only
      by_cases c1 : q.1 ≤ x
      · have d : ((q.1 ≤ x ∧ x < q.1 + q.2) ∨ (q.1 + q.2 > n ∧ x < q.1 + q.2 - n)) := .inl ⟨c1, by omega⟩
        rw [if_pos (show q.1 ≤ x ∧ x < n from ⟨c1, hn⟩), if_neg (show ¬ (0 ≤ x ∧ x < q.1 + q.2 - n) by omega), if_pos (by simpa using d)]
        omega
      · by_cases c2 : x < q.1 + q.2 - n
        · have d : ((q.1 ≤ x ∧ x < q.1 + q.2) ∨ (q.1 + q.2 > n ∧ x < q.1 + q.2 - n)) := .inr ⟨big, c2⟩
          rw [if_neg (show ¬ (q.1 ≤ x ∧ x < n) by omega), if_pos (show 0 ≤ x ∧ x < q.1 + q.2 - n from ⟨h0, c2⟩), if_pos (by simpa using d)]
          omega
        · have d : ¬ ((q.1 ≤ x ∧ x < q.1 + q.2) ∨ (q.1 + q.2 > n ∧ x < q.1 + q.2 - n)) := by omega
          rw [if_neg (show ¬ (q.1 ≤ x ∧ x < n) by omega), if_neg (show ¬ (0 ≤ x ∧ x < q.1 + q.2 - n) by omega), if_neg (by simpa using d)]
          omega
    · rw [if_neg big, hits_nil]
      simp only
      have e2 : (if q.1 + q.2 < n then q.1 + q.2 else n) = q.1 + q.2 := by split <;> omega
      rw [e2]
      by_cases c1 : q.1 ≤ x ∧ x < q.1 + q.2
      · have d : ((q.1 ≤ x ∧ x < q.1 + q.2) ∨ (q.1 + q.2 > n ∧ x < q.1 + q.2 - n)) := .inl c1
        rw [if_pos c1, if_pos (by simpa using d)]
        omega
      · have d : ¬ ((q.1 ≤ x ∧ x < q.1 + q.2) ∨ (q.1 + q.2 > n ∧ x < q.1 + q.2 - n)) := by omega
        rw [if_neg c1, if_neg (by simpa using d)]
        omega
theorem str_in {w : Wd} (ok : w.ok) {spot ph : Int} {r : Bool} : ∀ q ∈ w.str spot r ph, 0 ≤ q.1 ∧ q.1 < w.n ∧ 1 ≤ q.2 ∧ q.2 ≤ w.n := fun q hq => by
  have n1 := wd_n ok
  unfold Wd.str at hq
  obtain ⟨q0, hq0, rfl⟩ := List.mem_map.mp hq
  have f := found_in ok q0 hq0
  have hn : w.n = w.ls.sum + 1 := rfl
  cases r
  · simp only [Bool.false_eq_true, if_false]
    have := md_rng (spot - q0.1 - q0.2 + 1) (n := w.n) (by omega)
    omega
  · simp only [if_true]
    have := md_rng (spot + q0.1) (n := w.n) (by omega)
    omega
theorem hits_far {w : Wd} (ok : w.ok) {spot x ph : Int} {r : Bool} (s0 : 0 ≤ spot) (s1 : spot < w.n) (x0 : 0 ≤ x) (x1 : x < w.n) {ms : List (Int × Int)} (hp : ms.Perm (partsOf w.n (w.str spot r ph))) : hits x ms ≤ 1 := by
  rw [hits_perm hp, hits_parts _ _ x0 x1 _ (str_in ok)]
  refine Nat.le_trans (Nat.le_of_eq ?_) (fhits_found ok ph (onWay w.n spot r x))
  unfold Wd.str fhits
  rw [List.countP_map]
  refine List.countP_congr fun q hq => ?_
  have f := found_in ok q hq
  have c := cover (n := w.n) (spot := spot) (x := x) (b := q.1) (l := q.2) r s0 s1 x0 x1 f.1 f.2.1 f.2.2.1 _ rfl
  cases r
  · simpa using c
  · simpa using c
theorem parts_in {w : Wd} (ok : w.ok) {spot ph : Int} {r : Bool} {ms : List (Int × Int)} (hp : ms.Perm (partsOf w.n (w.str spot r ph))) : ∀ p ∈ ms, 0 ≤ p.1 ∧ p.1 < p.2 ∧ p.2 ≤ w.n := fun p hm => by
  have := hp.mem_iff.mp hm
  unfold partsOf at this
  obtain ⟨q, hq, h⟩ := List.mem_flatMap.mp this
  obtain ⟨a1, a2, a3, a4⟩ := str_in ok q hq
  rcases List.mem_cons.mp h with h | h
  · rw [h]; simp only; split <;> omega
  · split at h
    · rw [List.mem_singleton.mp h]; simp only; omega
    · cases h
/-- put together, they are in order -/
theorem norm_snoc : ∀ {acc : List (Int × Int)} {lo n : Int} {p : Int × Int}, Norm lo n acc → p.1 < p.2 → p.2 ≤ n → (acc = [] → lo ≤ p.1) → (∀ q, acc.getLast? = some q → q.2 < p.1) → Norm lo n (acc ++ [p])
  | [], lo, n, p, _, h1, h2, h3, _ => ⟨h3 rfl, h1, h2, trivial⟩
  | a :: acc, lo, n, p, h, h1, h2, _, h4 => by
    refine ⟨h.1, h.2.1, h.2.2.1, norm_snoc h.2.2.2 h1 h2 (fun e => ?_) fun q hq => h4 q ?_⟩
    · subst e
      have := h4 a rfl
      omega
    · cases acc with
      | nil => cases hq
      | cons b acc => rw [List.getLast?_cons_cons]; exact hq
theorem norm_last : ∀ {acc : List (Int × Int)} {lo n : Int} {q : Int × Int} {e : Int}, Norm lo n (acc ++ [q]) → q.2 ≤ e → e ≤ n → Norm lo n (acc ++ [(q.1, e)])
  | [], lo, n, q, e, h, h1, h2 => ⟨h.1, by have := h.2.1; simp only; omega, h2, trivial⟩
  | a :: acc, lo, n, q, e, h, h1, h2 => ⟨h.1, h.2.1, h.2.2.1, norm_last (acc := acc) h.2.2.2 h1 h2⟩
theorem norm_join {n : Int} : ∀ (ms acc : List (Int × Int)), Norm 0 n acc → ms.Pairwise (fun p q => p.2 ≤ q.1) → (∀ p ∈ ms, 0 ≤ p.1 ∧ p.1 < p.2 ∧ p.2 ≤ n) → (∀ q, acc.getLast? = some q → ∀ p ∈ ms, q.2 ≤ p.1) → Norm 0 n (joinOn acc ms)
  | [], acc, h, _, _, _ => by rw [joinOn]; exact h
  | (b, e) :: r, acc, h, hs, hi, hl => by
    obtain ⟨i1, i2, i3⟩ := hi (b, e) (by simp)
    have hs' := List.pairwise_cons.mp hs
    have ir : ∀ p ∈ r, 0 ≤ p.1 ∧ p.1 < p.2 ∧ p.2 ≤ n := fun p hp => hi p (by simp [hp])
    rw [joinOn]
    split
    · rename_i ht
      rcases List.eq_nil_or_concat acc with rfl | ⟨init, q, rfl⟩
      · cases ht
      · simp only [List.concat_eq_append] at h ht hl ⊢
        have hq : q.2 = b := by simpa [touch] using ht
        have ed : ((init ++ [q]).dropLast ++ [(((init ++ [q]).getLast?.map (·.1)).getD 0, e)]) = init ++ [(q.1, e)] := by simp
        rw [ed]
        refine norm_join r _ (norm_last h (by simp only at i2; omega) i3) hs'.2 ir fun q' hq' p hp => ?_
        simp at hq'
        subst hq'
        exact hs'.1 p hp
    · rename_i ht
      refine norm_join r _ (norm_snoc h i2 i3 (fun _ => i1) fun q hq => ?_) hs'.2 ir fun q' hq' p hp => ?_
      · have := hl q hq (b, e) (by simp)
        simp only [touch, hq, decide_eq_true_eq] at ht
        simp only at this ⊢
        omega
      · simp at hq'
        subst hq'
        exact hs'.1 p hp
theorem sorted_apart {n : Int} : ∀ {ms : List (Int × Int)}, ms.Pairwise lexLe → (∀ p ∈ ms, 0 ≤ p.1 ∧ p.1 < p.2 ∧ p.2 ≤ n) → (∀ x, 0 ≤ x → x < n → hits x ms ≤ 1) → ms.Pairwise (fun p q => p.2 ≤ q.1)
  | [], _, _, _ => .nil
  | p :: ms, hs, hi, hh => by
    have hs' := List.pairwise_cons.mp hs
    refine List.pairwise_cons.mpr ⟨fun q hq => ?_, sorted_apart hs'.2 (fun q hq => hi q (by simp [hq])) fun x h0 h1 => ?_⟩
    · have l := hs'.1 q hq
      have iq := hi q (by simp [hq])
      have ip := hi p (by simp)
      have h := hh q.1 iq.1 (by omega)
      rw [hits_cons] at h
      have pos : 1 ≤ hits q.1 ms := by
        unfold hits
        exact List.countP_pos_iff.mpr ⟨q, hq, by simp; omega⟩
      have lx : p.1 ≤ q.1 := by rcases l with z | z <;> omega
      by_cases c : q.1 < p.2
      · rw [if_pos ⟨lx, c⟩] at h; omega
      · omega
    · have := hh x h0 h1
      rw [hits_cons] at this
      omega
/-- the ring of a word -/
def Wd.cf (w : Wd) (spot ph : Int) (r : Bool) : Cf := ⟨w.n.toNat, r, spot, ph, w.a⟩
theorem wd_cf_ok {w : Wd} (ok : w.ok) {spot ph : Int} {r : Bool} (s0 : 0 ≤ spot) (s1 : spot < w.n) (p0 : 0 ≤ ph) (p2 : ph ≤ 2) (hu : 0 < ph → w.up = 1) : (w.cf spot ph r).ok := by
  have n1 := wd_n ok
  have hn : w.n = w.ls.sum + 1 := rfl
  refine ⟨by show 2 ≤ w.n.toNat; omega, s0, by show spot < (w.n.toNat : Int); omega, by show ph = 0 ∨ ph = 1 ∨ ph = 2; omega, (show Anti (w.n.toNat - 1) w.a from extW_anti (by omega) _), fun h => ?_⟩
  show w.a 0 = true
  unfold Wd.a
  rw [extW_at (by omega) (by omega)]
  have u := hu h
  have h2 := ok.2.1
  have h3 := ok.2.2.2.1
  unfold Wd.bits
  cases e : w.ls with
  | nil => exact absurd e h2
  | cons l ls =>
    rw [e] at h3
    have := h3 l (by simp)
    have el : l.toNat = (l.toNat - 1) + 1 := by omega
    rw [u]
    simp only [altR, ex]
    rw [el, List.replicate_succ]
    rfl
theorem far_ring {w : Wd} (ok : w.ok) {spot ph : Int} {r : Bool} (s0 : 0 ≤ spot) (s1 : spot < w.n) (p0 : 0 ≤ ph) (p2 : ph ≤ 2) (hu : 0 < ph → w.up = 1) {ms : List (Int × Int)} (hp : ms.Perm (partsOf w.n (w.str spot r ph))) (hs : ms.Pairwise lexLe) :
    joinOn [] ms = prs (tab (w.cf spot ph r).n (w.cf spot ph r).ring.up) := by
  have n1 := wd_n ok
  have hn : w.n = w.ls.sum + 1 := rfl
  have en : ((w.n.toNat : Nat) : Int) = w.n := by omega
  have pin := parts_in ok hp
  have nm : Norm 0 w.n (joinOn [] ms) := norm_join ms [] trivial (sorted_apart hs pin fun x h0 h1 => hits_far ok s0 s1 h0 h1 hp) pin (by simp)
  have np := norm_prs (tab (w.cf spot ph r).n (w.cf spot ph r).ring.up)
  rw [tab_len] at np
  have np' : Norm 0 w.n (prs (tab (w.cf spot ph r).n (w.cf spot ph r).ring.up)) := by rw [← en]; exact np
  refine Norm.uniq nm np' fun x h0 h1 => ?_
  rw [up_tab h0 (by show x < (w.n.toNat : Int); omega), far_up ok s0 s1 h0 h1 hp]
  have eo : onWay w.n spot r x = (w.cf spot ph r).ix x := by
    show (if r then (x - spot) % w.n else (spot - x) % w.n) = (x - spot) * sg r % (w.n.toNat : Int)
    rw [en]
    unfold sg
    cases r
    · simp; congr 1; omega
    · simp
  have rg : 0 ≤ (w.cf spot ph r).ix x ∧ (w.cf spot ph r).ix x < w.n := by
    have := md_rng ((x - spot) * sg r) (n := (w.n.toNat : Int)) (by omega)
    rw [en] at this
    rw [← en]
    show 0 ≤ (x - spot) * sg r % (w.n.toNat : Int) ∧ (x - spot) * sg r % (w.n.toNat : Int) < (w.n.toNat : Int)
    rw [en]
    exact this
  rw [eo, Cf.ring_ix]
  generalize (w.cf spot ph r).ix x = i at rg
  have bl := bits_len ok
  have ua := upOn_any ph w.ls w.up 0 i ok.1 (by decide) ok.2.2.2.1 rg.1
  unfold Wd.found
  rw [List.any_append, ua]
  have a_ : i < w.n - 1 → w.a i = w.bits[i.toNat]?.getD false := fun h => by
    unfold Wd.a
    rw [extW_at rg.1 (by omega)]
  show _ = if i = 0 then decide (ph = 0) && w.a 0 else if i = (w.n.toNat : Int) - 1 then !decide (ph = 2) else w.a i
  rw [en]
  have bit : (ex (altR w.up w.ls))[(i - 0).toNat]?.getD false = w.bits[i.toNat]?.getD false := by rw [Int.sub_zero]; rfl
  rw [bit]
  by_cases i0 : i = 0
  · rw [if_pos i0, ← i0, a_ (by omega)]
    have l0 : ((if ph < 2 then [(w.n - 1, 1)] else []).any fun q : Int × Int => decide (q.1 ≤ i ∧ i < q.1 + q.2)) = false := by
      split
      · have n : ¬ (w.n - 1 ≤ i ∧ i < w.n - 1 + 1) := by omega
        simpa using n
      · rfl
    rw [l0, Bool.or_false]
    congr 1
    exact decide_eq_decide.mpr (by omega)
  · rw [if_neg i0]
    by_cases i1 : i = w.n - 1
    · rw [if_pos i1]
      have b0 : w.bits[i.toNat]?.getD false = false := by rw [List.getElem?_eq_none (by omega)]; rfl
      rw [b0, Bool.and_false, Bool.false_or]
      by_cases hp2 : ph < 2
      · rw [if_pos hp2]
        have d : (w.n - 1 ≤ i ∧ i < w.n - 1 + 1) := by omega
        have d2 : ¬ ph = 2 := by omega
        simp [d2]
        omega
      · rw [if_neg hp2]
        have d2 : ph = 2 := by omega
        simp [d2]
    · rw [if_neg i1, a_ (by omega)]
      have l0 : ((if ph < 2 then [(w.n - 1, 1)] else []).any fun q : Int × Int => decide (q.1 ≤ i ∧ i < q.1 + q.2)) = false := by
        split
        · have n : ¬ (w.n - 1 ≤ i ∧ i < w.n - 1 + 1) := by omega
          simpa using n
        · rfl
      rw [l0, Bool.or_false]
      have d : (0 < ph → 1 ≤ i) := fun _ => by omega
      rw [decide_eq_true d, Bool.true_and]
end Tf

set_option Elab.async false
set_option linter.all false
set_option maxRecDepth 100000
set_option maxHeartbeats 1000000
namespace Tf
open PySem PySem.Spec PyProof.Rows L2
/-! ### room -/
@[simp] theorem szl0 : (0 ≤ sz) = True := by decide
@[simp] theorem szl1 : (1 ≤ sz) = True := by decide
@[simp] theorem szl2 : (2 ≤ sz) = True := by decide
@[simp] theorem szl3 : (3 ≤ sz) = True := by decide
@[simp] theorem szl4 : (4 ≤ sz) = True := by decide
@[simp] theorem szl5 : (5 ≤ sz) = True := by decide
@[simp] theorem szl6 : (6 ≤ sz) = True := by decide
@[simp] theorem szl7 : (7 ≤ sz) = True := by decide
@[simp] theorem szl8 : (8 ≤ sz) = True := by decide
@[simp] theorem szl9 : (9 ≤ sz) = True := by decide
@[simp] theorem szl10 : (10 ≤ sz) = True := by decide
@[simp] theorem szl11 : (11 ≤ sz) = True := by decide
@[simp] theorem szl12 : (12 ≤ sz) = True := by decide
@[simp] theorem szl13 : (13 ≤ sz) = True := by decide
@[simp] theorem szl14 : (14 ≤ sz) = True := by decide
@[simp] theorem szl15 : (15 ≤ sz) = True := by decide
@[simp] theorem szl16 : (16 ≤ sz) = True := by decide
@[simp] theorem szt0 : (0 < sz) = True := by decide
@[simp] theorem szt1 : (1 < sz) = True := by decide
@[simp] theorem szt2 : (2 < sz) = True := by decide
@[simp] theorem szt3 : (3 < sz) = True := by decide
@[simp] theorem szt4 : (4 < sz) = True := by decide
@[simp] theorem szt5 : (5 < sz) = True := by decide
@[simp] theorem szt6 : (6 < sz) = True := by decide
@[simp] theorem szt7 : (7 < sz) = True := by decide
@[simp] theorem szt8 : (8 < sz) = True := by decide
@[simp] theorem szt9 : (9 < sz) = True := by decide
@[simp] theorem szt10 : (10 < sz) = True := by decide
@[simp] theorem szt11 : (11 < sz) = True := by decide
@[simp] theorem szt12 : (12 < sz) = True := by decide
@[simp] theorem szt13 : (13 < sz) = True := by decide
@[simp] theorem szt14 : (14 < sz) = True := by decide
@[simp] theorem szt15 : (15 < sz) = True := by decide
@[simp] theorem szt16 : (16 < sz) = True := by decide
/-! ### items by their index -/
@[simp] theorem at_0 {α : Type} {a : α} {xs : List α} : atI (a :: xs) 0 = some a := by simp [atI, ixN]
@[simp] theorem at_1 {α : Type} {a b : α} {xs : List α} : atI (a :: b :: xs) 1 = some b := by unfold atI ixN; rw [if_pos (by decide), if_pos (by simp; omega)]; rfl
@[simp] theorem at_2 {α : Type} {a b c : α} {xs : List α} : atI (a :: b :: c :: xs) 2 = some c := by unfold atI ixN; rw [if_pos (by decide), if_pos (by simp; omega)]; rfl
@[simp] theorem at_3 {α : Type} {a b c d : α} {xs : List α} : atI (a :: b :: c :: d :: xs) 3 = some d := by unfold atI ixN; rw [if_pos (by decide), if_pos (by simp; omega)]; rfl
@[simp] theorem at_4 {α : Type} {a b c d e : α} {xs : List α} : atI (a :: b :: c :: d :: e :: xs) 4 = some e := by unfold atI ixN; rw [if_pos (by decide), if_pos (by simp; omega)]; rfl
/-! ### rows of runs -/
def rD (rs : List Rn) : D := .tup (rs.map pairD)
def wD (l : List Bool) : D := rD (rle l)
theorem pairD_inj {a b : Int × Int} (h : pairD a = pairD b) : a = b := by
  obtain ⟨a1, a2⟩ := a
  obtain ⟨b1, b2⟩ := b
  simp [pairD] at h
  simp [h]
theorem vw_rD {μ : Mu} {rs : List Rn} : vw μ (rD rs) = rD rs := rfl
@[simp] theorem vw_wD {μ : Mu} {l : List Bool} : vw μ (wD l) = wD l := rfl
@[simp] theorem seq_wD {l : List Bool} : seqD (wD l) = some ((rle l).map pairD) := rfl
@[simp] theorem vw_pairsD {μ : Mu} {ps : List (Int × Int)} : vw μ (pairsD ps) = pairsD ps := rfl
@[simp] theorem vw_side {μ : Mu} {r : Bool} : vw μ (side r) = side r := by cases r <;> rfl
@[simp] theorem vw_st {μ : Mu} {s : St4} : vw μ s.d = s.d := rfl
theorem side_inj {a b : Bool} (h : side a = side b) : a = b := by
  cases a <;> cases b <;> simp [side, lr3, lr4] at h <;> rfl
@[simp] theorem side_right {r : Bool} : (decide ((if r then Str.ofString "right" else Str.ofString "left") = Str.ofString "right")) = r := by cases r <;> simp [lr3]
theorem c_side_right {r : Bool} {μ : Mu} {Q : Bool → Mu → Prop} : wCop .eq (side r) (.str "right") μ Q = Q r μ := by cases r <;> simp [side, lr3]
theorem c_side_left {r : Bool} {μ : Mu} {Q : Bool → Mu → Prop} : wCop .eq (side r) (.str "left") μ Q = Q (!r) μ := by cases r <;> simp [side, lr4]
theorem take_succ_pair {α : Type} {xs : List α} {i : Nat} {p : α} {r : List α} (h : xs.drop i = p :: r) : xs.take (i + 1) = xs.take i ++ [p] := by
  have : xs[i]? = some p := by
    have := congrArg List.head? h
    simpa using this
  rw [List.take_add_one, this]
  rfl
/-! ### the program's words -/
def s_put_together : Spec := fun ds μ R _ => ∃ rs : List Rn, ds = [.lst (rs.map pairD)] ∧ Good rs ∧ rs.length < 1000000 ∧ R (wD (ex rs)) μ
def s_runs_of : Spec := fun ds μ R _ => ∃ (n : Int) (l : List Bool), ds = [.int n, pairsD (prs l)] ∧ n = l.length ∧ nr l < 100000 ∧ R (wD l) μ
def s_pairs_of : Spec := fun ds μ R _ => ∃ l : List Bool, ds = [wD l] ∧ nr l < 100000 ∧ R (pairsD (prs l)) μ
def s_cut_runs : Spec := fun ds μ R _ => ∃ (x : D) (a m : Int) (rs : List Rn), ds = [x, .int a, .int m] ∧ (x = rD rs ∨ x = .lst (rs.map pairD)) ∧ 0 ≤ a ∧ 0 ≤ m ∧ Good rs ∧ rs.length < 100000 ∧ R (wD (((ex rs).drop a.toNat).take m.toNat)) μ
theorem good_rle (l : List Bool) : Good (rle l) := (rle_canon l).good
theorem cut_w {l : List Bool} {a m : Int} {μ : Mu} {R : Post} {E : XPost} (h1 : 0 ≤ a) (h2 : 0 ≤ m) (h3 : nr l < 100000) (q : R (wD ((l.drop a.toNat).take m.toNat)) μ) : s_cut_runs [wD l, .int a, .int m] μ R E :=
  ⟨_, _, _, rle l, rfl, .inl rfl, h1, h2, good_rle l, h3, by rw [ex_rle]; exact q⟩
def n_put_together : List Str := ["runs", "found", "number", "length"]
def i_put_together : List IS := [.asg (.nm 1) (.lst true []), .for_ [2, 3] (.tp [.nm 2, .nm 3]) (.seq (.var 0)) [.ite (.ands [.cmp .ne (.var 1) (.lst false []), .cmp .eq (.sub (.sub (.var 1) (.neg (.cst (.int 1)))) (.cst (.int 0))) (.var 2)]) [.par [2, 3] [.var 2, .bop .add (.sub (.pop (.var 1)) (.cst (.int 1))) (.var 3)]] [], .ite (.cmp .gt (.var 3) (.cst (.int 0))) [.exp (.app (.var 1) (.tup [.var 2, .var 3]))] []], .ret (.blt .tuple [.var 1])]
def n_runs_of : List Str := ["size", "raised", "found", "end", "begin", "stop"]
def i_runs_of : List IS := [.asg (.nm 2) (.lst true []), .asg (.nm 3) (.cst (.int 0)), .for_ [4, 5] (.tp [.nm 4, .nm 5]) (.seq (.var 1)) [.exp (.ext (.var 2) (.lst false [.tup [.cst (.int 0), .bop .sub (.var 4) (.var 3)], .tup [.cst (.int 1), .bop .sub (.var 5) (.var 4)]])), .asg (.nm 3) (.var 5)], .ret (.call "put_together" s_put_together [.lst false [.star (.frz (.var 2)), .tup [.cst (.int 0), .bop .sub (.var 0) (.var 3)]]])]
def n_cut_runs : List Str := ["runs", "first", "many", "found", "begin", "number", "length", "low", "high"]
def i_cut_runs : List IS := [.asg (.nm 3) (.lst true []), .asg (.nm 4) (.cst (.int 0)), .for_ [5, 6, 7, 8] (.tp [.nm 5, .nm 6]) (.seq (.var 0)) [.par [7, 8] [.blt .max2 [.var 4, .var 1], .blt .min2 [.bop .add (.var 4) (.var 6), .bop .add (.var 1) (.var 2)]], .exp (.app (.var 3) (.tup [.var 5, .blt .max2 [.cst (.int 0), .bop .sub (.var 8) (.var 7)]])), .aug 4 .add (.var 6)], .ret (.call "put_together" s_put_together [.frz (.var 3)])]
def n_ring_runs : List Str := ["size", "raised", "place", "side", "runs"]
def i_ring_runs : List IS := [.asg (.nm 4) (.call "runs_of" s_runs_of [.var 0, .var 1]), .ite (.cmp .eq (.var 3) (.glb "LEFT" (.str "left"))) [.par [4, 2] [.rev (.var 4), .bop .sub (.bop .sub (.var 0) (.cst (.int 1))) (.var 2)]] [], .ret (.call "put_together" s_put_together [.lst false [.star (.call "cut_runs" s_cut_runs [.var 4, .var 2, .bop .sub (.var 0) (.var 2)]), .star (.call "cut_runs" s_cut_runs [.var 4, .cst (.int 0), .var 2])]])]
def n_pairs_of : List Str := ["runs", "found", "place", "number", "length"]
def i_pairs_of : List IS := [.asg (.nm 1) (.lst true []), .asg (.nm 2) (.cst (.int 0)), .for_ [3, 4] (.tp [.nm 3, .nm 4]) (.seq (.var 0)) [.ite (.cmp .eq (.var 3) (.cst (.int 1))) [.exp (.app (.var 1) (.tup [.var 2, .bop .add (.var 2) (.var 4)]))] [], .aug 2 .add (.var 4)], .ret (.blt .tuple [.var 1])]
def n_turned_word : List Str := ["word", "number", "length"]
def i_turned_word : List IS := [.ret (.blt .tuple [.comp false [("number", 1), ("length", 2)] (.tp [.nm 1, .nm 2]) (.seq (.var 0)) [] (.tup [.bop .sub (.cst (.int 1)) (.var 1), .var 2])])]
def n_length_of : List Str := ["word", "number", "length"]
def i_length_of : List IS := [.ret (.blt .sum [.comp false [("number", 1), ("length", 2)] (.tp [.nm 1, .nm 2]) (.seq (.var 0)) [] (.var 2)])]
def n_ones_within : List Str := ["word", "many", "number", "length"]
def i_ones_within : List IS := [.ret (.blt .sum [.comp false [("number", 2), ("length", 3)] (.tp [.nm 2, .nm 3]) (.seq (.call "cut_runs" s_cut_runs [.var 0, .cst (.int 0), .var 1])) [.cmp .eq (.var 2) (.cst (.int 1))] (.var 3)])]
theorem k_put_together : Keeps n_put_together i_put_together s_put_together := by
  rintro ds μ R E ⟨rs, rfl, g, hl, q⟩
  simp [n_put_together, i_put_together]
  intro p hp
  refine wFor_run (fun i δ μ' => ∃ F : List Rn, F.reverse = ptR [] (rs.take i) ∧ F.length ≤ i ∧ δ = [some (.lst (rs.map pairD)), some (.ref p), none, none] ∧ μ' = mput μ p (F.map pairD)) (fun _ _ _ _ => trivial) ?_ ⟨[], rfl, by simp, rfl, rfl⟩ ?_
  · rintro i δ μ' x nx hi hx ⟨F, ha, hal, rfl, rfl⟩ on
    obtain ⟨⟨c, n⟩, r, rfl, e1, e2, hlt⟩ := at_pair hx
    have ht := take_succ_pair e1
    have hp1 : ptR [] (rs.take (i + 1)) = pt1 F.reverse (c, n) := by rw [ht, ha]; unfold ptR; rw [List.foldl_append]; rfl
    have hsz : F.length < 1000000 := by omega
    simp [pairD, mput_same]
    refine ⟨pairs_eq, pairs_eq (ps := []), ?_⟩
    rw [pairs_nil]
    rcases List.eq_nil_or_concat F with rfl | ⟨F, ⟨b, k⟩, rfl⟩
    · simp at hp1 ⊢
      by_cases hn : 0 < n
      · simp [hn, mput_same, mput_mput]
        (repeat ((with_reducible refine And.intro ?hc ?_); (case hc => first | decide | omega | (simp only [sz, List.length_append, List.length_map, List.length_cons, List.length_nil, List.length_reverse]; omega) | assumption | exact c_mulS (by omega) (by omega) | exact c_divS (by omega) (by omega))))
        refine on _ _ ⟨[(c, n)], ?_, by simp, by simp, rfl⟩
        rw [hp1, pt1]; exact (if_pos hn).symm
      · simp [hn]
        refine on _ _ ⟨[], ?_, by simp, by simp, rfl⟩
        rw [hp1, pt1]; exact (if_neg hn).symm
    · simp only [List.concat_eq_append] at *
      have en : (F ++ [(b, k)]).isEmpty = false := by cases F <;> rfl
      rw [List.length_append, List.length_singleton] at hal hsz
      rw [List.reverse_append, List.reverse_singleton, List.singleton_append] at hp1
      simp [en, last_at, pairD, mput_same, mput_mput]
      by_cases hb : b = c
      · subst hb
        by_cases hn : 0 < k + n
        · simp [hn, mput_same, mput_mput]
          (repeat ((with_reducible refine And.intro ?hc ?_); (case hc => first | decide | omega | (simp only [sz, List.length_append, List.length_map, List.length_cons, List.length_nil, List.length_reverse]; omega) | assumption | exact c_mulS (by omega) (by omega) | exact c_divS (by omega) (by omega))))
          refine on _ _ ⟨F ++ [(b, k + n)], ?_, by simp; omega, by simp, by simp [pairD]⟩
          rw [hp1, pt1, if_pos rfl, if_pos hn]
          simp
          omega
        · simp [hn, mput_same, mput_mput]
          refine on _ _ ⟨F, ?_, by omega, by simp, rfl⟩
          rw [hp1, pt1, if_pos rfl, if_neg hn]
      · simp only [hb, decide_false]
        by_cases hn : 0 < n
        · simp [hn, mput_same, mput_mput]
          (repeat ((with_reducible refine And.intro ?hc ?_); (case hc => first | decide | omega | (simp only [sz, List.length_append, List.length_map, List.length_cons, List.length_nil, List.length_reverse]; omega) | assumption | exact c_mulS (by omega) (by omega) | exact c_divS (by omega) (by omega))))
          refine on _ _ ⟨F ++ [(b, k)] ++ [(c, n)], ?_, by simp; omega, by simp, by simp [pairD]⟩
          rw [hp1, pt1, if_neg hb, if_pos hn]
          simp
        · simp [hn, mput_same, mput_mput]
          refine on _ _ ⟨F ++ [(b, k)], ?_, by simp; omega, by simp, by simp [pairD]⟩
          rw [hp1, pt1, if_neg hb, if_neg hn]
          simp
  · rintro δ μ' ⟨F, ha, hal, rfl, rfl⟩
    simp at ha
    simp [mput_same]
    have e : F = rle (ex rs) := by rw [← pt_ok g, ← ha]; simp
    rw [e]
    exact ⟨μ, sub_mput hp, q⟩
theorem k_runs_of : Keeps n_runs_of i_runs_of s_runs_of := by
  rintro ds μ R E ⟨n, l, rfl, rfl, hl, q⟩
  have hl2 := prs_len l
  simp [n_runs_of, i_runs_of, pairsD]
  intro p hp
  refine wFor_run (fun i δ μ' => ∃ (e : Int) (F : List Rn), F ++ ronOn e ((prs l).drop i) = ronOn 0 (prs l) ∧ lastEnd e ((prs l).drop i) = lastEnd 0 (prs l) ∧ F.length ≤ 2 * i ∧ δ = [some (.int l.length), some (.tup ((prs l).map pairD)), some (.ref p), some (.int e), none, none] ∧ μ' = mput μ p (F.map pairD)) (fun _ _ _ _ => trivial) ?_ ⟨0, [], rfl, rfl, by simp, rfl, rfl⟩ ?_
  · rintro i δ μ' x nx hi hx ⟨e, F, h1, h2, h3, rfl, rfl⟩ on
    obtain ⟨⟨b, s⟩, r, rfl, e1, e2, hlt⟩ := at_pair hx
    rw [e1] at h1 h2
    simp [pairD, mput_same]
    (repeat ((with_reducible refine And.intro ?hc ?_); (case hc => first | decide | omega | (simp only [sz, List.length_append, List.length_map, List.length_cons, List.length_nil, List.length_reverse]; omega) | assumption | exact c_mulS (by omega) (by omega) | exact c_divS (by omega) (by omega))))
    refine on _ _ ⟨s, F ++ [(0, b - e), (1, s - b)], ?_, ?_, by simp; omega, by simp, by simp [pairD, mput_mput]⟩
    · rw [e2, ← h1]; simp [ronOn]
    · rw [e2, ← h2]; rfl
  · rintro δ μ' ⟨e, F, h1, h2, h3, rfl, rfl⟩
    simp [ronOn, lastEnd] at h1 h2
    simp [mput_same]
    have g := runs_prs l
    refine ⟨by show F.length + 1 ≤ 16777216; simp at h3; omega, ronOn 0 (prs l) ++ [(0, l.length - lastEnd 0 (prs l))], ?_, g.1, ?_, ?_⟩
    · rw [← h1, ← h2]; simp [pairD]
    · rw [List.length_append, ron_len]; simp; omega
    · rw [g.2]
      rw [mdel_mput, mdel_none hp]
      exact rt_ok q
theorem k_pairs_of : Keeps n_pairs_of i_pairs_of s_pairs_of := by
  rintro ds μ R E ⟨l, rfl, hl, q⟩
  simp [n_pairs_of, i_pairs_of, wD, rD]
  intro p hp
  refine wFor_run (fun i δ μ' => ∃ (x : Int) (F : List (Int × Int)), F ++ prsOn x ((rle l).drop i) = prs l ∧ F.length ≤ i ∧ δ = [some (.tup ((rle l).map pairD)), some (.ref p), some (.int x), none, none] ∧ μ' = mput μ p (F.map pairD)) (fun _ _ _ _ => trivial) ?_ ⟨0, [], rfl, by simp, rfl, rfl⟩ ?_
  · rintro i δ μ' x nx hi hx ⟨e, F, h1, h2, rfl, rfl⟩ on
    obtain ⟨⟨b, s⟩, r, rfl, e1, e2, hlt⟩ := at_pair hx
    have hlt : i < nr l := hlt
    rw [e1, prsOn] at h1
    simp [pairD, mput_same]
    by_cases hb : b = 1
    · rw [if_pos hb] at h1
      simp [hb, mput_same, mput_mput]
      (repeat ((with_reducible refine And.intro ?hc ?_); (case hc => first | decide | omega | (simp only [sz, List.length_append, List.length_map, List.length_cons, List.length_nil, List.length_reverse]; omega) | assumption | exact c_mulS (by omega) (by omega) | exact c_divS (by omega) (by omega))))
      refine on _ _ ⟨e + s, F ++ [(e, e + s)], ?_, by simp; omega, by simp, by simp [pairD]⟩
      rw [e2, ← h1]; simp
    · rw [if_neg hb] at h1
      simp [hb, mput_same, mput_mput]
      refine on _ _ ⟨e + s, F, ?_, by omega, by simp, rfl⟩
      rw [e2, ← h1]
  · rintro δ μ' ⟨e, F, h1, h2, rfl, rfl⟩
    simp [prsOn] at h1
    simp [mput_same, h1]
    exact ⟨μ, sub_mput hp, q⟩
theorem cut_run {first many : Int} {rs : List Rn} (h : Good rs) (h1 : 0 ≤ first) (h2 : 0 ≤ many) : ex (cutOn first many 0 rs) = ((ex rs).drop first.toNat).take many.toNat := by
  rw [cutOn_ex h2 h, List.drop_take]
  congr 1
  · omega
  · simp
theorem k_cut_runs : Keeps n_cut_runs i_cut_runs s_cut_runs := by
  rintro ds μ R E ⟨x, a, m, rs, rfl, hx, h1, h2, g, hl, q⟩
  rcases hx with rfl | rfl
  all_goals
    simp [n_cut_runs, i_cut_runs, rD]
    intro p hp
    refine wFor_run (fun i δ μ' => ∃ (z : D) (y : Int) (F : List Rn), F ++ cutOn a m y (rs.drop i) = cutOn a m 0 rs ∧ F.length ≤ i ∧ δ = [some z, some (.int a), some (.int m), some (.ref p), some (.int y), none, none, none, none] ∧ μ' = mput μ p (F.map pairD)) (fun _ _ _ _ => trivial) ?_ ⟨_, 0, [], rfl, by simp, rfl, rfl⟩ ?_
    · rintro i δ μ' x nx hi hx ⟨z, e, F, g1, g2, rfl, rfl⟩ on
      obtain ⟨⟨b, s⟩, r, rfl, e1, e2, hlt⟩ := at_pair hx
      rw [e1, cutOn] at g1
      simp [pairD, mput_same]
      (repeat ((with_reducible refine And.intro ?hc ?_); (case hc => first | decide | omega | (simp only [sz, List.length_append, List.length_map, List.length_cons, List.length_nil, List.length_reverse]; omega) | assumption | exact c_mulS (by omega) (by omega) | exact c_divS (by omega) (by omega))))
      refine on _ _ ⟨z, e + s, F ++ [(b, if (if e + s > a + m then a + m else e + s) - (if e < a then a else e) > 0 then (if e + s > a + m then a + m else e + s) - (if e < a then a else e) else 0)], ?_, by simp; omega, by simp, ?_⟩
      · rw [e2, ← g1]; simp
      · simp [pairD, mput_mput]
    · rintro δ μ' ⟨z, e, F, g1, g2, rfl, rfl⟩
      simp [cutOn] at g1 g2
      simp [mput_same, g1]
      refine ⟨_, rfl, cutOn_good g, by rw [cutOn_len]; omega, ?_⟩
      rw [cut_run g h1 h2, mdel_mput, mdel_none hp]
      exact rt_ok q
/-! from a place on -/
def ringD (l : List Bool) (p : Int) (r : Bool) : List Bool := if r then l.drop p.toNat ++ l.take p.toNat else l.reverse.drop (l.length - 1 - p).toNat ++ l.reverse.take (l.length - 1 - p).toNat
def s_ring_runs : Spec := fun ds μ R _ => ∃ (n : Int) (l : List Bool) (p : Int) (r : Bool), ds = [.int n, pairsD (prs l), .int p, side r] ∧ n = l.length ∧ 0 ≤ p ∧ p < n ∧ nr l < 90000 ∧ R (wD (ringD l p r)) μ
def s_word_of : Spec := fun ds μ R _ => ∃ r : Rg, ds = [St4.d ⟨r.n, prs (tab r.n r.up), r.pl, r.rt⟩] ∧ r.fit ∧ R (wD (tab (r.n - 1) r.wd)) μ
def s_turned_word : Spec := fun ds μ R _ => ∃ l : List Bool, ds = [wD l] ∧ nr l < 100000 ∧ R (wD (l.map not)) μ
def s_length_of : Spec := fun ds μ R _ => ∃ l : List Bool, ds = [wD l] ∧ nr l < 100000 ∧ R (.int l.length) μ
def s_ones_within : Spec := fun ds μ R _ => ∃ (l : List Bool) (m : Int), ds = [wD l, .int m] ∧ 0 ≤ m ∧ nr l < 100000 ∧ R (.int (ct (l.take m.toNat))) μ
theorem nr_drop (l : List Bool) (k : Nat) : nr (l.drop k) ≤ nr l := by
  have := nr_cut l k l.length
  rwa [List.take_of_length_le (by simp)] at this
theorem nr_take (l : List Bool) (k : Nat) : nr (l.take k) ≤ nr l := by
  have := nr_cut l 0 k
  simpa using this
theorem k_ring_runs : Keeps n_ring_runs i_ring_runs s_ring_runs := by
  rintro ds μ R E ⟨n, l, p, r, rfl, rfl, h0, h1, hl, q⟩
  simp [n_ring_runs, i_ring_runs]
  refine ⟨_, _, rfl, rfl, by omega, ?_⟩
  -- the last row
  have fin : ∀ (l' : List Bool) (p' : Int), l'.length = l.length → nr l' < 90000 → 0 ≤ p' → p' < l.length → (∃ μ2, Sub μ2 μ ∧ R (wD (l'.drop p'.toNat ++ l'.take p'.toNat)) μ2) →
      s_cut_runs [wD l', .int p', .int (l.length - p')] μ (fun x μ1 => match seqD (vw μ1 x) with
        | some xs => s_cut_runs [wD l', .int 0, .int p'] μ1 (fun x μ1 => match seqD (vw μ1 x) with
          | some xs_1 => xs.length + xs_1.length ≤ sz ∧ s_put_together [.lst (xs ++ xs_1)] μ1 (fun d μ2 => ∃ μ2_1, Sub μ2_1 μ2 ∧ R d μ2_1) E
          | none => False) E
        | none => False) E := by
    intro l' p' hl1 hl2 hp0 hp1 qq
    refine cut_w hp0 (by omega) (by omega) ?_
    simp
    refine cut_w (by omega) (by omega) (by omega) ?_
    simp
    have n1 := nr_cut l' p'.toNat ((l.length : Int) - p').toNat
    have n2 := nr_cut l' 0 p'.toNat
    simp at n2
    unfold nr at *
    refine ⟨by unfold sz; omega, rle ((l'.drop p'.toNat).take ((l.length : Int) - p').toNat) ++ rle (l'.take p'.toNat), by rw [List.map_append], (good_rle _).app (good_rle _), by rw [List.length_append]; omega, ?_⟩
    rw [ex_app, ex_rle, ex_rle, List.take_of_length_le (by simp; omega)]
    exact qq
  cases r
  · have er : wD l.reverse = .tup (((rle l).map pairD).reverse) := by rw [wD, rD, rle_reverse, List.map_reverse]
    simp [side, lr1, wD, rD]
    rw [← List.map_reverse, ← rle_reverse]
    have := fin l.reverse (l.length - 1 - p) (by simp) (by rw [nr_reverse]; exact hl) (by omega) (by omega) (rt_ok (by simpa [ringD] using q))
    exact this
  · simp [side, lr4]
    exact fin l p rfl hl h0 h1 (rt_ok (by simpa [ringD] using q))
theorem k_turned_word : Keeps n_turned_word i_turned_word s_turned_word := by
  rintro ds μ R E ⟨l, rfl, hl, q⟩
  unfold nr at hl
  simp [n_turned_word, i_turned_word, wD, rD]
  refine ⟨by unfold sz; omega, wComp_map (fun r => pairD (1 - r.1, r.2)) (fun r _ R' q' => ?_) ?_⟩
  · simp [pairD]
    (repeat ((with_reducible refine And.intro ?hc ?_); (case hc => first | decide | omega | (simp only [sz, List.length_append, List.length_map, List.length_cons, List.length_nil, List.length_reverse]; omega) | assumption | exact c_mulS (by omega) (by omega) | exact c_divS (by omega) (by omega))))
    exact q'
  · rw [wD, rD, rle_not] at q
    refine rt_ok (by simpa [Function.comp_def] using q)
theorem k_length_of : Keeps n_length_of i_length_of s_length_of := by
  rintro ds μ R E ⟨l, rfl, hl, q⟩
  unfold nr at hl
  simp [n_length_of, i_length_of, wD, rD]
  refine ⟨by unfold sz; omega, wComp_map (fun r => .int r.2) (fun r _ R' q' => ?_) ?_⟩
  · simp [pairD]
    exact q'
  · have := intsD_map (fun r : Rn => r.2) (rle l)
    have e := len_rle l
    unfold lens at e
    simp [this, e]
    exact rt_ok q
theorem k_ones_within : Keeps n_ones_within i_ones_within s_ones_within := by
  rintro ds μ R E ⟨l, m, rfl, h0, hl, q⟩
  simp [n_ones_within, i_ones_within]
  refine cut_w (by omega) h0 hl ?_
  have n2 := nr_cut l 0 m.toNat
  simp at n2
  unfold nr at hl n2
  simp [wD, rD]
  refine ⟨by unfold sz; omega, wComp_filter (fun r => if r.1 = 1 then some (.int r.2) else none) (fun r _ R' q' => ?_) ?_⟩
  · simp [pairD]
    by_cases hr : r.1 = 1
    · rw [if_pos hr] at q'
      simp [hr]
      exact q'
    · rw [if_neg hr] at q'
      simp [hr]
      exact q'
  · have e : ∀ rs : List Rn, (rs.filterMap fun r => if r.1 = 1 then some (D.int r.2) else none) = (rs.filterMap fun r => if r.1 = 1 then some r.2 else none).map D.int := fun rs => by
      rw [List.map_filterMap]
      congr 1
      funext r
      split <;> rfl
    have o := ones_ex (good_rle (l.take m.toNat))
    rw [ex_rle] at o
    unfold ones at o
    rw [e, sum_ints]
    simp [o]
    exact rt_ok q
end Tf

set_option Elab.async false
set_option linter.all false
set_option maxRecDepth 100000
set_option maxHeartbeats 1000000
namespace Tf
open PySem PySem.Spec PyProof.Rows L2
/-! ### rings as states -/
def Rg.st (r : Rg) : St4 := ⟨r.n, prs (tab r.n r.up), r.pl, r.rt⟩
theorem placeOn_sg (n p : Int) (rt : Bool) (m : Int) : placeOn n p rt m = (p + m * sg rt) % n := by
  unfold placeOn sg
  cases rt
  · simp only [Bool.false_eq_true, if_false]; congr 1; omega
  · simp only [if_true]; congr 1; omega
theorem st_up {r : Rg} (k : r.ok) (x : Int) : flagUp r.st.ps (x % r.n) = r.up x := by
  have hn := k.n2
  have m := md_rng x (n := r.n) (by omega)
  show flagUp (prs (tab r.n r.up)) _ = _
  rw [up_tab m.1 m.2, k.per.mod]
theorem st_up' {r : Rg} (k : r.ok) {x : Int} (h0 : 0 ≤ x) (h1 : x < r.n) : flagUp r.st.ps x = r.up x := up_tab h0 h1
theorem st_hd {r : Rg} (k : r.ok) : r.st.hd = r.hd := by
  have e : placeOn r.st.n r.st.pl r.st.rt (-1) = (r.pl - sg r.rt) % r.n := by
    rw [placeOn_sg]
    show (r.pl + -1 * sg r.rt) % r.n = _
    congr 1
    omega
  unfold St4.hd Rg.hd
  rw [e, st_up k]
  have : flagUp r.st.ps r.st.pl = r.up r.pl := st_up' k k.pl0 k.pl1
  rw [this]
  rfl
theorem st_ok {r : Rg} (k : r.fit) : r.st.ok := by
  have hn := k.ok.n2
  have := prs_len (tab r.n r.up)
  have := k.nrs.1
  exact ⟨by show (0 : Int) < r.n; omega, by show (prs (tab r.n r.up)).length < 16777216; omega⟩
theorem c_mulN {i j : Int} (h1 : i.natAbs < 2 ^ 200) (h2 : j.natAbs < 2 ^ 200) : CMulW i j := c_mulS h1 h2
theorem len_prs (l : List Bool) {m : Nat} (h : nr l ≤ m) (hm : m < sz := by decide) : (prs l).length < sz := by
  have := prs_len l
  omega
/-! sums of words -/
def sml (m : Int) : Prop := m.natAbs < 2 ^ 150
def s_ones_before : Spec := fun ds μ R _ => ∃ (h : Nat) (a : Int → Bool) (m : Int), ds = [wD (tab h a), .int m] ∧ Wf h a ∧ sml m ∧ R (.int (Sm h a m)) μ
def s_number_at : Spec := fun ds μ R _ => ∃ (h : Nat) (a : Int → Bool) (m : Int), ds = [wD (tab h a), .int m] ∧ Wf h a ∧ m.natAbs < 2 ^ 149 ∧ R (.int (bi (a m))) μ
def s_steps_before : Spec := fun ds μ R _ => ∃ (h : Nat) (a : Int → Bool) (m : Int), ds = [wD (tab h a), .int m] ∧ Wf h a ∧ sml m ∧ R (.int (Tm h a m)) μ
def s_moved_word : Spec := fun ds μ R _ => ∃ (h : Nat) (a : Int → Bool) (m : Int), ds = [wD (tab h a), .int m] ∧ Wf h a ∧ R (wD (tab h fun j => a (j + m))) μ
def s_steps_within : Spec := fun ds μ R _ => ∃ (h : Nat) (a : Int → Bool) (t : Int), ds = [wD (tab h a), .int t] ∧ Wf h a ∧ sml t ∧ R (.int (Wn h a t)) μ
def s_state_from : Spec := fun ds μ R _ => ∃ (n : Int) (c : Cf), ds = [.int n, .tup [side c.rt, .int c.sp, .int c.ph], wD (tab (c.n - 1) c.a)] ∧ n = c.n ∧ c.ok ∧ c.n ≤ 10 ^ 13 ∧ gp (c.n - 1) c.a ≤ 10000 ∧ R c.ring.st.d μ
def n_word_of : List Str := ["state", "first", "ahead", "size", "raised", "place", "facing", "way", "spot", "phase"]
def i_word_of : List IS := [.asg (.tp [.nm 3, .nm 4, .nm 5, .nm 6]) (.var 0), .asg (.tp [.nm 7, .nm 8, .nm 9]) (.call "heading_of" s_heading_of [.var 0]), .asg (.nm 1) (.blt .int [.ors [.cmp .gt (.var 9) (.cst (.int 0)), .call "flag_is_up" s_flag_is_up [.var 4, .var 8]]]), .asg (.nm 2) (.call "ring_runs" s_ring_runs [.var 3, .var 4, .var 8, .var 7]), .ret (.call "put_together" s_put_together [.lst false [.tup [.var 1, .cst (.int 1)], .star (.call "cut_runs" s_cut_runs [.var 2, .cst (.int 1), .bop .sub (.var 3) (.cst (.int 2))])]])]
def n_ones_before : List Str := ["word", "many", "half", "found", "turns", "rest"]
def i_ones_before : List IS := [.asg (.nm 2) (.call "length_of" s_length_of [.var 0]), .par [4, 5] [.bop .fdiv (.var 1) (.bop .mul (.cst (.int 2)) (.var 2)), .bop .mod (.var 1) (.bop .mul (.cst (.int 2)) (.var 2))], .asg (.nm 3) (.bop .add (.bop .mul (.var 4) (.var 2)) (.call "ones_within" s_ones_within [.var 0, .blt .min2 [.var 5, .var 2]])), .ret (.bop .add (.var 3) (.call "ones_within" s_ones_within [.call "turned_word" s_turned_word [.var 0], .blt .max2 [.cst (.int 0), .bop .sub (.var 5) (.var 2)]]))]
def n_moved_word : List Str := ["word", "many", "half", "first", "whole"]
def i_moved_word : List IS := [.asg (.nm 2) (.call "length_of" s_length_of [.var 0]), .asg (.nm 3) (.bop .mod (.var 1) (.bop .mul (.cst (.int 2)) (.var 2))), .asg (.nm 4) (.lst false [.star (.var 0), .star (.call "turned_word" s_turned_word [.var 0]), .star (.var 0)]), .ret (.call "cut_runs" s_cut_runs [.var 4, .var 3, .var 2])]
def n_steps_before : List Str := ["word", "many"]
def i_steps_before : List IS := [.ret (.bop .add (.var 1) (.bop .mul (.cst (.int 2)) (.call "ones_before" s_ones_before [.var 0, .var 1])))]
def n_steps_within : List Str := ["word", "steps", "half", "found", "turns", "rest", "number", "length", "many"]
def i_steps_within : List IS := [.asg (.nm 2) (.call "length_of" s_length_of [.var 0]), .par [4, 5] [.bop .fdiv (.var 1) (.bop .mul (.cst (.int 4)) (.var 2)), .bop .mod (.var 1) (.bop .mul (.cst (.int 4)) (.var 2))], .asg (.nm 3) (.bop .mul (.bop .mul (.var 4) (.cst (.int 2))) (.var 2)), .for_ [6, 7, 8] (.tp [.nm 6, .nm 7]) (.seq (.lst false [.star (.var 0), .star (.call "turned_word" s_turned_word [.var 0])])) [.asg (.nm 8) (.blt .min2 [.var 7, .bop .fdiv (.var 5) (.bop .add (.cst (.int 1)) (.bop .mul (.cst (.int 2)) (.var 6)))]), .aug 3 .add (.var 8), .asg (.nm 5) (.ite (.cmp .eq (.var 8) (.var 7)) (.bop .sub (.var 5) (.bop .mul (.var 8) (.bop .add (.cst (.int 1)) (.bop .mul (.cst (.int 2)) (.var 6))))) (.cst (.int 0)))], .ret (.var 3)]
def n_state_from : List Str := ["size", "heading", "word", "first", "behind", "flags", "runs", "place", "way", "spot", "phase", "start"]
def i_state_from : List IS := [.asg (.tp [.nm 8, .nm 9, .nm 10]) (.var 1), .asg (.nm 3) (.ite (.cmp .eq (.var 10) (.cst (.int 0))) (.sub (.sub (.var 2) (.cst (.int 0))) (.cst (.int 0))) (.cst (.int 0))), .asg (.nm 4) (.ite (.cmp .eq (.var 10) (.cst (.int 2))) (.cst (.int 0)) (.cst (.int 1))), .asg (.nm 5) (.call "put_together" s_put_together [.lst false [.tup [.var 3, .cst (.int 1)], .star (.call "cut_runs" s_cut_runs [.var 2, .cst (.int 1), .bop .sub (.var 0) (.cst (.int 2))]), .tup [.var 4, .cst (.int 1)]]]), .ite (.cmp .eq (.var 8) (.glb "LEFT" (.str "left"))) [.par [11, 5] [.bop .mod (.bop .add (.var 9) (.cst (.int 1))) (.var 0), .rev (.var 5)]] [.asg (.nm 11) (.var 9)], .asg (.nm 6) (.call "put_together" s_put_together [.lst false [.star (.call "cut_runs" s_cut_runs [.var 5, .bop .sub (.var 0) (.var 11), .var 11]), .star (.call "cut_runs" s_cut_runs [.var 5, .cst (.int 0), .bop .sub (.var 0) (.var 11)])]]), .asg (.nm 7) (.ite (.cmp .eq (.var 10) (.cst (.int 1))) (.call "place_on" s_place_on [.var 0, .var 9, .var 8, .neg (.cst (.int 1))]) (.var 9)), .ret (.tup [.var 0, .call "pairs_of" s_pairs_of [.var 6], .var 7, .ite (.cmp .eq (.var 10) (.cst (.int 1))) (.call "other_side" s_other_side [.var 8]) (.var 8)])]
def n_number_at : List Str := ["word", "index"]
def i_number_at : List IS := [.ret (.bop .sub (.call "ones_before" s_ones_before [.var 0, .bop .add (.var 1) (.cst (.int 1))]) (.call "ones_before" s_ones_before [.var 0, .var 1]))]
--IR--
theorem k_word_of : Keeps n_word_of i_word_of s_word_of := by
  rintro ds μ R E ⟨r, rfl, k, q⟩
  have hn := k.ok.n2
  obtain ⟨n1, n2⟩ := k.nrs
  obtain ⟨h1, h2, h3⟩ := r.hd_ok k.ok
  have big := k.big
  have fit : St4.ok ⟨r.n, prs (tab r.n r.up), r.pl, r.rt⟩ := st_ok k
  have hd : St4.hd ⟨r.n, prs (tab r.n r.up), r.pl, r.rt⟩ = r.hd := st_hd k.ok
  have kw := word_tab k.ok
  have nw := nr_along k.ok.per h1 h2 r.hd.1
  have ta := tab_along k.ok.per h1 h2 r.hd.1
  have up := st_up' k.ok h1 h2
  have hs : (St4.d ⟨r.n, prs (tab r.n r.up), r.pl, r.rt⟩) = .tup [.int r.n, pairsD (prs (tab r.n r.up)), .int r.pl, side r.rt] := rfl
  simp [n_word_of, i_word_of, hs]
  rw [← hs]
  refine ⟨_, rfl, fit, ?_⟩
  rw [hd]
  generalize r.hd = w at *
  obtain ⟨way, spot, ph⟩ := w
  simp only at h1 h2 h3 kw nw ta up ⊢
  -- behind the first flag
  have fin : ∀ b : Bool, b = (decide (0 < ph) || r.up spot) → s_ring_runs [.int r.n, pairsD (prs (tab r.n r.up)), .int spot, side way] μ (fun x μ1 => s_cut_runs [x, .int 1, .int (r.n - 2)] μ1 (fun x μ1 => match seqD (vw μ1 x) with
      | some xs => xs.length + 1 ≤ sz ∧ s_put_together [.lst (.tup [.int (bi b), .int 1] :: xs)] μ1 (fun d μ2 => ∃ μ2_1, Sub μ2_1 μ2 ∧ R d μ2_1) E
      | none => False) E) E := by
    intro b hb
    refine ⟨_, _, _, _, rfl, (by rw [tab_len]), h1, h2, by omega, ?_⟩
    have er : ringD (tab r.n r.up) spot way = tab r.n (along r.up spot way) := by
      rw [ta]
      unfold ringD
      rw [tab_len]
    rw [er]
    refine cut_w (by decide) (by omega) (by omega) ?_
    have e2 : ((r.n : Int) - 2).toNat = r.n - 2 := by omega
    rw [e2]
    have n3 := nr_cut (tab r.n (along r.up spot way)) 1 (r.n - 2)
    have e3 : (1 : Int).toNat = 1 := rfl
    rw [e3]
    rw [← hb] at kw
    generalize ((tab r.n (along r.up spot way)).drop 1).take (r.n - 2) = l at *
    simp
    have n4 : (rle l).length ≤ 42000 := by show nr l ≤ 42000; omega
    refine ⟨by show (rle l).length + 1 ≤ 16777216; omega, (bi b, 1) :: rle l, by simp [pairD], Good.cons (bi_or b) (by simp) (good_rle l), by rw [List.length_cons]; omega, ?_⟩
    have ee : ex ((bi b, 1) :: rle l) = b :: l := by simp [ex, ex_rle, bi_eq]
    rw [ee, ← kw]
    exact rt_ok q
  by_cases hp : 0 < ph
  · simp [hp]
    have f := fin true (by simp [hp])
    have eb : bi true = 1 := rfl
    rw [eb] at f
    exact f
  · simp [hp]
    refine ⟨_, _, rfl, len_prs _ n1, ?_⟩
    rw [show flagUp (prs (tab r.n r.up)) spot = r.up spot from up]
    cases e : r.up spot
    · simp
      have f := fin false (by simp [hp, e])
      have eb : bi false = 0 := rfl
      rw [eb] at f
      exact f
    · simp
      have f := fin true (by simp [hp, e])
      have eb : bi true = 1 := rfl
      rw [eb] at f
      exact f
theorem div_small {m d : Int} (h : 0 < d) : (m / d).natAbs ≤ m.natAbs := by
  have h1 := Int.emod_add_mul_ediv m d
  have h2 := Int.emod_nonneg m (show d ≠ 0 by omega)
  have h3 := Int.emod_lt_of_pos m h
  rcases Int.le_total 0 (m / d) with z | z
  · have : 1 * (m / d) ≤ d * (m / d) := Int.mul_le_mul_of_nonneg_right (by omega) z
    omega
  · by_cases z0 : m / d = 0
    · rw [z0]; simp
    · have : d * (m / d) ≤ d * (m / d) := Int.le_refl _
      have e : (d - 1) * (m / d) ≤ (d - 1) * (-1) := Int.mul_le_mul_of_nonneg_left (by omega) (by omega)
      rw [Int.sub_mul] at e
      omega
theorem Sm_small {h : Nat} {a : Int → Bool} (k : Wf h a) (m : Int) : (Sm h a m).natAbs ≤ m.natAbs := by
  rcases Int.le_total 0 m with z | z
  · have := Sm_le k.pos k.an 0 m.toNat
    rw [Sm_zero, Int.toNat_of_nonneg z, Int.zero_add] at this
    omega
  · have := Sm_le k.pos k.an m (-m).toNat
    rw [Int.toNat_of_nonneg (by omega), show m + -m = 0 by omega, Sm_zero] at this
    omega
theorem k_ones_before : Keeps n_ones_before i_ones_before s_ones_before := by
  rintro ds μ R E ⟨h, a, m, rfl, k, hm, q⟩
  have h0 := k.pos
  have hb := k.big
  have hw := k.nr
  have os := ones_sum k.an h0 m
  have mr := md_rng m (n := 2 * (h : Int)) (by omega)
  have dv := div_small (m := m) (d := 2 * (h : Int)) (by omega)
  unfold sml at hm
  simp [n_ones_before, i_ones_before]
  refine ⟨_, rfl, by omega, ?_⟩
  rw [tab_len]
  simp
  (repeat ((with_reducible refine And.intro ?hc ?_); (case hc => first | decide | omega | (simp only [sz, List.length_append, List.length_map, List.length_cons, List.length_nil, List.length_reverse]; omega) | assumption | exact c_mulS (by omega) (by omega) | exact c_divS (by omega) (by omega))))
  refine ⟨_, _, rfl, by split <;> omega, by omega, ?_⟩
  have e1 : (tab h a).take (if (h : Int) < m % (2 * h) then (h : Int) else m % (2 * h)).toNat = tab (if (h : Int) < m % (2 * h) then (h : Int) else m % (2 * h)).toNat a := tab_take _ _ _ (by split <;> omega)
  rw [e1, ct_tab]
  simp
  refine ⟨_, rfl, by omega, _, _, rfl, by split <;> omega, by rw [nr_not]; omega, ?_⟩
  rw [tab_not]
  have e2 : (tab h fun i => !a i).take (if (h : Int) < m % (2 * h) then m % (2 * h) - (h : Int) else 0).toNat = tab (if (h : Int) < m % (2 * h) then m % (2 * h) - (h : Int) else 0).toNat fun i => !a i := tab_take _ _ _ (by split <;> omega)
  rw [e2, ct_tab]
  simp
  rw [os]
  exact rt_ok q
theorem k_number_at : Keeps n_number_at i_number_at s_number_at := by
  rintro ds μ R E ⟨h, a, m, rfl, k, hm, q⟩
  have h0 := k.pos
  simp [n_number_at, i_number_at]
  refine ⟨h, a, _, rfl, k, by unfold sml; omega, ?_⟩
  simp
  refine ⟨h, a, _, rfl, k, by unfold sml; omega, ?_⟩
  have : Sm h a (m + 1) - Sm h a m = bi (a m) := by rw [Sm_succ h0 k.an]; omega
  simp [this]
  exact rt_ok q
theorem k_steps_before : Keeps n_steps_before i_steps_before s_steps_before := by
  rintro ds μ R E ⟨h, a, m, rfl, k, hm, q⟩
  have s := Sm_small k m
  simp [n_steps_before, i_steps_before]
  refine ⟨h, a, _, rfl, k, hm, ?_⟩
  unfold sml at hm
  simp
  exact ⟨c_mulN (by decide) (by omega), rt_ok q⟩
theorem k_moved_word : Keeps n_moved_word i_moved_word s_moved_word := by
  rintro ds μ R E ⟨h, a, m, rfl, k, q⟩
  have h0 := k.pos
  have hb := k.big
  have hw := k.nr
  have mr := md_rng m (n := 2 * (h : Int)) (by omega)
  have mt := moved_tab k.an h0 m
  simp [n_moved_word, i_moved_word]
  refine ⟨_, rfl, by omega, ?_⟩
  rw [tab_len]
  simp
  (repeat ((with_reducible refine And.intro ?hc ?_); (case hc => first | decide | omega | (simp only [sz, List.length_append, List.length_map, List.length_cons, List.length_nil, List.length_reverse]; omega) | assumption | exact c_mulS (by omega) (by omega) | exact c_divS (by omega) (by omega))))
  refine ⟨_, rfl, by omega, ?_⟩
  have hw2 : (rle (tab h a)).length ≤ 10001 := hw
  have hw3 : (rle ((tab h a).map not)).length ≤ 10001 := by have := nr_not (tab h a); unfold nr at this; omega
  have ex2 : ex (rle (tab h a) ++ (rle ((tab h a).map not) ++ rle (tab h a))) = (tab h a ++ (tab h a).map not) ++ tab h a := by
    rw [ex_app, ex_app, ex_rle, ex_rle, List.append_assoc]
  simp
  refine ⟨by unfold sz; omega, _, _, _, rle (tab h a) ++ (rle ((tab h a).map not) ++ rle (tab h a)), rfl, .inr (by rw [List.map_append, List.map_append]), mr.1, by omega, (good_rle _).app ((good_rle _).app (good_rle _)), by rw [List.length_append, List.length_append]; omega, ?_⟩
  rw [ex2, Int.toNat_natCast, mt]
  exact rt_ok q
theorem run_le : ∀ {rs : List Rn}, Good rs → ∀ r ∈ rs, r.2 ≤ (ex rs).length
  | [], _, _, h => by cases h
  | s :: rs, g, r, h => by
    have h2 := (g s (by simp)).2
    simp only [ex, List.length_append, List.length_replicate]
    rcases List.mem_cons.mp h with rfl | h
    · omega
    · have := run_le g.tail r h
      omega
theorem k_steps_within : Keeps n_steps_within i_steps_within s_steps_within := by
  rintro ds μ R E ⟨h, a, t, rfl, k, hm, q⟩
  have h0 := k.pos
  have hb := k.big
  have hw := k.nr
  have mr := md_rng t (n := 4 * (h : Int)) (by omega)
  have dv := div_small (m := t) (d := 4 * (h : Int)) (by omega)
  obtain ⟨w1, w2, w3⟩ := whole_ex k.an
  have hw2 : (rle (tab h a)).length ≤ 10001 := hw
  have hw3 : (rle ((tab h a).map not)).length ≤ 10001 := by have := nr_not (tab h a); unfold nr at this; omega
  have rl := run_le w1
  rw [w3, tab_len] at rl
  rw [← rle_not] at w1 w2 w3 rl
  unfold sml at hm
  simp [n_steps_within, i_steps_within]
  refine ⟨_, rfl, by omega, ?_⟩
  rw [tab_len]
  simp
  (repeat ((with_reducible refine And.intro ?hc ?_); (case hc => first | decide | omega | (simp only [sz, List.length_append, List.length_map, List.length_cons, List.length_nil, List.length_reverse]; omega) | assumption | exact c_mulS (by omega) (by omega) | exact c_divS (by omega) (by omega))))
  refine ⟨_, rfl, by omega, ?_⟩
  simp only [vw_wD, seq_wD]
  rw [← List.map_append]
  have eW : t / (4 * (h : Int)) * 2 * h + inOn (t % (4 * h)) (rle (tab h a) ++ rle ((tab h a).map not)) = Wn h a t := by unfold Wn; rw [rle_not]
  have rs_len : (rle (tab h a) ++ rle ((tab h a).map not)).length ≤ 20002 := by rw [List.length_append]; omega
  refine ⟨by simp only [List.length_map, List.length_append]; unfold sz; omega, ?_⟩
  generalize rle (tab h a) ++ rle ((tab h a).map not) = rs at *
  refine wFor_run (fun i δ μ' => ∃ (rest found : Int), found + inOn rest (rs.drop i) = Wn h a t ∧ 0 ≤ rest ∧ rest < 4 * h ∧ δ = [some (wD (tab h a)), some (.int t), some (.int h), some (.int found), some (.int (t / (4 * h))), some (.int rest), none, none, none] ∧ μ' = μ) (fun _ _ _ _ => trivial) ?_ ⟨_, _, eW, mr.1, mr.2, rfl, rfl⟩ ?_
  · rintro i δ μ' x nx hi hx ⟨rest, found, g1, g2, g3, rfl, rfl⟩ on
    obtain ⟨⟨b, s⟩, r, rfl, e1, e2, hlt⟩ := at_pair hx
    have hmem : (b, s) ∈ rs := List.drop_subset i rs (by rw [e1]; simp)
    have hb1 := (w1 _ hmem).1
    have hs1 := rl _ hmem
    have hs2 := w2 _ hmem
    simp only at hb1 hs1 hs2
    have q0 : 0 ≤ rest / (1 + 2 * b) := Int.ediv_nonneg g2 (by omega)
    have q1 := div_small (m := rest) (d := 1 + 2 * b) (by omega)
    have q2 := Int.emod_add_mul_ediv rest (1 + 2 * b)
    have q3 := Int.emod_nonneg rest (show 1 + 2 * b ≠ 0 by omega)
    rw [e1] at g1
    simp only [inOn] at g1
    simp [pairD]
    (repeat ((with_reducible refine And.intro ?hc ?_); (case hc => first | decide | omega | (simp only [sz, List.length_append, List.length_map, List.length_cons, List.length_nil, List.length_reverse]; omega) | assumption | exact c_mulS (by omega) (by omega) | exact c_divS (by omega) (by omega))))
    generalize hv : (if rest / (1 + 2 * b) < s then rest / (1 + 2 * b) else s) = v at *
    have v0 : 0 ≤ v ∧ v ≤ rest / (1 + 2 * b) := by rw [← hv]; split <;> omega
    have v1 : v * (1 + 2 * b) ≤ rest := by
      have : v * (1 + 2 * b) ≤ rest / (1 + 2 * b) * (1 + 2 * b) := Int.mul_le_mul_of_nonneg_right v0.2 (by omega)
      rw [Int.mul_comm (rest / _)] at this
      omega
    have v2 : 0 ≤ v * (1 + 2 * b) := Int.mul_nonneg v0.1 (by omega)
    have dd : (!decide (rest / (1 + 2 * b) < s) || decide (rest / (1 + 2 * b) = s)) = decide (v = s) := by
      rw [← hv]
      by_cases z : rest / (1 + 2 * b) < s
      · simp [z]
      · simp [z]
    rw [dd]
    by_cases hvs : v = s
    · rw [if_pos hvs] at g1
      subst hvs
      simp only [decide_true]
      (repeat ((with_reducible refine And.intro ?hc ?_); (case hc => first | decide | omega | (simp only [sz, List.length_append, List.length_map, List.length_cons, List.length_nil, List.length_reverse]; omega) | assumption | exact c_mulS (by omega) (by omega) | exact c_divS (by omega) (by omega))))
      exact on _ _ ⟨rest - v * (1 + 2 * b), found + v, by rw [e2]; omega, by omega, by omega, by simp, rfl⟩
    · rw [if_neg hvs] at g1
      simp only [hvs, decide_false]
      exact on _ _ ⟨0, found + v, by rw [e2]; omega, by omega, by omega, by simp, rfl⟩
  · rintro δ μ' ⟨rest, found, g1, g2, g3, rfl, rfl⟩
    simp [inOn] at g1
    simp [g1]
    exact rt_ok q
theorem head_word {h : Nat} (h0 : 0 < h) (a : Int → Bool) : ∃ k r, rle (tab h a) = (bi (a 0), k) :: r := by
  have e : tab h a = a 0 :: tab (h - 1) fun i => a (i + 1) := by
    rw [tab_cons]
    have : h - 1 + 1 = h := by omega
    rw [this]
    refine tab_ext fun i _ _ => ?_
    split
    · rename_i z; rw [z]
    · congr 1; omega
  rw [e, rle]
  split
  · exact ⟨_, _, rfl⟩
  · rename_i c k r _
    split
    · rename_i q; exact ⟨_, _, by rw [q]⟩
    · exact ⟨_, _, rfl⟩
theorem k_state_from : Keeps n_state_from i_state_from s_state_from := by
  rintro ds μ R E ⟨n, c, rfl, rfl, k, big, few, q⟩
  have hn := k.n2
  have h0 := k.sp0
  have h1 := k.sp1
  have at_ := al_tab k
  have ft := from_tab k
  have nw := (gp_nr (h := c.n - 1) (by omega) c.a).1
  have na := nr_al k
  have nrg := nr_ring k
  obtain ⟨hk, hr, hw⟩ := head_word (h := c.n - 1) (by omega) c.a
  generalize hsz : (.int c.n : D) = dn
  generalize hhd : (D.tup [side c.rt, .int c.sp, .int c.ph]) = dh
  generalize hwd : wD (tab (c.n - 1) c.a) = dw
  -- the last row
  have t7 : ∀ x y, wB (i_state_from.drop 7) [some dn, some dh, some dw, some (.int (bi (c.al 0))), some (.int (bi (!decide (c.ph = 2)))), x, some (wD (tab c.n c.ring.up)), some (.int c.ring.pl), some (side c.rt), some (.int c.sp), some (.int c.ph), y] μ (endsG R E) := by
    intro x y
    simp [i_state_from]
    refine ⟨_, rfl, by omega, ?_⟩
    have q' : R (.tup [dn, pairsD (prs (tab c.n c.ring.up)), .int c.ring.pl, side c.ring.rt]) μ := by rw [← hsz]; exact q
    have er : c.ring.rt = if c.ph = 1 then !c.rt else c.rt := rfl
    by_cases hp : c.ph = 1
    · rw [er, if_pos hp] at q'
      simp [hp]
      exact ⟨_, rfl, rt_ok q'⟩
    · rw [er, if_neg hp] at q'
      simp [hp]
      exact rt_ok q'
  have t6 : ∀ x y, wB (i_state_from.drop 6) [some dn, some dh, some dw, some (.int (bi (c.al 0))), some (.int (bi (!decide (c.ph = 2)))), x, some (wD (tab c.n c.ring.up)), none, some (side c.rt), some (.int c.sp), some (.int c.ph), y] μ (endsG R E) := by
    intro x y
    have t7 := t7 x y
    refine step ?_
    have ep : c.ring.pl = if c.ph = 1 then (c.sp - sg c.rt) % c.n else c.sp := rfl
    simp
    by_cases hp : c.ph = 1
    · rw [if_pos hp] at ep
      simp [hp]
      refine ⟨_, _, _, _, by rw [← hsz], by omega, ?_⟩
      rw [placeOn_sg, show c.sp + -1 * sg c.rt = c.sp - sg c.rt by omega, ← ep]
      simp [hp] at t7
      exact t7
    · rw [if_neg hp] at ep
      simp [hp]
      rw [ep] at t7
      exact t7
  have t5 : ∀ (l : List Bool) (st : Int), l.length = c.n → nr l ≤ 15000 → 0 ≤ st → st < c.n → l.drop (c.n - st).toNat ++ l.take (c.n - st).toNat = tab c.n c.ring.up → wB (i_state_from.drop 5) [some dn, some dh, some dw, some (.int (bi (c.al 0))), some (.int (bi (!decide (c.ph = 2)))), some (wD l), none, none, some (side c.rt), some (.int c.sp), some (.int c.ph), some (.int st)] μ (endsG R E) := by
    intro l st hl1 hl2 s0 s1 he
    refine step ?_
    simp
    rw [← hsz]
    simp
    refine cut_w (l := l) (by omega) s0 (by omega) ?_
    simp
    refine cut_w (l := l) (by omega) (by omega) (by omega) ?_
    simp
    have n1 := nr_cut l (c.n - st).toNat st.toNat
    have n2 := nr_cut l 0 (c.n - st).toNat
    simp at n2
    unfold nr at n1 n2 hl2
    refine ⟨by unfold sz; omega, rle ((l.drop (c.n - st).toNat).take st.toNat) ++ rle (l.take (c.n - st).toNat), by rw [List.map_append], (good_rle _).app (good_rle _), by rw [List.length_append]; omega, ?_⟩
    rw [ex_app, ex_rle, ex_rle, List.take_of_length_le (by simp; omega), he]
    have := t6 (some (wD l)) (some (.int st))
    rw [← hsz] at this
    exact this
  have t4 : wB (i_state_from.drop 4) [some dn, some dh, some dw, some (.int (bi (c.al 0))), some (.int (bi (!decide (c.ph = 2)))), some (wD (tab c.n c.al)), none, none, some (side c.rt), some (.int c.sp), some (.int c.ph), none] μ (endsG R E) := by
    refine step ?_
    simp [c_side_left]
    cases hrt : c.rt
    · rw [hrt] at ft t5
      simp at ft
      simp
      rw [← hsz]
      simp
      refine ⟨by omega, ?_⟩
      have m := md_rng (c.sp + 1) (n := c.n) (by omega)
      have := t5 (tab c.n c.al).reverse ((c.sp + 1) % c.n) (by simp [tab_len]) (by rw [nr_reverse]; omega) m.1 m.2 ft
      rw [← hsz] at this
      have e : wD (tab c.n c.al).reverse = .tup (((rle (tab c.n c.al)).map pairD).reverse) := by rw [wD, rD, rle_reverse, List.map_reverse]
      rw [e] at this
      exact this
    · rw [hrt] at ft t5
      simp at ft
      simp
      exact t5 (tab c.n c.al) c.sp (tab_len _ _) (by omega) h0 h1 ft
  have t3 : wB (i_state_from.drop 3) [some dn, some dh, some dw, some (.int (bi (c.al 0))), some (.int (bi (!decide (c.ph = 2)))), none, none, none, some (side c.rt), some (.int c.sp), some (.int c.ph), none] μ (endsG R E) := by
    refine step ?_
    simp
    rw [← hsz, ← hwd]
    simp
    have wn := gp_nr (h := c.n - 1) (by omega) c.a
    refine cut_w (by omega) (by omega) (by omega) ?_
    have e2 : ((c.n : Int) - 2).toNat = c.n - 2 := by omega
    rw [e2]
    have n1 := nr_cut (tab (c.n - 1) c.a) 1 (c.n - 2)
    have e3 : (1 : Int).toNat = 1 := rfl
    rw [e3]
    generalize hm : ((tab (c.n - 1) c.a).drop 1).take (c.n - 2) = l at *
    have n4 : (rle l).length ≤ 15000 := by show nr l ≤ 15000; omega
    simp
    refine ⟨by unfold sz; omega, (bi (c.al 0), 1) :: (rle l ++ [(bi (!decide (c.ph = 2)), 1)]), by simp [pairD], Good.cons (bi_or _) (by simp) ((good_rle l).app (Good.cons (bi_or _) (by simp) Good.nil)), by simp; omega, ?_⟩
    have ee : ex ((bi (c.al 0), 1) :: (rle l ++ [(bi (!decide (c.ph = 2)), 1)])) = tab c.n c.al := by
      rw [at_]
      simp [ex, ex_app, ex_rle, bi_eq]
    rw [ee]
    rw [← hsz, ← hwd] at t4
    exact t4
  have t2 : wB (i_state_from.drop 2) [some dn, some dh, some dw, some (.int (bi (c.al 0))), none, none, none, none, some (side c.rt), some (.int c.sp), some (.int c.ph), none] μ (endsG R E) := by
    refine step ?_
    simp
    by_cases hp : c.ph = 2
    · simp [hp]
      simp [hp, bi] at t3
      exact t3
    · simp [hp]
      simp [hp, bi] at t3
      exact t3
  have t1 : wB (i_state_from.drop 1) [some dn, some dh, some dw, none, none, none, none, none, some (side c.rt), some (.int c.sp), some (.int c.ph), none] μ (endsG R E) := by
    refine step ?_
    simp
    have z0 : c.al 0 = (decide (c.ph = 0) && c.a 0) := if_pos rfl
    by_cases hp : c.ph = 0
    · simp [hp]
      rw [← hwd]
      simp
      rw [hw]
      simp [pairD]
      rw [← hwd, z0] at t2
      simp [hp] at t2
      exact t2
    · simp [hp]
      rw [z0] at t2
      simp [hp, bi] at t2
      exact t2
  simp only [n_state_from, i_state_from]
  refine step ?_
  simp
  rw [← hhd]
  simp
  rw [← hhd] at t1
  exact t1
end Tf

set_option Elab.async false
set_option linter.all false
set_option maxRecDepth 100000
set_option maxHeartbeats 1000000
namespace Tf
open PySem PySem.Spec PyProof.Rows L2
/-! ### steps, passes -/
def isIn (x : D) (lo hi : Int) : Bool := match x with | .int v => decide (lo ≤ v ∧ v ≤ hi) | _ => false
/-- a value, neither a list that changes nor a def -/
structure noRef (x : D) : Prop where
  r : ∀ p, x ≠ .ref p
  f : ∀ y, x ≠ .fn y
theorem noRef.int {i : Int} : noRef (.int i) := ⟨(fun p e => by cases e), (fun p e => by cases e)⟩
theorem noRef.bl {i : Bool} : noRef (.bl i) := ⟨(fun p e => by cases e), (fun p e => by cases e)⟩
theorem W_small {h : Nat} {a : Int → Bool} (k : Wf h a) (t : Int) : (Wn h a t).natAbs ≤ t.natAbs + 1 := by
  obtain ⟨w1, w2⟩ := Wn_ok k.pos k.an t
  generalize Wn h a t = m at *
  rcases Int.lt_or_le m 0 with z | z
  · have := Tm_mono k.pos k.an (m := m + 1) (n := 0) (by omega)
    rw [Tm_zero] at this
    omega
  · have := Tm_mono k.pos k.an (m := 0) (n := m) (by omega)
    rw [Tm_zero] at this
    omega
theorem T_small {h : Nat} {a : Int → Bool} (k : Wf h a) (m : Int) : (Tm h a m).natAbs ≤ 3 * m.natAbs := by
  have := Sm_small k m
  unfold Tm
  omega
def s_is_between : Spec := fun ds μ R _ => ∃ (x : D) (lo hi : Int), ds = [x, .int lo, .int hi] ∧ noRef x ∧ R (.bl (isIn x lo hi)) μ
def s_need_number : Spec := fun ds μ R _ => ∃ v : Int, ds = [.int v] ∧ 0 ≤ v ∧ v ≤ 10 ^ 25 ∧ R .non μ
def s_need_place : Spec := fun ds μ R _ => ∃ n v : Int, ds = [.int n, .int v] ∧ 0 ≤ v ∧ v < n ∧ R .non μ
def s_moved_on : Spec := fun ds μ R _ => ∃ (r : Rg) (t : Int), ds = [r.st.d, .int t] ∧ r.fit ∧ t.natAbs < 2 ^ 145 ∧ R (r.go t).st.d μ
def s_next_state : Spec := fun ds μ R _ => ∃ (r : Rg), ds = [r.st.d] ∧ r.fit ∧ R r.next.st.d μ
def s_state_before : Spec := fun ds μ R _ => ∃ (r : Rg), ds = [r.st.d] ∧ r.fit ∧ R (r.go (-1)).st.d μ
def s_after_steps : Spec := fun ds μ R _ => ∃ (r : Rg) (t : Int), ds = [r.st.d, .int t] ∧ r.fit ∧ -10 ^ 25 ≤ t ∧ t ≤ 10 ^ 25 ∧ R (r.go t).st.d μ
def s_passes_in : Spec := fun ds μ R _ => ∃ (r : Rg) (t : Int), ds = [r.st.d, .int t] ∧ r.fit ∧ 0 ≤ t ∧ t ≤ 10 ^ 25 ∧ R (.int (Wn (r.n - 1) r.wd (r.hd.2.2 + t))) μ
def s_steps_for : Spec := fun ds μ R _ => ∃ (r : Rg) (t : Int), ds = [r.st.d, .int t] ∧ r.fit ∧ 0 ≤ t ∧ t ≤ 10 ^ 25 ∧ R (.int (if Tm (r.n - 1) r.wd t - r.hd.2.2 > 0 then Tm (r.n - 1) r.wd t - r.hd.2.2 else 0)) μ
def s_raised_among : Spec := fun ds μ R _ => ∃ (r : Rg) (t : Int), ds = [r.st.d, .int t] ∧ r.fit ∧ 0 ≤ t ∧ t ≤ 10 ^ 25 ∧ R (.int (Sm (r.n - 1) r.wd t)) μ
def s_pass_at : Spec := fun ds μ R _ => ∃ (r : Rg) (t : Int), ds = [r.st.d, .int t] ∧ r.fit ∧ 0 ≤ t ∧ t ≤ 10 ^ 25 ∧ R (.tup [.int ((r.hd.2.1 + t * sg r.hd.1) % r.n), .bl (r.wd t)]) μ
def n_is_between : List Str := ["value", "low", "high"]
def i_is_between : List IS := [.ret (.ands [.isi "int" (.var 0), .not (.isi "bool" (.var 0)), .chain .le .le (.var 1) (.var 0) (.var 2)])]
def n_need_place : List Str := ["size", "value"]
def i_need_place : List IS := [.ite (.not (.tru (.call "is_between" s_is_between [.var 1, .cst (.int 0), .bop .sub (.var 0) (.cst (.int 1))]))) [.never] []]
def n_moved_on : List Str := ["state", "steps", "passes", "rest", "size", "word", "way", "spot", "phase"]
def i_moved_on : List IS := [.par [4, 5] [.sub (.var 0) (.cst (.int 0)), .call "word_of" s_word_of [.var 0]], .asg (.tp [.nm 6, .nm 7, .nm 8]) (.call "heading_of" s_heading_of [.var 0]), .asg (.nm 2) (.call "steps_within" s_steps_within [.var 5, .bop .add (.var 8) (.var 1)]), .asg (.nm 3) (.bop .sub (.bop .add (.var 8) (.var 1)) (.call "steps_before" s_steps_before [.var 5, .var 2])), .ret (.call "state_from" s_state_from [.var 4, .tup [.var 6, .call "place_on" s_place_on [.var 4, .var 7, .var 6, .var 2], .var 3], .call "moved_word" s_moved_word [.var 5, .var 2]])]
def n_next_state : List Str := ["state"]
def i_next_state : List IS := [.ret (.call "moved_on" s_moved_on [.var 0, .cst (.int 1)])]
def n_state_before : List Str := ["state"]
def i_state_before : List IS := [.ret (.call "moved_on" s_moved_on [.var 0, .neg (.cst (.int 1))])]
def n_after_steps : List Str := ["state", "steps"]
def i_after_steps : List IS := [.ite (.not (.tru (.call "is_between" s_is_between [.var 1, .bop .sub (.cst (.int 0)) (.glb "MAX_STEPS" (.int 10000000000000000000000000)), .glb "MAX_STEPS" (.int 10000000000000000000000000)]))) [.never] [], .ret (.call "moved_on" s_moved_on [.var 0, .var 1])]
def n_need_number : List Str := ["value"]
def i_need_number : List IS := [.ite (.not (.tru (.call "is_between" s_is_between [.var 0, .cst (.int 0), .glb "MAX_STEPS" (.int 10000000000000000000000000)]))) [.never] []]
def n_passes_in : List Str := ["state", "steps"]
def i_passes_in : List IS := [.exp (.call "need_number" s_need_number [.var 1]), .ret (.call "steps_within" s_steps_within [.call "word_of" s_word_of [.var 0], .bop .add (.call "phase_of" s_phase_of [.var 0]) (.var 1)])]
def n_steps_for : List Str := ["state", "number"]
def i_steps_for : List IS := [.exp (.call "need_number" s_need_number [.var 1]), .ret (.blt .max2 [.cst (.int 0), .bop .sub (.call "steps_before" s_steps_before [.call "word_of" s_word_of [.var 0], .var 1]) (.call "phase_of" s_phase_of [.var 0])])]
def n_raised_among : List Str := ["state", "number"]
def i_raised_among : List IS := [.exp (.call "need_number" s_need_number [.var 1]), .ret (.call "ones_before" s_ones_before [.call "word_of" s_word_of [.var 0], .var 1])]
def n_pass_at : List Str := ["state", "index", "way", "spot", "phase"]
def i_pass_at : List IS := [.exp (.call "need_number" s_need_number [.var 1]), .asg (.tp [.nm 2, .nm 3, .nm 4]) (.call "heading_of" s_heading_of [.var 0]), .ret (.tup [.call "place_on" s_place_on [.sub (.var 0) (.cst (.int 0)), .var 3, .var 2, .var 1], .cmp .eq (.call "number_at" s_number_at [.call "word_of" s_word_of [.var 0], .var 1]) (.cst (.int 1))])]
--IR--
theorem k_is_between : Keeps n_is_between i_is_between s_is_between := by
  rintro ds μ R E ⟨x, lo, hi, rfl, nr, q⟩
  cases x with
  | ref p => exact absurd rfl (nr.r p)
  | fn y => exact absurd rfl (nr.f y)
  | int v =>
    unfold isIn at q
    simp [n_is_between, i_is_between, isiD]
    by_cases h : lo ≤ v
    · simp [h] at q ⊢
      exact rt_ok q
    · simp [h] at q ⊢
      exact rt_ok q
  | _ => simp [n_is_between, i_is_between, isiD, isIn] at q ⊢ <;> exact rt_ok q
theorem k_need_number : Keeps n_need_number i_need_number s_need_number := by
  rintro ds μ R E ⟨v, rfl, h0, h1, q⟩
  simp [n_need_number, i_need_number]
  refine ⟨_, _, _, rfl, .int, ?_⟩
  have : isIn (.int v) 0 10000000000000000000000000 = true := by unfold isIn; simp; omega
  simp [this]
  exact rt_ok q
theorem k_need_place : Keeps n_need_place i_need_place s_need_place := by
  rintro ds μ R E ⟨n, v, rfl, h0, h1, q⟩
  simp [n_need_place, i_need_place]
  refine ⟨_, _, _, rfl, .int, ?_⟩
  have : isIn (.int v) 0 (n - 1) = true := by unfold isIn; simp; omega
  simp [this]
  exact rt_ok q
theorem k_moved_on : Keeps n_moved_on i_moved_on s_moved_on := by
  rintro ds μ R E ⟨r, t, rfl, k, ht, q⟩
  have hn := k.ok.n2
  have big := k.big
  have wf := k.wf
  have so := st_ok k
  have hd := st_hd k.ok
  obtain ⟨h1, h2, h3⟩ := r.hd_ok k.ok
  have gk := k.go t
  have gok := Cf.go_ok (Rg.cf_ok k.ok) t
  have ws := W_small wf (r.hd.2.2 + t)
  have ts := T_small wf (Wn (r.n - 1) r.wd (r.hd.2.2 + t))
  have few : gp (r.n - 1) (r.cf.go t).a ≤ 10000 := by
    show gp (r.n - 1) (fun j => r.wd (j + _)) ≤ 10000
    rw [gp_shift wf.an]
    exact k.few
  have hst : r.st.d = .tup [.int r.n, pairsD (prs (tab r.n r.up)), .int r.pl, side r.rt] := rfl
  simp [n_moved_on, i_moved_on]
  rw [hst]
  simp
  rw [← hst]
  refine ⟨r, rfl, k, r.st, rfl, so, ?_⟩
  rw [hd]
  simp
  refine ⟨_, _, _, rfl, wf, by unfold sml; omega, ?_⟩
  simp
  refine ⟨_, _, _, rfl, wf, by unfold sml; omega, ?_⟩
  simp
  refine ⟨_, _, _, _, rfl, by omega, ?_⟩
  simp
  refine ⟨_, _, _, rfl, wf, ?_⟩
  refine ⟨_, r.cf.go t, ?_, rfl, gok, big, few, rt_ok q⟩
  rw [placeOn_sg]
  rfl
theorem k_next_state : Keeps n_next_state i_next_state s_next_state := by
  rintro ds μ R E ⟨r, rfl, k, q⟩
  simp [n_next_state, i_next_state]
  refine ⟨r, 1, rfl, k, by decide, ?_⟩
  rw [Rg.go_one k.ok]
  exact rt_ok q
theorem k_state_before : Keeps n_state_before i_state_before s_state_before := by
  rintro ds μ R E ⟨r, rfl, k, q⟩
  simp [n_state_before, i_state_before]
  exact ⟨r, -1, rfl, k, by decide, rt_ok q⟩
theorem k_after_steps : Keeps n_after_steps i_after_steps s_after_steps := by
  rintro ds μ R E ⟨r, t, rfl, k, h0, h1, q⟩
  simp [n_after_steps, i_after_steps]
  refine ⟨_, _, _, rfl, .int, ?_⟩
  have : isIn (.int t) (-10000000000000000000000000) 10000000000000000000000000 = true := by unfold isIn; simp; omega
  simp [this]
  exact ⟨r, t, rfl, k, by omega, rt_ok q⟩
theorem k_passes_in : Keeps n_passes_in i_passes_in s_passes_in := by
  rintro ds μ R E ⟨r, t, rfl, k, h0, h1, q⟩
  obtain ⟨_, _, h3⟩ := r.hd_ok k.ok
  simp [n_passes_in, i_passes_in]
  refine ⟨t, rfl, h0, h1, r, rfl, k, r.st, rfl, st_ok k, ?_⟩
  rw [st_hd k.ok]
  simp
  exact ⟨_, _, _, rfl, k.wf, by unfold sml; omega, rt_ok q⟩
theorem k_steps_for : Keeps n_steps_for i_steps_for s_steps_for := by
  rintro ds μ R E ⟨r, t, rfl, k, h0, h1, q⟩
  simp [n_steps_for, i_steps_for]
  refine ⟨t, rfl, h0, h1, r, rfl, k, _, _, _, rfl, k.wf, by unfold sml; omega, r.st, rfl, st_ok k, ?_⟩
  rw [st_hd k.ok]
  simp
  exact rt_ok (by simpa using q)
theorem k_raised_among : Keeps n_raised_among i_raised_among s_raised_among := by
  rintro ds μ R E ⟨r, t, rfl, k, h0, h1, q⟩
  simp [n_raised_among, i_raised_among]
  exact ⟨t, rfl, h0, h1, r, rfl, k, _, _, _, rfl, k.wf, by unfold sml; omega, rt_ok q⟩
theorem k_pass_at : Keeps n_pass_at i_pass_at s_pass_at := by
  rintro ds μ R E ⟨r, t, rfl, k, h0, h1, q⟩
  have hn := k.ok.n2
  have hst : r.st.d = .tup [.int r.n, pairsD (prs (tab r.n r.up)), .int r.pl, side r.rt] := rfl
  simp [n_pass_at, i_pass_at]
  refine ⟨t, rfl, h0, h1, r.st, rfl, st_ok k, ?_⟩
  rw [st_hd k.ok, hst]
  simp
  rw [← hst]
  refine ⟨_, _, _, _, rfl, by omega, r, rfl, k, _, _, _, rfl, k.wf, by omega, ?_⟩
  rw [placeOn_sg]
  have : decide (bi (r.wd t) = 1) = r.wd t := by cases r.wd t <;> simp [bi]
  simp [this]
  exact rt_ok q
end Tf

set_option Elab.async false
set_option linter.all false
set_option maxRecDepth 100000
set_option maxHeartbeats 1000000
namespace Tf
open PySem PySem.Spec PyProof.Rows L2
/-! ### data whose text has room -/
structure Tx (h n : Nat) (d : D) : Prop where
  fl : flat d = true
  sh : (pd d).showable = true
  la : (pd d).canLay0 = true
  de : (pd d).depth ≤ h
  we : (pd d).shown.length ≤ n
structure TxL (h n : Nat) (ds : List D) : Prop where
  fl : flats ds = true
  sh : PyData.showableAll (pds ds) = true
  la : PyData.canLayAll0 (pds ds) = true
  de : PyData.depthAll (pds ds) ≤ h
  we : ((PyData.shownAll (pds ds)).map (·.length)).sum + 2 * (pds ds).length ≤ n
theorem Tx.mono {h n h' n' : Nat} {d : D} (f : Tx h n d) (a : h ≤ h') (b : n ≤ n') : Tx h' n' d := ⟨f.fl, f.sh, f.la, Nat.le_trans f.de a, Nat.le_trans f.we b⟩
theorem TxL.mono {h n h' n' : Nat} {d : List D} (f : TxL h n d) (a : h ≤ h') (b : n ≤ n') : TxL h' n' d := ⟨f.fl, f.sh, f.la, Nat.le_trans f.de a, Nat.le_trans f.we b⟩
theorem Tx.of {h n m : Nat} {d : D} (f : Fit h n d) (e : (pd d).shown.length ≤ m) : Tx h m d := ⟨f.fl, f.sh, f.la, f.de, e⟩
theorem Tx.non {h : Nat} : Tx h 4 .non := Tx.of (Fit.non (n := 0)) (Nat.le_of_eq rfl)
theorem Tx.bl {h : Nat} (b : Bool) : Tx h 5 (.bl b) := Tx.of (Fit.bl (n := 0) b) (by cases b <;> decide)
theorem Tx.int {h : Nat} {i : Int} (hi : i.natAbs < 10 ^ 60) : Tx h 61 (.int i) := Tx.of (Fit.int (h := h) hi) (by
  have e := int_text_length_le10 (a := i) (k := 60) (by decide) hi
  show (Str.ofString (toString i)).length ≤ 61
  rw [PySem.ofString_length]; exact e)
theorem Tx.side {h : Nat} (r : Bool) : Tx h 7 (side r) := by
  have f : Fit h 200 (Tf.side r) := by cases r <;> exact Fit.str (by decide +kernel) (by decide +kernel) (by decide +kernel)
  exact Tx.of f (by cases r <;> decide +kernel)
theorem TxL.nil {h : Nat} : TxL h 0 [] := ⟨rfl, by simp [pds, PyData.showableAll], by simp [pds, PyData.canLayAll0], by simp [pds, PyData.depthAll], by simp [pds, PyData.shownAll]⟩
theorem TxL.cons {h n m : Nat} {d : D} {ds : List D} (f : Tx h n d) (g : TxL h m ds) : TxL h (n + 2 + m) (d :: ds) where
  fl := by simp [flats, f.fl, g.fl]
  sh := by simp [pds, PyData.showableAll, f.sh, g.sh]
  la := by simp [pds, PyData.canLayAll0, f.la, g.la]
  de := by simp only [pds, PyData.depthAll]; exact Nat.max_le.mpr ⟨f.de, g.de⟩
  we := by simp only [pds, PyData.shownAll, List.map_cons, List.sum_cons, List.length_cons]; have := f.we; have := g.we; omega
theorem TxL.all {h n : Nat} : ∀ {ds : List D}, (∀ d ∈ ds, Tx h n d) → TxL h (ds.length * (n + 2)) ds
  | [], _ => TxL.nil.mono (Nat.le_refl _) (by simp)
  | d :: ds, q => by
    have r := TxL.cons (q d List.mem_cons_self) (TxL.all (ds := ds) fun e he => q e (List.mem_cons_of_mem _ he))
    have e : n + 2 + ds.length * (n + 2) = (d :: ds).length * (n + 2) := by rw [List.length_cons, Nat.add_mul, Nat.one_mul, Nat.add_comm]
    rw [e] at r
    exact r
theorem pds_len : ∀ ds : List D, (pds ds).length = ds.length
  | [] => rfl
  | _ :: ds => by simp [pds, pds_len ds]
theorem Tx.tup {h n : Nat} {ds : List D} (f : TxL h n ds) : Tx (h + 1) (n + 3) (.tup ds) :=
  ⟨f.fl, by simp only [pd, PyData.showable]; exact f.sh, by simp only [pd, PyData.canLay0]; exact f.la, by simp only [pd, PyData.depth]; exact Nat.succ_le_succ f.de, by
    simp only [pd, PyData.shown]
    have := tupleText_len_le (PyData.shownAll (pds ds))
    have := f.we
    have := PyData.shownAll_length (pds ds)
    omega⟩
theorem Tx.lst {h n : Nat} {ds : List D} (f : TxL h n ds) : Tx (h + 1) (n + 3) (.lst ds) :=
  ⟨f.fl, by simp only [pd, PyData.showable]; exact f.sh, by simp only [pd, PyData.canLay0]; exact f.la, by simp only [pd, PyData.depth]; exact Nat.succ_le_succ f.de, by
    simp only [pd, PyData.shown]
    have := listText_len_le (PyData.shownAll (pds ds))
    have := f.we
    have := PyData.shownAll_length (pds ds)
    omega⟩
theorem Tx.repr {h n : Nat} {d : D} (f : Tx h n d) (a : h ≤ 50 := by omega) (b : n ≤ 16000000 := by omega) : ReprOk d := ⟨f.fl, f.sh, by have := f.de; omega, by have := f.we; unfold sz; omega⟩
theorem Tx.eq {h n : Nat} {d : D} (f : Tx h n d) (a : h ≤ 50 := by omega) : EqOk d := ⟨f.fl, by
  unfold SeqAt.shaped
  rw [f.la]
  have := f.de
  simp
  omega⟩
theorem Tx.pair {h : Nat} {p : Int × Int} (h1 : p.1.natAbs < 10 ^ 60) (h2 : p.2.natAbs < 10 ^ 60) : Tx (h + 1) 129 (pairD p) := (Tx.tup (.cons (.int h1) (.cons (.int h2) .nil)))
theorem Tx.ints {h m : Nat} {ns : List Int} (hi : ∀ i ∈ ns, i.natAbs < 10 ^ 60) (hl : ns.length ≤ m) : TxL h (m * 63) (ns.map .int) := by
  have := TxL.all (h := h) (n := 61) (ds := ns.map D.int) fun d hd => by
    obtain ⟨i, hi', rfl⟩ := List.mem_map.mp hd
    exact .int (hi i hi')
  exact this.mono (Nat.le_refl _) (by rw [List.length_map]; exact Nat.mul_le_mul_right _ hl)
/-- equal data have equal texts -/
theorem ne_same {x : Str} : (!decide (x = x)) = false := by simp
theorem prs_in {l : List Bool} {p : Int × Int} (h : p ∈ prs l) : 0 ≤ p.1 ∧ p.1 < p.2 ∧ p.2 ≤ l.length := by
  have go : ∀ {ps : List (Int × Int)} {lo n : Int}, Norm lo n ps → p ∈ ps → lo ≤ p.1 ∧ p.1 < p.2 ∧ p.2 ≤ n := by
    intro ps
    induction ps with
    | nil => intro lo n _ h; cases h
    | cons q qs ih =>
      intro lo n hn h
      rcases List.mem_cons.mp h with rfl | h
      · exact ⟨hn.1, hn.2.1, hn.2.2.1⟩
      · have := ih hn.2.2.2 h
        have := hn.1
        have := hn.2.1
        omega
  exact go (norm_prs l) h
theorem Tx.st {r : Rg} (k : r.ok) (big : r.n ≤ 10 ^ 13) {m : Nat} (few : nr (tab r.n r.up) ≤ m) : Tx 3 (m * 131 + 150) r.st.d := by
  have hn := k.n2
  have h1 := k.pl0
  have h2 := k.pl1
  have hp : TxL 1 (m * 131) ((prs (tab r.n r.up)).map pairD) := by
    have := TxL.all (h := 1) (n := 129) (ds := (prs (tab r.n r.up)).map pairD) fun d hd => by
      obtain ⟨p, hp, rfl⟩ := List.mem_map.mp hd
      have := prs_in hp
      rw [tab_len] at this
      exact .pair (by omega) (by omega)
    refine this.mono (Nat.le_refl _) (by rw [List.length_map]; exact Nat.mul_le_mul_right _ (Nat.le_trans (prs_len _) few))
  have := Tx.tup (h := 2) (.cons (.int (i := r.n) (by omega)) (.cons (Tx.tup hp) (.cons (.int (i := r.pl) (by omega)) (.cons (.side r.rt) .nil))))
  exact this.mono (Nat.le_refl _) (by omega)
theorem Rg.fit.tx {r : Rg} (k : r.fit) : Tx 3 2760000 r.st.d := (Tx.st k.ok k.big k.nrs.1).mono (by omega) (by omega)
end Tf

set_option Elab.async false
set_option linter.all false
set_option maxRecDepth 100000
set_option maxHeartbeats 1000000
namespace Tf
open PySem PySem.Spec PyProof.Rows L2
theorem at_rng {n : Nat} {f : Nat → D} {i : Nat} {x : D} (h : ((List.range n).map f)[i]? = some x) : i < n ∧ x = f i := by
  rw [List.getElem?_map] at h
  obtain ⟨l, h1, rfl⟩ := Option.map_eq_some_iff.mp h
  obtain ⟨h2, h3⟩ := List.getElem?_eq_some_iff.mp h1
  simp at h2 h3
  exact ⟨h2, by rw [h3]⟩
theorem W0_nn {r : Rg} (k : r.ok) (t : Int) (h0 : 0 ≤ t) : 0 ≤ Wn (r.n - 1) r.wd (r.hd.2.2 + t) ∧ Wn (r.n - 1) r.wd (r.hd.2.2 + t) ≤ t + 2 := by
  have hn := k.n2
  have an := (Rg.cf_ok k).an
  have h0' : 0 < r.n - 1 := by omega
  obtain ⟨w1, w2⟩ := Wn_ok h0' an (r.hd.2.2 + t)
  obtain ⟨_, _, h3⟩ := r.hd_ok k
  have wf : 0 ≤ r.hd.2.2 ∧ r.hd.2.2 ≤ 2 := by omega
  have w1' : Tm (r.n - 1) r.wd (Wn (r.n - 1) r.wd (r.hd.2.2 + t)) ≤ r.hd.2.2 + t := w1
  have w2' : r.hd.2.2 + t < Tm (r.n - 1) r.wd (Wn (r.n - 1) r.wd (r.hd.2.2 + t) + 1) := w2
  generalize Wn (r.n - 1) r.wd (r.hd.2.2 + t) = m at *
  have an' : Anti (r.n - 1) r.wd := an
  constructor
  · rcases Int.lt_or_le m 0 with z | z
    · have := Tm_mono h0' an' (m := m + 1) (n := 0) (by omega)
      rw [Tm_zero] at this
      omega
    · exact z
  · rcases Int.lt_or_le m 0 with z | z
    · omega
    · have := Tm_mono h0' an' (m := 0) (n := m) z
      rw [Tm_zero] at this
      omega
theorem W_zero {r : Rg} (k : r.ok) : Wn (r.n - 1) r.wd r.hd.2.2 = 0 ∧ r.hd.2.2 < Tm (r.n - 1) r.wd 1 := by
  have hn := k.n2
  have ck := Rg.cf_ok k
  have h0 : 0 < r.n - 1 := by omega
  have an : Anti (r.n - 1) r.wd := ck.an
  have z := Cf.go_zero ck
  have hph : (r.cf.go 0).ph = r.cf.ph := by rw [z]
  have hph2 : r.hd.2.2 + 0 - Tm (r.n - 1) r.wd (Wn (r.n - 1) r.wd (r.hd.2.2 + 0)) = r.hd.2.2 := hph
  have w := W0_nn k 0 (by omega)
  rw [Int.add_zero] at hph2 w
  have t := Tm_mono h0 an (m := 0) (n := Wn (r.n - 1) r.wd r.hd.2.2) (by omega)
  rw [Tm_zero] at t
  have e : Wn (r.n - 1) r.wd r.hd.2.2 = 0 := by omega
  have := (Wn_ok h0 an r.hd.2.2).2
  rw [e] at this
  exact ⟨e, by simpa using this⟩
theorem W_iff {r : Rg} (k : r.ok) (t : Int) (m : Int) : m ≤ Wn (r.n - 1) r.wd t ↔ Tm (r.n - 1) r.wd m ≤ t := by
  have hn := k.n2
  have h0 : 0 < r.n - 1 := by omega
  have an : Anti (r.n - 1) r.wd := (Rg.cf_ok k).an
  obtain ⟨w1, w2⟩ := Wn_ok h0 an t
  constructor
  · intro h
    have := Tm_mono h0 an h
    omega
  · intro h
    rcases Int.lt_or_le (Wn (r.n - 1) r.wd t) m with z | z
    · have := Tm_mono h0 an (m := Wn (r.n - 1) r.wd t + 1) (n := m) (by omega)
      omega
    · exact z
/-! ### passes and steps, plainly -/
section
variable {r : Rg}
def Rg.T (r : Rg) (m : Int) : Int := Tm (r.n - 1) r.wd m
def Rg.S (r : Rg) (m : Int) : Int := Sm (r.n - 1) r.wd m
def Rg.W (r : Rg) (t : Int) : Int := Wn (r.n - 1) r.wd t
def Rg.ph (r : Rg) : Int := r.hd.2.2
/-- steps_for -/
def Rg.sf (r : Rg) (m : Int) : Int := if r.T m - r.ph > 0 then r.T m - r.ph else 0
theorem Rg.h0 (k : r.ok) : 0 < r.n - 1 := by have := k.n2; omega
theorem Rg.an (k : r.ok) : Anti (r.n - 1) r.wd := (Rg.cf_ok k).an
theorem Rg.T0 : r.T 0 = 0 := Tm_zero _ _
theorem Rg.S0 : r.S 0 = 0 := Sm_zero _ _
theorem Rg.TS (m : Int) : r.T m = m + 2 * r.S m := rfl
theorem Rg.S_succ (k : r.ok) (m : Int) : r.S (m + 1) = r.S m + bi (r.wd m) := Sm_succ (r.h0 k) (r.an k) m
theorem Rg.T_succ (k : r.ok) (m : Int) : r.T (m + 1) = r.T m + 1 + 2 * bi (r.wd m) := by rw [Rg.TS, Rg.TS, Rg.S_succ k]; omega
theorem Rg.T_mono (k : r.ok) {m n : Int} (l : m ≤ n) : r.T m + (n - m) ≤ r.T n := Tm_mono (r.h0 k) (r.an k) l
theorem Rg.T_one (k : r.ok) : r.ph < r.T 1 := (W_zero k).2
theorem Rg.ph_or (k : r.ok) : r.ph = 0 ∨ r.ph = 1 ∨ r.ph = 2 := (r.hd_ok k).2.2
theorem Rg.W_spec (k : r.ok) (t : Int) : r.T (r.W t) ≤ t ∧ t < r.T (r.W t + 1) := Wn_ok (r.h0 k) (r.an k) t
theorem Rg.W_of (k : r.ok) {t m : Int} (a : r.T m ≤ t) (b : t < r.T (m + 1)) : r.W t = m := Wn_eq (r.h0 k) (r.an k) ⟨a, b⟩
theorem Rg.W_nn (k : r.ok) {t : Int} (h : 0 ≤ t) : 0 ≤ r.W (r.ph + t) ∧ r.W (r.ph + t) ≤ t + 2 := W0_nn k t h
theorem Rg.bi_01 (b : Bool) : bi b = 0 ∨ bi b = 1 := by cases b <;> simp [bi]
theorem Rg.T_pos (k : r.ok) {m : Int} (h : 1 ≤ m) : r.ph + m ≤ r.T m := by
  have := Rg.T_mono k h
  have := Rg.T_one k
  omega
theorem Rg.sf_pos (k : r.ok) {m : Int} (h : 1 ≤ m) : r.sf m = r.T m - r.ph ∧ m ≤ r.sf m := by
  have := Rg.T_pos k h
  unfold Rg.sf
  rw [if_pos (by omega)]
  omega
theorem Rg.sf_zero (k : r.ok) : r.sf 0 = 0 := by
  have := Rg.ph_or k
  unfold Rg.sf
  rw [Rg.T0, if_neg (by omega)]
theorem Rg.W_sf (k : r.ok) {m : Int} (h : 0 ≤ m) : r.W (r.ph + r.sf m) = m := by
  by_cases z : m = 0
  · subst z
    rw [Rg.sf_zero k, Int.add_zero]
    exact (W_zero k).1
  · have := (Rg.sf_pos k (m := m) (by omega)).1
    rw [this]
    have t := Rg.T_succ k m
    have b := Rg.bi_01 (r.wd m)
    exact Rg.W_of k (by omega) (by omega)
theorem Rg.W_sf_pred (k : r.ok) {m : Int} (h : 1 ≤ m) : r.W (r.ph + (r.sf m - 1)) = m - 1 := by
  have := (Rg.sf_pos k h).1
  rw [this]
  have t := Rg.T_succ k (m - 1)
  have b := Rg.bi_01 (r.wd (m - 1))
  rw [show m - 1 + 1 = m by omega] at t
  exact Rg.W_of k (by omega) (by rw [show m - 1 + 1 = m by omega]; omega)
theorem Rg.S_small (k : r.fit) (m : Int) : (r.S m).natAbs ≤ m.natAbs := Sm_small k.wf m
theorem Rg.S_rng (k : r.ok) {m : Int} (h : 0 ≤ m) : 0 ≤ r.S m ∧ r.S m ≤ m := by
  have := Sm_le (r.h0 k) (r.an k) 0 m.toNat
  rw [Int.toNat_of_nonneg h, Int.zero_add, Sm_zero] at this
  exact ⟨this.1, by have := this.2; show Sm (r.n - 1) r.wd m ≤ m; omega⟩
theorem Rg.S_half (k : r.ok) (m : Int) : r.S (m + 2 * (r.n - 1)) = r.S m + (r.n - 1) := by
  have hn := k.n2
  have := Sm_half (r.h0 k) (r.an k) m
  have e : ((r.n - 1 : Nat) : Int) = (r.n : Int) - 1 := by omega
  rw [e] at this
  exact this
theorem Rg.wd_half (k : r.ok) (m : Int) : r.wd (m + (r.n - 1)) = !r.wd m := by
  have hn := k.n2
  have := r.an k m
  have e : ((r.n - 1 : Nat) : Int) = (r.n : Int) - 1 := by omega
  rwa [e] at this
theorem Rg.T_half (k : r.ok) (m : Int) : r.T (m + 2 * (r.n - 1)) = r.T m + 4 * (r.n - 1) := by
  rw [Rg.TS, Rg.TS, Rg.S_half k]; omega
theorem Rg.sf_succ (k : r.ok) {m : Int} (h : 0 ≤ m) : r.sf (m + 1) = r.sf m + 1 + 2 * bi (r.wd m) - (if m = 0 then r.ph else 0) := by
  have t := Rg.T_succ k m
  rw [(Rg.sf_pos k (m := m + 1) (by omega)).1]
  by_cases z : m = 0
  · subst z
    rw [Rg.sf_zero k, if_pos rfl, t, Rg.T0]
  · rw [(Rg.sf_pos k (m := m) (by omega)).1, if_neg z]
    omega
theorem Rg.S_mono (k : r.ok) {m n : Int} (l : m ≤ n) : r.S m ≤ r.S n := by
  have := Sm_le (r.h0 k) (r.an k) m (n - m).toNat
  rw [Int.toNat_of_nonneg (by omega), show m + (n - m) = n by omega] at this
  exact this.1
/-- so many passes take more steps than the limit -/
theorem Rg.W_lim (k : r.ok) (big : r.n ≤ 10 ^ 13) {t : Int} (h : r.W (r.ph + t) ≥ 10 ^ 25) : 10 ^ 25 < t := by
  have w := (Rg.W_spec k (r.ph + t)).1
  have a := Rg.S_half k 0
  have b := Rg.S_half k (0 + 2 * (r.n - 1))
  rw [Rg.S0] at a
  have hn := k.n2
  have ph := Rg.ph_or k
  have c := Rg.S_mono k (m := 0 + 2 * (r.n - 1) + 2 * (r.n - 1)) (n := r.W (r.ph + t)) (by omega)
  have d := r.TS (r.W (r.ph + t))
  omega
/-- by how many passes the row goes on -/
theorem Rg.S_half1 (k : r.ok) (m : Int) : r.S (m + (r.n - 1)) = r.S (r.n - 1) + m - r.S m := by
  refine sums_eq (F := fun m => r.S (m + (r.n - 1))) (G := fun m => r.S (r.n - 1) + m - r.S m) ?_ (fun m => ?_) m
  · simp [Rg.S0]
  · have e : m + 1 + ((r.n : Int) - 1) = m + (r.n - 1) + 1 := by omega
    simp only [e, Rg.S_succ k, Rg.wd_half k]
    cases r.wd m <;> simp [bi] <;> omega
end
/-- the answers of the functions, by these names -/
theorem a_passes_in {r : Rg} {t : Int} {μ : Mu} {R : Post} {E : XPost} (k : r.fit) (h0 : 0 ≤ t) (h1 : t ≤ 10 ^ 25) (q : R (.int (r.W (r.ph + t))) μ) : s_passes_in [r.st.d, .int t] μ R E := ⟨r, t, rfl, k, h0, h1, q⟩
theorem a_steps_for {r : Rg} {t : Int} {μ : Mu} {R : Post} {E : XPost} (k : r.fit) (h0 : 0 ≤ t) (h1 : t ≤ 10 ^ 25) (q : R (.int (r.sf t)) μ) : s_steps_for [r.st.d, .int t] μ R E := ⟨r, t, rfl, k, h0, h1, q⟩
theorem a_raised_among {r : Rg} {t : Int} {μ : Mu} {R : Post} {E : XPost} (k : r.fit) (h0 : 0 ≤ t) (h1 : t ≤ 10 ^ 25) (q : R (.int (r.S t)) μ) : s_raised_among [r.st.d, .int t] μ R E := ⟨r, t, rfl, k, h0, h1, q⟩
def Rg.at_ (r : Rg) (t : Int) : Int := (r.hd.2.1 + t * sg r.hd.1) % r.n
theorem a_pass_at {r : Rg} {t : Int} {μ : Mu} {R : Post} {E : XPost} (k : r.fit) (h0 : 0 ≤ t) (h1 : t ≤ 10 ^ 25) (q : R (.tup [.int (r.at_ t), .bl (r.wd t)]) μ) : s_pass_at [r.st.d, .int t] μ R E := ⟨r, t, rfl, k, h0, h1, q⟩
theorem a_phase_of {r : Rg} {μ : Mu} {R : Post} {E : XPost} (k : r.fit) (q : R (.int r.ph) μ) : s_phase_of [r.st.d] μ R E := ⟨r.st, rfl, st_ok k, by rw [st_hd k.ok]; exact q⟩
theorem a_spot_of {r : Rg} {μ : Mu} {R : Post} {E : XPost} (k : r.fit) (q : R (.int r.hd.2.1) μ) : s_spot_of [r.st.d] μ R E := ⟨r.st, rfl, st_ok k, by rw [st_hd k.ok]; exact q⟩
theorem a_way_of {r : Rg} {μ : Mu} {R : Post} {E : XPost} (k : r.fit) (q : R (side r.hd.1) μ) : s_way_of [r.st.d] μ R E := ⟨r.st, rfl, st_ok k, by rw [st_hd k.ok]; exact q⟩
theorem a_after {r : Rg} {t : Int} {μ : Mu} {R : Post} {E : XPost} (k : r.fit) (h0 : -10 ^ 25 ≤ t) (h1 : t ≤ 10 ^ 25) (q : R (r.go t).st.d μ) : s_after_steps [r.st.d, .int t] μ R E := ⟨r, t, rfl, k, h0, h1, q⟩
end Tf

set_option Elab.async false
set_option linter.all false
set_option maxRecDepth 100000
set_option maxHeartbeats 1000000
namespace Tf
open PySem PySem.Spec PyProof.Rows L2
/-! ### the law's rings -/
structure Ring where
  fl : List Bool
  pl : Nat
  rt : Bool
def Ring.ok (r : Ring) : Prop := 2 ≤ r.fl.length ∧ r.fl.length ≤ 1000 ∧ r.pl < r.fl.length
def Ring.d (r : Ring) : D := .lst [.lst (r.fl.map .bl), .int r.pl, side r.rt]
def begins (fl : List Bool) : List Int := (List.range fl.length).filterMap fun (k : Nat) => if fl[k]?.getD false && (k == 0 || !(fl[k - 1]?.getD false)) then some (k : Int) else none
def ends (fl : List Bool) : List Int := (List.range fl.length).filterMap fun (k : Nat) => if fl[k]?.getD false && (k + 1 == fl.length || !(fl[k + 1]?.getD false)) then some ((k : Int) + 1) else none
def runs (fl : List Bool) : List (Int × Int) := (begins fl).zip (ends fl)
def Ring.st (r : Ring) : St4 := ⟨r.fl.length, runs r.fl, r.pl, r.rt⟩
def Ring.on (r : Ring) (rt : Bool) (m : Int) : Int := (r.pl + m * (if rt then 1 else -1)) % r.fl.length
def Ring.at (r : Ring) (x : Int) : Bool := r.fl[x.toNat]?.getD false
def Ring.hd (r : Ring) : Bool × Int × Int :=
  if r.at (r.on r.rt (-1)) then (r.rt, r.pl, 0) else if r.at r.pl then (!r.rt, r.on r.rt (-1), 1) else (r.rt, r.pl, 2)
def hdD (h : Bool × Int × Int) : D := .lst [side h.1, .int h.2.1, .int h.2.2]
def Ring.next (r : Ring) : Ring :=
  let rt := if r.at r.pl then !r.rt else r.rt
  ⟨r.fl.set r.pl (!r.at r.pl), ((r.pl + (1 : Int) * (if rt then 1 else -1)) % r.fl.length).toNat, rt⟩
def s_law_ring : Spec := fun ds μ R _ => ∃ p q n m, ds = [.ref p, .int m] ∧ Deck p q n μ ∧ n < 2 ^ 30 ∧ 2 ≤ m ∧ m ≤ 1000 ∧ ∀ (r : Ring) n' μ', r.ok → r.fl.length ≤ m → n' ≤ n + 10000 → Deck p q n' μ' → Rest p q μ μ' → R r.d μ'
def s_law_state : Spec := fun ds μ R _ => ∃ r : Ring, ds = [r.d] ∧ r.ok ∧ R r.st.d μ
def s_law_stepped : Spec := fun ds μ R _ => ∃ r : Ring, ds = [r.d] ∧ r.ok ∧ R r.next.d μ
def s_law_heading : Spec := fun ds μ R _ => ∃ r : Ring, ds = [r.d] ∧ r.ok ∧ R (hdD r.hd) μ
def n_law_ring : List Str := ["_law_deck_here", "_law_most", "_law_flags", "_law_size", "_law_kind", "_law_k"]
def i_law_ring : List IS := [.par [3, 4] [.bop .add (.cst (.int 2)) (.call "_law_draw" s_law_draw [.var 0, .bop .sub (.var 1) (.cst (.int 1))]), .call "_law_draw" s_law_draw [.var 0, .cst (.int 4)]], .asg (.nm 2) (.comp false [("_law_k", 5)] (.nm 5) (.range1 (.var 3)) [] (.cmp .eq (.call "_law_draw" s_law_draw [.var 0, .cst (.int 2)]) (.cst (.int 1)))), .ite (.cmp .eq (.var 4) (.cst (.int 0))) [.asg (.nm 2) (.comp false [("_law_k", 5)] (.nm 5) (.range1 (.var 3)) [] (.cmp .eq (.call "_law_draw" s_law_draw [.var 0, .cst (.int 5)]) (.cst (.int 0))))] [], .ite (.cmp .eq (.var 4) (.cst (.int 1))) [.asg (.nm 2) (.bop .mul (.lst false [.cmp .eq (.call "_law_draw" s_law_draw [.var 0, .cst (.int 2)]) (.cst (.int 1))]) (.var 3))] [], .ret (.lst false [.var 2, .call "_law_draw" s_law_draw [.var 0, .var 3], .sub (.lst false [.cst (.str "right"), .cst (.str "left")]) (.call "_law_draw" s_law_draw [.var 0, .cst (.int 2)])])]
def n_law_state : List Str := ["_law_ring_here", "_law_size", "_law_begins", "_law_ends", "_law_flags", "_law_place", "_law_side", "_law_k"]
def i_law_state : List IS := [.asg (.tp [.nm 4, .nm 5, .nm 6]) (.var 0), .asg (.nm 1) (.blt .len [.var 4]), .asg (.nm 2) (.comp false [("_law_k", 7)] (.nm 7) (.range1 (.var 1)) [.ands [.tru (.sub (.var 4) (.var 7)), .ors [.cmp .eq (.var 7) (.cst (.int 0)), .not (.tru (.sub (.var 4) (.bop .sub (.var 7) (.cst (.int 1)))))]]] (.var 7)), .asg (.nm 3) (.comp false [("_law_k", 7)] (.nm 7) (.range1 (.var 1)) [.ands [.tru (.sub (.var 4) (.var 7)), .ors [.cmp .eq (.bop .add (.var 7) (.cst (.int 1))) (.var 1), .not (.tru (.sub (.var 4) (.bop .add (.var 7) (.cst (.int 1)))))]]] (.bop .add (.var 7) (.cst (.int 1)))), .ret (.tup [.var 1, .tupZip (.var 2) (.var 3), .var 5, .var 6])]
def n_law_stepped : List Str := ["_law_ring_here", "_law_now", "_law_side", "_law_flags", "_law_place"]
def i_law_stepped : List IS := [.asg (.tp [.nm 3, .nm 4, .nm 2]) (.var 0), .asg (.nm 1) (.blt .listM [.var 3]), .set (.var 1) (.var 4) (.not (.sub (.var 3) (.var 4))), .asg (.nm 2) (.ite (.tru (.sub (.var 3) (.var 4))) (.call "_law_other" s_law_other [.var 2]) (.var 2)), .ret (.lst false [.frz (.var 1), .call "_law_on" s_law_on [.blt .len [.var 3], .var 4, .var 2, .cst (.int 1)], .var 2])]
def n_law_heading : List Str := ["_law_ring_here", "_law_behind", "_law_flags", "_law_place", "_law_side"]
def i_law_heading : List IS := [.asg (.tp [.nm 2, .nm 3, .nm 4]) (.var 0), .asg (.nm 1) (.call "_law_on" s_law_on [.blt .len [.var 2], .var 3, .var 4, .neg (.cst (.int 1))]), .ite (.tru (.sub (.var 2) (.var 1))) [.ret (.lst false [.var 4, .var 3, .cst (.int 0)])] [], .ret (.ite (.tru (.sub (.var 2) (.var 3))) (.lst false [.call "_law_other" s_law_other [.var 4], .var 1, .cst (.int 1)]) (.lst false [.var 4, .var 3, .cst (.int 2)]))]
theorem bit_two {xs : List Bool} {k : Nat} (h : k < xs.length) : atI (xs.map D.bl) (k : Int) = some (.bl xs[k]) := by
  unfold atI ixN
  simp [h]
theorem k_law_ring : Keeps n_law_ring i_law_ring s_law_ring := by
  rintro ds μ R E ⟨p, q, n, m, rfl, dk, hn, h2, hm, qq⟩
  simp [n_law_ring, i_law_ring]
  refine ⟨p, q, n, _, rfl, dk, by omega, by omega, by omega, fun r1 μ1 a1 b1 dk1 re1 => ?_⟩
  simp []
  refine ⟨p, q, _, _, rfl, dk1, by omega, by decide, by decide, fun r2 μ2 a2 b2 dk2 re2 => ?_⟩
  simp []
  -- the last row
  have fin : ∀ (fl : List Bool) (n3 : Nat) (μ3 : Mu) (E : XPost), fl.length = (2 + r1).toNat → Deck p q n3 μ3 → Rest p q μ μ3 → n3 ≤ n + 5000 → s_law_draw [.ref p, .int (2 + r1)] μ3 (fun x μ1 => s_law_draw [.ref p, .int 2] μ1 (fun k μ2 =>
      match some [D.str (Str.ofString "right"), D.str (Str.ofString "left")], k with
      | some ds, D.int j => (match atI ds j with | some d => ∃ μ2_1, Sub μ2_1 μ2 ∧ R (.lst [.lst (fl.map .bl), x, d]) μ2_1 | none => False)
      | x, x_1 => False) E) E := by
    intro fl n3 μ3 E hl d3 e3 hn3
    refine ⟨p, q, _, _, rfl, d3, by omega, by omega, by omega, fun x μ4 a4 b4 d4 e4 => ⟨p, q, _, _, rfl, d4, by omega, by decide, by decide, fun y μ5 a5 b5 d5 e5 => ?_⟩⟩
    have ok : ∀ b : Bool, Ring.ok ⟨fl, x.toNat, b⟩ := fun b => ⟨by show 2 ≤ fl.length; omega, by show fl.length ≤ 1000; omega, by show x.toNat < fl.length; omega⟩
    have ex : ((x.toNat : Nat) : Int) = x := by omega
    have go := fun b => qq ⟨fl, x.toNat, b⟩ _ μ5 (ok b) (by show (fl.length : Int) ≤ m; omega) (by omega) d5 ((e3.trans e4).trans e5)
    have hy : y = 0 ∨ y = 1 := by omega
    rcases hy with rfl | rfl
    · have g := go true
      simp only [Ring.d, ex, side] at g
      exact rt_ok (by simpa using g)
    · have g := go false
      simp only [Ring.d, ex, side] at g
      exact rt_ok (by simpa using g)
  have len : (List.map (fun (i : Nat) => D.int i) (List.range (2 + r1).toNat)).length = (2 + r1).toNat := by simp
  -- all alike
  have alike : ∀ (fl : List Bool) (n3 : Nat) (μ3 : Mu) (E : XPost), fl.length = (2 + r1).toNat → Deck p q n3 μ3 → Rest p q μ μ3 → n3 ≤ n + 4000 → (match decide (r2 = 1) with
      | true => s_law_draw [.ref p, .int 2] μ3 (fun x μ1 => wCop Cop.eq (vw μ1 x) (.int 1) μ1 fun k μ3 => 0 ≤ 2 + r1 ∧ 2 + r1 < 9223372036854775808 ∧ 2 + r1 ≤ 16777216 ∧ s_law_draw [.ref p, .int (2 + r1)] μ3 (fun x μ1 => s_law_draw [.ref p, .int 2] μ1 (fun k_1 μ2 =>
        match some [D.str (Str.ofString "right"), D.str (Str.ofString "left")], k_1 with
        | some ds, D.int j => (match atI ds j with | some d => ∃ μ2_1, Sub μ2_1 μ2 ∧ R (.lst [.lst (List.replicate (2 + r1).toNat (.bl k)), x, d]) μ2_1 | none => False)
        | x, x_1 => False) E) E) E
      | false => s_law_draw [.ref p, .int (2 + r1)] μ3 (fun x μ1 => s_law_draw [.ref p, .int 2] μ1 (fun k μ2 =>
        match some [D.str (Str.ofString "right"), D.str (Str.ofString "left")], k with
        | some ds, D.int j => (match atI ds j with | some d => ∃ μ2_1, Sub μ2_1 μ2 ∧ R (.lst [.lst (fl.map .bl), x, d]) μ2_1 | none => False)
        | x, x_1 => False) E) E) := by
    intro fl n3 μ3 E hl d3 e3 hn3
    by_cases h1 : r2 = 1
    · rw [decide_eq_true h1]
      refine ⟨p, q, _, _, rfl, d3, by omega, by decide, by decide, fun x μ4 a4 b4 d4 e4 => ?_⟩
      simp []
      have := fin (List.replicate (2 + r1).toNat (decide (x = 1))) _ μ4 E (by simp) d4 (e3.trans e4) (by omega)
      rw [List.map_replicate] at this
      exact ⟨by omega, by omega, by omega, this⟩
    · rw [decide_eq_false h1]
      exact fin fl n3 μ3 E hl d3 e3 (by omega)
  refine ⟨by omega, by omega, by omega, draw_bits dk2 (by rw [len]; omega) (by decide) (by decide) fun fl μ3 hl d3 e3 => ?_⟩
  rw [len] at hl d3
  by_cases h0 : r2 = 0
  · rw [decide_eq_true h0]
    refine ⟨by omega, by omega, by omega, draw_bits d3 (by rw [len]; omega) (by decide) (by decide) fun fl2 μ4 hl2 d4 e4 => ?_⟩
    rw [len] at hl2 d4
    exact alike fl2 _ μ4 E hl2 d4 (((re1.trans re2).trans e3).trans e4) (by omega)
  · rw [decide_eq_false h0]
    exact alike fl _ μ3 E hl d3 ((re1.trans re2).trans e3) (by omega)
theorem atI_nat {α : Type} {xs : List α} {k : Nat} (h : k < xs.length) : atI xs (k : Int) = some xs[k] := by
  unfold atI ixN
  simp [h]
theorem ring_at {r : Ring} {k : Nat} (h : k < r.fl.length) : atI (r.fl.map D.bl) (k : Int) = some (.bl (r.at k)) := by
  rw [bit_two h]
  unfold Ring.at
  simp [h]
theorem ring_at' {r : Ring} {x : Int} (h0 : 0 ≤ x) (h : x < r.fl.length) : atI (r.fl.map D.bl) x = some (.bl (r.at x)) := by
  obtain ⟨k, rfl⟩ : ∃ k : Nat, x = k := ⟨x.toNat, by omega⟩
  exact ring_at (by omega)
theorem k_law_heading : Keeps n_law_heading i_law_heading s_law_heading := by
  rintro ds μ R E ⟨r, rfl, ⟨h1, h2, h3⟩, q⟩
  simp [n_law_heading, i_law_heading, Ring.d]
  have e1 : (r.pl + (-1 : Int) * (if r.rt then 1 else -1)) % r.fl.length = r.on r.rt (-1) := rfl
  have w := wrap (C := 0) (x := (r.pl + (-1 : Int) * (if r.rt then 1 else -1))) (M := r.fl.length) (by omega)
  rw [e1] at w
  refine ⟨_, _, _, _, rfl, by omega, by decide, ?_⟩
  rw [e1]
  unfold Ring.hd hdD at q
  simp [ring_at' w.1 w.2]
  cases e2 : r.at (r.on r.rt (-1))
  · simp [ring_at h3]
    cases e3 : r.at r.pl
    · simp [e2, e3] at q ⊢
      exact rt_ok q
    · simp [e2, e3] at q ⊢
      refine ⟨_, rfl, rt_ok q⟩
  · simp [e2] at q ⊢
    exact rt_ok q
theorem zipD : ∀ {as bs : List Int}, List.zipWith (fun p q => D.tup [p, q]) (as.map D.int) (bs.map D.int) = (as.zip bs).map pairD
  | [], _ => by simp
  | _ :: _, [] => by simp
  | a :: as, b :: bs => by simp [zipD (as := as) (bs := bs), pairD]
theorem at_nat (r : Ring) (k : Nat) : r.at (k : Int) = r.fl[k]?.getD false := by simp [Ring.at]
theorem at_succ (r : Ring) (k : Nat) : r.at ((k : Int) + 1) = r.fl[k + 1]?.getD false := by
  have : ((k : Int) + 1).toNat = k + 1 := by omega
  simp [Ring.at, this]
theorem zipD' {as bs : List Int} : List.zipWith (fun a b => D.tup [.int a, .int b]) as bs = (as.zip bs).map pairD := by
  rw [← zipD]
  simp
theorem begins_map (fl : List Bool) : (begins fl).map D.int = (List.range fl.length).filterMap fun (k : Nat) => if fl[k]?.getD false && (k == 0 || !(fl[k - 1]?.getD false)) then some (D.int k) else none := by
  unfold begins
  rw [List.map_filterMap]
  congr 1
  funext k
  split <;> rfl
theorem ends_map (fl : List Bool) : (ends fl).map D.int = (List.range fl.length).filterMap fun (k : Nat) => if fl[k]?.getD false && (k + 1 == fl.length || !(fl[k + 1]?.getD false)) then some (D.int ((k : Int) + 1)) else none := by
  unfold ends
  rw [List.map_filterMap]
  congr 1
  funext k
  split <;> rfl
theorem k_law_state : Keeps n_law_state i_law_state s_law_state := by
  rintro ds μ R E ⟨r, rfl, ⟨h1, h2, h3⟩, q⟩
  simp [n_law_state, i_law_state, Ring.d]
  refine ⟨by omega, by omega, wComp_filter (enc := fun (i : Nat) => D.int i) (fun (k : Nat) => if r.fl[k]?.getD false && (k == 0 || !(r.fl[k - 1]?.getD false)) then some (D.int k) else none) (fun k hk R' h => ?_) ?_⟩
  · have hk := List.mem_range.mp hk
    rw [← at_nat] at h
    simp [ring_at hk]
    cases e1 : r.at k
    · simpa [e1] using h
    · by_cases e2 : k = 0
      · subst e2
        have e1' : r.at 0 = true := e1
        simp []
        simpa [e1, e1'] using h
      · have e3 : (k : Int) - 1 = ((k - 1 : Nat) : Int) := by omega
        have e4 : ¬ ((k : Int) = 0) := by omega
        rw [← at_nat] at h
        simp [e2, e3, ring_at (r := r) (k := k - 1) (by omega)]
        cases e5 : r.at ((k - 1 : Nat) : Int) <;> simpa [e1, e2, e5] using h
  · rw [← begins_map]
    refine ⟨by omega, by omega, wComp_filter (enc := fun (i : Nat) => D.int i) (fun (k : Nat) => if r.fl[k]?.getD false && (k + 1 == r.fl.length || !(r.fl[k + 1]?.getD false)) then some (D.int ((k : Int) + 1)) else none) (fun k hk R' h => ?_) ?_⟩
    · have hk := List.mem_range.mp hk
      rw [← at_nat] at h
      simp [ring_at hk]
      cases e1 : r.at k
      · simpa [e1] using h
      · by_cases e2 : k + 1 = r.fl.length
        · have e3 : (k : Int) + 1 = r.fl.length := by omega
          simp [e3]
          simpa [e1, e2, e3] using h
        · have e4 : ¬ ((k : Int) + 1 = r.fl.length) := by omega
          rw [← at_succ] at h
          simp [e4, ring_at' (r := r) (x := (k : Int) + 1) (by omega) (by omega)]
          cases e5 : r.at ((k : Int) + 1) <;> simp [e1, e2, e5] at h ⊢ <;> exact h
    · rw [← ends_map]
      simp []
      rw [zipD']
      exact rt_ok q
theorem set_bit {fl : List Bool} {k : Nat} {b : Bool} : (fl.map D.bl).set k (.bl b) = (fl.set k b).map .bl := by rw [List.map_set]
theorem k_law_stepped : Keeps n_law_stepped i_law_stepped s_law_stepped := by
  rintro ds μ R E ⟨r, rfl, ⟨h1, h2, h3⟩, q⟩
  simp [n_law_stepped, i_law_stepped, Ring.d, ring_at h3]
  intro p hp
  have gone : ∀ ds es, mdel (mput (mput μ p ds) p es) p = μ := fun ds es => by rw [mdel_mput, mdel_mput, mdel_none hp]
  have w := fun rt : Bool => wrap (C := 0) (x := (r.pl + (1 : Int) * (if rt then 1 else -1))) (M := r.fl.length) (by omega)
  have ix : ixN r.fl.length (r.pl : Int) = some r.pl := by unfold ixN; simp [h3]
  simp only [mput_same, List.length_map, ix, set_bit, gone]
  cases e : r.at r.pl
  · refine ⟨_, _, _, _, rfl, by omega, by decide, rt_ok ?_⟩
    have := w r.rt
    have e0 : (((((r.pl : Int) + 1 * (if r.rt then 1 else -1)) % r.fl.length).toNat : Nat) : Int) = ((r.pl : Int) + 1 * (if r.rt then 1 else -1)) % r.fl.length := by omega
    have w0 : 0 ≤ ((r.pl : Int) + if r.rt = true then 1 else -1) % (r.fl.length : Int) := by simpa using this.1
    simp only [Ring.next, Ring.d, e, e0] at q
    simpa [Int.max_eq_left w0] using q
  · refine ⟨_, rfl, ?_⟩
    simp only [mput_same, List.length_map, ix, set_bit, gone]
    refine ⟨_, _, _, _, rfl, by omega, by decide, rt_ok ?_⟩
    have := w (!r.rt)
    have e0 : (((((r.pl : Int) + 1 * (if !r.rt then 1 else -1)) % r.fl.length).toNat : Nat) : Int) = ((r.pl : Int) + 1 * (if !r.rt then 1 else -1)) % r.fl.length := by omega
    have w0 : 0 ≤ ((r.pl : Int) + if r.rt = false then 1 else -1) % (r.fl.length : Int) := by simpa using this.1
    simp only [Ring.next, Ring.d, e, e0] at q
    simpa [Int.max_eq_left w0] using q

/-! ### the runs tell the flags -/
def begF (k : Nat) (prev : Bool) : List Bool → List Int
  | [] => []
  | b :: bs => if b && !prev then (k : Int) :: begF (k + 1) b bs else begF (k + 1) b bs
def endF (k : Nat) (prev : Bool) : List Bool → List Int
  | [] => if prev then [(k : Int)] else []
  | b :: bs => if prev && !b then (k : Int) :: endF (k + 1) b bs else endF (k + 1) b bs
theorem beg_eq (fl : List Bool) : ∀ (pre bs : List Bool), fl = pre ++ bs → (List.range' pre.length bs.length).filterMap (fun (k : Nat) => if fl[k]?.getD false && (k == 0 || !(fl[k - 1]?.getD false)) then some (k : Int) else none) = begF pre.length (pre.getLast?.getD false) bs
  | pre, [], _ => by simp [begF]
  | pre, b :: bs, h => by
    have ih := beg_eq fl (pre ++ [b]) bs (by simp [h])
    have e1 : fl[pre.length]? = some b := by rw [h]; simp
    have e2 : (pre.length == 0 || !(fl[pre.length - 1]?.getD false)) = !(pre.getLast?.getD false) := by
      rcases List.eq_nil_or_concat pre with rfl | ⟨p, x, rfl⟩
      · simp
      · rw [h]; simp
    rw [List.length_append, List.length_singleton, List.getLast?_concat] at ih
    simp only [Option.getD_some] at ih
    rw [List.length_cons, List.range'_succ, List.filterMap_cons, begF, e1, e2, Option.getD_some, ih]
    cases b <;> cases pre.getLast?.getD false <;> rfl
theorem end_eq (fl : List Bool) : ∀ (pre bs : List Bool), fl = pre ++ bs →
    (if pre.getLast?.getD false && !(bs.head?.getD false) then [(pre.length : Int)] else []) ++ (List.range' pre.length bs.length).filterMap (fun (k : Nat) => if fl[k]?.getD false && (k + 1 == fl.length || !(fl[k + 1]?.getD false)) then some ((k : Int) + 1) else none) = endF pre.length (pre.getLast?.getD false) bs
  | pre, [], _ => by simp [endF]
  | pre, b :: bs, h => by
    have ih := end_eq fl (pre ++ [b]) bs (by simp [h])
    have e1 : fl[pre.length]? = some b := by rw [h]; simp
    have e2 : (pre.length + 1 == fl.length || !(fl[pre.length + 1]?.getD false)) = !(bs.head?.getD false) := by
      cases bs with
      | nil => rw [h]; simp
      | cons c cs => rw [h]; simp
    rw [List.length_append, List.length_singleton, List.getLast?_concat] at ih
    simp only [Option.getD_some] at ih
    rw [List.length_cons, List.range'_succ, List.filterMap_cons, endF, e1, e2, Option.getD_some, ← ih]
    simp only [List.head?_cons, Option.getD_some]
    cases b <;> cases pre.getLast?.getD false <;> cases bs.head?.getD false <;> simp
theorem up_run : ∀ (bs : List Bool) (k : Nat) (x : Int), (flagUp ((begF k false bs).zip (endF k false bs)) x = (decide ((k : Int) ≤ x) && (bs[(x - k).toNat]?.getD false))) ∧
    ∀ b0 : Int, b0 < k → flagUp ((b0 :: begF k true bs).zip (endF k true bs)) x = (decide (b0 ≤ x) && decide (x < k) || (decide ((k : Int) ≤ x) && (bs[(x - k).toNat]?.getD false)))
  | [], k, x => by
    refine ⟨by simp [begF, endF, flagUp], fun b0 h => by simp [begF, endF, flagUp]⟩
  | b :: bs, k, x => by
    obtain ⟨i1, i2⟩ := up_run bs (k + 1) x
    have look : (decide ((k : Int) ≤ x) && ((b :: bs)[(x - k).toNat]?.getD false)) = (decide (x = k) && b || (decide (((k + 1 : Nat) : Int) ≤ x) && (bs[(x - ((k + 1 : Nat) : Int)).toNat]?.getD false))) := by
      rcases Int.lt_trichotomy x k with h | h | h
      · have h1 : ¬ ((k : Int) ≤ x) := by omega
        have h2 : ¬ (x = k) := by omega
        have h3 : ¬ (((k + 1 : Nat) : Int) ≤ x) := by omega
        simp only [h1, h2, h3, decide_false, Bool.false_and, Bool.or_self]
      · subst h
        have h3 : ¬ (((k + 1 : Nat) : Int) ≤ (k : Int)) := by omega
        simp [h3]
        intro z
        omega
      · have h1 : (k : Int) ≤ x := by omega
        have h2 : ¬ (x = k) := by omega
        have h3 : ((k + 1 : Nat) : Int) ≤ x := by omega
        have h4 : (x - k).toNat = (x - ((k + 1 : Nat) : Int)).toNat + 1 := by omega
        simp only [h1, h2, h3, h4, decide_false, decide_true, Bool.false_and, Bool.false_or, Bool.true_and, List.getElem?_cons_succ]
    rw [look]
    constructor
    · cases b
      · simp only [begF, endF, Bool.false_and, Bool.and_false, Bool.false_or, if_false, Bool.false_eq_true]
        exact i1
      · simp only [begF, endF, Bool.not_false, Bool.and_self, Bool.false_and, if_true, if_false, Bool.false_eq_true, Bool.and_true]
        rw [i2 k (by omega)]
        congr 1
        by_cases h : x = k
        · subst h; simp; omega
        · have : ¬ ((k : Int) ≤ x ∧ x < ((k + 1 : Nat) : Int)) := by omega
          rw [← Bool.decide_and, decide_eq_false this, decide_eq_false h]
    · intro b0 hb
      cases b
      · simp only [begF, endF, Bool.not_false, Bool.and_self, Bool.false_and, if_true, if_false, Bool.false_eq_true, Bool.and_false, Bool.false_or, List.zip_cons_cons]
        have : flagUp ((b0, (k : Int)) :: (begF (k + 1) false bs).zip (endF (k + 1) false bs)) x = (decide (b0 ≤ x) && decide (x < (k : Int)) || flagUp ((begF (k + 1) false bs).zip (endF (k + 1) false bs)) x) := rfl
        rw [this, i1]
      · simp only [begF, endF, Bool.not_true, Bool.and_false, if_false, Bool.false_eq_true, Bool.and_true]
        rw [i2 b0 (by omega), ← Bool.or_assoc]
        congr 1
        by_cases h : x = k
        · subst h
          have h1 : b0 ≤ (k : Int) := by omega
          have h2 : (k : Int) < ((k + 1 : Nat) : Int) := by omega
          simp [h1]
          omega
        · have h2 : (x < ((k + 1 : Nat) : Int)) ↔ (x < (k : Int)) := by omega
          simp only [h, h2, decide_false, Bool.or_false]
theorem runs_eq (fl : List Bool) : runs fl = (begF 0 false fl).zip (endF 0 false fl) := by
  have h1 := beg_eq fl [] fl rfl
  have h2 := end_eq fl [] fl rfl
  simp only [List.length_nil, List.getLast?_nil, Option.getD_none, Bool.false_and, if_false, Bool.false_eq_true, List.nil_append] at h1 h2
  rw [← List.range_eq_range'] at h1 h2
  unfold runs begins ends
  rw [h1, h2]
theorem runs_up (r : Ring) {x : Int} (h : 0 ≤ x) : flagUp (runs r.fl) x = r.at x := by
  rw [runs_eq, (up_run r.fl 0 x).1]
  simp [Ring.at, h]
theorem ring_on (r : Ring) : placeOn r.fl.length r.pl r.rt (-1) = r.on r.rt (-1) := by
  unfold placeOn Ring.on
  cases r.rt <;> simp <;> congr 1 <;> omega
theorem ring_hd (r : Ring) (h : r.ok) : r.st.hd = r.hd := by
  have w := wrap (C := 0) (x := (r.pl + (-1 : Int) * (if r.rt then 1 else -1))) (M := r.fl.length) (by have := h.1; omega)
  have w1 : 0 ≤ r.on r.rt (-1) := w.1
  unfold St4.hd Ring.hd
  simp only [Ring.st, ring_on, runs_up r w1, runs_up r (x := r.pl) (by omega)]
theorem runs_len (fl : List Bool) : (runs fl).length ≤ fl.length := by
  unfold runs
  rw [List.length_zip]
  refine Nat.le_trans (Nat.min_le_left _ _) ?_
  unfold begins
  refine Nat.le_trans (List.length_filterMap_le _ _) (by simp)
theorem ring_stok {r : Ring} (h : r.ok) : r.st.ok := ⟨by have := h.1; show (0 : Int) < r.fl.length; omega, by have := runs_len r.fl; have := h.2.1; show (runs r.fl).length < sz; unfold sz; omega⟩
theorem ring_next {r : Ring} (h : r.ok) : r.next.ok := by
  obtain ⟨h1, h2, h3⟩ := h
  have w := wrap (C := 0) (x := (r.pl + (1 : Int) * (if (if r.at r.pl then !r.rt else r.rt) then 1 else -1))) (M := r.fl.length) (by omega)
  refine ⟨by simp [Ring.next]; omega, by simp [Ring.next]; omega, ?_⟩
  simp only [Ring.next, List.length_set]
  omega
theorem fit_side {h : Nat} (r : Bool) : Fit h 200 (side r) := by
  cases r <;> exact Fit.str (by decide +kernel) (by decide +kernel) (by decide +kernel)
theorem fit_pair {p : Int × Int} {h : Nat} (h1 : p.1.natAbs < 10 ^ 60) (h2 : p.2.natAbs < 10 ^ 60) : Fit (h + 1) 402 (pairD p) := .tup (.cons (.int h1) (.cons (.int h2) (.nil (n := 0) (k := 0))))
theorem beg_small {fl : List Bool} {x : Int} (h : x ∈ begins fl) : 0 ≤ x ∧ x ≤ fl.length := by
  obtain ⟨k, hk, e⟩ := List.mem_filterMap.mp h
  have := List.mem_range.mp hk
  split at e <;> cases e
  omega
theorem end_small {fl : List Bool} {x : Int} (h : x ∈ ends fl) : 0 ≤ x ∧ x ≤ fl.length := by
  obtain ⟨k, hk, e⟩ := List.mem_filterMap.mp h
  have := List.mem_range.mp hk
  split at e <;> cases e
  omega
theorem fit_st {r : Ring} (h : r.ok) (hl : r.fl.length ≤ 200) : Fit 3 200000 r.st.d := by
  have hp : ∀ d ∈ r.st.ps.map pairD, Fit 1 402 d := fun d hd => by
    obtain ⟨p, hp, rfl⟩ := List.mem_map.mp hd
    have q : (p.1, p.2) ∈ (begins r.fl).zip (ends r.fl) := hp
    have a := beg_small (List.of_mem_zip q).1
    have b := end_small (List.of_mem_zip q).2
    have t : (200 : Nat) < 10 ^ 60 := by decide
    exact fit_pair (by omega) (by omega)
  have hq : (r.st.ps.map pairD).length ≤ 200 := by rw [List.length_map]; exact Nat.le_trans (runs_len r.fl) hl
  have f : Fit 2 80600 (pairsD r.st.ps) := (Fit.tup (FitL.all hp)).mono (by decide) (by omega)
  have t : (200 : Nat) < 10 ^ 60 := by decide
  have h3 := h.2.2
  refine (Fit.tup (.cons (.int ?_) (.cons f (.cons (.int ?_) (.cons (fit_side _) (.nil (n := 0) (k := 0))))))).mono (by decide) (by decide)
  · show ((r.fl.length : Int)).natAbs < _
    omega
  · show ((r.pl : Int)).natAbs < _
    omega
theorem hd_small {r : Ring} (h : r.ok) : r.hd.2.1.natAbs ≤ 1000 ∧ r.hd.2.2.natAbs ≤ 2 := by
  have w := wrap (C := 0) (x := (r.pl + (-1 : Int) * (if r.rt then 1 else -1))) (M := r.fl.length) (by have := h.1; omega)
  have w1 : 0 ≤ r.on r.rt (-1) ∧ r.on r.rt (-1) < r.fl.length := w
  have := h.2.1
  have := h.2.2
  unfold Ring.hd
  split
  · simp; omega
  · split
    · simp; omega
    · simp; omega
theorem fit_hd {r : Ring} (h : r.ok) : Fit 1 1000 (hdD r.hd) := by
  have s := hd_small h
  have t : (1000 : Nat) < 10 ^ 60 := by decide
  exact (Fit.lst (h := 0) (.cons (fit_side _) (.cons (.int (by omega)) (.cons (.int (by omega)) (.nil (n := 0) (k := 0)))))).mono (by decide) (by decide)
theorem next_len {r : Ring} : r.next.fl.length = r.fl.length := by simp [Ring.next]
theorem up1 {p n : Int} (h0 : 0 ≤ p) (h : p < n) : (p + 1) % n = if p + 1 = n then 0 else p + 1 := by
  split
  · rename_i e; rw [e]; exact Int.emod_self
  · exact Int.emod_eq_of_lt (by omega) (by omega)
theorem dn1 {p n : Int} (h0 : 0 ≤ p) (h : p < n) : (p - 1) % n = if p = 0 then n - 1 else p - 1 := by
  split
  · rename_i e
    rw [e, show (0 : Int) - 1 = (n - 1) + n * (-1) by omega, Int.add_mul_emod_self_left]
    exact Int.emod_eq_of_lt (by omega) (by omega)
  · exact Int.emod_eq_of_lt (by omega) (by omega)
theorem next_at {r : Ring} (h : r.ok) {x : Int} (h0 : 0 ≤ x) : r.next.at x = if x = r.pl then !r.at r.pl else r.at x := by
  have h3 := h.2.2
  unfold Ring.next
  simp only [Ring.at]
  rw [List.getElem?_set]
  by_cases e : x = r.pl
  · subst e
    simp [h3]
  · have : ¬ (r.pl = x.toNat) := by omega
    simp [e, this]
theorem dir_on (r : Ring) (rt : Bool) (m : Int) : r.on rt m = if rt then (r.pl + m) % r.fl.length else (r.pl - m) % r.fl.length := by
  unfold Ring.on
  cases rt <;> simp <;> congr 1
theorem next_pl {r : Ring} (h : r.ok) : (r.next.pl : Int) = r.on r.next.rt 1 := by
  have w := wrap (C := 0) (x := (r.pl + (1 : Int) * (if (if r.at r.pl then !r.rt else r.rt) then 1 else -1))) (M := r.fl.length) (by have := h.1; omega)
  exact Int.toNat_of_nonneg w.1
theorem next_behind {r : Ring} (h : r.ok) : r.next.on r.next.rt (-1) = r.pl := by
  have h1 := h.1
  have h3 := h.2.2
  have e := next_pl h
  rw [dir_on] at e ⊢
  rw [next_len]
  cases q : r.next.rt
  · simp only [q, if_false, Bool.false_eq_true] at e ⊢
    rw [e, Int.sub_neg, dn1 (by omega) (by omega)]
    split
    · rw [up1 (by omega) (by omega)]; split <;> omega
    · rw [up1 (by omega) (by omega)]; split <;> omega
  · simp only [q, if_true] at e ⊢
    rw [e, show ((r.pl : Int) + 1) % r.fl.length + -1 = ((r.pl : Int) + 1) % r.fl.length - 1 by omega, up1 (by omega) (by omega)]
    split
    · rw [dn1 (by omega) (by omega)]; split <;> omega
    · rw [dn1 (by omega) (by omega)]; split <;> omega
theorem next_turned {r : Ring} (h : r.ok) (c : r.at r.pl = true) : (r.next.pl : Int) = r.on r.rt (-1) ∧ r.on r.rt (-1) ≠ r.pl ∧ r.next.rt = !r.rt := by
  have h1 := h.1
  have h3 := h.2.2
  have e := next_pl h
  have t : r.next.rt = !r.rt := by simp [Ring.next, c]
  rw [t, dir_on] at e
  rw [dir_on, e]
  refine ⟨?_, ?_, t⟩
  · cases r.rt <;> simp <;> congr 1
  · cases r.rt
    · simp only [if_false, Bool.false_eq_true, Int.sub_neg]
      rw [up1 (by omega) (by omega)]; split <;> omega
    · simp only [if_true]
      rw [show (r.pl : Int) + -1 = r.pl - 1 by omega, dn1 (by omega) (by omega)]; split <;> omega
theorem next_way {r : Ring} (h : r.ok) : r.next.hd.1 = r.hd.1 := by
  have h1 := h.1
  have h3 := h.2.2
  have w := wrap (C := 0) (x := (r.pl + (-1 : Int) * (if r.rt then 1 else -1))) (M := r.fl.length) (by omega)
  have w0 : 0 ≤ r.on r.rt (-1) := w.1
  unfold Ring.hd
  rw [next_behind h, next_at h (by omega), if_pos rfl]
  cases c : r.at r.pl
  · have t : r.next.rt = r.rt := by simp [Ring.next, c]
    simp [t]
    split <;> rfl
  · obtain ⟨a, b, t⟩ := next_turned h c
    rw [a, next_at h w0, if_neg b]
    cases r.at (r.on r.rt (-1)) <;> simp [t]

/-! ### the law's rings as rings -/
theorem norm_run : ∀ (bs : List Bool) (k : Nat) (lo n : Int), k + bs.length = n → (lo ≤ k → Norm lo n ((begF k false bs).zip (endF k false bs))) ∧ ∀ b0 : Int, b0 < k → lo ≤ b0 → Norm lo n ((b0 :: begF k true bs).zip (endF k true bs))
  | [], k, lo, n, h => by
    simp at h
    refine ⟨fun _ => by simp [begF, endF, Norm], fun b0 h1 h2 => ?_⟩
    simp [begF, endF, Norm]
    omega
  | b :: bs, k, lo, n, h => by
    rw [List.length_cons] at h
    have i1 := fun lo => (norm_run bs (k + 1) lo n (by omega)).1
    have i2 := fun lo => (norm_run bs (k + 1) lo n (by omega)).2
    constructor
    · intro hl
      cases b
      · simp only [begF, endF, Bool.false_and, Bool.and_false, if_false, Bool.false_eq_true]
        exact i1 lo (by omega)
      · simp only [begF, endF, Bool.not_false, Bool.and_self, Bool.false_and, if_true, if_false, Bool.false_eq_true]
        exact i2 lo k (by omega) hl
    · intro b0 h1 h2
      cases b
      · simp only [begF, endF, Bool.not_false, Bool.and_self, Bool.false_and, if_true, if_false, Bool.false_eq_true, List.zip_cons_cons]
        exact ⟨h2, h1, by simp only; omega, i1 _ (by omega)⟩
      · simp only [begF, endF, Bool.not_true, Bool.and_false, if_false, Bool.false_eq_true]
        exact i2 lo b0 (by omega) h2
def Ring.rg (r : Ring) : Rg := ⟨r.fl.length, fun x => r.at (x % r.fl.length), r.pl, r.rt⟩
theorem rg_ok {r : Ring} (h : r.ok) : r.rg.ok := by
  obtain ⟨h1, h2, h3⟩ := h
  refine ⟨h1, by show (0 : Int) ≤ r.pl; omega, by show (r.pl : Int) < r.fl.length; omega, fun x => ?_⟩
  show r.at _ = r.at _
  congr 1
  show (x + (r.fl.length : Int)) % r.fl.length = _
  simp
theorem rg_tab (r : Ring) : tab r.rg.n r.rg.up = r.fl := by
  refine (tab_of rfl fun i hi => ?_).symm
  show _ = some (r.at (i % r.fl.length))
  have hi : i < r.fl.length := hi
  rw [Int.emod_eq_of_lt (by omega) (by omega), at_nat]
  simp [hi]
theorem runs_prs' (fl : List Bool) : runs fl = prs fl := by
  have n1 : Norm 0 fl.length (runs fl) := by
    rw [runs_eq]
    exact (norm_run fl 0 0 fl.length (by simp)).1 (by simp)
  refine Norm.uniq n1 (norm_prs fl) fun x h0 _ => ?_
  have := runs_up ⟨fl, 0, true⟩ (x := x) h0
  simp only at this
  rw [this, up_prs]
  simp [Ring.at, h0]
theorem rg_st {r : Ring} : r.st = r.rg.st := by
  show (⟨_, _, _, _⟩ : St4) = ⟨_, _, _, _⟩
  rw [rg_tab, runs_prs']
  rfl
theorem rg_hd {r : Ring} (h : r.ok) : r.rg.hd = r.hd := by rw [← st_hd (rg_ok h), ← rg_st, ring_hd r h]
theorem rg_next {r : Ring} (h : r.ok) : r.next.rg = r.rg.next := by
  have k := rg_ok h
  have e0 : r.rg.up r.rg.pl = r.at r.pl := by
    show r.at (r.pl % r.fl.length) = _
    rw [Int.emod_eq_of_lt (by omega) (by have := h.2.2; omega)]
  refine Rg.ext (by simp [Ring.rg, Ring.next, Rg.next]) (Per.ext (n := r.fl.length) (by have := h.1; omega) ?_ (Rg.next_ok k).per fun x h0 h1 => ?_) ?_ ?_
  · have := (rg_ok (ring_next h)).per
    intro x
    have := this x
    simpa [Ring.rg, Ring.next] using this
  · show r.next.at (x % r.next.fl.length) = if (x - r.rg.pl) % r.rg.n = 0 then !r.rg.up x else r.rg.up x
    have eu : r.rg.up x = r.at x := by
      show r.at (x % r.fl.length) = _
      rw [Int.emod_eq_of_lt h0 h1]
    rw [next_len, Int.emod_eq_of_lt h0 h1, next_at h h0, eu]
    show _ = if (x - r.pl) % (r.fl.length : Int) = 0 then _ else _
    have h3 := h.2.2
    by_cases e : x = r.pl
    · subst e; simp
    · rw [if_neg e, if_neg]
      rw [md_near (by omega) (by omega)]
      split <;> omega
  · show (r.next.pl : Int) = (r.rg.pl + sg (if r.rg.up r.rg.pl then !r.rg.rt else r.rg.rt)) % r.rg.n
    rw [next_pl h, e0]
    show (r.pl + (1 : Int) * (if r.next.rt then 1 else -1)) % r.fl.length = _
    congr 1
    show r.pl + (1 : Int) * (if r.next.rt then 1 else -1) = r.pl + sg (if r.at r.pl then !r.rt else r.rt)
    have : r.next.rt = if r.at r.pl then !r.rt else r.rt := rfl
    rw [← this]
    unfold sg
    omega
  · show r.next.rt = if r.rg.up r.rg.pl then !r.rg.rt else r.rg.rt
    rw [e0]
    rfl
theorem rg_fit {r : Ring} (h : r.ok) : r.rg.fit := Rg.fit_of (rg_ok h) (by have := h.2.1; show r.fl.length ≤ _; omega) (by rw [rg_tab]; have := nr_le r.fl; have := h.2.1; omega)
theorem rg_tx {r : Ring} (h : r.ok) (m : Nat) (hm : r.fl.length ≤ m) : Tx 3 (m * 131 + 150) r.rg.st.d := Tx.st (rg_ok h) (rg_fit h).big (by rw [rg_tab]; exact Nat.le_trans (nr_le _) hm)
end Tf

set_option Elab.async false
set_option linter.all false
set_option maxRecDepth 100000
set_option maxHeartbeats 1000000
namespace Tf
open PySem PySem.Spec PyProof.Rows L2
/-! ### any ring -/
@[simp] theorem seq_st {s : St4} : seqD s.d = some [.int s.n, pairsD s.ps, .int s.pl, side s.rt] := rfl
@[simp] theorem st_n {r : Rg} : r.st.n = r.n := rfl
/-- rings as the laws draw them: few stretches -/
structure Rg.law (r : Rg) : Prop where
  fit : r.fit
  big : r.n ≤ 10 ^ 12
  few : nr (tab r.n r.up) ≤ 200
def s_law_any : Spec := fun ds μ R _ => ∃ p q n, ds = [.ref p] ∧ Deck p q n μ ∧ n < 2 ^ 29 ∧ ∀ (r : Rg) n' μ', r.law → n' ≤ n + 20000 → Deck p q n' μ' → R r.st.d μ'
def n_law_any : List Str := ["_law_deck_here", "_law_word_here", "_law_spot", "_law_side", "_law_phase"]
def i_law_any : List IS := [.ite (.cmp .eq (.call "_law_draw" s_law_draw [.var 0, .cst (.int 2)]) (.cst (.int 0))) [.ret (.call "_law_state" s_law_state [.call "_law_ring" s_law_ring [.var 0, .cst (.int 12)]])] [], .asg (.tp [.nm 1, .nm 2, .nm 3, .nm 4]) (.call "_law_drawn" s_law_drawn [.var 0]), .ret (.call "_law_faraway" s_law_faraway [.var 1, .var 2, .var 3, .var 4])]
theorem bits_nr {w : Wd} (ok : w.ok) : nr w.bits ≤ 41 := by
  unfold nr
  rw [bits_rle ok, altR_len]
  exact ok.2.2.1
theorem a_tab {w : Wd} (ok : w.ok) : tab (w.n.toNat - 1) w.a = w.bits := by
  have bl := bits_len ok
  have n1 := wd_n ok
  refine (tab_of (by omega) fun i hi => ?_).symm
  unfold Wd.a
  rw [extW_at (by omega) (by omega)]
  simp
  rw [List.getElem?_eq_getElem (by omega)]
  rfl
theorem wd_law {w : Wd} (ok : w.ok) {spot ph : Int} {r : Bool} (s0 : 0 ≤ spot) (s1 : spot < w.n) (p0 : 0 ≤ ph) (p2 : ph ≤ 2) (hu : 0 < ph → w.up = 1) : (w.cf spot ph r).ring.law := by
  have k := wd_cf_ok (r := r) ok s0 s1 p0 p2 hu
  have n1 := wd_n ok
  have n2 := ok.2.2.2.2
  have hn : w.n = w.ls.sum + 1 := rfl
  have b := nr_ring k
  have e : tab ((w.cf spot ph r).n - 1) (w.cf spot ph r).a = w.bits := a_tab ok
  rw [e] at b
  have c := bits_nr ok
  have d : nr (tab (w.cf spot ph r).ring.n (w.cf spot ph r).ring.up) ≤ 200 := by
    have : nr (tab (w.cf spot ph r).n (w.cf spot ph r).ring.up) ≤ 200 := by omega
    exact this
  have big : (w.cf spot ph r).ring.n ≤ 10 ^ 12 := by show w.n.toNat ≤ 10 ^ 12; omega
  exact ⟨Rg.fit_of (Cf.ring_ok k) (by omega) (by omega), big, d⟩
theorem far_st {w : Wd} (ok : w.ok) {spot ph : Int} {r : Bool} (s0 : 0 ≤ spot) (s1 : spot < w.n) (p0 : 0 ≤ ph) (p2 : ph ≤ 2) (hu : 0 < ph → w.up = 1) {ms : List (Int × Int)} (hp : ms.Perm (partsOf w.n (w.str spot r ph))) (hs : ms.Pairwise lexLe) :
    (⟨w.n, joinOn [] ms, if ph = 1 then (spot + (-1) * (if r then 1 else -1)) % w.n else spot, if ph = 1 then !r else r⟩ : St4) = (w.cf spot ph r).ring.st := by
  have n1 := wd_n ok
  have hn : w.n = w.ls.sum + 1 := rfl
  have en : ((w.n.toNat : Nat) : Int) = w.n := by omega
  rw [far_ring ok s0 s1 p0 p2 hu hp hs]
  show _ = (⟨(w.n.toNat : Int), _, if ph = 1 then (spot - sg r) % (w.n.toNat : Int) else spot, if ph = 1 then !r else r⟩ : St4)
  rw [en]
  have : spot + (-1) * (if r then 1 else -1) = spot - sg r := by cases r <;> simp [sg] <;> omega
  rw [this]
  rfl
theorem rg_law {r : Ring} (h : r.ok) (hl : r.fl.length ≤ 200) : r.rg.law := ⟨rg_fit h, by show r.fl.length ≤ _; omega, by rw [rg_tab]; have := nr_le r.fl; omega⟩
theorem k_law_any : Keeps n_law_any i_law_any s_law_any := by
  rintro ds μ R E ⟨p, q, n, rfl, dk, hn, qq⟩
  simp [n_law_any, i_law_any]
  refine ⟨p, q, n, _, rfl, dk, by omega, by decide, by decide, fun x μ1 a1 b1 dk1 _ => ?_⟩
  simp
  by_cases h0 : x = 0
  · simp [h0]
    refine ⟨p, q, _, _, rfl, dk1, by omega, by decide, by decide, fun r n' μ2 rk hl hn' dk2 _ => ?_⟩
    refine ⟨r, rfl, rk, ?_⟩
    rw [rg_st]
    exact rt_ok (qq _ _ _ (rg_law rk (by omega)) (by omega) dk2)
  · simp [h0]
    refine ⟨p, q, _, rfl, dk1, by omega, fun w spot r ph n' μ2 ok hu s0 s1 p0 p2 hn' dk2 => ?_⟩
    simp
    refine ⟨w, spot, r, ph, rfl, ok, fun ms hp hs => ?_⟩
    rw [far_st ok s0 s1 p0 p2 hu hp hs]
    exact rt_ok (qq _ _ _ (wd_law ok s0 s1 p0 p2 hu) (by omega) dk2)
end Tf

set_option Elab.async false
set_option linter.all false
set_option maxRecDepth 100000
set_option maxHeartbeats 4000000
/-! Tf, ops 8: a list that changed no more is settled ahead of a statement. -/
namespace Tf
open PySem PySem.Spec PyProof.Rows L2
theorem execs_one (t : Stmt) (env : Env) : execs [t] env = exec t env := by
  have e : execs [t] env = (exec t env >>= pure) := by
    conv => lhs; unfold execs
    refine bind_congr fun f => ?_
    cases f <;> simp [execs]
  rw [e, bind_pure]
theorem ps_of_pss {X : Cx} {st : Stmt} {t : TS} (h : PSs X [st] t) : PS X st t := ⟨fun pins s σ H D I w => by
  have := h.run pins s σ H D I w
  rwa [execs_one] at this⟩
theorem look_get2 : ∀ {δ : DE} {i : Nat} {d : D}, look δ i = some d → δ[i]? = some (some d)
  | [], _, _, h => by cases h
  | x :: xs, 0, d, h => by cases x <;> simp [look] at h ⊢; exact h
  | x :: xs, n + 1, d, h => by
    have := look_get2 (δ := xs) (i := n) (d := d) (by simpa [look] using h)
    simpa using this
theorem RelE.stl {K : PySem.W.Frag} {G : Hp} {δ : DE} {σ : L2.St} {i : Nat} {p : Addr} {d : D} (r : RelE K G δ σ) (e : look δ i = some (.ref p)) (h : Rep K G d (.ref p)) : RelE K G (Tf.put δ i (some d)) σ := by
  have hp : ∀ (δ : DE) (i : Nat) (d : Option D), Tf.put δ i d = δ.set i d := fun δ => by
    induction δ with
    | nil => intro i d; rfl
    | cons x xs ih =>
      intro i d
      cases i with
      | zero => rfl
      | succ n => show x :: Tf.put xs n d = _; rw [ih]; rfl
  rw [hp]
  refine ⟨fun j x hj => ?_, by simp [r.len]⟩
  by_cases hi : i = j
  · subst hi
    obtain ⟨v, h1, h2⟩ := r.at_ i _ (look_get2 e)
    cases h2
    have hl : i < δ.length := (List.getElem?_eq_some_iff.mp (look_get2 e)).1
    rw [List.getElem?_set_self hl] at hj
    cases hj
    exact ⟨_, h1, h⟩
  · rw [List.getElem?_set_ne hi] at hj
    exact r.at_ j x hj
/-- what stands at i changes no more -/
def stl (i : Nat) : XoS where
  chk := fun _ t => some ([], [[t]])
  w := fun _ wbs δ μ N => match wbs, look δ i with
    | [wb], some (.ref p) => match μ p with
      | some ds => wb (Tf.put δ i (some (.lst ds))) (mdel μ p) N
      | none => False
    | _, _ => False
@[simp] theorem stl_ok (i : Nat) : (stl i).Ok := by
  intro c X W st us sts wes wbs ok h he hb
  simp only [stl] at h
  cases h
  cases hb with
  | cons hb1 hb2 =>
    cases hb2
    refine PS_imp (ps_of_pss (hb1 X W (Near.refl X) ok)) fun D σ H h => ?_
    obtain ⟨δ, G, μ, Φ, N, hE, hR, hw, en⟩ := h
    simp only [stl] at hw
    split at hw
    · rename_i wb p e1 e2
      cases e1
      split at hw
      · rename_i ds e3
        obtain ⟨G', s, R', rp⟩ := hR.settle e3
        exact ⟨_, G', _, Φ, N, (hE.mono s).stl e2 rp, R', hw, en.mono s⟩
      · exact hw.elim
    · exact hw.elim
end Tf

set_option Elab.async false
set_option linter.all false
set_option maxRecDepth 100000
set_option maxHeartbeats 4000000
/-! Tf, ops 1: every second item of a list. -/
namespace Tf
open PySem PySem.Spec PyProof.Rows L2
/-- the first item, the third one, .. -/
def evs {α : Type} : List α → List α
  | [] => []
  | [x] => [x]
  | x :: _ :: r => x :: evs r
theorem evs_len {α : Type} : ∀ l : List α, (evs l).length = (l.length + 1) / 2
  | [] => by simp [evs]
  | [_] => by simp [evs]
  | _ :: _ :: r => by have := evs_len r; simp [evs, this]; omega
theorem evs_at {α : Type} : ∀ (l : List α) (i : Nat), (evs l)[i]? = l[2 * i]?
  | [], i => by simp [evs]
  | [_], 0 => by simp [evs]
  | [_], i + 1 => by simp [evs]
  | _ :: _ :: _, 0 => by simp [evs]
  | _ :: _ :: r, i + 1 => by
    have := evs_at r i
    have e : 2 * (i + 1) = 2 * i + 1 + 1 := by omega
    rw [e]
    simpa [evs] using this
theorem evs_sub {α : Type} : ∀ (l : List α) (x : α), x ∈ evs l → x ∈ l
  | [], _, h => h
  | [_], _, h => h
  | a :: b :: r, x, h => by
    rcases List.mem_cons.mp h with rfl | h
    · exact List.mem_cons_self
    · exact List.mem_cons_of_mem _ (List.mem_cons_of_mem _ (evs_sub r x h))
theorem pick_is {α : Type} (l' : List α) (f : Nat → Option α) (n : Nat) (hl : l'.length = n) (h : ∀ k, k < n → f k = l'[k]?) : (List.range n).filterMap f = l' := by
  have a := PySem.W.krv_all l'.toArray
  have : (List.range l'.toArray.size).filterMap (l'.toArray[·]?) = (List.range n).filterMap f := by
    rw [List.size_toArray, hl]
    have go : ∀ ks : List Nat, (∀ k ∈ ks, k < n) → ks.filterMap (l'.toArray[·]?) = ks.filterMap f := fun ks => by
      induction ks with
      | nil => intro _; rfl
      | cons k ks ih =>
        intro hk
        have e : l'.toArray[k]? = f k := by rw [h k (hk k (by simp))]; simp
        rw [List.filterMap_cons, List.filterMap_cons, e, ih fun j hj => hk j (by simp [hj])]
    exact go _ fun k hk => List.mem_range.mp hk
  rw [← this, a]
theorem sl2_pick (its : Array Value) (lo : Option Int) (a : Nat) (b : sliceBounds lo none (some 2) its.size = (((min a its.size : Nat) : Int), (its.size : Int), 2)) : slicePick its lo none (some 2) = (evs (its.toList.drop a)).toArray := by
  unfold slicePick
  rw [b]
  show ((sliceRange ((min a its.size : Nat) : Int) (its.size : Int) 2).filterMap (its[·]?)).toArray = _
  congr 1
  have e : sliceRange ((min a its.size : Nat) : Int) (its.size : Int) 2 = (List.range ((its.size - a + 1) / 2)).map fun k => a + 2 * k := by
    unfold sliceRange
    by_cases c : a < its.size
    · have c1 : ((min a its.size : Nat) : Int) < its.size := by omega
      have e1 : (((its.size : Int) - ((min a its.size : Nat) : Int) + 2 - 1) / 2).toNat = (its.size - a + 1) / 2 := by omega
      simp only [show (2 : Int) > 0 by decide, if_true, c1, e1]
      refine List.map_congr_left fun k _ => ?_
      omega
    · have c1 : ¬ ((min a its.size : Nat) : Int) < its.size := by omega
      have e1 : (its.size - a + 1) / 2 = 0 := by omega
      simp only [show (2 : Int) > 0 by decide, if_true, c1, if_false, e1]
      rfl
  rw [e, List.filterMap_map]
  refine pick_is _ _ _ (by rw [evs_len, List.length_drop, Array.length_toList]) fun k hk => ?_
  rw [evs_at, List.getElem?_drop]
  simp
section
variable {X : Cx}
def tSl2 (K : PySem.W.Frag) (te : TE) (a : Nat) : TE := fun σ H Q => te σ H fun x H1 => ∃ p xs, x = .ref p ∧ SqL K H1 p xs ∧ ∀ q, H1 q = none → Q (.ref q) (upd H1 q (.lst (evs (xs.drop a))))
theorem pe_sl2 {e : Expr} {te : TE} {lo : Option Expr} {kl : Option Int} {a : Nat} {k : Nat} {p1 p3 pos : Pos} (he : PE X e te) (hlo : PO X lo fun σ H Q => Q kl H) (hb : ∀ n : Nat, sliceBounds kl none (some 2) n = (((min a n : Nat) : Int), (n : Int), 2)) :
    PE X (.Subscript e (.Slice lo none (some (.Constant (.int 2) k p1)) p3) pos) (tSl2 X.K te a) := by
  have h2 : PO X (some (.Constant (.int 2) k p1)) fun σ H Q => Q (some 2) H := PO_imp (po_some pe_int) fun σ H Q h => ⟨2, rfl, h⟩
  constructor
  intro pins s σ H Q I h
  refine Subscript_ (thn (he.run pins s σ H _ I h) fun v s1 hv => ?_)
  obtain ⟨x, H1, I1, r1, p, xs, rfl, hx, q⟩ := hv
  cases r1
  refine wpAny_Slice (thn (hlo.run pins s1 σ H1 (fun o Hx => o = kl ∧ Hx = H1) I1 ⟨rfl, rfl⟩) fun vl s2 hl => ?_)
  obtain ⟨_, _, I2, pl, rfl, rfl⟩ := hl
  refine thn (po_none.run pins s2 σ _ (fun o Hx => o = none ∧ Hx = _) I2 ⟨rfl, rfl⟩) fun vu s3 hu => ?_
  obtain ⟨_, _, I3, pu, rfl, rfl⟩ := hu
  refine thn (h2.run pins s3 σ _ (fun o Hx => o = some 2 ∧ Hx = _) I3 ⟨rfl, rfl⟩) fun vs s4 hs => ?_
  obtain ⟨_, _, I4, ps, rfl, rfl⟩ := hs
  have I5 := I4.kept (t' := s4.toks) (h' := s4.heap.push { cls := .type "slice", data := .fields #[vl, vu, vs] }) fun b ob q => Heap.get?_push_of_some _ q
  obtain ⟨its, r, ht, hz⟩ := I5.list hx
  have hlen := r.length
  refine tail_any (ops := [.ref p, .ref s4.heap.objs.size]) ht.isList.typeIs (PySem.slot_list_getitem.lookup) ?_ (by with_unfolding_all rfl)
  refine wpAny_getItem_list_slice ht.isList (Heap.IsSliceOf.new _ vl vu vs) pl pu ps (by decide) ?_ (by rw [List.size_toArray]; omega)
  rw [sl2_pick its.toArray _ a (hb _)]
  have rr : ∀ {ys : List V} {us : List Value}, Vals ys us → Vals (evs ys) (evs us) := fun {ys} => by
    induction ys using evs.induct with
    | case1 => intro us h; cases h; exact .nil
    | case2 x => intro us h; cases h with | cons a b => cases b; exact .cons a .nil
    | case3 x y r ih => intro us h; cases h with | cons a b => cases b with | cons b c => exact .cons a (ih c)
  have rd : ∀ {ys : List V} {us : List Value} (n : Nat), Vals ys us → Vals (ys.drop n) (us.drop n) := fun {ys} => by
    induction ys with
    | nil => intro us n h; cases h; simp; exact .nil
    | cons y ys ih =>
      intro us n h
      cases h with
      | cons a b =>
        cases n with
        | zero => exact .cons a b
        | succ n => exact ih n b
  refine ⟨.ref _, _, I5.laid (t' := s4.toks) (o := .lst (evs (xs.drop a))) (fun b ob q => Heap.get?_push_of_some _ q) (Nat.le_refl _) ?_, rfl, q _ (I5.hok.fresh (Nat.le_refl _))⟩
  refine ⟨?_, _, 0, rr (rd a r), Heap.get?_push_size _ rfl⟩
  rw [evs_len, List.length_drop]
  omega
end
/-- xs[::2], xs[1::2] -/
def sl2 (odd : Bool) : Xo1 where
  chk := fun _ e => match e with
    | .Subscript u (.Slice none none (some (.Constant (.int k) _ _)) _) _ => if odd = false ∧ k = 2 then some u else none
    | .Subscript u (.Slice (some (.Constant (.int j) _ _)) none (some (.Constant (.int k) _ _)) _) _ => if odd = true ∧ j = 1 ∧ k = 2 then some u else none
    | _ => none
  w := fun x μ _ Q => match vw μ x with
    | .lst ds => Q (.lst (evs (ds.drop (if odd then 1 else 0)))) μ
    | _ => False
theorem RepL.evs {K : PySem.W.Frag} {G : Hp} : ∀ {ds : List D} {vs : List V}, RepL K G ds vs → RepL K G (evs ds) (evs vs) := fun {ds} => by
  induction ds using Tf.evs.induct with
  | case1 => intro us h; cases h; exact .nil
  | case2 x => intro us h; cases h with | cons a b => cases b; exact .cons a .nil
  | case3 x y r ih => intro us h; cases h with | cons a b => cases b with | cons b c => exact .cons a (ih c)
@[simp] theorem sl2_ok (odd : Bool) : (sl2 odd).Ok := by
  intro c X W e u wa ok h ha
  have key : ∃ lo k p1 p3 pos kl, e = .Subscript u (.Slice lo none (some (.Constant (.int 2) k p1)) p3) pos ∧ PO X lo (fun σ H Q => Q kl H) ∧ ∀ n : Nat, sliceBounds kl none (some 2) n = (((min (if odd then 1 else 0) n : Nat) : Int), (n : Int), 2) := by
    simp only [sl2] at h
    split at h
    · split at h
      · rename_i z
        obtain ⟨rfl, rfl⟩ := z
        cases h
        refine ⟨_, _, _, _, _, none, rfl, po_none, fun n => ?_⟩
        simp [sliceBounds]
      · cases h
    · split at h
      · rename_i z
        obtain ⟨rfl, rfl, rfl⟩ := z
        cases h
        refine ⟨_, _, _, _, _, some 1, rfl, PO_imp (po_some pe_int) fun σ H Q h => ⟨1, rfl, h⟩, fun n => ?_⟩
        simp [sliceBounds]
        omega
      · cases h
    · cases h
  obtain ⟨lo, k, p1, p3, pos, kl, rfl, hlo, hb⟩ := key
  refine PE_imp (pe_sl2 ha hlo hb) fun σ H Q h => ?_
  obtain ⟨δ, G, μ, Φ, E, R, hE, hR, hw, ha, hx⟩ := h
  refine ⟨δ, G, μ, Φ, E, _, hE, hR, hw, fun x μ1 G1 H1 v q1 s1 R1 p1 => ?_, hx⟩
  have vv := R1.look p1
  simp only [sl2] at q1
  split at q1
  · rename_i ds e
    rw [e] at vv
    cases vv with | lst s q => exact ⟨_, _, rfl, .inl (.inl s), (Aft.mono ha s1).lst R1 q1 (q.drop _).evs⟩
  · exact q1.elim
end Tf

set_option Elab.async false
set_option linter.all false
set_option maxRecDepth 100000
set_option maxHeartbeats 4000000
/-! Tf, ops 2: sorted(set(list of ints)). -/
namespace TfSet
open PySem PySem.Spec PyProof.Rows L2
/-- an empty set as a run makes it -/
abbrev ob0 (w : World) : Obj := { cls := .type "set", dict := none, data := .set #[] 0 (.fresh 0 0 (!w.params.followText "set-order")) }
variable {P : Program} {w : World} {A : Around} {E : Value → Shared → Prop} {s : Shared}
theorem set_lst {l : Addr} {vs : Array Value} (zs : List Int) {Q : Value → Shared → Prop} (noH : A.handled = none) (isl : s.heap.IsList l vs) (isI : IntsAre vs.toList zs) (few : zs.length + 1 < scanBound)
    (done : ∀ (hp : Heap) (t c : Nat), SetR w hp s.heap.objs.size (fun j => decide (j ∈ zs)) c → c ≤ zs.length → (∀ b o, s.heap.get? b = some o → hp.get? b = some o) → Q (.ref s.heap.objs.size) { s with heap := hp, toks := t }) :
    wpAny (model P w) A (call (.type "set") [.ref l]) Q E s := by
  have nv : vs.size = zs.length := by have z := IntsAre.length isI; rwa [Array.length_toList] at z
  have k1 := F.called_set.made; have k2 := F.called_set.sub; have k3 := F.called_set.notType; have k4 := F.called_set.canCreate; have k5 := F.typeCall_set_1 (.ref l)
  obtain ⟨_, _, k6⟩ := F.called_set.mro
  refine wpAny_call (codeAny_of_tree (?_ : wpAny _ _ (callAny (.type "set") _) _ _ _))
  refine wpAny_pure ⟨Code.quiet_builtin _ (by decide +kernel), codeAny_builtin F.entry_type_call ?_⟩
  rw [Around.under_plain (weight_type_call_type "set" [.ref l] []) rfl]
  repeat (any_goals (first | assumption | wp_step))
  refine codeAny_mono (code_set_led1 (.ref l) (E := E) (Q₁ := fun v s1 => v = .ref s.heap.objs.size ∧ s1 = { s with heap := s.heap.push (ob0 w) }) ⟨rfl, rfl⟩) fun fl s1 h1 => ?_
  match fl, h1 with
  | .error e, h1 => exact h1
  | .ok .next, h1 => exact h1.elim
  | .ok .brk, h1 => exact h1.elim
  | .ok .cont, h1 => exact h1.elim
  | .ok (.ret v), ⟨e1, e2⟩ =>
    subst e1 e2
    have at0 : (s.heap.push (ob0 w)).get? s.heap.objs.size = some (ob0 w) := Heap.get?_push_size _ rfl
    have ty0 : Shared.TypeIs { s with heap := s.heap.push (ob0 w) } (.ref s.heap.objs.size) "set" := ⟨_, at0, rfl⟩
    have k7 := F.called_set.init.lookup; have k8 := F.called_set.init.bind (.ref s.heap.objs.size)
    repeat (any_goals (first | assumption | wp_step))
    refine codeAny_mono (codeAny_call_builtin (R := wants (fun v s2 => v = .none ∧ ∃ hp t c, s2 = { s with heap := hp, toks := t } ∧ SetR w hp s.heap.objs.size (fun j => decide (j ∈ zs)) c ∧ c ≤ zs.length ∧ (∀ b o, s.heap.get? b = some o → hp.get? b = some o)) E) F.called_set.init.plain F.entry_set_init (check_set_init_1 ty0 ?_)) fun fl2 s2 h2 => ?_
    · obtain ⟨⟨oc, od, oo, os⟩, at1, hc, n1, hd⟩ := isl
      simp only at hc hd; subst hc hd
      have lt : l < s.heap.objs.size := Heap.lt_size at1
      have at2 : (s.heap.push (ob0 w)).get? l = some { cls := .type "list", dict := od, data := .seq vs n1, slots := os } := Heap.get?_push_of_some _ at1
      have isl2 : (s.heap.push (ob0 w)).IsList l vs := ⟨_, at2, rfl, n1, rfl⟩
      have k9 := F.sub_list_set; have k10 := F.sub_list_frozenset; have k11 : (Value.type "list" == Value.type "dict") = false := by decide
      unfold Builtin.«set.__init__» noKeywords Builtin.Frozenset.updateFrom
      generalize keep : pyIter = IT'
      wp_walk
      subst keep
      refine wpAny_pyIter_list isl2 (wpAny_bind (wpAny_runValue ?_))
      have sz1 : (s.heap.push (ob0 w)).objs.size = s.heap.objs.size + 1 := Heap.size_push ..
      have ap1 : l ≠ (s.heap.push (ob0 w)).objs.size := by rw [sz1]; exact Nat.ne_of_lt (Nat.lt_succ_of_lt lt)
      have ap2 : s.heap.objs.size ∉ [(s.heap.push (ob0 w)).objs.size, l] := by rw [sz1]; simp; exact Nat.ne_of_gt lt
      have walk := (Walks.list (prog := P) (w := w) (A := A.in1.in1.in1) (by simp [noH]) _ l ap1 vs).toS
      refine set_update_ints walk s.heap.objs.size ap2 zs nv few (fun i v hv => ?_) (vs.size - 0) 0 _ (by omega) (Nat.zero_le _) ⟨⟨_, Heap.get?_push_size _ rfl, rfl, rfl⟩, isl2.push _⟩ ⟨0, Nat.le_refl 0, setR_new_at (Heap.get?_push_of_some _ at0)⟩ ?_
      · have li : i < zs.length := by rw [← nv]; exact (Array.getElem?_eq_some_iff.mp hv).1
        obtain ⟨t, e⟩ := PyProof.Rows.IntsAre.int_at isI i v (by rw [Array.getElem?_toList]; exact hv)
        exact ⟨zs[i], t, List.getElem?_eq_getElem li, by rw [e, List.getD_eq_getElem?_getD, List.getElem?_eq_getElem li] <;> rfl⟩
      · rintro ⟨hp, g2, d2, t2, o2⟩ c mv hc hS
        obtain rfl : g2 = s.gens := mv.gens
        obtain rfl : d2 = s.drawn := mv.drawn
        obtain rfl : o2 = s.os := mv.os
        rw [nv] at hc
        show wpAny _ _ _ _ _ _
        refine wpAny_pure ?_
        show wpAny _ _ (ret Value.none) _ _ _
        refine wpAny_pure ⟨rfl, hp, t2, c, rfl, hS, hc, fun b o e => mv.heap b o (?_ : b ∉ _) (Heap.get?_push_of_some _ (Heap.get?_push_of_some _ e))⟩
        have : b < s.heap.objs.size := Heap.lt_size e
        rw [sz1]; simp; exact ⟨Nat.ne_of_lt this, Nat.ne_of_lt (Nat.lt_succ_of_lt this)⟩
    · match fl2, h2 with
      | .error e, h2 => exact h2
      | .ok .next, h2 => exact h2.elim
      | .ok .brk, h2 => exact h2.elim
      | .ok .cont, h2 => exact h2.elim
      | .ok (.ret v), ⟨e1, hp, t, c, e2, hS, hc, kp⟩ =>
        subst e1 e2
        repeat (any_goals (first | assumption | wp_step))
        exact done _ _ _ hS hc kp
end TfSet
namespace Tf
open PySem PySem.Spec PyProof.Rows L2
section
variable {X : Cx}
/-- set(xs) -/
def rSetL (K : PySem.W.Frag) (w : World) : List V → Hp → VK → Prop := fun xs H Q => ∃ (a : Addr) (ns : List Int), xs = [V.ref a] ∧ SqL K H a (ns.map V.int) ∧ ns.length < 64 ∧ ∀ p n, H p = none → n ≤ ns.length → Q (.ref p) (upd H p (SetO w p (fun j => decide (j ∈ ns)) n))
theorem cr_setL (hc : X.calm = true) : CallR X (.type "set") (rSetL X.K X.w) := by
  intro pins s σ H xs us Q I r h
  obtain ⟨a, ns, rfl, hs, hl, q⟩ := h
  rw [Vals.ref1 r]
  obtain ⟨its, rv, ht, hz⟩ := I.list hs
  refine TfSet.set_lst ns (I.ok.hd hc) ht.isList (ints_of_vals rv) (by unfold scanBound; omega) fun hp t c hS hn kp => ?_
  exact ⟨.ref _, _, I.laid (t' := t) kp (Nat.le_refl _) (setO_new hS), rfl, q _ _ (I.hok.fresh (Nat.le_refl _)) hn⟩
end
/-- sorted(set(xs)), few ints -/
def sst : Xo1 where
  chk := fun c e => match nestE e with
    | some (x, y, [u]) => if (decide (x = "sorted") && decide (y = "set") && bltB c x && bltB c y && notStar u) = true then some u else none
    | _ => none
  w := fun x μ _ Q => match vw μ x with
    | .lst ds => match intsD ds with
      | some ns => ns.length < 64 ∧ ∀ ms : List Int, ms.Pairwise (· < ·) → (∀ k, k ∈ ms ↔ k ∈ ns) → ms.length ≤ ns.length → Q (.lst (ms.map .int)) μ
      | none => False
    | _ => False
@[simp] theorem sst_ok : sst.Ok := by
  intro c X W e u wa ok h ha
  simp only [sst] at h
  split at h
  · rename_i x y v e1
    obtain ⟨p, q, p3, p4, rfl⟩ := nestE_ok e1
    split at h
    · rename_i z
      cases h
      simp only [Bool.and_eq_true, decide_eq_true_eq] at z
      obtain ⟨⟨⟨⟨rfl, rfl⟩, h3⟩, h4⟩, h5⟩ := z
      have g1 := ok.gl (bltB_ok h3).1
      have m1 := ok.fr _ (bltB_ok h3).2
      have g2 := ok.gl (bltB_ok h4).1
      have m2 := ok.fr _ (bltB_ok h4).2
      have inner := pe_callTy (pos := p3) (p := q) (cr_setL ok.calm) g2 m2 PyProof.Rows.boot_set (pa_cons ha pa_nil (notStar_each h5)) (by decide) (by decide) (notStar_each h5)
      refine PE_imp (pe_callB (cr_sortedSet ok.calm) g1 m1 (by decide +kernel) (pa_cons inner pa_nil) (by decide) (by decide)) fun σ H Q h => ?_
      obtain ⟨δ, G, μ, Φ, E, R, hE, hR, hw, ha, hx⟩ := h
      refine ⟨δ, G, μ, Φ, E, _, hE, hR, hw, fun x μ1 G1 H1 v q1 s1 R1 p1 => ?_, hx⟩
      have vv := R1.look p1
      simp only [sst] at q1
      split at q1
      · rename_i ds e
        split at q1
        · rename_i ns en
          rw [e] at vv
          cases vv with
          | lst s q =>
            obtain ⟨hl, q1⟩ := q1
            refine ⟨_, ns, rfl, by rw [← intsD_ok en q]; exact .inl (.inl s), hl, fun t n ht hn => ⟨t, _, n, rfl, upd_same, by omega, fun ms p2 h1 h2 h3 h4 => ?_⟩⟩
            have R2 := R1.newF ht (SetO X.w t (fun j => decide (j ∈ ns)) n)
            have hp : p2 ≠ t := fun z => by rw [z, upd_same] at h4; cases h4
            obtain ⟨s3, R3⟩ := R2.new h4 (.lst (ms.map V.int))
            have fn := R1.fnone ht
            refine ha _ _ _ _ _ (q1 ms h1 (fun k => by rw [h2]; simp) (by omega)) (s1.trans s3) (R3.frmLess fun b o z => ?_) (.lst upd_same RepL.ints)
            by_cases hb : b = t
            · rw [hb, fn] at z; cases z
            · rw [upd_ne hb]; exact z
        · exact q1.elim
      · exact q1.elim
    · cases h
  · cases h
end Tf

set_option Elab.async false
set_option linter.all false
set_option maxRecDepth 100000
set_option maxHeartbeats 4000000
/-! Tf, ops 3: range(i, j, -1). -/
namespace Tf
open PySem PySem.Spec PyProof.Rows L2
def rg3E : Expr → Option (Str × Expr × Expr × Expr)
  | .Call (.Name x _) [a, b, d] [] _ => some (x, a, b, d)
  | _ => none
theorem rg3E_ok {e : Expr} {x : Str} {a b d : Expr} (h : rg3E e = some (x, a, b, d)) : ∃ p q, e = .Call (.Name x p) [a, b, d] [] q := by
  unfold rg3E at h
  split at h
  · cases h; exact ⟨_, _, rfl⟩
  · cases h
/-- range(i, j, c): down by one, or up by some -/
def rg3 : XoI where
  chk := fun c _ e => match rg3E e with
    | some (x, a, b, d) => if (decide (x = "range") && bltB c x && notStar a && notStar b && notStar d) = true then some [a, b, d] else none
    | none => none
  w := fun ds _ R => match ds with
    | [.int i, .int j, .int c] => (c = -1 ∧ (-(2 ^ 62) ≤ i ∧ i < 2 ^ 62 ∧ -(2 ^ 62) ≤ j ∧ j < 2 ^ 62) ∧ R ((List.range (i - j).toNat).map fun (k : Nat) => D.int (i - k)))
    | _ => False
theorem serves_rngC {K : PySem.W.Frag} {G : Hp} (lo c : Int) (n : Nat) : Serves K G (Itc lo c n) ((List.range n).map fun (k : Nat) => D.int (lo + k * c)) (fun _ => True) := fun i G Φ μ H _ R _ => by
  refine ⟨fun x e => ?_, fun h => ?_⟩
  · rw [List.getElem?_map] at e
    obtain ⟨j, e1, e2⟩ := Option.map_eq_some_iff.mp e
    obtain ⟨h1, h2⟩ := List.getElem?_eq_some_iff.mp e1
    rw [List.length_range] at h1
    rw [List.getElem_range] at h2
    subst h2
    refine ⟨h1, fun v H2 y => ?_⟩
    obtain ⟨y1, y2⟩ := y
    subst y1 y2 e2
    exact ⟨G, Same.refl G, R, .int _⟩
  · rw [List.length_map, List.length_range] at h
    exact h
theorem reps3 {K : PySem.W.Frag} {G : Hp} {i j c : Int} {vs : List V} (h : RepL K G [.int i, .int j, .int c] vs) : vs = [.int i, .int j, .int c] := by
  cases h with
  | cons a h => cases a; cases h with
    | cons a h => cases a; cases h with
      | cons a h => cases a; cases h; rfl
@[simp] theorem rg3_ok : rg3.Ok := by
  intro c X W tg e us wl ok h ha
  simp only [rg3] at h
  split at h
  · rename_i x a b d e1
    obtain ⟨p, q, rfl⟩ := rg3E_ok e1
    split at h
    · rename_i z
      cases h
      simp only [Bool.and_eq_true, decide_eq_true_eq] at z
      obtain ⟨⟨⟨⟨rfl, h3⟩, h5⟩, h6⟩, h7⟩ := z
      have g1 := ok.gl (bltB_ok h3).1
      have m1 := ok.fr _ (bltB_ok h3).2
      refine PI_imp (pi_range3 g1 m1 ha (notStar_each h5) (by rw [notStar_each h6, notStar_each h7]; rfl)) fun σ H Q h => ?_
      obtain ⟨δ, G, μ, Φ, E, R, hE, hR, hw, ha, hx⟩ := h
      refine ⟨δ, G, μ, Φ, E, _, hE, hR, hw, fun ds μ1 G1 H1 vs q1 s1 R1 p1 => ?_, hx⟩
      simp only [rg3] at q1
      split at q1
      · rename_i i j k
        obtain ⟨rfl, ⟨b1, b2, b3, b4⟩, q1⟩ := q1
        refine ⟨i, j, -1, (i - j).toNat, reps3 p1, RgC.neg b1 b2 b3 b4, ha _ _ μ1 G1 H1 _ q1 s1 R1 ?_ trivial⟩
        have := serves_rngC (K := X.K) (G := G1) i (-1) (i - j).toNat
        have e : (fun k : Nat => D.int (i + k * (-1))) = fun k : Nat => D.int (i - k) := by funext k; congr 1; omega
        rw [e] at this
        exact this
      · exact q1.elim
    · cases h
  · cases h
end Tf

set_option Elab.async false
set_option linter.all false
set_option maxRecDepth 100000
set_option maxHeartbeats 4000000
/-! Tf, ops 4: list.count(True), list.index(int). -/
namespace Tf
open PySem PySem.Spec PyProof.Rows L2
def eqT (v : Value) : Bool := match v with
  | .bool b => b
  | _ => false
theorem eqT_count : ∀ {us : List Value} {bs : List Bool}, Vals (bs.map V.bl) us → us.countP eqT = bs.count true := fun {us bs} => by
  induction bs generalizing us with
  | nil => intro h; cases h; rfl
  | cons b bs ih =>
    intro h
    cases h with
    | cons a r =>
      cases a
      rw [List.countP_cons, List.count_cons, ih r]
      cases b <;> rfl
theorem eqT_gives {A : Around} {s : Shared} : ∀ {us : List Value} {bs : List Bool}, Vals (bs.map V.bl) us → ∀ y ∈ us, SeqAt.EqAt A s y (.bool true) (eqT y) := fun {us bs} => by
  induction bs generalizing us with
  | nil => intro h; cases h; intro y hy; cases hy
  | cons b bs ih =>
    intro h
    cases h with
    | cons a r =>
      cases a
      intro y hy
      rcases List.mem_cons.mp hy with rfl | hy
      · exact (SeqAt.EqAt.bool_bool b true).cast (by cases b <;> rfl)
      · exact ih r y hy
section
variable {X : Cx}
def rCntT (K : PySem.W.Frag) : V → List V → Hp → VK → Prop := fun x xs H Q => ∃ (p : Addr) (bs : List Bool), x = .ref p ∧ xs = [.bl true] ∧ SqL K H p (bs.map V.bl) ∧ Q (.int (bs.count true : Nat)) H
theorem mt_cntT : MtR X "list.count" (rCntT X.K) := by
  intro pins s σ H x xs v us Q I rx rxs h
  obtain ⟨p, bs, rfl, rfl, hs, q⟩ := h
  cases rx
  obtain ⟨u, rfl, ru⟩ := rxs.one
  cases ru
  obtain ⟨its, rv, ⟨⟨cls, dd, data, sl⟩, n, ho, hc, hdn, hd⟩, hlen⟩ := I.list hs
  simp only at hc hd
  subst hc hd
  refine call_meets PySem.F.slot_list_count ⟨_, ho, rfl⟩ PySem.F.entry_list_count (PySem.F.args_list_count_2 _ _)
    (SeqAt.list_countAt p its.toArray n dd sl (.bool true) eqT) ⟨ho, fun y hy => eqT_gives rv y (by simpa using hy), ?_⟩
  have ec : its.toArray.toList.countP eqT = bs.count true := eqT_count rv
  refine ⟨.int (bs.count true : Nat), H, I.tok _, ⟨s.toks, ?_⟩, q⟩
  show Value.int ((its.toArray.toList.countP eqT : Nat) : Int) s.toks = Value.int ((bs.count true : Nat) : Int) s.toks
  rw [ec]
def rIxI (K : PySem.W.Frag) : V → List V → Hp → VK → Prop := fun x xs H Q => ∃ (p : Addr) (ns : List Int) (k : Int), x = .ref p ∧ xs = [.int k] ∧ SqL K H p (ns.map V.int) ∧ k ∈ ns ∧ Q (.int (ns.idxOf k : Nat)) H
theorem mt_ixI : MtR X "list.index" (rIxI X.K) := by
  intro pins s σ H x xs v us Q I rx rxs h
  obtain ⟨p, ns, k, rfl, rfl, hs, hk, q⟩ := h
  cases rx
  obtain ⟨u, rfl, ru⟩ := rxs.one
  obtain ⟨t, rfl⟩ := ru
  obtain ⟨its, rv, ht, hlen⟩ := I.list hs
  rw [List.length_map] at hlen
  exact SeqAt.list_index_ints ht.isList (ints_of_vals rv) (by simpa [sz] using hlen) hk ⟨.int (ns.idxOf k : Nat), H, I.tok _, ⟨s.toks, rfl⟩, q⟩
end
def methE : Expr → Option (Expr × Str × Pos × Expr × Pos)
  | .Call (.Attribute x m p) [a] [] q => some (x, m, p, a, q)
  | _ => none
theorem methE_ok {e x : Expr} {m : Str} {p q : Pos} {a : Expr} (h : methE e = some (x, m, p, a, q)) : e = .Call (.Attribute x m p) [a] [] q := by
  unfold methE at h
  split at h
  · cases h; rfl
  · cases h
def isTrue : Expr → Bool
  | .Constant (.bool true) _ _ => true
  | _ => false
/-- xs.count(True) -/
def cnb : Xo1 where
  chk := fun _ e => match methE e with
    | some (x, m, p, .Constant (.bool true) _ _, q) => if (decide (m = "count") && notSuper x && decide ((p.endLine == q.line) = true)) = true then some x else none
    | _ => none
  w := fun x μ _ Q => match x with
    | .lst ds => match blsD ds with
      | some bs => Q (.int (bs.count true : Nat)) μ
      | none => False
    | _ => False
@[simp] theorem cnb_ok : cnb.Ok := by
  intro c X W e u wa ok h ha
  simp only [cnb] at h
  split at h
  · rename_i x m p k p1 q e1
    cases methE_ok e1
    split at h
    · rename_i z
      cases h
      simp only [Bool.and_eq_true, decide_eq_true_eq] at z
      obtain ⟨⟨rfl, h3⟩, h5⟩ := z
      have hb : PE X (.Constant (.bool true) k p1) fun σ H Q => Q (.bl true) H := pe_bl
      refine PE_imp (pe_bm PySem.F.plainAttrs_list PySem.F.slot_list_count PySem.F.type_list_count mt_cntT ha (pa_cons hb pa_nil (notStar_each rfl)) (notSuper_base h3 _ _) (few1 _ X.env q rfl) h5 (notStar_each rfl) rfl) fun σ H Q h => ?_
      obtain ⟨δ, G, μ, Φ, E, R, hE, hR, hw, ha, hx⟩ := h
      refine ⟨δ, G, μ, Φ, E, _, hE, hR, hw, fun x μ1 G1 H1 v q1 s1 R1 p1 => ?_, hx⟩
      simp only [cnb] at q1
      split at q1
      · split at q1
        · rename_i bs e
          cases p1 with
          | lst s q => exact ⟨tyL (R1.sub _ _ s), _, bs, rfl, rfl, by rw [← blsD_ok e q]; exact .inl (.inl (R1.sub _ _ s)), ha _ _ G1 _ _ q1 s1 R1 (.int _)⟩
        · exact q1.elim
      · exact q1.elim
    · cases h
  · cases h
end Tf

set_option Elab.async false
set_option linter.all false
set_option maxRecDepth 100000
set_option maxHeartbeats 4000000
/-! Tf, ops 5: min of a list of tuples (of lists) of ints. -/
namespace Tf
open PySem PySem.Spec PyProof.Rows L2
def rowP (r : List Int) : PyData := PySem.W.Datum.toD (PySem.W.Tup.mk r)
abbrev rLt (x y : List Int) : Bool := PySem.W.listLt x y
theorem rowP_is (r : List Int) : rowP r = .tuple (r.map PyData.int) := rfl
theorem rLt_self : ∀ x : List Int, rLt x x = false
  | [] => rfl
  | x :: xs => by
    show PySem.W.listLt _ _ = false
    rw [PySem.W.listLt, if_pos rfl]
    exact rLt_self xs
theorem rLt_cons (x y : Int) (xs ys : List Int) : rLt (x :: xs) (y :: ys) = if x = y then rLt xs ys else decide (x < y) := by
  show PySem.W.listLt _ _ = _
  rw [PySem.W.listLt]
  rfl
theorem rLt_anti : ∀ {x y : List Int}, rLt x y = false → rLt y x = false → x = y
  | [], [], _, _ => rfl
  | [], _ :: _, h, _ => by cases h
  | _ :: _, [], _, h => by cases h
  | x :: xs, y :: ys, h1, h2 => by
    rw [rLt_cons] at h1 h2
    by_cases e : x = y
    · subst e
      rw [if_pos rfl] at h1 h2
      rw [rLt_anti h1 h2]
    · rw [if_neg e] at h1
      rw [if_neg (fun z => e z.symm)] at h2
      simp at h1 h2
      omega
theorem rLt_tr : ∀ {x y z : List Int}, rLt y x = false → rLt z y = false → rLt z x = false
  | [], _, [], _, _ => rfl
  | [], [], _ :: _, _, h => h
  | [], _ :: _, _ :: _, _, _ => rfl
  | _ :: _, [], _, h, _ => by cases h
  | _ :: _, _ :: _, [], _, h => by cases h
  | x :: xs, y :: ys, z :: zs, h1, h2 => by
    rw [rLt_cons] at h1 h2 ⊢
    by_cases e : y = x
    · subst e
      rw [if_pos rfl] at h1
      by_cases e : z = y
      · subst e
        rw [if_pos rfl] at h2 ⊢
        exact rLt_tr h1 h2
      · rw [if_neg e] at h2 ⊢
        exact h2
    · rw [if_neg e] at h1
      by_cases e2 : z = y
      · subst e2
        rw [if_neg e]
        exact h1
      · rw [if_neg e2] at h2
        simp at h1 h2
        rw [if_neg (by omega)]
        simp
        omega
theorem rLt_as {x y : List Int} (h : rLt x y = true) : rLt y x = false := by
  by_cases e : rLt y x = true
  · exfalso
    have : ∀ {x y : List Int}, rLt x y = true → rLt y x = true → False := fun {x} => by
      induction x with
      | nil => intro y h1 h2; cases y <;> cases h2 <;> cases h1
      | cons a as ih =>
        intro y h1 h2
        cases y with
        | nil => cases h1
        | cons b bs =>
          rw [rLt_cons] at h1 h2
          by_cases e : a = b
          · subst e
            rw [if_pos rfl] at h1 h2
            exact ih h1 h2
          · rw [if_neg e] at h1
            rw [if_neg (fun z => e z.symm)] at h2
            simp at h1 h2
            omega
    exact this h e
  · simpa using e
/-- the first of the least rows -/
def minR (x : List Int) (xs : List (List Int)) : List Int := xs.foldl (fun a y => if rLt y a = true then y else a) x
theorem minR_le (x : List Int) (xs : List (List Int)) : ∀ y ∈ x :: xs, rLt y (minR x xs) = false := by
  unfold minR
  induction xs generalizing x with
  | nil => intro y hy; simp at hy; subst hy; exact rLt_self _
  | cons z zs ih =>
    intro y hy
    rw [List.foldl_cons]
    have h1 := ih (if rLt z x = true then z else x)
    have h2 := h1 _ List.mem_cons_self
    rcases List.mem_cons.mp hy with rfl | hy
    · refine rLt_tr h2 ?_
      by_cases e : rLt z y = true
      · rw [if_pos e]; exact rLt_as e
      · rw [if_neg e]; exact rLt_self _
    · rcases List.mem_cons.mp hy with rfl | hy
      · refine rLt_tr h2 ?_
        by_cases e : rLt y x = true
        · rw [if_pos e]; exact rLt_self _
        · rw [if_neg e]; simpa using e
      · exact h1 y (List.mem_cons_of_mem _ hy)
theorem minD_rows (x : List Int) (xs : List (List Int)) : PySem.W.minD (rowP x) (xs.map rowP) = rowP (minR x xs) := by
  have h := PySem.W.minD_map (PySem.W.Tup.mk x) (xs.map PySem.W.Tup.mk)
  have e1 : (xs.map PySem.W.Tup.mk).map PySem.W.Datum.toD = xs.map rowP := by rw [List.map_map]; rfl
  rw [e1] at h
  refine h.trans ?_
  show PySem.W.Datum.toD _ = PySem.W.Datum.toD _
  congr 1
  unfold PySem.W.minOf minR
  have : ∀ (l : List (List Int)) (a : List Int), (l.map PySem.W.Tup.mk).foldl (fun a y => if PySem.W.DatumOrd.lt y a = true then y else a) (PySem.W.Tup.mk a) = PySem.W.Tup.mk (l.foldl (fun a y => if rLt y a = true then y else a) a) := fun l => by
    induction l with
    | nil => intro a; rfl
    | cons z l ih =>
      intro a
      rw [List.map_cons, List.foldl_cons, List.foldl_cons, ← ih]
      congr 1
      show (if PySem.W.listLt z a = true then PySem.W.Tup.mk z else PySem.W.Tup.mk a) = _
      by_cases e : PySem.W.listLt z a = true
      · rw [if_pos e, if_pos e]
      · rw [if_neg e, if_neg e]
  exact this xs x
section
variable {X : Cx}
/-- min(xs) of rows of ints: the row itself -/
def rMinT (K : PySem.W.Frag) : List V → Hp → VK → Prop := fun vs H Q => ∃ (a : Addr) (xs : List V) (rows : List (List Int)), vs = [V.ref a] ∧ SqL K H a xs ∧ DpAll K H xs (rows.map rowP) ∧ rows ≠ [] ∧
  ∀ (i : Nat) (x : V) (m : List Int), xs[i]? = some x → rows[i]? = some m → (∀ y ∈ rows, rLt y m = false) → Q x H
theorem rows_lay (rows : List (List Int)) : PyData.canLayAll0 (rows.map rowP) = true := by
  induction rows with
  | nil => rfl
  | cons r rows ih =>
    rw [List.map_cons, PyData.canLayAll0, ih, rowP_is, PyData.canLay0]
    have : ∀ r : List Int, PyData.canLayAll0 (r.map PyData.int) = true := fun r => by
      induction r with
      | nil => rfl
      | cons i r ih => rw [List.map_cons, PyData.canLayAll0, ih]; rfl
    rw [this]
    rfl
theorem cr_minT (hc : X.calm = true) (hu : X.A.units + 64 < cLine) : CallR X (.builtin "min") (rMinT X.K) := by
  intro pins s σ H vs us Q I r h
  obtain ⟨a, xs, rows, rfl, hs, dp, ne, q⟩ := h
  obtain ⟨its, rv, hl, hz⟩ := I.list hs
  rw [Vals.ref1 r]
  obtain ⟨as, rd⟩ := Dp.readsAll I _ _ its dp rv
  cases rows with
  | nil => exact absurd rfl ne
  | cons r0 rs =>
    have ak : PySem.W.AlikeAll ((r0 :: rs).map rowP) := by
      refine ⟨fun x hx y hy => ?_, fun x hx => ?_⟩
      · obtain ⟨x', _, rfl⟩ := List.mem_map.mp hx
        obtain ⟨y', _, rfl⟩ := List.mem_map.mp hy
        exact PySem.W.DatumOrd.alike (PySem.W.Tup.mk x') (PySem.W.Tup.mk y')
      · obtain ⟨x', _, rfl⟩ := List.mem_map.mp hx
        exact PySem.W.DatumOrd.notNone (PySem.W.Tup.mk x')
    have dep : PyData.depthAll ((r0 :: rs).map rowP) ≤ 10 := by
      have h := PySem.W.depthAll_map ((r0 :: rs).map PySem.W.Tup.mk)
      rw [List.map_map] at h
      exact Nat.le_trans h (show (PySem.W.Datum.depth (PySem.W.Tup Int)) ≤ 10 by decide)
    rw [List.map_cons] at rd ak dep
    refine PySem.W.min_list_data (I.ok.hd hc) hl.isList (by simpa using rd) ak (by omega) fun i v h' tk bs hv hr kp => ?_
    rw [minD_rows] at hr
    have hv' : its[i]? = some v := by simpa using hv
    have lay := rows_lay (r0 :: rs)
    rw [List.map_cons] at lay
    have mp := SeqAt.readsAll_map _ its as lay rd
    obtain ⟨x, hx, rx⟩ : ∃ x, xs[i]? = some x ∧ RelV x v := by
      clear q hs dp rd mp hv hr hl hz
      induction rv generalizing i with
      | nil => cases hv'
      | cons a b ih =>
        cases i with
        | zero => exact ⟨_, rfl, by cases hv'; exact a⟩
        | succ i => exact ih i hv'
    have il : i < (r0 :: rs).length := by
      have h1 := rv.length
      have h2 := (List.getElem?_eq_some_iff.mp hv').1
      have h3 : (its.map (SeqAt.readOf s.heap)).length = (rowP r0 :: rs.map rowP).length := by rw [mp]
      rw [List.length_map, List.length_cons, List.length_map] at h3
      rw [List.length_cons]
      omega
    obtain ⟨bs2, r2, _, _, _⟩ := PySem.W.readsAll_at rd i v hv'
    have e2 : (rowP r0 :: rs.map rowP).getD i PyData.none = rowP (r0 :: rs)[i] := by
      rw [← List.map_cons (f := rowP), List.getD_eq_getElem?_getD, List.getElem?_map, List.getElem?_eq_getElem il]
      rfl
    rw [e2] at r2
    have r3 := Reads.keeps kp r2
    have one : ∀ {m : List Int} {cs : List Addr}, Reads h' v (rowP m) cs → SeqAt.readOf h' v = rowP m := fun {m cs} hm => by
      have h := SeqAt.readsAll_map [rowP m] [v] _ (rows_lay [m]) (.cons hm .nil)
      simpa using h
    have em : (r0 :: rs)[i] = minR r0 rs := by
      have h1 := (one r3).symm.trans (one hr)
      rw [rowP_is, rowP_is] at h1
      have h2 := PyData.tuple.inj h1
      have : ∀ {p q : List Int}, p.map PyData.int = q.map PyData.int → p = q := fun {p} => by
        induction p with
        | nil => intro q h; cases q <;> first | rfl | cases h
        | cons a p ih =>
          intro q h
          cases q with
          | nil => cases h
          | cons b q =>
            rw [List.map_cons, List.map_cons, List.cons.injEq] at h
            obtain ⟨h1, h2⟩ := h
            cases h1
            rw [ih h2]
      exact this h2
    refine ⟨x, H, I.kept kp, rx, q i x (minR r0 rs) hx (by rw [List.getElem?_eq_getElem il, em]) (minR_le r0 rs)⟩
end
/-- min(xs), rows of ints -/
def mnt : Xo1 where
  chk := fun c e => match e with
    | .Call (.Name x _) [u] [] _ => if (decide (x = "min") && bltB c x && notStar u) = true then some u else none
    | _ => none
  w := fun x μ _ Q => match vw μ x with
    | .lst ds => match rowsD ds with
      | some rows => rows ≠ [] ∧ ∀ m : List Int, m ∈ rows → (∀ y ∈ rows, rLt y m = false) → Q (.tup (m.map .int)) μ
      | none => False
    | _ => False
theorem rowsD_ok {K : PySem.W.Frag} {G : Hp} : ∀ {ds : List D} {vs : List V} {rows : List (List Int)}, rowsD ds = some rows → RepL K G ds vs → DpAll K G vs (rows.map rowP) ∧ ds = rows.map fun r => .tup (r.map .int)
  | [], _, _, e, .nil => by cases e; exact ⟨.nil, rfl⟩
  | d :: ds, _, rows, e, .cons h r => by
    unfold rowsD at e
    split at e
    · contradiction
    · rename_i r0 ds' e1
      cases e1
      split at e
      · rename_i ns e2
        obtain ⟨ms, e3, e4⟩ := Option.map_eq_some_iff.mp e
        subst e4
        obtain ⟨i1, i2⟩ := rowsD_ok e3 r
        cases h with
        | tup s q =>
          have e5 := intsD_ok e2 q
          have e6 : r0 = ns.map D.int := by
            clear e s q i1 i2 r e3 e5
            induction r0 generalizing ns with
            | nil => cases e2; rfl
            | cons d r0 ih =>
              cases d <;> try cases e2
              rw [intsD] at e2
              obtain ⟨ks, k1, k2⟩ := Option.map_eq_some_iff.mp e2
              rw [← k2, List.map_cons, ← ih _ k1]
          subst e5
          have : ∀ ns : List Int, DpAll K G (ns.map V.int) (ns.map PyData.int) := fun ns => by
            induction ns with
            | nil => exact .nil
            | cons n ns ih => exact .cons (.int n) ih
          exact ⟨.cons (by rw [rowP_is]; exact .tup s (this ns)) i1, by rw [List.map_cons, ← i2, e6]⟩
      · cases e
    · cases e
theorem RepL.nth {K : PySem.W.Frag} {G : Hp} : ∀ {ds : List D} {vs : List V}, RepL K G ds vs → ∀ (i : Nat) {d : D} {v : V}, vs[i]? = some v → ds[i]? = some d → Rep K G d v
  | _, _, .nil, _, _, _, h, _ => by cases h
  | _, _, .cons a _, 0, _, _, h, e => by cases h; cases e; exact a
  | _, _, .cons _ b, i + 1, _, _, h, e => RepL.nth b i h e
@[simp] theorem mnt_ok : mnt.Ok := by
  intro c X W e u wa ok h ha
  simp only [mnt] at h
  split at h
  · rename_i x p v q
    split at h
    · rename_i z
      cases h
      simp only [Bool.and_eq_true, decide_eq_true_eq] at z
      obtain ⟨⟨rfl, h3⟩, h5⟩ := z
      have g1 := ok.gl (bltB_ok h3).1
      have m1 := ok.fr _ (bltB_ok h3).2
      refine PE_imp (pe_callB (cr_minT ok.calm (by have := ok.un; omega)) g1 m1 (by decide +kernel) (pa_cons ha pa_nil (notStar_each h5)) (by decide) (by decide) (notStar_each h5)) fun σ H Q h => ?_
      obtain ⟨δ, G, μ, Φ, E, R, hE, hR, hw, ha, hx⟩ := h
      refine ⟨δ, G, μ, Φ, E, _, hE, hR, hw, fun x μ1 G1 H1 v q1 s1 R1 p1 => ?_, hx⟩
      have vv := R1.look p1
      simp only [mnt] at q1
      split at q1
      · rename_i ds e
        split at q1
        · rename_i rows en
          rw [e] at vv
          cases vv with
          | lst s q =>
            obtain ⟨hne, q1⟩ := q1
            obtain ⟨i1, i2⟩ := rowsD_ok en (RepL.mono R1.sub q)
            refine ⟨_, _, rows, rfl, .inl (.inl s), i1, hne, fun i x m hx hm hl => ?_⟩
            refine ha _ _ _ _ _ (q1 m (List.mem_of_getElem? hm) hl) s1 R1 ?_
            have e3 : ds[i]? = some (.tup (m.map .int)) := by rw [i2, List.getElem?_map, hm]; rfl
            exact RepL.nth q i hx e3
        · exact q1.elim
      · exact q1.elim
    · cases h
  · cases h
end Tf

set_option Elab.async false
set_option linter.all false
set_option maxRecDepth 100000
set_option maxHeartbeats 4000000
/-! Tf, ops 9: e or 0; min of a list of lists of ints. -/
namespace Tf
open PySem PySem.Spec PyProof.Rows L2
/-- e or 0, an int or None -/
def orz : Xo1 where
  chk := fun _ e => match e with
    | .BoolOp .Or [a, .Constant (.int 0) _ _] _ => some a
    | _ => none
  w := fun x μ _ Q => match x with
    | .int i => Q (.int i) μ
    | .non => Q (.int 0) μ
    | _ => False
@[simp] theorem orz_ok : orz.Ok := by
  intro c X W e u wa ok h ha
  simp only [orz] at h
  split at h
  · cases h
    refine PE_imp (pe_orT ha (pe_one pe_int)) fun σ H Q h => ?_
    obtain ⟨δ, G, μ, Φ, E, R, hE, hR, hw, ha, hx⟩ := h
    refine ⟨δ, G, μ, Φ, E, _, hE, hR, hw, fun x μ1 G1 H1 v q1 s1 R1 p1 => ?_, hx⟩
    simp only [orz] at q1
    split at q1
    · rename_i i
      cases p1
      refine ⟨decide (i ≠ 0), truth_ok (a := .int i) R1.sub (by show some (i != 0) = _; congr 1; by_cases z : i = 0 <;> simp [z]) (R1.look (.int i)), ?_⟩
      by_cases z : i = 0
      · subst z
        exact ha _ _ G1 _ _ q1 s1 R1 (.int _)
      · rw [if_pos (by simpa using z)]
        exact ha _ _ G1 _ _ q1 s1 R1 (.int _)
    · cases p1
      exact ⟨false, truth_ok (a := .non) R1.sub rfl (R1.look .non), ha _ _ G1 _ _ q1 s1 R1 (.int _)⟩
    · exact q1.elim
  · cases h
def rowQ (r : List Int) : PyData := PySem.W.Datum.toD r
theorem rowQ_is (r : List Int) : rowQ r = .list (r.map PyData.int) := rfl
theorem minD_rowsL (x : List Int) (xs : List (List Int)) : PySem.W.minD (rowQ x) (xs.map rowQ) = rowQ (minR x xs) := by
  refine (PySem.W.minD_map x xs).trans ?_
  rfl
def rowsE : List D → Option (List (List Int))
  | [] => some []
  | .lst r :: ds => match intsD r with | some ns => (rowsE ds).map (ns :: ·) | none => none
  | _ :: _ => none
section
variable {X : Cx}
/-- min(xs) of rows of ints: the row itself -/
def rMinL (K : PySem.W.Frag) : List V → Hp → VK → Prop := fun vs H Q => ∃ (a : Addr) (xs : List V) (rows : List (List Int)), vs = [V.ref a] ∧ SqL K H a xs ∧ DpAll K H xs (rows.map rowQ) ∧ rows ≠ [] ∧
  ∀ (i : Nat) (x : V) (m : List Int), xs[i]? = some x → rows[i]? = some m → (∀ y ∈ rows, rLt y m = false) → Q x H
theorem rowsQ_lay (rows : List (List Int)) : PyData.canLayAll0 (rows.map rowQ) = true := by
  induction rows with
  | nil => rfl
  | cons r rows ih =>
    rw [List.map_cons, PyData.canLayAll0, ih, rowQ_is, PyData.canLay0]
    have : ∀ r : List Int, PyData.canLayAll0 (r.map PyData.int) = true := fun r => by
      induction r with
      | nil => rfl
      | cons i r ih => rw [List.map_cons, PyData.canLayAll0, ih]; rfl
    rw [this]
    rfl
theorem cr_minL (hc : X.calm = true) (hu : X.A.units + 64 < cLine) : CallR X (.builtin "min") (rMinL X.K) := by
  intro pins s σ H vs us Q I r h
  obtain ⟨a, xs, rows, rfl, hs, dp, ne, q⟩ := h
  obtain ⟨its, rv, hl, hz⟩ := I.list hs
  rw [Vals.ref1 r]
  obtain ⟨as, rd⟩ := Dp.readsAll I _ _ its dp rv
  cases rows with
  | nil => exact absurd rfl ne
  | cons r0 rs =>
    have ak : PySem.W.AlikeAll ((r0 :: rs).map rowQ) := by
      refine ⟨fun x hx y hy => ?_, fun x hx => ?_⟩
      · obtain ⟨x', _, rfl⟩ := List.mem_map.mp hx
        obtain ⟨y', _, rfl⟩ := List.mem_map.mp hy
        exact PySem.W.DatumOrd.alike x' y'
      · obtain ⟨x', _, rfl⟩ := List.mem_map.mp hx
        exact PySem.W.DatumOrd.notNone x'
    have dep : PyData.depthAll ((r0 :: rs).map rowQ) ≤ 10 := by
      have h := PySem.W.depthAll_map (r0 :: rs)
      exact Nat.le_trans h (show (PySem.W.Datum.depth (List Int)) ≤ 10 by decide)
    rw [List.map_cons] at rd ak dep
    refine PySem.W.min_list_data (I.ok.hd hc) hl.isList (by simpa using rd) ak (by omega) fun i v h' tk bs hv hr kp => ?_
    rw [minD_rowsL] at hr
    have hv' : its[i]? = some v := by simpa using hv
    have lay := rowsQ_lay (r0 :: rs)
    rw [List.map_cons] at lay
    have mp := SeqAt.readsAll_map _ its as lay rd
    obtain ⟨x, hx, rx⟩ : ∃ x, xs[i]? = some x ∧ RelV x v := by
      clear q hs dp rd mp hv hr hl hz
      induction rv generalizing i with
      | nil => cases hv'
      | cons a b ih =>
        cases i with
        | zero => exact ⟨_, rfl, by cases hv'; exact a⟩
        | succ i => exact ih i hv'
    have il : i < (r0 :: rs).length := by
      have h1 := rv.length
      have h2 := (List.getElem?_eq_some_iff.mp hv').1
      have h3 : (its.map (SeqAt.readOf s.heap)).length = (rowQ r0 :: rs.map rowQ).length := by rw [mp]
      rw [List.length_map, List.length_cons, List.length_map] at h3
      rw [List.length_cons]
      omega
    obtain ⟨bs2, r2, _, _, _⟩ := PySem.W.readsAll_at rd i v hv'
    have e2 : (rowQ r0 :: rs.map rowQ).getD i PyData.none = rowQ (r0 :: rs)[i] := by
      rw [← List.map_cons (f := rowQ), List.getD_eq_getElem?_getD, List.getElem?_map, List.getElem?_eq_getElem il]
      rfl
    rw [e2] at r2
    have r3 := Reads.keeps kp r2
    have one : ∀ {m : List Int} {cs : List Addr}, Reads h' v (rowQ m) cs → SeqAt.readOf h' v = rowQ m := fun {m cs} hm => by
      have h := SeqAt.readsAll_map [rowQ m] [v] _ (rowsQ_lay [m]) (.cons hm .nil)
      simpa using h
    have em : (r0 :: rs)[i] = minR r0 rs := by
      have h1 := (one r3).symm.trans (one hr)
      rw [rowQ_is, rowQ_is] at h1
      have h2 := PyData.list.inj h1
      have : ∀ {p q : List Int}, p.map PyData.int = q.map PyData.int → p = q := fun {p} => by
        induction p with
        | nil => intro q h; cases q <;> first | rfl | cases h
        | cons a p ih =>
          intro q h
          cases q with
          | nil => cases h
          | cons b q =>
            rw [List.map_cons, List.map_cons, List.cons.injEq] at h
            obtain ⟨h1, h2⟩ := h
            cases h1
            rw [ih h2]
      exact this h2
    refine ⟨x, H, I.kept kp, rx, q i x (minR r0 rs) hx (by rw [List.getElem?_eq_getElem il, em]) (minR_le r0 rs)⟩
end
/-- min(xs), rows of ints -/
def mnl : Xo1 where
  chk := fun c e => match e with
    | .Call (.Name x _) [u] [] _ => if (decide (x = "min") && bltB c x && notStar u) = true then some u else none
    | _ => none
  w := fun x μ _ Q => match vw μ x with
    | .lst ds => match rowsE ds with
      | some rows => rows ≠ [] ∧ ∀ m : List Int, m ∈ rows → (∀ y ∈ rows, rLt y m = false) → Q (.lst (m.map .int)) μ
      | none => False
    | _ => False
theorem rowsE_ok {K : PySem.W.Frag} {G : Hp} : ∀ {ds : List D} {vs : List V} {rows : List (List Int)}, rowsE ds = some rows → RepL K G ds vs → DpAll K G vs (rows.map rowQ) ∧ ds = rows.map fun r => .lst (r.map .int)
  | [], _, _, e, .nil => by cases e; exact ⟨.nil, rfl⟩
  | d :: ds, _, rows, e, .cons h r => by
    unfold rowsE at e
    split at e
    · contradiction
    · rename_i r0 ds' e1
      cases e1
      split at e
      · rename_i ns e2
        obtain ⟨ms, e3, e4⟩ := Option.map_eq_some_iff.mp e
        subst e4
        obtain ⟨i1, i2⟩ := rowsE_ok e3 r
        cases h with
        | lst s q =>
          have e5 := intsD_ok e2 q
          have e6 : r0 = ns.map D.int := by
            clear e s q i1 i2 r e3 e5
            induction r0 generalizing ns with
            | nil => cases e2; rfl
            | cons d r0 ih =>
              cases d <;> try cases e2
              rw [intsD] at e2
              obtain ⟨ks, k1, k2⟩ := Option.map_eq_some_iff.mp e2
              rw [← k2, List.map_cons, ← ih _ k1]
          subst e5
          have : ∀ ns : List Int, DpAll K G (ns.map V.int) (ns.map PyData.int) := fun ns => by
            induction ns with
            | nil => exact .nil
            | cons n ns ih => exact .cons (.int n) ih
          exact ⟨.cons (by rw [rowQ_is]; exact .lst (.inl (.inl s)) (this ns)) i1, by rw [List.map_cons, ← i2, e6]⟩
      · cases e
    · cases e
@[simp] theorem mnl_ok : mnl.Ok := by
  intro c X W e u wa ok h ha
  simp only [mnl] at h
  split at h
  · rename_i x p v q
    split at h
    · rename_i z
      cases h
      simp only [Bool.and_eq_true, decide_eq_true_eq] at z
      obtain ⟨⟨rfl, h3⟩, h5⟩ := z
      have g1 := ok.gl (bltB_ok h3).1
      have m1 := ok.fr _ (bltB_ok h3).2
      refine PE_imp (pe_callB (cr_minL ok.calm (by have := ok.un; omega)) g1 m1 (by decide +kernel) (pa_cons ha pa_nil (notStar_each h5)) (by decide) (by decide) (notStar_each h5)) fun σ H Q h => ?_
      obtain ⟨δ, G, μ, Φ, E, R, hE, hR, hw, ha, hx⟩ := h
      refine ⟨δ, G, μ, Φ, E, _, hE, hR, hw, fun x μ1 G1 H1 v q1 s1 R1 p1 => ?_, hx⟩
      have vv := R1.look p1
      simp only [mnl] at q1
      split at q1
      · rename_i ds e
        split at q1
        · rename_i rows en
          rw [e] at vv
          cases vv with
          | lst s q =>
            obtain ⟨hne, q1⟩ := q1
            obtain ⟨i1, i2⟩ := rowsE_ok en (RepL.mono R1.sub q)
            refine ⟨_, _, rows, rfl, .inl (.inl s), i1, hne, fun i x m hx hm hl => ?_⟩
            refine ha _ _ _ _ _ (q1 m (List.mem_of_getElem? hm) hl) s1 R1 ?_
            have e3 : ds[i]? = some (.lst (m.map .int)) := by rw [i2, List.getElem?_map, hm]; rfl
            exact RepL.nth q i hx e3
        · exact q1.elim
      · exact q1.elim
    · cases h
  · cases h
end Tf

set_option Elab.async false
set_option linter.all false
set_option maxRecDepth 100000
set_option maxHeartbeats 4000000
/-! Tf, ops 10: sorted() of a tuple of ints; [..] * n as a list that changes. -/
namespace PyProof.Rows
open PySem PySem.Spec
variable {prog : Program} {w : World} {A : Around} {E : Value → Shared → Prop} {s : Shared}
theorem collect_tuple' {l : Addr} {vs : List Value} {Q : List Value → Shared → Prop} (hl : s.heap.IsTuple l vs.toArray)
    (h : Q vs { s with heap := (s.heap.push (seqObj "list" #[] 0)).update s.heap.objs.size (Obj.mapSeq (· ++ vs.toArray)) }) (hsz : vs.length ≤ sizeLine) :
    wpAny (model prog w) A (collect (.ref l)) Q E s := by
  obtain ⟨o, ho, hc, n, hd⟩ := id hl
  unfold collect
  refine wpAny_bind (wpAny_runValue (codeAny_builtin entry_proto_collect' ?_))
  show wpAny _ _ (do again (.builtin "list.__iadd__" ⟨[← newList [], .ref l], []⟩)) _ _ s
  refine wpAny_bind (wpAny_newList (wpAny_pure ⟨Code.quiet_builtin _ (by decide +kernel), codeAny_builtin entry_list_iadd' ?_⟩))
  show wpAny _ _ (Builtin.List.listExtendWith (.ref s.heap.objs.size) (.ref l) (.ref s.heap.objs.size)) _ _ { s with heap := s.heap.push (seqObj "list" #[] 0) }
  unfold Builtin.List.listExtendWith
  have ho' : (s.heap.push (seqObj "list" #[] 0)).get? l = some o := Heap.get?_push_of_some _ ho
  refine wpAny_bind (wpAny_typeOf (T := "tuple") ⟨o, ho', hc⟩ ?_)
  have ht : (Value.type "tuple" == Value.type "tuple") = true := by rfl
  rw [if_pos (by rw [ht]; simp)]
  refine wpAny_bind (listItems_at ho' hd ?_)
  refine wpAny_bind (listItems_at (xs := #[]) (n := 0) (Heap.get?_push_size _ rfl) rfl ?_)
  rw [if_neg (by simp)]
  refine wpAny_bind (listUpdate_at (xs := #[]) (n := 0) (Heap.get?_push_size _ rfl) rfl ?_ (Nat.zero_le _) (by show (#[] ++ vs.toArray).size ≤ sizeLine + 1; simp only [Array.size_append, List.size_toArray, List.length_nil]; omega))
  refine wpAny_pure ?_
  show wpAny (model prog w) A (do
      let o ← load s.heap.objs.size
      match o.data with
      | .seq xs _ => pure xs.toList
      | _ => unsupported "internal:collect") Q E { s with heap := (s.heap.push (seqObj "list" #[] 0)).update s.heap.objs.size (Obj.mapSeq (· ++ vs.toArray)) }
  refine wpAny_bind (wpAny_load (get?_update_seq (Heap.get?_push_size _ rfl) _) ?_)
  show wpAny _ _ (pure ((#[] : Array Value) ++ vs.toArray).toList) Q E _
  rw [show ((#[] : Array Value) ++ vs.toArray).toList = vs by simp]
  exact wpAny_pure h
end PyProof.Rows
namespace SrtO
open PySem PyProof.Rows Srt
section
variable {prog : Program} {w : World} {A : Around} {E : Value → Shared → Prop} {s : Shared}
theorem sorted_ordT {l : Addr} {vs : List Value} {ltv : Value → Value → Bool} {Q : Value → Shared → Prop} (O : Swo ltv) (hl : s.heap.IsTuple l vs.toArray) (hz : vs.length ≤ sizeLine)
    (hS : 2 ≤ vs.length → ∀ (h₁ : Heap) (a : Addr), h₁.get? a = some (seqObj "list" vs.toArray 0) → (∀ b o, s.heap.get? b = some o → b ≠ a ∧ h₁.get? b = some o) → SortableO prog w A.in1.in1 { s with heap := h₁ } a vs ltv)
    (h : ∀ out : List Value, Srtd ltv out → Stb ltv out vs → Q (.ref (s.heap.objs.size + 1)) { s with heap := sortedAll s.heap vs out.toArray }) :
    wpAny (model prog w) A (call (.builtin "sorted") [.ref l]) Q E s := by
  refine Calls.call_function_entry kind_sorted plain_sorted entry_sorted (args_sorted1 _) ?_
  unfold Builtin.«sorted»
  refine wpAny_bind (m := checkCount "sorted" 1 1 _) (wpAny_pure ?_)
  refine wpAny_bind (PyProof.Rows.collect_tuple' hl ?_ hz)
  refine wpAny_bind (wpAny_newList ?_ hz)
  have hsz : ((s.heap.push (seqObj "list" #[] 0)).update s.heap.objs.size (Obj.mapSeq (· ++ vs.toArray))).objs.size = s.heap.objs.size + 1 := by
    rw [Heap.size_update, size_push']
  have hoL : (((s.heap.push (seqObj "list" #[] 0)).update s.heap.objs.size (Obj.mapSeq (· ++ vs.toArray))).push (seqObj "list" vs.toArray 0)).get? (s.heap.objs.size + 1) = some (seqObj "list" vs.toArray 0) := by
    rw [← hsz]; exact Heap.get?_push_size _ rfl
  have keep : ∀ b o, s.heap.get? b = some o → b ≠ s.heap.objs.size + 1 ∧ (((s.heap.push (seqObj "list" #[] 0)).update s.heap.objs.size (Obj.mapSeq (· ++ vs.toArray))).push (seqObj "list" vs.toArray 0)).get? b = some o := fun b o q => by
    have hlt : b < s.heap.objs.size := Heap.lt_size q
    refine ⟨Nat.ne_of_lt (Nat.lt_succ_of_lt hlt), Heap.get?_push_of_some _ ?_⟩
    rw [Heap.get?_update_ne _ _ _ _ (Nat.ne_of_lt hlt)]
    exact Heap.get?_push_of_some _ q
  show wpAny _ _ _ _ _ { s with heap := ((s.heap.push (seqObj "list" #[] 0)).update s.heap.objs.size (Obj.mapSeq (· ++ vs.toArray))).push (seqObj "list" vs.toArray 0) }
  rw [hsz]
  refine wpAny_bind (wpAny_holding (wpAny_call_entry slot_list_sort ⟨_, hoL, rfl⟩ entry_list_sort (list_sort_ord O hoL hz (fun h2 => hS h2 _ _ hoL keep) fun out hs hb => ⟨_, rfl, ?_⟩) (args_list_sort _)))
  exact wpAny_pure ⟨_, rfl, h out hs hb⟩

end
end SrtO
namespace Tf
open PySem PySem.Spec PyProof.Rows L2
section
variable {X : Cx}
def rSortedIT (K : PySem.W.Frag) : List V → Hp → VK → Prop := fun vs H Q => ∃ (a : Addr) (ns : List Int), vs = [V.ref a] ∧ SqT K H a (ns.map V.int) ∧
  ∀ (ns' : List Int) (p : Addr), ns'.Perm ns → ns'.Pairwise (· ≤ ·) → H p = none → Q (.ref p) (upd H p (.lst (ns'.map V.int)))
theorem cr_sortedIT : CallR X (.builtin "sorted") (rSortedIT X.K) := by
  intro pins s σ H vs us Q I r h
  obtain ⟨a, ns, rfl, hs, q⟩ := h
  obtain ⟨its, rv, hl, hz⟩ := I.tuple hs
  rw [Vals.ref1 r]
  have hi := rv.ints
  refine SrtO.sorted_ordT SrtO.swo_int (show s.heap.IsTuple a its.toArray from hl) (by rw [← rv.length]; exact hz) (fun h2 h₁ a' _ _ => SrtO.ints_sortable hi h2) fun out h1 h2 => ?_
  obtain ⟨k1, k2, k3⟩ := SrtO.ints_out hi h1 h2
  obtain ⟨ep, he'⟩ := PyProof.Rows.sortedAll_at s.heap its out.toArray
  have hlen : ((out.map SrtO.iv).map V.int).length ≤ sizeLine := by
    rw [List.length_map, k2.length_eq]
    rw [List.length_map] at hz
    exact hz
  exact ⟨.ref _, upd H (s.heap.objs.size + 1) (.lst ((out.map SrtO.iv).map V.int)), I.laid (t' := s.toks) (fun _ _ => PyProof.Rows.sortedAll_old) (Nat.le_succ _) ⟨hlen, out, ep, vals_of_ints k1, he'⟩, rfl, q _ _ k2 k3 (I.hok.fresh (Nat.le_succ _))⟩
end
/-- sorted(t), a tuple of ints -/
def srt : Xo1 where
  chk := fun c e => match e with
    | .Call (.Name x _) [u] [] _ => if (decide (x = "sorted") && bltB c x && notStar u) = true then some u else none
    | _ => none
  w := fun x μ _ Q => match x with
    | .tup ds => match intsD ds with
      | some ns => ∀ ms : List Int, ms.Perm ns → ms.Pairwise (· ≤ ·) → Q (.lst (ms.map .int)) μ
      | none => False
    | _ => False
@[simp] theorem srt_ok : srt.Ok := by
  intro c X W e u wa ok h ha
  simp only [srt] at h
  split at h
  · rename_i x p v q
    split at h
    · rename_i z
      cases h
      simp only [Bool.and_eq_true, decide_eq_true_eq] at z
      obtain ⟨⟨rfl, h3⟩, h5⟩ := z
      have g1 := ok.gl (bltB_ok h3).1
      have m1 := ok.fr _ (bltB_ok h3).2
      refine PE_imp (pe_callB cr_sortedIT g1 m1 (by decide +kernel) (pa_cons ha pa_nil (notStar_each h5)) (by decide) (by decide) (notStar_each h5)) fun σ H Q h => ?_
      obtain ⟨δ, G, μ, Φ, E, R, hE, hR, hw, ha, hx⟩ := h
      refine ⟨δ, G, μ, Φ, E, _, hE, hR, hw, fun x μ1 G1 H1 v q1 s1 R1 p1 => ?_, hx⟩
      simp only [srt] at q1
      split at q1
      · rename_i ds
        split at q1
        · rename_i ns en
          cases p1 with
          | tup s q =>
            have e5 := intsD_ok en q
            subst e5
            refine ⟨_, ns, rfl, Same.sqT R1.sub s, fun ms p hp hw hf => ?_⟩
            exact Aft.lst (Aft.mono ha s1) R1 (q1 ms hp hw) RepL.ints p hf
        · exact q1.elim
      · exact q1.elim
    · cases h
  · cases h
/-- [..] * n, a list that changes -/
def mlm : Xo2 where
  chk := fun _ e => match e with
    | .BinOp a .Mult b _ => some (a, b)
    | _ => none
  w := fun x y μ _ Q => match x, y with
    | .lst ds, .int k => -(2 ^ 62) ≤ k ∧ k < 2 ^ 62 ∧ ds.length * k.toNat ≤ sz ∧ ∀ p, μ p = none → Q (.ref p) (mput μ p (List.replicate k.toNat ds).flatten)
    | _, _ => False
@[simp] theorem mlm_ok : mlm.Ok := by
  intro c X W e u v wa wb ok h ha hb
  simp only [mlm] at h
  split at h
  · cases h
    refine PE_imp (pe_op op_rep ha hb) fun σ H Q h => ?_
    obtain ⟨δ, G, μ, Φ, E, R, hE, hR, hw, ha, hx⟩ := h
    refine ⟨δ, G, μ, Φ, E, _, hE, hR, hw, fun x μ1 G1 H1 v q1 s1 R1 p1 => ?_, hx⟩
    refine ⟨δ, G1, μ1, Φ, E, _, hE.mono s1, R1, q1, fun y μ2 G2 H2 u q2 s2 R2 p2 => ?_, hx.mono s1⟩
    simp only [mlm] at q2
    split at q2
    · rename_i ds k
      cases p2
      obtain ⟨w0, w1, w2, w3⟩ := q2
      have p1' := p1.mono s2
      cases p1' with
      | lst s3 r3 =>
        exact ⟨_, _, _, rfl, rfl, R2.sub _ _ s3, by omega, by omega, by rw [← r3.length]; exact szLine w2, fun p hp => ha _ _ G2 _ _ (w3 p (R2.mnone hp)) (s1.trans s2) (R2.newM hp (r3.flatRep _)) (.ref p)⟩
    · exact q2.elim
  · cases h
end Tf

set_option Elab.async false
set_option linter.all false
set_option maxRecDepth 100000
set_option maxHeartbeats 4000000
/-! Tf, ops: the empty dict; repr of a value that may hold it. -/
namespace Tf
open PySem PySem.Spec PyProof.Rows L2
/-- {} -/
def emd : XoA where
  chk := fun _ e => match e with
    | .Dict [] [] _ => some []
    | _ => none
  w := fun xs μ _ Q => match xs with
    | [] => Q (.dct [] []) μ
    | _ => False
mutual
/-- plain things, tuples of them, the empty dict -/
def flatT : D → Bool
  | .non | .bl _ | .int _ | .str _ => true
  | .tup ds => flatTs ds
  | .dct ks ds => ks.isEmpty && ds.isEmpty
  | _ => false
def flatTs : List D → Bool
  | [] => true
  | d :: ds => flatT d && flatTs ds
end
section
variable {X : Cx} {pins : List (Addr × Obj)} {σ : L2.St} {H : Hp} {s : Shared}
mutual
theorem repT (I : Inv X pins σ H s) : ∀ (d : D) (v : V) (u : Value), Rep X.K H d v → RelV v u → flatT d = true → ∃ as, Reads s.heap u (pd d) as ∧ sysModules ∉ as
  | .non, _, _, h, r, _ => by
    cases h
    cases r
    exact ⟨_, by rw [pd]; exact Reads.none, by simp⟩
  | .bl b, _, _, h, r, _ => by
    cases h
    cases r
    exact ⟨_, by rw [pd]; exact Reads.bool b, by simp⟩
  | .int i, _, _, h, r, _ => by
    cases h
    obtain ⟨t, rfl⟩ := r
    exact ⟨_, by rw [pd]; exact Reads.int i t, by simp⟩
  | .str x, _, _, h, r, _ => by
    cases h
    obtain ⟨t, rfl⟩ := r
    exact ⟨_, by rw [pd]; exact Reads.str x t, by simp⟩
  | .tup ds, _, _, h, r, f => by
    cases h with
    | tup hs ha =>
      cases r
      obtain ⟨its, rv, ⟨o, ho, hc, n, hd⟩, _⟩ := I.tuple hs
      obtain ⟨as, hr, hn⟩ := repTs I ds _ its ha rv (by rw [flatT] at f; exact f)
      exact ⟨_, by rw [pd]; exact Reads.tuple ho hc hd hr, hn⟩
  | .dct ks ds, _, _, h, r, f => by
    rw [flatT, Bool.and_eq_true, List.isEmpty_iff, List.isEmpty_iff] at f
    obtain ⟨rfl, rfl⟩ := f
    cases h with
    | dct e _ ha =>
      cases ha
      cases r
      obtain ⟨_, sm, vs, kv, o, es, ep, ho, hx, hd, _, hp, _⟩ := dk_of I.hok e
      have e0 : es.toList = [] := by
        cases kv
        cases h : es.toList with
        | nil => rfl
        | cons a b => rw [h] at hp; cases hp
      have rx := Reads.dict (as := []) (bs := []) (kvs := []) ho hx.1 hd (by rw [e0]; exact .nil) (by rw [e0]; exact .nil)
      refine ⟨_, by simpa [pd, pds] using rx, ?_⟩
      have := beq_eq_false_iff_ne.mp sm
      simp
      exact fun z => this z.symm
  | .lst _, _, _, _, _, f => by simp [flatT] at f
  | .lsf _, _, _, _, _, f => by simp [flatT] at f
  | .ref _, _, _, _, _, f => by simp [flatT] at f
  | .fn _, _, _, _, _, f => by simp [flatT] at f
theorem repTs (I : Inv X pins σ H s) : ∀ (ds : List D) (vs : List V) (us : List Value), RepL X.K H ds vs → Vals vs us → flatTs ds = true → ∃ as, ReadsAll s.heap us (pds ds) as ∧ sysModules ∉ as
  | [], _, _, h, r, _ => by
    cases h
    cases r
    exact ⟨_, by rw [pds]; exact ReadsAll.nil, by simp⟩
  | d :: ds, _, _, h, r, f => by
    rw [flatTs, Bool.and_eq_true] at f
    cases h with
    | cons h1 h2 =>
      cases r with
      | cons r1 r2 =>
        obtain ⟨as, q1, n1⟩ := repT I d _ _ h1 r1 f.1
        obtain ⟨bs, q2, n2⟩ := repTs I ds _ _ h2 r2 f.2
        exact ⟨_, by rw [pds]; exact ReadsAll.cons q1 q2, fun z => by
          rcases List.mem_append.mp z with h | h
          · exact n1 h
          · exact n2 h⟩
end
theorem repr_okT (hg : X.A.guards = some []) (hu : X.A.units + 200 < cLine) : CallR X (.builtin "repr") (fun xs H Q => ∃ v d, xs = [v] ∧ Rep X.K H d v ∧ flatT d = true ∧ (pd d).showable = true ∧ (pd d).depth + 1 ≤ 100 ∧ (pd d).shown.length ≤ sizeLine ∧ Q (.str (pd d).shown) H) := by
  intro pins s σ H xs us Q I r h
  obtain ⟨v, d, rfl, dp, fl, sh, dep, len, q⟩ := h
  obtain ⟨u, rfl, rx⟩ := vals1 r
  obtain ⟨as, rd, nm⟩ := repT I d v u dp rx fl
  have fin : ∀ (h' : Heap) (t : Tok) (tk : Nat), (∀ b o, s.heap.get? b = some o → h'.get? b = some o) → EP X pins σ Q (.str (pd d).shown t) { s with heap := h', toks := tk } := fun h' t tk kp =>
    ⟨.str (pd d).shown, H, I.kept kp, ⟨t, rfl⟩, q⟩
  cases dp with
  | non => cases rx; exact P.repr_of_none (fin s.heap _ _ fun _ _ e => e)
  | bl b => cases rx; exact P.repr_of_bool (fin s.heap _ _ fun _ _ e => e)
  | int i =>
    obtain ⟨t, rfl⟩ := rx
    exact P.repr_of_int (by simpa [pd, PyData.showable] using sh) (fin s.heap _ _ fun _ _ e => e)
  | str x =>
    obtain ⟨t, rfl⟩ := rx
    exact P.repr_of_str (fin s.heap _ _ fun _ _ e => e) (by simpa [pd, PyData.shown] using len)
  | lst a b => simp [flatT] at fl
  | lsf a b => simp [flatT] at fl
  | ref a => simp [flatT] at fl
  | fn x => simp [flatT] at fl
  | tup a b =>
    cases rx
    exact repr_of_reads' rd sh (fun _ => nm) hg (by omega) (fun _ _ e => e) (fun h' t tk kp => fin h' t tk kp) len
  | dct a b c =>
    cases rx
    exact repr_of_reads' rd sh (fun _ => nm) hg (by omega) (fun _ _ e => e) (fun h' t tk kp => fin h' t tk kp) len
end
@[simp] theorem emd_ok : emd.Ok := by
  intro c X W e us wl ok h hl
  simp only [emd] at h
  split at h
  · rename_i pos
    cases h
    refine ⟨fun pins s σ H Q I h Γ p hΓ => ?_⟩
    obtain ⟨δ, G, μ, Φ, E, R, hE, hR, hw, ha, hx⟩ := h
    have a := hl.run pos pins s σ H (fun vs H1 => ∀ p, H1 p = none → Q (.ref p) (upd H1 p (.dK []))) I ⟨δ, G, μ, Φ, E, _, hE, hR, hw, fun ds μ1 G1 H1 vs q1 s1 R1 p1 => by
      simp only [emd] at q1
      split at q1
      · intro a hn
        obtain ⟨s2, R2⟩ := R1.new hn (.dK [])
        exact ha _ μ1 _ _ _ q1 (s1.trans s2) R2 (.dct upd_same rfl .nil)
      · exact q1.elim, hx⟩ Γ p hΓ
    obtain ⟨vs, H1, I1, _, q⟩ := a
    exact pe_dnewK.run pins s σ H1 Q I1 q Γ p hΓ
  · cases h
/-- repr(e), e may hold the empty dict -/
def rpe : Xo1 where
  chk := fun c e => match e with
    | .Call (.Name x _) [u] [] _ => if (decide (x = "repr") && bltB c x && notStar u) = true then some u else none
    | _ => none
  w := fun d μ _ Q => flatT d = true ∧ (pd d).showable = true ∧ (pd d).depth + 1 ≤ 100 ∧ (pd d).shown.length ≤ sz ∧ Q (.str (pd d).shown) μ
@[simp] theorem rpe_ok : rpe.Ok := by
  intro c X W e u wa ok h ha
  simp only [rpe] at h
  split at h
  · rename_i x p v q
    split at h
    · rename_i z
      cases h
      simp only [Bool.and_eq_true, decide_eq_true_eq] at z
      obtain ⟨⟨rfl, h3⟩, h5⟩ := z
      have g1 := ok.gl (bltB_ok h3).1
      have m1 := ok.fr _ (bltB_ok h3).2
      refine PE_imp (pe_callB (repr_okT ok.gd ok.un) g1 m1 (by decide +kernel) (pa_cons ha pa_nil (notStar_each h5)) (by decide) (by decide) (notStar_each h5)) fun σ H Q h => ?_
      obtain ⟨δ, G, μ, Φ, E, R, hE, hR, hw, ha, hx⟩ := h
      refine ⟨δ, G, μ, Φ, E, _, hE, hR, hw, fun d μ1 G1 H1 v q1 s1 R1 p1 => ?_, hx⟩
      simp only [rpe] at q1
      obtain ⟨f, sh, dp, ln, q1⟩ := q1
      exact ⟨v, d, rfl, p1.mono R1.sub, f, sh, dp, szLine ln, ha _ _ G1 _ _ q1 s1 R1 (.str _)⟩
    · cases h
  · cases h
end Tf

set_option Elab.async false
set_option linter.all false
set_option maxRecDepth 100000
set_option maxHeartbeats 4000000
/-! Tf, ops: if xs != []: .. of any items. -/
namespace Tf
open PySem PySem.Spec PyProof.Rows L2
section
variable {X : Cx}
def rNeE (K : PySem.W.Frag) : R2 := fun x y H Q => ∃ a b xs, x = .ref a ∧ y = .ref b ∧ SqL K H a xs ∧ SqL K H b [] ∧ Q (.bl (!xs.isEmpty)) H
theorem op_neE (hu : X.A.units + 64 < cLine) : OpR X (compareOp .NotEq) (rNeE X.K) := by
  intro pins s σ H x y v u Q I rx ry h
  obtain ⟨a, b, xs, rfl, rfl, ha, hb, q⟩ := h
  cases rx
  cases ry
  obtain ⟨its, rv, hl, _⟩ := I.list ha
  obtain ⟨its2, rv2, hl2, _⟩ := I.list hb
  cases rv2
  have fin : wpAny (model X.prog X.w) X.A (compareOp .NotEq (.ref a) (.ref b)) (EP X pins σ Q) X.xe s := by
    cases rv with
    | nil =>
      have := SeqAt.RcNeAt.lists (A := X.A) (s := s) (e := fun _ => true) hl.isList hl2.isList rfl (by omega) (fun j h1 _ => absurd h1 (by simp))
      exact this X.prog X.w _ _ ⟨.bl false, H, I, rfl, q⟩
    | cons r1 r2 =>
      exact SeqAt.RcNeAt.lists_lengths (A := X.A) (s := s) hl.isList hl2.isList (by simp) (by omega) X.prog X.w _ _ ⟨.bl true, H, I, rfl, q⟩
  exact fin
end
section
variable {X : Cx} {W : WX} {a : Expr} {wa : WK D} {pos p2 : Pos}
theorem d_neE (hu : X.A.units + 65 < cLine) (ha : PE X a (tE X.K X.mg W wa)) : PT X (.Compare a [.NotEq] [.List [] p2] pos) (tT X.K X.mg W fun δ μ E Q => wa δ μ E fun x μ1 => match vw μ1 x with | .lst ds => Q (!ds.isEmpty) μ1 | _ => False) :=
  PT_imp (pt_cmpR (op_neE (by omega)) ha (d_lst (m := false) (K := X.K) (mg := X.mg) (W := W) d_nil) rfl) fun σ H Q h => by
    obtain ⟨δ, G, μ, Φ, E, R, hE, hR, hw, ha, hx⟩ := h
    refine ⟨δ, G, μ, Φ, E, _, hE, hR, hw, fun x μ1 G1 H1 v q1 s1 R1 p1 => ?_, hx⟩
    refine ⟨δ, G1, μ1, Φ, E, fun y μ2 => y = .lst [] ∧ μ2 = μ1, hE.mono s1, R1, ⟨by simp, rfl, rfl⟩, fun y μ2 G2 H2 u q2 s2 R2 p2 => ?_, hx.mono s1⟩
    obtain ⟨rfl, rfl⟩ := q2
    have vv := R2.look (p1.mono s2)
    split at q1
    · rename_i ds e
      rw [e] at vv
      cases vv with
      | lst s q =>
        cases p2 with
        | lst t r =>
          cases r
          refine ⟨_, _, _, rfl, rfl, .inl (.inl s), .inl (.inl (R2.sub _ _ t)), ?_⟩
          have e2 : ∀ {vs : List V}, ds.length = vs.length → vs.isEmpty = ds.isEmpty := fun {vs} h => by cases ds <;> cases vs <;> simp_all
          rw [e2 q.length]
          exact ⟨_, rfl, ha _ μ2 G2 H2 _ q1 (s1.trans s2) R2 rfl⟩
    · exact q1.elim
end
/-- if xs != []: .., else: .. -/
def ifne : XoS where
  chk := fun _ t => match t with
    | .If (.Compare a [.NotEq] [.List [] _] _) as bs _ => some ([a], [as, bs])
    | _ => none
  w := fun wes wbs δ μ N => match wes, wbs with
    | [wa], [w1, w2] => wa δ μ N.ex fun x μ1 => match vw μ1 x with
      | .lst ds => (match !ds.isEmpty with | true => w1 δ μ1 N | false => w2 δ μ1 N)
      | _ => False
    | _, _ => False
@[simp] theorem ifne_ok : ifne.Ok := by
  intro c X W st us sts wes wbs ok h he hb
  simp only [ifne] at h
  split at h
  · cases h
    cases he with
    | cons he1 he2 =>
      cases he2
      cases hb with
      | cons hb1 hb2 =>
        cases hb2 with
        | cons hb2 hb3 =>
          cases hb3
          refine PS_imp (s_ite (d_neE (by have := ok.un; omega) (he1 X W (Near.refl X) ok)) (hb1 X W (Near.refl X) ok) (hb2 X W (Near.refl X) ok)) fun D σ H h => ?_
          obtain ⟨δ, G, μ, Φ, N, hE, hR, hw, en⟩ := h
          refine ⟨δ, G, μ, Φ, N, hE, hR, ?_, en⟩
          simp only [ifne] at hw
          exact hw
  · cases h
end Tf

set_option Elab.async false
set_option linter.all false
set_option maxRecDepth 100000
set_option maxHeartbeats 4000000
/-! Tf, ops: list + list, a list that changes. -/
namespace Tf
open PySem PySem.Spec PyProof.Rows L2
/-- xs + ys, a list that changes -/
def mad : Xo2 where
  chk := fun _ e => match e with
    | .BinOp a .Add b _ => some (a, b)
    | _ => none
  w := fun x y μ _ Q => match vw μ x, vw μ y with
    | .lst ds, .lst es => ds.length + es.length ≤ sz ∧ ∀ p, μ p = none → Q (.ref p) (mput μ p (ds ++ es))
    | _, _ => False
@[simp] theorem mad_ok : mad.Ok := by
  intro c X W e u v wa wb ok h ha hb
  simp only [mad] at h
  split at h
  · cases h
    refine PE_imp (pe_op op_cat ha hb) fun σ H Q h => ?_
    obtain ⟨δ, G, μ, Φ, E, R, hE, hR, hw, ha, hx⟩ := h
    refine ⟨δ, G, μ, Φ, E, _, hE, hR, hw, fun x μ1 G1 H1 v q1 s1 R1 p1 => ?_, hx⟩
    refine ⟨δ, G1, μ1, Φ, E, _, hE.mono s1, R1, q1, fun y μ2 G2 H2 u q2 s2 R2 p2 => ?_, hx.mono s1⟩
    simp only [mad] at q2
    have va := R2.look (p1.mono s2)
    have vb := R2.look p2
    split at q2
    · rename_i ds es e1 e2
      rw [e1] at va
      rw [e2] at vb
      obtain ⟨w1, w2⟩ := q2
      cases va with
      | lst a r =>
        cases vb with
        | lst b t =>
          exact ⟨_, _, _, _, rfl, rfl, a, b, by rw [← r.length, ← t.length]; exact szLine w1, fun p hp => ha _ _ G2 _ _ (w2 p (R2.mnone hp)) (s1.trans s2) (R2.newM hp (r.append t)) (.ref p)⟩
    · exact q2.elim
  · cases h
end Tf

set_option Elab.async false
set_option linter.all false
set_option maxRecDepth 100000
set_option maxHeartbeats 4000000
/-! Tf, ops: repr of a value that holds no dict, or no list. -/
namespace Tf
open PySem PySem.Spec PyProof.Rows L2
theorem repr_okE {X : Cx} (hg : X.A.guards = some []) (hu : X.A.units + 200 < cLine) : CallR X (.builtin "repr") (fun xs H Q => ∃ v d, xs = [v] ∧ Rep X.K H d v ∧ (flatT d || flat d) = true ∧ (pd d).showable = true ∧ (pd d).depth + 1 ≤ 100 ∧ (pd d).shown.length ≤ sizeLine ∧ Q (.str (pd d).shown) H) := by
  intro pins s σ H xs us Q I r h
  obtain ⟨v, d, e, dp, fl, sh, dep, len, q⟩ := h
  cases f : flat d with
  | true => exact repr_ok hg hu pins s σ H xs us Q I r ⟨v, pd d, e, dp.dp f, sh, flat_noDict d f, dep, len, q⟩
  | false =>
    rw [f, Bool.or_false] at fl
    exact repr_okT hg hu pins s σ H xs us Q I r ⟨v, d, e, dp, fl, sh, dep, len, q⟩
/-- repr(e), e holds no dict or no list -/
def rpd : Xo1 where
  chk := rpe.chk
  w := fun d μ _ Q => (flatT d || flat d) = true ∧ (pd d).showable = true ∧ (pd d).depth + 1 ≤ 100 ∧ (pd d).shown.length ≤ sz ∧ Q (.str (pd d).shown) μ
@[simp] theorem rpd_ok : rpd.Ok := by
  intro c X W e u wa ok h ha
  simp only [rpd, rpe] at h
  split at h
  · rename_i x p v q
    split at h
    · rename_i z
      cases h
      simp only [Bool.and_eq_true, decide_eq_true_eq] at z
      obtain ⟨⟨rfl, h3⟩, h5⟩ := z
      have g1 := ok.gl (bltB_ok h3).1
      have m1 := ok.fr _ (bltB_ok h3).2
      refine PE_imp (pe_callB (repr_okE ok.gd ok.un) g1 m1 (by decide +kernel) (pa_cons ha pa_nil (notStar_each h5)) (by decide) (by decide) (notStar_each h5)) fun σ H Q h => ?_
      obtain ⟨δ, G, μ, Φ, E, R, hE, hR, hw, ha, hx⟩ := h
      refine ⟨δ, G, μ, Φ, E, _, hE, hR, hw, fun d μ1 G1 H1 v q1 s1 R1 p1 => ?_, hx⟩
      simp only [rpd] at q1
      obtain ⟨f, sh, dp, ln, q1⟩ := q1
      exact ⟨v, d, rfl, p1.mono R1.sub, f, sh, dp, szLine ln, ha _ _ G1 _ _ q1 s1 R1 (.str _)⟩
    · cases h
  · cases h
end Tf

set_option Elab.async false
set_option linter.all false
set_option maxRecDepth 100000
set_option maxHeartbeats 4000000
/-! Tf, ops: repr of a list display; if not isinstance(..) or x == () or not isinstance(..). -/
namespace Tf
open PySem PySem.Spec PyProof.Rows L2
section
variable {X : Cx} {es : List Expr} {t : TA} {pos : Pos}
/-- a list display: its address is new -/
def tLstN (t : TA) : TE := fun σ H Q => t σ H fun xs H1 => xs.length ≤ sizeLine ∧ ∀ p, H1 p = none → p ≠ sysModules → Q (.ref p) (upd H1 p (.lst xs))
theorem pe_lstN (h : PA X es t) : PE X (.List es pos) (tLstN t) := by
  refine ⟨fun pins s σ H Q I hq => ?_⟩
  refine wpAny_List_spliced (thn (h.run pos pins s σ H _ I hq) fun us s1 ⟨xs, H1, I1, r, z, q⟩ => ⟨by rw [← r.length]; exact z, ?_⟩)
  have hf : H1 s1.heap.objs.size = none := I1.hok.fresh (Nat.le_refl _)
  refine ⟨.ref s1.heap.objs.size, upd H1 s1.heap.objs.size (.lst xs), I1.laid (t' := s1.toks) (fun b u e => Heap.get?_push_of_some _ e) (Nat.le_refl _) ?_, rfl, q _ hf (Nat.ne_of_gt I1.big)⟩
  exact ⟨z, us, 0, r, Heap.get?_push_size _ rfl⟩
theorem repr_okL (hg : X.A.guards = some []) (hu : X.A.units + 200 < cLine) : CallR X (.builtin "repr") (fun xs H Q => ∃ a vs ds, xs = [.ref a] ∧ a ≠ sysModules ∧ H a = some (.lst vs) ∧ RepL X.K H ds vs ∧ (flatTs ds || flats ds) = true ∧ (pd (.lst ds)).showable = true ∧ (pd (.lst ds)).depth + 1 ≤ 100 ∧ (pd (.lst ds)).shown.length ≤ sizeLine ∧ Q (.str (pd (.lst ds)).shown) H) := by
  intro pins s σ H xs us Q I r h
  obtain ⟨a, vs, ds, e, na, ha, rl, fl, sh, dep, len, q⟩ := h
  cases f : flats ds with
  | true =>
    have ff : flat (.lst ds) = true := by rw [flat]; exact f
    exact repr_ok hg hu pins s σ H xs us Q I r ⟨.ref a, pd (.lst ds), e, (Rep.lst ha rl).dp ff, sh, flat_noDict _ ff, dep, len, q⟩
  | false =>
    rw [f, Bool.or_false] at fl
    subst e
    obtain ⟨u, rfl, rx⟩ := vals1 r
    cases rx
    obtain ⟨its, rv, ⟨o, n, ho, hc, _, hd⟩, _⟩ := I.list (.inl (.inl ha))
    obtain ⟨as, hr, hn⟩ := repTs I ds _ its rl rv fl
    have rd : Reads s.heap (.ref a) (pd (.lst ds)) (a :: as) := by rw [pd]; exact Reads.list ho hc hd hr
    exact repr_of_reads' rd sh (fun _ z => by
      rcases List.mem_cons.mp z with h | h
      · exact na h.symm
      · exact hn h) hg (by omega) (fun _ _ e => e) (fun h' t tk kp => ⟨.str (pd (.lst ds)).shown, H, I.kept kp, ⟨t, rfl⟩, q⟩) len
end
/-- repr([..]), its items hold no dict or no list -/
def rpl : XoA where
  chk := fun c e => match e with
    | .Call (.Name x _) [.List es _] [] _ => if (decide (x = "repr") && bltB c x) = true then some es else none
    | _ => none
  w := fun ds μ _ Q => ds.length ≤ sz ∧ (flatTs ds || flats ds) = true ∧ (pd (.lst ds)).showable = true ∧ (pd (.lst ds)).depth + 1 ≤ 100 ∧ (pd (.lst ds)).shown.length ≤ sz ∧ Q (.str (pd (.lst ds)).shown) μ
@[simp] theorem rpl_ok : rpl.Ok := by
  intro c X W e us wl ok h hl
  simp only [rpl] at h
  split at h
  · split at h
    · rename_i z
      cases h
      simp only [Bool.and_eq_true, decide_eq_true_eq] at z
      obtain ⟨rfl, h3⟩ := z
      have g1 := ok.gl (bltB_ok h3).1
      have m1 := ok.fr _ (bltB_ok h3).2
      refine PE_imp (pe_callB (repr_okL ok.gd ok.un) g1 m1 (by decide +kernel) (pa_cons (pe_lstN hl) pa_nil (notStar_each rfl)) (by decide) (by decide) (notStar_each rfl)) fun σ H Q h => ?_
      obtain ⟨δ, G, μ, Φ, E, R, hE, hR, hw, ha, hx⟩ := h
      refine ⟨δ, G, μ, Φ, E, _, hE, hR, hw, fun ds μ1 G1 H1 vs q1 s1 R1 p1 => ?_, hx⟩
      simp only [rpl] at q1
      obtain ⟨hz, f, sh, dp, ln, q1⟩ := q1
      refine ⟨by rw [← p1.length]; exact szLine hz, fun p hp np => ?_⟩
      obtain ⟨s2, R2⟩ := R1.new hp (.lst vs)
      exact ⟨p, vs, ds, rfl, np, upd_same, (p1.mono s2).mono R2.sub, f, sh, dp, szLine ln, ha _ _ _ _ _ q1 (s1.trans s2) R2 (.str _)⟩
    · cases h
  · cases h
section
variable {X : Cx}
def rEqE (K : PySem.W.Frag) : R2 := fun x y H Q => ∃ a b xs, x = .ref a ∧ y = .ref b ∧ SqT K H a xs ∧ SqT K H b [] ∧ Q (.bl xs.isEmpty) H
theorem op_eqE (hu : X.A.units + 64 < cLine) : OpR X (compareOp .Eq) (rEqE X.K) := by
  intro pins s σ H x y v u Q I rx ry h
  obtain ⟨a, b, xs, rfl, rfl, ha, hb, q⟩ := h
  cases rx
  cases ry
  obtain ⟨its, rv, hl, _⟩ := I.tuple ha
  obtain ⟨its2, rv2, hl2, _⟩ := I.tuple hb
  cases rv2
  refine SeqAt.eq_tupleAt (e := fun _ => true) hl hl2 (by omega) (fun j h1 h2 => absurd h2 (by simp)) ⟨.bl xs.isEmpty, H, I, ?_, q⟩
  cases rv with
  | nil => rfl
  | cons r1 r2 => simp; rfl
end
section
variable {X : Cx} {W : WX} {a : Expr} {wa : WK D} {pos p2 : Pos} {k2 : Nat}
theorem d_eqE (hu : X.A.units + 65 < cLine) (ha : PE X a (tE X.K X.mg W wa)) : PT X (.Compare a [.Eq] [.Tuple [] k2 p2] pos) (tT X.K X.mg W fun δ μ E Q => wa δ μ E fun x μ1 => match vw μ1 x with | .tup ds => Q ds.isEmpty μ1 | _ => False) :=
  PT_imp (pt_cmpR (op_eqE (by omega)) ha (d_tup (K := X.K) (mg := X.mg) (W := W) d_nil) rfl) fun σ H Q h => by
    obtain ⟨δ, G, μ, Φ, E, R, hE, hR, hw, ha, hx⟩ := h
    refine ⟨δ, G, μ, Φ, E, _, hE, hR, hw, fun x μ1 G1 H1 v q1 s1 R1 p1 => ?_, hx⟩
    refine ⟨δ, G1, μ1, Φ, E, fun y μ2 => y = .tup [] ∧ μ2 = μ1, hE.mono s1, R1, ⟨by simp, rfl, rfl⟩, fun y μ2 G2 H2 u q2 s2 R2 p2 => ?_, hx.mono s1⟩
    obtain ⟨rfl, rfl⟩ := q2
    have vv := R2.look (p1.mono s2)
    split at q1
    · rename_i ds e
      rw [e] at vv
      cases vv with
      | tup s q =>
        cases p2 with
        | tup t r =>
          cases r
          refine ⟨_, _, _, rfl, rfl, Same.sqT R2.sub s, Same.sqT R2.sub t, ?_⟩
          have e2 : ∀ {vs : List V}, ds.length = vs.length → vs.isEmpty = ds.isEmpty := fun {vs} h => by cases ds <;> cases vs <;> simp_all
          rw [e2 q.length]
          exact ⟨_, rfl, ha _ μ2 G2 H2 _ q1 (s1.trans s2) R2 rfl⟩
    · exact q1.elim
end
/-- if not a or x == () or not b: .., else: .. -/
def ifo : XoS where
  chk := fun _ t => match t with
    | .If (.BoolOp .Or [.UnaryOp .Not c1 _, .Compare v [.Eq] [.Tuple [] _ _] _, .UnaryOp .Not c3 _] _) as bs _ => if (plainT c1 && plainT c3) = true then some ([c1, v, c3], [as, bs]) else none
    | _ => none
  w := fun wes wbs δ μ N => match wes, wbs with
    | [w1, w2, w3], [wa, wb] => (fun (Kf : Bool → Mu → Prop) => w1 δ μ N.ex fun x μ1 => match truth (vw μ1 x) with
      | some k => (fun k μ1 => match k with
        | true => Kf true μ1
        | false => w2 δ μ1 N.ex fun y μ2 => match vw μ2 y with
          | .tup ds => (fun k μ2 => match k with
            | true => Kf true μ2
            | false => w3 δ μ2 N.ex fun z μ3 => match truth (vw μ3 z) with
              | some k => (fun k μ3 => match k with | true => Kf true μ3 | false => Kf false μ3) (!k) μ3
              | none => False) ds.isEmpty μ2
          | _ => False) (!k) μ1
      | none => False) fun k μ1 => match k with | true => wa δ μ1 N | false => wb δ μ1 N
    | _, _ => False
@[simp] theorem ifo_ok : ifo.Ok := by
  intro c X W st us sts wes wbs ok h he hb
  simp only [ifo] at h
  split at h
  · split at h
    · rename_i z
      cases h
      rw [Bool.and_eq_true] at z
      cases he with
      | cons he1 he2 =>
        cases he2 with
        | cons he2 he3 =>
          cases he3 with
          | cons he3 he4 =>
            cases he4
            cases hb with
            | cons hb1 hb2 =>
              cases hb2 with
              | cons hb2 hb3 =>
                cases hb3
                have n := Near.refl X
                have t1 := fun p => d_notT (pos := p) (d_tru z.1 (he1 X W n ok))
                have t2 := fun p p2 k2 => d_eqE (pos := p) (p2 := p2) (k2 := k2) (by have := ok.un; omega) (he2 X W n ok)
                have t3 := fun p => d_notT (pos := p) (d_tru z.2 (he3 X W n ok))
                refine PS_imp (s_ite (d_orC (t1 _) (d_orC (t2 _ _ _) (d_or1 (xs := []) (t3 _)))).pt (hb1 X W n ok) (hb2 X W n ok)) fun D σ H h => ?_
                obtain ⟨δ, G, μ, Φ, N, hE, hR, hw, en⟩ := h
                refine ⟨δ, G, μ, Φ, N, hE, hR, ?_, en⟩
                simp only [ifo] at hw
                exact hw
    · cases h
  · cases h
end Tf

set_option Elab.async false
set_option linter.all false
set_option maxRecDepth 100000
set_option maxHeartbeats 4000000
/-! Tf, ops: a dict display of constants; repr of any settled value. -/
namespace Tf
open PySem PySem.Spec PyProof.Rows L2
/-- repr(e), e any settled value -/
def rpm : Xo1 where
  chk := rpe.chk
  w := fun d μ _ Q => flatM d = true ∧ (pd d).showable = true ∧ (pd d).depth + 1 ≤ 100 ∧ (pd d).shown.length ≤ sz ∧ Q (.str (pd d).shown) μ
@[simp] theorem rpm_w (d : D) (μ : Mu) (E : XPost) (Q : Post) : rpm.w d μ E Q = (flatM d = true ∧ (pd d).showable = true ∧ (pd d).depth + 1 ≤ 100 ∧ (pd d).shown.length ≤ sz ∧ Q (.str (pd d).shown) μ) := rfl
@[simp] theorem rpm_ok : rpm.Ok := by
  intro c X W e u wa ok h ha
  simp only [rpm, rpe] at h
  split at h
  · rename_i x p v q
    split at h
    · rename_i z
      cases h
      simp only [Bool.and_eq_true, decide_eq_true_eq] at z
      obtain ⟨⟨rfl, h3⟩, h5⟩ := z
      have g1 := ok.gl (bltB_ok h3).1
      have m1 := ok.fr _ (bltB_ok h3).2
      refine PE_imp (pe_callB (repr_okM ok.sm ok.gd ok.un) g1 m1 (by decide +kernel) (pa_cons ha pa_nil (notStar_each h5)) (by decide) (by decide) (notStar_each h5)) fun σ H Q h => ?_
      obtain ⟨δ, G, μ, Φ, E, R, hE, hR, hw, ha, hx⟩ := h
      refine ⟨δ, G, μ, Φ, E, _, hE, hR, hw, fun d μ1 G1 H1 v q1 s1 R1 p1 => ?_, hx⟩
      simp only [rpm] at q1
      obtain ⟨f, sh, dp, ln, q1⟩ := q1
      exact ⟨v, d, rfl, p1.mono R1.sub, f, sh, dp, szLine ln, ha _ _ G1 _ _ q1 s1 R1 (.str _)⟩
    · cases h
  · cases h
/-- a dict display of constants -/
def dcd (ks : List Str) (vs : List D) : XoA where
  chk := fun _ e => match e with
    | .Dict keys vals _ => if (dkB ks vs keys vals && decide ks.Nodup && !ks.isEmpty && decide (ks.length ≤ 15)) = true then some [] else none
    | _ => none
  w := fun xs μ _ Q => match xs with
    | [] => Q (.dct ks vs) μ
    | _ => False
@[simp] theorem dcd_w (ks : List Str) (vs : List D) (μ : Mu) (E : XPost) (Q : Post) : (dcd ks vs).w [] μ E Q = Q (.dct ks vs) μ := rfl
@[simp] theorem dcd_ok (ks : List Str) (vs : List D) : (dcd ks vs).Ok := by
  intro c X W e us wl ok h hl
  simp only [dcd] at h
  split at h
  · rename_i keys vals pos
    split at h
    · rename_i z
      cases h
      simp only [Bool.and_eq_true, decide_eq_true_eq, Bool.not_eq_true', List.isEmpty_eq_false_iff] at z
      obtain ⟨⟨⟨hk, nd⟩, h0⟩, h15⟩ := z
      obtain ⟨us, trs, q1, q2, q3, q4, q5, q6, q7⟩ := dk_ok (X := X) (K := X.K) (pos := pos) hk
      refine ⟨fun pins s σ H Q I h Γ p hΓ => ?_⟩
      obtain ⟨δ, G, μ, Φ, E, R, hE, hR, hw, ha, hx⟩ := h
      have a := hl.run pos pins s σ H (fun _ H1 => tDisp trs σ H1 Q) I ⟨δ, G, μ, Φ, E, _, hE, hR, hw, fun ds μ1 G1 H1 vs1 r1 s1 R1 p1 => by
        simp only [dcd] at r1
        split at r1
        · intro pp hpp
          refine q2 σ _ _ ⟨upd_same, (ks.zip us).map fun kv => ((Sum.inr kv.1 : Key), kv.2), by simp [kV], by rw [List.length_map, List.length_zip]; omega, ?_⟩
          have em : mergeK [] ((ks.zip us).map fun kv => ((Sum.inr kv.1 : Key), kv.2)) = (ks.zip us).map fun kv => ((Sum.inr kv.1 : Key), kv.2) := merge_new (by
            rw [List.nil_append, List.map_map]
            have : ((ks.zip us).map ((fun kv : Key × V => kv.1) ∘ fun kv : Str × V => ((Sum.inr kv.1 : Key), kv.2))) = ks.map Sum.inr := by
              rw [show ((fun kv : Key × V => kv.1) ∘ fun kv : Str × V => ((Sum.inr kv.1 : Key), kv.2)) = Sum.inr ∘ Prod.fst from rfl, ← List.map_map, List.map_fst_zip (by omega)]
            rw [this]
            exact List.pairwise_map.mpr (List.Pairwise.imp (fun n q => n (Sum.inr.inj q)) nd))
          rw [em]
          obtain ⟨s0, R0⟩ := R1.new hpp (.dK ((ks.map Sum.inr).zip us))
          have ez : ((ks.zip us).map fun kv => ((Sum.inr kv.1 : Key), kv.2)) = (ks.map Sum.inr).zip us := by
            rw [List.zip_map_left]
            rfl
          rw [ez, show upd (upd H1 pp (.dK [])) pp (.dK ((ks.map Sum.inr).zip us)) = upd H1 pp (.dK ((ks.map Sum.inr).zip us)) from by funext b; unfold upd; split <;> rfl]
          exact ha _ μ1 _ _ _ r1 (s1.trans s0) R0 (.dct upd_same (by omega) (q7 _))
        · exact r1.elim, hx⟩ Γ p hΓ
      obtain ⟨vs1, H1, I1, _, q⟩ := a
      exact (pe_disp q1 q3 q4 (fun z => h0 (by rw [z] at q5; exact List.length_eq_zero_iff.mp q5.symm)) (by rw [q5]; exact h15)).run pins s σ H1 Q I1 q Γ p hΓ
    · cases h
  · cases h
end Tf

set_option Elab.async false
set_option linter.all false
set_option maxRecDepth 100000
set_option maxHeartbeats 1000000
namespace Tf.B
open PySem PySem.Spec PyProof.Rows L2
/-- a value whose text has room -/
structure Sx (h n : Nat) (d : D) : Prop where
  sh : (pd d).showable = true
  de : (pd d).depth ≤ h
  we : (pd d).shown.length ≤ n
structure SxL (h n : Nat) (ds : List D) : Prop where
  sh : PyData.showableAll (pds ds) = true
  de : PyData.depthAll (pds ds) ≤ h
  we : ((PyData.shownAll (pds ds)).map (·.length)).sum + 2 * (pds ds).length ≤ n
theorem Tx.sx {h n : Nat} {d : D} (t : Tx h n d) : Sx h n d := ⟨t.sh, t.de, t.we⟩
theorem Sx.mono {h n h' n' : Nat} {d : D} (f : Sx h n d) (a : h ≤ h') (b : n ≤ n') : Sx h' n' d := ⟨f.sh, Nat.le_trans f.de a, Nat.le_trans f.we b⟩
theorem SxL.nil {h : Nat} : SxL h 0 [] := ⟨by simp [pds, PyData.showableAll], by simp [pds, PyData.depthAll], by simp [pds, PyData.shownAll]⟩
theorem SxL.mono {h n h' n' : Nat} {d : List D} (f : SxL h n d) (a : h ≤ h') (b : n ≤ n') : SxL h' n' d := ⟨f.sh, Nat.le_trans f.de a, Nat.le_trans f.we b⟩
theorem SxL.cons {h n m : Nat} {d : D} {ds : List D} (f : Sx h n d) (g : SxL h m ds) : SxL h (n + 2 + m) (d :: ds) where
  sh := by simp [pds, PyData.showableAll, f.sh, g.sh]
  de := by simp only [pds, PyData.depthAll]; exact Nat.max_le.mpr ⟨f.de, g.de⟩
  we := by simp only [pds, PyData.shownAll, List.map_cons, List.sum_cons, List.length_cons]; have := f.we; have := g.we; omega
theorem SxL.all {h n : Nat} : ∀ {ds : List D}, (∀ d ∈ ds, Sx h n d) → SxL h (ds.length * (n + 2)) ds
  | [], _ => SxL.nil.mono (Nat.le_refl _) (by simp)
  | d :: ds, q => by
    have r := SxL.cons (q d List.mem_cons_self) (SxL.all (ds := ds) fun e he => q e (List.mem_cons_of_mem _ he))
    have e : n + 2 + ds.length * (n + 2) = (d :: ds).length * (n + 2) := by rw [List.length_cons, Nat.add_mul, Nat.one_mul, Nat.add_comm]
    rw [e] at r
    exact r
theorem Sx.tup {h n : Nat} {ds : List D} (f : SxL h n ds) : Sx (h + 1) (n + 3) (.tup ds) :=
  ⟨by simp only [pd, PyData.showable]; exact f.sh, by simp only [pd, PyData.depth]; exact Nat.succ_le_succ f.de, by
    simp only [pd, PyData.shown]
    have := tupleText_len_le (PyData.shownAll (pds ds))
    have := f.we
    have := PyData.shownAll_length (pds ds)
    omega⟩
theorem Sx.lst {h n : Nat} {ds : List D} (f : SxL h n ds) : Sx (h + 1) (n + 3) (.lst ds) :=
  ⟨by simp only [pd, PyData.showable]; exact f.sh, by simp only [pd, PyData.depth]; exact Nat.succ_le_succ f.de, by
    simp only [pd, PyData.shown]
    have := listText_len_le (PyData.shownAll (pds ds))
    have := f.we
    have := PyData.shownAll_length (pds ds)
    omega⟩
/-- any settled value whose text has room -/
structure Any (d : D) : Prop where
  fl : flatM d = true
  sx : Sx 4 300 d
  nr : noRef d
/-- repr of it has room -/
structure ReprM (d : D) : Prop where
  fl : flatM d = true
  sh : (pd d).showable = true
  de : (pd d).depth + 1 ≤ 100
  le : (pd d).shown.length ≤ sz
def NoNum (v : D) : Ex := ⟨"BadNumber", [("value", v)]⟩
def okN (v : D) : Bool := isIn v 0 (10 ^ 25)
/-- what these functions may return -/
def FRes (r : Rg) (d : D) : Prop := (∃ x : Int, 0 ≤ x ∧ d = .int x) ∨ ∃ (x : Int) (b : Bool), 0 ≤ x ∧ x < r.n ∧ d = .tup [.int x, .bl b]
def isWh (d : D) : Bool := match d with | .int _ => true | _ => false
def fns : List Str := ["passes_in", "steps_for", "raised_among", "pass_at"]
def s_need_number : Spec := fun ds μ R E => ∃ v : D, ds = [v] ∧ noRef v ∧ (okN v = true → R .non μ) ∧ (okN v = false → E (NoNum v) μ)
def s_passes_in : Spec := fun ds μ R E => ∃ (r : Rg) (v : D), ds = [r.st.d, v] ∧ r.fit ∧ noRef v ∧ (okN v = true → ∀ d, FRes r d → R d μ) ∧ (okN v = false → E (NoNum v) μ)
def s_steps_for : Spec := fun ds μ R E => ∃ (r : Rg) (v : D), ds = [r.st.d, v] ∧ r.fit ∧ noRef v ∧ (okN v = true → ∀ d, FRes r d → R d μ) ∧ (okN v = false → E (NoNum v) μ)
def s_raised_among : Spec := fun ds μ R E => ∃ (r : Rg) (v : D), ds = [r.st.d, v] ∧ r.fit ∧ noRef v ∧ (okN v = true → ∀ d, FRes r d → R d μ) ∧ (okN v = false → E (NoNum v) μ)
def s_pass_at : Spec := fun ds μ R E => ∃ (r : Rg) (v : D), ds = [r.st.d, v] ∧ r.fit ∧ noRef v ∧ (okN v = true → ∀ d, FRes r d → R d μ) ∧ (okN v = false → E (NoNum v) μ)
def s_law_odd : Spec := fun ds μ R _ => ∃ p q n, ds = [.ref p] ∧ Deck p q n μ ∧ n < 2 ^ 39 ∧ ∀ x μ', Any x → Deck p q (n + 1) μ' → Rest p q μ μ' → R x μ'
def s_law_told : Spec := fun ds μ R _ => ∃ (y : Str) (r : Rg) (v : D), ds = [.fn y, r.st.d, v] ∧ y ∈ fns ∧ r.fit ∧ noRef v ∧ (okN v = true → ∀ d, FRes r d → R d μ) ∧ (okN v = false → R (.lst [v, .bl true]) μ)
def s_law_whole : Spec := fun ds μ R _ => ∃ v : D, ds = [v] ∧ noRef v ∧ R (.bl (isWh v)) μ
def s_law_right : Spec := fun ds μ R _ => ∃ (y : Str) (r : Rg) (v : D), ds = [.fn y, r.st.d, v] ∧ y ∈ fns ∧ r.fit ∧ Any v ∧ R (.bl true) μ
def s_law : Spec := fun ds μ R _ => ∃ ns : List Int, ds = [.lsf (ns.map .int)] ∧ ns.length ≤ 63 ∧ ∀ μ', R (.bl true) μ'
def n_need_number : List Str := ["value"]
def i_need_number : List IS := [.ite (.not (.tru (.call "is_between" s_is_between [.var 0, .cst (.int 0), .glb "MAX_STEPS" (.int 10000000000000000000000000)]))) [.raise "BadNumber" "value" (.var 0)] []]
def n_passes_in : List Str := ["state", "steps"]
def i_passes_in : List IS := [.exp (.call "need_number" s_need_number [.var 1]), .ret (.call "steps_within" s_steps_within [.call "word_of" s_word_of [.var 0], .bop .add (.call "phase_of" s_phase_of [.var 0]) (.var 1)])]
def n_steps_for : List Str := ["state", "number"]
def i_steps_for : List IS := [.exp (.call "need_number" s_need_number [.var 1]), .ret (.blt .max2 [.cst (.int 0), .bop .sub (.call "steps_before" s_steps_before [.call "word_of" s_word_of [.var 0], .var 1]) (.call "phase_of" s_phase_of [.var 0])])]
def n_raised_among : List Str := ["state", "number"]
def i_raised_among : List IS := [.exp (.call "need_number" s_need_number [.var 1]), .ret (.call "ones_before" s_ones_before [.call "word_of" s_word_of [.var 0], .var 1])]
def n_pass_at : List Str := ["state", "index", "way", "spot", "phase"]
def i_pass_at : List IS := [.exp (.call "need_number" s_need_number [.var 1]), .asg (.tp [.nm 2, .nm 3, .nm 4]) (.call "heading_of" s_heading_of [.var 0]), .ret (.tup [.call "place_on" s_place_on [.sub (.var 0) (.cst (.int 0)), .var 3, .var 2, .var 1], .cmp .eq (.call "number_at" s_number_at [.call "word_of" s_word_of [.var 0], .var 1]) (.cst (.int 1))])]
def n_law_odd : List Str := ["_law_deck_here", "_law_some"]
def i_law_odd : List IS := [.asg (.nm 1) (.lst false [.cst (.non), .cst (.bl true), .cst (.bl false), .neg (.cst (.int 1)), .cst (.int 0), .cst (.int 1), .cst (.int 7), .bop .pow (.cst (.int 10)) (.cst (.int 25)), .bop .add (.bop .pow (.cst (.int 10)) (.cst (.int 25))) (.cst (.int 1)), .neg (.bop .pow (.cst (.int 10)) (.cst (.int 25))), .bop .pow (.cst (.int 10)) (.cst (.int 39)), .cst (.str ""), .cst (.str "1")]), .ret (.sub (.bop .add (.var 1) (.lst false [.cst (.str "right"), .tup [], .tup [.cst (.int 1)], .lst false [], .lst false [.cst (.int 0)], .xa emd [], .xa (dcd ["a"] [.int 1]) [], .tup [.cst (.int 0), .cst (.bl true)]])) (.call "_law_draw" s_law_draw [.var 0, .cst (.int 21)]))]
def n_law_whole : List Str := ["_law_value"]
def i_law_whole : List IS := [.ret (.ands [.isi "int" (.var 0), .not (.isi "bool" (.var 0))])]
def n_law_told : List Str := ["_law_call", "_law_now", "_law_value", "_law_found", "error", "_law_others"]
def i_law_told : List IS := [.asg (.nm 3) (.cst (.non)), .tryx [("BadNumber", "value", ["TurnError", "BadNumber", "ValueError"], ["NoPlace", "BadEnd", "BadState", "BadWay", "TooLarge"])] [.asg (.nm 3) (.calll 0 [("passes_in", s_passes_in), ("steps_for", s_steps_for), ("raised_among", s_raised_among), ("pass_at", s_pass_at)] [.var 1, .var 2])] [("TurnError", 4, [.asg 3 (.lst [.cst (.str "other")]), .asg 5 (.isi ["BadEnd", "BadState", "BadWay", "TooLarge", "NoPlace"]), .ite (.and_ (.isi ["BadNumber"]) (.not_ (.var 5))) [.asg 3 (.lst [.fld "value", .isi ["ValueError"]])] []]), ("NoPlace", 4, [.asg 3 (.lst [.cst (.str "other")]), .asg 5 (.isi ["BadEnd", "BadState", "BadWay", "TooLarge", "NoPlace"]), .ite (.and_ (.isi ["BadNumber"]) (.not_ (.var 5))) [.asg 3 (.lst [.fld "value", .isi ["ValueError"]])] []])], .ret (.var 3)]
def n_law_right : List Str := ["_law_call", "_law_now", "_law_value", "_law_found"]
def i_law_right : List IS := [.asg (.nm 3) (.call "_law_told" s_law_told [.var 0, .var 1, .var 2]), .ite (.ors [.not (.tru (.call "_law_whole" s_law_whole [.var 2])), .not (.chain .le .le (.cst (.int 0)) (.var 2) (.bop .pow (.cst (.int 10)) (.cst (.int 25))))]) [.ret (.cmp .eq (.x1 rpm (.var 3)) (.x1 rpm (.lst false [.var 2, .cst (.bl true)])))] [], .ite (.tru (.isi "tuple" (.var 3))) [.ret (.ands [.cmp .eq (.blt .len [.var 3]) (.cst (.int 2)), .isi "bool" (.sub (.var 3) (.cst (.int 1))), .call "_law_whole" s_law_whole [.sub (.var 3) (.cst (.int 0))], .chain .le .lt (.cst (.int 0)) (.sub (.var 3) (.cst (.int 0))) (.sub (.var 1) (.cst (.int 0)))])] [], .ret (.ands [.call "_law_whole" s_law_whole [.var 3], .cmp .ge (.var 3) (.cst (.int 0))])]
@[simp] theorem emd_w (μ : Mu) (E : XPost) (Q : Post) : emd.w [] μ E Q = Q (.dct [] []) μ := rfl
theorem isIn_int {v : D} {lo hi : Int} (h : isIn v lo hi = true) : ∃ x, v = .int x ∧ lo ≤ x ∧ x ≤ hi := by
  unfold isIn at h
  split at h
  · rename_i x
    exact ⟨x, rfl, of_decide_eq_true h⟩
  · cases h
theorem k_need_number : Keeps n_need_number i_need_number s_need_number := by
  rintro ds μ R E ⟨v, rfl, nr, q1, q2⟩
  simp only [n_need_number, i_need_number]
  refine step ?_
  simp
  refine ⟨v, _, _, rfl, nr, ?_⟩
  have e : okN v = isIn v 0 10000000000000000000000000 := rfl
  rw [← e]
  by_cases c : okN v = true
  · rw [c]
    simp
    exact rt_ok (q1 c)
  · have c' : okN v = false := by simpa using c
    rw [c']
    simp
    refine step ?_
    simp only [wS]
    simp
    exact q2 c'
theorem k_passes_in : Keeps n_passes_in i_passes_in s_passes_in := by
  rintro ds μ R E ⟨r, v, rfl, k, nr, q1, q2⟩
  obtain ⟨_, _, h3⟩ := r.hd_ok k.ok
  simp only [n_passes_in, i_passes_in]
  refine step ?_
  simp
  refine ⟨v, rfl, nr, fun c => ?_, fun c => q2 c⟩
  obtain ⟨t, rfl, h0, h1⟩ := isIn_int c
  have q := q1 c
  have wn := Rg.W_nn k.ok h0
  refine step ?_
  simp
  refine ⟨r, rfl, k, r.st, rfl, st_ok k, ?_⟩
  rw [st_hd k.ok]
  simp
  refine ⟨_, _, _, rfl, k.wf, by unfold sml; omega, rt_ok (q _ (.inl ⟨_, ?_, rfl⟩))⟩
  exact wn.1
theorem k_steps_for : Keeps n_steps_for i_steps_for s_steps_for := by
  rintro ds μ R E ⟨r, v, rfl, k, nr, q1, q2⟩
  obtain ⟨_, _, h3⟩ := r.hd_ok k.ok
  simp only [n_steps_for, i_steps_for]
  refine step ?_
  simp
  refine ⟨v, rfl, nr, fun c => ?_, fun c => q2 c⟩
  obtain ⟨t, rfl, h0, h1⟩ := isIn_int c
  have q := q1 c
  refine step ?_
  simp
  refine ⟨r, rfl, k, _, _, _, rfl, k.wf, by unfold sml; omega, r.st, rfl, st_ok k, ?_⟩
  rw [st_hd k.ok]
  simp
  refine rt_ok (q _ (.inl ⟨_, ?_, rfl⟩))
  split <;> omega
theorem k_raised_among : Keeps n_raised_among i_raised_among s_raised_among := by
  rintro ds μ R E ⟨r, v, rfl, k, nr, q1, q2⟩
  simp only [n_raised_among, i_raised_among]
  refine step ?_
  simp
  refine ⟨v, rfl, nr, fun c => ?_, fun c => q2 c⟩
  obtain ⟨t, rfl, h0, h1⟩ := isIn_int c
  have q := q1 c
  have sr := Rg.S_rng k.ok h0
  refine step ?_
  simp
  exact ⟨r, rfl, k, _, _, _, rfl, k.wf, by unfold sml; omega, rt_ok (q _ (.inl ⟨_, sr.1, rfl⟩))⟩
theorem k_pass_at : Keeps n_pass_at i_pass_at s_pass_at := by
  rintro ds μ R E ⟨r, v, rfl, k, nr, q1, q2⟩
  have hn := k.ok.n2
  have hst : r.st.d = .tup [.int r.n, pairsD (prs (tab r.n r.up)), .int r.pl, side r.rt] := rfl
  simp only [n_pass_at, i_pass_at]
  refine step ?_
  simp
  refine ⟨v, rfl, nr, fun c => ?_, fun c => q2 c⟩
  obtain ⟨t, rfl, h0, h1⟩ := isIn_int c
  have q := q1 c
  refine step ?_
  simp
  refine ⟨r.st, rfl, st_ok k, ?_⟩
  rw [st_hd k.ok, hst]
  simp
  refine step ?_
  simp
  rw [← hst]
  refine ⟨_, _, _, _, rfl, by omega, r, rfl, k, _, _, _, rfl, k.wf, by omega, ?_⟩
  rw [placeOn_sg]
  simp
  exact rt_ok (q _ (.inr ⟨_, _, Int.emod_nonneg _ (by omega), Int.emod_lt_of_pos _ (by omega), rfl⟩))
theorem at_some {L : List D} {j : Nat} (h : j < L.length) : atI L (j : Int) = some L[j] := by
  unfold atI ixN
  simp [h]
theorem any_all : ∀ x ∈ [D.non, D.bl true, D.bl false, D.int (-1), D.int 0, D.int 1, D.int 7, D.int 10000000000000000000000000, D.int 10000000000000000000000001, D.int (-10000000000000000000000000), D.int 1000000000000000000000000000000000000000, D.str (Str.ofString ""), D.str (Str.ofString "1"), D.str (Str.ofString "right"), D.tup [], D.tup [D.int 1], D.lst [], D.lst [D.int 0], D.dct [] [], D.dct [Str.ofString "a"] [D.int 1], D.tup [D.int 0, D.bl true]], Any x := by
  intro x hx
  have nr : noRef x := ⟨fun p e => by subst e; simp at hx, fun p e => by subst e; simp at hx⟩
  simp only [List.mem_cons, List.not_mem_nil, or_false] at hx
  rcases hx with rfl | rfl | rfl | rfl | rfl | rfl | rfl | rfl | rfl | rfl | rfl | rfl | rfl | rfl | rfl | rfl | rfl | rfl | rfl | rfl | rfl <;>
    exact ⟨by decide +kernel, ⟨by decide +kernel, by decide +kernel, by decide +kernel⟩, nr⟩
theorem k_law_odd : Keeps n_law_odd i_law_odd s_law_odd := by
  rintro ds μ R E ⟨p, g, n, rfl, dk, hn, qq⟩
  have p25 : CPow 10 25 := ⟨by decide, by decide, by decide⟩
  have p39 : CPow 10 39 := ⟨by decide, by decide, by decide⟩
  simp only [n_law_odd, i_law_odd]
  refine step ?_
  simp [p25, p39]
  refine step ?_
  simp
  have ha := any_all
  refine ⟨by decide +kernel, p, g, _, _, rfl, dk, by omega, by decide, by decide, fun i μ' i0 i1 dk' re => ?_⟩
  obtain ⟨j, rfl⟩ := Int.eq_ofNat_of_zero_le i0
  simp
  generalize hL : [D.non, D.bl true, D.bl false, D.int (-1), D.int 0, D.int 1, D.int 7, D.int 10000000000000000000000000, D.int 10000000000000000000000001, D.int (-10000000000000000000000000), D.int 1000000000000000000000000000000000000000, D.str (Str.ofString ""), D.str (Str.ofString "1"), D.str (Str.ofString "right"), D.tup [], D.tup [D.int 1], D.lst [], D.lst [D.int 0], D.dct [] [], D.dct [Str.ofString "a"] [D.int 1], D.tup [D.int 0, D.bl true]] = L at ha ⊢
  have hl : j < L.length := by rw [← hL]; simp; omega
  rw [at_some hl]
  exact rt_ok (qq _ μ' (ha _ (List.getElem_mem hl)) dk' re)
theorem k_law_whole : Keeps n_law_whole i_law_whole s_law_whole := by
  rintro ds μ R E ⟨v, rfl, nr, q⟩
  cases v with
  | ref p => exact absurd rfl (nr.r p)
  | fn y => exact absurd rfl (nr.f y)
  | _ => simp [n_law_whole, i_law_whole, isiD, isWh] at q ⊢ <;> exact rt_ok q
abbrev tab27 : ETab := [("BadNumber", "value", ["TurnError", "BadNumber", "ValueError"], ["NoPlace", "BadEnd", "BadState", "BadWay", "TooLarge"])]
abbrev ft27 : List (Str × Spec) := [("passes_in", s_passes_in), ("steps_for", s_steps_for), ("raised_among", s_raised_among), ("pass_at", s_pass_at)]
theorem ft_at {y : Str} (h : y ∈ fns) : ∃ sp : Spec, ft27.lookup y = some sp ∧ ∀ (r : Rg) (v : D) (μ : Mu) (R : Post) (E : XPost), r.fit → noRef v → (okN v = true → ∀ d, FRes r d → R d μ) → (okN v = false → E (NoNum v) μ) → sp [r.st.d, v] μ R E := by
  have a1 : (("steps_for" : Str) == ("passes_in" : Str)) = false := by decide +kernel
  have b1 : (("raised_among" : Str) == ("passes_in" : Str)) = false := by decide +kernel
  have b2 : (("raised_among" : Str) == ("steps_for" : Str)) = false := by decide +kernel
  have c1 : (("pass_at" : Str) == ("passes_in" : Str)) = false := by decide +kernel
  have c2 : (("pass_at" : Str) == ("steps_for" : Str)) = false := by decide +kernel
  have c3 : (("pass_at" : Str) == ("raised_among" : Str)) = false := by decide +kernel
  unfold fns at h
  simp only [List.mem_cons, List.not_mem_nil, or_false] at h
  rcases h with rfl | rfl | rfl | rfl
  · exact ⟨s_passes_in, by simp only [List.lookup, beq_self_eq_true], fun r v μ R E k nr q1 q2 => ⟨r, v, rfl, k, nr, q1, q2⟩⟩
  · exact ⟨s_steps_for, by simp only [List.lookup, beq_self_eq_true, a1], fun r v μ R E k nr q1 q2 => ⟨r, v, rfl, k, nr, q1, q2⟩⟩
  · exact ⟨s_raised_among, by simp only [List.lookup, beq_self_eq_true, b1, b2], fun r v μ R E k nr q1 q2 => ⟨r, v, rfl, k, nr, q1, q2⟩⟩
  · exact ⟨s_pass_at, by simp only [List.lookup, beq_self_eq_true, c1, c2, c3], fun r v μ R E k nr q1 q2 => ⟨r, v, rfl, k, nr, q1, q2⟩⟩
theorem k_law_told : Keeps n_law_told i_law_told s_law_told := by
  rintro ds μ R E ⟨y, r, v, rfl, hy, k, nr, q1, q2⟩
  obtain ⟨sp, e0, hsp⟩ := ft_at hy
  simp only [n_law_told, i_law_told]
  refine step ?_
  simp
  refine step ?_
  simp only [wS]
  refine step ?_
  simp [e0]
  refine hsp r v μ _ _ k nr (fun c d hd => ?_) (fun c => ?_)
  · refine step ?_
    simp
    exact rt_ok (q1 c d hd)
  · have e1 : isT tab27 "BadNumber" "TurnError" = some true := by decide +kernel
    have e2 : anyT tab27 "BadNumber" ["BadNumber"] = some true := by decide +kernel
    have e3 : anyT tab27 "BadNumber" ["BadEnd", "BadState", "BadWay", "TooLarge", "NoPlace"] = some false := by decide +kernel
    have e5 : anyT tab27 "BadNumber" ["ValueError"] = some true := by decide +kernel
    have e4 : List.lookup ("BadNumber" : Str) tab27 = some (("value" : Str), (["TurnError", "BadNumber", "ValueError"] : List Str), (["NoPlace", "BadEnd", "BadState", "BadWay", "TooLarge"] : List Str)) := by decide +kernel
    unfold tab27 at e1 e2 e3 e4 e5
    unfold NoNum
    simp only [wHds, e1]
    intro a ha
    simp [hSs, hS, hE, hL, e2, e3, e4, e5]
    refine step ?_
    simp
    exact rt_ok (q2 c)
theorem Sx.rM {h n : Nat} {d : D} (s : Sx h n d) (f : flatM d = true) (a : h ≤ 50 := by omega) (b : n ≤ 16000000 := by omega) : ReprM d := ⟨f, s.sh, by have := s.de; omega, by have := s.we; unfold sz; omega⟩
theorem ReprM.all {d : D} (r : ReprM d) : flatM d = true ∧ (pd d).showable = true ∧ (pd d).depth ≤ 99 ∧ (pd d).shown.length ≤ sz := ⟨r.fl, r.sh, by have := r.de; omega, r.le⟩
theorem two_rM {v : D} (a : Any v) : ReprM (.lst [v, .bl true]) := (Sx.lst (.cons a.sx (.cons (Tx.sx (Tx.bl (h := 4) true)) .nil))).rM (by simp [flatM, flatMs, a.fl])
theorem k_law_right : Keeps n_law_right i_law_right s_law_right := by
  rintro ds μ R E ⟨y, r, v, rfl, hy, k, a, q⟩
  have p25 : CPow 10 25 := ⟨by decide, by decide, by decide⟩
  have tr := (two_rM a).all
  have sq : seqD r.st.d = some [.int r.n, pairsD (prs (tab r.n r.up)), .int r.pl, side r.rt] := rfl
  have vq : ∀ μ, vw μ r.st.d = r.st.d := fun μ => rfl
  have bad : okN v = false → R (.bl true) μ → wR [.ite (.ors [.not (.tru (.call "_law_whole" s_law_whole [.var 2])), .not (.chain .le .le (.cst (.int 0)) (.var 2) (.bop .pow (.cst (.int 10)) (.cst (.int 25))))]) [.ret (.cmp .eq (.x1 rpm (.var 3)) (.x1 rpm (.lst false [.var 2, .cst (.bl true)])))] [], .ite (.tru (.isi "tuple" (.var 3))) [.ret (.ands [.cmp .eq (.blt .len [.var 3]) (.cst (.int 2)), .isi "bool" (.sub (.var 3) (.cst (.int 1))), .call "_law_whole" s_law_whole [.sub (.var 3) (.cst (.int 0))], .chain .le .lt (.cst (.int 0)) (.sub (.var 3) (.cst (.int 0))) (.sub (.var 1) (.cst (.int 0)))])] [], .ret (.ands [.call "_law_whole" s_law_whole [.var 3], .cmp .ge (.var 3) (.cst (.int 0))])] [some (.fn y), some r.st.d, some v, some (.lst [v, .bl true])] μ (endsG R E) := fun c q => by
    refine step ?_
    simp
    refine ⟨v, rfl, a.nr, ?_⟩
    cases v with
    | ref p => exact absurd rfl (a.nr.r p)
    | fn y => exact absurd rfl (a.nr.f y)
    | int t =>
      unfold okN isIn at c
      have c := of_decide_eq_false c
      by_cases t0 : 0 ≤ t
      · have t1 : ¬ t ≤ 10000000000000000000000000 := fun z => c ⟨t0, by omega⟩
        simp [isWh, t0, t1, p25]
        refine ⟨tr.1, tr.2.1, tr.2.2.1, tr.2.2.2, tr.1, tr.2.1, tr.2.2.1, tr.2.2.2, rt_ok q⟩
      · simp [isWh, t0, p25]
        refine ⟨tr.1, tr.2.1, tr.2.2.1, tr.2.2.2, tr.1, tr.2.1, tr.2.2.1, tr.2.2.2, rt_ok q⟩
    | _ =>
      simp [isWh]
      refine ⟨tr.1, tr.2.1, tr.2.2.1, tr.2.2.2, tr.1, tr.2.1, tr.2.2.1, tr.2.2.2, rt_ok q⟩
  simp only [n_law_right, i_law_right]
  refine step ?_
  simp
  refine ⟨y, r, v, rfl, hy, k, a.nr, fun c d hd => ?_, fun c => bad c q⟩
  obtain ⟨t, rfl, t0, t1⟩ := isIn_int c
  have t1 : t ≤ 10000000000000000000000000 := by omega
  refine step ?_
  simp
  refine ⟨_, rfl, .int, ?_⟩
  simp [isWh, t0, t1, p25]
  rcases hd with ⟨x, x0, rfl⟩ | ⟨x, b, x0, x1, rfl⟩
  · refine step ?_
    simp [isiD]
    refine step ?_
    simp
    refine ⟨_, rfl, .int, ?_⟩
    simp [isWh, x0]
    exact rt_ok q
  · refine step ?_
    simp [isiD]
    refine ⟨_, rfl, .int, ?_⟩
    simp [isWh, x0, x1]
    exact rt_ok q
end Tf.B

set_option Elab.async false
set_option linter.all false
set_option maxRecDepth 100000
set_option maxHeartbeats 1000000
namespace Tf.B
open PySem PySem.Spec PyProof.Rows L2
def n_law : List Str := ["_law_script", "_law_deck_here", "_law_turn", "_law_now", "_law_value", "_law_kept", "_law_some", "_law_call"]
def i_law : List IS := [.asg (.nm 1) (.call "_law_deck" s_law_deck [.var 0]), .for_ [2, 3, 4, 5, 6, 7] (.nm 2) (.range1 (.cst (.int 4))) [.asg (.nm 3) (.call "_law_any" s_law_any [.var 1]), .par [5, 6] [.x1 rpm (.var 3), .lst false [.neg (.cst (.int 1)), .cst (.int 0), .bop .pow (.cst (.int 10)) (.cst (.int 25)), .bop .add (.bop .pow (.cst (.int 10)) (.cst (.int 25))) (.cst (.int 1)), .cst (.bl true), .cst (.bl false), .cst (.non), .cst (.str "0"), .tup [.cst (.int 1)]]], .for_ [4, 7] (.nm 4) (.seq (.bop .add (.var 6) (.lst false [.call "_law_odd" s_law_odd [.var 1], .call "_law_odd" s_law_odd [.var 1], .call "_law_great" s_law_great [.var 1, .bop .pow (.cst (.int 10)) (.cst (.int 25))]]))) [.for_ [7] (.nm 7) (.seq (.lst false [.glb "passes_in" (.fn "passes_in"), .glb "steps_for" (.fn "steps_for"), .glb "raised_among" (.fn "raised_among"), .glb "pass_at" (.fn "pass_at")])) [.ite (.not (.tru (.call "_law_right" s_law_right [.var 7, .var 3, .var 4]))) [.ret (.cst (.bl false))] []]], .ite (.cmp .ne (.x1 rpm (.var 3)) (.var 5)) [.ret (.cst (.bl false))] []], .ret (.cmp .eq (.glb "MAX_STEPS" (.int 10000000000000000000000000)) (.bop .pow (.cst (.int 10)) (.cst (.int 25))))]
mutual
theorem flat_M : ∀ d : D, flat d = true → flatM d = true
  | .non, _ => rfl
  | .bl _, _ => rfl
  | .int _, _ => rfl
  | .str _, _ => rfl
  | .tup ds, h => by rw [flat] at h; rw [flatM]; exact flats_M ds h
  | .lst ds, h => by rw [flat] at h; rw [flatM]; exact flats_M ds h
  | .lsf ds, h => by rw [flat] at h; rw [flatM]; exact flats_M ds h
  | .dct _ _, h => by simp [flat] at h
  | .ref _, h => by simp [flat] at h
  | .fn _, h => by simp [flat] at h
theorem flats_M : ∀ ds : List D, flats ds = true → flatMs ds = true
  | [], _ => rfl
  | d :: ds, h => by
    rw [flats, Bool.and_eq_true] at h
    rw [flatMs, Bool.and_eq_true]
    exact ⟨flat_M d h.1, flats_M ds h.2⟩
end
theorem st_fact {r : Rg} (f : r.fit) : flatM r.st.d = true ∧ (pd r.st.d).showable = true ∧ (pd r.st.d).depth ≤ 99 ∧ (pd r.st.d).shown.length ≤ Tf.sz := ⟨flat_M _ f.tx.fl, f.tx.sh, by have := f.tx.de; omega, by have := f.tx.we; unfold Tf.sz; omega⟩
theorem any_int {t : Int} (h : t.natAbs < 10 ^ 60) : Any (.int t) := ⟨rfl, (Tx.sx (Tx.int (h := 4) h)).mono (Nat.le_refl _) (by omega), .int⟩
theorem any_c : ∀ x ∈ [D.bl true, D.bl false, D.non, D.str (Str.ofString "0"), D.tup [D.int 1]], Any x := by
  intro x hx
  have nr : noRef x := ⟨fun p e => by subst e; simp at hx, fun p e => by subst e; simp at hx⟩
  simp only [List.mem_cons, List.not_mem_nil, or_false] at hx
  rcases hx with rfl | rfl | rfl | rfl | rfl <;>
    exact ⟨by decide +kernel, ⟨by decide +kernel, by decide +kernel, by decide +kernel⟩, nr⟩
theorem k_law : Keeps n_law i_law s_law := by
  rintro ds μ R E ⟨ns, rfl, hl, q⟩
  have p25 : CPow 10 25 := ⟨by decide, by decide, by decide⟩
  simp only [n_law, i_law]
  refine step ?_
  simp
  refine ⟨ns, rfl, hl, fun p g μ1 dk sb => ?_⟩
  refine step ?_
  simp
  refine wFor_run (fun i δ μ' => δ = [some (.lsf (ns.map .int)), some (.ref p)] ++ List.replicate 6 none ∧ ∃ n, n ≤ i * 100000 ∧ Deck p g n μ') (fun _ _ _ _ => trivial) ?_ ⟨rfl, 0, by omega, dk⟩ ?_
  · rintro i0 δ μ' x nx hi hx ⟨rfl, n0, hn0, dk⟩ on
    simp at hi
    clear hx
    refine step ?_
    simp
    refine ⟨p, g, _, rfl, dk, by omega, fun r n' μ2 lw hn dk2 => ?_⟩
    have vq : ∀ μ, vw μ r.st.d = r.st.d := fun μ => rfl
    obtain ⟨s1, s2, s3, s4⟩ := st_fact lw.fit
    obtain ⟨KP, hKP⟩ : ∃ KP, KP = (pd r.st.d).shown := ⟨_, rfl⟩
    refine step ?_
    simp [p25, vq]
    refine ⟨s1, s2, s3, s4, ?_⟩
    rw [← hKP]
    refine step ?_
    simp
    refine ⟨p, g, _, rfl, dk2, by omega, fun o1 μ3 ao1 dk3 re3 => ?_⟩
    simp
    refine ⟨p, g, _, rfl, dk3, by omega, fun o2 μ4 ao2 dk4 re4 => ?_⟩
    simp [p25]
    refine ⟨p, g, _, _, rfl, dk4, by omega, by omega, by omega, fun z μ5 z0 z1 dk5 re5 => ?_⟩
    simp
    have a1 := any_c
    refine wFor_run (fun i δ μ' => δ = [some (.lsf (ns.map .int)), some (.ref p), some x, some r.st.d, none, some (.str KP), some (.lst [.int (-1), .int 0, .int 10000000000000000000000000, .int 10000000000000000000000001, .bl true, .bl false, .non, .str "0", .tup [.int 1]]), none] ∧ μ' = μ5) (fun _ _ _ _ => trivial) ?_ ⟨rfl, rfl⟩ ?_
    · rintro i1 δ μ' v nx2 hi1 hv ⟨rfl, rfl⟩ on2
      have av : Any v := by
        have hm := List.mem_of_getElem? hv
        simp only [List.mem_cons, List.not_mem_nil, or_false] at hm
        rcases hm with rfl | rfl | rfl | rfl | rfl | rfl | rfl | rfl | rfl | rfl | rfl | rfl <;> first | exact ao1 | exact ao2 | exact any_int (by omega) | exact a1 _ (by simp)
      clear hv hi1
      refine step ?_
      simp
      refine wFor_run (fun i δ m5 => δ = [some (.lsf (ns.map .int)), some (.ref p), some x, some r.st.d, some v, some (.str KP), some (.lst [.int (-1), .int 0, .int 10000000000000000000000000, .int 10000000000000000000000001, .bl true, .bl false, .non, .str "0", .tup [.int 1]]), none] ∧ m5 = μ') (fun _ _ _ _ => trivial) ?_ ⟨rfl, rfl⟩ ?_
      · rintro i2 δ m5 f nx3 hi2 hf ⟨rfl, rfl⟩ on3
        obtain ⟨y, rfl, hy⟩ : ∃ y, f = .fn y ∧ y ∈ fns := by
          have hm := List.mem_of_getElem? hf
          simp only [List.mem_cons, List.not_mem_nil, or_false] at hm
          unfold fns
          rcases hm with rfl | rfl | rfl | rfl <;> exact ⟨_, rfl, by simp⟩
        clear hf hi2
        refine step ?_
        simp
        refine ⟨y, r, v, rfl, hy, lw.fit, av, ?_⟩
        simp
        exact on3 _ _ ⟨by simp [unset], rfl⟩
      · rintro δ m5 ⟨rfl, rfl⟩
        exact on2 _ _ ⟨by simp [unset], rfl⟩
    · rintro δ μ' ⟨rfl, rfl⟩
      refine step ?_
      simp [vq]
      refine ⟨s1, s2, s3, s4, ?_⟩
      simp [hKP]
      exact on _ _ ⟨by simp [unset], _, by omega, dk5⟩
  · rintro δ μ' ⟨rfl, dk⟩
    refine step ?_
    simp [p25]
    exact rt_ok (q _)
end Tf.B

set_option Elab.async false
set_option linter.all false
set_option maxRecDepth 100000
set_option maxHeartbeats 0
namespace Tf.B.TfHead
open PySem PySem.Spec PyProof.Rows L2 Tf
def top (i : Nat) : Stmt := PySem.Challenge.pw_turnflags_k27_numbers_refused.main.body.getD i (.Pass ⟨0, 0, 0, 0⟩)
def frs : List Str := ["abs", "any", "bool", "int", "isinstance", "len", "max", "min", "range", "repr", "sorted", "sum", "tuple", "zip"]
section
variable {P : Program} {w : World} {K : PySem.W.Frag} {mg : Str → Option Value} {base : Heap} {f : Addr} {fd : FuncData}
theorem sc_other_side : FnScope n_other_side ["side"] (defScope (top 12)) := ⟨rfl, rfl, rfl, by decide +kernel, rfl, by decide +kernel, by decide +kernel⟩
theorem hb_other_side : ssB ⟨n_other_side, defScope (top 12), frs, true, 0, none⟩ i_other_side (defBody (top 12)) = true := by decide +kernel
theorem ok_other_side (F : Fun K "other_side" "other_side" (top 12) f fd) (hfr : ∀ y ∈ frs, mg y = none) (hsm : SmOk K) (g0 : GlbIn K mg "LEFT" (.str "left")) (g1 : GlbIn K mg "RIGHT" (.str "right")) : FnG P w K mg base 1 f fd ["side"] s_other_side :=
  fn_ok F sc_other_side hb_other_side hfr hsm (by simp [i_other_side, rSs, rSss, rS, rE, rL, rO, g0, g1]) (fun ds μ R E h => by obtain ⟨_, rfl, _⟩ := h; rfl) (fun ds μ R E h => k_other_side ds μ R E h)
theorem sc_place_on : FnScope n_place_on ["size", "place", "side", "many"] (defScope (top 13)) := ⟨rfl, rfl, rfl, by decide +kernel, rfl, by decide +kernel, by decide +kernel⟩
theorem hb_place_on : ssB ⟨n_place_on, defScope (top 13), frs, true, 0, none⟩ i_place_on (defBody (top 13)) = true := by decide +kernel
theorem ok_place_on (F : Fun K "place_on" "place_on" (top 13) f fd) (hfr : ∀ y ∈ frs, mg y = none) (hsm : SmOk K) (g0 : GlbIn K mg "RIGHT" (.str "right")) : FnG P w K mg base 1 f fd ["size", "place", "side", "many"] s_place_on :=
  fn_ok F sc_place_on hb_place_on hfr hsm (by simp [i_place_on, rSs, rSss, rS, rE, rL, rO, g0]) (fun ds μ R E h => by obtain ⟨_, _, _, _, rfl, _⟩ := h; rfl) (fun ds μ R E h => k_place_on ds μ R E h)
theorem sc_flag_is_up : FnScope n_flag_is_up ["raised", "place"] (defScope (top 14)) := ⟨rfl, rfl, rfl, by decide +kernel, rfl, by decide +kernel, by decide +kernel⟩
theorem hb_flag_is_up : ssB ⟨n_flag_is_up, defScope (top 14), frs, true, 0, none⟩ i_flag_is_up (defBody (top 14)) = true := by decide +kernel
theorem ok_flag_is_up (F : Fun K "flag_is_up" "flag_is_up" (top 14) f fd) (hfr : ∀ y ∈ frs, mg y = none) (hsm : SmOk K) : FnG P w K mg base 1 f fd ["raised", "place"] s_flag_is_up :=
  fn_ok F sc_flag_is_up hb_flag_is_up hfr hsm (by simp [i_flag_is_up, rSs, rSss, rS, rE, rL, rO]) (fun ds μ R E h => by obtain ⟨_, _, rfl, _⟩ := h; rfl) (fun ds μ R E h => k_flag_is_up ds μ R E h)
theorem sc_put_together : FnScope n_put_together ["runs"] (defScope (top 15)) := ⟨rfl, rfl, rfl, by decide +kernel, rfl, by decide +kernel, by decide +kernel⟩
theorem hb_put_together : ssB ⟨n_put_together, defScope (top 15), frs, true, 0, none⟩ i_put_together (defBody (top 15)) = true := by decide +kernel
theorem ok_put_together (F : Fun K "put_together" "put_together" (top 15) f fd) (hfr : ∀ y ∈ frs, mg y = none) (hsm : SmOk K) : FnG P w K mg base 1 f fd ["runs"] s_put_together :=
  fn_ok F sc_put_together hb_put_together hfr hsm (by simp [i_put_together, rSs, rSss, rS, rE, rL, rO]) (fun ds μ R E h => by obtain ⟨_, rfl, _⟩ := h; rfl) (fun ds μ R E h => k_put_together ds μ R E h)
theorem sc_turned_word : FnScope n_turned_word ["word"] (defScope (top 21)) := ⟨rfl, rfl, rfl, by decide +kernel, rfl, by decide +kernel, by decide +kernel⟩
theorem hb_turned_word : ssB ⟨n_turned_word, defScope (top 21), frs, true, 0, none⟩ i_turned_word (defBody (top 21)) = true := by decide +kernel
theorem ok_turned_word (F : Fun K "turned_word" "turned_word" (top 21) f fd) (hfr : ∀ y ∈ frs, mg y = none) (hsm : SmOk K) : FnG P w K mg base 1 f fd ["word"] s_turned_word :=
  fn_ok F sc_turned_word hb_turned_word hfr hsm (by simp [i_turned_word, rSs, rSss, rS, rE, rL, rO]) (fun ds μ R E h => by obtain ⟨_, rfl, _⟩ := h; rfl) (fun ds μ R E h => k_turned_word ds μ R E h)
theorem sc_length_of : FnScope n_length_of ["word"] (defScope (top 22)) := ⟨rfl, rfl, rfl, by decide +kernel, rfl, by decide +kernel, by decide +kernel⟩
theorem hb_length_of : ssB ⟨n_length_of, defScope (top 22), frs, true, 0, none⟩ i_length_of (defBody (top 22)) = true := by decide +kernel
theorem ok_length_of (F : Fun K "length_of" "length_of" (top 22) f fd) (hfr : ∀ y ∈ frs, mg y = none) (hsm : SmOk K) : FnG P w K mg base 1 f fd ["word"] s_length_of :=
  fn_ok F sc_length_of hb_length_of hfr hsm (by simp [i_length_of, rSs, rSss, rS, rE, rL, rO]) (fun ds μ R E h => by obtain ⟨_, rfl, _⟩ := h; rfl) (fun ds μ R E h => k_length_of ds μ R E h)
theorem sc_is_between : FnScope n_is_between ["value", "low", "high"] (defScope (top 29)) := ⟨rfl, rfl, rfl, by decide +kernel, rfl, by decide +kernel, by decide +kernel⟩
theorem hb_is_between : ssB ⟨n_is_between, defScope (top 29), frs, true, 0, none⟩ i_is_between (defBody (top 29)) = true := by decide +kernel
theorem ok_is_between (F : Fun K "is_between" "is_between" (top 29) f fd) (hfr : ∀ y ∈ frs, mg y = none) (hsm : SmOk K) : FnG P w K mg base 1 f fd ["value", "low", "high"] s_is_between :=
  fn_ok F sc_is_between hb_is_between hfr hsm (by simp [i_is_between, rSs, rSss, rS, rE, rL, rO]) (fun ds μ R E h => by obtain ⟨_, _, _, rfl, _⟩ := h; rfl) (fun ds μ R E h => k_is_between ds μ R E h)
theorem sc_law_deck : FnScope n_law_deck ["_law_script"] (defScope (top 38)) := ⟨rfl, rfl, rfl, by decide +kernel, rfl, by decide +kernel, by decide +kernel⟩
theorem hb_law_deck : ssB ⟨n_law_deck, defScope (top 38), frs, true, 0, none⟩ i_law_deck (defBody (top 38)) = true := by decide +kernel
theorem ok_law_deck (F : Fun K "_law_deck" "_law_deck" (top 38) f fd) (hfr : ∀ y ∈ frs, mg y = none) (hsm : SmOk K) : FnG P w K mg base 1 f fd ["_law_script"] s_law_deck :=
  fn_ok F sc_law_deck hb_law_deck hfr hsm (by simp [i_law_deck, rSs, rSss, rS, rE, rL, rO]) (fun ds μ R E h => by obtain ⟨_, rfl, _⟩ := h; rfl) (fun ds μ R E h => k_law_deck ds μ R E h)
theorem sc_law_draw : FnScope n_law_draw ["_law_deck_here", "_law_many"] (defScope (top 39)) := ⟨rfl, rfl, rfl, by decide +kernel, rfl, by decide +kernel, by decide +kernel⟩
theorem hb_law_draw : ssB ⟨n_law_draw, defScope (top 39), frs, true, 0, none⟩ i_law_draw (defBody (top 39)) = true := by decide +kernel
theorem ok_law_draw (F : Fun K "_law_draw" "_law_draw" (top 39) f fd) (hfr : ∀ y ∈ frs, mg y = none) (hsm : SmOk K) : FnG P w K mg base 1 f fd ["_law_deck_here", "_law_many"] s_law_draw :=
  fn_ok F sc_law_draw hb_law_draw hfr hsm (by simp [i_law_draw, rSs, rSss, rS, rE, rL, rO]) (fun ds μ R E h => by obtain ⟨_, _, _, _, rfl, _⟩ := h; rfl) (fun ds μ R E h => k_law_draw ds μ R E h)
theorem sc_law_state : FnScope n_law_state ["_law_ring_here"] (defScope (top 42)) := ⟨rfl, rfl, rfl, by decide +kernel, rfl, by decide +kernel, by decide +kernel⟩
theorem hb_law_state : ssB ⟨n_law_state, defScope (top 42), frs, true, 0, none⟩ i_law_state (defBody (top 42)) = true := by decide +kernel
theorem ok_law_state (F : Fun K "_law_state" "_law_state" (top 42) f fd) (hfr : ∀ y ∈ frs, mg y = none) (hsm : SmOk K) : FnG P w K mg base 1 f fd ["_law_ring_here"] s_law_state :=
  fn_ok F sc_law_state hb_law_state hfr hsm (by simp [i_law_state, rSs, rSss, rS, rE, rL, rO]) (fun ds μ R E h => by obtain ⟨_, rfl, _⟩ := h; rfl) (fun ds μ R E h => k_law_state ds μ R E h)
theorem sc_law_other : FnScope n_law_other ["_law_side"] (defScope (top 43)) := ⟨rfl, rfl, rfl, by decide +kernel, rfl, by decide +kernel, by decide +kernel⟩
theorem hb_law_other : ssB ⟨n_law_other, defScope (top 43), frs, true, 0, none⟩ i_law_other (defBody (top 43)) = true := by decide +kernel
theorem ok_law_other (F : Fun K "_law_other" "_law_other" (top 43) f fd) (hfr : ∀ y ∈ frs, mg y = none) (hsm : SmOk K) : FnG P w K mg base 1 f fd ["_law_side"] s_law_other :=
  fn_ok F sc_law_other hb_law_other hfr hsm (by simp [i_law_other, rSs, rSss, rS, rE, rL, rO]) (fun ds μ R E h => by obtain ⟨_, rfl, _⟩ := h; rfl) (fun ds μ R E h => k_law_other ds μ R E h)
theorem sc_law_on : FnScope n_law_on ["_law_size", "_law_place", "_law_side", "_law_many"] (defScope (top 44)) := ⟨rfl, rfl, rfl, by decide +kernel, rfl, by decide +kernel, by decide +kernel⟩
theorem hb_law_on : ssB ⟨n_law_on, defScope (top 44), frs, true, 0, none⟩ i_law_on (defBody (top 44)) = true := by decide +kernel
theorem ok_law_on (F : Fun K "_law_on" "_law_on" (top 44) f fd) (hfr : ∀ y ∈ frs, mg y = none) (hsm : SmOk K) : FnG P w K mg base 1 f fd ["_law_size", "_law_place", "_law_side", "_law_many"] s_law_on :=
  fn_ok F sc_law_on hb_law_on hfr hsm (by simp [i_law_on, rSs, rSss, rS, rE, rL, rO]) (fun ds μ R E h => by obtain ⟨_, _, _, _, rfl, _⟩ := h; rfl) (fun ds μ R E h => k_law_on ds μ R E h)
theorem sc_law_stretches : FnScope n_law_stretches ["_law_word_here", "_law_spot", "_law_side", "_law_phase"] (defScope (top 46)) := ⟨rfl, rfl, rfl, by decide +kernel, rfl, by decide +kernel, by decide +kernel⟩
theorem hb_law_stretches : ssB ⟨n_law_stretches, defScope (top 46), frs, true, 0, none⟩ i_law_stretches (defBody (top 46)) = true := by decide +kernel
theorem ok_law_stretches (F : Fun K "_law_stretches" "_law_stretches" (top 46) f fd) (hfr : ∀ y ∈ frs, mg y = none) (hsm : SmOk K) : FnG P w K mg base 1 f fd ["_law_word_here", "_law_spot", "_law_side", "_law_phase"] s_law_stretches :=
  fn_ok F sc_law_stretches hb_law_stretches hfr hsm (by simp [i_law_stretches, rSs, rSss, rS, rE, rL, rO]) (fun ds μ R E h => by obtain ⟨_, _, _, _, rfl, _⟩ := h; rfl) (fun ds μ R E h => k_law_stretches ds μ R E h)
theorem sc_law_whole : FnScope n_law_whole ["_law_value"] (defScope (top 52)) := ⟨rfl, rfl, rfl, by decide +kernel, rfl, by decide +kernel, by decide +kernel⟩
theorem hb_law_whole : ssB ⟨n_law_whole, defScope (top 52), frs, true, 0, none⟩ i_law_whole (defBody (top 52)) = true := by decide +kernel
theorem ok_law_whole (F : Fun K "_law_whole" "_law_whole" (top 52) f fd) (hfr : ∀ y ∈ frs, mg y = none) (hsm : SmOk K) : FnG P w K mg base 1 f fd ["_law_value"] s_law_whole :=
  fn_ok F sc_law_whole hb_law_whole hfr hsm (by simp [i_law_whole, rSs, rSss, rS, rE, rL, rO]) (fun ds μ R E h => by obtain ⟨_, rfl, _⟩ := h; rfl) (fun ds μ R E h => k_law_whole ds μ R E h)
theorem sc_runs_of : FnScope n_runs_of ["size", "raised"] (defScope (top 16)) := ⟨rfl, rfl, rfl, by decide +kernel, rfl, by decide +kernel, by decide +kernel⟩
theorem hb_runs_of : ssB ⟨n_runs_of, defScope (top 16), frs, true, 1, none⟩ i_runs_of (defBody (top 16)) = true := by decide +kernel
theorem ok_runs_of (F : Fun K "runs_of" "runs_of" (top 16) f fd) (hfr : ∀ y ∈ frs, mg y = none) (hsm : SmOk K) (c0 : Callee P w K mg base 1 "put_together" s_put_together) : FnG P w K mg base 2 f fd ["size", "raised"] s_runs_of :=
  fn_ok F sc_runs_of hb_runs_of hfr hsm (by simp [i_runs_of, rSs, rSss, rS, rE, rL, rO, c0]) (fun ds μ R E h => by obtain ⟨_, _, rfl, _⟩ := h; rfl) (fun ds μ R E h => k_runs_of ds μ R E h)
theorem sc_cut_runs : FnScope n_cut_runs ["runs", "first", "many"] (defScope (top 17)) := ⟨rfl, rfl, rfl, by decide +kernel, rfl, by decide +kernel, by decide +kernel⟩
theorem hb_cut_runs : ssB ⟨n_cut_runs, defScope (top 17), frs, true, 1, none⟩ i_cut_runs (defBody (top 17)) = true := by decide +kernel
theorem ok_cut_runs (F : Fun K "cut_runs" "cut_runs" (top 17) f fd) (hfr : ∀ y ∈ frs, mg y = none) (hsm : SmOk K) (c0 : Callee P w K mg base 1 "put_together" s_put_together) : FnG P w K mg base 2 f fd ["runs", "first", "many"] s_cut_runs :=
  fn_ok F sc_cut_runs hb_cut_runs hfr hsm (by simp [i_cut_runs, rSs, rSss, rS, rE, rL, rO, c0]) (fun ds μ R E h => by obtain ⟨_, _, _, _, rfl, _⟩ := h; rfl) (fun ds μ R E h => k_cut_runs ds μ R E h)
theorem sc_heading_of : FnScope n_heading_of ["state"] (defScope (top 19)) := ⟨rfl, rfl, rfl, by decide +kernel, rfl, by decide +kernel, by decide +kernel⟩
theorem hb_heading_of : ssB ⟨n_heading_of, defScope (top 19), frs, true, 1, none⟩ i_heading_of (defBody (top 19)) = true := by decide +kernel
theorem ok_heading_of (F : Fun K "heading_of" "heading_of" (top 19) f fd) (hfr : ∀ y ∈ frs, mg y = none) (hsm : SmOk K) (c0 : Callee P w K mg base 1 "flag_is_up" s_flag_is_up) (c1 : Callee P w K mg base 1 "other_side" s_other_side) (c2 : Callee P w K mg base 1 "place_on" s_place_on) : FnG P w K mg base 2 f fd ["state"] s_heading_of :=
  fn_ok F sc_heading_of hb_heading_of hfr hsm (by simp [i_heading_of, rSs, rSss, rS, rE, rL, rO, c0, c1, c2]) (fun ds μ R E h => by obtain ⟨_, rfl, _⟩ := h; rfl) (fun ds μ R E h => k_heading_of ds μ R E h)
theorem sc_steps_within : FnScope n_steps_within ["word", "steps"] (defScope (top 27)) := ⟨rfl, rfl, rfl, by decide +kernel, rfl, by decide +kernel, by decide +kernel⟩
theorem hb_steps_within : ssB ⟨n_steps_within, defScope (top 27), frs, true, 1, none⟩ i_steps_within (defBody (top 27)) = true := by decide +kernel
theorem ok_steps_within (F : Fun K "steps_within" "steps_within" (top 27) f fd) (hfr : ∀ y ∈ frs, mg y = none) (hsm : SmOk K) (c0 : Callee P w K mg base 1 "length_of" s_length_of) (c1 : Callee P w K mg base 1 "turned_word" s_turned_word) : FnG P w K mg base 2 f fd ["word", "steps"] s_steps_within :=
  fn_ok F sc_steps_within hb_steps_within hfr hsm (by simp [i_steps_within, rSs, rSss, rS, rE, rL, rO, c0, c1]) (fun ds μ R E h => by obtain ⟨_, _, _, rfl, _⟩ := h; rfl) (fun ds μ R E h => k_steps_within ds μ R E h)
theorem sc_law_great : FnScope n_law_great ["_law_deck_here", "_law_many"] (defScope (top 40)) := ⟨rfl, rfl, rfl, by decide +kernel, rfl, by decide +kernel, by decide +kernel⟩
theorem hb_law_great : ssB ⟨n_law_great, defScope (top 40), frs, true, 1, none⟩ i_law_great (defBody (top 40)) = true := by decide +kernel
theorem ok_law_great (F : Fun K "_law_great" "_law_great" (top 40) f fd) (hfr : ∀ y ∈ frs, mg y = none) (hsm : SmOk K) (c0 : Callee P w K mg base 1 "_law_draw" s_law_draw) : FnG P w K mg base 2 f fd ["_law_deck_here", "_law_many"] s_law_great :=
  fn_ok F sc_law_great hb_law_great hfr hsm (by simp [i_law_great, rSs, rSss, rS, rE, rL, rO, c0]) (fun ds μ R E h => by obtain ⟨_, _, _, _, rfl, _⟩ := h; rfl) (fun ds μ R E h => k_law_great ds μ R E h)
theorem sc_law_ring : FnScope n_law_ring ["_law_deck_here", "_law_most"] (defScope (top 41)) := ⟨rfl, rfl, rfl, by decide +kernel, rfl, by decide +kernel, by decide +kernel⟩
theorem hb_law_ring : ssB ⟨n_law_ring, defScope (top 41), frs, true, 1, none⟩ i_law_ring (defBody (top 41)) = true := by decide +kernel
theorem ok_law_ring (F : Fun K "_law_ring" "_law_ring" (top 41) f fd) (hfr : ∀ y ∈ frs, mg y = none) (hsm : SmOk K) (c0 : Callee P w K mg base 1 "_law_draw" s_law_draw) : FnG P w K mg base 2 f fd ["_law_deck_here", "_law_most"] s_law_ring :=
  fn_ok F sc_law_ring hb_law_ring hfr hsm (by simp [i_law_ring, rSs, rSss, rS, rE, rL, rO, c0]) (fun ds μ R E h => by obtain ⟨_, _, _, _, rfl, _⟩ := h; rfl) (fun ds μ R E h => k_law_ring ds μ R E h)
theorem sc_law_faraway : FnScope n_law_faraway ["_law_word_here", "_law_spot", "_law_side", "_law_phase"] (defScope (top 47)) := ⟨rfl, rfl, rfl, by decide +kernel, rfl, by decide +kernel, by decide +kernel⟩
theorem hb_law_faraway : ssB ⟨n_law_faraway, defScope (top 47), frs, true, 1, none⟩ i_law_faraway (defBody (top 47)) = true := by decide +kernel
theorem ok_law_faraway (F : Fun K "_law_faraway" "_law_faraway" (top 47) f fd) (hfr : ∀ y ∈ frs, mg y = none) (hsm : SmOk K) (c0 : Callee P w K mg base 1 "_law_on" s_law_on) (c1 : Callee P w K mg base 1 "_law_other" s_law_other) (c2 : Callee P w K mg base 1 "_law_stretches" s_law_stretches) : FnG P w K mg base 2 f fd ["_law_word_here", "_law_spot", "_law_side", "_law_phase"] s_law_faraway :=
  fn_ok F sc_law_faraway hb_law_faraway hfr hsm (by simp [i_law_faraway, rSs, rSss, rS, rE, rL, rO, c0, c1, c2]) (fun ds μ R E h => by obtain ⟨_, _, _, _, rfl, _⟩ := h; rfl) (fun ds μ R E h => k_law_faraway ds μ R E h)
theorem sc_law_odd : FnScope n_law_odd ["_law_deck_here"] (defScope (top 50)) := ⟨rfl, rfl, rfl, by decide +kernel, rfl, by decide +kernel, by decide +kernel⟩
theorem hb_law_odd : ssB ⟨n_law_odd, defScope (top 50), frs, true, 1, none⟩ i_law_odd (defBody (top 50)) = true := by decide +kernel
theorem ok_law_odd (F : Fun K "_law_odd" "_law_odd" (top 50) f fd) (hfr : ∀ y ∈ frs, mg y = none) (hsm : SmOk K) (c0 : Callee P w K mg base 1 "_law_draw" s_law_draw) : FnG P w K mg base 2 f fd ["_law_deck_here"] s_law_odd :=
  fn_ok F sc_law_odd hb_law_odd hfr hsm (by simp [i_law_odd, rSs, rSss, rS, rE, rL, rO, c0]) (fun ds μ R E h => by obtain ⟨_, _, _, rfl, _⟩ := h; rfl) (fun ds μ R E h => k_law_odd ds μ R E h)
theorem sc_ring_runs : FnScope n_ring_runs ["size", "raised", "place", "side"] (defScope (top 18)) := ⟨rfl, rfl, rfl, by decide +kernel, rfl, by decide +kernel, by decide +kernel⟩
theorem hb_ring_runs : ssB ⟨n_ring_runs, defScope (top 18), frs, true, 2, none⟩ i_ring_runs (defBody (top 18)) = true := by decide +kernel
theorem ok_ring_runs (F : Fun K "ring_runs" "ring_runs" (top 18) f fd) (hfr : ∀ y ∈ frs, mg y = none) (hsm : SmOk K) (g0 : GlbIn K mg "LEFT" (.str "left")) (c0 : Callee P w K mg base 2 "cut_runs" s_cut_runs) (c1 : Callee P w K mg base 2 "put_together" s_put_together) (c2 : Callee P w K mg base 2 "runs_of" s_runs_of) : FnG P w K mg base 3 f fd ["size", "raised", "place", "side"] s_ring_runs :=
  fn_ok F sc_ring_runs hb_ring_runs hfr hsm (by simp [i_ring_runs, rSs, rSss, rS, rE, rL, rO, g0, c0, c1, c2]) (fun ds μ R E h => by obtain ⟨_, _, _, _, rfl, _⟩ := h; rfl) (fun ds μ R E h => k_ring_runs ds μ R E h)
theorem sc_ones_within : FnScope n_ones_within ["word", "many"] (defScope (top 23)) := ⟨rfl, rfl, rfl, by decide +kernel, rfl, by decide +kernel, by decide +kernel⟩
theorem hb_ones_within : ssB ⟨n_ones_within, defScope (top 23), frs, true, 2, none⟩ i_ones_within (defBody (top 23)) = true := by decide +kernel
theorem ok_ones_within (F : Fun K "ones_within" "ones_within" (top 23) f fd) (hfr : ∀ y ∈ frs, mg y = none) (hsm : SmOk K) (c0 : Callee P w K mg base 2 "cut_runs" s_cut_runs) : FnG P w K mg base 3 f fd ["word", "many"] s_ones_within :=
  fn_ok F sc_ones_within hb_ones_within hfr hsm (by simp [i_ones_within, rSs, rSss, rS, rE, rL, rO, c0]) (fun ds μ R E h => by obtain ⟨_, _, rfl, _⟩ := h; rfl) (fun ds μ R E h => k_ones_within ds μ R E h)
theorem sc_need_number : FnScope n_need_number ["value"] (defScope (top 31)) := ⟨rfl, rfl, rfl, by decide +kernel, rfl, by decide +kernel, by decide +kernel⟩
theorem hb_need_number : ssB ⟨n_need_number, defScope (top 31), frs, true, 2, none⟩ i_need_number (defBody (top 31)) = true := by decide +kernel
theorem ok_need_number (F : Fun K "need_number" "need_number" (top 31) f fd) (hfr : ∀ y ∈ frs, mg y = none) (hsm : SmOk K) (g0 : GlbIn K mg "MAX_STEPS" (.int 10000000000000000000000000)) (c0 : Callee P w K mg base 2 "is_between" s_is_between) (x0 : FactD P w K mg base "BadNumber" "value" [] []) : FnG P w K mg base 3 f fd ["value"] s_need_number :=
  fn_ok F sc_need_number hb_need_number hfr hsm (by simp [i_need_number, rSs, rSss, rS, rE, rL, rO, x0, g0, c0]) (fun ds μ R E h => by obtain ⟨_, rfl, _⟩ := h; rfl) (fun ds μ R E h => k_need_number ds μ R E h)
theorem sc_phase_of : FnScope n_phase_of ["state"] (defScope (top 32)) := ⟨rfl, rfl, rfl, by decide +kernel, rfl, by decide +kernel, by decide +kernel⟩
theorem hb_phase_of : ssB ⟨n_phase_of, defScope (top 32), frs, true, 2, none⟩ i_phase_of (defBody (top 32)) = true := by decide +kernel
theorem ok_phase_of (F : Fun K "phase_of" "phase_of" (top 32) f fd) (hfr : ∀ y ∈ frs, mg y = none) (hsm : SmOk K) (c0 : Callee P w K mg base 2 "heading_of" s_heading_of) : FnG P w K mg base 3 f fd ["state"] s_phase_of :=
  fn_ok F sc_phase_of hb_phase_of hfr hsm (by simp [i_phase_of, rSs, rSss, rS, rE, rL, rO, c0]) (fun ds μ R E h => by obtain ⟨_, rfl, _⟩ := h; rfl) (fun ds μ R E h => k_phase_of ds μ R E h)
theorem sc_law_word : FnScope n_law_word ["_law_deck_here"] (defScope (top 45)) := ⟨rfl, rfl, rfl, by decide +kernel, rfl, by decide +kernel, by decide +kernel⟩
theorem hb_law_word : ssB ⟨n_law_word, defScope (top 45), frs, true, 2, none⟩ i_law_word (defBody (top 45)) = true := by decide +kernel
theorem ok_law_word (F : Fun K "_law_word" "_law_word" (top 45) f fd) (hfr : ∀ y ∈ frs, mg y = none) (hsm : SmOk K) (c0 : Callee P w K mg base 2 "_law_draw" s_law_draw) (c1 : Callee P w K mg base 2 "_law_great" s_law_great) : FnG P w K mg base 3 f fd ["_law_deck_here"] s_law_word :=
  fn_ok F sc_law_word hb_law_word hfr hsm (by simp [i_law_word, rSs, rSss, rS, rE, rL, rO, c0, c1]) (fun ds μ R E h => by obtain ⟨_, _, _, rfl, _⟩ := h; rfl) (fun ds μ R E h => k_law_word ds μ R E h)
theorem sc_word_of : FnScope n_word_of ["state"] (defScope (top 20)) := ⟨rfl, rfl, rfl, by decide +kernel, rfl, by decide +kernel, by decide +kernel⟩
theorem hb_word_of : ssB ⟨n_word_of, defScope (top 20), frs, true, 3, none⟩ i_word_of (defBody (top 20)) = true := by decide +kernel
theorem ok_word_of (F : Fun K "word_of" "word_of" (top 20) f fd) (hfr : ∀ y ∈ frs, mg y = none) (hsm : SmOk K) (c0 : Callee P w K mg base 3 "cut_runs" s_cut_runs) (c1 : Callee P w K mg base 3 "flag_is_up" s_flag_is_up) (c2 : Callee P w K mg base 3 "heading_of" s_heading_of) (c3 : Callee P w K mg base 3 "put_together" s_put_together) (c4 : Callee P w K mg base 3 "ring_runs" s_ring_runs) : FnG P w K mg base 4 f fd ["state"] s_word_of :=
  fn_ok F sc_word_of hb_word_of hfr hsm (by simp [i_word_of, rSs, rSss, rS, rE, rL, rO, c0, c1, c2, c3, c4]) (fun ds μ R E h => by obtain ⟨_, rfl, _⟩ := h; rfl) (fun ds μ R E h => k_word_of ds μ R E h)
theorem sc_ones_before : FnScope n_ones_before ["word", "many"] (defScope (top 24)) := ⟨rfl, rfl, rfl, by decide +kernel, rfl, by decide +kernel, by decide +kernel⟩
theorem hb_ones_before : ssB ⟨n_ones_before, defScope (top 24), frs, true, 3, none⟩ i_ones_before (defBody (top 24)) = true := by decide +kernel
theorem ok_ones_before (F : Fun K "ones_before" "ones_before" (top 24) f fd) (hfr : ∀ y ∈ frs, mg y = none) (hsm : SmOk K) (c0 : Callee P w K mg base 3 "length_of" s_length_of) (c1 : Callee P w K mg base 3 "ones_within" s_ones_within) (c2 : Callee P w K mg base 3 "turned_word" s_turned_word) : FnG P w K mg base 4 f fd ["word", "many"] s_ones_before :=
  fn_ok F sc_ones_before hb_ones_before hfr hsm (by simp [i_ones_before, rSs, rSss, rS, rE, rL, rO, c0, c1, c2]) (fun ds μ R E h => by obtain ⟨_, _, _, rfl, _⟩ := h; rfl) (fun ds μ R E h => k_ones_before ds μ R E h)
theorem sc_law_drawn : FnScope n_law_drawn ["_law_deck_here"] (defScope (top 48)) := ⟨rfl, rfl, rfl, by decide +kernel, rfl, by decide +kernel, by decide +kernel⟩
theorem hb_law_drawn : ssB ⟨n_law_drawn, defScope (top 48), frs, true, 3, none⟩ i_law_drawn (defBody (top 48)) = true := by decide +kernel
theorem ok_law_drawn (F : Fun K "_law_drawn" "_law_drawn" (top 48) f fd) (hfr : ∀ y ∈ frs, mg y = none) (hsm : SmOk K) (c0 : Callee P w K mg base 3 "_law_draw" s_law_draw) (c1 : Callee P w K mg base 3 "_law_great" s_law_great) (c2 : Callee P w K mg base 3 "_law_word" s_law_word) : FnG P w K mg base 4 f fd ["_law_deck_here"] s_law_drawn :=
  fn_ok F sc_law_drawn hb_law_drawn hfr hsm (by simp [i_law_drawn, rSs, rSss, rS, rE, rL, rO, c0, c1, c2]) (fun ds μ R E h => by obtain ⟨_, _, _, rfl, _⟩ := h; rfl) (fun ds μ R E h => k_law_drawn ds μ R E h)
theorem sc_number_at : FnScope n_number_at ["word", "index"] (defScope (top 25)) := ⟨rfl, rfl, rfl, by decide +kernel, rfl, by decide +kernel, by decide +kernel⟩
theorem hb_number_at : ssB ⟨n_number_at, defScope (top 25), frs, true, 4, none⟩ i_number_at (defBody (top 25)) = true := by decide +kernel
theorem ok_number_at (F : Fun K "number_at" "number_at" (top 25) f fd) (hfr : ∀ y ∈ frs, mg y = none) (hsm : SmOk K) (c0 : Callee P w K mg base 4 "ones_before" s_ones_before) : FnG P w K mg base 5 f fd ["word", "index"] s_number_at :=
  fn_ok F sc_number_at hb_number_at hfr hsm (by simp [i_number_at, rSs, rSss, rS, rE, rL, rO, c0]) (fun ds μ R E h => by obtain ⟨_, _, _, rfl, _⟩ := h; rfl) (fun ds μ R E h => k_number_at ds μ R E h)
theorem sc_steps_before : FnScope n_steps_before ["word", "many"] (defScope (top 26)) := ⟨rfl, rfl, rfl, by decide +kernel, rfl, by decide +kernel, by decide +kernel⟩
theorem hb_steps_before : ssB ⟨n_steps_before, defScope (top 26), frs, true, 4, none⟩ i_steps_before (defBody (top 26)) = true := by decide +kernel
theorem ok_steps_before (F : Fun K "steps_before" "steps_before" (top 26) f fd) (hfr : ∀ y ∈ frs, mg y = none) (hsm : SmOk K) (c0 : Callee P w K mg base 4 "ones_before" s_ones_before) : FnG P w K mg base 5 f fd ["word", "many"] s_steps_before :=
  fn_ok F sc_steps_before hb_steps_before hfr hsm (by simp [i_steps_before, rSs, rSss, rS, rE, rL, rO, c0]) (fun ds μ R E h => by obtain ⟨_, _, _, rfl, _⟩ := h; rfl) (fun ds μ R E h => k_steps_before ds μ R E h)
theorem sc_passes_in : FnScope n_passes_in ["state", "steps"] (defScope (top 33)) := ⟨rfl, rfl, rfl, by decide +kernel, rfl, by decide +kernel, by decide +kernel⟩
theorem hb_passes_in : ssB ⟨n_passes_in, defScope (top 33), frs, true, 4, none⟩ i_passes_in (defBody (top 33)) = true := by decide +kernel
theorem ok_passes_in (F : Fun K "passes_in" "passes_in" (top 33) f fd) (hfr : ∀ y ∈ frs, mg y = none) (hsm : SmOk K) (c0 : Callee P w K mg base 4 "need_number" s_need_number) (c1 : Callee P w K mg base 4 "phase_of" s_phase_of) (c2 : Callee P w K mg base 4 "steps_within" s_steps_within) (c3 : Callee P w K mg base 4 "word_of" s_word_of) : FnG P w K mg base 5 f fd ["state", "steps"] s_passes_in :=
  fn_ok F sc_passes_in hb_passes_in hfr hsm (by simp [i_passes_in, rSs, rSss, rS, rE, rL, rO, c0, c1, c2, c3]) (fun ds μ R E h => by obtain ⟨_, _, rfl, _⟩ := h; rfl) (fun ds μ R E h => k_passes_in ds μ R E h)
theorem sc_raised_among : FnScope n_raised_among ["state", "number"] (defScope (top 35)) := ⟨rfl, rfl, rfl, by decide +kernel, rfl, by decide +kernel, by decide +kernel⟩
theorem hb_raised_among : ssB ⟨n_raised_among, defScope (top 35), frs, true, 4, none⟩ i_raised_among (defBody (top 35)) = true := by decide +kernel
theorem ok_raised_among (F : Fun K "raised_among" "raised_among" (top 35) f fd) (hfr : ∀ y ∈ frs, mg y = none) (hsm : SmOk K) (c0 : Callee P w K mg base 4 "need_number" s_need_number) (c1 : Callee P w K mg base 4 "ones_before" s_ones_before) (c2 : Callee P w K mg base 4 "word_of" s_word_of) : FnG P w K mg base 5 f fd ["state", "number"] s_raised_among :=
  fn_ok F sc_raised_among hb_raised_among hfr hsm (by simp [i_raised_among, rSs, rSss, rS, rE, rL, rO, c0, c1, c2]) (fun ds μ R E h => by obtain ⟨_, _, rfl, _⟩ := h; rfl) (fun ds μ R E h => k_raised_among ds μ R E h)
theorem sc_law_any : FnScope n_law_any ["_law_deck_here"] (defScope (top 49)) := ⟨rfl, rfl, rfl, by decide +kernel, rfl, by decide +kernel, by decide +kernel⟩
theorem hb_law_any : ssB ⟨n_law_any, defScope (top 49), frs, true, 4, none⟩ i_law_any (defBody (top 49)) = true := by decide +kernel
theorem ok_law_any (F : Fun K "_law_any" "_law_any" (top 49) f fd) (hfr : ∀ y ∈ frs, mg y = none) (hsm : SmOk K) (c0 : Callee P w K mg base 4 "_law_draw" s_law_draw) (c1 : Callee P w K mg base 4 "_law_drawn" s_law_drawn) (c2 : Callee P w K mg base 4 "_law_faraway" s_law_faraway) (c3 : Callee P w K mg base 4 "_law_ring" s_law_ring) (c4 : Callee P w K mg base 4 "_law_state" s_law_state) : FnG P w K mg base 5 f fd ["_law_deck_here"] s_law_any :=
  fn_ok F sc_law_any hb_law_any hfr hsm (by simp [i_law_any, rSs, rSss, rS, rE, rL, rO, c0, c1, c2, c3, c4]) (fun ds μ R E h => by obtain ⟨_, _, _, rfl, _⟩ := h; rfl) (fun ds μ R E h => k_law_any ds μ R E h)
theorem sc_steps_for : FnScope n_steps_for ["state", "number"] (defScope (top 34)) := ⟨rfl, rfl, rfl, by decide +kernel, rfl, by decide +kernel, by decide +kernel⟩
theorem hb_steps_for : ssB ⟨n_steps_for, defScope (top 34), frs, true, 5, none⟩ i_steps_for (defBody (top 34)) = true := by decide +kernel
theorem ok_steps_for (F : Fun K "steps_for" "steps_for" (top 34) f fd) (hfr : ∀ y ∈ frs, mg y = none) (hsm : SmOk K) (c0 : Callee P w K mg base 5 "need_number" s_need_number) (c1 : Callee P w K mg base 5 "phase_of" s_phase_of) (c2 : Callee P w K mg base 5 "steps_before" s_steps_before) (c3 : Callee P w K mg base 5 "word_of" s_word_of) : FnG P w K mg base 6 f fd ["state", "number"] s_steps_for :=
  fn_ok F sc_steps_for hb_steps_for hfr hsm (by simp [i_steps_for, rSs, rSss, rS, rE, rL, rO, c0, c1, c2, c3]) (fun ds μ R E h => by obtain ⟨_, _, rfl, _⟩ := h; rfl) (fun ds μ R E h => k_steps_for ds μ R E h)
theorem sc_pass_at : FnScope n_pass_at ["state", "index"] (defScope (top 36)) := ⟨rfl, rfl, rfl, by decide +kernel, rfl, by decide +kernel, by decide +kernel⟩
theorem hb_pass_at : ssB ⟨n_pass_at, defScope (top 36), frs, true, 5, none⟩ i_pass_at (defBody (top 36)) = true := by decide +kernel
theorem ok_pass_at (F : Fun K "pass_at" "pass_at" (top 36) f fd) (hfr : ∀ y ∈ frs, mg y = none) (hsm : SmOk K) (c0 : Callee P w K mg base 5 "heading_of" s_heading_of) (c1 : Callee P w K mg base 5 "need_number" s_need_number) (c2 : Callee P w K mg base 5 "number_at" s_number_at) (c3 : Callee P w K mg base 5 "place_on" s_place_on) (c4 : Callee P w K mg base 5 "word_of" s_word_of) : FnG P w K mg base 6 f fd ["state", "index"] s_pass_at :=
  fn_ok F sc_pass_at hb_pass_at hfr hsm (by simp [i_pass_at, rSs, rSss, rS, rE, rL, rO, c0, c1, c2, c3, c4]) (fun ds μ R E h => by obtain ⟨_, _, rfl, _⟩ := h; rfl) (fun ds μ R E h => k_pass_at ds μ R E h)
theorem sc_law_told : FnScope n_law_told ["_law_call", "_law_now", "_law_value"] (defScope (top 51)) := ⟨rfl, rfl, rfl, by decide +kernel, rfl, by decide +kernel, by decide +kernel⟩
theorem hb_law_told : ssB ⟨n_law_told, defScope (top 51), frs, true, 6, none⟩ i_law_told (defBody (top 51)) = true := by decide +kernel
theorem ok_law_told (F : Fun K "_law_told" "_law_told" (top 51) f fd) (hfr : ∀ y ∈ frs, mg y = none) (hsm : SmOk K) (c0 : Callee P w K mg base 6 "pass_at" s_pass_at) (c1 : Callee P w K mg base 6 "passes_in" s_passes_in) (c2 : Callee P w K mg base 6 "raised_among" s_raised_among) (c3 : Callee P w K mg base 6 "steps_for" s_steps_for) (f0 : GlbIn K mg "pass_at" (.fn "pass_at")) (f1 : GlbIn K mg "passes_in" (.fn "passes_in")) (f2 : GlbIn K mg "raised_among" (.fn "raised_among")) (f3 : GlbIn K mg "steps_for" (.fn "steps_for")) (x0 : FactD P w K mg base "BadNumber" "value" ["TurnError", "BadNumber", "ValueError"] ["NoPlace", "BadEnd", "BadState", "BadWay", "TooLarge"]) : FnG P w K mg base 7 f fd ["_law_call", "_law_now", "_law_value"] s_law_told :=
  fn_ok F sc_law_told hb_law_told hfr hsm (by simp [i_law_told, rSs, rSss, rS, rE, rL, rO, x0, c0, c1, c2, c3, f0, f1, f2, f3, rTab]) (fun ds μ R E h => by obtain ⟨_, _, _, rfl, _⟩ := h; rfl) (fun ds μ R E h => k_law_told ds μ R E h)
theorem sc_law_right : FnScope n_law_right ["_law_call", "_law_now", "_law_value"] (defScope (top 53)) := ⟨rfl, rfl, rfl, by decide +kernel, rfl, by decide +kernel, by decide +kernel⟩
theorem hb_law_right : ssB ⟨n_law_right, defScope (top 53), frs, true, 7, none⟩ i_law_right (defBody (top 53)) = true := by decide +kernel
theorem ok_law_right (F : Fun K "_law_right" "_law_right" (top 53) f fd) (hfr : ∀ y ∈ frs, mg y = none) (hsm : SmOk K) (c0 : Callee P w K mg base 7 "_law_told" s_law_told) (c1 : Callee P w K mg base 7 "_law_whole" s_law_whole) : FnG P w K mg base 8 f fd ["_law_call", "_law_now", "_law_value"] s_law_right :=
  fn_ok F sc_law_right hb_law_right hfr hsm (by simp [i_law_right, rSs, rSss, rS, rE, rL, rO, c0, c1]) (fun ds μ R E h => by obtain ⟨_, _, _, rfl, _⟩ := h; rfl) (fun ds μ R E h => k_law_right ds μ R E h)
theorem sc_law : FnScope n_law ["_law_script"] (defScope (top 54)) := ⟨rfl, rfl, rfl, by decide +kernel, rfl, by decide +kernel, by decide +kernel⟩
theorem hb_law : ssB ⟨n_law, defScope (top 54), frs, true, 8, none⟩ i_law (defBody (top 54)) = true := by decide +kernel
theorem ok_law (F : Fun K "law" "law" (top 54) f fd) (hfr : ∀ y ∈ frs, mg y = none) (hsm : SmOk K) (g0 : GlbIn K mg "MAX_STEPS" (.int 10000000000000000000000000)) (c0 : Callee P w K mg base 8 "_law_any" s_law_any) (c1 : Callee P w K mg base 8 "_law_deck" s_law_deck) (c2 : Callee P w K mg base 8 "_law_great" s_law_great) (c3 : Callee P w K mg base 8 "_law_odd" s_law_odd) (c4 : Callee P w K mg base 8 "_law_right" s_law_right) (f0 : GlbIn K mg "pass_at" (.fn "pass_at")) (f1 : GlbIn K mg "passes_in" (.fn "passes_in")) (f2 : GlbIn K mg "raised_among" (.fn "raised_among")) (f3 : GlbIn K mg "steps_for" (.fn "steps_for")) : FnG P w K mg base 9 f fd ["_law_script"] s_law :=
  fn_ok F sc_law hb_law hfr hsm (by simp [i_law, rSs, rSss, rS, rE, rL, rO, g0, c0, c1, c2, c3, c4, f0, f1, f2, f3]) (fun ds μ R E h => by obtain ⟨_, rfl, _⟩ := h; rfl) (fun ds μ R E h => k_law ds μ R E h)
end
def d_other_side : He.DefD := ⟨("other_side", none), "other_side", "other_side", defArgs (top 12), defBody (top 12), defScope (top 12), [], []⟩
def d_place_on : He.DefD := ⟨("place_on", none), "place_on", "place_on", defArgs (top 13), defBody (top 13), defScope (top 13), [], []⟩
def d_flag_is_up : He.DefD := ⟨("flag_is_up", none), "flag_is_up", "flag_is_up", defArgs (top 14), defBody (top 14), defScope (top 14), [], []⟩
def d_put_together : He.DefD := ⟨("put_together", none), "put_together", "put_together", defArgs (top 15), defBody (top 15), defScope (top 15), [], []⟩
def d_runs_of : He.DefD := ⟨("runs_of", none), "runs_of", "runs_of", defArgs (top 16), defBody (top 16), defScope (top 16), [], []⟩
def d_cut_runs : He.DefD := ⟨("cut_runs", none), "cut_runs", "cut_runs", defArgs (top 17), defBody (top 17), defScope (top 17), [], []⟩
def d_ring_runs : He.DefD := ⟨("ring_runs", none), "ring_runs", "ring_runs", defArgs (top 18), defBody (top 18), defScope (top 18), [], []⟩
def d_heading_of : He.DefD := ⟨("heading_of", none), "heading_of", "heading_of", defArgs (top 19), defBody (top 19), defScope (top 19), [], []⟩
def d_word_of : He.DefD := ⟨("word_of", none), "word_of", "word_of", defArgs (top 20), defBody (top 20), defScope (top 20), [], []⟩
def d_turned_word : He.DefD := ⟨("turned_word", none), "turned_word", "turned_word", defArgs (top 21), defBody (top 21), defScope (top 21), [], []⟩
def d_length_of : He.DefD := ⟨("length_of", none), "length_of", "length_of", defArgs (top 22), defBody (top 22), defScope (top 22), [], []⟩
def d_ones_within : He.DefD := ⟨("ones_within", none), "ones_within", "ones_within", defArgs (top 23), defBody (top 23), defScope (top 23), [], []⟩
def d_ones_before : He.DefD := ⟨("ones_before", none), "ones_before", "ones_before", defArgs (top 24), defBody (top 24), defScope (top 24), [], []⟩
def d_number_at : He.DefD := ⟨("number_at", none), "number_at", "number_at", defArgs (top 25), defBody (top 25), defScope (top 25), [], []⟩
def d_steps_before : He.DefD := ⟨("steps_before", none), "steps_before", "steps_before", defArgs (top 26), defBody (top 26), defScope (top 26), [], []⟩
def d_steps_within : He.DefD := ⟨("steps_within", none), "steps_within", "steps_within", defArgs (top 27), defBody (top 27), defScope (top 27), [], []⟩
def d_is_between : He.DefD := ⟨("is_between", none), "is_between", "is_between", defArgs (top 29), defBody (top 29), defScope (top 29), [], []⟩
def d_need_number : He.DefD := ⟨("need_number", none), "need_number", "need_number", defArgs (top 31), defBody (top 31), defScope (top 31), [], []⟩
def d_phase_of : He.DefD := ⟨("phase_of", none), "phase_of", "phase_of", defArgs (top 32), defBody (top 32), defScope (top 32), [], []⟩
def d_passes_in : He.DefD := ⟨("passes_in", none), "passes_in", "passes_in", defArgs (top 33), defBody (top 33), defScope (top 33), [], []⟩
def d_steps_for : He.DefD := ⟨("steps_for", none), "steps_for", "steps_for", defArgs (top 34), defBody (top 34), defScope (top 34), [], []⟩
def d_raised_among : He.DefD := ⟨("raised_among", none), "raised_among", "raised_among", defArgs (top 35), defBody (top 35), defScope (top 35), [], []⟩
def d_pass_at : He.DefD := ⟨("pass_at", none), "pass_at", "pass_at", defArgs (top 36), defBody (top 36), defScope (top 36), [], []⟩
def d_law_deck : He.DefD := ⟨("_law_deck", none), "_law_deck", "_law_deck", defArgs (top 38), defBody (top 38), defScope (top 38), [], []⟩
def d_law_draw : He.DefD := ⟨("_law_draw", none), "_law_draw", "_law_draw", defArgs (top 39), defBody (top 39), defScope (top 39), [], []⟩
def d_law_great : He.DefD := ⟨("_law_great", none), "_law_great", "_law_great", defArgs (top 40), defBody (top 40), defScope (top 40), [], []⟩
def d_law_ring : He.DefD := ⟨("_law_ring", none), "_law_ring", "_law_ring", defArgs (top 41), defBody (top 41), defScope (top 41), [], []⟩
def d_law_state : He.DefD := ⟨("_law_state", none), "_law_state", "_law_state", defArgs (top 42), defBody (top 42), defScope (top 42), [], []⟩
def d_law_other : He.DefD := ⟨("_law_other", none), "_law_other", "_law_other", defArgs (top 43), defBody (top 43), defScope (top 43), [], []⟩
def d_law_on : He.DefD := ⟨("_law_on", none), "_law_on", "_law_on", defArgs (top 44), defBody (top 44), defScope (top 44), [], []⟩
def d_law_word : He.DefD := ⟨("_law_word", none), "_law_word", "_law_word", defArgs (top 45), defBody (top 45), defScope (top 45), [], []⟩
def d_law_stretches : He.DefD := ⟨("_law_stretches", none), "_law_stretches", "_law_stretches", defArgs (top 46), defBody (top 46), defScope (top 46), [], []⟩
def d_law_faraway : He.DefD := ⟨("_law_faraway", none), "_law_faraway", "_law_faraway", defArgs (top 47), defBody (top 47), defScope (top 47), [], []⟩
def d_law_drawn : He.DefD := ⟨("_law_drawn", none), "_law_drawn", "_law_drawn", defArgs (top 48), defBody (top 48), defScope (top 48), [], []⟩
def d_law_any : He.DefD := ⟨("_law_any", none), "_law_any", "_law_any", defArgs (top 49), defBody (top 49), defScope (top 49), [], []⟩
def d_law_odd : He.DefD := ⟨("_law_odd", none), "_law_odd", "_law_odd", defArgs (top 50), defBody (top 50), defScope (top 50), [], []⟩
def d_law_told : He.DefD := ⟨("_law_told", none), "_law_told", "_law_told", defArgs (top 51), defBody (top 51), defScope (top 51), [], []⟩
def d_law_whole : He.DefD := ⟨("_law_whole", none), "_law_whole", "_law_whole", defArgs (top 52), defBody (top 52), defScope (top 52), [], []⟩
def d_law_right : He.DefD := ⟨("_law_right", none), "_law_right", "_law_right", defArgs (top 53), defBody (top 53), defScope (top 53), [], []⟩
def d_law : He.DefD := ⟨("law", none), "law", "law", defArgs (top 54), defBody (top 54), defScope (top 54), [], []⟩
theorem sc_iBadNumber : FnScope ["self", "value"] ["self", "value"] (defScope (meth (top 4) 0)) := ⟨rfl, rfl, rfl, by decide +kernel, rfl, by decide +kernel, by decide +kernel⟩
def d_iBadNumber : He.DefD := ⟨("BadNumber", some "__init__"), "__init__", "BadNumber.__init__", defArgs (meth (top 4) 0), defBody (meth (top 4) 0), defScope (meth (top 4) 0), [], []⟩
def fn : List He.DefD := [d_other_side, d_place_on, d_flag_is_up, d_put_together, d_runs_of, d_cut_runs, d_ring_runs, d_heading_of, d_word_of, d_turned_word, d_length_of, d_ones_within, d_ones_before, d_number_at, d_steps_before, d_steps_within, d_is_between, d_need_number, d_phase_of, d_passes_in, d_steps_for, d_raised_among, d_pass_at, d_law_deck, d_law_draw, d_law_great, d_law_ring, d_law_state, d_law_other, d_law_on, d_law_word, d_law_stretches, d_law_faraway, d_law_drawn, d_law_any, d_law_odd, d_law_told, d_law_whole, d_law_right, d_law, d_iBadNumber]
def bsx (K : PySem.W.Frag) : Bool := (smB K) && ((excB K "BadNumber" "value" [] []) && ((excB K "BadNumber" "value" ["TurnError", "BadNumber", "ValueError"] ["NoPlace", "BadEnd", "BadState", "BadWay", "TooLarge"]) && (true)))
def fa : List He.Fa := [.glo "other_side", .glo "place_on", .glo "flag_is_up", .glo "put_together", .glo "runs_of", .glo "cut_runs", .glo "ring_runs", .glo "heading_of", .glo "word_of", .glo "turned_word", .glo "length_of", .glo "ones_within", .glo "ones_before", .glo "number_at", .glo "steps_before", .glo "steps_within", .glo "is_between", .glo "need_number", .glo "phase_of", .glo "passes_in", .glo "steps_for", .glo "raised_among", .glo "pass_at", .glo "_law_deck", .glo "_law_draw", .glo "_law_great", .glo "_law_ring", .glo "_law_state", .glo "_law_other", .glo "_law_on", .glo "_law_word", .glo "_law_stretches", .glo "_law_faraway", .glo "_law_drawn", .glo "_law_any", .glo "_law_odd", .glo "_law_told", .glo "_law_whole", .glo "_law_right", .glo "law", .free "abs", .free "any", .free "bool", .free "int", .free "isinstance", .free "len", .free "max", .free "min", .free "range", .free "repr", .free "sorted", .free "sum", .free "tuple", .free "zip", .str "LEFT" "left", .int "MAX_STEPS" 10000000000000000000000000, .str "RIGHT" "right"]
abbrev R : PySem.W.OpenRow := PySem.W.OpenLaw.row PySem.Challenge.rw_turnflags_k27_numbers_refused
abbrev hk : PySem.W.Hook := Tf.hookX 4 fa fn bsx
def ob (s : PySem.W.SharedT) : He.AlD := Tf.obsXG 4 fa fn bsx (HandSHeadRun.getT s)
theorem ob_eq (s : PySem.W.SharedT) : ob s = hk.obs s.abs := Tf.obsXG_eq (HandSHeadRun.getT_eq s)
def loose : List Str := (["MAX_STEPS", "RIGHT", "LEFT", "TurnError", "BadState", "BadNumber", "BadWay", "BadEnd", "TooLarge", "NoPlace", "other_side", "place_on", "flag_is_up", "put_together", "runs_of", "cut_runs", "ring_runs", "heading_of", "word_of", "turned_word"] : List Str) ++ (["length_of", "ones_within", "ones_before", "number_at", "steps_before", "steps_within", "is_between", "need_number", "phase_of", "passes_in", "steps_for", "raised_among", "pass_at", "_law_deck", "_law_draw", "_law_great", "_law_ring", "_law_state", "_law_other", "_law_on"] : List Str) ++ (["_law_word", "_law_stretches", "_law_faraway", "_law_drawn", "_law_any", "_law_odd", "_law_told", "_law_whole", "_law_right"] : List Str)
theorem run (w : World) : HandSHeadRun.RunEq R (PySem.W.view R.prog [54]) hk ob 12000 loose w := by
  intro os
  kernel_rfl
theorem facts {P : Program} {w : World} {K : PySem.W.Frag} {h : Heap} {mg : Str → Option Value} {f : Addr} (X : K.In h) (G : h.Ns mainGlobals mg) (hfa : mg ("law" : Str) = some (.ref f)) (c : Tf.SaysX fa fn bsx K) :
    ∃ fd : FuncData, (∀ (s : Shared) (v : Value), BindsTo s fd ⟨[v], []⟩ [("_law_script", v)]) ∧ ∀ base : Heap, K.In base → base.Ns mainGlobals mg → FnG P w K mg base 9 f fd ["_law_script"] s_law := by
  obtain ⟨fd_other_side, F_other_side⟩ := c.def_ 0 (d := d_other_side) rfl
  have g_other_side := He.glo_ok X G (c.fact 0 (f := .glo "other_side") rfl)
  obtain ⟨fd_place_on, F_place_on⟩ := c.def_ 1 (d := d_place_on) rfl
  have g_place_on := He.glo_ok X G (c.fact 1 (f := .glo "place_on") rfl)
  obtain ⟨fd_flag_is_up, F_flag_is_up⟩ := c.def_ 2 (d := d_flag_is_up) rfl
  have g_flag_is_up := He.glo_ok X G (c.fact 2 (f := .glo "flag_is_up") rfl)
  obtain ⟨fd_put_together, F_put_together⟩ := c.def_ 3 (d := d_put_together) rfl
  have g_put_together := He.glo_ok X G (c.fact 3 (f := .glo "put_together") rfl)
  obtain ⟨fd_runs_of, F_runs_of⟩ := c.def_ 4 (d := d_runs_of) rfl
  have g_runs_of := He.glo_ok X G (c.fact 4 (f := .glo "runs_of") rfl)
  obtain ⟨fd_cut_runs, F_cut_runs⟩ := c.def_ 5 (d := d_cut_runs) rfl
  have g_cut_runs := He.glo_ok X G (c.fact 5 (f := .glo "cut_runs") rfl)
  obtain ⟨fd_ring_runs, F_ring_runs⟩ := c.def_ 6 (d := d_ring_runs) rfl
  have g_ring_runs := He.glo_ok X G (c.fact 6 (f := .glo "ring_runs") rfl)
  obtain ⟨fd_heading_of, F_heading_of⟩ := c.def_ 7 (d := d_heading_of) rfl
  have g_heading_of := He.glo_ok X G (c.fact 7 (f := .glo "heading_of") rfl)
  obtain ⟨fd_word_of, F_word_of⟩ := c.def_ 8 (d := d_word_of) rfl
  have g_word_of := He.glo_ok X G (c.fact 8 (f := .glo "word_of") rfl)
  obtain ⟨fd_turned_word, F_turned_word⟩ := c.def_ 9 (d := d_turned_word) rfl
  have g_turned_word := He.glo_ok X G (c.fact 9 (f := .glo "turned_word") rfl)
  obtain ⟨fd_length_of, F_length_of⟩ := c.def_ 10 (d := d_length_of) rfl
  have g_length_of := He.glo_ok X G (c.fact 10 (f := .glo "length_of") rfl)
  obtain ⟨fd_ones_within, F_ones_within⟩ := c.def_ 11 (d := d_ones_within) rfl
  have g_ones_within := He.glo_ok X G (c.fact 11 (f := .glo "ones_within") rfl)
  obtain ⟨fd_ones_before, F_ones_before⟩ := c.def_ 12 (d := d_ones_before) rfl
  have g_ones_before := He.glo_ok X G (c.fact 12 (f := .glo "ones_before") rfl)
  obtain ⟨fd_number_at, F_number_at⟩ := c.def_ 13 (d := d_number_at) rfl
  have g_number_at := He.glo_ok X G (c.fact 13 (f := .glo "number_at") rfl)
  obtain ⟨fd_steps_before, F_steps_before⟩ := c.def_ 14 (d := d_steps_before) rfl
  have g_steps_before := He.glo_ok X G (c.fact 14 (f := .glo "steps_before") rfl)
  obtain ⟨fd_steps_within, F_steps_within⟩ := c.def_ 15 (d := d_steps_within) rfl
  have g_steps_within := He.glo_ok X G (c.fact 15 (f := .glo "steps_within") rfl)
  obtain ⟨fd_is_between, F_is_between⟩ := c.def_ 16 (d := d_is_between) rfl
  have g_is_between := He.glo_ok X G (c.fact 16 (f := .glo "is_between") rfl)
  obtain ⟨fd_need_number, F_need_number⟩ := c.def_ 17 (d := d_need_number) rfl
  have g_need_number := He.glo_ok X G (c.fact 17 (f := .glo "need_number") rfl)
  obtain ⟨fd_phase_of, F_phase_of⟩ := c.def_ 18 (d := d_phase_of) rfl
  have g_phase_of := He.glo_ok X G (c.fact 18 (f := .glo "phase_of") rfl)
  obtain ⟨fd_passes_in, F_passes_in⟩ := c.def_ 19 (d := d_passes_in) rfl
  have g_passes_in := He.glo_ok X G (c.fact 19 (f := .glo "passes_in") rfl)
  obtain ⟨fd_steps_for, F_steps_for⟩ := c.def_ 20 (d := d_steps_for) rfl
  have g_steps_for := He.glo_ok X G (c.fact 20 (f := .glo "steps_for") rfl)
  obtain ⟨fd_raised_among, F_raised_among⟩ := c.def_ 21 (d := d_raised_among) rfl
  have g_raised_among := He.glo_ok X G (c.fact 21 (f := .glo "raised_among") rfl)
  obtain ⟨fd_pass_at, F_pass_at⟩ := c.def_ 22 (d := d_pass_at) rfl
  have g_pass_at := He.glo_ok X G (c.fact 22 (f := .glo "pass_at") rfl)
  obtain ⟨fd_law_deck, F_law_deck⟩ := c.def_ 23 (d := d_law_deck) rfl
  have g_law_deck := He.glo_ok X G (c.fact 23 (f := .glo "_law_deck") rfl)
  obtain ⟨fd_law_draw, F_law_draw⟩ := c.def_ 24 (d := d_law_draw) rfl
  have g_law_draw := He.glo_ok X G (c.fact 24 (f := .glo "_law_draw") rfl)
  obtain ⟨fd_law_great, F_law_great⟩ := c.def_ 25 (d := d_law_great) rfl
  have g_law_great := He.glo_ok X G (c.fact 25 (f := .glo "_law_great") rfl)
  obtain ⟨fd_law_ring, F_law_ring⟩ := c.def_ 26 (d := d_law_ring) rfl
  have g_law_ring := He.glo_ok X G (c.fact 26 (f := .glo "_law_ring") rfl)
  obtain ⟨fd_law_state, F_law_state⟩ := c.def_ 27 (d := d_law_state) rfl
  have g_law_state := He.glo_ok X G (c.fact 27 (f := .glo "_law_state") rfl)
  obtain ⟨fd_law_other, F_law_other⟩ := c.def_ 28 (d := d_law_other) rfl
  have g_law_other := He.glo_ok X G (c.fact 28 (f := .glo "_law_other") rfl)
  obtain ⟨fd_law_on, F_law_on⟩ := c.def_ 29 (d := d_law_on) rfl
  have g_law_on := He.glo_ok X G (c.fact 29 (f := .glo "_law_on") rfl)
  obtain ⟨fd_law_word, F_law_word⟩ := c.def_ 30 (d := d_law_word) rfl
  have g_law_word := He.glo_ok X G (c.fact 30 (f := .glo "_law_word") rfl)
  obtain ⟨fd_law_stretches, F_law_stretches⟩ := c.def_ 31 (d := d_law_stretches) rfl
  have g_law_stretches := He.glo_ok X G (c.fact 31 (f := .glo "_law_stretches") rfl)
  obtain ⟨fd_law_faraway, F_law_faraway⟩ := c.def_ 32 (d := d_law_faraway) rfl
  have g_law_faraway := He.glo_ok X G (c.fact 32 (f := .glo "_law_faraway") rfl)
  obtain ⟨fd_law_drawn, F_law_drawn⟩ := c.def_ 33 (d := d_law_drawn) rfl
  have g_law_drawn := He.glo_ok X G (c.fact 33 (f := .glo "_law_drawn") rfl)
  obtain ⟨fd_law_any, F_law_any⟩ := c.def_ 34 (d := d_law_any) rfl
  have g_law_any := He.glo_ok X G (c.fact 34 (f := .glo "_law_any") rfl)
  obtain ⟨fd_law_odd, F_law_odd⟩ := c.def_ 35 (d := d_law_odd) rfl
  have g_law_odd := He.glo_ok X G (c.fact 35 (f := .glo "_law_odd") rfl)
  obtain ⟨fd_law_told, F_law_told⟩ := c.def_ 36 (d := d_law_told) rfl
  have g_law_told := He.glo_ok X G (c.fact 36 (f := .glo "_law_told") rfl)
  obtain ⟨fd_law_whole, F_law_whole⟩ := c.def_ 37 (d := d_law_whole) rfl
  have g_law_whole := He.glo_ok X G (c.fact 37 (f := .glo "_law_whole") rfl)
  obtain ⟨fd_law_right, F_law_right⟩ := c.def_ 38 (d := d_law_right) rfl
  have g_law_right := He.glo_ok X G (c.fact 38 (f := .glo "_law_right") rfl)
  obtain ⟨fd_law, F_law⟩ := c.def_ 39 (d := d_law) rfl
  have g_law := He.glo_ok X G (c.fact 39 (f := .glo "law") rfl)
  have V_pass_at : GlbIn K mg "pass_at" (.fn "pass_at") := ⟨_, .ref _, g_pass_at, rfl, fun _ => .fn _⟩
  have V_passes_in : GlbIn K mg "passes_in" (.fn "passes_in") := ⟨_, .ref _, g_passes_in, rfl, fun _ => .fn _⟩
  have V_raised_among : GlbIn K mg "raised_among" (.fn "raised_among") := ⟨_, .ref _, g_raised_among, rfl, fun _ => .fn _⟩
  have V_steps_for : GlbIn K mg "steps_for" (.fn "steps_for") := ⟨_, .ref _, g_steps_for, rfl, fun _ => .fn _⟩
  have hfr : ∀ y ∈ frs, mg y = none := fun y hy => by
    have hy : y = "abs" ∨ y = "any" ∨ y = "bool" ∨ y = "int" ∨ y = "isinstance" ∨ y = "len" ∨ y = "max" ∨ y = "min" ∨ y = "range" ∨ y = "repr" ∨ y = "sorted" ∨ y = "sum" ∨ y = "tuple" ∨ y = "zip" := by simpa [frs] using hy
    rcases hy with rfl | rfl | rfl | rfl | rfl | rfl | rfl | rfl | rfl | rfl | rfl | rfl | rfl | rfl
    · exact He.free_ok X G (c.fact 40 (f := .free "abs") rfl)
    · exact He.free_ok X G (c.fact 41 (f := .free "any") rfl)
    · exact He.free_ok X G (c.fact 42 (f := .free "bool") rfl)
    · exact He.free_ok X G (c.fact 43 (f := .free "int") rfl)
    · exact He.free_ok X G (c.fact 44 (f := .free "isinstance") rfl)
    · exact He.free_ok X G (c.fact 45 (f := .free "len") rfl)
    · exact He.free_ok X G (c.fact 46 (f := .free "max") rfl)
    · exact He.free_ok X G (c.fact 47 (f := .free "min") rfl)
    · exact He.free_ok X G (c.fact 48 (f := .free "range") rfl)
    · exact He.free_ok X G (c.fact 49 (f := .free "repr") rfl)
    · exact He.free_ok X G (c.fact 50 (f := .free "sorted") rfl)
    · exact He.free_ok X G (c.fact 51 (f := .free "sum") rfl)
    · exact He.free_ok X G (c.fact 52 (f := .free "tuple") rfl)
    · exact He.free_ok X G (c.fact 53 (f := .free "zip") rfl)
  have G_LEFT : GlbIn K mg "LEFT" (.str "left") := by
    obtain ⟨t, e⟩ := He.str_ok X G (c.fact 54 (f := .str "LEFT" "left") rfl)
    exact ⟨_, .str "left", e, ⟨t, rfl⟩, fun _ => .str _⟩
  have G_MAX_STEPS : GlbIn K mg "MAX_STEPS" (.int 10000000000000000000000000) := by
    obtain ⟨t, e⟩ := He.int_ok X G (c.fact 55 (f := .int "MAX_STEPS" 10000000000000000000000000) rfl)
    exact ⟨_, .int 10000000000000000000000000, e, ⟨t, rfl⟩, fun _ => .int _⟩
  have G_RIGHT : GlbIn K mg "RIGHT" (.str "right") := by
    obtain ⟨t, e⟩ := He.str_ok X G (c.fact 56 (f := .str "RIGHT" "right") rfl)
    exact ⟨_, .str "right", e, ⟨t, rfl⟩, fun _ => .str _⟩
  have cb := c.b
  have hsm : SmOk K := smB_ok (He.ba cb).1
  have cb := (He.ba cb).2
  have cx0 := (He.ba cb).1
  have cb := (He.ba cb).2
  have cx1 := (He.ba cb).1
  have cb := (He.ba cb).2
  obtain ⟨fd_iBadNumber, F_iBadNumber⟩ := c.def_ 40 (d := d_iBadNumber) rfl
  have e := hfa.symm.trans g_law
  cases e
  have b := FunD.bindsA (ps := ["_law_script"]) F_law fun _ _ _ _ _ _ us hl => match us, hl with | [_], _ => rfl
  refine ⟨fd_law, fun s v => b s [v] rfl, fun base _ _ => ?_⟩
  have H_iBadNumber : Fun K "__init__" "BadNumber.__init__" (meth (top 4) 0) _ fd_iBadNumber := He5.fun_of F_iBadNumber
  have B_iBadNumber : Binds K fd_iBadNumber ["self", "value"] [] := H_iBadNumber.binds fun _ _ _ _ _ _ us hl => match us, hl with | [_, _], _ => rfl
  have X_0 : FactD P w K mg base "BadNumber" "value" [] [] := factD_of X G cx0 (init_ok H_iBadNumber sc_iBadNumber rfl (.inl rfl) (.inl rfl) rfl rfl rfl rfl) B_iBadNumber
  have X_1 : FactD P w K mg base "BadNumber" "value" ["TurnError", "BadNumber", "ValueError"] ["NoPlace", "BadEnd", "BadState", "BadWay", "TooLarge"] := factD_of X G cx1 (init_ok H_iBadNumber sc_iBadNumber rfl (.inl rfl) (.inl rfl) rfl rfl rfl rfl) B_iBadNumber
  have H_other_side : Fun K "other_side" "other_side" (top 12) _ fd_other_side := He5.fun_of F_other_side
  have O_other_side : FnG P w K mg base 1 _ fd_other_side ["side"] s_other_side := ok_other_side H_other_side hfr hsm G_LEFT G_RIGHT
  have B_other_side : Binds K fd_other_side ["side"] [] := H_other_side.binds fun _ _ _ _ _ _ us hl => match us, hl with | [_], _ => rfl
  have C_other_side : ∀ k, 1 ≤ k → Callee P w K mg base k "other_side" s_other_side := fun k hk => Callee.of (by decide +kernel) g_other_side F_other_side.kp B_other_side (O_other_side.mono hk)
  have H_place_on : Fun K "place_on" "place_on" (top 13) _ fd_place_on := He5.fun_of F_place_on
  have O_place_on : FnG P w K mg base 1 _ fd_place_on ["size", "place", "side", "many"] s_place_on := ok_place_on H_place_on hfr hsm G_RIGHT
  have B_place_on : Binds K fd_place_on ["size", "place", "side", "many"] [] := H_place_on.binds fun _ _ _ _ _ _ us hl => match us, hl with | [_, _, _, _], _ => rfl
  have C_place_on : ∀ k, 1 ≤ k → Callee P w K mg base k "place_on" s_place_on := fun k hk => Callee.of (by decide +kernel) g_place_on F_place_on.kp B_place_on (O_place_on.mono hk)
  have H_flag_is_up : Fun K "flag_is_up" "flag_is_up" (top 14) _ fd_flag_is_up := He5.fun_of F_flag_is_up
  have O_flag_is_up : FnG P w K mg base 1 _ fd_flag_is_up ["raised", "place"] s_flag_is_up := ok_flag_is_up H_flag_is_up hfr hsm
  have B_flag_is_up : Binds K fd_flag_is_up ["raised", "place"] [] := H_flag_is_up.binds fun _ _ _ _ _ _ us hl => match us, hl with | [_, _], _ => rfl
  have C_flag_is_up : ∀ k, 1 ≤ k → Callee P w K mg base k "flag_is_up" s_flag_is_up := fun k hk => Callee.of (by decide +kernel) g_flag_is_up F_flag_is_up.kp B_flag_is_up (O_flag_is_up.mono hk)
  have H_put_together : Fun K "put_together" "put_together" (top 15) _ fd_put_together := He5.fun_of F_put_together
  have O_put_together : FnG P w K mg base 1 _ fd_put_together ["runs"] s_put_together := ok_put_together H_put_together hfr hsm
  have B_put_together : Binds K fd_put_together ["runs"] [] := H_put_together.binds fun _ _ _ _ _ _ us hl => match us, hl with | [_], _ => rfl
  have C_put_together : ∀ k, 1 ≤ k → Callee P w K mg base k "put_together" s_put_together := fun k hk => Callee.of (by decide +kernel) g_put_together F_put_together.kp B_put_together (O_put_together.mono hk)
  have H_turned_word : Fun K "turned_word" "turned_word" (top 21) _ fd_turned_word := He5.fun_of F_turned_word
  have O_turned_word : FnG P w K mg base 1 _ fd_turned_word ["word"] s_turned_word := ok_turned_word H_turned_word hfr hsm
  have B_turned_word : Binds K fd_turned_word ["word"] [] := H_turned_word.binds fun _ _ _ _ _ _ us hl => match us, hl with | [_], _ => rfl
  have C_turned_word : ∀ k, 1 ≤ k → Callee P w K mg base k "turned_word" s_turned_word := fun k hk => Callee.of (by decide +kernel) g_turned_word F_turned_word.kp B_turned_word (O_turned_word.mono hk)
  have H_length_of : Fun K "length_of" "length_of" (top 22) _ fd_length_of := He5.fun_of F_length_of
  have O_length_of : FnG P w K mg base 1 _ fd_length_of ["word"] s_length_of := ok_length_of H_length_of hfr hsm
  have B_length_of : Binds K fd_length_of ["word"] [] := H_length_of.binds fun _ _ _ _ _ _ us hl => match us, hl with | [_], _ => rfl
  have C_length_of : ∀ k, 1 ≤ k → Callee P w K mg base k "length_of" s_length_of := fun k hk => Callee.of (by decide +kernel) g_length_of F_length_of.kp B_length_of (O_length_of.mono hk)
  have H_is_between : Fun K "is_between" "is_between" (top 29) _ fd_is_between := He5.fun_of F_is_between
  have O_is_between : FnG P w K mg base 1 _ fd_is_between ["value", "low", "high"] s_is_between := ok_is_between H_is_between hfr hsm
  have B_is_between : Binds K fd_is_between ["value", "low", "high"] [] := H_is_between.binds fun _ _ _ _ _ _ us hl => match us, hl with | [_, _, _], _ => rfl
  have C_is_between : ∀ k, 1 ≤ k → Callee P w K mg base k "is_between" s_is_between := fun k hk => Callee.of (by decide +kernel) g_is_between F_is_between.kp B_is_between (O_is_between.mono hk)
  have H_law_deck : Fun K "_law_deck" "_law_deck" (top 38) _ fd_law_deck := He5.fun_of F_law_deck
  have O_law_deck : FnG P w K mg base 1 _ fd_law_deck ["_law_script"] s_law_deck := ok_law_deck H_law_deck hfr hsm
  have B_law_deck : Binds K fd_law_deck ["_law_script"] [] := H_law_deck.binds fun _ _ _ _ _ _ us hl => match us, hl with | [_], _ => rfl
  have C_law_deck : ∀ k, 1 ≤ k → Callee P w K mg base k "_law_deck" s_law_deck := fun k hk => Callee.of (by decide +kernel) g_law_deck F_law_deck.kp B_law_deck (O_law_deck.mono hk)
  have H_law_draw : Fun K "_law_draw" "_law_draw" (top 39) _ fd_law_draw := He5.fun_of F_law_draw
  have O_law_draw : FnG P w K mg base 1 _ fd_law_draw ["_law_deck_here", "_law_many"] s_law_draw := ok_law_draw H_law_draw hfr hsm
  have B_law_draw : Binds K fd_law_draw ["_law_deck_here", "_law_many"] [] := H_law_draw.binds fun _ _ _ _ _ _ us hl => match us, hl with | [_, _], _ => rfl
  have C_law_draw : ∀ k, 1 ≤ k → Callee P w K mg base k "_law_draw" s_law_draw := fun k hk => Callee.of (by decide +kernel) g_law_draw F_law_draw.kp B_law_draw (O_law_draw.mono hk)
  have H_law_state : Fun K "_law_state" "_law_state" (top 42) _ fd_law_state := He5.fun_of F_law_state
  have O_law_state : FnG P w K mg base 1 _ fd_law_state ["_law_ring_here"] s_law_state := ok_law_state H_law_state hfr hsm
  have B_law_state : Binds K fd_law_state ["_law_ring_here"] [] := H_law_state.binds fun _ _ _ _ _ _ us hl => match us, hl with | [_], _ => rfl
  have C_law_state : ∀ k, 1 ≤ k → Callee P w K mg base k "_law_state" s_law_state := fun k hk => Callee.of (by decide +kernel) g_law_state F_law_state.kp B_law_state (O_law_state.mono hk)
  have H_law_other : Fun K "_law_other" "_law_other" (top 43) _ fd_law_other := He5.fun_of F_law_other
  have O_law_other : FnG P w K mg base 1 _ fd_law_other ["_law_side"] s_law_other := ok_law_other H_law_other hfr hsm
  have B_law_other : Binds K fd_law_other ["_law_side"] [] := H_law_other.binds fun _ _ _ _ _ _ us hl => match us, hl with | [_], _ => rfl
  have C_law_other : ∀ k, 1 ≤ k → Callee P w K mg base k "_law_other" s_law_other := fun k hk => Callee.of (by decide +kernel) g_law_other F_law_other.kp B_law_other (O_law_other.mono hk)
  have H_law_on : Fun K "_law_on" "_law_on" (top 44) _ fd_law_on := He5.fun_of F_law_on
  have O_law_on : FnG P w K mg base 1 _ fd_law_on ["_law_size", "_law_place", "_law_side", "_law_many"] s_law_on := ok_law_on H_law_on hfr hsm
  have B_law_on : Binds K fd_law_on ["_law_size", "_law_place", "_law_side", "_law_many"] [] := H_law_on.binds fun _ _ _ _ _ _ us hl => match us, hl with | [_, _, _, _], _ => rfl
  have C_law_on : ∀ k, 1 ≤ k → Callee P w K mg base k "_law_on" s_law_on := fun k hk => Callee.of (by decide +kernel) g_law_on F_law_on.kp B_law_on (O_law_on.mono hk)
  have H_law_stretches : Fun K "_law_stretches" "_law_stretches" (top 46) _ fd_law_stretches := He5.fun_of F_law_stretches
  have O_law_stretches : FnG P w K mg base 1 _ fd_law_stretches ["_law_word_here", "_law_spot", "_law_side", "_law_phase"] s_law_stretches := ok_law_stretches H_law_stretches hfr hsm
  have B_law_stretches : Binds K fd_law_stretches ["_law_word_here", "_law_spot", "_law_side", "_law_phase"] [] := H_law_stretches.binds fun _ _ _ _ _ _ us hl => match us, hl with | [_, _, _, _], _ => rfl
  have C_law_stretches : ∀ k, 1 ≤ k → Callee P w K mg base k "_law_stretches" s_law_stretches := fun k hk => Callee.of (by decide +kernel) g_law_stretches F_law_stretches.kp B_law_stretches (O_law_stretches.mono hk)
  have H_law_whole : Fun K "_law_whole" "_law_whole" (top 52) _ fd_law_whole := He5.fun_of F_law_whole
  have O_law_whole : FnG P w K mg base 1 _ fd_law_whole ["_law_value"] s_law_whole := ok_law_whole H_law_whole hfr hsm
  have B_law_whole : Binds K fd_law_whole ["_law_value"] [] := H_law_whole.binds fun _ _ _ _ _ _ us hl => match us, hl with | [_], _ => rfl
  have C_law_whole : ∀ k, 1 ≤ k → Callee P w K mg base k "_law_whole" s_law_whole := fun k hk => Callee.of (by decide +kernel) g_law_whole F_law_whole.kp B_law_whole (O_law_whole.mono hk)
  have H_runs_of : Fun K "runs_of" "runs_of" (top 16) _ fd_runs_of := He5.fun_of F_runs_of
  have O_runs_of : FnG P w K mg base 2 _ fd_runs_of ["size", "raised"] s_runs_of := ok_runs_of H_runs_of hfr hsm (C_put_together 1 (by decide))
  have B_runs_of : Binds K fd_runs_of ["size", "raised"] [] := H_runs_of.binds fun _ _ _ _ _ _ us hl => match us, hl with | [_, _], _ => rfl
  have C_runs_of : ∀ k, 2 ≤ k → Callee P w K mg base k "runs_of" s_runs_of := fun k hk => Callee.of (by decide +kernel) g_runs_of F_runs_of.kp B_runs_of (O_runs_of.mono hk)
  have H_cut_runs : Fun K "cut_runs" "cut_runs" (top 17) _ fd_cut_runs := He5.fun_of F_cut_runs
  have O_cut_runs : FnG P w K mg base 2 _ fd_cut_runs ["runs", "first", "many"] s_cut_runs := ok_cut_runs H_cut_runs hfr hsm (C_put_together 1 (by decide))
  have B_cut_runs : Binds K fd_cut_runs ["runs", "first", "many"] [] := H_cut_runs.binds fun _ _ _ _ _ _ us hl => match us, hl with | [_, _, _], _ => rfl
  have C_cut_runs : ∀ k, 2 ≤ k → Callee P w K mg base k "cut_runs" s_cut_runs := fun k hk => Callee.of (by decide +kernel) g_cut_runs F_cut_runs.kp B_cut_runs (O_cut_runs.mono hk)
  have H_heading_of : Fun K "heading_of" "heading_of" (top 19) _ fd_heading_of := He5.fun_of F_heading_of
  have O_heading_of : FnG P w K mg base 2 _ fd_heading_of ["state"] s_heading_of := ok_heading_of H_heading_of hfr hsm (C_flag_is_up 1 (by decide)) (C_other_side 1 (by decide)) (C_place_on 1 (by decide))
  have B_heading_of : Binds K fd_heading_of ["state"] [] := H_heading_of.binds fun _ _ _ _ _ _ us hl => match us, hl with | [_], _ => rfl
  have C_heading_of : ∀ k, 2 ≤ k → Callee P w K mg base k "heading_of" s_heading_of := fun k hk => Callee.of (by decide +kernel) g_heading_of F_heading_of.kp B_heading_of (O_heading_of.mono hk)
  have H_steps_within : Fun K "steps_within" "steps_within" (top 27) _ fd_steps_within := He5.fun_of F_steps_within
  have O_steps_within : FnG P w K mg base 2 _ fd_steps_within ["word", "steps"] s_steps_within := ok_steps_within H_steps_within hfr hsm (C_length_of 1 (by decide)) (C_turned_word 1 (by decide))
  have B_steps_within : Binds K fd_steps_within ["word", "steps"] [] := H_steps_within.binds fun _ _ _ _ _ _ us hl => match us, hl with | [_, _], _ => rfl
  have C_steps_within : ∀ k, 2 ≤ k → Callee P w K mg base k "steps_within" s_steps_within := fun k hk => Callee.of (by decide +kernel) g_steps_within F_steps_within.kp B_steps_within (O_steps_within.mono hk)
  have H_law_great : Fun K "_law_great" "_law_great" (top 40) _ fd_law_great := He5.fun_of F_law_great
  have O_law_great : FnG P w K mg base 2 _ fd_law_great ["_law_deck_here", "_law_many"] s_law_great := ok_law_great H_law_great hfr hsm (C_law_draw 1 (by decide))
  have B_law_great : Binds K fd_law_great ["_law_deck_here", "_law_many"] [] := H_law_great.binds fun _ _ _ _ _ _ us hl => match us, hl with | [_, _], _ => rfl
  have C_law_great : ∀ k, 2 ≤ k → Callee P w K mg base k "_law_great" s_law_great := fun k hk => Callee.of (by decide +kernel) g_law_great F_law_great.kp B_law_great (O_law_great.mono hk)
  have H_law_ring : Fun K "_law_ring" "_law_ring" (top 41) _ fd_law_ring := He5.fun_of F_law_ring
  have O_law_ring : FnG P w K mg base 2 _ fd_law_ring ["_law_deck_here", "_law_most"] s_law_ring := ok_law_ring H_law_ring hfr hsm (C_law_draw 1 (by decide))
  have B_law_ring : Binds K fd_law_ring ["_law_deck_here", "_law_most"] [] := H_law_ring.binds fun _ _ _ _ _ _ us hl => match us, hl with | [_, _], _ => rfl
  have C_law_ring : ∀ k, 2 ≤ k → Callee P w K mg base k "_law_ring" s_law_ring := fun k hk => Callee.of (by decide +kernel) g_law_ring F_law_ring.kp B_law_ring (O_law_ring.mono hk)
  have H_law_faraway : Fun K "_law_faraway" "_law_faraway" (top 47) _ fd_law_faraway := He5.fun_of F_law_faraway
  have O_law_faraway : FnG P w K mg base 2 _ fd_law_faraway ["_law_word_here", "_law_spot", "_law_side", "_law_phase"] s_law_faraway := ok_law_faraway H_law_faraway hfr hsm (C_law_on 1 (by decide)) (C_law_other 1 (by decide)) (C_law_stretches 1 (by decide))
  have B_law_faraway : Binds K fd_law_faraway ["_law_word_here", "_law_spot", "_law_side", "_law_phase"] [] := H_law_faraway.binds fun _ _ _ _ _ _ us hl => match us, hl with | [_, _, _, _], _ => rfl
  have C_law_faraway : ∀ k, 2 ≤ k → Callee P w K mg base k "_law_faraway" s_law_faraway := fun k hk => Callee.of (by decide +kernel) g_law_faraway F_law_faraway.kp B_law_faraway (O_law_faraway.mono hk)
  have H_law_odd : Fun K "_law_odd" "_law_odd" (top 50) _ fd_law_odd := He5.fun_of F_law_odd
  have O_law_odd : FnG P w K mg base 2 _ fd_law_odd ["_law_deck_here"] s_law_odd := ok_law_odd H_law_odd hfr hsm (C_law_draw 1 (by decide))
  have B_law_odd : Binds K fd_law_odd ["_law_deck_here"] [] := H_law_odd.binds fun _ _ _ _ _ _ us hl => match us, hl with | [_], _ => rfl
  have C_law_odd : ∀ k, 2 ≤ k → Callee P w K mg base k "_law_odd" s_law_odd := fun k hk => Callee.of (by decide +kernel) g_law_odd F_law_odd.kp B_law_odd (O_law_odd.mono hk)
  have H_ring_runs : Fun K "ring_runs" "ring_runs" (top 18) _ fd_ring_runs := He5.fun_of F_ring_runs
  have O_ring_runs : FnG P w K mg base 3 _ fd_ring_runs ["size", "raised", "place", "side"] s_ring_runs := ok_ring_runs H_ring_runs hfr hsm G_LEFT (C_cut_runs 2 (by decide)) (C_put_together 2 (by decide)) (C_runs_of 2 (by decide))
  have B_ring_runs : Binds K fd_ring_runs ["size", "raised", "place", "side"] [] := H_ring_runs.binds fun _ _ _ _ _ _ us hl => match us, hl with | [_, _, _, _], _ => rfl
  have C_ring_runs : ∀ k, 3 ≤ k → Callee P w K mg base k "ring_runs" s_ring_runs := fun k hk => Callee.of (by decide +kernel) g_ring_runs F_ring_runs.kp B_ring_runs (O_ring_runs.mono hk)
  have H_ones_within : Fun K "ones_within" "ones_within" (top 23) _ fd_ones_within := He5.fun_of F_ones_within
  have O_ones_within : FnG P w K mg base 3 _ fd_ones_within ["word", "many"] s_ones_within := ok_ones_within H_ones_within hfr hsm (C_cut_runs 2 (by decide))
  have B_ones_within : Binds K fd_ones_within ["word", "many"] [] := H_ones_within.binds fun _ _ _ _ _ _ us hl => match us, hl with | [_, _], _ => rfl
  have C_ones_within : ∀ k, 3 ≤ k → Callee P w K mg base k "ones_within" s_ones_within := fun k hk => Callee.of (by decide +kernel) g_ones_within F_ones_within.kp B_ones_within (O_ones_within.mono hk)
  have H_need_number : Fun K "need_number" "need_number" (top 31) _ fd_need_number := He5.fun_of F_need_number
  have O_need_number : FnG P w K mg base 3 _ fd_need_number ["value"] s_need_number := ok_need_number H_need_number hfr hsm G_MAX_STEPS (C_is_between 2 (by decide)) X_0
  have B_need_number : Binds K fd_need_number ["value"] [] := H_need_number.binds fun _ _ _ _ _ _ us hl => match us, hl with | [_], _ => rfl
  have C_need_number : ∀ k, 3 ≤ k → Callee P w K mg base k "need_number" s_need_number := fun k hk => Callee.of (by decide +kernel) g_need_number F_need_number.kp B_need_number (O_need_number.mono hk)
  have H_phase_of : Fun K "phase_of" "phase_of" (top 32) _ fd_phase_of := He5.fun_of F_phase_of
  have O_phase_of : FnG P w K mg base 3 _ fd_phase_of ["state"] s_phase_of := ok_phase_of H_phase_of hfr hsm (C_heading_of 2 (by decide))
  have B_phase_of : Binds K fd_phase_of ["state"] [] := H_phase_of.binds fun _ _ _ _ _ _ us hl => match us, hl with | [_], _ => rfl
  have C_phase_of : ∀ k, 3 ≤ k → Callee P w K mg base k "phase_of" s_phase_of := fun k hk => Callee.of (by decide +kernel) g_phase_of F_phase_of.kp B_phase_of (O_phase_of.mono hk)
  have H_law_word : Fun K "_law_word" "_law_word" (top 45) _ fd_law_word := He5.fun_of F_law_word
  have O_law_word : FnG P w K mg base 3 _ fd_law_word ["_law_deck_here"] s_law_word := ok_law_word H_law_word hfr hsm (C_law_draw 2 (by decide)) (C_law_great 2 (by decide))
  have B_law_word : Binds K fd_law_word ["_law_deck_here"] [] := H_law_word.binds fun _ _ _ _ _ _ us hl => match us, hl with | [_], _ => rfl
  have C_law_word : ∀ k, 3 ≤ k → Callee P w K mg base k "_law_word" s_law_word := fun k hk => Callee.of (by decide +kernel) g_law_word F_law_word.kp B_law_word (O_law_word.mono hk)
  have H_word_of : Fun K "word_of" "word_of" (top 20) _ fd_word_of := He5.fun_of F_word_of
  have O_word_of : FnG P w K mg base 4 _ fd_word_of ["state"] s_word_of := ok_word_of H_word_of hfr hsm (C_cut_runs 3 (by decide)) (C_flag_is_up 3 (by decide)) (C_heading_of 3 (by decide)) (C_put_together 3 (by decide)) (C_ring_runs 3 (by decide))
  have B_word_of : Binds K fd_word_of ["state"] [] := H_word_of.binds fun _ _ _ _ _ _ us hl => match us, hl with | [_], _ => rfl
  have C_word_of : ∀ k, 4 ≤ k → Callee P w K mg base k "word_of" s_word_of := fun k hk => Callee.of (by decide +kernel) g_word_of F_word_of.kp B_word_of (O_word_of.mono hk)
  have H_ones_before : Fun K "ones_before" "ones_before" (top 24) _ fd_ones_before := He5.fun_of F_ones_before
  have O_ones_before : FnG P w K mg base 4 _ fd_ones_before ["word", "many"] s_ones_before := ok_ones_before H_ones_before hfr hsm (C_length_of 3 (by decide)) (C_ones_within 3 (by decide)) (C_turned_word 3 (by decide))
  have B_ones_before : Binds K fd_ones_before ["word", "many"] [] := H_ones_before.binds fun _ _ _ _ _ _ us hl => match us, hl with | [_, _], _ => rfl
  have C_ones_before : ∀ k, 4 ≤ k → Callee P w K mg base k "ones_before" s_ones_before := fun k hk => Callee.of (by decide +kernel) g_ones_before F_ones_before.kp B_ones_before (O_ones_before.mono hk)
  have H_law_drawn : Fun K "_law_drawn" "_law_drawn" (top 48) _ fd_law_drawn := He5.fun_of F_law_drawn
  have O_law_drawn : FnG P w K mg base 4 _ fd_law_drawn ["_law_deck_here"] s_law_drawn := ok_law_drawn H_law_drawn hfr hsm (C_law_draw 3 (by decide)) (C_law_great 3 (by decide)) (C_law_word 3 (by decide))
  have B_law_drawn : Binds K fd_law_drawn ["_law_deck_here"] [] := H_law_drawn.binds fun _ _ _ _ _ _ us hl => match us, hl with | [_], _ => rfl
  have C_law_drawn : ∀ k, 4 ≤ k → Callee P w K mg base k "_law_drawn" s_law_drawn := fun k hk => Callee.of (by decide +kernel) g_law_drawn F_law_drawn.kp B_law_drawn (O_law_drawn.mono hk)
  have H_number_at : Fun K "number_at" "number_at" (top 25) _ fd_number_at := He5.fun_of F_number_at
  have O_number_at : FnG P w K mg base 5 _ fd_number_at ["word", "index"] s_number_at := ok_number_at H_number_at hfr hsm (C_ones_before 4 (by decide))
  have B_number_at : Binds K fd_number_at ["word", "index"] [] := H_number_at.binds fun _ _ _ _ _ _ us hl => match us, hl with | [_, _], _ => rfl
  have C_number_at : ∀ k, 5 ≤ k → Callee P w K mg base k "number_at" s_number_at := fun k hk => Callee.of (by decide +kernel) g_number_at F_number_at.kp B_number_at (O_number_at.mono hk)
  have H_steps_before : Fun K "steps_before" "steps_before" (top 26) _ fd_steps_before := He5.fun_of F_steps_before
  have O_steps_before : FnG P w K mg base 5 _ fd_steps_before ["word", "many"] s_steps_before := ok_steps_before H_steps_before hfr hsm (C_ones_before 4 (by decide))
  have B_steps_before : Binds K fd_steps_before ["word", "many"] [] := H_steps_before.binds fun _ _ _ _ _ _ us hl => match us, hl with | [_, _], _ => rfl
  have C_steps_before : ∀ k, 5 ≤ k → Callee P w K mg base k "steps_before" s_steps_before := fun k hk => Callee.of (by decide +kernel) g_steps_before F_steps_before.kp B_steps_before (O_steps_before.mono hk)
  have H_passes_in : Fun K "passes_in" "passes_in" (top 33) _ fd_passes_in := He5.fun_of F_passes_in
  have O_passes_in : FnG P w K mg base 5 _ fd_passes_in ["state", "steps"] s_passes_in := ok_passes_in H_passes_in hfr hsm (C_need_number 4 (by decide)) (C_phase_of 4 (by decide)) (C_steps_within 4 (by decide)) (C_word_of 4 (by decide))
  have B_passes_in : Binds K fd_passes_in ["state", "steps"] [] := H_passes_in.binds fun _ _ _ _ _ _ us hl => match us, hl with | [_, _], _ => rfl
  have C_passes_in : ∀ k, 5 ≤ k → Callee P w K mg base k "passes_in" s_passes_in := fun k hk => Callee.of (by decide +kernel) g_passes_in F_passes_in.kp B_passes_in (O_passes_in.mono hk)
  have H_raised_among : Fun K "raised_among" "raised_among" (top 35) _ fd_raised_among := He5.fun_of F_raised_among
  have O_raised_among : FnG P w K mg base 5 _ fd_raised_among ["state", "number"] s_raised_among := ok_raised_among H_raised_among hfr hsm (C_need_number 4 (by decide)) (C_ones_before 4 (by decide)) (C_word_of 4 (by decide))
  have B_raised_among : Binds K fd_raised_among ["state", "number"] [] := H_raised_among.binds fun _ _ _ _ _ _ us hl => match us, hl with | [_, _], _ => rfl
  have C_raised_among : ∀ k, 5 ≤ k → Callee P w K mg base k "raised_among" s_raised_among := fun k hk => Callee.of (by decide +kernel) g_raised_among F_raised_among.kp B_raised_among (O_raised_among.mono hk)
  have H_law_any : Fun K "_law_any" "_law_any" (top 49) _ fd_law_any := He5.fun_of F_law_any
  have O_law_any : FnG P w K mg base 5 _ fd_law_any ["_law_deck_here"] s_law_any := ok_law_any H_law_any hfr hsm (C_law_draw 4 (by decide)) (C_law_drawn 4 (by decide)) (C_law_faraway 4 (by decide)) (C_law_ring 4 (by decide)) (C_law_state 4 (by decide))
  have B_law_any : Binds K fd_law_any ["_law_deck_here"] [] := H_law_any.binds fun _ _ _ _ _ _ us hl => match us, hl with | [_], _ => rfl
  have C_law_any : ∀ k, 5 ≤ k → Callee P w K mg base k "_law_any" s_law_any := fun k hk => Callee.of (by decide +kernel) g_law_any F_law_any.kp B_law_any (O_law_any.mono hk)
  have H_steps_for : Fun K "steps_for" "steps_for" (top 34) _ fd_steps_for := He5.fun_of F_steps_for
  have O_steps_for : FnG P w K mg base 6 _ fd_steps_for ["state", "number"] s_steps_for := ok_steps_for H_steps_for hfr hsm (C_need_number 5 (by decide)) (C_phase_of 5 (by decide)) (C_steps_before 5 (by decide)) (C_word_of 5 (by decide))
  have B_steps_for : Binds K fd_steps_for ["state", "number"] [] := H_steps_for.binds fun _ _ _ _ _ _ us hl => match us, hl with | [_, _], _ => rfl
  have C_steps_for : ∀ k, 6 ≤ k → Callee P w K mg base k "steps_for" s_steps_for := fun k hk => Callee.of (by decide +kernel) g_steps_for F_steps_for.kp B_steps_for (O_steps_for.mono hk)
  have H_pass_at : Fun K "pass_at" "pass_at" (top 36) _ fd_pass_at := He5.fun_of F_pass_at
  have O_pass_at : FnG P w K mg base 6 _ fd_pass_at ["state", "index"] s_pass_at := ok_pass_at H_pass_at hfr hsm (C_heading_of 5 (by decide)) (C_need_number 5 (by decide)) (C_number_at 5 (by decide)) (C_place_on 5 (by decide)) (C_word_of 5 (by decide))
  have B_pass_at : Binds K fd_pass_at ["state", "index"] [] := H_pass_at.binds fun _ _ _ _ _ _ us hl => match us, hl with | [_, _], _ => rfl
  have C_pass_at : ∀ k, 6 ≤ k → Callee P w K mg base k "pass_at" s_pass_at := fun k hk => Callee.of (by decide +kernel) g_pass_at F_pass_at.kp B_pass_at (O_pass_at.mono hk)
  have H_law_told : Fun K "_law_told" "_law_told" (top 51) _ fd_law_told := He5.fun_of F_law_told
  have O_law_told : FnG P w K mg base 7 _ fd_law_told ["_law_call", "_law_now", "_law_value"] s_law_told := ok_law_told H_law_told hfr hsm (C_pass_at 6 (by decide)) (C_passes_in 6 (by decide)) (C_raised_among 6 (by decide)) (C_steps_for 6 (by decide)) V_pass_at V_passes_in V_raised_among V_steps_for X_1
  have B_law_told : Binds K fd_law_told ["_law_call", "_law_now", "_law_value"] [] := H_law_told.binds fun _ _ _ _ _ _ us hl => match us, hl with | [_, _, _], _ => rfl
  have C_law_told : ∀ k, 7 ≤ k → Callee P w K mg base k "_law_told" s_law_told := fun k hk => Callee.of (by decide +kernel) g_law_told F_law_told.kp B_law_told (O_law_told.mono hk)
  have H_law_right : Fun K "_law_right" "_law_right" (top 53) _ fd_law_right := He5.fun_of F_law_right
  have O_law_right : FnG P w K mg base 8 _ fd_law_right ["_law_call", "_law_now", "_law_value"] s_law_right := ok_law_right H_law_right hfr hsm (C_law_told 7 (by decide)) (C_law_whole 7 (by decide))
  have B_law_right : Binds K fd_law_right ["_law_call", "_law_now", "_law_value"] [] := H_law_right.binds fun _ _ _ _ _ _ us hl => match us, hl with | [_, _, _], _ => rfl
  have C_law_right : ∀ k, 8 ≤ k → Callee P w K mg base k "_law_right" s_law_right := fun k hk => Callee.of (by decide +kernel) g_law_right F_law_right.kp B_law_right (O_law_right.mono hk)
  have H_law : Fun K "law" "law" (top 54) _ fd_law := He5.fun_of F_law
  have O_law : FnG P w K mg base 9 _ fd_law ["_law_script"] s_law := ok_law H_law hfr hsm G_MAX_STEPS (C_law_any 8 (by decide)) (C_law_deck 8 (by decide)) (C_law_great 8 (by decide)) (C_law_odd 8 (by decide)) (C_law_right 8 (by decide)) V_pass_at V_passes_in V_raised_among V_steps_for
  exact O_law
end Tf.B.TfHead
open PySem PySem.W PySem.Calls PyProof.Rows
theorem PySem.Challenge.cw_turnflags_k27_numbers_refused_holds : PySem.Challenge.rw_turnflags_k27_numbers_refused.Holds := by
  w_on; o_law
  refine HandSHeadRun.head_any (r := OpenLaw.row PySem.Challenge.rw_turnflags_k27_numbers_refused) (q := view (OpenLaw.row PySem.Challenge.rw_turnflags_k27_numbers_refused).prog [54]) (H := Tf.B.TfHead.hk) (ob := Tf.B.TfHead.ob) (M := 12000) (loose := Tf.B.TfHead.loose) (d := HandSHeadRun.topDef (OpenLaw.row PySem.Challenge.rw_turnflags_k27_numbers_refused).prog 54) (kwd := []) Tf.B.TfHead.ob_eq
    (by kernel_rfl) (fun s => by kernel_rfl) Tf.B.TfHead.run (by kernel_rfl) (by kernel_rfl) (by kernel_rfl) (by rfl) (by first | assumption | decide +kernel) (by decide +kernel) ⟨rfl, rfl, rfl, rfl, rfl, by decide +kernel⟩ ?hw ?hc
  case hw => w_witness2
  case hc =>
    refine Tf.law_end (l := PySem.Challenge.rw_turnflags_k27_numbers_refused) (n := 63) (k := 9) (x := "_law_script") rfl (by decide) (by kernel_rfl) ⟨rfl, by decide, by decide⟩ ?F
    intro w mg fa h Y G hmg0
    obtain ⟨K, KX, c⟩ := Y
    have hmg : mg ("law" : PySem.Str) = some (.ref fa) := by
      have e : (HandSHeadRun.topDef (OpenLaw.row PySem.Challenge.rw_turnflags_k27_numbers_refused).prog 54).name = ("law" : PySem.Str) := by kernel_rfl
      rw [← e]
      exact hmg0
    obtain ⟨fd, hb, hF⟩ := Tf.B.TfHead.facts (P := (PySem.Challenge.rw_turnflags_k27_numbers_refused).prog) (w := w) KX G hmg c
    exact ⟨K, fd, Tf.B.s_law, KX, hb, fun ns hl => ⟨ns, rfl, hl, fun _ => rfl⟩, hF⟩

