import PyProof.Rows.All
import Wide.All
import OpenK.AllK
import Wide.FinOn
import HandS.ForMost
import HandS.Exc
import HandS.WordsExc
import HandS.CallSlots
import HandS.IsInst
import HandS.Wide
import HandS.TupAny
import PyProof.ListMulRight
import PyProof.AutoIntG3
import PyProof.StrOps2
import PyProof.StrBlock2
import HandS.Defaults
import HandS.Iter
import HandS.More
import HandS.StrMore
import HandS.Text
import KE.IntTextLaws
import PyProof.StrLawsChain
import KE.KStateDown
import Lean
import HandS.Head0
import HandS.Head1
import HandS.Head2
import HandS.HeadEnd
import HandS.HeadHook1
import HandS.HeadHook2
import PySem.Challenge.RW_placelayers_k07_read_row
set_option Elab.async false
set_option linter.all false
set_option maxRecDepth 100000
set_option maxHeartbeats 1000000
/-! DCore: a layer of immutable trees (D) and mutable cells (Mem) over the hand layer. -/
namespace DL
open PySem PySem.Spec PyProof.Rows L2

/-! ### trees -/
inductive D where
  | non | bl (b : Bool) | int (i : Int) | str (s : PySem.Str) | ty (n : String) | ref (a : Addr)
  | tup (ds : List D) | lst (ds : List D) | ro (ds : List D)
instance : Inhabited D := ⟨.non⟩

mutual
inductive Is (K : PySem.W.Frag) (S : Hp) : V → D → Prop
  | non : Is K S .non .non
  | bl (b : Bool) : Is K S (.bl b) (.bl b)
  | int (i : Int) : Is K S (.int i) (.int i)
  | str (x : PySem.Str) : Is K S (.str x) (.str x)
  | ty (n : String) : Is K S (.ty n) (.ty n)
  | ref (a : Addr) : Is K S (.ref a) (.ref a)
  | tup {a : Addr} {vs : List V} {ds : List D} : SqT K S a vs → IsL K S vs ds → Is K S (.ref a) (.tup ds)
  | lst {a : Addr} {vs : List V} {ds : List D} : S a = some (.lst vs) → IsL K S vs ds → Is K S (.ref a) (.lst ds)
  | ro {a : Addr} {vs : List V} {ds : List D} : SqL K S a vs → IsL K S vs ds → Is K S (.ref a) (.ro ds)
inductive IsL (K : PySem.W.Frag) (S : Hp) : List V → List D → Prop
  | nil : IsL K S [] []
  | cons {v : V} {vs : List V} {d : D} {ds : List D} : Is K S v d → IsL K S vs ds → IsL K S (v :: vs) (d :: ds)
end

theorem sqT_mono {K : PySem.W.Frag} {S S' : Hp} {a : Addr} {xs : List V} (e : Same S S') (h : SqT K S a xs) : SqT K S' a xs := by
  rcases h with (h | ⟨o, h⟩) | h
  · exact .inl (.inl (e _ _ h))
  · exact .inl (.inr ⟨o, e _ _ h⟩)
  · exact .inr h
mutual
theorem Is.mono {K : PySem.W.Frag} {S S' : Hp} (e : Same S S') : ∀ {d : D} {v : V}, Is K S v d → Is K S' v d
  | .non, _, h => by cases h; exact .non
  | .bl _, _, h => by cases h; exact .bl _
  | .int _, _, h => by cases h; exact .int _
  | .str _, _, h => by cases h; exact .str _
  | .ty _, _, h => by cases h; exact .ty _
  | .ref _, _, h => by cases h; exact .ref _
  | .tup ds, _, h => by
    cases h with
    | tup s l => exact .tup (sqT_mono e s) (IsL.mono e l)
  | .lst ds, _, h => by
    cases h with
    | lst s l => exact .lst (e _ _ s) (IsL.mono e l)
  | .ro ds, _, h => by
    cases h with
    | ro s l => exact .ro (e.seq s) (IsL.mono e l)
theorem IsL.mono {K : PySem.W.Frag} {S S' : Hp} (e : Same S S') : ∀ {ds : List D} {vs : List V}, IsL K S vs ds → IsL K S' vs ds
  | [], _, h => by cases h; exact .nil
  | d :: ds, _, h => by
    cases h with
    | cons a b => exact .cons (Is.mono e a) (IsL.mono e b)
end
section
variable {K : PySem.W.Frag} {S : Hp}
theorem IsL.length : ∀ {ds : List D} {vs : List V}, IsL K S vs ds → vs.length = ds.length
  | [], _, h => by cases h; rfl
  | d :: ds, _, h => by
    cases h with
    | cons a b => simp [IsL.length b]
theorem IsL.get : ∀ {ds : List D} {vs : List V} {i : Nat} {d : D}, IsL K S vs ds → ds[i]? = some d → ∃ v, vs[i]? = some v ∧ Is K S v d
  | [], _, _, _, h, e => by simp at e
  | d :: ds, _, 0, _, h, e => by
    cases h with
    | cons a b => simp at e; subst e; exact ⟨_, rfl, a⟩
  | d :: ds, _, i + 1, _, h, e => by
    cases h with
    | cons a b =>
      obtain ⟨v, h1, h2⟩ := IsL.get (i := i) b (by simpa using e)
      exact ⟨v, by simpa using h1, h2⟩
theorem IsL.get' : ∀ {ds : List D} {vs : List V} {i : Nat} {v : V}, IsL K S vs ds → vs[i]? = some v → ∃ d, ds[i]? = some d ∧ Is K S v d
  | [], _, _, _, h, e => by cases h; simp at e
  | d :: ds, _, 0, _, h, e => by
    cases h with
    | cons a b => simp at e; subst e; exact ⟨_, rfl, a⟩
  | d :: ds, _, i + 1, _, h, e => by
    cases h with
    | cons a b =>
      obtain ⟨v, h1, h2⟩ := IsL.get' (i := i) b (by simpa using e)
      exact ⟨v, by simpa using h1, h2⟩
theorem IsL.app : ∀ {ds es : List D} {vs ws : List V}, IsL K S vs ds → IsL K S ws es → IsL K S (vs ++ ws) (ds ++ es)
  | [], _, _, _, h, g => by cases h; exact g
  | d :: ds, _, _, _, h, g => by
    cases h with
    | cons a b => exact .cons a (IsL.app b g)
theorem IsL.one {v : V} {d : D} (h : Is K S v d) : IsL K S [v] [d] := .cons h .nil
theorem IsL.set {v : V} {d : D} (h : Is K S v d) : ∀ {ds : List D} {vs : List V} (i : Nat), IsL K S vs ds → IsL K S (vs.set i v) (ds.set i d)
  | [], _, _, g => by cases g; exact .nil
  | _ :: _, _, 0, g => by
    cases g with
    | cons a b => exact .cons h b
  | _ :: _, _, i + 1, g => by
    cases g with
    | cons a b => exact .cons a (IsL.set h i b)
theorem IsL.take : ∀ {ds : List D} {vs : List V} (n : Nat), IsL K S vs ds → IsL K S (vs.take n) (ds.take n)
  | _, _, 0, g => by simp; exact .nil
  | [], _, _ + 1, g => by cases g; exact .nil
  | _ :: _, _, n + 1, g => by
    cases g with
    | cons a b => exact .cons a (IsL.take n b)
theorem IsL.drop : ∀ {ds : List D} {vs : List V} (n : Nat), IsL K S vs ds → IsL K S (vs.drop n) (ds.drop n)
  | _, _, 0, g => by simpa using g
  | [], _, _ + 1, g => by cases g; exact .nil
  | _ :: _, _, n + 1, g => by
    cases g with
    | cons a b => exact IsL.drop n b
theorem IsL.ints : ∀ {ns : List Int} {vs : List V}, IsL K S vs (ns.map D.int) → vs = ns.map V.int
  | [], _, h => by cases h; rfl
  | n :: ns, _, h => by
    cases h with
    | cons a b => cases a; simp [IsL.ints b]
theorem IsL.ofInts : ∀ {ns : List Int}, IsL K S (ns.map V.int) (ns.map D.int)
  | [] => .nil
  | n :: ns => .cons (.int n) IsL.ofInts
theorem IsL.strs : ∀ {ns : List PySem.Str} {vs : List V}, IsL K S vs (ns.map D.str) → vs = ns.map V.str
  | [], _, h => by cases h; rfl
  | n :: ns, _, h => by
    cases h with
    | cons a b => cases a; simp [IsL.strs b]
theorem IsL.ofStrs : ∀ {ns : List PySem.Str}, IsL K S (ns.map V.str) (ns.map D.str)
  | [] => .nil
  | n :: ns => .cons (.str n) IsL.ofStrs
theorem IsL.bls : ∀ {ns : List Bool} {vs : List V}, IsL K S vs (ns.map D.bl) → vs = ns.map V.bl
  | [], _, h => by cases h; rfl
  | n :: ns, _, h => by
    cases h with
    | cons a b => cases a; simp [IsL.bls b]
end

/-! ### cells -/
inductive CO where
  | lst (ds : List D) | dK (kvs : List (Key × D))
abbrev Mem := Addr → Option CO
def mset (M : Mem) (a : Addr) (o : CO) : Mem := fun b => if b = a then some o else M b
theorem mset_same {M : Mem} {a : Addr} {o : CO} : mset M a o a = some o := by unfold mset; rw [if_pos rfl]
theorem mset_ne {M : Mem} {a b : Addr} {o : CO} (h : b ≠ a) : mset M a o b = M b := by unfold mset; rw [if_neg h]
theorem mset_mset {M : Mem} {a : Addr} {o u : CO} : mset (mset M a o) a u = mset M a u := by
  funext b; unfold mset; split <;> rfl
theorem mne {M : Mem} {a b : Addr} {o : CO} (h : M a = some o) (h' : M b = none) : a ≠ b := by
  intro e; subst e; rw [h] at h'; cases h'

abbrev IsKV (K : PySem.W.Frag) (S : Hp) : List (Key × V) → List (Key × D) → Prop := Paired fun (p : Key × V) (q : Key × D) => p.1 = q.1 ∧ Is K S p.2 q.2
def COk (K : PySem.W.Frag) (S H : Hp) (a : Addr) : CO → Prop
  | .lst ds => ∃ vs, H a = some (.lst vs) ∧ IsL K S vs ds
  | .dK kvs => ∃ ws, H a = some (.dK ws) ∧ IsKV K S ws kvs
theorem COk.mono {K : PySem.W.Frag} {S S' H H' : Hp} {a : Addr} {co : CO} (c : COk K S H a co) (e : Same S S') (h : ∀ o, H a = some o → H' a = some o) : COk K S' H' a co := by
  cases co with
  | lst ds =>
    obtain ⟨vs, q, l⟩ := c
    exact ⟨vs, h _ q, l.mono e⟩
  | dK kvs =>
    obtain ⟨ws, q, l⟩ := c
    exact ⟨ws, h _ q, Paired.mapP l fun a b z => ⟨z.1, z.2.mono e⟩⟩
theorem COk.there {K : PySem.W.Frag} {S H : Hp} {a : Addr} {co : CO} (c : COk K S H a co) : ∃ o, H a = some o := by
  cases co with
  | lst ds =>
    obtain ⟨vs, q, l⟩ := c
    exact ⟨_, q⟩
  | dK kvs =>
    obtain ⟨ws, q, l⟩ := c
    exact ⟨_, q⟩

/-- F: what is hidden; S: what never changes; M: the cells -/
structure Rep (K : PySem.W.Frag) (F S : Hp) (M : Mem) (H : Hp) : Prop where
  same : Same S H
  cell : ∀ a co, M a = some co → S a = none ∧ COk K S H a co
  hid : ∀ a o, F a = some o → S a = none ∧ M a = none ∧ H a = some o
section
variable {K : PySem.W.Frag} {F S H : Hp} {M : Mem} {p : Addr}
theorem Rep.freeS (r : Rep K F S M H) (h : H p = none) : S p = none := r.same.free h
theorem Rep.freeM (r : Rep K F S M H) (h : H p = none) : M p = none := by
  cases e : M p with
  | none => rfl
  | some co =>
    obtain ⟨o, q⟩ := (r.cell p co e).2.there
    rw [h] at q; cases q
theorem Rep.freeF (r : Rep K F S M H) (h : H p = none) : F p = none := by
  cases e : F p with
  | none => rfl
  | some o =>
    have q := (r.hid p o e).2.2
    rw [h] at q; cases q
theorem same_upd {o : HO} (h : H p = none) : Same H (upd H p o) := fun b u e => by rw [upd_ne (ne_of_none e h)]; exact e
theorem Same.upd2 {o : HO} (s : Same S H) : Same (upd S p o) (upd H p o) := fun b u e => by
  by_cases hb : b = p
  · subst hb; rw [upd_same] at e ⊢; exact e
  · rw [upd_ne hb] at e ⊢; exact s b u e
/-- a new object that never changes -/
theorem Rep.frozen {o : HO} (r : Rep K F S M H) (h : H p = none) : Rep K F (upd S p o) M (upd H p o) where
  same := Same.upd2 r.same
  cell := fun a co e => by
    have hne : a ≠ p := mne e (r.freeM h)
    obtain ⟨h1, h2⟩ := r.cell a co e
    refine ⟨by rw [upd_ne hne]; exact h1, h2.mono (same_upd (r.freeS h)) fun o q => by rw [upd_ne hne]; exact q⟩
  hid := fun a u e => by
    obtain ⟨h1, h2, h3⟩ := r.hid a u e
    have hne : a ≠ p := ne_of_none h3 h
    exact ⟨by rw [upd_ne hne]; exact h1, h2, by rw [upd_ne hne]; exact h3⟩
/-- a new object that is nobody's -/
theorem Rep.junk {o : HO} (r : Rep K F S M H) (h : H p = none) : Rep K F S M (upd H p o) where
  same := r.same.trans (same_upd h)
  cell := fun a co e => by
    have hne : a ≠ p := mne e (r.freeM h)
    obtain ⟨h1, h2⟩ := r.cell a co e
    exact ⟨h1, h2.mono (Same.refl _) fun o q => by rw [upd_ne hne]; exact q⟩
  hid := fun a u e => by
    obtain ⟨h1, h2, h3⟩ := r.hid a u e
    exact ⟨h1, h2, by rw [upd_ne (ne_of_none h3 h)]; exact h3⟩
/-- a new cell -/
theorem Rep.newCell {o : HO} {co : CO} (r : Rep K F S M H) (h : H p = none) (c : COk K S (upd H p o) p co) : Rep K F S (mset M p co) (upd H p o) where
  same := r.same.trans (same_upd h)
  cell := fun a c' e => by
    by_cases hb : a = p
    · subst hb
      rw [mset_same] at e; cases e
      exact ⟨r.freeS h, c⟩
    · rw [mset_ne hb] at e
      obtain ⟨h1, h2⟩ := r.cell a c' e
      exact ⟨h1, h2.mono (Same.refl _) fun o q => by rw [upd_ne hb]; exact q⟩
  hid := fun a u e => by
    obtain ⟨h1, h2, h3⟩ := r.hid a u e
    have hne : a ≠ p := ne_of_none h3 h
    exact ⟨h1, by rw [mset_ne hne]; exact h2, by rw [upd_ne hne]; exact h3⟩
/-- a cell is written -/
theorem Rep.write {o : HO} {co co' : CO} (r : Rep K F S M H) (h : M p = some co) (c : COk K S (upd H p o) p co') : Rep K F S (mset M p co') (upd H p o) where
  same := fun b u e => by
    have hne : b ≠ p := fun z => by subst z; rw [(r.cell b co h).1] at e; cases e
    rw [upd_ne hne]; exact r.same b u e
  cell := fun a c' e => by
    by_cases hb : a = p
    · subst hb
      rw [mset_same] at e; cases e
      exact ⟨(r.cell a co h).1, c⟩
    · rw [mset_ne hb] at e
      obtain ⟨h1, h2⟩ := r.cell a c' e
      exact ⟨h1, h2.mono (Same.refl _) fun o q => by rw [upd_ne hb]; exact q⟩
  hid := fun a u e => by
    obtain ⟨h1, h2, h3⟩ := r.hid a u e
    have hne : a ≠ p := fun z => by subst z; rw [h] at h2; cases h2
    exact ⟨h1, by rw [mset_ne hne]; exact h2, by rw [upd_ne hne]; exact h3⟩
/-- fewer cells -/
theorem Rep.less {M' : Mem} (r : Rep K F S M H) (h : ∀ a co, M' a = some co → M a = some co) : Rep K F S M' H := ⟨r.same, fun a co e => r.cell a co (h a co e), fun a o e => by
  obtain ⟨h1, h2, h3⟩ := r.hid a o e
  refine ⟨h1, ?_, h3⟩
  cases q : M' a with
  | none => rfl
  | some co => rw [h a co q] at h2; cases h2⟩
/-- a list's cell never changes from now on -/
theorem Rep.freeze {ds : List D} {M' : Mem} (r : Rep K F S M H) (h : M p = some (.lst ds)) (hm : ∀ a co, M' a = some co → a ≠ p ∧ M a = some co) :
    ∃ vs, Rep K F (upd S p (.lst vs)) M' H ∧ Same S (upd S p (.lst vs)) ∧ Is K (upd S p (.lst vs)) (.ref p) (.lst ds) := by
  obtain ⟨h1, vs, h2, h3⟩ := r.cell p _ h
  have e : Same S (upd S p (.lst vs)) := same_upd h1
  refine ⟨vs, ⟨fun b u q => ?_, fun a co q => ?_, fun a o q => ?_⟩, e, .lst upd_same (h3.mono e)⟩
  · by_cases hb : b = p
    · subst hb; rw [upd_same] at q; cases q; exact h2
    · rw [upd_ne hb] at q; exact r.same b u q
  · obtain ⟨ne, q⟩ := hm a co q
    obtain ⟨g1, g2⟩ := r.cell a co q
    exact ⟨by rw [upd_ne ne]; exact g1, g2.mono e fun o z => z⟩
  · obtain ⟨g1, g2, g3⟩ := r.hid a o q
    have ne : a ≠ p := fun z => by subst z; rw [h] at g2; cases g2
    refine ⟨by rw [upd_ne ne]; exact g1, ?_, g3⟩
    cases z : M' a with
    | none => rfl
    | some co => rw [(hm a co z).2] at g2; cases g2
end

/-- (d, M) may be seen as (d', M') -/
inductive View : D → Mem → D → Mem → Prop
  | less {d : D} {M M' : Mem} (h : ∀ a co, M' a = some co → M a = some co) : View d M d M'
  | frz {p : Addr} {ds : List D} {M M' : Mem} (h : M p = some (.lst ds)) (hm : ∀ a co, M' a = some co → a ≠ p ∧ M a = some co) : View (.ref p) M (.lst ds) M'
theorem View.rep {K : PySem.W.Frag} {F S H : Hp} {M M' : Mem} {d d' : D} {v : V} (x : View d M d' M') (r : Rep K F S M H) (i : Is K S v d) : ∃ S', Same S S' ∧ Rep K F S' M' H ∧ Is K S' v d' := by
  cases x with
  | less h => exact ⟨S, Same.refl _, r.less h, i⟩
  | frz h hm =>
    cases i
    obtain ⟨vs, a, b, c⟩ := r.freeze h hm
    exact ⟨_, b, a, c⟩

/-! ### slots -/
abbrev DSt := List (Option D)
def ROpt (K : PySem.W.Frag) (S : Hp) : Option V → Option D → Prop
  | _, none => True
  | some v, some d => Is K S v d
  | none, some _ => False
abbrev IsO (K : PySem.W.Frag) (S : Hp) : L2.St → DSt → Prop := Paired (ROpt K S)
theorem ROpt.mono {K : PySem.W.Frag} {S S' : Hp} (e : Same S S') : ∀ {v : Option V} {d : Option D}, ROpt K S v d → ROpt K S' v d
  | none, none, _ => trivial
  | some _, none, _ => trivial
  | some _, some _, h => Is.mono e h
  | none, some _, h => h.elim
theorem IsO.mono {K : PySem.W.Frag} {S S' : Hp} {σ : L2.St} {sd : DSt} (e : Same S S') (h : IsO K S σ sd) : IsO K S' σ sd := Paired.mapP h fun _ _ => ROpt.mono e
theorem IsO.get {K : PySem.W.Frag} {S : Hp} : ∀ {σ : L2.St} {sd : DSt} {i : Nat} {d : D}, IsO K S σ sd → sd[i]? = some (some d) → ∃ v, σ[i]? = some (some v) ∧ Is K S v d
  | _, _, _, _, .nil, e => by simp at e
  | _, _, 0, d, .cons (a := v) r t, e => by
    simp at e; subst e
    cases v with
    | none => exact r.elim
    | some v => exact ⟨v, rfl, r⟩
  | _, _, i + 1, d, .cons _ t, e => by
    obtain ⟨v, h1, h2⟩ := IsO.get (i := i) t (by simpa using e)
    exact ⟨v, by simpa using h1, h2⟩
theorem IsO.set {K : PySem.W.Frag} {S : Hp} {v : Option V} {d : Option D} (r : ROpt K S v d) : ∀ {σ : L2.St} {sd : DSt} (i : Nat), IsO K S σ sd → IsO K S (σ.set i v) (sd.set i d)
  | _, _, _, .nil => .nil
  | _, _, 0, .cons _ t => .cons r t
  | _, _, i + 1, .cons q t => .cons q (IsO.set r i t)
theorem IsO.length {K : PySem.W.Frag} {S : Hp} {σ : L2.St} {sd : DSt} (h : IsO K S σ sd) : σ.length = sd.length := Paired.length h

/-! ### readings over trees -/
abbrev DK := D → Mem → Prop
abbrev DTE := DSt → Mem → DK → Prop
abbrev DTT := DSt → Mem → (Bool → Mem → Prop) → Prop
abbrev DTA := DSt → Mem → (List D → Mem → Prop) → Prop
structure DEnds where
  nx : DSt → Mem → Prop
  rt : DK
  bk : DSt → Mem → Prop := fun _ _ => False
  ct : DSt → Mem → Prop := fun _ _ => False
abbrev DTS := DEnds → DSt → Mem → Prop
abbrev DTG := D → DSt → Mem → (DSt → Mem → Prop) → Prop
abbrev DTGs := List D → DSt → Mem → (DSt → Mem → Prop) → Prop

/-- the ground at the def's entry: what is hidden, what stands -/
structure Gr where
  F : Hp
  S : Hp
structure At (K : PySem.W.Frag) (g : Gr) (S : Hp) (M : Mem) (sd : DSt) (σ : L2.St) (H : Hp) : Prop where
  base : Same g.S S
  rep : Rep K g.F S M H
  sl : IsO K S σ sd
theorem At.step {K : PySem.W.Frag} {g : Gr} {S S' : Hp} {M M' : Mem} {sd : DSt} {σ : L2.St} {H H' : Hp} (a : At K g S M sd σ H) (e : Same S S') (r : Rep K g.F S' M' H') : At K g S' M' sd σ H' := ⟨a.base.trans e, r, a.sl.mono e⟩

def liftE (K : PySem.W.Frag) (g : Gr) (t : DTE) : TE := fun σ H Q => ∃ S M sd, ∃ QD : DK, At K g S M sd σ H ∧ t sd M QD ∧
  ∀ d M' v S' H', QD d M' → Same S S' → Rep K g.F S' M' H' → Is K S' v d → Q v H'
def liftT (K : PySem.W.Frag) (g : Gr) (t : DTT) : TT := fun σ H Q => ∃ S M sd, ∃ QD : Bool → Mem → Prop, At K g S M sd σ H ∧ t sd M QD ∧
  ∀ b M' S' H', QD b M' → Same S S' → Rep K g.F S' M' H' → Q b H'
def liftA (K : PySem.W.Frag) (g : Gr) (t : DTA) : TA := fun σ H Q => ∃ S M sd, ∃ QD : List D → Mem → Prop, At K g S M sd σ H ∧ t sd M QD ∧
  ∀ ds M' vs S' H', QD ds M' → Same S S' → Rep K g.F S' M' H' → IsL K S' vs ds → Q vs H'
/-- what the ends of a tree reading demand of the hand layer's -/
structure EndsOk (K : PySem.W.Frag) (g : Gr) (S : Hp) (DD : DEnds) (D' : Ends) : Prop where
  nx : ∀ sd M σ S' H, DD.nx sd M → Same S S' → At K g S' M sd σ H → D'.nx σ H
  rt : ∀ d M v S' H, DD.rt d M → Same S S' → Rep K g.F S' M H → Is K S' v d → D'.rt v H
  bk : ∀ sd M σ S' H, DD.bk sd M → Same S S' → At K g S' M sd σ H → D'.bk σ H
  ct : ∀ sd M σ S' H, DD.ct sd M → Same S S' → At K g S' M sd σ H → D'.ct σ H
theorem EndsOk.mono {K : PySem.W.Frag} {g : Gr} {S S' : Hp} {DD : DEnds} {D' : Ends} (h : EndsOk K g S DD D') (e : Same S S') : EndsOk K g S' DD D' :=
  ⟨fun a b c d f g z => h.nx a b c d f g (e.trans z), fun a b c d f g z => h.rt a b c d f g (e.trans z), fun a b c d f g z => h.bk a b c d f g (e.trans z), fun a b c d f g z => h.ct a b c d f g (e.trans z)⟩
def liftS (K : PySem.W.Frag) (g : Gr) (t : DTS) : TS := fun D' σ H => ∃ S M sd DD, At K g S M sd σ H ∧ t DD sd M ∧ EndsOk K g S DD D'
def liftG (K : PySem.W.Frag) (g : Gr) (t : DTG) : TG := fun v σ H Q => ∃ S M sd d, ∃ QD : DSt → Mem → Prop, At K g S M sd σ H ∧ Is K S v d ∧ t d sd M QD ∧
  ∀ sd' M' σ' S' H', QD sd' M' → Same S S' → At K g S' M' sd' σ' H' → Q σ' H'
def liftGs (K : PySem.W.Frag) (g : Gr) (t : DTGs) : TGs := fun vs σ H Q => ∃ S M sd ds, ∃ QD : DSt → Mem → Prop, At K g S M sd σ H ∧ IsL K S vs ds ∧ t ds sd M QD ∧
  ∀ sd' M' σ' S' H', QD sd' M' → Same S S' → At K g S' M' sd' σ' H' → Q σ' H'

structure DE (X : Cx) (g : Gr) (e : Expr) (t : DTE) : Prop where
  run : PE X e (liftE X.K g t)
structure DT (X : Cx) (g : Gr) (e : Expr) (t : DTT) : Prop where
  run : PT X e (liftT X.K g t)
structure DW (X : Cx) (g : Gr) (e : Expr) (t : DTT) : Prop where
  run : PW X e (liftT X.K g t)
structure DA (X : Cx) (g : Gr) (es : List Expr) (t : DTA) : Prop where
  run : PA X es (liftA X.K g t)
structure DS (X : Cx) (g : Gr) (st : Stmt) (t : DTS) : Prop where
  run : PS X st (liftS X.K g t)
structure DSs (X : Cx) (g : Gr) (st : List Stmt) (t : DTS) : Prop where
  run : PSs X st (liftS X.K g t)
structure DG (X : Cx) (g : Gr) (e : Expr) (t : DTG) : Prop where
  run : PG X e (liftG X.K g t)
structure DGs (X : Cx) (g : Gr) (e : List Expr) (t : DTGs) : Prop where
  run : PGs X e (liftGs X.K g t)

/-! ### a weaker reading -/
theorem pe_imp {X : Cx} {e : Expr} {t t' : TE} (h : PE X e t) (i : ∀ σ H Q, t' σ H Q → t σ H Q) : PE X e t' := ⟨fun pins s σ H Q I w => h.run pins s σ H Q I (i _ _ _ w)⟩
theorem pt_imp {X : Cx} {e : Expr} {t t' : TT} (h : PT X e t) (i : ∀ σ H Q, t' σ H Q → t σ H Q) : PT X e t' := ⟨fun pins s σ H Q I w => h.run pins s σ H Q I (i _ _ _ w)⟩
theorem pw_imp {X : Cx} {e : Expr} {t t' : TT} (h : PW X e t) (i : ∀ σ H Q, t' σ H Q → t σ H Q) : PW X e t' := ⟨fun wh pins s σ H Q I w => h.run wh pins s σ H Q I (i _ _ _ w)⟩
theorem pa_imp {X : Cx} {e : List Expr} {t t' : TA} (h : PA X e t) (i : ∀ σ H Q, t' σ H Q → t σ H Q) : PA X e t' := ⟨fun pos pins s σ H Q I w => h.run pos pins s σ H Q I (i _ _ _ w)⟩
theorem ps_imp {X : Cx} {e : Stmt} {t t' : TS} (h : PS X e t) (i : ∀ D σ H, t' D σ H → t D σ H) : PS X e t' := ⟨fun pins s σ H D I w => h.run pins s σ H D I (i _ _ _ w)⟩
theorem pss_imp {X : Cx} {e : List Stmt} {t t' : TS} (h : PSs X e t) (i : ∀ D σ H, t' D σ H → t D σ H) : PSs X e t' := ⟨fun pins s σ H D I w => h.run pins s σ H D I (i _ _ _ w)⟩
theorem pg_imp {X : Cx} {e : Expr} {t t' : TG} (h : PG X e t) (i : ∀ v σ H Q, t' v σ H Q → t v σ H Q) : PG X e t' := ⟨fun pins s σ H v u Q I r w => h.run pins s σ H v u Q I r (i _ _ _ _ w)⟩
theorem pgs_imp {X : Cx} {e : List Expr} {t t' : TGs} (h : PGs X e t) (i : ∀ v σ H Q, t' v σ H Q → t v σ H Q) : PGs X e t' := ⟨fun pins s σ H v u Q I r w => h.run pins s σ H v u Q I r (i _ _ _ _ w)⟩
end DL

/-! DExpr: expressions and operators over trees. -/
namespace DL
open PySem PySem.Spec PyProof.Rows L2

/-! ### names, constants -/
def sl : DSt → Nat → Option D
  | [], _ => none
  | x :: _, 0 => x
  | _ :: r, n + 1 => sl r n
theorem sl_get : ∀ {σ : DSt} {i : Nat} {d : D}, sl σ i = some d → σ[i]? = some (some d)
  | [], _, _, h => by cases h
  | x :: _, 0, _, h => by
    have h' : x = some _ := h
    subst h'; rfl
  | _ :: r, n + 1, _, h => by
    have := sl_get (σ := r) (i := n) h
    simpa using this
@[reducible] def dVar (i : Nat) : DTE := fun σ M Q => ∃ d, sl σ i = some d ∧ Q d M
@[reducible] def dC (d : D) : DTE := fun _ M Q => Q d M
section
variable {X : Cx} {g : Gr} {pos : Pos}
theorem de_pv {i : Nat} {x : PySem.Str} (h : PE X (.Name x pos) (tVar i)) : DE X g (.Name x pos) (dVar i) := ⟨pe_imp h fun σ H Q ⟨S, M, sd, QD, a, ⟨d, e, q⟩, k⟩ => by
  obtain ⟨v, e1, i1⟩ := a.sl.get (sl_get e)
  exact ⟨v, e1, k d M v S H q (Same.refl _) a.rep i1⟩⟩
theorem de_const {e : Expr} {v : V} {d : D} (h : PE X e (tC v)) (i : ∀ S, Is X.K S v d) : DE X g e (dC d) := ⟨pe_imp h fun σ H Q ⟨S, M, sd, QD, a, q, k⟩ => k d M v S H q (Same.refl _) a.rep (i S)⟩
theorem de_int {i j} : DE X g (.Constant (.int i) j pos) (dC (.int i)) := de_const pe_int fun _ => .int _
theorem de_bl {b j} : DE X g (.Constant (.bool b) j pos) (dC (.bl b)) := de_const pe_bl fun _ => .bl _
theorem de_non {j} : DE X g (.Constant .none j pos) (dC .non) := de_const pe_non fun _ => .non
theorem de_str {x j} : DE X g (.Constant (.str x) j pos) (dC (.str x)) := de_const pe_str fun _ => .str _
theorem de_gint {x : PySem.Str} {i : Int} (hg : Gl X x) (hm : ∃ t, X.mg x = some (.int i t)) (hd : (x == ("__debug__" : PySem.Str)) = false := by decide) : DE X g (.Name x pos) (dC (.int i)) := by
  obtain ⟨t, hm⟩ := hm
  exact de_const (pe_glob (v := .int i) hg hm ⟨t, rfl⟩ hd) fun _ => .int _
theorem de_gstr {x z : PySem.Str} (hg : Gl X x) (hm : ∃ t, X.mg x = some (.str z t)) (hd : (x == ("__debug__" : PySem.Str)) = false := by decide) : DE X g (.Name x pos) (dC (.str z)) := by
  obtain ⟨t, hm⟩ := hm
  exact de_const (pe_glob (v := .str z) hg hm ⟨t, rfl⟩ hd) fun _ => .str _
theorem de_ty {x : PySem.Str} {n : String} (hg : Gl X x) (hm : X.mg x = none) (hv : bootBuiltins x = some (.type n)) (hn : x ≠ "__name__" := by decide) (hd : (x == ("__debug__" : PySem.Str)) = false := by decide) : DE X g (.Name x pos) (dC (.ty n)) :=
  de_const (pe_bltn (v := .ty n) hg hm hv rfl hn hd) fun _ => .ty _
end

/-! ### operators by values -/
abbrev DR2 := D → D → Mem → DK → Prop
def liftR2 (K : PySem.W.Frag) (r : DR2) : R2 := fun x y H Q => ∃ F S M dx dy, ∃ QD : DK, Rep K F S M H ∧ Is K S x dx ∧ Is K S y dy ∧ r dx dy M QD ∧
  ∀ d M' v S' H', QD d M' → Same S S' → Rep K F S' M' H' → Is K S' v d → Q v H'
abbrev DR1 := D → Mem → DK → Prop
def liftR1 (K : PySem.W.Frag) (r : DR1) : V → Hp → VK → Prop := fun x H Q => ∃ F S M dx, ∃ QD : DK, Rep K F S M H ∧ Is K S x dx ∧ r dx M QD ∧
  ∀ d M' v S' H', QD d M' → Same S S' → Rep K F S' M' H' → Is K S' v d → Q v H'
abbrev DRL := List D → Mem → DK → Prop
def liftRL (K : PySem.W.Frag) (r : DRL) : List V → Hp → VK → Prop := fun xs H Q => ∃ F S M ds, ∃ QD : DK, Rep K F S M H ∧ IsL K S xs ds ∧ r ds M QD ∧
  ∀ d M' v S' H', QD d M' → Same S S' → Rep K F S' M' H' → Is K S' v d → Q v H'
@[reducible] def dBin (r : DR2) (ta tb : DTE) : DTE := fun σ M Q => ta σ M fun x M1 => tb σ M1 fun y M2 => r x y M2 Q
@[reducible] def dUn (r : DR1) (ta : DTE) : DTE := fun σ M Q => ta σ M fun x M1 => r x M1 Q

theorem lift_seq2 {K : PySem.W.Frag} {g : Gr} {r : DR2} {ta tb : DTE} {σ : L2.St} {H : Hp} {Q : VK} (h : liftE K g (dBin r ta tb) σ H Q) : tOp (liftR2 K r) (liftE K g ta) (liftE K g tb) σ H Q := by
  obtain ⟨S, M, sd, QD, a, q, k⟩ := h
  refine ⟨S, M, sd, _, a, q, fun d M1 v S1 H1 q1 e1 r1 i1 => ?_⟩
  refine ⟨S1, M1, sd, _, a.step e1 r1, q1, fun d2 M2 v2 S2 H2 q2 e2 r2 i2 => ?_⟩
  exact ⟨_, S2, M2, d, d2, QD, r2, i1.mono e2, i2, q2, fun d3 M3 v3 S3 H3 q3 e3 r3 i3 => k d3 M3 v3 S3 H3 q3 ((e1.trans e2).trans e3) r3 i3⟩
theorem lift_un {K : PySem.W.Frag} {g : Gr} {r : DR1} {ta : DTE} {σ : L2.St} {H : Hp} {Q : VK} (h : liftE K g (dUn r ta) σ H Q) : tUn (liftR1 K r) (liftE K g ta) σ H Q := by
  obtain ⟨S, M, sd, QD, a, q, k⟩ := h
  refine ⟨S, M, sd, _, a, q, fun d M1 v S1 H1 q1 e1 r1 i1 => ?_⟩
  exact ⟨_, S1, M1, d, QD, r1, i1, q1, fun d3 M3 v3 S3 H3 q3 e3 r3 i3 => k d3 M3 v3 S3 H3 q3 (e1.trans e3) r3 i3⟩
section
variable {X : Cx} {g : Gr} {pos : Pos} {a b c : Expr} {ta tb tc : DTE}
theorem de_bin {op : Operator} {r : DR2} (ho : OpR X (binaryOp op) (liftR2 X.K r)) (ha : DE X g a ta) (hb : DE X g b tb) : DE X g (.BinOp a op b pos) (dBin r ta tb) :=
  ⟨pe_imp (pe_op ho ha.run hb.run) fun _ _ _ h => lift_seq2 h⟩
theorem de_un {op : UnaryOp} {r : DR1} (ho : UnR X (unaryOp op) (liftR1 X.K r)) (ha : DE X g a ta) : DE X g (.UnaryOp op a pos) (dUn r ta) :=
  ⟨pe_imp (pe_un ho ha.run) fun _ _ _ h => lift_un h⟩
theorem de_cmp {op : CmpOp} {r : DR2} (ho : OpR X (compareOp op) (liftR2 X.K r)) (ha : DE X g a ta) (hb : DE X g b tb) (hm : behindInMarks op b = false := by first | exact nomark _ | rfl) : DE X g (.Compare a [op] [b] pos) (dBin r ta tb) :=
  ⟨pe_imp (pe_cmpR ho ha.run hb.run hm) fun _ _ _ h => lift_seq2 h⟩
/-- a value's reading as a test: it is a bool -/
@[reducible] def dTest (t : DTE) : DTT := fun σ M Q => t σ M fun x M1 => match x with
  | .bl b => Q b M1
  | _ => False
theorem lift_test {K : PySem.W.Frag} {t : DTE} {σ : L2.St} {H : Hp} {Q : Bool → Hp → Prop} (h : liftT K g (dTest t) σ H Q) : tTest (liftE K g t) σ H Q := by
  obtain ⟨S, M, sd, QD, a, q, k⟩ := h
  refine ⟨S, M, sd, _, a, q, fun d M1 v S1 H1 q1 e1 r1 i1 => ?_⟩
  cases i1 with
  | bl b => exact ⟨b, rfl, k b M1 S1 H1 q1 e1 r1⟩
  | _ => exact q1.elim
theorem dt_cmp {op : CmpOp} {r : DR2} (ho : OpR X (compareOp op) (liftR2 X.K r)) (ha : DE X g a ta) (hb : DE X g b tb) (hm : behindInMarks op b = false := by first | exact nomark _ | rfl) : DT X g (.Compare a [op] [b] pos) (dTest (dBin r ta tb)) := by
  refine ⟨pt_imp (pt_cmpR ho ha.run hb.run hm) fun σ H Q h => ?_⟩
  obtain ⟨S, M, sd, QD, a, q, k⟩ := lift_test h
  exact lift_seq2 ⟨S, M, sd, QD, a, q, k⟩
/-- a op1 b op2 c -/
@[reducible] def dChain (r r' : DR2) (ta tb tc : DTE) : DTE := fun σ M Q => ta σ M fun x M1 => tb σ M1 fun y M2 => r x y M2 fun z M3 => match z with
  | .bl k => (k = true → tc σ M3 fun w M4 => r' y w M4 Q) ∧ (k = false → Q (.bl false) M3)
  | _ => False
theorem lift_chain {K : PySem.W.Frag} {r r' : DR2} {σ : L2.St} {H : Hp} {Q : VK} (h : liftE K g (dChain r r' ta tb tc) σ H Q) : tChain (liftR2 K r) (liftR2 K r') (liftE K g ta) (liftE K g tb) (liftE K g tc) σ H Q := by
  obtain ⟨S, M, sd, QD, a, q, k⟩ := h
  refine ⟨S, M, sd, _, a, q, fun d M1 v S1 H1 q1 e1 r1 i1 => ?_⟩
  refine ⟨S1, M1, sd, _, a.step e1 r1, q1, fun d2 M2 v2 S2 H2 q2 e2 r2 i2 => ?_⟩
  refine ⟨_, S2, M2, d, d2, _, r2, i1.mono e2, i2, q2, fun d3 M3 v3 S3 H3 q3 e3 r3 i3 => ?_⟩
  cases i3 with
  | bl b =>
    refine ⟨b, rfl, ?_⟩
    cases b with
    | false =>
      rw [if_neg Bool.false_ne_true]
      exact k _ _ _ S3 H3 (q3.2 rfl) ((e1.trans e2).trans e3) r3 (.bl _)
    | true =>
      rw [if_pos rfl]
      refine ⟨S3, M3, sd, _, ((a.step e1 r1).step e2 r2).step e3 r3, q3.1 rfl, fun d4 M4 v4 S4 H4 q4 e4 r4 i4 => ?_⟩
      exact ⟨_, S4, M4, d2, d4, QD, r4, (i2.mono e3).mono e4, i4, q4, fun d5 M5 v5 S5 H5 q5 e5 r5 i5 => k d5 M5 v5 S5 H5 q5 ((((e1.trans e2).trans e3).trans e4).trans e5) r5 i5⟩
  | _ => exact q3.elim
theorem de_chain {op op' : CmpOp} {r r' : DR2} (ho : OpR X (compareOp op) (liftR2 X.K r)) (ho' : OpR X (compareOp op') (liftR2 X.K r')) (ha : DE X g a ta) (hb : DE X g b tb) (hc : DE X g c tc) (hm : lastMarks [op, op'] [b, c] = false := by rfl) :
    DE X g (.Compare a [op, op'] [b, c] pos) (dChain r r' ta tb tc) := ⟨pe_imp (pe_chain ho ho' ha.run hb.run hc.run hm) fun _ _ _ h => lift_chain h⟩
theorem dt_chain {op op' : CmpOp} {r r' : DR2} (ho : OpR X (compareOp op) (liftR2 X.K r)) (ho' : OpR X (compareOp op') (liftR2 X.K r')) (ha : DE X g a ta) (hb : DE X g b tb) (hc : DE X g c tc) (hm : lastMarks [op, op'] [b, c] = false := by rfl) :
    DT X g (.Compare a [op, op'] [b, c] pos) (dTest (dChain r r' ta tb tc)) := by
  refine ⟨pt_imp (pt_chain ho ho' ha.run hb.run hc.run hm) fun σ H Q h => ?_⟩
  obtain ⟨S, M, sd, QD, a, q, k⟩ := lift_test h
  exact lift_chain ⟨S, M, sd, QD, a, q, k⟩
end

/-! ### truth -/
def CO.full : CO → Bool
  | .lst ds => !ds.isEmpty
  | .dK kvs => !kvs.isEmpty
def dTru (x : D) (M : Mem) (Q : Bool → Mem → Prop) : Prop := match x with
  | .non => Q false M
  | .bl b => Q b M
  | .int i => Q (i != 0) M
  | .str s => s.length ≤ sizeLine ∧ Q ((s.length : Int) != 0) M
  | .tup ds => Q (!ds.isEmpty) M
  | .lst ds => Q (!ds.isEmpty) M
  | .ro ds => Q (!ds.isEmpty) M
  | .ref a => ∃ co, M a = some co ∧ Q co.full M
  | .ty _ => False
theorem isEmpty_of_len {α β : Type} {xs : List α} {ys : List β} (h : xs.length = ys.length) : xs.isEmpty = ys.isEmpty := by
  cases xs <;> cases ys <;> simp_all
theorem tru_lift {K : PySem.W.Frag} {F S H : Hp} {M : Mem} {v : V} {d : D} {Q : Bool → Mem → Prop} (r : Rep K F S M H) (i : Is K S v d) (h : dTru d M Q) : ∃ k, TruV K v H k ∧ Q k M := by
  cases i with
  | non => exact ⟨_, rfl, h⟩
  | bl b => exact ⟨_, rfl, h⟩
  | int i => exact ⟨_, rfl, h⟩
  | str x => exact ⟨_, ⟨h.1, rfl⟩, h.2⟩
  | ty n => exact h.elim
  | ref a =>
    obtain ⟨co, e, h'⟩ := h
    obtain ⟨_, c⟩ := r.cell a co e
    cases co with
    | lst ds =>
      obtain ⟨vs, q, l⟩ := c
      exact ⟨!ds.isEmpty, .inl ⟨vs, SqL.of q, by rw [isEmpty_of_len l.length]⟩, h'⟩
    | dK kvs =>
      obtain ⟨ws, q, l⟩ := c
      exact ⟨!kvs.isEmpty, .inr (.inr ⟨ws, q, by rw [isEmpty_of_len (Paired.length l)]⟩), h'⟩
  | tup s l => exact ⟨_, .inr (.inl ⟨_, sqT_mono r.same s, by rw [isEmpty_of_len l.length]⟩), h⟩
  | lst s l => exact ⟨_, .inl ⟨_, SqL.of (r.same _ _ s), by rw [isEmpty_of_len l.length]⟩, h⟩
  | ro s l => exact ⟨_, .inl ⟨_, r.same.seq s, by rw [isEmpty_of_len l.length]⟩, h⟩
@[reducible] def dTruth (t : DTE) : DTT := fun σ M Q => t σ M fun x M1 => dTru x M1 Q
section
variable {X : Cx} {g : Gr} {pos : Pos} {a b c : Expr} {ta tb tc : DTE} {tA tB : DTT} {rest : List Expr}
theorem dt_truth (ha : DE X g a ta) (he : ∀ whole, isTrue a X.env whole = (do let v ← whole; standAt a.pos; holding [v] (truthy v)) := by intro _; rfl) : DT X g a (dTruth ta) := by
  refine ⟨pt_imp (pt_truth ha.run he) fun σ H Q h => ?_⟩
  obtain ⟨S, M, sd, QD, a, q, k⟩ := h
  refine ⟨S, M, sd, _, a, q, fun d M1 v S1 H1 q1 e1 r1 i1 => ?_⟩
  obtain ⟨b, t, q2⟩ := tru_lift r1 i1 q1
  exact ⟨b, t, k b M1 S1 H1 q2 e1 r1⟩
@[reducible] def dAnd (t u : DTT) : DTT := fun σ M Q => t σ M fun b M1 => (b = true → u σ M1 Q) ∧ (b = false → Q false M1)
@[reducible] def dOr (t u : DTT) : DTT := fun σ M Q => t σ M fun b M1 => (b = true → Q true M1) ∧ (b = false → u σ M1 Q)
@[reducible] def dNot (t : DTT) : DTT := fun σ M Q => t σ M fun b M1 => Q (!b) M1
theorem dt_not (h : DT X g a tA) : DT X g (.UnaryOp .Not a pos) (dNot tA) := by
  refine ⟨pt_imp (pt_not h.run) fun σ H Q h => ?_⟩
  obtain ⟨S, M, sd, QD, a, q, k⟩ := h
  exact ⟨S, M, sd, _, a, q, fun b M1 S1 H1 q1 e1 r1 => k _ _ _ _ q1 e1 r1⟩
theorem dw_and1 (h : DT X g a tA) : DW X g (.BoolOp .And [a] pos) tA := ⟨pw_and1 h.run⟩
theorem dw_or1 (h : DT X g a tA) : DW X g (.BoolOp .Or [a] pos) tA := ⟨pw_or1 h.run⟩
theorem dw_and (ha : DT X g a tA) (hb : DW X g (.BoolOp .And (b :: rest) pos) tB) : DW X g (.BoolOp .And (a :: b :: rest) pos) (dAnd tA tB) := by
  refine ⟨pw_imp (pw_and ha.run hb.run) fun σ H Q h => ?_⟩
  obtain ⟨S, M, sd, QD, a, q, k⟩ := h
  refine ⟨S, M, sd, _, a, q, fun b M1 S1 H1 q1 e1 r1 => ?_⟩
  cases b with
  | true => exact ⟨S1, M1, sd, QD, a.step e1 r1, q1.1 rfl, fun b M2 S2 H2 q2 e2 r2 => k b M2 S2 H2 q2 (e1.trans e2) r2⟩
  | false => exact k _ _ _ _ (q1.2 rfl) e1 r1
theorem dw_or (ha : DT X g a tA) (hb : DW X g (.BoolOp .Or (b :: rest) pos) tB) : DW X g (.BoolOp .Or (a :: b :: rest) pos) (dOr tA tB) := by
  refine ⟨pw_imp (pw_or ha.run hb.run) fun σ H Q h => ?_⟩
  obtain ⟨S, M, sd, QD, a, q, k⟩ := h
  refine ⟨S, M, sd, _, a, q, fun b M1 S1 H1 q1 e1 r1 => ?_⟩
  cases b with
  | false => exact ⟨S1, M1, sd, QD, a.step e1 r1, q1.2 rfl, fun b M2 S2 H2 q2 e2 r2 => k b M2 S2 H2 q2 (e1.trans e2) r2⟩
  | true => exact k _ _ _ _ (q1.1 rfl) e1 r1
theorem dw_pt (h : DW X g a tA) : DT X g a tA := ⟨h.run.pt⟩
/-- .. as values: all but the last are bools -/
@[reducible] def dAndV (ta tb : DTE) : DTE := fun σ M Q => ta σ M fun x M1 => match x with
  | .bl b => (b = true → tb σ M1 Q) ∧ (b = false → Q (.bl false) M1)
  | _ => False
@[reducible] def dOrV (ta tb : DTE) : DTE := fun σ M Q => ta σ M fun x M1 => match x with
  | .bl b => (b = true → Q (.bl true) M1) ∧ (b = false → tb σ M1 Q)
  | _ => False
@[reducible] def dNotV (ta : DTE) : DTE := fun σ M Q => ta σ M fun x M1 => match x with
  | .bl b => Q (.bl (!b)) M1
  | _ => False
theorem de_one {op} {t : DTE} (h : DE X g a t) : DE X g (.BoolOp op [a] pos) t := ⟨pe_one h.run⟩
theorem de_and (ha : DE X g a ta) (hb : DE X g (.BoolOp .And (b :: rest) pos) tb) : DE X g (.BoolOp .And (a :: b :: rest) pos) (dAndV ta tb) := by
  refine ⟨pe_imp (pe_and ha.run hb.run) fun σ H Q h => ?_⟩
  obtain ⟨S, M, sd, QD, a, q, k⟩ := h
  refine ⟨S, M, sd, _, a, q, fun d M1 v S1 H1 q1 e1 r1 i1 => ?_⟩
  cases i1 with
  | bl b =>
    refine ⟨b, rfl, ?_⟩
    cases b with
    | true => exact ⟨S1, M1, sd, QD, a.step e1 r1, q1.1 rfl, fun d M2 v S2 H2 q2 e2 r2 i2 => k d M2 v S2 H2 q2 (e1.trans e2) r2 i2⟩
    | false => exact k _ _ _ _ _ (q1.2 rfl) e1 r1 (.bl _)
  | _ => exact q1.elim
theorem de_or (ha : DE X g a ta) (hb : DE X g (.BoolOp .Or (b :: rest) pos) tb) : DE X g (.BoolOp .Or (a :: b :: rest) pos) (dOrV ta tb) := by
  refine ⟨pe_imp (pe_or ha.run hb.run) fun σ H Q h => ?_⟩
  obtain ⟨S, M, sd, QD, a, q, k⟩ := h
  refine ⟨S, M, sd, _, a, q, fun d M1 v S1 H1 q1 e1 r1 i1 => ?_⟩
  cases i1 with
  | bl b =>
    refine ⟨b, rfl, ?_⟩
    cases b with
    | false => exact ⟨S1, M1, sd, QD, a.step e1 r1, q1.2 rfl, fun d M2 v S2 H2 q2 e2 r2 i2 => k d M2 v S2 H2 q2 (e1.trans e2) r2 i2⟩
    | true => exact k _ _ _ _ _ (q1.1 rfl) e1 r1 (.bl _)
  | _ => exact q1.elim
theorem de_not (ha : DE X g a ta) : DE X g (.UnaryOp .Not a pos) (dNotV ta) := by
  refine ⟨pe_imp (pe_not ha.run) fun σ H Q h => ?_⟩
  obtain ⟨S, M, sd, QD, a, q, k⟩ := h
  refine ⟨S, M, sd, _, a, q, fun d M1 v S1 H1 q1 e1 r1 i1 => ?_⟩
  cases i1 with
  | bl b => exact ⟨b, rfl, k _ _ _ _ _ q1 e1 r1 (.bl _)⟩
  | _ => exact q1.elim
@[reducible] def dIf (t : DTT) (ta tb : DTE) : DTE := fun σ M Q => t σ M fun b M1 => (b = true → ta σ M1 Q) ∧ (b = false → tb σ M1 Q)
theorem de_ifExp (hc : DT X g c tA) (ha : DE X g a ta) (hb : DE X g b tb) : DE X g (.IfExp c a b pos) (dIf tA ta tb) := by
  refine ⟨pe_imp (pe_ifExp hc.run ha.run hb.run) fun σ H Q h => ?_⟩
  obtain ⟨S, M, sd, QD, a, q, k⟩ := h
  refine ⟨S, M, sd, _, a, q, fun b M1 S1 H1 q1 e1 r1 => ?_⟩
  cases b with
  | true => exact ⟨S1, M1, sd, QD, a.step e1 r1, q1.1 rfl, fun d M2 v S2 H2 q2 e2 r2 i2 => k d M2 v S2 H2 q2 (e1.trans e2) r2 i2⟩
  | false => exact ⟨S1, M1, sd, QD, a.step e1 r1, q1.2 rfl, fun d M2 v S2 H2 q2 e2 r2 i2 => k d M2 v S2 H2 q2 (e1.trans e2) r2 i2⟩
end

/-! ### arguments, displays -/
@[reducible] def dNil : DTA := fun _ M Q => Q [] M
@[reducible] def dCons (ta : DTE) (tr : DTA) : DTA := fun σ M Q => ta σ M fun x M1 => tr σ M1 fun xs M2 => Q (x :: xs) M2
@[reducible] def dTup (t : DTA) : DTE := fun σ M Q => t σ M fun xs M1 => xs.length ≤ sizeLine ∧ Q (.tup xs) M1
@[reducible] def dLst (t : DTA) : DTE := fun σ M Q => t σ M fun xs M1 => xs.length ≤ sizeLine ∧ Q (.lst xs) M1
@[reducible] def dLstC (t : DTA) : DTE := fun σ M Q => t σ M fun xs M1 => xs.length ≤ sizeLine ∧ ∀ p, M1 p = none → Q (.ref p) (mset M1 p (.lst xs))
section
variable {X : Cx} {g : Gr} {pos : Pos} {e : Expr} {es : List Expr} {te : DTE} {t : DTA}
theorem da_nil : DA X g [] dNil := ⟨pa_imp pa_nil fun σ H Q ⟨S, M, sd, QD, a, q, k⟩ => k [] M [] S H q (Same.refl _) a.rep .nil⟩
theorem da_cons (ha : DE X g e te) (hr : DA X g es t) (hs : starEach (e :: es) X.env = (false, eval e X.env) :: starEach es X.env := by rfl) : DA X g (e :: es) (dCons te t) := by
  refine ⟨pa_imp (pa_cons ha.run hr.run hs) fun σ H Q h => ?_⟩
  obtain ⟨S, M, sd, QD, a, q, k⟩ := h
  refine ⟨S, M, sd, _, a, q, fun d M1 v S1 H1 q1 e1 r1 i1 => ?_⟩
  refine ⟨S1, M1, sd, _, a.step e1 r1, q1, fun ds M2 vs S2 H2 q2 e2 r2 i2 => ?_⟩
  exact k _ _ _ S2 H2 q2 (e1.trans e2) r2 (.cons (i1.mono e2) i2)
theorem de_tup {x1} (h : DA X g es t) : DE X g (.Tuple es x1 pos) (dTup t) := by
  refine ⟨pe_imp (pe_tup h.run) fun σ H Q h => ?_⟩
  obtain ⟨S, M, sd, QD, a, q, k⟩ := h
  refine ⟨S, M, sd, _, a, q, fun ds M1 vs S1 H1 q1 e1 r1 i1 => ⟨by rw [i1.length]; exact q1.1, fun p hp => ?_⟩⟩
  have s1 : Same S1 (upd S1 p (.tup vs)) := same_upd (r1.freeS hp)
  exact k _ M1 _ _ _ q1.2 (e1.trans s1) (r1.frozen hp) (.tup (SqT.of upd_same) (i1.mono s1))
theorem de_lst (h : DA X g es t) : DE X g (.List es pos) (dLst t) := by
  refine ⟨pe_imp (pe_lst h.run) fun σ H Q h => ?_⟩
  obtain ⟨S, M, sd, QD, a, q, k⟩ := h
  refine ⟨S, M, sd, _, a, q, fun ds M1 vs S1 H1 q1 e1 r1 i1 => ⟨by rw [i1.length]; exact q1.1, fun p hp => ?_⟩⟩
  have s1 : Same S1 (upd S1 p (.lst vs)) := same_upd (r1.freeS hp)
  exact k _ M1 _ _ _ q1.2 (e1.trans s1) (r1.frozen hp) (.lst upd_same (i1.mono s1))
theorem de_lstC (h : DA X g es t) : DE X g (.List es pos) (dLstC t) := by
  refine ⟨pe_imp (pe_lst h.run) fun σ H Q h => ?_⟩
  obtain ⟨S, M, sd, QD, a, q, k⟩ := h
  refine ⟨S, M, sd, _, a, q, fun ds M1 vs S1 H1 q1 e1 r1 i1 => ⟨by rw [i1.length]; exact q1.1, fun p hp => ?_⟩⟩
  exact k _ _ _ S1 _ (q1.2 p (r1.freeM hp)) e1 (r1.newCell hp ⟨vs, upd_same, i1⟩) (.ref p)
end

/-! ### what the operators do -/
def MulOk (i j : Int) : Prop := CMul i j ∨ CMulW i j
def DivOk (j : Int) : Prop := 0 < j ∧ j.natAbs.log2 < 9000
/-- a list that stands in the heap by itself: one that never changes, or a cell -/
def LstOf (x : D) (M : Mem) (ds : List D) : Prop := x = .lst ds ∨ ∃ a, x = .ref a ∧ M a = some (.lst ds)
theorem LstOf.at {K : PySem.W.Frag} {F S H : Hp} {M : Mem} {x : D} {v : V} {ds : List D} (h : LstOf x M ds) (rep : Rep K F S M H) (i : Is K S v x) : ∃ p vs, v = .ref p ∧ H p = some (.lst vs) ∧ IsL K S vs ds := by
  rcases h with rfl | ⟨a, rfl, hm⟩
  · cases i with
    | lst s l => exact ⟨_, _, rfl, rep.same _ _ s, l⟩
  · cases i
    obtain ⟨_, vs, hv, l⟩ := rep.cell a _ hm
    exact ⟨_, vs, rfl, hv, l⟩
def dAdd : DR2 := fun x y M Q => match x, y with
  | .int i, .int j => Q (.int (i + j)) M
  | .str a, .str b => a.length + b.length ≤ sizeLine ∧ Q (.str (a ++ b)) M
  | .tup a, .tup b => a.length + b.length ≤ sizeLine ∧ Q (.tup (a ++ b)) M
  | x, y => ∃ a b, LstOf x M a ∧ LstOf y M b ∧ a.length + b.length ≤ sizeLine ∧ Q (.lst (a ++ b)) M
/-- .. into a cell -/
def dAddC : DR2 := fun x y M Q => ∃ a b, LstOf x M a ∧ LstOf y M b ∧ a.length + b.length ≤ sizeLine ∧ ∀ p, M p = none → Q (.ref p) (mset M p (.lst (a ++ b)))
def dSub : DR2 := fun x y M Q => match x, y with
  | .int i, .int j => Q (.int (i - j)) M
  | _, _ => False
def dMul : DR2 := fun x y M Q => match x, y with
  | .int i, .int j => MulOk i j ∧ Q (.int (i * j)) M
  | .int i, .str z => PySem.MulOk z i ∧ Q (.str (Txt.mul z i)) M
  | _, _ => False
/-- n * text -/
theorem op_mulIS {X : Cx} : OpR X (binaryOp .Mult) (fun x y H Q => ∃ (i : Int) (z : PySem.Str), x = .int i ∧ y = .str z ∧ PySem.MulOk z i ∧ Q (.str (Txt.mul z i)) H) := by
  intro pins s σ H x y v u Q I rx ry h
  obtain ⟨i, z, rfl, rfl, hok, q⟩ := h
  obtain ⟨t, rfl⟩ := rx
  obtain ⟨t', rfl⟩ := ry
  refine lm_binaryOp_repeat_right (T := "str") (U := "int") (by decide) (fun s' => typeIs_int s' i t) (typeIs_str s z t') PySem.F.fills_int_mul noFill_str_mul PySem.F.slot_int_mul lm_noRepeat_int repeat_str PySem.F.slot_int_index.lookup ?_
  refine call_gives PySem.F.slot_int_mul (typeIs_int s i t) PySem.F.entry_int_mul (PySem.F.args_int_mul_2 _ _) (AutoIntG3.int___mul___int_str_0 i t z t') ⟨rfl, typeIs_str _ z t', ?_⟩
  have h : ∀ t'' k, EP X pins σ Q (.str (Txt.mul z i) t'') { s with toks := k } := fun t'' k => ⟨.str (Txt.mul z i), H, I.tok k, ⟨_, rfl⟩, q⟩
  refine call_gives PySem.F.slot_str_mul (typeIs_str s z t') PySem.F.entry_str_mul (PySem.F.args_str_mul_2 _ _) (PySem.gives_str_mul z i t' t hok.1 hok.2.1 hok.2.2) ?_
  unfold Txt.mul at h
  by_cases h1 : i < 1
  · rw [if_pos h1]
    have h' := h s.toks (s.toks + 1)
    rw [if_pos h1] at h'
    exact ⟨by decide, h'⟩
  · rw [if_neg h1]
    refine post_val_or_made (fun hc => fits_reps (hok.2.2 h1 (by simpa using hc))) fun t'' k => ?_
    have h' := h t'' k
    rw [if_neg h1] at h'
    exact h'
def dFdiv : DR2 := fun x y M Q => match x, y with
  | .int i, .int j => DivOk j ∧ Q (.int (i / j)) M
  | _, _ => False
def dMod : DR2 := fun x y M Q => match x, y with
  | .int i, .int j => 0 < j ∧ Q (.int (i % j)) M
  | _, _ => False
def dPow : DR2 := fun x y M Q => match x, y with
  | .int i, .int j => CPow i j ∧ Q (.int (i ^ j.toNat)) M
  | _, _ => False
def dLt : DR2 := fun x y M Q => match x, y with
  | .int i, .int j => Q (.bl (decide (i < j))) M
  | _, _ => False
def dLe : DR2 := fun x y M Q => match x, y with
  | .int i, .int j => Q (.bl (decide (i ≤ j))) M
  | _, _ => False
def dGt : DR2 := fun x y M Q => match x, y with
  | .int i, .int j => Q (.bl (decide (j < i))) M
  | _, _ => False
def dGe : DR2 := fun x y M Q => match x, y with
  | .int i, .int j => Q (.bl (decide (j ≤ i))) M
  | _, _ => False
def isNon : D → Bool
  | .non => true
  | _ => false
def dIs : DR2 := fun x y M Q => match y with
  | .non => Q (.bl (isNon x)) M
  | _ => False
def dIsNot : DR2 := fun x y M Q => match y with
  | .non => Q (.bl (!isNon x)) M
  | _ => False
theorem isNon_of {K : PySem.W.Frag} {S : Hp} {v : V} {d : D} (i : Is K S v d) : decide (v = .non) = isNon d := by
  cases i <;> rfl
section
variable {X : Cx}
theorem dop_add : OpR X (binaryOp .Add) (liftR2 X.K dAdd) := by
  intro pins s σ H x y v u Q I rx ry h
  obtain ⟨F, S, M, dx, dy, QD, rep, ix, iy, hr, hq⟩ := h
  unfold dAdd at hr
  split at hr
  · cases ix
    cases iy
    exact op_add pins s σ H _ _ v u Q I rx ry ⟨_, _, rfl, rfl, hq _ _ _ S H hr (Same.refl _) rep (.int _)⟩
  · cases ix
    cases iy
    exact op_add_str pins s σ H _ _ v u Q I rx ry ⟨_, _, rfl, rfl, hr.1, hq _ _ _ S H hr.2 (Same.refl _) rep (.str _)⟩
  · rename_i a b
    cases ix with
    | @tup _ vx _ sx lx =>
      cases iy with
      | @tup _ vy _ sy ly =>
        refine op_catA pins s σ H _ _ v u Q I rx ry ⟨_, _, _, _, rfl, rfl, sqT_mono rep.same sx, sqT_mono rep.same sy, by rw [lx.length, ly.length]; exact hr.1, fun e => ?_, fun _ e => ?_, fun _ _ p hp => ?_⟩
        · subst e
          cases lx
          exact hq _ M _ S H hr.2 (Same.refl _) rep (.tup sy ly)
        · subst e
          cases ly
          exact hq _ M _ S H hr.2 (Same.refl _) rep (by rw [List.append_nil]; exact .tup sx lx)
        · have s1 : Same S (upd S p (.tup (vx ++ vy))) := same_upd (rep.freeS hp)
          exact hq _ M _ _ _ hr.2 s1 (rep.frozen hp) (.tup (SqT.of upd_same) ((lx.app ly).mono s1))
  · obtain ⟨a, b, ha, hb, hz, q⟩ := hr
    obtain ⟨p1, v1, rfl, h1, l1⟩ := ha.at rep ix
    obtain ⟨p2, v2, rfl, h2, l2⟩ := hb.at rep iy
    refine op_cat pins s σ H _ _ v u Q I rx ry ⟨_, _, _, _, rfl, rfl, h1, h2, by rw [l1.length, l2.length]; exact hz, fun p hp => ?_⟩
    have s1 : Same S (upd S p (.lst (v1 ++ v2))) := same_upd (rep.freeS hp)
    exact hq _ M _ _ _ q s1 (rep.frozen hp) (.lst upd_same ((l1.app l2).mono s1))
theorem dop_addC : OpR X (binaryOp .Add) (liftR2 X.K dAddC) := by
  intro pins s σ H x y v u Q I rx ry h
  obtain ⟨F, S, M, dx, dy, QD, rep, ix, iy, ⟨a, b, ha, hb, hz, q⟩, hq⟩ := h
  obtain ⟨p1, v1, rfl, h1, l1⟩ := ha.at rep ix
  obtain ⟨p2, v2, rfl, h2, l2⟩ := hb.at rep iy
  refine op_cat pins s σ H _ _ v u Q I rx ry ⟨_, _, _, _, rfl, rfl, h1, h2, by rw [l1.length, l2.length]; exact hz, fun p hp => ?_⟩
  exact hq _ _ _ S _ (q p (rep.freeM hp)) (Same.refl _) (rep.newCell hp ⟨_, upd_same, l1.app l2⟩) (.ref p)
theorem dop_sub : OpR X (binaryOp .Sub) (liftR2 X.K dSub) := by
  intro pins s σ H x y v u Q I rx ry h
  obtain ⟨F, S, M, dx, dy, QD, rep, ix, iy, hr, hq⟩ := h
  cases ix with
  | int i => cases iy with
    | int j => exact op_sub pins s σ H _ _ v u Q I rx ry ⟨i, j, rfl, rfl, hq _ _ _ S H hr (Same.refl _) rep (.int _)⟩
    | _ => exact hr.elim
  | _ => exact hr.elim
theorem dop_mul : OpR X (binaryOp .Mult) (liftR2 X.K dMul) := by
  intro pins s σ H x y v u Q I rx ry h
  obtain ⟨F, S, M, dx, dy, QD, rep, ix, iy, hr, hq⟩ := h
  cases ix with
  | int i => cases iy with
    | int j =>
      rcases hr with ⟨hr | hr, q⟩
      · exact op_mul pins s σ H _ _ v u Q I rx ry ⟨i, j, rfl, rfl, hr, hq _ _ _ S H q (Same.refl _) rep (.int _)⟩
      · exact op_mulW pins s σ H _ _ v u Q I rx ry ⟨i, j, rfl, rfl, hr, hq _ _ _ S H q (Same.refl _) rep (.int _)⟩
    | str z => exact op_mulIS pins s σ H _ _ v u Q I rx ry ⟨i, z, rfl, rfl, hr.1, hq _ _ _ S H hr.2 (Same.refl _) rep (.str _)⟩
    | _ => exact hr.elim
  | _ => exact hr.elim
theorem dop_fdiv : OpR X (binaryOp .FloorDiv) (liftR2 X.K dFdiv) := by
  intro pins s σ H x y v u Q I rx ry h
  obtain ⟨F, S, M, dx, dy, QD, rep, ix, iy, hr, hq⟩ := h
  cases ix with
  | int i => cases iy with
    | int j => exact op_fdivW pins s σ H _ _ v u Q I rx ry ⟨i, j, rfl, rfl, hr.1, hq _ _ _ S H hr.2 (Same.refl _) rep (.int _)⟩
    | _ => exact hr.elim
  | _ => exact hr.elim
theorem dop_mod : OpR X (binaryOp .Mod) (liftR2 X.K dMod) := by
  intro pins s σ H x y v u Q I rx ry h
  obtain ⟨F, S, M, dx, dy, QD, rep, ix, iy, hr, hq⟩ := h
  cases ix with
  | int i => cases iy with
    | int j => exact op_mod pins s σ H _ _ v u Q I rx ry ⟨i, j, rfl, rfl, hr.1, hq _ _ _ S H hr.2 (Same.refl _) rep (.int _)⟩
    | _ => exact hr.elim
  | _ => exact hr.elim
theorem dop_pow : OpR X (binaryOp .Pow) (liftR2 X.K dPow) := by
  intro pins s σ H x y v u Q I rx ry h
  obtain ⟨F, S, M, dx, dy, QD, rep, ix, iy, hr, hq⟩ := h
  cases ix with
  | int i => cases iy with
    | int j => exact op_pow pins s σ H _ _ v u Q I rx ry ⟨i, j, rfl, rfl, hr.1, hq _ _ _ S H hr.2 (Same.refl _) rep (.int _)⟩
    | _ => exact hr.elim
  | _ => exact hr.elim
theorem dop_lt : OpR X (compareOp .Lt) (liftR2 X.K dLt) := by
  intro pins s σ H x y v u Q I rx ry h
  obtain ⟨F, S, M, dx, dy, QD, rep, ix, iy, hr, hq⟩ := h
  cases ix with
  | int i => cases iy with
    | int j => exact op_lt pins s σ H _ _ v u Q I rx ry ⟨i, j, rfl, rfl, hq _ _ _ S H hr (Same.refl _) rep (.bl _)⟩
    | _ => exact hr.elim
  | _ => exact hr.elim
theorem dop_le : OpR X (compareOp .LtE) (liftR2 X.K dLe) := by
  intro pins s σ H x y v u Q I rx ry h
  obtain ⟨F, S, M, dx, dy, QD, rep, ix, iy, hr, hq⟩ := h
  cases ix with
  | int i => cases iy with
    | int j => exact op_le pins s σ H _ _ v u Q I rx ry ⟨i, j, rfl, rfl, hq _ _ _ S H hr (Same.refl _) rep (.bl _)⟩
    | _ => exact hr.elim
  | _ => exact hr.elim
theorem dop_gt : OpR X (compareOp .Gt) (liftR2 X.K dGt) := by
  intro pins s σ H x y v u Q I rx ry h
  obtain ⟨F, S, M, dx, dy, QD, rep, ix, iy, hr, hq⟩ := h
  cases ix with
  | int i => cases iy with
    | int j => exact op_gt pins s σ H _ _ v u Q I rx ry ⟨i, j, rfl, rfl, hq _ _ _ S H hr (Same.refl _) rep (.bl _)⟩
    | _ => exact hr.elim
  | _ => exact hr.elim
theorem dop_ge : OpR X (compareOp .GtE) (liftR2 X.K dGe) := by
  intro pins s σ H x y v u Q I rx ry h
  obtain ⟨F, S, M, dx, dy, QD, rep, ix, iy, hr, hq⟩ := h
  cases ix with
  | int i => cases iy with
    | int j => exact op_ge pins s σ H _ _ v u Q I rx ry ⟨i, j, rfl, rfl, hq _ _ _ S H hr (Same.refl _) rep (.bl _)⟩
    | _ => exact hr.elim
  | _ => exact hr.elim
theorem dop_is : OpR X (compareOp .Is) (liftR2 X.K dIs) := by
  intro pins s σ H x y v u Q I rx ry h
  obtain ⟨F, S, M, dx, dy, QD, rep, ix, iy, hr, hq⟩ := h
  cases iy with
  | non => exact op_isN pins s σ H _ _ v u Q I rx ry ⟨rfl, by rw [isNon_of ix]; exact hq _ _ _ S H hr (Same.refl _) rep (.bl _)⟩
  | _ => exact hr.elim
theorem dop_isnot : OpR X (compareOp .IsNot) (liftR2 X.K dIsNot) := by
  intro pins s σ H x y v u Q I rx ry h
  obtain ⟨F, S, M, dx, dy, QD, rep, ix, iy, hr, hq⟩ := h
  cases iy with
  | non => exact op_notN pins s σ H _ _ v u Q I rx ry ⟨rfl, by rw [isNon_of ix]; exact hq _ _ _ S H hr (Same.refl _) rep (.bl _)⟩
  | _ => exact hr.elim
def dNeg : DR1 := fun x M Q => match x with
  | .int i => Q (.int (-i)) M
  | _ => False
theorem dun_neg : UnR X (unaryOp .USub) (liftR1 X.K dNeg) := by
  intro pins s σ H x v Q I rx h
  obtain ⟨F, S, M, dx, QD, rep, ix, hr, hq⟩ := h
  cases ix with
  | int i => exact un_neg pins s σ H _ v Q I rx ⟨i, rfl, hq _ _ _ S H hr (Same.refl _) rep (.int _)⟩
  | _ => exact hr.elim
end
end DL

/-! DStmt: statements, loops, comprehensions, calls over trees. -/
namespace DL
open PySem PySem.Spec PyProof.Rows L2

/-! ### blocks and small statements -/
@[reducible] def dNext : DTS := fun D σ M => D.nx σ M
@[reducible] def dSeq (t u : DTS) : DTS := fun D σ M => t { D with nx := u D } σ M
@[reducible] def dSeqC (t u : DTS) : DTS := fun D σ M => ∃ P : DSt → Mem → Prop, t { D with nx := P } σ M ∧ ∀ σ' M', P σ' M' → u D σ' M'
@[reducible] def dBreak : DTS := fun D σ M => D.bk σ M
@[reducible] def dCont : DTS := fun D σ M => D.ct σ M
@[reducible] def dDrop (te : DTE) : DTS := fun D σ M => te σ M fun _ M1 => D.nx σ M1
@[reducible] def dRet (te : DTE) : DTS := fun D σ M => te σ M D.rt
@[reducible] def dRetN : DTS := fun D _ M => D.rt .non M
@[reducible] def dIfS (c : DTT) (t u : DTS) : DTS := fun D σ M => c σ M fun b M1 => (b = true → t D σ M1) ∧ (b = false → u D σ M1)
def dNever : DTS := fun _ _ _ => False
section
variable {X : Cx} {g : Gr} {st : Stmt} {rest : List Stmt} {t u : DTS} {e : Expr} {te : DTE} {pos : Pos}
theorem dss_nil : DSs X g [] dNext := ⟨pss_imp pss_nil fun D' σ H ⟨S, M, sd, DD, a, q, k⟩ => k.nx _ _ _ _ _ q (Same.refl _) a⟩
theorem dss_cons (h1 : DS X g st t) (h2 : DSs X g rest u) : DSs X g (st :: rest) (dSeq t u) := by
  refine ⟨pss_imp (pss_cons h1.run h2.run) fun D' σ H h => ?_⟩
  obtain ⟨S, M, sd, DD, a, q, k⟩ := h
  refine ⟨S, M, sd, _, a, q, ⟨fun sd1 M1 σ1 S1 H1 q1 e1 a1 => ?_, k.rt, k.bk, k.ct⟩⟩
  exact ⟨S1, M1, sd1, DD, a1, q1, k.mono e1⟩
/-- .. with a word of one's own between the two -/
theorem dss_cut (h1 : DS X g st t) (h2 : DSs X g rest u) : DSs X g (st :: rest) (dSeqC t u) := by
  refine ⟨pss_imp (pss_cons h1.run h2.run) fun D' σ H h => ?_⟩
  obtain ⟨S, M, sd, DD, a, ⟨P, q, n⟩, k⟩ := h
  refine ⟨S, M, sd, _, a, q, ⟨fun sd1 M1 σ1 S1 H1 q1 e1 a1 => ?_, k.rt, k.bk, k.ct⟩⟩
  exact ⟨S1, M1, sd1, DD, a1, n _ _ q1, k.mono e1⟩
theorem dss_one (h1 : DS X g st t) : DSs X g [st] t := ⟨pss_one h1.run⟩
theorem ds_pass : DS X g (.Pass pos) dNext := ⟨ps_imp ps_pass fun D' σ H ⟨S, M, sd, DD, a, q, k⟩ => k.nx _ _ _ _ _ q (Same.refl _) a⟩
theorem ds_break : DS X g (.Break pos) dBreak := ⟨ps_imp ps_break fun D' σ H ⟨S, M, sd, DD, a, q, k⟩ => k.bk _ _ _ _ _ q (Same.refl _) a⟩
theorem ds_cont : DS X g (.Continue pos) dCont := ⟨ps_imp ps_continue fun D' σ H ⟨S, M, sd, DD, a, q, k⟩ => k.ct _ _ _ _ _ q (Same.refl _) a⟩
theorem ds_expr (he : DE X g e te) (hs : swapsWith e none pos.line X.env = pure false := by rfl) : DS X g (.Expr e pos) (dDrop te) := by
  refine ⟨ps_imp (ps_expr he.run hs) fun D' σ H h => ?_⟩
  obtain ⟨S, M, sd, DD, a, q, k⟩ := h
  exact ⟨S, M, sd, _, a, q, fun d M1 v S1 H1 q1 e1 r1 i1 => k.nx _ _ _ _ _ q1 e1 (a.step e1 r1)⟩
theorem ds_ret (he : DE X g e te) : DS X g (.Return (some e) pos) (dRet te) := by
  refine ⟨ps_imp (ps_ret he.run) fun D' σ H h => ?_⟩
  obtain ⟨S, M, sd, DD, a, q, k⟩ := h
  exact ⟨S, M, sd, _, a, q, fun d M1 v S1 H1 q1 e1 r1 i1 => k.rt _ _ _ _ _ q1 e1 r1 i1⟩
theorem ds_retN : DS X g (.Return none pos) dRetN := ⟨ps_imp ps_retN fun D' σ H ⟨S, M, sd, DD, a, q, k⟩ => k.rt _ _ _ _ _ q (Same.refl _) a.rep .non⟩
theorem ds_if {c : Expr} {a b : List Stmt} {tc : DTT} (hc : DT X g c tc) (ha : DSs X g a t) (hb : DSs X g b u) : DS X g (.If c a b pos) (dIfS tc t u) := by
  refine ⟨ps_imp (ps_if hc.run ha.run hb.run) fun D' σ H h => ?_⟩
  obtain ⟨S, M, sd, DD, a, q, k⟩ := h
  refine ⟨S, M, sd, _, a, q, fun b M1 S1 H1 q1 e1 r1 => ?_⟩
  cases b with
  | true =>
    rw [if_pos rfl]
    exact ⟨S1, M1, sd, DD, a.step e1 r1, q1.1 rfl, k.mono e1⟩
  | false =>
    rw [if_neg Bool.false_ne_true]
    exact ⟨S1, M1, sd, DD, a.step e1 r1, q1.2 rfl, k.mono e1⟩
theorem ds_never : DS X g st dNever := ⟨ps_imp ps_never fun D' σ H ⟨S, M, sd, DD, a, q, k⟩ => q⟩
/-- a ghost step: what is known is said otherwise -/
theorem dss_ghost {sts : List Stmt} {t' : DTS} (h : DSs X g sts t) (i : ∀ S M sd σ H DD, At X.K g S M sd σ H → t' DD sd M → ∃ S' M' sd', Same S S' ∧ At X.K g S' M' sd' σ H ∧ t DD sd' M') : DSs X g sts t' := by
  refine ⟨pss_imp h.run fun D' σ H hh => ?_⟩
  obtain ⟨S, M, sd, DD, a, q, k⟩ := hh
  obtain ⟨S', M', sd', e, a', q'⟩ := i S M sd σ H DD a q
  exact ⟨S', M', sd', DD, a', q', k.mono e⟩
end

/-! ### targets, assignments -/
@[reducible] def dgName (i : Nat) : DTG := fun v σ M Q => Q (σ.set i (some v)) M
@[reducible] def dgNil : DTGs := fun vs σ M Q => vs = [] ∧ Q σ M
@[reducible] def dgCons (t : DTG) (u : DTGs) : DTGs := fun vs σ M Q => match vs with
  | v :: r => t v σ M fun σ' M' => u r σ' M' Q
  | [] => False
/-- (a, b, ..) = a tuple of that length -/
@[reducible] def dgTup (n : Nat) (t : DTGs) : DTG := fun v σ M Q => match v with
  | .tup ds => ds.length = n ∧ t ds σ M Q
  | _ => False
def dSetIx (o i v : D) (M : Mem) (Q : Mem → Prop) : Prop := ∃ a ds k j, o = .ref a ∧ i = .int k ∧ M a = some (.lst ds) ∧ ixN ds.length k = some j ∧ Q (mset M a (.lst (ds.set j v)))
@[reducible] def dgSub (to ti : DTE) : DTG := fun v σ M Q => to σ M fun o M1 => ti σ M1 fun i M2 => dSetIx o i v M2 fun M3 => Q σ M3
@[reducible] def dAsg (te : DTE) (gt : DTG) : DTS := fun D σ M => te σ M fun x M1 => gt x σ M1 D.nx
section
variable {X : Cx} {g : Gr} {pos : Pos}
theorem dg_name {i : Nat} {x : PySem.Str} (h : PG X (.Name x pos) (gName i)) : DG X g (.Name x pos) (dgName i) := ⟨pg_imp h fun v σ H Q ⟨S, M, sd, d, QD, a, iv, q, k⟩ =>
  k _ _ _ _ _ q (Same.refl _) ⟨a.base, a.rep, a.sl.set (v := some v) (d := some d) iv i⟩⟩
theorem dgs_nil : DGs X g [] dgNil := ⟨pgs_imp pgs_nil fun v σ H Q ⟨S, M, sd, ds, QD, a, iv, q, k⟩ => by
  obtain ⟨rfl, q⟩ := q
  cases iv
  exact ⟨rfl, k _ _ _ _ _ q (Same.refl _) a⟩⟩
theorem dgs_cons {e : Expr} {es : List Expr} {t : DTG} {u : DTGs} (h1 : DG X g e t) (h2 : DGs X g es u)
    (hs : (assignEach (e :: es) X.env).map (·.2) = assign e X.env :: (assignEach es X.env).map (·.2) := by rfl) : DGs X g (e :: es) (dgCons t u) := by
  refine ⟨pgs_imp (pgs_cons h1.run h2.run hs) fun v σ H Q h => ?_⟩
  obtain ⟨S, M, sd, ds, QD, a, iv, q, k⟩ := h
  cases iv with
  | nil => exact q.elim
  | cons i1 i2 =>
    refine ⟨_, _, rfl, S, M, sd, _, _, a, i1, q, fun sd1 M1 σ1 S1 H1 q1 e1 a1 => ?_⟩
    exact ⟨S1, M1, sd1, _, QD, a1, i2.mono e1, q1, fun sd2 M2 σ2 S2 H2 q2 e2 a2 => k _ _ _ _ _ q2 (e1.trans e2) a2⟩
theorem dg_tup {es : List Expr} {k : Nat} {t : DTGs} {n : Nat} (hc : X.calm = true) (h : DGs X g es t)
    (hn : (assignEach es X.env).length = n := by rfl) (hst : (assignEach es X.env).findIdx? (·.1) = none := by rfl) : DG X g (.Tuple es k pos) (dgTup n t) := by
  refine ⟨pg_imp (pg_tup hc h.run hn hst) fun v σ H Q hh => ?_⟩
  obtain ⟨S, M, sd, d, QD, a, iv, q, k⟩ := hh
  cases iv with
  | tup s l => exact ⟨_, _, rfl, sqT_mono a.rep.same s, by rw [l.length]; exact q.1, S, M, sd, _, QD, a, l, q.2, k⟩
  | _ => exact q.elim
theorem dg_sub {o i : Expr} {to ti : DTE} (ho : DE X g o to) (hi : DE X g i ti) (ha : ∀ v, assign (.Subscript o i pos) X.env v = (do
      let ov ← holding [v] (eval o X.env)
      let iv ← holding [v, ov] (eval i X.env)
      standAt pos
      holding [v, ov, iv] (setItem ov iv v)
      release [v, ov, iv] []) := by intro _; rfl) : DG X g (.Subscript o i pos) (dgSub to ti) := by
  refine ⟨pg_imp (pg_sub ho.run hi.run set_list ha) fun v σ H Q hh => ?_⟩
  obtain ⟨S, M, sd, d, QD, a, iv, q, k⟩ := hh
  refine ⟨S, M, sd, _, a, q, fun d1 M1 v1 S1 H1 q1 e1 r1 i1 => ?_⟩
  refine ⟨S1, M1, sd, _, a.step e1 r1, q1, fun d2 M2 v2 S2 H2 q2 e2 r2 i2 => ?_⟩
  obtain ⟨p, ds, kk, j, rfl, rfl, hm, hj, q3⟩ := q2
  cases i1
  cases i2
  obtain ⟨_, vs, hv, l⟩ := r2.cell p _ hm
  refine ⟨p, vs, kk, j, rfl, rfl, hv, by rw [l.length]; exact hj, ?_⟩
  have rw' := r2.write (o := .lst (vs.set j v)) hm (co' := .lst (ds.set j d)) ⟨_, upd_same, l.set ((iv.mono e1).mono e2) j⟩
  exact k _ _ _ _ _ q3 (e1.trans e2) ((a.step e1 r1).step e2 rw')
theorem ds_asg {tg e : Expr} {te : DTE} {gt : DTG} (he : DE X g e te) (hg : DG X g tg gt) (hs : swapsWithSole [tg] e pos.line X.env = pure false := by rfl) (hw : swappedStores [tg] e X.env = pure none := by rfl)
    (h1 : (assignEach [tg] X.env).map (·.2) = [assign tg X.env] := by rfl) : DS X g (.Assign [tg] e pos) (dAsg te gt) := by
  refine ⟨ps_imp (ps_asg he.run hg.run hs hw h1) fun D' σ H h => ?_⟩
  obtain ⟨S, M, sd, DD, a, q, k⟩ := h
  refine ⟨S, M, sd, _, a, q, fun d M1 v S1 H1 q1 e1 r1 i1 => ?_⟩
  exact ⟨S1, M1, sd, d, _, a.step e1 r1, i1, q1, fun sd2 M2 σ2 S2 H2 q2 e2 a2 => k.nx _ _ _ _ _ q2 (e1.trans e2) a2⟩
/-- name = value -/
theorem ds_set {i : Nat} {x : PySem.Str} {e : Expr} {te : DTE} {pos' : Pos} (hN : X.N.Nodup) (hi : X.N[i]? = some x) (hx : Loc X.env.scope x) (he : DE X g e te) (hs : swapsWith e (some (.Name x pos')) pos.line X.env = pure false := by rfl)
    (hf : X.fn x = true ∨ X.env.scope.names.lookup x = some .local := by first | exact .inl rfl | exact .inr rfl | assumption) :
    DS X g (.Assign [.Name x pos'] e pos) (dAsg te (dgName i)) := by
  refine ⟨ps_imp (ps_set hN hi hx he.run hs hf) fun D' σ H h => ?_⟩
  obtain ⟨S, M, sd, DD, a, q, k⟩ := h
  refine ⟨S, M, sd, _, a, q, fun d M1 v S1 H1 q1 e1 r1 i1 => ?_⟩
  exact k.nx _ _ _ _ _ q1 e1 ⟨a.base.trans e1, r1, (a.sl.mono e1).set (v := some v) (d := some d) i1 i⟩
end

/-! ### while -/
@[reducible] def dWhile (c : DTT) (tb : DTS) : DTS := fun D σ M => ∃ W : Nat → DSt → Mem → Prop, (∃ m, W m σ M) ∧ ∀ m σ M, W m σ M →
  c σ M fun b M1 => (b = true → ∃ N : DSt → Mem → Prop, (∀ σ' M', N σ' M' → ∃ m', m' < m ∧ W m' σ' M') ∧ tb { D with nx := N, ct := N, bk := D.nx } σ M1) ∧ (b = false → D.nx σ M1)
section
variable {X : Cx} {g : Gr} {pos : Pos}
theorem ds_while {c : Expr} {body : List Stmt} {tc : DTT} {tb : DTS} (hp : PassesOwn (model X.prog X.w) X.A X.env X.xe) (hc : DT X g c tc) (hb : DSs X g body tb) : DS X g (.While c body [] pos) (dWhile tc tb) := by
  refine ⟨ps_imp (ps_while hp hc.run hb.run) fun D' σ H h => ?_⟩
  obtain ⟨S, M, sd, DD, a, ⟨W, ⟨m0, w0⟩, turn⟩, k⟩ := h
  refine ⟨fun m σ H => ∃ S' M' sd', Same S S' ∧ At X.K g S' M' sd' σ H ∧ W m sd' M', ⟨m0, S, M, sd, Same.refl _, a, w0⟩, ?_⟩
  rintro m σ1 H1 ⟨S1, M1, sd1, e1, a1, w1⟩
  refine ⟨S1, M1, sd1, _, a1, turn m sd1 M1 w1, fun b M2 S2 H2 q2 e2 r2 => ?_⟩
  cases b with
  | true =>
    rw [if_pos rfl]
    obtain ⟨N, hN, q⟩ := q2.1 rfl
    refine ⟨fun σ' H' => ∃ S' M' sd', Same S S' ∧ At X.K g S' M' sd' σ' H' ∧ N sd' M', ?_, S2, M2, sd1, _, a1.step e2 r2, q, ?_⟩
    · rintro σ' H' ⟨S', M', sd', e', a', n'⟩
      obtain ⟨m', hm, w'⟩ := hN _ _ n'
      exact ⟨m', hm, S', M', sd', e', a', w'⟩
    · exact ⟨fun sd' M' σ' S' H' q' e' a' => ⟨S', M', sd', (e1.trans e2).trans e', a', q'⟩, fun d M' v S' H' q' e' r' i' => k.rt _ _ _ _ _ q' ((e1.trans e2).trans e') r' i',
        fun sd' M' σ' S' H' q' e' a' => k.nx _ _ _ _ _ q' ((e1.trans e2).trans e') a', fun sd' M' σ' S' H' q' e' a' => ⟨S', M', sd', (e1.trans e2).trans e', a', q'⟩⟩
  | false =>
    rw [if_neg Bool.false_ne_true]
    exact k.nx _ _ _ _ _ (q2.2 rfl) (e1.trans e2) (a1.step e2 r2)
end

/-! ### what is walked -/
/-- what must hold of the cells as long as the walk goes on -/
abbrev DGd := Option (Mem → Prop)
@[reducible] def DGd.ok : DGd → Mem → Prop
  | none, _ => True
  | some c, M => c M
abbrev DTI := DSt → Mem → (List D → DGd → Mem → Prop) → Prop
structure IterOf (K : PySem.W.Frag) (F S : Hp) (C : DGd) (J : It) (ds : List D) : Prop where
  go : ∀ i S1 M H, Same S S1 → Rep K F S1 M H → C.ok M → i < ds.length → J.go i H
  stop : ∀ i S1 M H, Same S S1 → Rep K F S1 M H → C.ok M → ds.length ≤ i → J.stop i H
  yld : ∀ i S1 M H x H', Same S S1 → Rep K F S1 M H → C.ok M → i < ds.length → J.yld i H x H' → ∃ S2 d, Same S1 S2 ∧ Rep K F S2 M H' ∧ ds[i]? = some d ∧ Is K S2 x d
def liftI (K : PySem.W.Frag) (g : Gr) (w : DTI) : TI := fun σ H R => ∃ S M sd, ∃ QD : List D → DGd → Mem → Prop, At K g S M sd σ H ∧ w sd M QD ∧
  ∀ ds C M' S' H' J, QD ds C M' → Same S S' → Rep K g.F S' M' H' → (∀ F, (∀ a o, g.F a = some o → F a = some o) → IterOf K F S' C J ds) → R J H'
structure DI (X : Cx) (g : Gr) (tg e : Expr) (w : DTI) : Prop where
  run : PI X tg e (liftI X.K g w)
theorem pi_imp {X : Cx} {tg e : Expr} {t t' : TI} (h : PI X tg e t) (i : ∀ σ H R, t' σ H R → t σ H R) : PI X tg e t' := ⟨fun pins s σ H R I w => h.run pins s σ H R I (i _ _ _ w)⟩
/-- a list, a tuple -/
def dItems (x : D) (M : Mem) (Q : List D → DGd → Mem → Prop) : Prop := match x with
  | .lst ds => Q ds none M
  | .ro ds => Q ds none M
  | _ => False
@[reducible] def diList (te : DTE) : DTI := fun σ M Q => te σ M fun x M1 => dItems x M1 Q
@[reducible] def diTup (te : DTE) : DTI := fun σ M Q => te σ M fun x M1 => match x with
  | .tup ds => Q ds none M1
  | _ => False
theorem iter_list {K : PySem.W.Frag} {F S : Hp} {a : Addr} {vs : List V} {ds : List D} (s : SqL K S a vs) (l : IsL K S vs ds) (inj : ∀ H, Same S H → ∀ ys, SqL K H a ys → ys = vs) : IterOf K F S none (Itl K a) ds where
  go := fun i S1 M H e r _ hi => by
    have hl := l.length
    exact ⟨vs, vs[i]'(by omega), (e.trans r.same).seq s, by simp⟩
  stop := fun i S1 M H e r _ hi => ⟨vs, (e.trans r.same).seq s, by rw [l.length]; exact hi⟩
  yld := fun i S1 M H x H' e r _ hi y => by
    obtain ⟨rfl, y⟩ := y
    have hx := y vs ((e.trans r.same).seq s)
    obtain ⟨d, hd, id⟩ := l.get' hx
    exact ⟨S1, d, Same.refl _, r, hd, id.mono e⟩
section
variable {X : Cx} {g : Gr} {tg l : Expr} {tl : DTE} {pos : Pos}
theorem di_list (hl : DE X g l tl) : DI X g tg l (diList tl) := by
  refine ⟨pi_imp (pi_list hl.run) fun σ H R h => ?_⟩
  obtain ⟨S, M, sd, QD, a, q, k⟩ := h
  refine ⟨S, M, sd, _, a, q, fun d M1 v S1 H1 q1 e1 r1 i1 => ?_⟩
  have main : ∀ {b : Addr} {vs : List V} {ds : List D}, SqL X.K S1 b vs → IsL X.K S1 vs ds → QD ds none M1 → ∃ a, V.ref b = .ref a ∧ (∃ xs, SqL X.K H1 a xs) ∧ R (Itl X.K a) H1 := fun {b vs ds} s l q =>
    ⟨b, rfl, ⟨vs, r1.same.seq s⟩, k ds none M1 S1 H1 _ q e1 r1 fun F _ => ⟨fun i S2 M H e r _ hi => by
      have hl := l.length
      exact ⟨vs, vs[i]'(by omega), (e.trans r.same).seq s, by simp⟩,
      fun i S2 M H e r _ hi => ⟨vs, (e.trans r.same).seq s, by rw [l.length]; exact hi⟩,
      fun i S2 M H x H' e r _ hi y => by
        obtain ⟨rfl, y⟩ := y
        have hx := y vs ((e.trans r.same).seq s)
        obtain ⟨d, hd, id⟩ := l.get' hx
        exact ⟨S2, d, Same.refl _, r, hd, id.mono e⟩⟩⟩
  cases i1 with
  | lst s l => exact main (SqL.of s) l q1
  | ro s l => exact main s l q1
  | _ => exact q1.elim
theorem di_tup (hl : DE X g l tl) : DI X g tg l (diTup tl) := by
  refine ⟨pi_imp (pi_tup hl.run) fun σ H R h => ?_⟩
  obtain ⟨S, M, sd, QD, a, q, k⟩ := h
  refine ⟨S, M, sd, _, a, q, fun d M1 v S1 H1 q1 e1 r1 i1 => ?_⟩
  cases i1 with
  | @tup b vs ds s l =>
    exact ⟨b, rfl, ⟨vs, sqT_mono r1.same s⟩, k ds none M1 S1 H1 _ q1 e1 r1 fun F _ => ⟨fun i S2 M H e r _ hi => by
      have hl := l.length
      exact ⟨vs, vs[i]'(by omega), sqT_mono (e.trans r.same) s, by simp⟩,
      fun i S2 M H e r _ hi => ⟨vs, sqT_mono (e.trans r.same) s, by rw [l.length]; exact hi⟩,
      fun i S2 M H x H' e r _ hi y => by
        obtain ⟨rfl, y⟩ := y
        have hx := y vs (sqT_mono (e.trans r.same) s)
        obtain ⟨d, hd, id⟩ := l.get' hx
        exact ⟨S2, d, Same.refl _, r, hd, id.mono e⟩⟩⟩
  | _ => exact q1.elim
def rgD (lo : Int) (n : Nat) : List D := (List.range n).map fun (i : Nat) => D.int (lo + (i : Int))
theorem rgD_get {lo : Int} {n i : Nat} {d : D} (h : (rgD lo n)[i]? = some d) : i < n ∧ d = .int (lo + i) := by
  unfold rgD at h
  rw [List.getElem?_map] at h
  by_cases hi : i < n
  · rw [List.getElem?_range hi] at h
    exact ⟨hi, (Option.some.inj h).symm⟩
  · rw [List.getElem?_eq_none (by simpa using Nat.le_of_not_lt hi)] at h
    cases h
theorem rgD_len {lo : Int} {n : Nat} : (rgD lo n).length = n := by simp [rgD]
theorem iter_range {K : PySem.W.Frag} {F S : Hp} {lo : Int} {n : Nat} : IterOf K F S none (Itr lo n) (rgD lo n) where
  go := fun i S1 M H e r _ hi => by rw [rgD_len] at hi; exact hi
  stop := fun i S1 M H e r _ hi => by rw [rgD_len] at hi; exact hi
  yld := fun i S1 M H x H' e r _ hi y => by
    obtain ⟨rfl, rfl⟩ := y
    rw [rgD_len] at hi
    refine ⟨S1, .int (lo + i), Same.refl _, r, ?_, .int _⟩
    unfold rgD
    rw [List.getElem?_map, List.getElem?_range hi]
    rfl
def RgOk62 (j : Int) : Prop := -(2 ^ 62) ≤ j ∧ j < 2 ^ 62
@[reducible] def diRange1 (ta : DTA) : DTI := fun σ M Q => ta σ M fun vs M1 => match vs with
  | [.int j] => RgOk62 j ∧ Q (rgD 0 j.toNat) none M1
  | _ => False
@[reducible] def diRange2 (ta : DTA) : DTI := fun σ M Q => ta σ M fun vs M1 => match vs with
  | [.int i, .int j] => RgOk62 i ∧ RgOk62 j ∧ Q (rgD i (j - i).toNat) none M1
  | _ => False
theorem isL1 {K : PySem.W.Frag} {S : Hp} {vs : List V} {d : D} (h : IsL K S vs [d]) : ∃ v, vs = [v] ∧ Is K S v d := by
  cases h with
  | cons a b => cases b; exact ⟨_, rfl, a⟩
theorem isL2 {K : PySem.W.Frag} {S : Hp} {vs : List V} {d e : D} (h : IsL K S vs [d, e]) : ∃ v w, vs = [v, w] ∧ Is K S v d ∧ Is K S w e := by
  cases h with
  | cons a b =>
    obtain ⟨w, rfl, i⟩ := isL1 b
    exact ⟨_, _, rfl, a, i⟩
theorem diRange1_inv {Q : List D → DGd → Mem → Prop} {vs : List D} {M : Mem} (h : match vs with
  | [.int j] => RgOk62 j ∧ Q (rgD 0 j.toNat) none M
  | _ => False) : ∃ j, vs = [.int j] ∧ RgOk62 j ∧ Q (rgD 0 j.toNat) none M := by
  split at h
  · exact ⟨_, rfl, h⟩
  · exact h.elim
theorem diRange2_inv {Q : List D → DGd → Mem → Prop} {vs : List D} {M : Mem} (h : match vs with
  | [.int i, .int j] => RgOk62 i ∧ RgOk62 j ∧ Q (rgD i (j - i).toNat) none M
  | _ => False) : ∃ i j, vs = [.int i, .int j] ∧ RgOk62 i ∧ RgOk62 j ∧ Q (rgD i (j - i).toNat) none M := by
  split at h
  · exact ⟨_, _, rfl, h⟩
  · exact h.elim
theorem di_range1 {a : Expr} {ta : DTA} {p : Pos} (hg : Gl X "range") (hm : X.mg "range" = none) (ha : DA X g [a] ta) (hs : starEach [a] X.env = [(false, eval a X.env)] := by rfl) : DI X g tg (.Call (.Name "range" p) [a] [] pos) (diRange1 ta) := by
  refine ⟨pi_imp (pi_range1 hg hm ha.run hs) fun σ H R h => ?_⟩
  obtain ⟨S, M, sd, QD, a, q, k⟩ := h
  refine ⟨S, M, sd, _, a, q, fun ds M1 vs S1 H1 q1 e1 r1 i1 => ?_⟩
  obtain ⟨j, rfl, b, q⟩ := diRange1_inv q1
  obtain ⟨v, rfl, iv⟩ := isL1 i1
  cases iv
  exact ⟨j, rfl, b.1, b.2, k _ none M1 S1 H1 _ q e1 r1 fun F _ => iter_range⟩
theorem di_range2 {a b : Expr} {ta : DTA} {p : Pos} (hg : Gl X "range") (hm : X.mg "range" = none) (ha : DA X g [a, b] ta) (hs : starEach [a, b] X.env = [(false, eval a X.env), (false, eval b X.env)] := by rfl) (hs2 : starEach [b] X.env = [(false, eval b X.env)] := by rfl) :
    DI X g tg (.Call (.Name "range" p) [a, b] [] pos) (diRange2 ta) := by
  refine ⟨pi_imp (pi_range2 hg hm ha.run hs hs2) fun σ H R h => ?_⟩
  obtain ⟨S, M, sd, QD, a, q, k⟩ := h
  refine ⟨S, M, sd, _, a, q, fun ds M1 vs S1 H1 q1 e1 r1 i1 => ?_⟩
  obtain ⟨i, j, rfl, b, c, q⟩ := diRange2_inv q1
  obtain ⟨v, w, rfl, iv, iw⟩ := isL2 i1
  cases iv
  cases iw
  exact ⟨i, j, rfl, ⟨b.1, b.2, c.1, c.2⟩, k _ none M1 S1 H1 _ q e1 r1 fun F _ => iter_range⟩
end

/-! ### for -/
/-- the turns of a walk -/
@[reducible] def dTurns (gt : DTG) (tb : DTS) (D : DEnds) (ds : List DL.D) (σ : DSt) (M1 : Mem) (Pv : Nat → DSt → Mem → Prop) : Prop := Pv 0 σ M1 ∧
  (∀ i d σ M, ds[i]? = some d → Pv i σ M → gt d σ M fun σ2 M2 => tb { D with nx := Pv (i + 1), ct := Pv (i + 1), bk := D.nx } σ2 M2) ∧ ∀ σ M, Pv ds.length σ M → D.nx σ M
@[reducible] def dFor (wi : DTI) (gt : DTG) (tb : DTS) : DTS := fun D σ M => wi σ M fun ds C M1 => match C with
  | none => ∃ Pv : Nat → DSt → Mem → Prop, dTurns gt tb D ds σ M1 Pv
  | some c => ∃ Pv : Nat → DSt → Mem → Prop, (∀ i σ M, Pv i σ M → c M) ∧ dTurns gt tb D ds σ M1 Pv
section
variable {X : Cx} {g : Gr} {pos : Pos}
theorem ds_for {tg iter : Expr} {body : List Stmt} {wi : DTI} {gt : DTG} {tb : DTS} (hp : PassesOwn (model X.prog X.w) X.A X.env X.xe) (hc : X.calm = true) (hi : DI X g tg iter wi) (hg : DG X g tg gt) (hb : DSs X g body tb)
    (hs : ∀ x, foldedSetIterable iter X.env x = pure x := by intro _; rfl) : DS X g (.For tg iter body [] pos) (dFor wi gt tb) := by
  refine ⟨ps_imp (ps_for hp hc hi.run hg.run hb.run hs) fun D' σ H h => ?_⟩
  obtain ⟨S, M, sd, DD, a, q, k⟩ := h
  refine ⟨S, M, sd, _, a, q, fun ds C M1 S1 H1 J q1 e1 r1 it => ?_⟩
  have it := it g.F fun _ _ z => z
  have q1' : ∃ Pv : Nat → DSt → Mem → Prop, (∀ i σ M, Pv i σ M → C.ok M) ∧ dTurns gt tb DD ds sd M1 Pv := by
    cases C with
    | none =>
      obtain ⟨Pv, q⟩ := q1
      exact ⟨Pv, fun _ _ _ _ => trivial, q⟩
    | some c => exact q1
  obtain ⟨Pv, gd, p0, step, done⟩ := q1'
  have a1 := a.step e1 r1
  refine ⟨fun i m σ H => m = ds.length - i ∧ i ≤ ds.length ∧ ∃ S' M' sd', Same S1 S' ∧ At X.K g S' M' sd' σ H ∧ Pv i sd' M', ⟨ds.length, by simp, Nat.zero_le _, S1, M1, sd, Same.refl _, a1, p0⟩, ?_⟩
  rintro i m σ2 H2 ⟨rfl, hi, S2, M2, sd2, e2, a2, p2⟩
  by_cases hlt : i < ds.length
  · refine .inr ⟨it.go i S2 M2 H2 e2 a2.rep (gd _ _ _ p2) hlt, fun σ' H' => ∃ S' M' sd', Same S1 S' ∧ At X.K g S' M' sd' σ' H' ∧ Pv (i + 1) sd' M', fun σ' H' ⟨S', M', sd', e', a', p'⟩ => ⟨ds.length - (i + 1), by omega, rfl, hlt, S', M', sd', e', a', p'⟩, fun x H3 y => ?_⟩
    obtain ⟨S3, d, e3, r3, hd, i3⟩ := it.yld i S2 M2 H2 x H3 e2 a2.rep (gd _ _ _ p2) hlt y
    refine ⟨S3, M2, sd2, d, _, a2.step e3 r3, i3, step i d sd2 M2 hd p2, fun sd4 M4 σ4 S4 H4 q4 e4 a4 => ?_⟩
    refine ⟨S4, M4, sd4, _, a4, q4, ?_⟩
    have e5 : Same S1 S4 := (e2.trans e3).trans e4
    exact ⟨fun sd' M' σ' S' H' q' e' a' => ⟨S', M', sd', e5.trans e', a', q'⟩, fun d M' v S' H' q' e' r' i' => k.rt _ _ _ _ _ q' ((e1.trans e5).trans e') r' i',
      fun sd' M' σ' S' H' q' e' a' => k.nx _ _ _ _ _ q' ((e1.trans e5).trans e') a', fun sd' M' σ' S' H' q' e' a' => ⟨S', M', sd', e5.trans e', a', q'⟩⟩
  · have e : i = ds.length := by omega
    subst e
    exact .inl ⟨it.stop _ S2 M2 H2 e2 a2.rep (gd _ _ _ p2) (Nat.le_refl _), k.nx _ _ _ _ _ (done sd2 M2 p2) (e1.trans e2) a2⟩
end

/-! ### comprehensions -/
/-- the target of a comprehension: a slot, a tuple of slots -/
inductive Tg where
  | nm (i : Nat) | tp (is : List Nat)
def gNames : List Nat → TGs
  | [] => gNil
  | i :: is => gCons (gName i) (gNames is)
def Tg.h (K : PySem.W.Frag) : Tg → TG
  | .nm i => gName i
  | .tp is => gTup K is.length (gNames is)
def setAll : DSt → List Nat → List D → DSt
  | σ, i :: is, d :: ds => setAll (σ.set i (some d)) is ds
  | σ, _, _ => σ
def Tg.d : Tg → DTG
  | .nm i => fun v σ M Q => Q (σ.set i (some v)) M
  | .tp is => fun v σ M Q => match v with
    | .tup ds => ds.length = is.length ∧ Q (setAll σ is ds) M
    | _ => False
def Tg.slots : Tg → List Nat
  | .nm i => [i]
  | .tp is => is
def dwipe (σ : DSt) : List Nat → DSt
  | [] => σ
  | v :: vs => (dwipe σ vs).set v none
theorem IsO.wipe {K : PySem.W.Frag} {S : Hp} {σ : L2.St} {sd : DSt} (h : IsO K S σ sd) : ∀ vs : List Nat, IsO K S (L2.wipe σ vs) (dwipe sd vs)
  | [] => h
  | v :: vs => by
    unfold L2.wipe dwipe
    exact (IsO.wipe h vs).set (v := none) (d := none) trivial v
theorem wipe_set {σ : L2.St} {i : Nat} {o : Option V} : ∀ {vs : List Nat}, i ∈ vs → L2.wipe (σ.set i o) vs = L2.wipe σ vs
  | [], h => by simp at h
  | v :: vs, h => by
    unfold L2.wipe
    by_cases hv : i ∈ vs
    · rw [wipe_set hv]
    · have e : i = v := by
        rcases List.mem_cons.mp h with e | e
        · exact e
        · exact absurd e hv
      subst e
      have key : ∀ (vs : List Nat), i ∉ vs → L2.wipe (σ.set i o) vs = (L2.wipe σ vs).set i o := by
        intro vs
        induction vs with
        | nil => intro _; rfl
        | cons w ws ih =>
          intro hn
          have h1 : i ≠ w := fun z => hn (by simp [z])
          have h2 : i ∉ ws := fun z => hn (by simp [z])
          unfold L2.wipe
          rw [ih h2, List.set_comm _ _ h1]
      rw [key vs hv, List.set_set]
theorem wipe_wipe (σ : L2.St) : ∀ (vs : List Nat), L2.wipe (L2.wipe σ vs) vs = L2.wipe σ vs := by
  intro vs
  have gen : ∀ (ws : List Nat) (τ : L2.St), (∀ v ∈ ws, v ∈ vs) → L2.wipe (L2.wipe τ ws) vs = L2.wipe τ vs := by
    intro ws
    induction ws with
    | nil => intro τ _; rfl
    | cons w ws ih =>
      intro τ h
      show L2.wipe ((L2.wipe τ ws).set w none) vs = L2.wipe τ vs
      rw [wipe_set (h w (by simp))]
      exact ih τ fun v hv => h v (by simp [hv])
  exact gen vs σ fun _ h => h
theorem names_h {K : PySem.W.Frag} {S : Hp} {vs0 : List Nat} {σ0 : L2.St} {H : Hp} {Q : L2.St → Hp → Prop} : ∀ {is : List Nat} {vs : List V} {ds : List D} {σ : L2.St} {sd : DSt}, (∀ i ∈ is, i ∈ vs0) → IsL K S vs ds → ds.length = is.length → IsO K S σ sd → L2.wipe σ vs0 = L2.wipe σ0 vs0 →
    (∀ σ', IsO K S σ' (setAll sd is ds) → L2.wipe σ' vs0 = L2.wipe σ0 vs0 → Q σ' H) → gNames is vs σ H Q
  | [], _, _, σ, sd, _, l, hl, o, hw, k => by
    cases l with
    | nil => exact ⟨rfl, k σ o hw⟩
    | cons a b => simp at hl
  | i :: is, _, _, σ, sd, hm, l, hl, o, hw, k => by
    cases l with
    | nil => simp at hl
    | @cons v vs d ds a b =>
      refine ⟨v, vs, rfl, ?_⟩
      exact names_h (is := is) (fun j hj => hm j (by simp [hj])) b (by simpa using hl) (o.set (v := some v) (d := some d) a i) (by rw [wipe_set (hm i (by simp))]; exact hw) k
/-- what a comprehension's target stores -/
theorem Tg.run {K : PySem.W.Frag} {F S H : Hp} {M : Mem} {vs0 : List Nat} {σ : L2.St} {sd : DSt} {x : V} {d : D} {QD : DSt → Mem → Prop} {Q : L2.St → Hp → Prop} (t : Tg) (ht : ∀ i ∈ t.slots, i ∈ vs0) (r : Rep K F S M H) (i : Is K S x d) (o : IsO K S σ sd)
    (h : t.d d (dwipe sd vs0) M QD) (k : ∀ σ' sd', IsO K S σ' sd' → QD sd' M → L2.wipe σ' vs0 = L2.wipe σ vs0 → Q σ' H) : t.h K x (L2.wipe σ vs0) H Q := by
  have ow := o.wipe vs0
  cases t with
  | nm j => exact k _ _ (ow.set (v := some x) (d := some d) i j) h (by rw [wipe_set (ht j (by simp [Tg.slots])), wipe_wipe])
  | tp is =>
    cases i with
    | tup s l =>
      obtain ⟨h1, h2⟩ := h
      refine ⟨_, _, rfl, sqT_mono r.same s, by rw [l.length]; exact h1, ?_⟩
      exact names_h ht l h1 ow (wipe_wipe _ _) fun σ' o' hw => k σ' _ o' h2 hw
    | _ => exact h.elim
@[reducible] def dYes : DTT := fun _ M Q => Q true M
/-- tests of a comprehension -/
structure DTs (X : Cx) (g : Gr) (es : List Expr) (t : DTT) : Prop where
  run : PTs X es (liftT X.K g t)
theorem pts_imp {X : Cx} {e : List Expr} {t t' : TT} (h : PTs X e t) (i : ∀ σ H Q, t' σ H Q → t σ H Q) : PTs X e t' := ⟨fun pins s σ H Q I w => h.run pins s σ H Q I (i _ _ _ w)⟩
end DL

/-! DComp: comprehensions over trees. -/
namespace DL
open PySem PySem.Spec PyProof.Rows L2
section
variable {K : PySem.W.Frag} {F S H : Hp} {M : Mem} {p : Addr} {o u : HO}
theorem Rep.hide (r : Rep K F S M H) (h : H p = none) : Rep K (upd F p o) S M (upd H p o) where
  same := r.same.trans (same_upd h)
  cell := (r.junk (o := o) h).cell
  hid := fun a v e => by
    by_cases hb : a = p
    · subst hb
      rw [upd_same] at e; cases e
      exact ⟨r.freeS h, r.freeM h, upd_same⟩
    · rw [upd_ne hb] at e
      obtain ⟨h1, h2, h3⟩ := r.hid a v e
      exact ⟨h1, h2, by rw [upd_ne hb]; exact h3⟩
theorem Rep.rehide (r : Rep K (upd F p o) S M H) : Rep K (upd F p u) S M (upd H p u) where
  same := fun b v e => by
    have hne : b ≠ p := fun z => by subst z; rw [(r.hid b o upd_same).1] at e; cases e
    rw [upd_ne hne]; exact r.same b v e
  cell := fun a co e => by
    have hne : a ≠ p := fun z => by subst z; rw [(r.hid a o upd_same).2.1] at e; cases e
    obtain ⟨h1, h2⟩ := r.cell a co e
    exact ⟨h1, h2.mono (Same.refl _) fun o q => by rw [upd_ne hne]; exact q⟩
  hid := fun a v e => by
    by_cases hb : a = p
    · subst hb
      rw [upd_same] at e; cases e
      obtain ⟨h1, h2, _⟩ := r.hid a o upd_same
      exact ⟨h1, h2, upd_same⟩
    · rw [upd_ne hb] at e
      obtain ⟨h1, h2, h3⟩ := r.hid a v (by rw [upd_ne hb]; exact e)
      exact ⟨h1, h2, by rw [upd_ne hb]; exact h3⟩
theorem Rep.unhide (r : Rep K (upd F p o) S M H) (hF : F p = none) : Rep K F (upd S p o) M H ∧ Same S (upd S p o) := by
  obtain ⟨h1, h2, h3⟩ := r.hid p o upd_same
  have e : Same S (upd S p o) := same_upd h1
  refine ⟨⟨fun b v q => ?_, fun a co q => ?_, fun a v q => ?_⟩, e⟩
  · by_cases hb : b = p
    · subst hb; rw [upd_same] at q; cases q; exact h3
    · rw [upd_ne hb] at q; exact r.same b v q
  · have hne : a ≠ p := fun z => by subst z; rw [h2] at q; cases q
    obtain ⟨g1, g2⟩ := r.cell a co q
    exact ⟨by rw [upd_ne hne]; exact g1, g2.mono e fun o z => z⟩
  · have hne : a ≠ p := ne_of_none q hF
    obtain ⟨g1, g2, g3⟩ := r.hid a v (by rw [upd_ne hne]; exact q)
    exact ⟨by rw [upd_ne hne]; exact g1, g2, g3⟩
/-- .. as a cell -/
theorem Rep.uncell {vs : List V} {ds : List D} (r : Rep K (upd F p (.lst vs)) S M H) (hF : F p = none) (l : IsL K S vs ds) : Rep K F S (mset M p (.lst ds)) H ∧ M p = none := by
  obtain ⟨h1, h2, h3⟩ := r.hid p _ upd_same
  refine ⟨⟨r.same, fun a co q => ?_, fun a v q => ?_⟩, h2⟩
  · by_cases hb : a = p
    · subst hb; rw [mset_same] at q; cases q; exact ⟨h1, vs, h3, l⟩
    · rw [mset_ne hb] at q; exact r.cell a co q
  · have hne : a ≠ p := ne_of_none q hF
    obtain ⟨g1, g2, g3⟩ := r.hid a v (by rw [upd_ne hne]; exact q)
    exact ⟨g1, by rw [mset_ne hne]; exact g2, g3⟩
end
def liftEx (K : PySem.W.Frag) (t : DTE) : TE := fun σ H Q => ∃ g, liftE K g t σ H Q
def liftTx (K : PySem.W.Frag) (t : DTT) : TT := fun σ H Q => ∃ g, liftT K g t σ H Q
theorem pe_ex {X : Cx} {e : Expr} {t : DTE} (h : ∀ g, DE X g e t) : PE X e (liftEx X.K t) := ⟨fun pins s σ H Q I ⟨g, w⟩ => (h g).run.run pins s σ H Q I w⟩
theorem pts_ex {X : Cx} {e : List Expr} {t : DTT} (h : ∀ g, DTs X g e t) : PTs X e (liftTx X.K t) := ⟨fun pins s σ H Q I ⟨g, w⟩ => (h g).run.run pins s σ H Q I w⟩
theorem dts_nil {X : Cx} {g : Gr} : DTs X g [] dYes := ⟨pts_imp pts_nil fun σ H Q ⟨S, M, sd, QD, a, q, k⟩ => k _ _ _ _ q (Same.refl _) a.rep⟩
theorem dts_one {X : Cx} {g : Gr} {c : Expr} {t : DTT} (h : DT X g c t) : DTs X g [c] t := ⟨pts_one h.run⟩

@[reducible] def dGoes (tg : Tg) (tt : DTT) (te : DTE) (vs : List Nat) (Q : List D → Mem → Prop) (ds : List D) (σ : DSt) (M1 : Mem) (Pv : Nat → List D → Mem → Prop) : Prop := Pv 0 [] M1 ∧
  (∀ i acc d M, ds[i]? = some d → acc.length ≤ i → Pv i acc M → tg.d d (dwipe σ vs) M fun σ2 M2 => tt σ2 M2 fun b M3 => (b = true → te σ2 M3 fun y M4 => Pv (i + 1) (acc ++ [y]) M4) ∧ (b = false → Pv (i + 1) acc M3)) ∧
  ∀ acc M, acc.length ≤ ds.length → Pv ds.length acc M → Q acc M
/-- what a comprehension gathers -/
def dGather (wi : DTI) (tg : Tg) (tt : DTT) (te : DTE) (vs : List Nat) : DSt → Mem → (List D → Mem → Prop) → Prop := fun σ M Q => wi σ M fun ds C M1 => ds.length ≤ sizeLine ∧ match C with
  | none => ∃ Pv : Nat → List D → Mem → Prop, dGoes tg tt te vs Q ds σ M1 Pv
  | some c => ∃ Pv : Nat → List D → Mem → Prop, (∀ i acc M, Pv i acc M → c M) ∧ dGoes tg tt te vs Q ds σ M1 Pv
@[reducible] def dLc (wi : DTI) (tg : Tg) (tt : DTT) (te : DTE) (vs : List Nat) : DTE := fun σ M Q => dGather wi tg tt te vs σ M fun acc M' => Q (.lst acc) M'
@[reducible] def dLcC (wi : DTI) (tg : Tg) (tt : DTT) (te : DTE) (vs : List Nat) : DTE := fun σ M Q => dGather wi tg tt te vs σ M fun acc M' => ∀ p, M' p = none → Q (.ref p) (mset M' p (.lst acc))
theorem lift_gather {K : PySem.W.Frag} {g : Gr} {wi : DTI} {tg : Tg} {tt : DTT} {te : DTE} {vs : List Nat} {σ : L2.St} {H : Hp} {Q : VK} (ht : ∀ i ∈ tg.slots, i ∈ vs) {S : Hp} {M : Mem} {sd : DSt} {QD : List D → Mem → Prop} (a : At K g S M sd σ H) (q : dGather wi tg tt te vs sd M QD)
    (k : ∀ acc M' S' H' p accV, QD acc M' → Same S S' → Rep K (upd g.F p (.lst accV)) S' M' H' → IsL K S' accV acc → g.F p = none → Q (.ref p) H') : tLc (liftI K g wi) (tg.h K) (liftTx K tt) (liftEx K te) vs σ H Q := by
  refine ⟨S, M, sd, _, a, q, fun ds C M1 S1 H1 J q1 e1 r1 it => ?_⟩
  have q1' : ∃ Pv : Nat → List D → Mem → Prop, (∀ i acc M, Pv i acc M → C.ok M) ∧ dGoes tg tt te vs QD ds sd M1 Pv := by
    cases C with
    | none =>
      obtain ⟨_, Pv, q⟩ := q1
      exact ⟨Pv, fun _ _ _ _ => trivial, q⟩
    | some c => exact q1.2
  obtain ⟨Pv, gd, p0, step, done⟩ := q1'
  intro D hD
  have hF : g.F D = none := r1.freeF hD
  have a1 := a.step e1 r1
  have hsub : ∀ accV, ∀ b o, g.F b = some o → upd g.F D (.lst accV) b = some o := fun accV b o z => by rw [upd_ne (ne_of_none z hF)]; exact z
  refine ⟨fun i m H => m = ds.length - i ∧ i ≤ ds.length ∧ ∃ S' M' accV acc, Same S1 S' ∧ Rep K (upd g.F D (.lst accV)) S' M' H ∧ IsL K S' accV acc ∧ acc.length ≤ i ∧ Pv i acc M',
    ⟨ds.length, by simp, Nat.zero_le _, S1, M1, [], [], Same.refl _, r1.hide hD, .nil, Nat.le_refl _, p0⟩, ?_⟩
  rintro i m H2 ⟨rfl, hi, S2, M2, accV, acc, e2, r2, l2, hl, p2⟩
  have it := it (upd g.F D (.lst accV)) (hsub accV)
  by_cases hlt : i < ds.length
  · refine .inr ⟨it.go i S2 M2 H2 e2 r2 (gd _ _ _ p2) hlt, fun H' => ∃ S' M' accV acc, Same S1 S' ∧ Rep K (upd g.F D (.lst accV)) S' M' H' ∧ IsL K S' accV acc ∧ acc.length ≤ i + 1 ∧ Pv (i + 1) acc M',
      fun H' ⟨S', M', accV, acc, e', r', l', hl', p'⟩ => ⟨ds.length - (i + 1), by omega, rfl, hlt, S', M', accV, acc, e', r', l', hl', p'⟩, fun x H3 y => ?_⟩
    obtain ⟨S3, d, e3, r3, hd, i3⟩ := it.yld i S2 M2 H2 x H3 e2 r2 (gd _ _ _ p2) hlt y
    have o3 : IsO K S3 σ sd := ((a1.sl.mono e2).mono e3)
    refine Tg.run tg ht r3 i3 o3 (step i acc d M2 hd hl p2) fun σ4 sd4 o4 q4 hw => ⟨hw, ?_⟩
    have e13 : Same S1 S3 := e2.trans e3
    refine ⟨⟨upd g.F D (.lst accV), S3⟩, S3, M2, sd4, _, ⟨Same.refl _, r3, o4⟩, q4, fun b M5 S5 H5 q5 e5 r5 => ?_⟩
    cases b with
    | false =>
      rw [if_neg Bool.false_ne_true]
      exact ⟨S5, M5, accV, acc, e13.trans e5, r5, (l2.mono e3).mono e5, by omega, q5.2 rfl⟩
    | true =>
      rw [if_pos rfl]
      refine ⟨⟨upd g.F D (.lst accV), S5⟩, S5, M5, sd4, _, ⟨Same.refl _, r5, o4.mono e5⟩, q5.1 rfl, fun y M6 yv S6 H6 q6 e6 r6 i6 => ?_⟩
      refine ⟨accV, (r6.hid D _ upd_same).2.2, ?_, S6, M6, accV ++ [yv], acc ++ [y], (e13.trans e5).trans e6, r6.rehide, (((l2.mono e3).mono e5).mono e6).app (.one i6), by simp; omega, q6⟩
      rw [l2.length]; omega
  · have e : i = ds.length := by omega
    subst e
    exact .inl ⟨it.stop _ S2 M2 H2 e2 r2 (gd _ _ _ p2) (Nat.le_refl _), k acc M2 S2 H2 D accV (done acc M2 hl p2) (e1.trans e2) r2 l2 hF⟩
section
variable {X : Cx} {g : Gr}
variable {elt tgE iter : Expr} {ifs : List Expr} {scope : Scope} {own : List (PySem.Str × Nat)} {pos spos py : Pos} {wi : DTI} {tg : Tg} {tt : DTT} {te : DTE}
theorem de_lc (hc : X.calm = true) (hN : X.N.Nodup) (hi : DI X g tgE iter wi) (ok : BlkOk X.N X.env.scope scope own) (hs0 : ∀ i ∈ tg.slots, i ∈ own.map (·.2))
    (hg : ∀ (s : Shared) (H : Hp) (C : Addr) (cl : List (PySem.Str × Addr)) (fp : List Addr), PG (X.blk s H scope (compEnvC scope cl C X.env) fp) tgE (tg.h X.K))
    (ht : ∀ (s : Shared) (H : Hp) (C : Addr) (cl : List (PySem.Str × Addr)) (fp : List Addr) (g' : Gr), DTs (X.blk s H scope (compEnvC scope cl C X.env) fp) g' ifs tt)
    (he : ∀ (s : Shared) (H : Hp) (C : Addr) (cl : List (PySem.Str × Addr)) (fp : List Addr) (g' : Gr), DE (X.blk s H scope (compEnvC scope cl C X.env) fp) g' elt te) (hs : ∀ x, foldedSetIterable iter X.env x = pure x := by intro _; rfl) :
    DE X g (.ListComp elt [⟨tgE, iter, ifs, 0⟩] scope pos) (dLc wi tg tt te (own.map (·.2))) := by
  refine ⟨pe_imp (pe_lc (te := liftEx X.K te) (tt := liftTx X.K tt) (g := tg.h X.K) hc hN hi.run ok hg (fun s H C cl fp => pts_ex (ht s H C cl fp)) (fun s H C cl fp => pe_ex (he s H C cl fp)) hs) fun σ H Q h => ?_⟩
  obtain ⟨S, M, sd, QD, a, q, k⟩ := h
  refine lift_gather hs0 a q fun acc M' S' H' p accV q' e' r' l' hF => ?_
  obtain ⟨r2, e2⟩ := r'.unhide hF
  exact k _ M' _ _ H' q' (e'.trans e2) r2 (.lst upd_same (l'.mono e2))
theorem de_lcC (hc : X.calm = true) (hN : X.N.Nodup) (hi : DI X g tgE iter wi) (ok : BlkOk X.N X.env.scope scope own) (hs0 : ∀ i ∈ tg.slots, i ∈ own.map (·.2))
    (hg : ∀ (s : Shared) (H : Hp) (C : Addr) (cl : List (PySem.Str × Addr)) (fp : List Addr), PG (X.blk s H scope (compEnvC scope cl C X.env) fp) tgE (tg.h X.K))
    (ht : ∀ (s : Shared) (H : Hp) (C : Addr) (cl : List (PySem.Str × Addr)) (fp : List Addr) (g' : Gr), DTs (X.blk s H scope (compEnvC scope cl C X.env) fp) g' ifs tt)
    (he : ∀ (s : Shared) (H : Hp) (C : Addr) (cl : List (PySem.Str × Addr)) (fp : List Addr) (g' : Gr), DE (X.blk s H scope (compEnvC scope cl C X.env) fp) g' elt te) (hs : ∀ x, foldedSetIterable iter X.env x = pure x := by intro _; rfl) :
    DE X g (.ListComp elt [⟨tgE, iter, ifs, 0⟩] scope pos) (dLcC wi tg tt te (own.map (·.2))) := by
  refine ⟨pe_imp (pe_lc (te := liftEx X.K te) (tt := liftTx X.K tt) (g := tg.h X.K) hc hN hi.run ok hg (fun s H C cl fp => pts_ex (ht s H C cl fp)) (fun s H C cl fp => pe_ex (he s H C cl fp)) hs) fun σ H Q h => ?_⟩
  obtain ⟨S, M, sd, QD, a, q, k⟩ := h
  refine lift_gather hs0 a q fun acc M' S' H' p accV q' e' r' l' hF => ?_
  obtain ⟨r2, hM⟩ := r'.uncell hF l'
  exact k _ _ _ S' H' (q' p hM) e' r2 (.ref p)
theorem ds_setLc {i : Nat} {y : PySem.Str} (hc : X.calm = true) (hN : X.N.Nodup) (hy : X.N[i]? = some y) (hyl : X.env.scope.names.lookup y = some .local)
    (hsw : swapsWith (.ListComp elt [⟨tgE, iter, ifs, 0⟩] scope pos) (some (.Name y py)) spos.line X.env = pure true) (hi : DI X g tgE iter wi) (ok : BlkOk X.N X.env.scope scope own) (hs0 : ∀ i ∈ tg.slots, i ∈ own.map (·.2))
    (hg : ∀ (s : Shared) (H : Hp) (C : Addr) (cl : List (PySem.Str × Addr)) (fp : List Addr), PG (X.blk s H scope (compEnvC scope cl C X.env) fp) tgE (tg.h X.K))
    (ht : ∀ (s : Shared) (H : Hp) (C : Addr) (cl : List (PySem.Str × Addr)) (fp : List Addr) (g' : Gr), DTs (X.blk s H scope (compEnvC scope cl C X.env) fp) g' ifs tt)
    (he : ∀ (s : Shared) (H : Hp) (C : Addr) (cl : List (PySem.Str × Addr)) (fp : List Addr) (g' : Gr), DE (X.blk s H scope (compEnvC scope cl C X.env) fp) g' elt te) (hs : ∀ x, foldedSetIterable iter X.env x = pure x := by intro _; rfl) :
    DS X g (.Assign [.Name y py] (.ListComp elt [⟨tgE, iter, ifs, 0⟩] scope pos) spos) (dAsg (dLc wi tg tt te (own.map (·.2))) (dgName i)) := by
  refine ⟨ps_imp (ps_setLc (te := liftEx X.K te) (tt := liftTx X.K tt) (g := tg.h X.K) hc hN hy hyl hsw hi.run ok hg (fun s H C cl fp => pts_ex (ht s H C cl fp)) (fun s H C cl fp => pe_ex (he s H C cl fp)) hs) fun D' σ H h => ?_⟩
  obtain ⟨S, M, sd, DD, a, q, k⟩ := h
  refine lift_gather (Q := fun x H1 => gName i x σ H1 D'.nx) hs0 a q fun acc M' S' H' p accV q' e' r' l' hF => ?_
  obtain ⟨r2, e2⟩ := r'.unhide hF
  exact k.nx _ _ _ _ _ q' (e'.trans e2) ⟨a.base.trans (e'.trans e2), r2, (a.sl.mono (e'.trans e2)).set (v := some (.ref p)) (d := some (.lst acc)) (.lst upd_same (l'.mono e2)) i⟩
theorem ds_setLcC {i : Nat} {y : PySem.Str} (hc : X.calm = true) (hN : X.N.Nodup) (hy : X.N[i]? = some y) (hyl : X.env.scope.names.lookup y = some .local)
    (hsw : swapsWith (.ListComp elt [⟨tgE, iter, ifs, 0⟩] scope pos) (some (.Name y py)) spos.line X.env = pure true) (hi : DI X g tgE iter wi) (ok : BlkOk X.N X.env.scope scope own) (hs0 : ∀ i ∈ tg.slots, i ∈ own.map (·.2))
    (hg : ∀ (s : Shared) (H : Hp) (C : Addr) (cl : List (PySem.Str × Addr)) (fp : List Addr), PG (X.blk s H scope (compEnvC scope cl C X.env) fp) tgE (tg.h X.K))
    (ht : ∀ (s : Shared) (H : Hp) (C : Addr) (cl : List (PySem.Str × Addr)) (fp : List Addr) (g' : Gr), DTs (X.blk s H scope (compEnvC scope cl C X.env) fp) g' ifs tt)
    (he : ∀ (s : Shared) (H : Hp) (C : Addr) (cl : List (PySem.Str × Addr)) (fp : List Addr) (g' : Gr), DE (X.blk s H scope (compEnvC scope cl C X.env) fp) g' elt te) (hs : ∀ x, foldedSetIterable iter X.env x = pure x := by intro _; rfl) :
    DS X g (.Assign [.Name y py] (.ListComp elt [⟨tgE, iter, ifs, 0⟩] scope pos) spos) (dAsg (dLcC wi tg tt te (own.map (·.2))) (dgName i)) := by
  refine ⟨ps_imp (ps_setLc (te := liftEx X.K te) (tt := liftTx X.K tt) (g := tg.h X.K) hc hN hy hyl hsw hi.run ok hg (fun s H C cl fp => pts_ex (ht s H C cl fp)) (fun s H C cl fp => pe_ex (he s H C cl fp)) hs) fun D' σ H h => ?_⟩
  obtain ⟨S, M, sd, DD, a, q, k⟩ := h
  refine lift_gather (Q := fun x H1 => gName i x σ H1 D'.nx) hs0 a q fun acc M' S' H' p accV q' e' r' l' hF => ?_
  obtain ⟨r2, hM⟩ := r'.uncell hF l'
  exact k.nx _ _ _ _ _ (q' p hM) e' ⟨a.base.trans e', r2, (a.sl.mono e').set (v := some (.ref p)) (d := some (.ref p)) (.ref p) i⟩
end
end DL

/-! DCall: promises over trees; calls of defs, of built-ins; subscripts, slices, equality. -/
namespace DL
open PySem PySem.Spec PyProof.Rows L2

/-! ### exceptions as trees: the class, the own fields -/
abbrev DXK := Value → List (PySem.Str × D) → Mem → Prop
abbrev DWX := Value → List (PySem.Str × D) → DSt → Mem → Prop
abbrev IsF (K : PySem.W.Frag) (S : Hp) : List (PySem.Str × V) → List (PySem.Str × D) → Prop := Paired fun (p : PySem.Str × V) (q : PySem.Str × D) => p.1 = q.1 ∧ Is K S p.2 q.2
def ExIs (K : PySem.W.Frag) (S : Hp) (d : Option Addr) (fs : List (PySem.Str × D)) : Prop := (d = none ∧ fs = []) ∨ ∃ a fv, d = some a ∧ S a = some (.xd fv) ∧ IsF K S fv fs
def liftW (K : PySem.W.Frag) (g : Gr) (wd : DWX) : WX := fun cls d σ H => ∃ S M sd fs, At K g S M sd σ H ∧ ExIs K S d fs ∧ wd cls fs sd M
/-- nothing is let out -/
def wNo : DWX := fun _ _ _ _ => False
abbrev EX (P : Program) (w : World) : CXT := L2.CX P w

/-! ### promises -/
abbrev DSp := List D → Mem → DK → DXK → Prop
def liftSp (K : PySem.W.Frag) (sp : DSp) : Sp := fun vs H Q E => ∃ F S M ds, ∃ QD : DK, ∃ ED : DXK, Rep K F S M H ∧ IsL K S vs ds ∧ sp ds M QD ED ∧
  (∀ d M' v S' H', QD d M' → Same S S' → Rep K F S' M' H' → Is K S' v d → Q v H') ∧
  ∀ c fs M' dd S' H', ED c fs M' → Same S S' → Rep K F S' M' H' → ExIs K S' dd fs → E c dd H'
/-- what a def hands back may be seen otherwise; cells of its own are forgotten -/
def QF (Q : DK) : DK := fun d M => ∃ d' M', View d M d' M' ∧ Q d' M'
def EF (E : DXK) : DXK := fun c fs M => ∃ M', (∀ a co, M' a = some co → M a = some co) ∧ E c fs M'
theorem qf_same {Q : DK} {d : D} {M : Mem} (h : Q d M) : QF Q d M := ⟨d, M, .less fun _ _ z => z, h⟩
theorem qf_less {Q : DK} {d : D} {M M' : Mem} (h : ∀ a co, M' a = some co → M a = some co) (q : Q d M') : QF Q d M := ⟨d, M', .less h, q⟩
theorem qf_frz {Q : DK} {p : Addr} {ds : List D} {M M' : Mem} (h : M p = some (.lst ds)) (hm : ∀ a co, M' a = some co → a ≠ p ∧ M a = some co) (q : Q (.lst ds) M') : QF Q (.ref p) M := ⟨_, M', .frz h hm, q⟩
theorem ef_same {E : DXK} {c : Value} {fs : List (PySem.Str × D)} {M : Mem} (h : E c fs M) : EF E c fs M := ⟨M, fun _ _ z => z, h⟩

/-- the slots at the entry -/
def dstart (N : Nat) (ds : List D) : DSt := ds.map some ++ List.replicate (N - ds.length) none
theorem isO_start {K : PySem.W.Frag} {S : Hp} {N : List PySem.Str} {vs : List V} {ds : List D} (h : IsL K S vs ds) : IsO K S (L2.start N vs) (dstart N.length ds) := by
  unfold L2.start dstart
  have hl := h.length
  rw [hl]
  have nones : ∀ n : Nat, IsO K S (List.replicate n none) (List.replicate n none) := by
    intro n
    induction n with
    | zero => exact .nil
    | succ n ih => exact .cons trivial ih
  have main : ∀ {ds : List D} {vs : List V}, IsL K S vs ds → ∀ {τ : L2.St} {t : DSt}, IsO K S τ t → IsO K S (vs.map some ++ τ) (ds.map some ++ t) := by
    intro ds
    induction ds with
    | nil => intro vs h τ t o; cases h; exact o
    | cons d ds ih =>
      intro vs h τ t o
      cases h with
      | cons a b => exact .cons a (ih b o)
  exact main h (nones _)

section
variable {P : Program} {w : World} {K : PySem.W.Frag} {mg : PySem.Str → Option Value} {base : Heap}
variable {x qual : PySem.Str} {params : Arguments} {body : List Stmt} {scope : Scope} {dvs : List V} {kws : List (PySem.Str × V)} {f : Addr} {fd : FuncData} {N ps : List PySem.Str} {k : Nat} {sp : DSp}
/-- a def that lets nothing out -/
theorem dfn_ok {t : DTS} {CX : CXT} (F : FunD K x qual params body scope dvs kws f fd) (S : FnScope N ps scope) (len : ∀ ds M Q E, sp ds M Q E → ds.length = ps.length)
    (hbody : ∀ (cdv : Value) (A : Around) (outer : List Env) (s : Shared) (H : Hp) (E : XK) (g : Gr), Room k (A.deeper (envOfC qual scope s.heap.objs.size f cdv)) →
      DSs (cxOf CX P w K mg base N qual scope f cdv A outer s H E).nox g body t)
    (hread : ∀ ds M Q E, sp ds M Q E → t { nx := fun _ M' => QF Q .non M', rt := QF Q } (dstart N.length ds) M) : FnOk P w K mg base CX (k + 1) f fd ps (liftSp K sp) := by
  refine F.ok S (fun vs H Q E h => ?_) (fun cdv A outer s H vs Q E hr h => ?_)
  · obtain ⟨F, S, M, ds, QD, ED, r, l, h, _⟩ := h
    rw [l.length]
    exact len _ _ _ _ h
  · obtain ⟨F, S, M, ds, QD, ED, r, l, h, kq, ke⟩ := h
    refine ⟨_, PSs.nox (hbody cdv A outer s H E ⟨F, S⟩ hr).run, S, M, _, _, ⟨Same.refl _, r, isO_start l⟩, hread ds M QD ED h, ?_⟩
    refine ⟨fun sd M1 σ S1 H1 q e a => ?_, fun d M1 v S1 H1 q e r1 i => ?_, fun _ _ _ _ _ q => q.elim, fun _ _ _ _ _ q => q.elim⟩
    · obtain ⟨d', M', vw, q⟩ := q
      obtain ⟨S2, e2, r2, i2⟩ := vw.rep a.rep (.non : Is K S1 .non .non)
      exact kq _ _ _ _ _ q (e.trans e2) r2 i2
    · obtain ⟨d', M', vw, q⟩ := q
      obtain ⟨S2, e2, r2, i2⟩ := vw.rep r1 i
      exact kq _ _ _ _ _ q (e.trans e2) r2 i2
/-- a def that may raise -/
theorem dfn_okX {t : DWX → DTS} (F : FunD K x qual params body scope dvs kws f fd) (S : FnScope N ps scope) (len : ∀ ds M Q E, sp ds M Q E → ds.length = ps.length)
    (hbody : ∀ (cdv : Value) (A : Around) (outer : List Env) (s : Shared) (H : Hp) (E : XK) (g : Gr) (wd : DWX), Room k (A.deeper (envOfC qual scope s.heap.objs.size f cdv)) →
      Takes (cxOf (EX P w) P w K mg base N qual scope f cdv A outer s H E) (liftW K g wd) →
      DSs (cxOf (EX P w) P w K mg base N qual scope f cdv A outer s H E) g body (t wd))
    (hread : ∀ ds M Q E, sp ds M Q E → t (fun c fs _ M' => EF E c fs M') { nx := fun _ M' => QF Q .non M', rt := QF Q } (dstart N.length ds) M) : FnOk P w K mg base (EX P w) (k + 1) f fd ps (liftSp K sp) := by
  refine F.ok S (fun vs H Q E h => ?_) (fun cdv A outer s H vs Q E hr h => ?_)
  · obtain ⟨F, S, M, ds, QD, ED, r, l, h, _⟩ := h
    rw [l.length]
    exact len _ _ _ _ h
  · obtain ⟨F, S, M, ds, QD, ED, r, l, h, kq, ke⟩ := h
    have tk : Takes (cxOf (EX P w) P w K mg base N qual scope f cdv A outer s H E) (liftW K ⟨F, S⟩ fun c fs _ M' => EF ED c fs M') := by
      refine (takes_of rfl rfl rfl rfl : Takes (cxOf (EX P w) P w K mg base N qual scope f cdv A outer s H E) (fun cls d _ H => E cls d H)).imp fun c d σ H1 hw => ?_
      obtain ⟨S1, M1, sd, fs, a, x1, M2, hm, e⟩ := hw
      exact ke c fs M2 d S1 H1 e a.base (a.rep.less hm) x1
    refine ⟨_, (hbody cdv A outer s H E ⟨F, S⟩ _ hr tk).run, S, M, _, _, ⟨Same.refl _, r, isO_start l⟩, hread ds M QD ED h, ?_⟩
    refine ⟨fun sd M1 σ S1 H1 q e a => ?_, fun d M1 v S1 H1 q e r1 i => ?_, fun _ _ _ _ _ q => q.elim, fun _ _ _ _ _ q => q.elim⟩
    · obtain ⟨d', M', vw, q⟩ := q
      obtain ⟨S2, e2, r2, i2⟩ := vw.rep a.rep (.non : Is K S1 .non .non)
      exact kq _ _ _ _ _ q (e.trans e2) r2 i2
    · obtain ⟨d', M', vw, q⟩ := q
      obtain ⟨S2, e2, r2, i2⟩ := vw.rep r1 i
      exact kq _ _ _ _ _ q (e.trans e2) r2 i2
end
/-- a def of the module keeps its promise -/
structure DCal (P : Program) (w : World) (K : PySem.W.Frag) (mg : PySem.Str → Option Value) (base : Heap) (k : Nat) (x : PySem.Str) (sp : DSp) (dd : List D) : Prop where
  ex : ∃ (f : Addr) (fd : FuncData) (ps : List PySem.Str) (ds : List Value) (dvs : List V), FnOk P w K mg base (EX P w) k f fd ps (liftSp K sp) ∧ mg x = some (.ref f) ∧ PySem.W.keepIn K (.ref f) = true ∧ Binds K fd ps ds ∧ Vals dvs ds ∧ ∀ S, IsL K S dvs dd

/-! ### calls -/
@[reducible] def dCall (sp : DSp) (dd : List D) (wd : DWX) (t : DTA) : DTE := fun σ M Q => t σ M fun ds M1 => sp (ds ++ dd) M1 Q fun c fs M2 => wd c fs σ M2
section
variable {X : Cx} {g : Gr} {wd : DWX} {k j : Nat} {x : PySem.Str} {sp : DSp} {dd : List D} {p pos : Pos} {e : Expr} {es : List Expr} {t : DTA}
theorem pass_of (tk : Takes X (liftW X.K g wd)) (σ : L2.St) : PassesAt (EX X.prog X.w) X σ (fun cls d H => liftW X.K g wd cls d σ H) := passAt tk σ
theorem pass_no (σ : L2.St) : PassesAt (EX X.prog X.w) X σ (fun cls d H => liftW X.K g wNo cls d σ H) := by
  intro pins H s e s' I c
  obtain ⟨_, _, _, _, _, _, _, _, _, _, _, _, hE⟩ := c
  obtain ⟨_, _, _, _, _, _, z⟩ := hE
  exact z.elim
theorem lift_call {σ : L2.St} {H : Hp} {Q : VK} {dvs : List V} {K : PySem.W.Frag} (hd : ∀ S, IsL K S dvs dd) (h : liftE K g (dCall sp dd wd t) σ H Q) : tCallSD (liftSp K sp) dvs (fun σ cls d H => liftW K g wd cls d σ H) (liftA K g t) σ H Q := by
  obtain ⟨S, M, sd, QD, a, q, k⟩ := h
  refine ⟨S, M, sd, _, a, q, fun ds M1 vs S1 H1 q1 e1 r1 i1 => ?_⟩
  refine ⟨g.F, S1, M1, _, QD, _, r1, i1.app (hd S1), q1, fun d M' v S' H' q' e' r' i' => k _ _ _ _ _ q' (e1.trans e') r' i', fun c fs M' dd S' H' hw e' r' x' => ?_⟩
  exact ⟨S', M', sd, fs, (a.step e1 r1).step e' r', x', hw⟩
theorem de_call (c : DCal X.prog X.w X.K X.mg X.base k x sp dd) (hr : Room j X.A) (hk : k ≤ j) (hg : Gl X x) (hx : ∀ σ, PassesAt (EX X.prog X.w) X σ (fun cls d H => liftW X.K g wd cls d σ H)) (ha : DA X g (e :: es) t)
    (hdb : (x == ("__debug__" : PySem.Str)) = false := by decide) (he : starEach (e :: es) X.env = (false, eval e X.env) :: starEach es X.env := by rfl) (hpl : (backTo pos (starEach es X.env)).any (·.1) = false := by rfl) :
    DE X g (.Call (.Name x p) (e :: es) [] pos) (dCall sp dd wd t) := by
  obtain ⟨f, fd, ps, ds, dvs, F, hm, kp, hb, hv, hd⟩ := c.ex
  exact ⟨pe_imp (pe_callSD F (hr.mono hk) hg hm kp hb hv hx ha.run hdb he hpl) fun σ H Q h => lift_call hd h⟩
end

/-! ### built-ins by name -/
@[reducible] def dCB (r : DRL) (t : DTA) : DTE := fun σ M Q => t σ M fun ds M1 => r ds M1 Q
section
variable {X : Cx} {g : Gr} {x : PySem.Str} {p pos : Pos} {e : Expr} {es : List Expr} {t : DTA} {id T : String} {r : DRL}
theorem lift_cb {K : PySem.W.Frag} {σ : L2.St} {H : Hp} {Q : VK} (h : liftE K g (dCB r t) σ H Q) : tCB (liftRL K r) (liftA K g t) σ H Q := by
  obtain ⟨S, M, sd, QD, a, q, k⟩ := h
  refine ⟨S, M, sd, _, a, q, fun ds M1 vs S1 H1 q1 e1 r1 i1 => ?_⟩
  exact ⟨g.F, S1, M1, ds, QD, r1, i1, q1, fun d M' v S' H' q' e' r' i' => k _ _ _ _ _ q' (e1.trans e') r' i'⟩
theorem de_callB (hc : CallR X (.builtin id) (liftRL X.K r)) (hg : Gl X x) (hm : X.mg x = none) (hv : bootBuiltins x = some (.builtin id)) (ha : DA X g (e :: es) t) (hn : x ≠ "__name__" := by decide) (hdb : (x == ("__debug__" : PySem.Str)) = false := by decide)
    (he : starEach (e :: es) X.env = (false, eval e X.env) :: starEach es X.env := by rfl) (hpl : (backTo pos (starEach es X.env)).any (·.1) = false := by rfl) : DE X g (.Call (.Name x p) (e :: es) [] pos) (dCB r t) :=
  ⟨pe_imp (pe_callB hc hg hm hv ha.run hn hdb he hpl) fun σ H Q h => lift_cb h⟩
theorem de_callTy (hc : CallR X (.type T) (liftRL X.K r)) (hg : Gl X x) (hm : X.mg x = none) (hv : bootBuiltins x = some (.type T)) (ha : DA X g (e :: es) t) (hn : x ≠ "__name__" := by decide) (hdb : (x == ("__debug__" : PySem.Str)) = false := by decide)
    (he : starEach (e :: es) X.env = (false, eval e X.env) :: starEach es X.env := by rfl) (hpl : (backTo pos (starEach es X.env)).any (·.1) = false := by rfl) : DE X g (.Call (.Name x p) (e :: es) [] pos) (dCB r t) :=
  ⟨pe_imp (pe_callTy hc hg hm hv ha.run hn hdb he hpl) fun σ H Q h => lift_cb h⟩
end
@[reducible] def r1 (r : DR1) : DRL := fun ds M Q => match ds with
  | [x] => r x M Q
  | _ => False
@[reducible] def r2 (r : DR2) : DRL := fun ds M Q => match ds with
  | [x, y] => r x y M Q
  | _ => False
theorem r1_inv {r : DR1} {ds : List D} {M : Mem} {Q : DK} (h : r1 r ds M Q) : ∃ x, ds = [x] ∧ r x M Q := by
  unfold r1 at h
  split at h
  · exact ⟨_, rfl, h⟩
  · exact h.elim
theorem r2_inv {r : DR2} {ds : List D} {M : Mem} {Q : DK} (h : r2 r ds M Q) : ∃ x y, ds = [x, y] ∧ r x y M Q := by
  unfold r2 at h
  split at h
  · exact ⟨_, _, rfl, h⟩
  · exact h.elim
/-- a rule for one argument -/
theorem call1 {X : Cx} {f : Value} {r : DR1} {rr : List V → Hp → VK → Prop} (hc : CallR X f rr)
    (h : ∀ {F S H : Hp} {M : Mem} {x : V} {d : D} {QD : DK} {Q : VK}, Rep X.K F S M H → Is X.K S x d → r d M QD → (∀ d M' v S' H', QD d M' → Same S S' → Rep X.K F S' M' H' → Is X.K S' v d → Q v H') → rr [x] H Q) : CallR X f (liftRL X.K (r1 r)) := by
  intro pins s σ H xs us Q I rx hh
  obtain ⟨F, S, M, ds, QD, rep, ix, hr, hq⟩ := hh
  obtain ⟨d, rfl, hr⟩ := r1_inv hr
  obtain ⟨v, rfl, iv⟩ := isL1 ix
  exact hc pins s σ H _ us Q I rx (h rep iv hr hq)
theorem call2 {X : Cx} {f : Value} {r : DR2} {rr : List V → Hp → VK → Prop} (hc : CallR X f rr)
    (h : ∀ {F S H : Hp} {M : Mem} {x y : V} {d e : D} {QD : DK} {Q : VK}, Rep X.K F S M H → Is X.K S x d → Is X.K S y e → r d e M QD → (∀ d M' v S' H', QD d M' → Same S S' → Rep X.K F S' M' H' → Is X.K S' v d → Q v H') → rr [x, y] H Q) : CallR X f (liftRL X.K (r2 r)) := by
  intro pins s σ H xs us Q I rx hh
  obtain ⟨F, S, M, ds, QD, rep, ix, hr, hq⟩ := hh
  obtain ⟨d, e, rfl, hr⟩ := r2_inv hr
  obtain ⟨v, w, rfl, iv, iw⟩ := isL2 ix
  exact hc pins s σ H _ us Q I rx (h rep iv iw hr hq)
def CO.isL : CO → Option (List D)
  | .lst ds => some ds
  | _ => none
def dLen : DR1 := fun x M Q => match x with
  | .str s => s.length ≤ sizeLine ∧ Q (.int s.length) M
  | .tup ds => Q (.int ds.length) M
  | .lst ds => Q (.int ds.length) M
  | .ro ds => Q (.int ds.length) M
  | .ref a => ∃ ds, M a = some (.lst ds) ∧ Q (.int ds.length) M
  | _ => False
theorem dcall_len {X : Cx} : CallR X (.builtin "len") (liftRL X.K (r1 dLen)) := call1 call_len fun {F S H M x d QD Q} rep i hr hq => by
  cases i with
  | str s => exact ⟨_, _, rfl, ⟨hr.1, rfl⟩, hq _ _ _ S H hr.2 (Same.refl _) rep (.int _)⟩
  | tup s l => exact ⟨_, _, rfl, .inr ⟨_, sqT_mono rep.same s, rfl⟩, hq _ _ _ S H hr (Same.refl _) rep (by rw [l.length]; exact .int _)⟩
  | lst s l => exact ⟨_, _, rfl, .inl ⟨_, SqL.of (rep.same _ _ s), rfl⟩, hq _ _ _ S H hr (Same.refl _) rep (by rw [l.length]; exact .int _)⟩
  | ro s l => exact ⟨_, _, rfl, .inl ⟨_, rep.same.seq s, rfl⟩, hq _ _ _ S H hr (Same.refl _) rep (by rw [l.length]; exact .int _)⟩
  | ref a =>
    obtain ⟨ds, hm, q⟩ := hr
    obtain ⟨_, vs, hv, l⟩ := rep.cell a _ hm
    exact ⟨_, _, rfl, .inl ⟨vs, SqL.of hv, rfl⟩, hq _ _ _ S H q (Same.refl _) rep (by rw [l.length]; exact .int _)⟩
  | _ => exact hr.elim
def dInt : DR1 := fun x M Q => match x with
  | .int i => Q (.int i) M
  | .bl b => Q (.int (if b then 1 else 0)) M
  | _ => False
theorem dcall_int {X : Cx} : CallR X (.type "int") (liftRL X.K (r1 dInt)) := call1 call_int1 fun {F S H M x d QD Q} rep i hr hq => by
  cases i with
  | int i => exact .inl ⟨_, rfl, hq _ _ _ S H hr (Same.refl _) rep (.int _)⟩
  | bl b => exact .inr ⟨_, rfl, hq _ _ _ S H hr (Same.refl _) rep (.int _)⟩
  | _ => exact hr.elim
def dAbs : DR1 := fun x M Q => match x with
  | .int i => Q (.int (i.natAbs : Int)) M
  | _ => False
theorem abs_if (i : Int) : (if i < 0 then -i else i) = (i.natAbs : Int) := by split <;> omega
theorem dcall_abs {X : Cx} : CallR X (.builtin "abs") (liftRL X.K (r1 dAbs)) := call1 call_abs fun {F S H M x d QD Q} rep i hr hq => by
  cases i with
  | int i => exact ⟨_, rfl, by rw [abs_if]; exact hq _ _ _ S H hr (Same.refl _) rep (.int _)⟩
  | _ => exact hr.elim
def dStr : DR1 := fun x M Q => match x with
  | .int i => i.natAbs.log2 < 1920 ∧ Q (.str (toString i)) M
  | _ => False
theorem dcall_str {X : Cx} : CallR X (.type "str") (liftRL X.K (r1 dStr)) := call1 call_str_int fun {F S H M x d QD Q} rep i hr hq => by
  cases i with
  | int i => exact ⟨_, rfl, hr.1, hq _ _ _ S H hr.2 (Same.refl _) rep (.str _)⟩
  | _ => exact hr.elim
def dMin : DR2 := fun x y M Q => match x, y with
  | .int i, .int j => Q (.int (if j < i then j else i)) M
  | _, _ => False
def dMax : DR2 := fun x y M Q => match x, y with
  | .int i, .int j => Q (.int (if j > i then j else i)) M
  | _, _ => False
theorem dcall_min {X : Cx} (hc : X.calm = true) : CallR X (.builtin "min") (liftRL X.K (r2 dMin)) := call2 (call_min2 hc) fun {F S H M x y d e QD Q} rep i j hr hq => by
  cases i with
  | int i => cases j with
    | int j => exact ⟨_, _, rfl, hq _ _ _ S H hr (Same.refl _) rep (.int _)⟩
    | _ => exact hr.elim
  | _ => exact hr.elim
theorem dcall_max {X : Cx} (hc : X.calm = true) : CallR X (.builtin "max") (liftRL X.K (r2 dMax)) := call2 (call_max2 hc) fun {F S H M x y d e QD Q} rep i j hr hq => by
  cases i with
  | int i => cases j with
    | int j => exact ⟨_, _, rfl, hq _ _ _ S H hr (Same.refl _) rep (.int _)⟩
    | _ => exact hr.elim
  | _ => exact hr.elim
def dAll : DR1 := fun x M Q => match x with
  | .lst ds => ∃ bs : List Bool, ds = bs.map D.bl ∧ Q (.bl (bs.all id)) M
  | _ => False
def dAny : DR1 := fun x M Q => match x with
  | .lst ds => ∃ bs : List Bool, ds = bs.map D.bl ∧ Q (.bl (bs.any id)) M
  | _ => False
def dSum : DR1 := fun x M Q => match x with
  | .lst ds => ∃ ns : List Int, ds = ns.map D.int ∧ Q (.int ns.sum) M
  | _ => False
theorem dcall_all {X : Cx} (hc : X.calm = true) : CallR X (.builtin "all") (liftRL X.K (r1 dAll)) := call1 (cr_all hc) fun {F S H M x d QD Q} rep i hr hq => by
  cases i with
  | lst s l =>
    obtain ⟨bs, rfl, q⟩ := hr
    have e := l.bls
    subst e
    exact ⟨_, bs, rfl, SqL.of (rep.same _ _ s), hq _ _ _ S H q (Same.refl _) rep (.bl _)⟩
  | _ => exact hr.elim
theorem dcall_any {X : Cx} (hc : X.calm = true) : CallR X (.builtin "any") (liftRL X.K (r1 dAny)) := call1 (cr_any hc) fun {F S H M x d QD Q} rep i hr hq => by
  cases i with
  | lst s l =>
    obtain ⟨bs, rfl, q⟩ := hr
    have e := l.bls
    subst e
    exact ⟨_, bs, rfl, SqL.of (rep.same _ _ s), hq _ _ _ S H q (Same.refl _) rep (.bl _)⟩
  | _ => exact hr.elim
theorem dcall_sum {X : Cx} (hc : X.calm = true) : CallR X (.builtin "sum") (liftRL X.K (r1 dSum)) := call1 (cr_sum hc) fun {F S H M x d QD Q} rep i hr hq => by
  cases i with
  | lst s l =>
    obtain ⟨bs, rfl, q⟩ := hr
    have e := l.ints
    subst e
    exact ⟨_, bs, rfl, SqL.of (rep.same _ _ s), hq _ _ _ S H q (Same.refl _) rep (.int _)⟩
  | _ => exact hr.elim
/-- the items of a list or tuple of any kind -/
def Seq (x : D) (M : Mem) (ds : List D) : Prop := x = .lst ds ∨ x = .tup ds ∨ x = .ro ds ∨ ∃ a, x = .ref a ∧ M a = some (.lst ds)
theorem Seq.sq {K : PySem.W.Frag} {F S H : Hp} {M : Mem} {x : D} {v : V} {ds : List D} (h : Seq x M ds) (rep : Rep K F S M H) (i : Is K S v x) : ∃ p vs, v = .ref p ∧ (SqL K H p vs ∨ SqT K H p vs) ∧ IsL K S vs ds := by
  rcases h with rfl | rfl | rfl | ⟨a, rfl, hm⟩
  · cases i with
    | lst s l => exact ⟨_, _, rfl, .inl (SqL.of (rep.same _ _ s)), l⟩
  · cases i with
    | tup s l => exact ⟨_, _, rfl, .inr (sqT_mono rep.same s), l⟩
  · cases i with
    | ro s l => exact ⟨_, _, rfl, .inl (rep.same.seq s), l⟩
  · cases i
    obtain ⟨_, vs, hv, l⟩ := rep.cell a _ hm
    exact ⟨_, vs, rfl, .inl (SqL.of hv), l⟩
def dListF : DR1 := fun x M Q => ∃ ds, Seq x M ds ∧ Q (.lst ds) M
def dListC : DR1 := fun x M Q => ∃ ds, Seq x M ds ∧ ∀ p, M p = none → Q (.ref p) (mset M p (.lst ds))
def dTupF : DR1 := fun x M Q => ∃ ds, Seq x M ds ∧ Q (.tup ds) M
theorem dcall_list {X : Cx} : CallR X (.type "list") (liftRL X.K (r1 dListF)) := call1 call_list_of fun {F S H M x d QD Q} rep i hr hq => by
  obtain ⟨ds, sq, q⟩ := hr
  obtain ⟨p, vs, rfl, s, l⟩ := sq.sq rep i
  refine ⟨p, vs, rfl, s, fun l' hl => ?_⟩
  have s1 : Same S (upd S l' (.lst vs)) := same_upd (rep.freeS hl)
  exact hq _ M _ _ _ q s1 (rep.frozen hl) (.lst upd_same (l.mono s1))
theorem dcall_listC {X : Cx} : CallR X (.type "list") (liftRL X.K (r1 dListC)) := call1 call_list_of fun {F S H M x d QD Q} rep i hr hq => by
  obtain ⟨ds, sq, q⟩ := hr
  obtain ⟨p, vs, rfl, s, l⟩ := sq.sq rep i
  exact ⟨p, vs, rfl, s, fun l' hl => hq _ _ _ S _ (q l' (rep.freeM hl)) (Same.refl _) (rep.newCell hl ⟨vs, upd_same, l⟩) (.ref _)⟩
theorem Seq.two {K : PySem.W.Frag} {F S H : Hp} {M : Mem} {x : D} {v : V} {ds : List D} (h : Seq x M ds) (rep : Rep K F S M H) (i : Is K S v x) : (x = .tup ds ∧ ∃ p vs, v = .ref p ∧ SqT K H p vs) ∨ ∃ p vs, v = .ref p ∧ SqL K H p vs ∧ IsL K S vs ds := by
  rcases h with rfl | rfl | rfl | ⟨a, rfl, hm⟩
  · cases i with
    | lst s l => exact .inr ⟨_, _, rfl, SqL.of (rep.same _ _ s), l⟩
  · cases i with
    | tup s l => exact .inl ⟨rfl, _, _, rfl, sqT_mono rep.same s⟩
  · cases i with
    | ro s l => exact .inr ⟨_, _, rfl, rep.same.seq s, l⟩
  · cases i
    obtain ⟨_, vs, hv, l⟩ := rep.cell a _ hm
    exact .inr ⟨_, vs, rfl, SqL.of hv, l⟩
theorem dcall_tuple {X : Cx} : CallR X (.type "tuple") (liftRL X.K (r1 dTupF)) := call1 call_tuple_of fun {F S H M x d QD Q} rep i hr hq => by
  obtain ⟨ds, sq, q⟩ := hr
  rcases sq.two rep i with ⟨e, p, vs, rfl, s⟩ | ⟨p, vs, rfl, s, l⟩
  · subst e
    exact ⟨p, vs, rfl, .inr ⟨s, hq _ M _ S H q (Same.refl _) rep i⟩⟩
  · refine ⟨p, vs, rfl, .inl ⟨s, fun l' hl => ?_⟩⟩
    have s1 : Same S (upd S l' (.tup vs)) := same_upd (rep.freeS hl)
    exact hq _ M _ _ _ q s1 (rep.frozen hl) (.tup (SqT.of upd_same) (l.mono s1))
/-! ### isinstance -/
inductive Ty where
  | nt | bo | it | st | tu | li | di
  deriving DecidableEq
def Ty.name : Ty → String
  | .nt => "NoneType" | .bo => "bool" | .it => "int" | .st => "str" | .tu => "tuple" | .li => "list" | .di => "dict"
def Ty.sub (a b : Ty) : Bool := decide (a = b) || (decide (a = .bo) && decide (b = .it))
theorem kit_ty2 {K : PySem.W.Frag} (a b : Ty) : PySem.W.kitOne K (.type a.name) (.type b.name) = some (a.sub b) := by
  cases a <;> cases b <;> exact kit_ty (by decide +kernel)
def CO.ty : CO → Ty
  | .lst _ => .li
  | .dK _ => .di
/-- the built-in type of a value -/
inductive TyD (M : Mem) : D → Ty → Prop
  | non : TyD M .non .nt
  | bl (b : Bool) : TyD M (.bl b) .bo
  | int (i : Int) : TyD M (.int i) .it
  | str (x : PySem.Str) : TyD M (.str x) .st
  | tup (ds : List D) : TyD M (.tup ds) .tu
  | lst (ds : List D) : TyD M (.lst ds) .li
  | ref {a : Addr} {co : CO} (h : M a = some co) : TyD M (.ref a) co.ty
theorem tyX_of {K : PySem.W.Frag} {F S H : Hp} {M : Mem} {x : D} {v : V} {t : Ty} (h : TyD M x t) (rep : Rep K F S M H) (i : Is K S v x) : TyX K H v (.type t.name) := by
  cases h with
  | non => cases i; exact .base .non
  | bl b => cases i; exact .base (.bl b)
  | int b => cases i; exact .base (.int b)
  | str b => cases i; exact .base (.str b)
  | tup ds =>
    cases i with
    | tup s l =>
      rcases sqT_mono rep.same s with (h | ⟨o, h⟩) | ⟨o, its, n, h, c, _⟩
      · exact .base (.tup h)
      · exact .fTuple h
      · exact .kTuple h c
  | lst ds =>
    cases i with
    | lst s l => exact .base (.lst (rep.same _ _ s))
  | @ref a co h =>
    cases i
    obtain ⟨_, c⟩ := rep.cell a _ h
    cases co with
    | lst ds =>
      obtain ⟨vs, hv, l⟩ := c
      exact .base (.lst hv)
    | dK kvs =>
      obtain ⟨vs, hv, l⟩ := c
      exact .base (.dK hv)
def dIsi (T : Ty) : DR2 := fun x y M Q => match y with
  | .ty n => n = T.name ∧ ∃ t, TyD M x t ∧ Q (.bl (t.sub T)) M
  | _ => False
theorem dcall_isi {X : Cx} (T : Ty) : CallR X (.builtin "isinstance") (liftRL X.K (r2 (dIsi T))) := call2 call_isi fun {F S H M x y d e QD Q} rep i j hr hq => by
  cases j with
  | ty n =>
    obtain ⟨rfl, t, ht, q⟩ := hr
    exact ⟨_, _, _, _, _, rfl, .ty _, tyX_of ht rep i, kit_ty2 t T, hq _ _ _ S H q (Same.refl _) rep (.bl _)⟩
  | _ => exact hr.elim

/-! ### subscripts, slices -/
def dIx : DR2 := fun x y M Q => match x, y with
  | .tup ds, .int i => ∃ d, atI ds i = some d ∧ Q d M
  | .lst ds, .int i => ∃ d, atI ds i = some d ∧ Q d M
  | .ro ds, .int i => ∃ d, atI ds i = some d ∧ Q d M
  | .str s, .int i => s.length ≤ sizeLine ∧ ∃ c, atI s.cps.toList i = some c ∧ Q (.str ⟨#[c]⟩) M
  | .ref a, .int i => ∃ ds d, M a = some (.lst ds) ∧ atI ds i = some d ∧ Q d M
  | _, _ => False
theorem atI_is {K : PySem.W.Frag} {S : Hp} {vs : List V} {ds : List D} {i : Int} {d : D} (l : IsL K S vs ds) (h : atI ds i = some d) : ∃ v, atI vs i = some v ∧ Is K S v d := by
  unfold atI at h ⊢
  rw [l.length]
  cases e : ixN ds.length i with
  | none => rw [e] at h; cases h
  | some j =>
    rw [e] at h
    obtain ⟨v, h1, h2⟩ := l.get (i := j) h
    exact ⟨v, h1, h2⟩
section
variable {X : Cx} {g : Gr} {pos p2 : Pos} {a b e : Expr} {ta tb te : DTE}
theorem dix_seq : IxR X (liftR2 X.K dIx) := by
  intro value slice pins s σ H x y v u Q I rx ry h hs
  obtain ⟨F, S, M, dx, dy, QD, rep, ix, iy, hr, hq⟩ := h
  refine ix_seq value slice pins s σ H x y v u Q I rx ry ?_ hs
  cases iy with
  | int i =>
    cases ix with
    | tup s l =>
      obtain ⟨d, hd, q⟩ := hr
      obtain ⟨w, hw, iw⟩ := atI_is l hd
      exact .inr (.inl ⟨_, _, i, w, rfl, rfl, sqT_mono rep.same s, hw, hq _ _ _ S H q (Same.refl _) rep iw⟩)
    | lst s l =>
      obtain ⟨d, hd, q⟩ := hr
      obtain ⟨w, hw, iw⟩ := atI_is l hd
      exact .inl ⟨_, _, i, w, rfl, rfl, SqL.of (rep.same _ _ s), hw, hq _ _ _ S H q (Same.refl _) rep iw⟩
    | ro s l =>
      obtain ⟨d, hd, q⟩ := hr
      obtain ⟨w, hw, iw⟩ := atI_is l hd
      exact .inl ⟨_, _, i, w, rfl, rfl, rep.same.seq s, hw, hq _ _ _ S H q (Same.refl _) rep iw⟩
    | str z =>
      obtain ⟨hz, c, hc, q⟩ := hr
      exact .inr (.inr ⟨z, i, c, rfl, rfl, hz, hc, hq _ _ _ S H q (Same.refl _) rep (.str _)⟩)
    | ref p =>
      obtain ⟨ds, d, hm, hd, q⟩ := hr
      obtain ⟨_, vs, hv, l⟩ := rep.cell p _ hm
      obtain ⟨w, hw, iw⟩ := atI_is l hd
      exact .inl ⟨_, _, i, w, rfl, rfl, SqL.of hv, hw, hq _ _ _ S H q (Same.refl _) rep iw⟩
    | _ => exact hr.elim
  | _ => exact (by cases ix <;> exact hr.elim)
theorem de_ix (ha : DE X g a ta) (hb : DE X g b tb) (hs : PlainIx b) : DE X g (.Subscript a b pos) (dBin dIx ta tb) := ⟨pe_imp (pe_ix dix_seq ha.run hb.run hs) fun σ H Q h => lift_seq2 h⟩
abbrev DTO := DSt → Mem → (Option Int → Mem → Prop) → Prop
def liftO (K : PySem.W.Frag) (g : Gr) (t : DTO) : TO := fun σ H Q => ∃ S M sd, ∃ QD : Option Int → Mem → Prop, At K g S M sd σ H ∧ t sd M QD ∧
  ∀ o M' S' H', QD o M' → Same S S' → Rep K g.F S' M' H' → Q o H'
structure DO (X : Cx) (g : Gr) (e : Option Expr) (t : DTO) : Prop where
  run : PO X e (liftO X.K g t)
theorem po_imp {X : Cx} {e : Option Expr} {t t' : TO} (h : PO X e t) (i : ∀ σ H Q, t' σ H Q → t σ H Q) : PO X e t' := ⟨fun pins s σ H Q I w => h.run pins s σ H Q I (i _ _ _ w)⟩
@[reducible] def dNoPart : DTO := fun _ M Q => Q none M
@[reducible] def dPart (t : DTE) : DTO := fun σ M Q => t σ M fun x M1 => match x with
  | .int i => Q (some i) M1
  | _ => False
theorem do_none : DO X g none dNoPart := ⟨po_imp po_none fun σ H Q ⟨S, M, sd, QD, a, q, k⟩ => k _ _ _ _ q (Same.refl _) a.rep⟩
theorem do_some (h : DE X g e te) : DO X g (some e) (dPart te) := ⟨po_imp (po_some h.run) fun σ H Q ⟨S, M, sd, QD, a, q, k⟩ => by
  refine ⟨S, M, sd, _, a, q, fun d M1 v S1 H1 q1 e1 r1 i1 => ?_⟩
  cases i1 with
  | int i => exact ⟨i, rfl, k _ _ _ _ q1 e1 r1⟩
  | _ => exact q1.elim⟩
def cutD (xs : List D) (lo hi : Option Int) : List D := (xs.drop (HT.sIx xs.length 0 lo)).take (HT.sIx xs.length xs.length hi - HT.sIx xs.length 0 lo)
theorem cut_is {K : PySem.W.Frag} {S : Hp} {vs : List V} {ds : List D} {lo hi : Option Int} (l : IsL K S vs ds) : IsL K S (cutV vs lo hi) (cutD ds lo hi) := by
  unfold cutV cutD
  rw [l.length]
  exact (l.drop _).take _
theorem cutV_whole {xs : List V} {lo hi : Option Int} (e : HT.sIx xs.length 0 lo = 0 ∧ HT.sIx xs.length xs.length hi = xs.length) : cutV xs lo hi = xs := by
  unfold cutV
  rw [e.1, e.2, List.drop_zero, Nat.sub_zero, List.take_length]
abbrev DRS := D → Option Int → Option Int → Mem → DK → Prop
def liftRS (K : PySem.W.Frag) (r : DRS) : V → Option Int → Option Int → Hp → VK → Prop := fun x lo hi H Q => ∃ F S M dx, ∃ QD : DK, Rep K F S M H ∧ Is K S x dx ∧ r dx lo hi M QD ∧
  ∀ d M' v S' H', QD d M' → Same S S' → Rep K F S' M' H' → Is K S' v d → Q v H'
/-- a slice of a list or a text -/
def dSl : DRS := fun x lo hi M Q => match x with
  | .lst ds => Q (.lst (cutD ds lo hi)) M
  | .ro ds => Q (.lst (cutD ds lo hi)) M
  | .tup ds => Q (.tup (cutD ds lo hi)) M
  | .str s => s.length ≤ sizeLine ∧ Q (.str (cutS s lo hi)) M
  | .ref a => ∃ ds, M a = some (.lst ds) ∧ Q (.lst (cutD ds lo hi)) M
  | _ => False
theorem dsl_ok : SlR X (liftRS X.K dSl) := by
  intro pins s σ H x v vl vu lo hi sl Q I rx hs pl pu h
  obtain ⟨F, S, M, dx, QD, rep, ix, hr, hq⟩ := h
  have lst : ∀ {p : Addr} {vs : List V} {ds : List D}, x = .ref p → SqL X.K H p vs → IsL X.K S vs ds → QD (.lst (cutD ds lo hi)) M →
      ∃ T id, typeLookup (.type T) "__getitem__" = pure (some (.builtin id)) ∧ s.TypeIs v T ∧ wpAny (model X.prog X.w) X.A (getItem v (.ref sl)) (EP X pins σ Q) X.xe s := fun {p vs ds} e sq l q => by
    refine sl_list pins s σ H x v vl vu lo hi sl Q I rx hs pl pu ⟨p, vs, e, sq, fun q' hq' => ?_⟩
    have s1 : Same S (upd S q' (.lst (cutV vs lo hi))) := same_upd (rep.freeS hq')
    exact hq _ M _ _ _ q s1 (rep.frozen hq') (.lst upd_same ((cut_is l).mono s1))
  cases ix with
  | lst s l => exact lst rfl (SqL.of (rep.same _ _ s)) l hr
  | ro s l => exact lst rfl (rep.same.seq s) l hr
  | @tup _ vx _ sx lx =>
    refine sl_tupA pins s σ H _ v vl vu lo hi sl Q I rx hs pl pu ⟨_, _, rfl, sqT_mono rep.same sx, fun e => ?_, fun _ q' hq' => ?_⟩
    · have e2 := cutV_whole e
      have e3 := cut_is (lo := lo) (hi := hi) lx
      rw [e2] at e3
      exact hq _ M _ S H hr (Same.refl _) rep (.tup sx e3)
    · have s1 : Same S (upd S q' (.tup (cutV vx lo hi))) := same_upd (rep.freeS hq')
      exact hq _ M _ _ _ hr s1 (rep.frozen hq') (.tup (SqT.of upd_same) ((cut_is lx).mono s1))
  | str z => exact sl_str pins s σ H _ v vl vu lo hi sl Q I rx hs pl pu ⟨z, rfl, hr.1, hq _ _ _ S H hr.2 (Same.refl _) rep (.str _)⟩
  | ref p =>
    obtain ⟨ds, hm, q⟩ := hr
    obtain ⟨_, vs, hv, l⟩ := rep.cell p _ hm
    exact lst rfl (SqL.of hv) l q
  | _ => exact hr.elim
@[reducible] def dSlice (r : DRS) (te : DTE) (tl th : DTO) : DTE := fun σ M Q => te σ M fun x M1 => tl σ M1 fun l M2 => th σ M2 fun u M3 => r x l u M3 Q
theorem de_slice {r : DRS} {lo hi : Option Expr} {tl th : DTO} (hr : SlR X (liftRS X.K r)) (he : DE X g e te) (hl : DO X g lo tl) (hu : DO X g hi th) : DE X g (.Subscript e (.Slice lo hi none p2) pos) (dSlice r te tl th) := by
  refine ⟨pe_imp (pe_slice hr he.run hl.run hu.run) fun σ H Q h => ?_⟩
  obtain ⟨S, M, sd, QD, a, q, k⟩ := h
  refine ⟨S, M, sd, _, a, q, fun d M1 v S1 H1 q1 e1 r1 i1 => ?_⟩
  refine ⟨S1, M1, sd, _, a.step e1 r1, q1, fun o M2 S2 H2 q2 e2 r2 => ?_⟩
  refine ⟨S2, M2, sd, _, (a.step e1 r1).step e2 r2, q2, fun o2 M3 S3 H3 q3 e3 r3 => ?_⟩
  exact ⟨_, S3, M3, d, QD, r3, (i1.mono e2).mono e3, q3, fun d4 M4 v4 S4 H4 q4 e4 r4 i4 => k _ _ _ _ _ q4 (((e1.trans e2).trans e3).trans e4) r4 i4⟩
end

/-! ### equality -/
mutual
inductive Py (M : Mem) : D → PyData → Prop
  | non : Py M .non .none
  | bl (b : Bool) : Py M (.bl b) (.bool b)
  | int (i : Int) : Py M (.int i) (.int i)
  | str (x : PySem.Str) : Py M (.str x) (.str x)
  | tup {ds : List D} {ps : List PyData} : PyL M ds ps → Py M (.tup ds) (.tuple ps)
  | lst {ds : List D} {ps : List PyData} : PyL M ds ps → Py M (.lst ds) (.list ps)
  | ro {ds : List D} {ps : List PyData} : PyL M ds ps → Py M (.ro ds) (.list ps)
  | ref {a : Addr} {ds : List D} {ps : List PyData} : M a = some (.lst ds) → PyL M ds ps → Py M (.ref a) (.list ps)
inductive PyL (M : Mem) : List D → List PyData → Prop
  | nil : PyL M [] []
  | cons {d : D} {ds : List D} {p : PyData} {ps : List PyData} : Py M d p → PyL M ds ps → PyL M (d :: ds) (p :: ps)
end
section
variable {K : PySem.W.Frag} {F S H : Hp} {M : Mem}
mutual
theorem Py.dp (rep : Rep K F S M H) : ∀ {p : PyData} {d : D} {v : V}, Py M d p → Is K S v d → Dp K H v p
  | .none, _, _, h, i => by cases h; cases i; exact .non
  | .bool b, _, _, h, i => by cases h; cases i; exact .bl b
  | .int b, _, _, h, i => by cases h; cases i; exact .int b
  | .str b, _, _, h, i => by cases h; cases i; exact .str b
  | .list ps, _, _, h, i => by
    cases h with
    | lst h =>
      cases i with
      | lst s l => exact .lst (SqL.of (rep.same _ _ s)) (PyL.dp rep h l)
    | ro h =>
      cases i with
      | ro s l => exact .lst (rep.same.seq s) (PyL.dp rep h l)
    | ref hm h =>
      cases i
      obtain ⟨_, vs, hv, l⟩ := rep.cell _ _ hm
      exact .lst (SqL.of hv) (PyL.dp rep h l)
  | .tuple ps, _, _, h, i => by
    cases h with
    | tup h =>
      cases i with
      | tup s l => exact .tup (sqT_mono rep.same s) (PyL.dp rep h l)
  | .dict kvs, _, _, h, i => by cases h
theorem PyL.dp (rep : Rep K F S M H) : ∀ {ps : List PyData} {ds : List D} {vs : List V}, PyL M ds ps → IsL K S vs ds → DpAll K H vs ps
  | [], _, _, h, i => by cases h; cases i; exact .nil
  | p :: ps, _, _, h, i => by
    cases h with
    | cons a b =>
      cases i with
      | cons c d => exact .cons (Py.dp rep a c) (PyL.dp rep b d)
end
end
/-- ==, of plain data -/
def dEq : DR2 := fun x y M Q => match x, y with
  | .int i, .int j => Q (.bl (decide (i = j))) M
  | .str a, .str b => Q (.bl (decide (a = b))) M
  | .bl a, .bl b => Q (.bl (decide (a = b))) M
  | x, y => ∃ p q, Py M x p ∧ Py M y q ∧ SeqAt.shaped p = true ∧ SeqAt.shaped q = true ∧ Q (.bl (PyData.eqv p q)) M
def dNe : DR2 := fun x y M Q => match x, y with
  | .int i, .int j => Q (.bl (!decide (i = j))) M
  | .str a, .str b => Q (.bl (!decide (a = b))) M
  | .bl a, .bl b => Q (.bl (!decide (a = b))) M
  | x, y => ∃ p q, Py M x p ∧ Py M y q ∧ SeqAt.shaped p = true ∧ SeqAt.shaped q = true ∧ Q (.bl (!PyData.eqv p q)) M
theorem vdec {a b : V} {p : Prop} [Decidable p] (h : (a = b) ↔ p) : decide (a = b) = decide p := by
  by_cases hp : p
  · rw [decide_eq_true hp, decide_eq_true (h.mpr hp)]
  · rw [decide_eq_false hp, decide_eq_false fun z => hp (h.mp z)]
section
variable {X : Cx}
theorem dop_eq (hu : X.A.units + 64 < cLine) : OpR X (compareOp .Eq) (liftR2 X.K dEq) := by
  intro pins s σ H x y v u Q I rx ry h
  obtain ⟨F, S, M, dx, dy, QD, rep, ix, iy, hr, hq⟩ := h
  have deep : (∃ p q, Py M dx p ∧ Py M dy q ∧ SeqAt.shaped p = true ∧ SeqAt.shaped q = true ∧ QD (.bl (PyData.eqv p q)) M) → wpAny (model X.prog X.w) X.A (compareOp .Eq v u) (EP X pins σ Q) X.xe s := by
    rintro ⟨p, q, hp, hq', sp, sq, z⟩
    exact op_eqD hu pins s σ H x y v u Q I rx ry ⟨p, q, hp.dp rep ix, hq'.dp rep iy, sp, sq, hq _ _ _ S H z (Same.refl _) rep (.bl _)⟩
  unfold dEq at hr
  split at hr
  · cases ix
    cases iy
    exact op_eq pins s σ H _ _ v u Q I rx ry ⟨rfl, by rw [vdec (iff_of_eq (V.int.injEq _ _))]; exact hq _ _ _ S H hr (Same.refl _) rep (.bl _)⟩
  · cases ix
    cases iy
    exact op_eq pins s σ H _ _ v u Q I rx ry ⟨rfl, by rw [vdec (iff_of_eq (V.str.injEq _ _))]; exact hq _ _ _ S H hr (Same.refl _) rep (.bl _)⟩
  · cases ix
    cases iy
    exact op_eq pins s σ H _ _ v u Q I rx ry ⟨rfl, by rw [vdec (iff_of_eq (V.bl.injEq _ _))]; exact hq _ _ _ S H hr (Same.refl _) rep (.bl _)⟩
  · exact deep hr
theorem dop_ne (hu : X.A.units + 64 < cLine) : OpR X (compareOp .NotEq) (liftR2 X.K dNe) := by
  intro pins s σ H x y v u Q I rx ry h
  obtain ⟨F, S, M, dx, dy, QD, rep, ix, iy, hr, hq⟩ := h
  have deep : (∃ p q, Py M dx p ∧ Py M dy q ∧ SeqAt.shaped p = true ∧ SeqAt.shaped q = true ∧ QD (.bl (!PyData.eqv p q)) M) → wpAny (model X.prog X.w) X.A (compareOp .NotEq v u) (EP X pins σ Q) X.xe s := by
    rintro ⟨p, q, hp, hq', sp, sq, z⟩
    exact op_neD hu pins s σ H x y v u Q I rx ry ⟨p, q, hp.dp rep ix, hq'.dp rep iy, sp, sq, hq _ _ _ S H z (Same.refl _) rep (.bl _)⟩
  unfold dNe at hr
  split at hr
  · cases ix
    cases iy
    exact op_ne pins s σ H _ _ v u Q I rx ry ⟨rfl, by rw [vdec (iff_of_eq (V.int.injEq _ _))]; exact hq _ _ _ S H hr (Same.refl _) rep (.bl _)⟩
  · cases ix
    cases iy
    exact op_ne pins s σ H _ _ v u Q I rx ry ⟨rfl, by rw [vdec (iff_of_eq (V.str.injEq _ _))]; exact hq _ _ _ S H hr (Same.refl _) rep (.bl _)⟩
  · cases ix
    cases iy
    exact op_ne pins s σ H _ _ v u Q I rx ry ⟨rfl, by rw [vdec (iff_of_eq (V.bl.injEq _ _))]; exact hq _ _ _ S H hr (Same.refl _) rep (.bl _)⟩
  · exact deep hr
end

/-! ### list.append -/
def dAppend : D → List D → Mem → DK → Prop := fun x ds M Q => ∃ a l y, x = .ref a ∧ ds = [y] ∧ M a = some (.lst l) ∧ l.length < sizeLine ∧ Q .non (mset M a (.lst (l ++ [y])))
def isCellL (x : D) (M : Mem) : Prop := ∃ a l, x = .ref a ∧ M a = some (.lst l)
@[reducible] def dApp (to : DTE) (t : DTA) : DTE := fun σ M Q => to σ M fun x M1 => isCellL x M1 ∧ t σ M1 fun ds M2 => dAppend x ds M2 Q
theorem de_append {X : Cx} {g : Gr} {o e : Expr} {es : List Expr} {to : DTE} {t : DTA} {apos cpos : Pos} (ho : DE X g o to) (ha : DA X g (e :: es) t)
    (h : ∀ {to' : TE} {t' : TA}, PE X o to' → PA X (e :: es) t' → PE X (.Call (.Attribute o "append" apos) (e :: es) [] cpos) (tBM X.K "list" rAppend to' t')) : DE X g (.Call (.Attribute o "append" apos) (e :: es) [] cpos) (dApp to t) := by
  refine ⟨pe_imp (h ho.run ha.run) fun σ H Q hh => ?_⟩
  obtain ⟨S, M, sd, QD, a, q, k⟩ := hh
  refine ⟨S, M, sd, _, a, q, fun d M1 v S1 H1 q1 e1 r1 i1 => ?_⟩
  obtain ⟨⟨p, l, rfl, hm⟩, q1⟩ := q1
  cases i1
  obtain ⟨_, vs, hv, il⟩ := r1.cell p _ hm
  refine ⟨.inl ⟨rfl, vs, SqL.of hv⟩, S1, M1, sd, _, a.step e1 r1, q1, fun ds M2 ws S2 H2 q2 e2 r2 i2 => ?_⟩
  obtain ⟨p', l', y, e3, rfl, hm', hz, q3⟩ := q2
  cases e3
  obtain ⟨w, rfl, iw⟩ := isL1 i2
  obtain ⟨_, vs', hv', il'⟩ := r2.cell p _ hm'
  refine ⟨p, vs', w, rfl, rfl, hv', by rw [il'.length]; exact hz, ?_⟩
  have rw' := r2.write (o := .lst (vs' ++ [w])) hm' (co' := .lst (l' ++ [y])) ⟨_, upd_same, il'.app (.one iw)⟩
  exact k _ _ _ _ _ q3 (e1.trans e2) rw' .non
end DL

/-! DSpec: promises by the number of arguments; the draws' box. -/
namespace DL
open PySem PySem.Spec PyProof.Rows L2
@[reducible] def spk1 (r : D → Mem → DK → DXK → Prop) : DSp := fun ds M Q E => match ds with
  | [a] => r a M Q E
  | _ => False
@[reducible] def spk2 (r : D → D → Mem → DK → DXK → Prop) : DSp := fun ds M Q E => match ds with
  | [a, b] => r a b M Q E
  | _ => False
@[reducible] def spk3 (r : D → D → D → Mem → DK → DXK → Prop) : DSp := fun ds M Q E => match ds with
  | [a, b, c] => r a b c M Q E
  | _ => False
@[reducible] def spk4 (r : D → D → D → D → Mem → DK → DXK → Prop) : DSp := fun ds M Q E => match ds with
  | [a, b, c, d] => r a b c d M Q E
  | _ => False
@[reducible] def spk5 (r : D → D → D → D → D → Mem → DK → DXK → Prop) : DSp := fun ds M Q E => match ds with
  | [a, b, c, d, e] => r a b c d e M Q E
  | _ => False
theorem spk1_len {r} : ∀ ds M Q E, spk1 r ds M Q E → ds.length = 1 := fun ds M Q E h => by
  unfold spk1 at h; split at h <;> first | rfl | exact h.elim
theorem spk2_len {r} : ∀ ds M Q E, spk2 r ds M Q E → ds.length = 2 := fun ds M Q E h => by
  unfold spk2 at h; split at h <;> first | rfl | exact h.elim
theorem spk3_len {r} : ∀ ds M Q E, spk3 r ds M Q E → ds.length = 3 := fun ds M Q E h => by
  unfold spk3 at h; split at h <;> first | rfl | exact h.elim
theorem spk4_len {r} : ∀ ds M Q E, spk4 r ds M Q E → ds.length = 4 := fun ds M Q E h => by
  unfold spk4 at h; split at h <;> first | rfl | exact h.elim
theorem spk5_len {r} : ∀ ds M Q E, spk5 r ds M Q E → ds.length = 5 := fun ds M Q E h => by
  unfold spk5 at h; split at h <;> first | rfl | exact h.elim
/-- a def's reading, by its arguments -/
theorem rd1 {r : D → Mem → DK → DXK → Prop} {t : DTS} {N : Nat} (h : ∀ a M Q E, r a M Q E → t { nx := fun _ M' => QF Q .non M', rt := QF Q } (dstart N [a]) M) :
    ∀ ds M Q E, spk1 r ds M Q E → t { nx := fun _ M' => QF Q .non M', rt := QF Q } (dstart N ds) M := fun ds M Q E q => by
  unfold spk1 at q; split at q <;> first | exact h _ M Q E q | exact q.elim
theorem rd2 {r : D → D → Mem → DK → DXK → Prop} {t : DTS} {N : Nat} (h : ∀ a b M Q E, r a b M Q E → t { nx := fun _ M' => QF Q .non M', rt := QF Q } (dstart N [a, b]) M) :
    ∀ ds M Q E, spk2 r ds M Q E → t { nx := fun _ M' => QF Q .non M', rt := QF Q } (dstart N ds) M := fun ds M Q E q => by
  unfold spk2 at q; split at q <;> first | exact h _ _ M Q E q | exact q.elim
theorem rd3 {r : D → D → D → Mem → DK → DXK → Prop} {t : DTS} {N : Nat} (h : ∀ a b c M Q E, r a b c M Q E → t { nx := fun _ M' => QF Q .non M', rt := QF Q } (dstart N [a, b, c]) M) :
    ∀ ds M Q E, spk3 r ds M Q E → t { nx := fun _ M' => QF Q .non M', rt := QF Q } (dstart N ds) M := fun ds M Q E q => by
  unfold spk3 at q; split at q <;> first | exact h _ _ _ M Q E q | exact q.elim
theorem rd4 {r : D → D → D → D → Mem → DK → DXK → Prop} {t : DTS} {N : Nat} (h : ∀ a b c d M Q E, r a b c d M Q E → t { nx := fun _ M' => QF Q .non M', rt := QF Q } (dstart N [a, b, c, d]) M) :
    ∀ ds M Q E, spk4 r ds M Q E → t { nx := fun _ M' => QF Q .non M', rt := QF Q } (dstart N ds) M := fun ds M Q E q => by
  unfold spk4 at q; split at q <;> first | exact h _ _ _ _ M Q E q | exact q.elim
theorem rd5 {r : D → D → D → D → D → Mem → DK → DXK → Prop} {t : DTS} {N : Nat} (h : ∀ a b c d e M Q E, r a b c d e M Q E → t { nx := fun _ M' => QF Q .non M', rt := QF Q } (dstart N [a, b, c, d, e]) M) :
    ∀ ds M Q E, spk5 r ds M Q E → t { nx := fun _ M' => QF Q .non M', rt := QF Q } (dstart N ds) M := fun ds M Q E q => by
  unfold spk5 at q; split at q <;> first | exact h _ _ _ _ _ M Q E q | exact q.elim

/-- a test whose answer is known -/
theorem yes {A B : Prop} (h : A) : (true = true → A) ∧ (true = false → B) := ⟨fun _ => h, fun z => Bool.noConfusion z⟩
theorem no {A B : Prop} (h : B) : (false = true → A) ∧ (false = false → B) := ⟨fun z => Bool.noConfusion z, fun _ => h⟩
theorem sure {b : Bool} {A B : Prop} (e : b = true) (h : A) : (b = true → A) ∧ (b = false → B) := ⟨fun _ => h, fun z => by rw [e] at z; cases z⟩
theorem never {b : Bool} {A B : Prop} (e : b = false) (h : B) : (b = true → A) ∧ (b = false → B) := ⟨fun z => (by rw [e] at z; cases z), fun _ => h⟩
/-- by cases, the propositions as they stand -/
theorem byc {p : Prop} [Decidable p] {A B : Prop} (h1 : p → A) (h2 : ¬ p → B) : (decide p = true → A) ∧ (decide p = false → B) := ⟨fun z => h1 (of_decide_eq_true z), fun z => h2 (of_decide_eq_false z)⟩
theorem bync {p : Prop} [Decidable p] {A B : Prop} (h1 : ¬ p → A) (h2 : p → B) : ((!decide p) = true → A) ∧ ((!decide p) = false → B) := ⟨fun z => h1 (by simpa using z), fun z => h2 (by simpa using z)⟩
/-- lists of ints -/
theorem atI_ints {ns : List Int} {i : Int} (h0 : 0 ≤ i) (h1 : i < ns.length) : ∃ v, atI (ns.map D.int) i = some (.int v) := by
  obtain ⟨j, rfl⟩ : ∃ j : Nat, i = j := ⟨i.toNat, by omega⟩
  have hj : j < ns.length := by omega
  exact ⟨ns[j], atI_nat (by simp [hj])⟩

/-! ### cells that others leave alone -/
def Only (a : Addr) (M M' : Mem) : Prop := ∀ c, c ≠ a → M' c = M c
theorem Only.refl {a : Addr} {M : Mem} : Only a M M := fun _ _ => rfl
theorem Only.trans {a : Addr} {M M1 M2 : Mem} (h : Only a M M1) (g : Only a M1 M2) : Only a M M2 := fun c hc => (g c hc).trans (h c hc)
theorem Only.mset {a : Addr} {M M' : Mem} {o : CO} (h : Only a M M') : Only a M (mset M' a o) := fun c hc => by rw [mset_ne hc]; exact h c hc
theorem Only.at {a c : Addr} {M M' : Mem} {o : CO} (h : Only a M M') (hc : c ≠ a) (e : M c = some o) : M' c = some o := by rw [h c hc]; exact e

/-! ### the box of the draws -/
def BoxAt (M : Mem) (b : Addr) : Prop := ∃ l i : Int, M b = some (.lst [.int l, .int i]) ∧ 0 ≤ l ∧ 0 ≤ i
/-- what every draw leaves: the box, and all other cells -/
structure Drawn (b : Addr) (M M' : Mem) : Prop where
  box : BoxAt M' b
  only : Only b M M'
theorem Drawn.trans {b : Addr} {M M1 M2 : Mem} (h : Drawn b M M1) (g : Drawn b M1 M2) : Drawn b M M2 := ⟨g.box, h.only.trans g.only⟩
end DL

/-! DEqu: == of trees that hold neither bools nor cells is equality. -/
namespace DL
open PySem PySem.Spec PyProof.Rows L2
/-- a tree of None, ints, texts, tuples, lists, at most n deep -/
def Pure : Nat → D → Prop
  | _, .non => True
  | _, .int _ => True
  | _, .str s => PyData.strOk s = true
  | n + 1, .tup ds => ∀ d ∈ ds, Pure n d
  | n + 1, .lst ds => ∀ d ∈ ds, Pure n d
  | _, _ => False
theorem Pure.up : ∀ {n : Nat} {d : D}, Pure n d → Pure (n + 1) d
  | 0, .non, _ => trivial
  | 0, .int _, _ => trivial
  | 0, .str _, h => h
  | n + 1, .non, _ => trivial
  | n + 1, .int _, _ => trivial
  | n + 1, .str _, h => h
  | n + 1, .tup ds, h => fun d hd => Pure.up (n := n) (h d hd)
  | n + 1, .lst ds, h => fun d hd => Pure.up (n := n) (h d hd)
  | 0, .tup _, h => False.elim h
  | 0, .lst _, h => False.elim h
  | 0, .bl _, h => False.elim h
  | 0, .ty _, h => False.elim h
  | 0, .ref _, h => False.elim h
  | 0, .ro _, h => False.elim h
  | n + 1, .bl _, h => False.elim h
  | n + 1, .ty _, h => False.elim h
  | n + 1, .ref _, h => False.elim h
  | n + 1, .ro _, h => False.elim h
theorem Pure.le {n m : Nat} {d : D} (h : Pure n d) (l : n ≤ m) : Pure m d := by
  induction l with
  | refl => exact h
  | step _ ih => exact ih.up
/-- the data of a pure tree -/
def pyOf : Nat → D → PyData
  | _, .int i => .int i
  | _, .str s => .str s
  | n + 1, .tup ds => .tuple (ds.map (pyOf n))
  | n + 1, .lst ds => .list (ds.map (pyOf n))
  | _, _ => .none
theorem pyOf_ok {M : Mem} : ∀ {n : Nat} {d : D}, Pure n d → Py M d (pyOf n d) ∧ (pyOf n d).canLay0 = true ∧ (pyOf n d).depth ≤ n + 1 := by
  intro n
  induction n with
  | zero =>
    intro d h
    cases d with
    | non => exact ⟨.non, rfl, by decide⟩
    | int i => exact ⟨.int i, rfl, by show (PyData.int i).depth ≤ 1; simp [PyData.depth]⟩
    | str s => exact ⟨.str s, h, by show (PyData.str s).depth ≤ 1; simp [PyData.depth]⟩
    | _ => exact h.elim
  | succ n ih =>
    have all : ∀ {ds : List D}, (∀ d ∈ ds, Pure n d) → PyL M ds (ds.map (pyOf n)) ∧ PyData.canLayAll0 (ds.map (pyOf n)) = true ∧ PyData.depthAll (ds.map (pyOf n)) ≤ n + 1 := by
      intro ds
      induction ds with
      | nil => intro _; exact ⟨.nil, rfl, Nat.zero_le _⟩
      | cons d ds ihl =>
        intro h
        obtain ⟨a1, a2, a3⟩ := ih (h d (by simp))
        obtain ⟨b1, b2, b3⟩ := ihl fun e he => h e (by simp [he])
        refine ⟨.cons a1 b1, ?_, ?_⟩
        · show (PyData.canLay0 _ && PyData.canLayAll0 _) = true
          rw [a2, b2]
          rfl
        · show max _ _ ≤ n + 1
          exact Nat.max_le.mpr ⟨a3, b3⟩
    intro d h
    cases d with
    | non => exact ⟨.non, rfl, by show (PyData.none).depth ≤ _; simp [PyData.depth]⟩
    | int i => exact ⟨.int i, rfl, by show (PyData.int i).depth ≤ _; simp [PyData.depth]⟩
    | str s => exact ⟨.str s, h, by show (PyData.str s).depth ≤ _; simp [PyData.depth]⟩
    | tup ds =>
      obtain ⟨a, b, c⟩ := all h
      refine ⟨.tup a, b, ?_⟩
      show PyData.depth (.tuple _) ≤ _
      simp only [PyData.depth]
      omega
    | lst ds =>
      obtain ⟨a, b, c⟩ := all h
      refine ⟨.lst a, b, ?_⟩
      show PyData.depth (.list _) ≤ _
      simp only [PyData.depth]
      omega
    | _ => exact h.elim
theorem shaped_of {n : Nat} {d : D} {M : Mem} (h : Pure n d) (hn : n ≤ 63) : SeqAt.shaped (pyOf n d) = true := by
  obtain ⟨_, b, c⟩ := pyOf_ok (M := M) h
  unfold SeqAt.shaped
  rw [b, Bool.true_and]
  exact decide_eq_true (by omega)
theorem eqv_of : ∀ {n : Nat} {d e : D}, Pure n d → Pure n e → ((pyOf n d).eqv (pyOf n e) = true ↔ d = e) := by
  intro n
  induction n with
  | zero =>
    intro d e h g
    cases d <;> cases e <;> first | exact h.elim | exact g.elim | simp [pyOf, PyData.eqv]
  | succ n ih =>
    have all : ∀ {ds es : List D}, (∀ d ∈ ds, Pure n d) → (∀ d ∈ es, Pure n d) → (PyData.eqvAll (ds.map (pyOf n)) (es.map (pyOf n)) = true ↔ ds = es) := by
      intro ds
      induction ds with
      | nil => intro es _ _; cases es <;> simp [PyData.eqvAll]
      | cons d ds ihl =>
        intro es h g
        cases es with
        | nil => simp [PyData.eqvAll]
        | cons e es =>
          have h1 := ih (h d (by simp)) (g e (by simp))
          have h2 := ihl (es := es) (fun x hx => h x (by simp [hx])) (fun x hx => g x (by simp [hx]))
          simp only [List.map_cons, PyData.eqvAll, Bool.and_eq_true, h1, h2, List.cons.injEq]
    intro d e h g
    cases d <;> cases e <;> first
      | exact h.elim
      | exact g.elim
      | (simp only [pyOf, PyData.eqv, D.tup.injEq, D.lst.injEq]; exact all h g)
      | simp [pyOf, PyData.eqv]
/-- the answer of == -/
theorem dEq_pure {n : Nat} {x y : D} {M : Mem} {Q : DK} (h : Pure n x) (g : Pure n y) (hn : n ≤ 63) (k : ∀ b : Bool, (b = true ↔ x = y) → Q (.bl b) M) : dEq x y M Q := by
  have main : ∃ p q, Py M x p ∧ Py M y q ∧ SeqAt.shaped p = true ∧ SeqAt.shaped q = true ∧ Q (.bl (PyData.eqv p q)) M :=
    ⟨_, _, (pyOf_ok h).1, (pyOf_ok g).1, shaped_of (M := M) h hn, shaped_of (M := M) g hn, k _ (eqv_of h g)⟩
  unfold dEq
  split
  · exact k _ (by simp)
  · exact k _ (by simp)
  · exact k _ (by simp)
  · exact main
theorem dNe_pure {n : Nat} {x y : D} {M : Mem} {Q : DK} (h : Pure n x) (g : Pure n y) (hn : n ≤ 63) (k : ∀ b : Bool, (b = true ↔ x = y) → Q (.bl (!b)) M) : dNe x y M Q := by
  have main : ∃ p q, Py M x p ∧ Py M y q ∧ SeqAt.shaped p = true ∧ SeqAt.shaped q = true ∧ Q (.bl (!PyData.eqv p q)) M :=
    ⟨_, _, (pyOf_ok h).1, (pyOf_ok g).1, shaped_of (M := M) h hn, shaped_of (M := M) g hn, k _ (eqv_of h g)⟩
  unfold dNe
  split
  · exact k _ (by simp)
  · exact k _ (by simp)
  · exact k _ (by simp)
  · exact main
/-- .. where a list may stand in a cell -/
theorem py_cell {a : Addr} {n : Nat} {ds : List D} {M : Mem} (hm : M a = some (.lst ds)) (h : Pure n (.lst ds)) : Py M (.ref a) (pyOf n (.lst ds)) := by
  cases n with
  | zero => exact h.elim
  | succ n =>
    have := (pyOf_ok (M := M) h).1
    cases this with
    | lst l => exact .ref hm l
theorem dNe_cellR {n : Nat} {a : Addr} {xs ds : List D} {M : Mem} {Q : DK} (hm : M a = some (.lst ds)) (h : Pure n (.lst xs)) (g : Pure n (.lst ds)) (hn : n ≤ 63) (k : ∀ b : Bool, (b = true ↔ xs = ds) → Q (.bl (!b)) M) : dNe (.lst xs) (.ref a) M Q :=
  ⟨_, _, (pyOf_ok h).1, py_cell hm g, shaped_of (M := M) h hn, shaped_of (M := M) g hn, k _ (by rw [eqv_of h g]; simp)⟩
theorem dNe_cellL {n : Nat} {a : Addr} {xs ds : List D} {M : Mem} {Q : DK} (hm : M a = some (.lst xs)) (h : Pure n (.lst xs)) (g : Pure n (.lst ds)) (hn : n ≤ 63) (k : ∀ b : Bool, (b = true ↔ xs = ds) → Q (.bl (!b)) M) : dNe (.ref a) (.lst ds) M Q :=
  ⟨_, _, py_cell hm h, (pyOf_ok g).1, shaped_of (M := M) h hn, shaped_of (M := M) g hn, k _ (by rw [eqv_of h g]; simp)⟩
theorem pure_ints {ns : List Int} {n : Nat} : Pure (n + 1) (.lst (ns.map D.int)) := fun d hd => by
  obtain ⟨i, _, rfl⟩ := List.mem_map.mp hd
  cases n <;> trivial
theorem pure_row {ns : List Int} {n : Nat} : Pure (n + 1) (.tup (ns.map D.int)) := fun d hd => by
  obtain ⟨i, _, rfl⟩ := List.mem_map.mp hd
  cases n <;> trivial
theorem map_int_inj : ∀ {a b : List Int}, a.map D.int = b.map D.int → a = b
  | [], [], _ => rfl
  | [], _ :: _, h => by simp at h
  | _ :: _, [], h => by simp at h
  | x :: xs, y :: ys, h => by
    simp only [List.map_cons, List.cons.injEq, D.int.injEq] at h
    rw [h.1, map_int_inj h.2]
/-! ### of sequences of any kind -/
theorem dLen_seq {x : D} {M : Mem} {ds : List D} {Q : DK} (h : Seq x M ds) (q : Q (.int ds.length) M) : dLen x M Q := by
  rcases h with rfl | rfl | rfl | ⟨a, rfl, hm⟩
  · exact q
  · exact q
  · exact q
  · exact ⟨ds, hm, q⟩
theorem dIx_seq {x : D} {M : Mem} {ds : List D} {i : Int} {d : D} {Q : DK} (h : Seq x M ds) (hd : atI ds i = some d) (q : Q d M) : dIx x (.int i) M Q := by
  rcases h with rfl | rfl | rfl | ⟨a, rfl, hm⟩
  · exact ⟨d, hd, q⟩
  · exact ⟨d, hd, q⟩
  · exact ⟨d, hd, q⟩
  · exact ⟨ds, d, hm, hd, q⟩
theorem Seq.lst {ds : List D} {M : Mem} : Seq (.lst ds) M ds := .inl rfl
theorem Seq.tup {ds : List D} {M : Mem} : Seq (.tup ds) M ds := .inr (.inl rfl)
theorem Seq.cell {a : Addr} {ds : List D} {M : Mem} (h : M a = some (.lst ds)) : Seq (.ref a) M ds := .inr (.inr (.inr ⟨a, rfl, h⟩))
/-! ### a law's promise -/
@[irreducible] def S_law (s : D) (_ : Mem) (Q : DK) (_ : DXK) : Prop := ∃ ns : List Int, s = .ro (ns.map D.int) ∧ ns.length ≤ 63 ∧ ∀ M', Q (.bl true) M'
@[reducible] def sp_law : DSp := spk1 S_law
/-- at the law's start the script stands alone -/
theorem law_start {K : PySem.W.Frag} {H : Hp} {a : Addr} {ns : List Int} (hl : ns.length ≤ 63) (hS : SqL K H a (ns.map V.int)) : liftSp K sp_law [.ref a] H (fun v _ => v = .bl true) fun _ _ _ => False := by
  refine ⟨fun _ => none, H, fun _ => none, [.ro (ns.map D.int)], fun d _ => d = .bl true, fun _ _ _ => False, ⟨Same.refl _, (fun _ _ z => nomatch z), (fun _ _ z => nomatch z)⟩, .cons (.ro hS IsL.ofInts) .nil, ?_, ?_, fun _ _ _ _ _ _ z => z.elim⟩
  · show S_law _ _ _ _
    unfold S_law
    exact ⟨ns, rfl, hl, fun _ => rfl⟩
  · rintro d _ v _ _ rfl _ _ i
    cases i
    rfl
theorem ex_none {P : Program} {w : World} {o : List Env} {H : Hp} {s : Shared} {e : Value} {s' : Shared} (z : EX P w o H s (fun _ _ _ => False) e s') : False := by
  obtain ⟨_, _, _, _, _, _, _, _, _, _, _, _, h⟩ := z
  exact h
/-- a law lets nothing out -/
theorem fn_quiet {P : Program} {w : World} {K : PySem.W.Frag} {mg : PySem.Str → Option Value} {base : Heap} {k : Nat} {f : Addr} {fd : FuncData} {ps : List PySem.Str} {sp : Sp} (F : FnOk P w K mg base (EX P w) k f fd ps sp)
    (h : ∀ vs H Q E, sp vs H Q E → sp vs H Q fun _ _ _ => False) : FnOk P w K mg base CX0 k f fd ps sp :=
  ⟨F.len, fun A outer s H args us vs Q E hr e0 hb hv hs => codeAny_mono (F.run A outer s H args us vs Q _ hr e0 hb hv (h vs H Q E hs)) fun r s' z => by
    cases r with
    | ok r => cases r <;> exact z
    | error e => exact (ex_none z).elim⟩
theorem law_quiet {K : PySem.W.Frag} : ∀ vs H Q E, liftSp K sp_law vs H Q E → liftSp K sp_law vs H Q fun _ _ _ => False := fun vs H Q E h => by
  obtain ⟨F, S, M, ds, QD, ED, r, l, h, kq, ke⟩ := h
  refine ⟨F, S, M, ds, QD, fun _ _ _ => False, r, l, ?_, kq, fun _ _ _ _ _ _ z => z.elim⟩
  have e : ds.length = 1 := spk1_len _ _ _ _ h
  match ds, e with
  | [d], _ =>
    show S_law _ _ _ _
    have h : S_law _ _ _ _ := h
    unfold S_law at h ⊢
    exact h
end DL

/-! DText: written forms of integers. -/
namespace DL
open PySem PySem.Spec PyProof.Rows L2 TL
theorem mulW {i j : Int} {a b : Nat} (ha : i.natAbs < 2 ^ a) (hb : j.natAbs < 2 ^ b) (h0 : 0 < a) (h1 : 0 < b) (h : a + b ≤ 1000000) : MulOk i j := .inr (wide_mul ha hb h0 h1 h)
theorem mulL {i j : Int} (h0 : -(2 ^ 64) < i) (h1 : i < 2 ^ 64) : MulOk i j := .inl (.inl ⟨h0, h1⟩)
/-- the written form -/
@[reducible] def numT (i : Int) : PySem.Str := PySem.Str.ofString (toString i)
def intL (i : Int) : List Nat := if i < 0 then 45 :: numL i.natAbs else numL i.natAbs
theorem tl_int (i : Int) : tl (numT i) = intL i := by
  cases i with
  | ofNat n =>
    have e : intL (Int.ofNat n) = numL n := if_neg (by simp)
    rw [e]
    exact tl_num n
  | negSucc n =>
    have e : intL (Int.negSucc n) = 45 :: numL (n + 1) := if_pos (Int.negSucc_lt_zero n)
    rw [e, tl_ofString]
    have s : toString (Int.negSucc n) = "-" ++ toString (n + 1) := rfl
    rw [s, String.toList_append, List.map_append]
    have t := tl_num (n + 1)
    rw [tl_ofString] at t
    rw [show (toString (n + 1)) = toString (((n + 1 : Nat)) : Int) from rfl, t]
    rfl
theorem digit_at {d : Int} (h0 : 0 ≤ d) (h1 : d < 10) : atI ("0123456789" : PySem.Str).cps.toList d = some (48 + d.toNat) := by
  have h : ∀ k : _root_.Fin 10, atI ("0123456789" : PySem.Str).cps.toList ((k.val : Nat) : Int) = some (48 + k.val) := by decide +kernel
  have := h ⟨d.toNat, by omega⟩
  have e : ((d.toNat : Nat) : Int) = d := by omega
  rw [e] at this
  exact this
theorem intL_len {i : Int} (h : i.natAbs < 10 ^ 60) : (intL i).length ≤ 61 := by
  unfold intL
  have := numL_len (n := i.natAbs) (k := 60) (by decide) h
  split
  · simp; omega
  · omega
end DL

/-! DMore: walks over lists, tuples, texts. -/
namespace DL
open PySem PySem.Spec PyProof.Rows L2
/-! ### a list, a tuple or a text is walked -/
def iAny (K : PySem.W.Frag) (tl : TE) : TI := fun σ H R => tl σ H fun x H1 => (∃ a, x = .ref a ∧ (∃ xs, SqL K H1 a xs) ∧ R (Itl K a) H1) ∨ (∃ a, x = .ref a ∧ (∃ xs, SqT K H1 a xs) ∧ R (Itt K a) H1) ∨ ∃ x', x = .str x' ∧ R (Its x') H1
theorem pi_any {X : Cx} {tg l : Expr} {tl : TE} (hl : PE X l tl) : PI X tg l (iAny X.K tl) := by
  refine ⟨fun pins s σ H R I h => ?_⟩
  refine thn (hl.run pins s σ H _ I h) fun v s1 ⟨x, H1, I1, r1, q1⟩ => ?_
  have fp : ∀ b ∈ [s1.heap.objs.size], _ := fun b hb => by
    have e : b = s1.heap.objs.size := by simpa using hb
    subst e
    exact I1.fpOk (Nat.le_refl _) (I1.hok.fresh (Nat.le_refl _))
  rcases q1 with ⟨a, e, ⟨xs, hq⟩, q⟩ | ⟨a, e, ⟨xs, hq⟩, q⟩ | ⟨y, e, q⟩
  · subst e
    cases r1
    obtain ⟨its, rv, p, hz⟩ := I1.list hq
    refine wpAny_pyIter_list p.isList ?_
    exact ⟨s1.heap.objs.size, [s1.heap.objs.size], _, _, H1, rfl, I1.kept (t' := s1.toks) fun b o e => Heap.get?_push_of_some _ e, turn_list a _, ⟨_, Heap.get?_push_size _ rfl, rfl, rfl⟩, fp, q⟩
  · subst e
    cases r1
    obtain ⟨its, rv, p, hz⟩ := I1.tuple hq
    refine wpAny_pyIter_tuple (show s1.heap.IsTuple a its.toArray from p) ?_
    exact ⟨s1.heap.objs.size, [s1.heap.objs.size], _, _, H1, rfl, I1.kept (t' := s1.toks) fun b o e => Heap.get?_push_of_some _ e, turn_tuple a _, ⟨_, Heap.get?_push_size _ rfl, rfl, rfl⟩, fp, q⟩
  · subst e
    obtain ⟨t, rfl⟩ := r1
    cases ha : y.cps.all (· < 128)
    · exact wpAny_pyIter_wide ha (pi_one (tk := s1.toks) I1 _ (turn_str _ y t "str_iterator" (.inr rfl)) ⟨_, Heap.get?_push_size _ rfl, rfl, rfl⟩ q)
    · exact wpAny_pyIter_ascii ha (pi_one (tk := s1.toks) I1 _ (turn_str _ y t "str_ascii_iterator" (.inl rfl)) ⟨_, Heap.get?_push_size _ rfl, rfl, rfl⟩ q)
/-- the characters of a text -/
def chD (s : PySem.Str) : List D := s.cps.toList.map fun c => D.str ⟨#[c]⟩
theorem iter_str {K : PySem.W.Frag} {F S : Hp} {x : PySem.Str} : IterOf K F S none (Its x) (chD x) where
  go := fun i S1 M H e r _ hi => by
    show i < x.cps.size
    simpa [chD] using hi
  stop := fun i S1 M H e r _ hi => by
    show x.cps.size ≤ i
    simpa [chD] using hi
  yld := fun i S1 M H v H' e r _ hi y => by
    obtain ⟨rfl, c, hc, rfl⟩ := y
    refine ⟨S1, .str ⟨#[c]⟩, Same.refl _, r, ?_, .str _⟩
    simp only [chD, List.getElem?_map, Array.getElem?_toList, hc, Option.map_some]
def dSeqOf (x : D) (M : Mem) (Q : List D → DGd → Mem → Prop) : Prop := match x with
  | .lst ds => Q ds none M
  | .ro ds => Q ds none M
  | .tup ds => Q ds none M
  | .str s => Q (chD s) none M
  | .ref a => ∃ ds, M a = some (.lst ds) ∧ Q ds (some fun M' => M' a = some (.lst ds)) M
  | _ => False
@[reducible] def diSeq (te : DTE) : DTI := fun σ M Q => te σ M fun x M1 => dSeqOf x M1 Q
section
variable {X : Cx} {g : Gr} {tg l : Expr} {tl : DTE}
theorem di_seq (hl : DE X g l tl) : DI X g tg l (diSeq tl) := by
  refine ⟨pi_imp (pi_any hl.run) fun σ H R h => ?_⟩
  obtain ⟨S, M, sd, QD, a, q, k⟩ := h
  refine ⟨S, M, sd, _, a, q, fun d M1 v S1 H1 q1 e1 r1 i1 => ?_⟩
  have main : ∀ {b : Addr} {vs : List V} {ds : List D}, SqL X.K S1 b vs → IsL X.K S1 vs ds → QD ds none M1 → (∃ xs, SqL X.K H1 b xs) ∧ R (Itl X.K b) H1 := fun {b vs ds} s l q =>
    ⟨⟨vs, r1.same.seq s⟩, k ds none M1 S1 H1 _ q e1 r1 fun F _ => ⟨fun i S2 M H e r _ hi => by
      have hl := l.length
      exact ⟨vs, vs[i]'(by omega), (e.trans r.same).seq s, by simp⟩,
      fun i S2 M H e r _ hi => ⟨vs, (e.trans r.same).seq s, by rw [l.length]; exact hi⟩,
      fun i S2 M H x H' e r _ hi y => by
        obtain ⟨rfl, y⟩ := y
        have hx := y vs ((e.trans r.same).seq s)
        obtain ⟨d, hd, id⟩ := l.get' hx
        exact ⟨S2, d, Same.refl _, r, hd, id.mono e⟩⟩⟩
  cases i1 with
  | lst s l => exact .inl ⟨_, rfl, main (SqL.of s) l q1⟩
  | ro s l => exact .inl ⟨_, rfl, main s l q1⟩
  | @tup b vs ds s l =>
    exact .inr (.inl ⟨b, rfl, ⟨vs, sqT_mono r1.same s⟩, k ds none M1 S1 H1 _ q1 e1 r1 fun F _ => ⟨fun i S2 M H e r _ hi => by
      have hl := l.length
      exact ⟨vs, vs[i]'(by omega), sqT_mono (e.trans r.same) s, by simp⟩,
      fun i S2 M H e r _ hi => ⟨vs, sqT_mono (e.trans r.same) s, by rw [l.length]; exact hi⟩,
      fun i S2 M H x H' e r _ hi y => by
        obtain ⟨rfl, y⟩ := y
        have hx := y vs (sqT_mono (e.trans r.same) s)
        obtain ⟨d, hd, id⟩ := l.get' hx
        exact ⟨S2, d, Same.refl _, r, hd, id.mono e⟩⟩⟩)
  | ref b =>
    obtain ⟨ds, hm, q⟩ := q1
    obtain ⟨_, vs, hv, l⟩ := r1.cell b _ hm
    refine .inl ⟨b, rfl, ⟨vs, SqL.of hv⟩, k ds _ M1 S1 H1 _ q e1 r1 fun F _ => ⟨fun i S2 M H e r c hi => ?_, fun i S2 M H e r c hi => ?_, fun i S2 M H x H' e r c hi y => ?_⟩⟩
    · obtain ⟨_, ws, hw, l2⟩ := r.cell b _ c
      have hl := l2.length
      exact ⟨ws, ws[i]'(by omega), SqL.of hw, by simp⟩
    · obtain ⟨_, ws, hw, l2⟩ := r.cell b _ c
      exact ⟨ws, SqL.of hw, by rw [l2.length]; exact hi⟩
    · obtain ⟨_, ws, hw, l2⟩ := r.cell b _ c
      obtain ⟨rfl, y⟩ := y
      have hx := y ws (SqL.of hw)
      obtain ⟨d, hd, id⟩ := l2.get' hx
      exact ⟨S2, d, Same.refl _, r, hd, id⟩
  | str x => exact .inr (.inr ⟨x, rfl, k _ none M1 S1 H1 _ q1 e1 r1 fun F _ => iter_str⟩)
  | _ => exact q1.elim
end
/-- a new list is handed out: the caller takes it as one that never changes, or as a cell -/
def FL (Q : DK) (M : Mem) (ds : List D) : Prop := Q (.lst ds) M ∨ ∀ p, M p = none → Q (.ref p) (mset M p (.lst ds))
theorem fl_ret {Q : DK} {M : Mem} {ds : List D} {p : Addr} (h : FL Q M ds) (hp : M p = none) : QF Q (.ref p) (mset M p (.lst ds)) := by
  rcases h with h | h
  · exact qf_frz mset_same (fun a co e => ⟨mne e hp, by rw [mset_ne (mne e hp)]; exact e⟩) h
  · exact qf_same (h p hp)
/-- .. where more cells of one's own are forgotten -/
theorem fl_cell {Q : DK} {M M' : Mem} {ds : List D} {p : Addr} (h : FL Q M ds) (hp : M p = none) (hm : M' p = some (.lst ds)) (hs : ∀ a co, M a = some co → M' a = some co) : QF Q (.ref p) M' := by
  rcases h with h | h
  · exact qf_frz hm (fun a co e => ⟨mne e hp, hs a co e⟩) h
  · refine qf_less (fun a co e => ?_) (h p hp)
    by_cases hap : a = p
    · subst hap
      rw [mset_same] at e
      cases e
      exact hm
    · rw [mset_ne hap] at e
      exact hs a co e
theorem LstOf.py {n : Nat} {x : D} {ds : List D} {M : Mem} (h : LstOf x M ds) (p : Pure n (.lst ds)) : Py M x (pyOf n (.lst ds)) := by
  rcases h with rfl | ⟨a, rfl, hm⟩
  · exact (pyOf_ok p).1
  · exact py_cell hm p
theorem dEq_lists {n : Nat} {x y : D} {xs ys : List D} {M : Mem} {Q : DK} (h : LstOf x M xs) (g : LstOf y M ys) (p : Pure n (.lst xs)) (q : Pure n (.lst ys)) (hn : n ≤ 63) (k : ∀ b : Bool, (b = true ↔ xs = ys) → Q (.bl b) M) : dEq x y M Q := by
  have main : ∃ p q, Py M x p ∧ Py M y q ∧ SeqAt.shaped p = true ∧ SeqAt.shaped q = true ∧ Q (.bl (PyData.eqv p q)) M :=
    ⟨_, _, h.py p, g.py q, shaped_of (M := M) p hn, shaped_of (M := M) q hn, k _ (by rw [eqv_of p q]; simp)⟩
  rcases h with rfl | ⟨a, rfl, hm⟩ <;> rcases g with rfl | ⟨b, rfl, hm'⟩ <;> exact main
theorem dNe_lists {n : Nat} {x y : D} {xs ys : List D} {M : Mem} {Q : DK} (h : LstOf x M xs) (g : LstOf y M ys) (p : Pure n (.lst xs)) (q : Pure n (.lst ys)) (hn : n ≤ 63) (k : ∀ b : Bool, (b = true ↔ xs = ys) → Q (.bl (!b)) M) : dNe x y M Q := by
  have main : ∃ p q, Py M x p ∧ Py M y q ∧ SeqAt.shaped p = true ∧ SeqAt.shaped q = true ∧ Q (.bl (!PyData.eqv p q)) M :=
    ⟨_, _, h.py p, g.py q, shaped_of (M := M) p hn, shaped_of (M := M) q hn, k _ (by rw [eqv_of p q]; simp)⟩
  rcases h with rfl | ⟨a, rfl, hm⟩ <;> rcases g with rfl | ⟨b, rfl, hm'⟩ <;> exact main
theorem LstOf.seq {x : D} {M : Mem} {ds : List D} (h : LstOf x M ds) : Seq x M ds := h.elim .inl fun ⟨a, e, hm⟩ => .inr (.inr (.inr ⟨a, e, hm⟩))
theorem LstOf.ty {x : D} {M : Mem} {ds : List D} (h : LstOf x M ds) : TyD M x .li := by
  rcases h with rfl | ⟨a, rfl, hm⟩
  · exact .lst _
  · exact .ref hm
theorem LstOf.lst {ds : List D} {M : Mem} : LstOf (.lst ds) M ds := .inl rfl
theorem LstOf.cell {a : Addr} {ds : List D} {M : Mem} (h : M a = some (.lst ds)) : LstOf (.ref a) M ds := .inr ⟨a, rfl, h⟩
/-- a walk over a list of any kind: no turn changes it -/
theorem dSeqOf_list {x : D} {M : Mem} {ds : List D} {Q : List D → DGd → Mem → Prop} (h : LstOf x M ds) (q : ∀ C : DGd, C.ok M → (C = none ∨ ∃ a, x = .ref a ∧ C = some fun M' => M' a = some (.lst ds)) → Q ds C M) : dSeqOf x M Q := by
  rcases h with rfl | ⟨a, rfl, hm⟩
  · exact q none trivial (.inl rfl)
  · exact ⟨ds, hm, q _ hm (.inr ⟨a, rfl, rfl⟩)⟩
/-- .. of a loop, of a comprehension -/
theorem for_list {x : D} {M : Mem} {ds : List D} {gt : DTG} {tb : DTS} {E : DEnds} {σ : DSt} (h : LstOf x M ds) (Pv : Nat → DSt → Mem → Prop) (keep : ∀ i σ M', Pv i σ M' → LstOf x M' ds) (t : dTurns gt tb E ds σ M Pv) :
    dSeqOf x M fun ds C M1 => match C with
      | none => ∃ Pv : Nat → DSt → Mem → Prop, dTurns gt tb E ds σ M1 Pv
      | some c => ∃ Pv : Nat → DSt → Mem → Prop, (∀ i σ M, Pv i σ M → c M) ∧ dTurns gt tb E ds σ M1 Pv := by
  rcases h with rfl | ⟨a, rfl, hm⟩
  · exact ⟨Pv, t⟩
  · refine ⟨ds, hm, Pv, fun i σ M' p => ?_, t⟩
    rcases keep i σ M' p with e | ⟨b, e, hb⟩
    · cases e
    · cases e; exact hb
theorem comp_list {x : D} {M : Mem} {ds : List D} {tg : Tg} {tt : DTT} {te : DTE} {vs : List Nat} {Q : List D → Mem → Prop} {σ : DSt} (h : LstOf x M ds) (hz : ds.length ≤ sizeLine) (Pv : Nat → List D → Mem → Prop) (keep : ∀ i acc M', Pv i acc M' → LstOf x M' ds) (t : dGoes tg tt te vs Q ds σ M Pv) :
    dSeqOf x M fun ds C M1 => ds.length ≤ sizeLine ∧ match C with
      | none => ∃ Pv : Nat → List D → Mem → Prop, dGoes tg tt te vs Q ds σ M1 Pv
      | some c => ∃ Pv : Nat → List D → Mem → Prop, (∀ i acc M, Pv i acc M → c M) ∧ dGoes tg tt te vs Q ds σ M1 Pv := by
  rcases h with rfl | ⟨a, rfl, hm⟩
  · exact ⟨hz, Pv, t⟩
  · refine ⟨ds, hm, hz, Pv, fun i acc M' p => ?_, t⟩
    rcases keep i acc M' p with e | ⟨b, e, hb⟩
    · cases e
    · cases e; exact hb
/-- values that have a built-in type wherever they stand -/
def Typ (d : D) : Prop := ∃ t, ∀ M, TyD M d t
theorem typ_int (i : Int) : Typ (.int i) := ⟨_, fun _ => .int i⟩
theorem typ_bl (b : Bool) : Typ (.bl b) := ⟨_, fun _ => .bl b⟩
theorem typ_str (b : PySem.Str) : Typ (.str b) := ⟨_, fun _ => .str b⟩
theorem typ_non : Typ .non := ⟨_, fun _ => .non⟩
theorem typ_tup (ds : List D) : Typ (.tup ds) := ⟨_, fun _ => .tup ds⟩
theorem typ_lst (ds : List D) : Typ (.lst ds) := ⟨_, fun _ => .lst ds⟩
theorem typ_ints {ns : List Int} : ∀ d ∈ ns.map D.int, Typ d := fun d h => by
  obtain ⟨i, _, rfl⟩ := List.mem_map.mp h
  exact typ_int i
def isI : D → Bool
  | .int _ => true
  | _ => false
/-- a row of the width -/
def rowB (w : Int) : D → Bool
  | .tup ds => decide ((ds.length : Int) = w) && ds.all isI
  | _ => false
theorem all_isI {ns : List Int} : (ns.map D.int).all isI = true := by
  rw [List.all_eq_true]
  intro d h
  obtain ⟨i, _, rfl⟩ := List.mem_map.mp h
  rfl
theorem of_all_isI : ∀ {ds : List D}, ds.all isI = true → ∃ ns : List Int, ds = ns.map .int
  | [], _ => ⟨[], rfl⟩
  | d :: ds, h => by
    simp only [List.all_cons, Bool.and_eq_true] at h
    obtain ⟨ns, rfl⟩ := of_all_isI h.2
    cases d with
    | int i => exact ⟨i :: ns, rfl⟩
    | _ => exact absurd h.1 (by simp [isI])
end DL

/-! DMeth: methods of texts and of lists; x in y. -/
namespace DL
open PySem PySem.Spec PyProof.Rows L2
/-! ### methods of texts -/
abbrev DMS := PySem.Str → List D → Mem → DK → Prop
def liftMS (K : PySem.W.Frag) (r : DMS) : V → List V → Hp → VK → Prop := fun x xs H Q => ∃ F S M s ds, ∃ QD : DK, Rep K F S M H ∧ x = .str s ∧ IsL K S xs ds ∧ r s ds M QD ∧
  ∀ d M' v S' H', QD d M' → Same S S' → Rep K F S' M' H' → Is K S' v d → Q v H'
@[reducible] def dSM (r : DMS) (to : DTE) (t : DTA) : DTE := fun σ M Q => to σ M fun x M1 => match x with
  | .str s => t σ M1 fun ds M2 => r s ds M2 Q
  | _ => False
section
variable {X : Cx} {g : Gr} {o e : Expr} {es : List Expr} {to : DTE} {t : DTA} {apos cpos : Pos} {name : PySem.Str} {id : String} {r : DMS}
theorem de_sm (slot : Slot "str" name id) (hty : typeOf (.builtin id) = pure (.type "method_descriptor")) (hm : MtR X id (liftMS X.K r)) (ho : DE X g o to) (ha : DA X g (e :: es) t)
    (h : ∀ {to' : TE} {t' : TA}, PE X o to' → PA X (e :: es) t' → PE X (.Call (.Attribute o name apos) (e :: es) [] cpos) (tBM X.K "str" (liftMS X.K r) to' t')) : DE X g (.Call (.Attribute o name apos) (e :: es) [] cpos) (dSM r to t) := by
  refine ⟨pe_imp (h ho.run ha.run) fun σ H Q hh => ?_⟩
  obtain ⟨S, M, sd, QD, a, q, k⟩ := hh
  refine ⟨S, M, sd, _, a, q, fun d M1 v S1 H1 q1 e1 r1 i1 => ?_⟩
  cases i1 with
  | str s =>
    refine ⟨rfl, S1, M1, sd, _, a.step e1 r1, q1, fun ds M2 ws S2 H2 q2 e2 r2 i2 => ?_⟩
    exact ⟨g.F, S2, M2, s, ds, QD, r2, rfl, i2, q2, fun d M' v S' H' q' e' r' i' => k _ _ _ _ _ q' ((e1.trans e2).trans e') r' i'⟩
  | _ => exact q1.elim
theorem de_sm0 (slot : Slot "str" name id) (hty : typeOf (.builtin id) = pure (.type "method_descriptor")) (hm : MtR X id (liftMS X.K r)) (ho : DE X g o to)
    (h : ∀ {to' : TE}, PE X o to' → PE X (.Call (.Attribute o name apos) [] [] cpos) (tBM0 X.K "str" (liftMS X.K r) to')) : DE X g (.Call (.Attribute o name apos) [] [] cpos) (dSM r to dNil) := by
  refine ⟨pe_imp (h ho.run) fun σ H Q hh => ?_⟩
  obtain ⟨S, M, sd, QD, a, q, k⟩ := hh
  refine ⟨S, M, sd, _, a, q, fun d M1 v S1 H1 q1 e1 r1 i1 => ?_⟩
  cases i1 with
  | str s => exact ⟨rfl, g.F, S1, M1, s, [], QD, r1, rfl, .nil, q1, fun d M' v S' H' q' e' r' i' => k _ _ _ _ _ q' (e1.trans e') r' i'⟩
  | _ => exact q1.elim
end
/-- of a text and a text -/
def dS1 (f : PySem.Str → PySem.Str → D) : DMS := fun s ds M Q => match ds with
  | [.str b] => Q (f s b) M
  | _ => False
theorem dS1_inv {f : PySem.Str → PySem.Str → D} {s : PySem.Str} {ds : List D} {M : Mem} {Q : DK} (h : dS1 f s ds M Q) : ∃ b, ds = [.str b] ∧ Q (f s b) M := by
  unfold dS1 at h
  split at h
  · exact ⟨_, rfl, h⟩
  · exact h.elim
def dStarts : DMS := dS1 fun a b => .bl (Txt.startswith a b)
def dEnds : DMS := dS1 fun a b => .bl (Txt.endswith a b)
def dFind : DMS := dS1 fun a b => .int (Txt.find a b)
def dSplit : DMS := fun s ds M Q => ∃ b, ds = [.str b] ∧ (b.length == 0) = false ∧ s.length + 2 ≤ sizeLine ∧ Q (.lst ((Txt.split s b).map .str)) M
def dSplitC : DMS := fun s ds M Q => ∃ b, ds = [.str b] ∧ (b.length == 0) = false ∧ s.length + 2 ≤ sizeLine ∧ ∀ p, M p = none → Q (.ref p) (mset M p (.lst ((Txt.split s b).map .str)))
def dJoin : DMS := fun s ds M Q => ∃ (x : D) (ys : List PySem.Str), ds = [x] ∧ Seq x M (ys.map .str) ∧ (ys.map (·.length)).sum + ys.length * s.length ≤ 16777216 ∧ Q (.str (Txt.join s ys)) M
def dRjust : DMS := fun s ds M Q => ∃ i, ds = [.int i] ∧ PadOk i = true ∧ Q (.str (Txt.rjust s i)) M
section
variable {X : Cx}
theorem dmt1 {id : String} {f : PySem.Str → PySem.Str → D} {fv : PySem.Str → PySem.Str → V} (hf : ∀ K S a b, Is K S (fv a b) (f a b)) (h : MtR X id (fun x xs H Q => ∃ a b, x = .str a ∧ xs = [.str b] ∧ Q (fv a b) H)) : MtR X id (liftMS X.K (dS1 f)) := by
  intro pins s σ H x xs v us Q I rx rxs hh
  obtain ⟨F, S, M, z, ds, QD, rep, rfl, il, hr, hq⟩ := hh
  obtain ⟨b, rfl, q⟩ := dS1_inv hr
  obtain ⟨w, rfl, iw⟩ := isL1 il
  cases iw
  exact h pins s σ H _ _ v us Q I rx rxs ⟨z, b, rfl, rfl, hq _ _ _ S H q (Same.refl _) rep (hf _ _ _ _)⟩
theorem dmt_starts : MtR X "str.startswith" (liftMS X.K dStarts) := dmt1 (fun _ _ _ _ => .bl _) mt_startswith
theorem dmt_ends : MtR X "str.endswith" (liftMS X.K dEnds) := dmt1 (fun _ _ _ _ => .bl _) mt_endswith
theorem dmt_find : MtR X "str.find" (liftMS X.K dFind) := dmt1 (fun _ _ _ _ => .int _) mt_find
theorem dmt_split : MtR X "str.split" (liftMS X.K dSplit) := by
  intro pins s σ H x xs v us Q I rx rxs hh
  obtain ⟨F, S, M, z, ds, QD, rep, rfl, il, ⟨b, rfl, h1, h2, q⟩, hq⟩ := hh
  obtain ⟨w, rfl, iw⟩ := isL1 il
  cases iw
  refine mt_split pins s σ H _ _ v us Q I rx rxs ⟨z, b, rfl, rfl, h1, h2, fun p hp => ?_⟩
  have s1 : Same S (upd S p (.lst ((Txt.split z b).map V.str))) := same_upd (rep.freeS hp)
  exact hq _ M _ _ _ q s1 (rep.frozen hp) (.lst upd_same IsL.ofStrs)
theorem dmt_splitC : MtR X "str.split" (liftMS X.K dSplitC) := by
  intro pins s σ H x xs v us Q I rx rxs hh
  obtain ⟨F, S, M, z, ds, QD, rep, rfl, il, ⟨b, rfl, h1, h2, q⟩, hq⟩ := hh
  obtain ⟨w, rfl, iw⟩ := isL1 il
  cases iw
  refine mt_split pins s σ H _ _ v us Q I rx rxs ⟨z, b, rfl, rfl, h1, h2, fun p hp => ?_⟩
  exact hq _ _ _ S _ (q p (rep.freeM hp)) (Same.refl _) (rep.newCell hp ⟨_, upd_same, IsL.ofStrs⟩) (.ref p)
theorem dmt_join : MtR X "str.join" (liftMS X.K dJoin) := by
  intro pins s σ H x xs v us Q I rx rxs hh
  obtain ⟨F, S, M, z, ds, QD, rep, rfl, il, ⟨y, ys, rfl, sq, hz, q⟩, hq⟩ := hh
  obtain ⟨w, rfl, iw⟩ := isL1 il
  obtain ⟨p, vs, rfl, hs, l⟩ := sq.sq rep iw
  have e := l.strs
  subst e
  exact mt_join pins s σ H _ _ v us Q I rx rxs ⟨z, p, ys, rfl, rfl, hs, hz, hq _ _ _ S H q (Same.refl _) rep (.str _)⟩
theorem dmt_rjust : MtR X "str.rjust" (liftMS X.K dRjust) := by
  intro pins s σ H x xs v us Q I rx rxs hh
  obtain ⟨F, S, M, z, ds, QD, rep, rfl, il, ⟨i, rfl, hz, q⟩, hq⟩ := hh
  obtain ⟨w, rfl, iw⟩ := isL1 il
  cases iw
  exact mt_rjust pins s σ H _ _ v us Q I rx rxs ⟨z, i, rfl, rfl, hz, hq _ _ _ S H q (Same.refl _) rep (.str _)⟩
end
/-! ### methods of lists in cells -/
abbrev DML := Addr → List D → Mem → DK → Prop
def liftML (K : PySem.W.Frag) (r : DML) : V → List V → Hp → VK → Prop := fun x xs H Q => ∃ F S M a ds, ∃ QD : DK, Rep K F S M H ∧ x = .ref a ∧ IsL K S xs ds ∧ r a ds M QD ∧
  ∀ d M' v S' H', QD d M' → Same S S' → Rep K F S' M' H' → Is K S' v d → Q v H'
@[reducible] def dLM (r : DML) (to : DTE) (t : DTA) : DTE := fun σ M Q => to σ M fun x M1 => isCellL x M1 ∧ t σ M1 fun ds M2 => match x with
  | .ref a => r a ds M2 Q
  | _ => False
section
variable {X : Cx} {g : Gr} {o e : Expr} {es : List Expr} {to : DTE} {t : DTA} {apos cpos : Pos} {name : PySem.Str} {id : String} {r : DML}
theorem de_lm (ho : DE X g o to) (ha : DA X g (e :: es) t)
    (h : ∀ {to' : TE} {t' : TA}, PE X o to' → PA X (e :: es) t' → PE X (.Call (.Attribute o name apos) (e :: es) [] cpos) (tBM X.K "list" (liftML X.K r) to' t')) : DE X g (.Call (.Attribute o name apos) (e :: es) [] cpos) (dLM r to t) := by
  refine ⟨pe_imp (h ho.run ha.run) fun σ H Q hh => ?_⟩
  obtain ⟨S, M, sd, QD, a, q, k⟩ := hh
  refine ⟨S, M, sd, _, a, q, fun d M1 v S1 H1 q1 e1 r1 i1 => ?_⟩
  obtain ⟨⟨p, l, rfl, hm⟩, q1⟩ := q1
  cases i1
  obtain ⟨_, vs, hv, il⟩ := r1.cell p _ hm
  refine ⟨.inl ⟨rfl, vs, SqL.of hv⟩, S1, M1, sd, _, a.step e1 r1, q1, fun ds M2 ws S2 H2 q2 e2 r2 i2 => ?_⟩
  exact ⟨g.F, S2, M2, p, ds, QD, r2, rfl, i2, q2, fun d M' v S' H' q' e' r' i' => k _ _ _ _ _ q' ((e1.trans e2).trans e') r' i'⟩
theorem de_lm0 (ho : DE X g o to)
    (h : ∀ {to' : TE}, PE X o to' → PE X (.Call (.Attribute o name apos) [] [] cpos) (tBM0 X.K "list" (liftML X.K r) to')) : DE X g (.Call (.Attribute o name apos) [] [] cpos) (dLM r to dNil) := by
  refine ⟨pe_imp (h ho.run) fun σ H Q hh => ?_⟩
  obtain ⟨S, M, sd, QD, a, q, k⟩ := hh
  refine ⟨S, M, sd, _, a, q, fun d M1 v S1 H1 q1 e1 r1 i1 => ?_⟩
  obtain ⟨⟨p, l, rfl, hm⟩, q1⟩ := q1
  cases i1
  obtain ⟨_, vs, hv, il⟩ := r1.cell p _ hm
  exact ⟨.inl ⟨rfl, vs, SqL.of hv⟩, g.F, S1, M1, p, [], QD, r1, rfl, .nil, q1, fun d M' v S' H' q' e' r' i' => k _ _ _ _ _ q' (e1.trans e') r' i'⟩
end
def dPop : DML := fun a ds M Q => ∃ l y, ds = [] ∧ M a = some (.lst l) ∧ l[l.length - 1]? = some y ∧ Q y (mset M a (.lst l.dropLast))
def dPopAt : DML := fun a ds M Q => ∃ l i k y, ds = [.int i] ∧ M a = some (.lst l) ∧ -(2 ^ 63) ≤ i ∧ i < 2 ^ 63 ∧ seqIndex? i l.length = some k ∧ l[k]? = some y ∧ Q y (mset M a (.lst (l.eraseIdx k)))
def dInsert : DML := fun a ds M Q => ∃ l i y, ds = [.int i, y] ∧ M a = some (.lst l) ∧ l.length < sizeLine ∧ 0 ≤ i ∧ i < 2 ^ 63 ∧ Q .non (mset M a (.lst (l.take i.toNat ++ [y] ++ l.drop i.toNat)))
def dExtend : DML := fun a ds M Q => ∃ l x zs, ds = [x] ∧ M a = some (.lst l) ∧ LstOf x M zs ∧ l.length + zs.length ≤ sizeLine ∧ Q .non (mset M a (.lst (l ++ zs)))
theorem IsL.dropLast {K : PySem.W.Frag} {S : Hp} {ds : List D} {vs : List V} (l : IsL K S vs ds) : IsL K S vs.dropLast ds.dropLast := by
  rw [List.dropLast_eq_take, List.dropLast_eq_take, l.length]
  exact l.take _
theorem IsL.eraseIdx {K : PySem.W.Frag} {S : Hp} : ∀ {ds : List D} {vs : List V} (k : Nat), IsL K S vs ds → IsL K S (vs.eraseIdx k) (ds.eraseIdx k)
  | [], _, k, g => by cases g; exact .nil
  | _ :: _, _, 0, g => by
    cases g with
    | cons a b => exact b
  | _ :: _, _, k + 1, g => by
    cases g with
    | cons a b => exact .cons a (IsL.eraseIdx k b)
section
variable {X : Cx}
theorem dmt_pop : MtR X "list.pop" (liftML X.K dPop) := by
  intro pins s σ H x xs v us Q I rx rxs hh
  obtain ⟨F, S, M, a, ds, QD, rep, rfl, il, ⟨l, y, rfl, hm, hy, q⟩, hq⟩ := hh
  cases il
  obtain ⟨hS, vs, hv, l'⟩ := rep.cell a _ hm
  obtain ⟨w, hw, iw⟩ := l'.get hy
  refine mt_pop pins s σ H _ _ v us Q I rx rxs ⟨a, vs, w, rfl, rfl, hv, by rw [l'.length]; exact hw, ?_⟩
  have rw' := rep.write (o := .lst vs.dropLast) hm (co' := .lst l.dropLast) ⟨_, upd_same, l'.dropLast⟩
  exact hq _ _ _ S _ q (Same.refl _) rw' iw
theorem dmt_popAt : MtR X "list.pop" (liftML X.K dPopAt) := by
  intro pins s σ H x xs v us Q I rx rxs hh
  obtain ⟨F, S, M, a, ds, QD, rep, rfl, il, ⟨l, i, k, y, rfl, hm, h1, h2, hk, hy, q⟩, hq⟩ := hh
  obtain ⟨u, rfl, iu⟩ := isL1 il
  cases iu
  obtain ⟨hS, vs, hv, l'⟩ := rep.cell a _ hm
  obtain ⟨w, hw, iw⟩ := l'.get hy
  refine mt_popAt pins s σ H _ _ v us Q I rx rxs ⟨a, vs, i, k, w, rfl, rfl, hv, h1, h2, by rw [l'.length]; exact hk, hw, ?_⟩
  have rw' := rep.write (o := .lst (vs.eraseIdx k)) hm (co' := .lst (l.eraseIdx k)) ⟨_, upd_same, l'.eraseIdx k⟩
  exact hq _ _ _ S _ q (Same.refl _) rw' iw
theorem dmt_insert : MtR X "list.insert" (liftML X.K dInsert) := by
  intro pins s σ H x xs v us Q I rx rxs hh
  obtain ⟨F, S, M, a, ds, QD, rep, rfl, il, ⟨l, i, y, rfl, hm, hz, h1, h2, q⟩, hq⟩ := hh
  obtain ⟨u, w, rfl, iu, iw⟩ := isL2 il
  cases iu
  obtain ⟨hS, vs, hv, l'⟩ := rep.cell a _ hm
  refine mt_insert pins s σ H _ _ v us Q I rx rxs ⟨a, vs, i, w, rfl, rfl, hv, by rw [l'.length]; exact hz, h1, h2, ?_⟩
  have rw' := rep.write (o := .lst (vs.take i.toNat ++ [w] ++ vs.drop i.toNat)) hm (co' := .lst (l.take i.toNat ++ [y] ++ l.drop i.toNat)) ⟨_, upd_same, ((l'.take _).app (.one iw)).app (l'.drop _)⟩
  exact hq _ _ _ S _ q (Same.refl _) rw' .non
theorem dmt_extend : MtR X "list.extend" (liftML X.K dExtend) := by
  intro pins s σ H x xs v us Q I rx rxs hh
  obtain ⟨F, S, M, a, ds, QD, rep, rfl, il, ⟨l, y, zs, rfl, hm, hy, hz, q⟩, hq⟩ := hh
  obtain ⟨w, rfl, iw⟩ := isL1 il
  obtain ⟨hS, vs, hv, l'⟩ := rep.cell a _ hm
  obtain ⟨b, ws, rfl, hb, l2⟩ := hy.at rep iw
  refine mt_extend pins s σ H _ _ v us Q I rx rxs ⟨a, b, vs, ws, rfl, rfl, hv, hb, by rw [l'.length, l2.length]; exact hz, ?_⟩
  have rw' := rep.write (o := .lst (vs ++ ws)) hm (co' := .lst (l ++ zs)) ⟨_, upd_same, l'.app l2⟩
  exact hq _ _ _ S _ q (Same.refl _) rw' .non
/-! ### a sign in a text -/
def dInS : DR2 := fun x y M Q => ∃ (c : Nat) (z : PySem.Str), x = .str ⟨#[c]⟩ ∧ y = .str z ∧ Q (.bl (decide (c ∈ z.cps.toList))) M
def dNotInS : DR2 := fun x y M Q => ∃ (c : Nat) (z : PySem.Str), x = .str ⟨#[c]⟩ ∧ y = .str z ∧ Q (.bl (!decide (c ∈ z.cps.toList))) M
theorem dop_inS : OpR X (compareOp .In) (liftR2 X.K dInS) := by
  intro pins s σ H x y v u Q I rx ry h
  obtain ⟨F, S, M, dx, dy, QD, rep, ix, iy, ⟨c, z, rfl, rfl, hr⟩, hq⟩ := h
  cases ix
  cases iy
  exact op_in_sign pins s σ H _ _ v u Q I rx ry ⟨c, z, rfl, rfl, hq _ _ _ S H hr (Same.refl _) rep (.bl _)⟩
theorem dop_notInS : OpR X (compareOp .NotIn) (liftR2 X.K dNotInS) := by
  intro pins s σ H x y v u Q I rx ry h
  obtain ⟨F, S, M, dx, dy, QD, rep, ix, iy, ⟨c, z, rfl, rfl, hr⟩, hq⟩ := h
  cases ix
  cases iy
  exact op_notIn_sign pins s σ H _ _ v u Q I rx ry ⟨c, z, rfl, rfl, hq _ _ _ S H hr (Same.refl _) rep (.bl _)⟩
/-- int(text) -/
def dIntS : DR1 := fun x M Q => ∃ a n, x = .str a ∧ PySem.intText? a = some n ∧ a.length ≤ 640 ∧ Q (.int n) M
theorem dcall_intS : CallR X (.type "int") (liftRL X.K (r1 dIntS)) := call1 call_int_str fun {F S H M x d QD Q} rep i hr hq => by
  obtain ⟨a, n, rfl, h1, h2, q⟩ := hr
  cases i
  exact ⟨a, n, rfl, h1, h2, hq _ _ _ S H q (Same.refl _) rep (.int _)⟩
end
end DL

/-! DNum: written forms are read. -/
namespace DL
open PySem PySem.Spec PyProof.Rows L2 TL
/-! ### texts as lists of signs -/
theorem starts_tl (x y : PySem.Str) : Txt.startswith x y = pre (tl y) (tl x) := by
  unfold Txt.startswith
  rw [StrLaws.subAt_eq, Bool.eq_iff_iff]
  simp only [Bool.and_eq_true, decide_eq_true_eq, pre, List.drop_zero]
  rw [len_tl, len_tl x]
  constructor
  · exact fun h => h.2
  · intro h
    refine ⟨?_, h⟩
    have e := congrArg List.length (eq_of_beq h)
    rw [List.length_take] at e
    omega
theorem starts_one {x : PySem.Str} {c : Nat} {y : PySem.Str} (hy : tl y = [c]) : Txt.startswith x y = decide ((tl x).head? = some c) := by
  rw [starts_tl, hy, pre]
  cases tl x with
  | nil => rfl
  | cons d r =>
    simp only [List.length_singleton, List.take_succ_cons, List.take_zero, List.head?_cons, Option.some.injEq]
    rw [Bool.eq_iff_iff, decide_eq_true_eq]
    simp
theorem tl_cut (z : PySem.Str) (lo hi : Option Int) : tl (cutS z lo hi) = ((tl z).drop (HT.sIx (tl z).length 0 lo)).take (HT.sIx (tl z).length (tl z).length hi - HT.sIx (tl z).length 0 lo) := by
  unfold cutS
  rw [len_tl z]
theorem tl_from (z : PySem.Str) (k : Nat) : tl (cutS z (some (k : Int)) none) = (tl z).drop k := by
  rw [tl_cut, HT.sIx_nat, HT.sIx_none]
  by_cases h : k ≤ (tl z).length
  · rw [Nat.min_eq_left h, List.take_of_length_le (by simp)]
  · rw [Nat.min_eq_right (by omega), List.drop_eq_nil_of_le (Nat.le_refl _), List.drop_eq_nil_of_le (by omega), List.take_nil]
theorem tl_upto (z : PySem.Str) (k : Nat) : tl (cutS z none (some (k : Int))) = (tl z).take k := by
  rw [tl_cut, HT.sIx_nat, HT.sIx_none, List.drop_zero, Nat.sub_zero]
  by_cases h : k ≤ (tl z).length
  · rw [Nat.min_eq_left h]
  · rw [Nat.min_eq_right (by omega), List.take_of_length_le (Nat.le_refl _), List.take_of_length_le (by omega)]
theorem str_eq {x y : PySem.Str} : x = y ↔ tl x = tl y := ⟨fun h => by rw [h], ext_tl⟩
theorem revInd {α : Type} {P : List α → Prop} (nil : P []) (snoc : ∀ l a, P l → P (l ++ [a])) (l : List α) : P l := by
  have h : ∀ m : List α, P m.reverse := by
    intro m
    induction m with
    | nil => exact nil
    | cons a m ih =>
      rw [List.reverse_cons]
      exact snoc _ _ ih
  have := h l.reverse
  rwa [List.reverse_reverse] at this
/-! ### values of digits -/
abbrev digs (l : List Nat) : Bool := l.all fun c => decide (48 ≤ c) && decide (c ≤ 57)
theorem digs_all {l : List Nat} (h : digs l = true) : NumText.AllDigits l := fun c hc => by
  have := List.all_eq_true.mp h c hc
  simpa using this
theorem digs_of {l : List Nat} (h : NumText.AllDigits l) : digs l = true := by
  refine List.all_eq_true.mpr fun c hc => ?_
  simpa using h c hc
theorem val_snoc (l : List Nat) (c : Nat) : NumText.digitsVal (l ++ [c]) = NumText.digitsVal l * 10 + (c - 48) := by
  unfold NumText.digitsVal
  rw [List.foldl_append]
  rfl
theorem val_lt : ∀ (l : List Nat), digs l = true → NumText.digitsVal l < 10 ^ l.length := by
  refine revInd (fun _ => by decide) fun l c ih => ?_
  · intro h
    have h1 : digs l = true ∧ digs [c] = true := by simpa [digs, List.all_append] using h
    have h2 : 48 ≤ c ∧ c ≤ 57 := by simpa [digs] using h1.2
    have := ih h1.1
    rw [val_snoc, List.length_append, List.length_singleton, Nat.pow_succ]
    omega
theorem num_of_val : ∀ (l : List Nat), digs l = true → l ≠ [] → (l.head? ≠ some 48 ∨ l = [48]) → numL (NumText.digitsVal l) = l ∧ (l.head? ≠ some 48 → 0 < NumText.digitsVal l) := by
  refine revInd (fun _ h => absurd rfl h) fun l c ih => ?_
  · intro h _ hh
    have h1 : digs l = true ∧ digs [c] = true := by simpa [digs, List.all_append] using h
    have h2 : 48 ≤ c ∧ c ≤ 57 := by simpa [digs] using h1.2
    rw [val_snoc]
    cases l with
    | nil =>
      have e : NumText.digitsVal [] * 10 + (c - 48) = c - 48 := by simp [NumText.digitsVal]
      rw [e]
      refine ⟨?_, fun h => ?_⟩
      · rw [numL_lt (by omega)]
        simp
        omega
      · have : c ≠ 48 := fun z => h (by rw [z]; rfl)
        omega
    | cons d r =>
      have hd : (d :: r).head? ≠ some 48 := by
        rcases hh with h | h
        · simpa using h
        · exact absurd (congrArg List.length h) (by simp)
      obtain ⟨i1, i2⟩ := ih h1.1 (by simp) (.inl hd)
      have hp := i2 hd
      refine ⟨?_, fun _ => by omega⟩
      rw [numL_step (by omega), show (NumText.digitsVal (d :: r) * 10 + (c - 48)) / 10 = NumText.digitsVal (d :: r) by omega, i1, show 48 + (NumText.digitsVal (d :: r) * 10 + (c - 48)) % 10 = c by omega]
/-! ### the integer that a text writes -/
def numOfL (l : List Nat) : Option Int :=
  if l.head? = some 45 then
    if 1 ≤ l.tail.length ∧ l.tail.length ≤ 60 ∧ digs l.tail = true ∧ l.tail.head? ≠ some 48 then some (-(NumText.digitsVal l.tail : Int)) else none
  else if 1 ≤ l.length ∧ l.length ≤ 60 ∧ digs l = true ∧ (l.head? ≠ some 48 ∨ l = [48]) then some (NumText.digitsVal l : Int) else none
def numOf (z : PySem.Str) : Option Int := numOfL (tl z)
def optI : Option Int → D
  | none => .non
  | some i => .int i
theorem ten60 {n k : Nat} (h : n < 10 ^ k) (hk : k ≤ 60) : n < 10 ^ 60 := Nat.lt_of_lt_of_le h (Nat.pow_le_pow_right (by decide) hk)
theorem intL_val {l : List Nat} {i : Int} (h : numOfL l = some i) : intL i = l ∧ i.natAbs < 10 ^ 60 := by
  unfold numOfL at h
  split at h
  · rename_i h0
    split at h
    · rename_i h1
      obtain ⟨a, b, c, d⟩ := h1
      injection h with h
      subst h
      have ne : l.tail ≠ [] := fun z => by rw [z] at a; simp at a
      obtain ⟨e1, e2⟩ := num_of_val _ c ne (.inl d)
      have hp := e2 d
      unfold intL
      rw [if_pos (by omega), show (-(NumText.digitsVal l.tail : Int)).natAbs = NumText.digitsVal l.tail by omega, e1]
      refine ⟨?_, ten60 (val_lt _ c) b⟩
      cases l with
      | nil => cases h0
      | cons x r => injection h0 with h0; rw [h0]; rfl
    · cases h
  · split at h
    · rename_i h1
      obtain ⟨a, b, c, d⟩ := h1
      injection h with h
      subst h
      have ne : l ≠ [] := fun z => by rw [z] at a; simp at a
      obtain ⟨e1, e2⟩ := num_of_val _ c ne d
      unfold intL
      rw [if_neg (by omega), show ((NumText.digitsVal l : Int)).natAbs = NumText.digitsVal l by omega, e1]
      exact ⟨rfl, ten60 (val_lt _ c) b⟩
    · cases h
theorem numOf_text {z : PySem.Str} {i : Int} (h : numOf z = some i) : numT i = z := by
  rw [str_eq, tl_int]
  exact (intL_val h).1
theorem numOf_room {z : PySem.Str} {i : Int} (h : numOf z = some i) : i.natAbs < 10 ^ 60 := (intL_val h).2
theorem numL_pos {n : Nat} (h : 0 < n) : (numL n).head? ≠ some 48 := by
  induction n using Nat.strongRecOn with
  | _ n ih =>
    by_cases hn : n < 10
    · rw [numL_lt hn]
      simp
      omega
    · rw [numL_step (by omega), List.head?_append]
      have := ih (n / 10) (by omega) (by omega)
      cases e : (numL (n / 10)).head? with
      | none =>
        rw [List.head?_eq_none_iff] at e
        exact absurd e (numL_ne _)
      | some c => rw [e] at this; simpa using this
theorem numOfL_int {i : Int} (h : i.natAbs < 10 ^ 60) : numOfL (intL i) = some i := by
  have hl := numL_len (n := i.natAbs) (k := 60) (by decide) h
  have hne : 1 ≤ (numL i.natAbs).length := List.length_pos_iff.mpr (numL_ne _)
  have hd := digs_of (numL_digits i.natAbs)
  unfold numOfL intL
  by_cases hi : i < 0
  · rw [if_pos hi]
    refine (if_pos (show (45 :: numL i.natAbs).head? = some 45 from rfl)).trans ?_
    refine (if_pos (show _ ∧ _ ∧ _ ∧ _ from ⟨hne, hl, hd, numL_pos (by omega)⟩)).trans ?_
    show some (-(NumText.digitsVal (numL i.natAbs) : Int)) = some i
    rw [numL_val]
    congr 1
    omega
  · rw [if_neg hi]
    have h45 : (numL i.natAbs).head? ≠ some 45 := fun e => by
      have := numL_digits i.natAbs 45 (List.mem_of_mem_head? e)
      omega
    have hc : (numL i.natAbs).head? ≠ some 48 ∨ numL i.natAbs = [48] := by
      by_cases h0 : i.natAbs = 0
      · rw [h0]
        exact .inr (numL_lt (by decide))
      · exact .inl (numL_pos (by omega))
    refine (if_neg h45).trans ((if_pos (show _ ∧ _ ∧ _ ∧ _ from ⟨hne, hl, hd, hc⟩)).trans ?_)
    rw [numL_val]
    congr 1
    omega
theorem numOf_int {i : Int} (h : i.natAbs < 10 ^ 60) : numOf (numT i) = some i := by
  unfold numOf
  rw [tl_int]
  exact numOfL_int h
/-- int(text) of a text that writes an integer -/
theorem intText_of {z : PySem.Str} {i : Int} (h : numOf z = some i) : PySem.intText? z = some i ∧ z.length ≤ 61 := by
  have hl := len_tl z
  unfold numOf numOfL at h
  split at h
  · rename_i h0
    split at h
    · rename_i h1
      obtain ⟨a, b, c, d⟩ := h1
      injection h with h
      subst h
      obtain ⟨r, hr⟩ : ∃ r, tl z = 45 :: r := by
        cases hz : tl z with
        | nil => rw [hz] at h0; cases h0
        | cons x r => rw [hz] at h0; injection h0 with h0; exact ⟨r, by rw [h0]⟩
      rw [hr] at a b c d hl ⊢
      simp only [List.tail_cons, List.length_cons] at a b c d hl ⊢
      refine ⟨intText_neg hr (digs_all c) (fun z => by rw [z] at a; simp at a) (by omega), by omega⟩
    · cases h
  · split at h
    · rename_i h1
      obtain ⟨a, b, c, d⟩ := h1
      injection h with h
      subst h
      exact ⟨intText_digits (digs_all c) (fun e => by rw [show tl z = [] from e] at a; simp at a) (by omega), by omega⟩
    · cases h
theorem numOf_len {z : PySem.Str} {i : Int} (h : numOf z = some i) : z.length ≤ 61 := (intText_of h).2
end DL
namespace DL
open PySem PySem.Spec PyProof.Rows L2 TL
/-- the sign's place among the digits, or -1 -/
theorem find_digit (c : Nat) : Txt.find "0123456789" ⟨#[c]⟩ = if 48 ≤ c ∧ c ≤ 57 then (c : Int) - 48 else -1 := by
  have ht : tl (⟨#[c]⟩ : PySem.Str) = [c] := rfl
  have hx : ∀ i : Nat, pre [c] ((tl ("0123456789" : PySem.Str)).drop i) = true ↔ i < 10 ∧ c = 48 + i := by
    intro i
    have hl : tl ("0123456789" : PySem.Str) = [48, 49, 50, 51, 52, 53, 54, 55, 56, 57] := by decide +kernel
    rw [hl]
    by_cases hi : i < 10
    · have : i = 0 ∨ i = 1 ∨ i = 2 ∨ i = 3 ∨ i = 4 ∨ i = 5 ∨ i = 6 ∨ i = 7 ∨ i = 8 ∨ i = 9 := by omega
      rcases this with h | h | h | h | h | h | h | h | h | h <;> subst h <;> simp [pre] <;> omega
    · rw [List.drop_eq_nil_of_le (by simp; omega)]
      simp [pre]
      omega
  rcases find_whole ("0123456789" : PySem.Str) ⟨#[c]⟩ with ⟨e, h⟩ | ⟨i, e, h, _⟩
  · rw [e, if_neg]
    intro hc
    refine h (c - 48) ((at_iff (by rw [ht]; simp) _).mpr ?_)
    rw [ht, hx]
    omega
  · have := (at_iff (by rw [ht]; simp) _).mp h
    rw [ht, hx] at this
    rw [e, if_pos (by omega)]
    omega
theorem chD_get {z : PySem.Str} {i : Nat} {d : D} (h : (chD z)[i]? = some d) : ∃ c, (tl z)[i]? = some c ∧ d = .str ⟨#[c]⟩ := by
  unfold chD at h
  rw [List.getElem?_map] at h
  obtain ⟨c, hc, rfl⟩ := Option.map_eq_some_iff.mp h
  exact ⟨c, hc, rfl⟩
theorem chD_len {z : PySem.Str} : (chD z).length = (tl z).length := by simp [chD]
theorem digs_take {l : List Nat} {i c : Nat} (h : l[i]? = some c) : digs (l.take (i + 1)) = (digs (l.take i) && (decide (48 ≤ c) && decide (c ≤ 57))) := by
  rw [List.take_succ, h]
  simp [digs, List.all_append]
theorem val_take {l : List Nat} {i c : Nat} (h : l[i]? = some c) : NumText.digitsVal (l.take (i + 1)) = NumText.digitsVal (l.take i) * 10 + (c - 48) := by
  rw [List.take_succ, h]
  exact val_snoc _ _
theorem digs_false {l : List Nat} {i c : Nat} (h : l[i]? = some c) (hc : ¬ (48 ≤ c ∧ c ≤ 57)) : digs l = false := by
  refine List.all_eq_false.mpr ⟨c, List.mem_of_getElem? h, ?_⟩
  simp
  omega
/-- the digits behind the sign -/
def digL (l : List Nat) : List Nat := if l.head? = some 45 then l.tail else l
/-- .. by the digits -/
theorem numOfL_by (l : List Nat) : numOfL l = if 1 ≤ (digL l).length ∧ (digL l).length ≤ 60 ∧ digs (digL l) = true ∧ ¬ ((digL l).head? = some 48 ∧ l ≠ [48]) then
    some (if l.head? = some 45 then -(NumText.digitsVal (digL l) : Int) else (NumText.digitsVal (digL l) : Int)) else none := by
  unfold numOfL digL
  by_cases h : l.head? = some 45
  · simp only [if_pos h]
    have : l ≠ [48] := fun e => by rw [e] at h; simp at h
    simp [this]
  · simp only [if_neg h]
    congr 1
    simp only [eq_iff_iff]
    refine and_congr_right fun _ => and_congr_right fun _ => and_congr_right fun _ => ?_
    by_cases h1 : l = [48] <;> simp [h1]
end DL

/-! DTab: tables as lists of rows, and the layer between two of them. -/
namespace DL
open PySem PySem.Spec PyProof.Rows L2
abbrev Row := List Int
def key (r : Row) : Int := r.headD 0
def rowD (r : Row) : D := .tup (r.map D.int)
/-- a table of the width -/
structure Tab (w : Nat) (S : List Row) : Prop where
  pos : 1 ≤ w
  wid : ∀ r ∈ S, r.length = w
  asc : S.Pairwise fun r s => key r < key s
def find (S : List Row) (k : Int) : Option Row := S.find? fun r => decide (key r = k)
def rank (S : List Row) (k : Int) : Nat := S.countP fun r => decide (key r < k)
def optRow : Option Row → D
  | none => .non
  | some r => rowD r
/-- an entry of a layer -/
structure Ent where
  p : Int
  old : Option Row
  new : Option Row
  deriving DecidableEq
def entD (e : Ent) : D := .tup [.int e.p, optRow e.old, optRow e.new]
def Ent.key (e : Ent) : Int := match e.old, e.new with
  | some r, _ => DL.key r
  | none, some r => DL.key r
  | none, none => 0
def Ent.growth (e : Ent) : Int := (if e.new.isSome then 1 else 0) - (if e.old.isSome then 1 else 0)
/-! ### ascending lists -/
theorem asc_ext : ∀ {a b : List Int}, a.Pairwise (· < ·) → b.Pairwise (· < ·) → (∀ k, k ∈ a ↔ k ∈ b) → a = b
  | [], [], _, _, _ => rfl
  | [], y :: b, _, _, h => absurd ((h y).mpr (by simp)) (by simp)
  | x :: a, [], _, _, h => absurd ((h x).mp (by simp)) (by simp)
  | x :: a, y :: b, ha, hb, h => by
    rw [List.pairwise_cons] at ha hb
    have hx : x = y := by
      rcases List.mem_cons.mp ((h x).mp (by simp)) with e | e
      · exact e
      · rcases List.mem_cons.mp ((h y).mpr (by simp)) with e2 | e2
        · exact e2.symm
        · have := ha.1 y e2
          have := hb.1 x e
          omega
    subst hx
    congr 1
    refine asc_ext ha.2 hb.2 fun k => ?_
    constructor
    · intro hk
      rcases List.mem_cons.mp ((h k).mp (by simp [hk])) with e | e
      · have := ha.1 k hk; omega
      · exact e
    · intro hk
      rcases List.mem_cons.mp ((h k).mpr (by simp [hk])) with e | e
      · have := hb.1 k hk; omega
      · exact e
def insU (k : Int) : List Int → List Int
  | [] => [k]
  | x :: r => if k < x then k :: x :: r else if k = x then x :: r else x :: insU k r
theorem mem_insU {k j : Int} : ∀ {l : List Int}, j ∈ insU k l ↔ j = k ∨ j ∈ l
  | [] => by simp [insU]
  | x :: r => by
    unfold insU
    split
    · simp
    · split
      · rename_i h; subst h; simp
      · simp only [List.mem_cons, mem_insU (l := r)]
        constructor
        · rintro (h | h | h) <;> simp [h]
        · rintro (h | h | h) <;> simp [h]
theorem asc_insU {k : Int} : ∀ {l : List Int}, l.Pairwise (· < ·) → (insU k l).Pairwise (· < ·)
  | [], _ => by simp [insU]
  | x :: r, h => by
    have h' := List.pairwise_cons.mp h
    unfold insU
    split
    · rename_i hk
      refine List.pairwise_cons.mpr ⟨fun j hj => ?_, h⟩
      rcases List.mem_cons.mp hj with e | e
      · omega
      · have := h'.1 j e; omega
    · split
      · exact h
      · refine List.pairwise_cons.mpr ⟨fun j hj => ?_, asc_insU h'.2⟩
        rcases mem_insU.mp hj with e | e
        · omega
        · exact h'.1 j e
/-- the members, ascending -/
def ascOf (ks : List Int) : List Int := ks.foldr insU []
theorem mem_ascOf {j : Int} : ∀ {ks : List Int}, j ∈ ascOf ks ↔ j ∈ ks
  | [] => by simp [ascOf]
  | k :: ks => by
    show j ∈ insU k (ascOf ks) ↔ _
    rw [mem_insU, mem_ascOf, List.mem_cons]
theorem asc_ascOf : ∀ (ks : List Int), (ascOf ks).Pairwise (· < ·)
  | [] => .nil
  | k :: ks => asc_insU (asc_ascOf ks)
theorem ascOf_uniq {ks ms : List Int} (h : ms.Pairwise (· < ·)) (hm : ∀ k, k ∈ ms ↔ k ∈ ks) : ms = ascOf ks := asc_ext h (asc_ascOf ks) fun k => by rw [hm k, mem_ascOf]
/-! ### find, rank -/
theorem find_some {S : List Row} {k : Int} {r : Row} (h : find S k = some r) : r ∈ S ∧ key r = k := by
  unfold find at h
  exact ⟨List.mem_of_find?_eq_some h, by simpa using List.find?_some h⟩
theorem Tab.keyInj {w : Nat} {S : List Row} (t : Tab w S) {r s : Row} (hr : r ∈ S) (hs : s ∈ S) (h : key r = key s) : r = s := by
  have := t.asc
  induction S with
  | nil => cases hr
  | cons x l ih =>
    have a := List.pairwise_cons.mp this
    rcases List.mem_cons.mp hr with e1 | e1 <;> rcases List.mem_cons.mp hs with e2 | e2
    · rw [e1, e2]
    · subst e1; have := a.1 s e2; omega
    · subst e2; have := a.1 r e1; omega
    · exact ih ⟨t.pos, fun r hr => t.wid r (by simp [hr]), a.2⟩ e1 e2 a.2
theorem Tab.find {w : Nat} {S : List Row} (t : Tab w S) {r : Row} (hr : r ∈ S) : find S (key r) = some r := by
  cases h : DL.find S (key r) with
  | some s =>
    obtain ⟨h1, h2⟩ := find_some h
    rw [t.keyInj h1 hr h2]
  | none =>
    unfold DL.find at h
    rw [List.find?_eq_none] at h
    exact (h r hr (by simp)).elim
theorem Tab.findIff {w : Nat} {S : List Row} (t : Tab w S) {k : Int} {r : Row} : DL.find S k = some r ↔ r ∈ S ∧ key r = k := ⟨find_some, fun ⟨h, e⟩ => e ▸ t.find h⟩
theorem find_isSome {S : List Row} {k : Int} : (find S k).isSome = true ↔ k ∈ S.map key := by
  unfold find
  rw [List.find?_isSome]
  simp [List.mem_map]
theorem find_none {S : List Row} {k : Int} : find S k = none ↔ k ∉ S.map key := by
  rw [← find_isSome]
  cases find S k <;> simp
theorem Tab.keys {w : Nat} {S : List Row} (t : Tab w S) : (S.map key).Pairwise (· < ·) := by
  rw [List.pairwise_map]
  exact t.asc
theorem Tab.tail {w : Nat} {r : Row} {S : List Row} (t : Tab w (r :: S)) : Tab w S := ⟨t.pos, fun s hs => t.wid s (by simp [hs]), (List.pairwise_cons.mp t.asc).2⟩
theorem Tab.nil {w : Nat} (h : 1 ≤ w) : Tab w [] := ⟨h, by simp, .nil⟩
/-- rows counted by their keys -/
theorem Tab.cnt {w : Nat} {S : List Row} (t : Tab w S) {ks : List Int} (hk : ks.Pairwise (· < ·)) (hs : ∀ r ∈ S, key r ∈ ks) (P : Int → Bool) : S.countP (fun r => P (key r)) = ks.countP fun k => P k && (DL.find S k).isSome := by
  have e : S.map key = ks.filter fun k => (DL.find S k).isSome := by
    refine asc_ext t.keys (hk.filter _) fun k => ?_
    rw [List.mem_filter, find_isSome]
    constructor
    · intro h
      obtain ⟨r, hr, rfl⟩ := List.mem_map.mp h
      exact ⟨hs r hr, h⟩
    · exact fun h => h.2
  have c : S.countP (fun r => P (key r)) = (S.map key).countP P := by rw [List.countP_map]; rfl
  rw [c, e, List.countP_filter]
/-! ### the layer between two tables -/
/-- all keys of two tables, ascending -/
def keysOf (S T : List Row) : List Int := ascOf ((S ++ T).map key)
def diff (S T : List Row) (k : Int) : Option Ent := if find S k = find T k then none else some ⟨rank S k, find S k, find T k⟩
def lay (S T : List Row) : List Ent := (keysOf S T).filterMap (diff S T)
theorem mem_keysOf {S T : List Row} {k : Int} : k ∈ keysOf S T ↔ k ∈ S.map key ∨ k ∈ T.map key := by
  unfold keysOf
  rw [mem_ascOf, List.map_append, List.mem_append]
theorem diff_key {S T : List Row} {k : Int} {e : Ent} (h : diff S T k = some e) : e.key = k ∧ e.p = rank S k ∧ e.old = find S k ∧ e.new = find T k ∧ find S k ≠ find T k := by
  unfold diff at h
  split at h
  · cases h
  · rename_i hne
    injection h with h
    subst h
    refine ⟨?_, rfl, rfl, rfl, hne⟩
    show Ent.key ⟨_, find S k, find T k⟩ = k
    unfold Ent.key
    cases h1 : find S k with
    | some r => exact (find_some h1).2
    | none =>
      cases h2 : find T k with
      | some r => exact (find_some h2).2
      | none => rw [h1, h2] at hne; exact absurd rfl hne
theorem mem_lay {S T : List Row} {e : Ent} : e ∈ lay S T ↔ ∃ k, diff S T k = some e := by
  unfold lay
  rw [List.mem_filterMap]
  constructor
  · rintro ⟨k, _, h⟩
    exact ⟨k, h⟩
  · rintro ⟨k, h⟩
    refine ⟨k, ?_, h⟩
    obtain ⟨_, _, _, _, hne⟩ := diff_key h
    rw [mem_keysOf, ← find_isSome, ← find_isSome]
    cases h1 : find S k with
    | some r => simp
    | none =>
      cases h2 : find T k with
      | some r => simp
      | none => rw [h1, h2] at hne; exact absurd rfl hne
/-- the keys of a layer ascend -/
theorem lay_asc (S T : List Row) : ((lay S T).map Ent.key).Pairwise (· < ·) := by
  rw [List.pairwise_map]
  unfold lay
  rw [List.pairwise_filterMap]
  refine (asc_ascOf _).imp ?_
  intro a b hab e he e' he'
  rw [(diff_key he).1, (diff_key he').1]
  exact hab
theorem sum_filterMap (f : Int → Option Ent) (g : Ent → Int) (h : Int → Int) (hh : ∀ k e, f k = some e → g e = h k) (h0 : ∀ k, f k = none → h k = 0) : ∀ ks : List Int, ((ks.filterMap f).map g).sum = (ks.map h).sum
  | [] => rfl
  | k :: ks => by
    cases e : f k with
    | none => rw [List.filterMap_cons_none e, sum_filterMap f g h hh h0 ks, List.map_cons, List.sum_cons, h0 k e, Int.zero_add]
    | some x => rw [List.filterMap_cons_some e, List.map_cons, List.sum_cons, sum_filterMap f g h hh h0 ks, List.map_cons, List.sum_cons, hh k x e]
theorem sum_ind (P Q : Int → Bool) : ∀ ks : List Int, (ks.map fun k => (if P k then (1 : Int) else 0) - (if Q k then (1 : Int) else 0)).sum = (ks.countP P : Int) - (ks.countP Q : Int)
  | [] => rfl
  | k :: ks => by
    rw [List.map_cons, List.sum_cons, sum_ind P Q ks, List.countP_cons, List.countP_cons]
    cases P k <;> cases Q k <;> simp <;> omega
/-- the growth of the entries whose keys answer to P -/
theorem lay_growth {w : Nat} {S T : List Row} (hS : Tab w S) (hT : Tab w T) (P : Int → Bool) :
    ((lay S T).map fun e => if P e.key then e.growth else 0).sum = (T.countP fun r => P (key r) : Nat) - (S.countP fun r => P (key r) : Nat) := by
  rw [hS.cnt (ks := keysOf S T) (asc_ascOf _) (fun r hr => mem_keysOf.mpr (.inl (List.mem_map_of_mem hr))) P, hT.cnt (ks := keysOf S T) (asc_ascOf _) (fun r hr => mem_keysOf.mpr (.inr (List.mem_map_of_mem hr))) P, ← sum_ind]
  unfold lay
  refine sum_filterMap _ _ _ (fun k e h => ?_) (fun k h => ?_) _
  · obtain ⟨h1, _, h3, h4, _⟩ := diff_key h
    rw [h1]
    unfold Ent.growth
    rw [h3, h4]
    cases P k <;> simp
  · unfold diff at h
    split at h
    · rename_i e
      rw [e]
      omega
    · cases h
theorem lay_growth_all {w : Nat} {S T : List Row} (hS : Tab w S) (hT : Tab w T) : ((lay S T).map Ent.growth).sum = (T.length : Int) - (S.length : Int) := by
  have := lay_growth hS hT fun _ => true
  simpa using this
theorem lay_growth_before {w : Nat} {S T : List Row} (hS : Tab w S) (hT : Tab w T) (k : Int) : (((lay S T).filter fun e => decide (e.key < k)).map Ent.growth).sum = (rank T k : Int) - (rank S k : Int) := by
  have := lay_growth hS hT fun j => decide (j < k)
  unfold rank
  rw [← this]
  generalize lay S T = l
  induction l with
  | nil => rfl
  | cons e l ih =>
    rw [List.filter_cons]
    by_cases h : e.key < k
    · rw [if_pos (by simpa using h), List.map_cons, List.sum_cons, ih, List.map_cons, List.sum_cons, if_pos (by simpa using h)]
    · rw [if_neg (by simpa using h), ih, List.map_cons, List.sum_cons, if_neg (by simpa using h), Int.zero_add]
/-- the rows between two keys -/
theorem rank_between {S : List Row} {a b : Int} (h : a < b) : rank S b = rank S a + S.countP (fun r => decide (key r = a)) + S.countP fun r => decide (a < key r) && decide (key r < b) := by
  unfold rank
  induction S with
  | nil => rfl
  | cons r S ih =>
    simp only [List.countP_cons]
    rw [ih]
    by_cases h1 : key r < a
    · have h2 : key r < b := by omega
      have h3 : ¬ key r = a := by omega
      have h4 : ¬ a < key r := by omega
      simp [h1, h2, h3, h4]; omega
    · by_cases h2 : key r = a
      · have h3 : key r < b := by omega
        have h4 : ¬ a < key r := by omega
        simp [h2, h] ; omega
      · by_cases h3 : key r < b
        · have h4 : a < key r := by omega
          simp [h1, h2, h3, h4]; omega
        · simp [h1, h2, h3]
theorem Tab.cntKey {w : Nat} {S : List Row} (t : Tab w S) (k : Int) : S.countP (fun r => decide (key r = k)) = if (DL.find S k).isSome then 1 else 0 := by
  induction S with
  | nil => rfl
  | cons r S ih =>
    have a := List.pairwise_cons.mp t.asc
    rw [List.countP_cons, ih t.tail]
    by_cases h : key r = k
    · have h0 : (DL.find S k).isSome = false := by
        cases e : DL.find S k with
        | none => rfl
        | some s =>
          obtain ⟨h1, h2⟩ := find_some e
          have := a.1 s h1
          omega
      have h1 : DL.find (r :: S) k = some r := by unfold DL.find; rw [List.find?_cons_of_pos (by simpa using h)]
      rw [h0, h1]
      simp [h]
    · have h1 : DL.find (r :: S) k = DL.find S k := by unfold DL.find; rw [List.find?_cons_of_neg (by simpa using h)]
      rw [h1]
      simp [h]
end DL

/-! DEnt: rows and entries as trees. -/
namespace DL
open PySem PySem.Spec PyProof.Rows L2
theorem sz9 {n : Nat} (h : n ≤ 1000) : n ≤ sizeLine := Nat.le_trans h (by decide)
theorem szlt {n : Nat} (h : n < 1000) : n < sizeLine := Nat.lt_of_lt_of_le h (by decide)
theorem row_key {r : Row} (h : r ≠ []) : atI (r.map D.int) 0 = some (.int (key r)) := by
  cases r with
  | nil => exact absurd rfl h
  | cons a r =>
    have e : ((D.int a :: r.map D.int))[0]? = some (.int a) := rfl
    exact atI_nat (xs := D.int a :: r.map D.int) (v := D.int a) e
theorem Tab.ne {w : Nat} {S : List Row} (t : Tab w S) {r : Row} (hr : r ∈ S) : r ≠ [] := fun e => by
  have := t.wid r hr
  have := t.pos
  rw [e] at *
  simp at *
  omega
theorem rowD_inj {r s : Row} (h : rowD r = rowD s) : r = s := by
  unfold rowD at h
  injection h with h
  exact map_int_inj h
theorem optRow_inj {a b : Option Row} (h : optRow a = optRow b) : a = b := by
  cases a <;> cases b
  · rfl
  · cases h
  · cases h
  · exact congrArg some (rowD_inj h)
theorem pure_opt {n : Nat} (a : Option Row) : Pure (n + 1) (optRow a) := by
  cases a with
  | none => cases n <;> trivial
  | some r => exact pure_row
theorem typ_row (r : Row) : Typ (rowD r) := typ_tup _
theorem typ_opt (a : Option Row) : Typ (optRow a) := by
  cases a with
  | none => exact typ_non
  | some r => exact typ_row r
theorem typ_ent (e : Ent) : Typ (entD e) := typ_tup _
theorem pure_ent {n : Nat} (e : Ent) : Pure (n + 2) (entD e) := by
  intro d hd
  simp only [List.mem_cons, List.not_mem_nil, or_false] at hd
  rcases hd with h | h | h <;> subst h
  · cases n <;> trivial
  · exact pure_opt _
  · exact pure_opt _
theorem entD_inj {e f : Ent} (h : entD e = entD f) : e = f := by
  unfold entD at h
  injection h with h
  simp only [List.cons.injEq, and_true, D.int.injEq] at h
  obtain ⟨h1, h2, h3⟩ := h
  have := optRow_inj h2
  have := optRow_inj h3
  cases e; cases f
  simp_all
theorem map_inj {α : Type} {f : α → D} (hf : ∀ a b, f a = f b → a = b) : ∀ {l m : List α}, l.map f = m.map f → l = m
  | [], [], _ => rfl
  | [], _ :: _, h => by simp at h
  | _ :: _, [], h => by simp at h
  | a :: l, b :: m, h => by
    simp only [List.map_cons, List.cons.injEq] at h
    rw [hf _ _ h.1, map_inj hf h.2]
theorem tabs_inj {S T : List Row} (h : S.map rowD = T.map rowD) : S = T := map_inj (fun _ _ => rowD_inj) h
theorem ents_inj {l m : List Ent} (h : l.map entD = m.map entD) : l = m := map_inj (fun _ _ => entD_inj) h
theorem pure_tab {n : Nat} (S : List Row) : Pure (n + 2) (.lst (S.map rowD)) := fun d hd => by
  obtain ⟨r, _, rfl⟩ := List.mem_map.mp hd
  exact pure_row
theorem pure_ents {n : Nat} (l : List Ent) : Pure (n + 3) (.lst (l.map entD)) := fun d hd => by
  obtain ⟨r, _, rfl⟩ := List.mem_map.mp hd
  exact pure_ent r
/-- == of two optional rows -/
theorem dNe_opt {a b : Option Row} {M : Mem} {Q : DK} (q : Q (.bl (!decide (a = b))) M) : dNe (optRow a) (optRow b) M Q :=
  dNe_pure (n := 1) (pure_opt a) (pure_opt b) (by decide) fun e he => by
    have : e = decide (a = b) := by
      rw [Bool.eq_iff_iff, he, decide_eq_true_eq]
      exact ⟨optRow_inj, fun z => by rw [z]⟩
    rw [this]
    exact q
theorem dEq_opt {a b : Option Row} {M : Mem} {Q : DK} (q : Q (.bl (decide (a = b))) M) : dEq (optRow a) (optRow b) M Q :=
  dEq_pure (n := 1) (pure_opt a) (pure_opt b) (by decide) fun e he => by
    have : e = decide (a = b) := by
      rw [Bool.eq_iff_iff, he, decide_eq_true_eq]
      exact ⟨optRow_inj, fun z => by rw [z]⟩
    rw [this]
    exact q
theorem isNon_opt (a : Option Row) : isNon (optRow a) = a.isNone := by cases a <;> rfl
/-- an entry that has a key -/
structure Ent.Ok (e : Ent) : Prop where
  any : e.old.isSome = true ∨ e.new.isSome = true
  old : ∀ r, e.old = some r → r ≠ []
  new : ∀ r, e.new = some r → r ≠ []
theorem lay_ok {w : Nat} {S T : List Row} (hS : Tab w S) (hT : Tab w T) {e : Ent} (h : e ∈ lay S T) : e.Ok := by
  obtain ⟨k, hk⟩ := mem_lay.mp h
  obtain ⟨_, _, h3, h4, h5⟩ := diff_key hk
  refine ⟨?_, fun r hr => ?_, fun r hr => ?_⟩
  · rw [h3, h4]
    cases h1 : find S k with
    | some r => exact .inl rfl
    | none =>
      cases h2 : find T k with
      | some r => exact .inr rfl
      | none => rw [h1, h2] at h5; exact absurd rfl h5
  · rw [h3] at hr
    exact hS.ne (find_some hr).1
  · rw [h4] at hr
    exact hT.ne (find_some hr).1
def Ent.kind (e : Ent) : PySem.Str := if e.old.isNone then "insert" else if e.new.isNone then "delete" else "change"
/-- numbers of at most so many digits -/
def Big (B : Nat) (S : List Row) : Prop := ∀ r ∈ S, ∀ n ∈ r, n.natAbs ≤ B
theorem Big.le {B C : Nat} {S : List Row} (h : Big B S) (l : B ≤ C) : Big C S := fun r hr n hn => Nat.le_trans (h r hr n hn) l
theorem rows_get {S : List Row} {i : Nat} {d : D} (h : (S.map rowD)[i]? = some d) : ∃ r, S[i]? = some r ∧ d = rowD r := by
  rw [List.getElem?_map] at h
  obtain ⟨r, hr, rfl⟩ := Option.map_eq_some_iff.mp h
  exact ⟨r, hr, rfl⟩
theorem ents_get {l : List Ent} {i : Nat} {d : D} (h : (l.map entD)[i]? = some d) : ∃ e, l[i]? = some e ∧ d = entD e := by
  rw [List.getElem?_map] at h
  obtain ⟨r, hr, rfl⟩ := Option.map_eq_some_iff.mp h
  exact ⟨r, hr, rfl⟩
theorem atI_map {α : Type} {f : α → D} {l : List α} {i : Nat} {a : α} (h : l[i]? = some a) : atI (l.map f) (i : Int) = some (f a) := atI_nat (by rw [List.getElem?_map, h]; rfl)
theorem dAdd_lists {x y : D} {a b : List D} {M : Mem} {Q : DK} (h : LstOf x M a) (g : LstOf y M b) (hz : a.length + b.length ≤ sizeLine) (q : Q (.lst (a ++ b)) M) : dAdd x y M Q := by
  rcases h with rfl | ⟨p, rfl, hm⟩ <;> rcases g with rfl | ⟨p', rfl, hm'⟩
  · exact ⟨_, _, .inl rfl, .inl rfl, hz, q⟩
  · exact ⟨_, _, .inl rfl, .inr ⟨_, rfl, hm'⟩, hz, q⟩
  · exact ⟨_, _, .inr ⟨_, rfl, hm⟩, .inl rfl, hz, q⟩
  · exact ⟨_, _, .inr ⟨_, rfl, hm⟩, .inr ⟨_, rfl, hm'⟩, hz, q⟩
theorem LstOf.more {x : D} {M : Mem} {p : Addr} {o : CO} {ds : List D} (h : LstOf x M ds) (hp : M p = none) : LstOf x (DL.mset M p o) ds := by
  rcases h with rfl | ⟨a, rfl, hm⟩
  · exact .inl rfl
  · exact .inr ⟨a, rfl, by rw [mset_ne (mne hm hp)]; exact hm⟩
theorem LstOf.keep {x : D} {M M' : Mem} {ds : List D} (h : LstOf x M ds) (k : ∀ a co, M a = some co → M' a = some co) : LstOf x M' ds := by
  rcases h with rfl | ⟨a, rfl, hm⟩
  · exact .inl rfl
  · exact .inr ⟨a, rfl, k _ _ hm⟩
theorem sl_set_ne : ∀ {σ : DSt} {i j : Nat} {d : Option D}, i ≠ j → sl (σ.set i d) j = sl σ j
  | [], _, _, _, _ => rfl
  | _ :: _, 0, 0, _, h => absurd rfl h
  | _ :: _, 0, _ + 1, _, _ => rfl
  | _ :: _, _ + 1, 0, _, _ => rfl
  | _ :: r, i + 1, j + 1, d, h => sl_set_ne (σ := r) (fun e => h (by rw [e]))
/-- a box beside other cells -/
theorem BoxAt.mset {M : Mem} {b c : Addr} {o : CO} (hc : b ≠ c) (h : BoxAt M b) : BoxAt (mset M c o) b := by
  obtain ⟨l, i, e, a1, a2⟩ := h
  exact ⟨l, i, by rw [mset_ne hc]; exact e, a1, a2⟩
theorem BoxAt.ne {M : Mem} {b c : Addr} (h : BoxAt M b) (hc : M c = none) : b ≠ c := by
  obtain ⟨_, _, e, _⟩ := h
  exact mne e hc
/-- what a drawing def leaves: the box, and all cells that were there -/
structure Kept (b : Addr) (M M' : Mem) : Prop where
  box : BoxAt M' b
  old : ∀ c co, c ≠ b → M c = some co → M' c = some co
theorem Drawn.kept {b : Addr} {M M' : Mem} (h : Drawn b M M') : Kept b M M' := ⟨h.box, fun c co hc e => by rw [h.only c hc]; exact e⟩
theorem Kept.trans {b : Addr} {M M1 M2 : Mem} (h : Kept b M M1) (g : Kept b M1 M2) : Kept b M M2 := ⟨g.box, fun c co hc e => g.old c co hc (h.old c co hc e)⟩
theorem Kept.mset {b p : Addr} {M M' : Mem} {o : CO} (h : Kept b M M') (hp : M p = none) (hbp : b ≠ p) : Kept b M (mset M' p o) := ⟨h.box.mset hbp, fun c co hc e => by
  rw [mset_ne (mne e hp)]
  exact h.old c co hc e⟩
theorem fl_cellK {Q : DK} {M M6 : Mem} {ds : List D} {p a : Addr} (h : ∀ M', Kept a M M' → FL Q M' ds) (k : Kept a M M6) (hp : M p = none) (hap : a ≠ p) (hm : M6 p = some (.lst ds)) : QF Q (.ref p) M6 := by
  refine fl_cell (M := fun c => if c = p then none else M6 c) (h _ ⟨?_, fun c co hc e => ?_⟩) (if_pos rfl) hm fun c co e => ?_
  · obtain ⟨l, i, e, a1, a2⟩ := k.box
    exact ⟨l, i, by show (if a = p then none else M6 a) = _; rw [if_neg hap]; exact e, a1, a2⟩
  · show (if c = p then none else M6 c) = _
    rw [if_neg (mne e hp)]
    exact k.old c co hc e
  · have e : (if c = p then none else M6 c) = some co := e
    split at e
    · cases e
    · exact e
theorem Kept.fresh {a q : Addr} {M M' : Mem} (k : Kept a M M') (hq : M' q = none) : M q = none := by
  cases e : M q with
  | none => rfl
  | some co =>
    by_cases hqa : q = a
    · obtain ⟨_, _, e2, _⟩ := k.box
      rw [hqa, e2] at hq
      cases hq
    · rw [k.old q co hqa e] at hq
      cases hq
/-- values with a built-in type, so deep -/
def TyN : Nat → Mem → D → Prop
  | 0, M, d => ∃ t, TyD M d t
  | n + 1, M, d => (∃ t, TyD M d t) ∧ ∀ ds, d = .tup ds → ds.length ≤ sizeLine ∧ ∀ e ∈ ds, TyN n M e
theorem TyN.ty : ∀ {n : Nat} {M : Mem} {d : D}, TyN n M d → ∃ t, TyD M d t
  | 0, _, _, h => h
  | _ + 1, _, _, h => h.1
theorem tyN_of {n : Nat} {M : Mem} {d : D} (h : Typ d) (hn : ∀ ds, d ≠ .tup ds) : TyN n M d := by
  obtain ⟨t, ht⟩ := h
  cases n with
  | zero => exact ⟨t, ht M⟩
  | succ n => exact ⟨⟨t, ht M⟩, fun ds e => absurd e (hn ds)⟩
theorem tyN_int {n : Nat} {M : Mem} (i : Int) : TyN n M (.int i) := tyN_of (typ_int i) (fun _ z => nomatch z)
theorem tyN_non {n : Nat} {M : Mem} : TyN n M .non := tyN_of typ_non (fun _ z => nomatch z)
theorem tyN_tup {n : Nat} {M : Mem} {ds : List D} (hz : ds.length ≤ sizeLine) (h : ∀ e ∈ ds, TyN n M e) : TyN (n + 1) M (.tup ds) := ⟨⟨_, .tup ds⟩, fun es e => by cases e; exact ⟨hz, h⟩⟩
theorem tyN_row {n : Nat} {M : Mem} {r : Row} (hz : r.length ≤ 1000) : TyN (n + 1) M (rowD r) := tyN_tup (sz9 (by simpa using hz)) fun e he => by
  obtain ⟨i, _, rfl⟩ := List.mem_map.mp he
  exact tyN_int i
theorem tyN_opt {n : Nat} {M : Mem} {r : Option Row} (hz : ∀ x, r = some x → x.length ≤ 1000) : TyN (n + 1) M (optRow r) := by
  cases r with
  | none => exact tyN_non
  | some x => exact tyN_row (hz x rfl)
theorem tyN_ent {n : Nat} {M : Mem} {e : Ent} (h1 : ∀ x, e.old = some x → x.length ≤ 1000) (h2 : ∀ x, e.new = some x → x.length ≤ 1000) : TyN (n + 2) M (entD e) := tyN_tup (sz9 (show 3 ≤ 1000 by decide)) fun d hd => by
  simp only [List.mem_cons, List.not_mem_nil, or_false] at hd
  rcases hd with h | h | h <;> subst h
  · exact tyN_int _
  · exact tyN_opt h1
  · exact tyN_opt h2
/-! ### is a tree an entry -/
def intsL : List D → List Int
  | [] => []
  | .int i :: r => i :: intsL r
  | _ :: r => intsL r
def rowI : D → List Int
  | .tup ds => intsL ds
  | _ => []
theorem rowI_row : ∀ r : Row, rowI (rowD r) = r
  | [] => rfl
  | a :: r => congrArg (a :: ·) (rowI_row r)
def rowO (w : Int) : D → Bool
  | .non => true
  | d => rowB w d
def pairB : D → D → Bool
  | .non, .non => false
  | .non, _ => true
  | _, .non => true
  | o, n => decide (key (rowI o) = key (rowI n)) && !decide (rowI o = rowI n)
/-- an entry of the width -/
def entB (w : Int) : D → Bool
  | .tup [.int p, o, n] => decide (0 ≤ p) && (rowO w o && (rowO w n && pairB o n))
  | _ => false
theorem rowB_row {w : Int} {r : Row} : rowB w (rowD r) = decide ((r.length : Int) = w) := by
  show (decide (((r.map D.int).length : Int) = w) && (r.map D.int).all isI) = _
  rw [all_isI, Bool.and_true, List.length_map]
theorem of_rowB {w : Int} {d : D} (h : rowB w d = true) : ∃ r : Row, d = rowD r ∧ (r.length : Int) = w := by
  cases d with
  | tup ds =>
    simp only [rowB, Bool.and_eq_true, decide_eq_true_eq] at h
    obtain ⟨ns, rfl⟩ := of_all_isI h.2
    exact ⟨ns, rfl, by simpa using h.1⟩
  | _ => exact absurd h (by simp [rowB])
theorem of_rowO {w : Int} {d : D} (h : rowO w d = true) : ∃ r : Option Row, d = optRow r ∧ ∀ x, r = some x → (x.length : Int) = w := by
  by_cases hd : d = .non
  · exact ⟨none, hd, fun x z => nomatch z⟩
  · have h' : rowB w d = true := by
      cases d <;> first | exact absurd rfl hd | exact h
    obtain ⟨r, e, l⟩ := of_rowB h'
    exact ⟨some r, e, fun x z => by cases z; exact l⟩
/-- an entry of a width is told by its trees -/
theorem of_entB {w : Int} {d : D} (h : entB w d = true) : ∃ e : Ent, d = entD e ∧ 0 ≤ e.p ∧ (∀ x, e.old = some x → (x.length : Int) = w) ∧ (∀ x, e.new = some x → (x.length : Int) = w) ∧ (e.old.isSome = true ∨ e.new.isSome = true) ∧
    ∀ x y, e.old = some x → e.new = some y → key x = key y ∧ x ≠ y := by
  unfold entB at h
  split at h
  · rename_i p o n
    simp only [Bool.and_eq_true, decide_eq_true_eq] at h
    obtain ⟨h1, h2, h3, h4⟩ := h
    obtain ⟨a, rfl, ha⟩ := of_rowO h2
    obtain ⟨b, rfl, hb⟩ := of_rowO h3
    refine ⟨⟨p, a, b⟩, rfl, h1, ha, hb, ?_, ?_⟩
    · cases a <;> cases b
      · exact absurd h4 (by simp [optRow, pairB])
      · exact .inr rfl
      · exact .inl rfl
      · exact .inl rfl
    · intro x y hx hy
      have hx : a = some x := hx
      have hy : b = some y := hy
      subst hx hy
      have h4 : (decide (key (rowI (rowD x)) = key (rowI (rowD y))) && !decide (rowI (rowD x) = rowI (rowD y))) = true := h4
      rw [rowI_row, rowI_row] at h4
      simpa using h4
  · cases h
theorem entB_ent {w : Int} {e : Ent} (h0 : 0 ≤ e.p) (h1 : ∀ x, e.old = some x → (x.length : Int) = w) (h2 : ∀ x, e.new = some x → (x.length : Int) = w) (h3 : e.old.isSome = true ∨ e.new.isSome = true) (h4 : ∀ x y, e.old = some x → e.new = some y → key x = key y ∧ x ≠ y) : entB w (entD e) = true := by
  obtain ⟨p, o, n⟩ := e
  have hr : ∀ r : Option Row, (∀ x, r = some x → (x.length : Int) = w) → rowO w (optRow r) = true := fun r hr => by
    cases r with
    | none => rfl
    | some x =>
      show rowB w (rowD x) = true
      rw [rowB_row, decide_eq_true_eq]
      exact hr x rfl
  show (decide (0 ≤ p) && (rowO w (optRow o) && (rowO w (optRow n) && pairB (optRow o) (optRow n)))) = true
  rw [hr o h1, hr n h2, decide_eq_true h0]
  cases o with
  | none =>
    cases n with
    | none => rcases h3 with h | h <;> cases h
    | some y => rfl
  | some x =>
    cases n with
    | none => rfl
    | some y =>
      have h := h4 x y rfl rfl
      show (true && (true && (true && (decide (key (rowI (rowD x)) = key (rowI (rowD y))) && !decide (rowI (rowD x) = rowI (rowD y)))))) = true
      rw [rowI_row, rowI_row]
      simp [h.1, h.2]
/-- an entry of one width is none of another one -/
theorem entB_width {w v : Int} {d : D} (h : entB w d = true) (hv : v ≠ w) : entB v d = false := by
  cases hb : entB v d with
  | false => rfl
  | true =>
    obtain ⟨e, rfl, _, h1, h2, h3, _⟩ := of_entB h
    obtain ⟨f, he, _, g1, g2, _⟩ := of_entB hb
    have := entD_inj he
    subst this
    exfalso
    rcases h3 with h | h
    · obtain ⟨x, hx⟩ := Option.isSome_iff_exists.mp h
      have := h1 x hx
      have := g1 x hx
      omega
    · obtain ⟨x, hx⟩ := Option.isSome_iff_exists.mp h
      have := h2 x hx
      have := g2 x hx
      omega
theorem rowB_len {w : Int} {ds : List D} (h : (ds.length : Int) ≠ w) : rowB w (.tup ds) = false := by simp [rowB, h]
theorem rowB_set {w : Int} {ds : List D} {j : Nat} {d : D} (hj : j < ds.length) (h : isI d = false) : rowB w (.tup (ds.set j d)) = false := by
  have e : (ds.set j d).all isI = false := by
    rw [List.all_eq_false]
    exact ⟨d, List.mem_set hj d, by simp [h]⟩
  simp [rowB, e]
theorem ixN_in {n : Nat} {k : Int} (h0 : 0 ≤ k) (h1 : k < n) : ixN n k = some k.toNat := by
  unfold ixN
  rw [if_pos h0, if_pos (by omega)]
theorem log_small {i : Int} (h0 : 0 ≤ i) (h : i < 9000) : i.natAbs.log2 < 9000 := Nat.lt_of_le_of_lt (Nat.log2_le_self _) (by omega)
end DL

/-! DWord: texts of words. -/
namespace DL
open PySem PySem.Spec PyProof.Rows L2 TL
/-- the words of a text -/
def words (z : PySem.Str) : List PySem.Str := Txt.split z " "
theorem spl_room (S : List Nat) : ∀ (l : List Nat) (k : Nat) (acc : List Nat), (spl S k acc l).length ≤ l.length + 1 ∧ ∀ p ∈ spl S k acc l, p.length ≤ acc.length + l.length
  | [], k, acc => by
    rw [spl_nil]
    simp
  | c :: l, 0, acc => by
    cases h : pre S (c :: l) with
    | true =>
      rw [spl_hit h]
      obtain ⟨h1, h2⟩ := spl_room S l (S.length - 1) []
      refine ⟨by simp; omega, fun p hp => ?_⟩
      rcases List.mem_cons.mp hp with e | e
      · rw [e]; omega
      · have := h2 p e; simp at this ⊢; omega
    | false =>
      rw [spl_miss h]
      obtain ⟨h1, h2⟩ := spl_room S l 0 (acc ++ [c])
      refine ⟨by simp; omega, fun p hp => ?_⟩
      have := h2 p hp
      simp at this ⊢
      omega
  | c :: l, k + 1, acc => by
    obtain ⟨h1, h2⟩ := spl_room S l k acc
    refine ⟨?_, fun p hp => ?_⟩
    · show (spl S k acc l).length ≤ _
      simp; omega
    · have := h2 p hp
      simp
      omega
theorem tl_space : tl (" " : PySem.Str) = [32] := by decide +kernel
theorem words_tl (z : PySem.Str) : (words z).map tl = spl [32] 0 [] (tl z) := by
  have := split_spl z " " (by rw [tl_space]; simp) (kind_ok (by decide +kernel))
  rw [tl_space] at this
  exact this
theorem words_room (z : PySem.Str) : (words z).length ≤ z.length + 1 ∧ ∀ y ∈ words z, y.length ≤ z.length := by
  obtain ⟨h1, h2⟩ := spl_room [32] (tl z) 0 []
  rw [← words_tl] at h1 h2
  rw [len_tl]
  refine ⟨by simpa using h1, fun y hy => ?_⟩
  have := h2 (tl y) (List.mem_map_of_mem hy)
  rw [len_tl]
  simpa using this
theorem join_words (z : PySem.Str) : Txt.join " " (words z) = z := by
  rw [join_eq]
  exact StrLaws.join_split z " "
theorem joinL_len (S : List Nat) : ∀ ps : List (List Nat), (joinL S ps).length ≤ (ps.map List.length).sum + ps.length * S.length
  | [] => by simp [joinL]
  | [p] => by simp [joinL]
  | p :: q :: r => by
    have h := joinL_len S (q :: r)
    show (p ++ (S ++ joinL S (q :: r))).length ≤ _
    simp only [List.length_append, List.map_cons, List.sum_cons, List.length_cons] at h ⊢
    rw [Nat.add_mul (r.length + 1) 1, Nat.one_mul]
    omega
theorem join_len (y : PySem.Str) (ps : List PySem.Str) : (Txt.join y ps).length ≤ (ps.map (·.length)).sum + ps.length * y.length := by
  rw [join_eq, len_tl, tl_join]
  have h := joinL_len (tl y) (ps.map tl)
  simp only [List.length_map, List.map_map] at h
  rw [len_tl y]
  have e : (ps.map (List.length ∘ tl)) = ps.map (·.length) := List.map_congr_left fun p _ => (len_tl p).symm
  rw [e] at h
  exact h
/-- what the words write -/
def wordsD (ys : List PySem.Str) : List D := ys.map fun y => optI (numOf y)
/-- the row that a text writes, or None -/
def rowOfD (w : Int) (z : PySem.Str) : D := if rowB w (.tup (wordsD (words z))) = true then .tup (wordsD (words z)) else .non
theorem wordsD_row : ∀ {ys : List PySem.Str}, (wordsD ys).all isI = true → ∃ r : Row, wordsD ys = r.map D.int ∧ r.map (fun n => numT n) = ys ∧ ∀ n ∈ r, n.natAbs < 10 ^ 60
  | [], _ => ⟨[], rfl, rfl, by simp⟩
  | y :: ys, h => by
    have h' : isI (optI (numOf y)) = true ∧ (wordsD ys).all isI = true := by simpa [wordsD] using h
    obtain ⟨r, h1, h2, h3⟩ := wordsD_row h'.2
    cases e : numOf y with
    | none => rw [e] at h'; exact absurd h'.1 (by simp [optI, isI])
    | some i =>
      refine ⟨i :: r, ?_, ?_, fun n hn => ?_⟩
      · show optI (numOf y) :: wordsD ys = _
        rw [e, h1]
        rfl
      · rw [List.map_cons, h2, numOf_text e]
      · rcases List.mem_cons.mp hn with z | z
        · rw [z]; exact numOf_room e
        · exact h3 n z
theorem typ_optI (o : Option Int) : Typ (optI o) := by
  cases o with
  | none => exact typ_non
  | some i => exact typ_int i
theorem wordsD_typ {ys : List PySem.Str} : ∀ d ∈ wordsD ys, Typ d := fun d hd => by
  obtain ⟨y, _, rfl⟩ := List.mem_map.mp hd
  exact typ_optI _
/-- a row's text is read back -/
theorem rowOfD_some {w : Int} {z : PySem.Str} (h : rowB w (.tup (wordsD (words z))) = true) : ∃ r : Row, rowOfD w z = rowD r ∧ (r.length : Int) = w ∧ Txt.join " " (r.map fun n => numT n) = z ∧ ∀ n ∈ r, n.natAbs < 10 ^ 60 := by
  have h' : ((wordsD (words z)).length : Int) = w ∧ (wordsD (words z)).all isI = true := by simpa [rowB] using h
  obtain ⟨r, h1, h2, h3⟩ := wordsD_row h'.2
  refine ⟨r, ?_, ?_, ?_, h3⟩
  · unfold rowOfD
    rw [if_pos h, h1]
    rfl
  · rw [h1] at h'
    simpa using h'.1
  · rw [h2]
    exact join_words z
theorem len_app (a b : PySem.Str) : (a ++ b).length = a.length + b.length := by rw [len_tl, tl_append, List.length_append, ← len_tl, ← len_tl]
theorem map_erase {α β : Type} (f : α → β) : ∀ (l : List α) (k : Nat), (l.map f).eraseIdx k = (l.eraseIdx k).map f
  | [], _ => rfl
  | _ :: _, 0 => rfl
  | a :: l, k + 1 => congrArg (f a :: ·) (map_erase f l k)
end DL

namespace DL
open PySem PySem.Spec PyProof.Rows L2 TL
/-! is_integer(value) -/
@[irreducible] def S_is_integer (x : D) (M : Mem) (Q : DK) (_ : DXK) : Prop := (∃ t, TyD M x t) ∧ Q (.bl (isI x)) M
def sp_is_integer : DSp := spk1 S_is_integer
theorem isint_in {x : D} {M : Mem} {Q : DK} {E : DXK} (h : Typ x) (q : Q (.bl (isI x)) M) : S_is_integer x M Q E := by
  unfold S_is_integer
  exact ⟨h.imp fun t ht => ht M, q⟩
theorem isint_inM {x : D} {M : Mem} {Q : DK} {E : DXK} (h : ∃ t, TyD M x t) (q : Q (.bl (isI x)) M) : S_is_integer x M Q E := by
  unfold S_is_integer
  exact ⟨h, q⟩
def t_is_integer : DTS :=
  dRet (dAndV (dCB (r2 (dIsi .it)) (dCons (dVar 0) (dCons (dC (.ty "int")) (dNil)))) (dNotV (dCB (r2 (dIsi .bo)) (dCons (dVar 0) (dCons (dC (.ty "bool")) (dNil))))))
theorem rd_is_integer : ∀ ds M Q E, sp_is_integer ds M Q E → t_is_integer { nx := fun _ M' => QF Q .non M', rt := QF Q } (dstart 1 ds) M := rd1 fun x M Q E h => by
  unfold S_is_integer at h
  obtain ⟨⟨t, ht⟩, h⟩ := h
  have ht' := ht
  refine ⟨_, rfl, rfl, t, ht', ?_⟩
  cases ht' with
  | int i => exact yes ⟨_, rfl, rfl, .it, .int i, qf_same h⟩
  | bl b => exact yes ⟨_, rfl, rfl, .bo, .bl b, qf_same h⟩
  | @ref a co hm => cases co <;> exact no (qf_same h)
  | _ => exact no (qf_same h)

/-! number_text(number) -/
@[irreducible] def S_number_text (x : D) (M : Mem) (Q : DK) (_ : DXK) : Prop := ∃ i : Int, x = .int i ∧ i.natAbs < 10 ^ 200 ∧ Q (.str (numT i)) M
def sp_number_text : DSp := spk1 S_number_text
theorem text_in {i : Int} {M : Mem} {Q : DK} {E : DXK} (h : i.natAbs < 10 ^ 200) (q : Q (.str (numT i)) M) : S_number_text (.int i) M Q E := by
  unfold S_number_text
  exact ⟨i, rfl, h, q⟩
theorem log_200 {n : Nat} (h : n < 10 ^ 200) : n.log2 < 1920 :=
  PySem.Flt.log2_lt_of (by decide) (Nat.lt_of_lt_of_le h (by decide +kernel))
def t_number_text : DTS :=
  dRet (dCB (r1 dStr) (dCons (dVar 0) (dNil)))
theorem rd_number_text : ∀ ds M Q E, sp_number_text ds M Q E → t_number_text { nx := fun _ M' => QF Q .non M', rt := QF Q } (dstart 1 ds) M := rd1 fun x M Q E h => by
  unfold S_number_text at h
  obtain ⟨i, rfl, hi, h⟩ := h
  exact ⟨_, rfl, log_200 hi, qf_same h⟩

/-! read_number(text) -/
@[irreducible] def S_read_number (x : D) (M : Mem) (Q : DK) (_ : DXK) : Prop := ∃ z : PySem.Str, x = .str z ∧ z.length ≤ sizeLine ∧ Q (optI (numOf z)) M
def sp_read_number : DSp := spk1 S_read_number
theorem readnum_in {z : PySem.Str} {M : Mem} {Q : DK} {E : DXK} (h : z.length ≤ sizeLine) (q : Q (optI (numOf z)) M) : S_read_number (.str z) M Q E := by
  unfold S_read_number
  exact ⟨z, rfl, h, q⟩
def t_read_number : DTS :=
  dSeq (dAsg (dIf (dTruth (dSM dStarts (dVar 0) (dCons (dC (.str "-")) (dNil)))) (dSlice dSl (dVar 0) (dPart (dC (.int 1))) (dNoPart)) (dVar 0)) (dgName 1))
  (dSeq (dIfS (dNot (dTest (dChain dLe dLe (dC (.int 1)) (dCB (r1 dLen) (dCons (dVar 1) (dNil))) (dC (.int 60))))) (dRet (dC .non)) (dNext))
  (dSeq (dFor (diSeq (dVar 1)) (dgName 2) (dIfS (dTest (dBin dNotInS (dVar 2) (dC (.str "0123456789")))) (dRet (dC .non)) (dNext)))
  (dSeqC (dIfS (dAnd (dTest (dBin dEq (dBin dIx (dVar 1) (dC (.int 0))) (dC (.str "0")))) (dTest (dBin dNe (dVar 0) (dC (.str "0"))))) (dRet (dC .non)) (dNext))
  (dRet (dCB (r1 dIntS) (dCons (dVar 0) (dNil)))))))
theorem rd_read_number : ∀ ds M Q E, sp_read_number ds M Q E → t_read_number { nx := fun _ M' => QF Q .non M', rt := QF Q } (dstart 3 ds) M := rd1 fun x M Q E h => by
  unfold S_read_number at h
  obtain ⟨z, rfl, hz, h⟩ := h
  have hst : Txt.startswith z "-" = decide ((tl z).head? = some 45) := starts_one (by decide +kernel)
  -- the digits
  have main : ∀ y : PySem.Str, tl y = digL (tl z) → y.length ≤ z.length →
      (dSeq (dIfS (dNot (dTest (dChain dLe dLe (dC (.int 1)) (dCB (r1 dLen) (dCons (dVar 1) (dNil))) (dC (.int 60))))) (dRet (dC .non)) (dNext))
      (dSeq (dFor (diSeq (dVar 1)) (dgName 2) (dIfS (dTest (dBin dNotInS (dVar 2) (dC (.str "0123456789")))) (dRet (dC .non)) (dNext)))
      (dSeqC (dIfS (dAnd (dTest (dBin dEq (dBin dIx (dVar 1) (dC (.int 0))) (dC (.str "0")))) (dTest (dBin dNe (dVar 0) (dC (.str "0"))))) (dRet (dC .non)) (dNext))
      (dRet (dCB (r1 dIntS) (dCons (dVar 0) (dNil))))))) { nx := fun _ M' => QF Q .non M', rt := QF Q } [some (.str z), some (.str y), none] M := by
    intro y hy hyl
    have hn := numOfL_by (tl z)
    rw [← hy] at hn
    have hlen := len_tl y
    have none : ∀ {p : Prop}, (numOf z = .none) → QF Q .non M := fun {p} e => by
      rw [e] at h
      exact qf_same h
    refine ⟨_, rfl, ⟨by omega, ?_⟩⟩
    refine byc (fun h1 => ?_) fun h1 => yes (none (p := True) ?_)
    · refine bync (fun h2 => none (p := True) ?_) fun h2 => ?_
      rotate_left
      · refine ⟨_, rfl, fun i σ' M' => ∃ x2, σ' = [some (.str z), some (.str y), x2] ∧ M' = M ∧ digs ((tl y).take i) = true, ⟨_, rfl, rfl, rfl⟩, ?_, ?_⟩
        · rintro i d _ M hd ⟨x2, rfl, rfl, hdg⟩
          obtain ⟨c, hc, rfl⟩ := chD_get hd
          refine ⟨_, rfl, c, _, rfl, rfl, ?_⟩
          have hin : decide (c ∈ ("0123456789" : PySem.Str).cps.toList) = (decide (48 ≤ c) && decide (c ≤ 57)) := by
            have hl : ("0123456789" : PySem.Str).cps.toList = [48, 49, 50, 51, 52, 53, 54, 55, 56, 57] := by decide +kernel
            rw [hl, Bool.eq_iff_iff]
            simp
            omega
          rw [hin]
          by_cases hcd : 48 ≤ c ∧ c ≤ 57
          · refine never (by simp [hcd]) ⟨_, rfl, rfl, ?_⟩
            rw [digs_take hc, hdg]
            simp [hcd]
          · refine sure (by simp; omega) (none (p := True) ?_)
            refine hn.trans (if_neg fun z => ?_)
            rw [digs_false hc hcd] at z
            exact absurd z.2.2.1 (by simp)
        · rintro _ M ⟨x2, rfl, rfl, hdg⟩
          rw [chD_len, List.take_length] at hdg
          obtain ⟨c, r, hcr⟩ : ∃ c r, tl y = c :: r := by
            cases e : tl y with
            | nil => rw [e] at hlen; simp at hlen; omega
            | cons c r => exact ⟨c, r, rfl⟩
          have hat : atI y.cps.toList 0 = some c := by
            have h0 : y.cps.toList[0]? = some c := by rw [show y.cps.toList = tl y from rfl, hcr]; rfl
            exact atI_nat h0
          have e48 : ((⟨#[c]⟩ : PySem.Str) = "0") ↔ c = 48 := by
            rw [str_eq, show tl ("0" : PySem.Str) = [48] by decide +kernel]
            show [c] = [48] ↔ _
            simp
          have ez : (z = ("0" : PySem.Str)) ↔ tl z = [48] := by
            rw [str_eq, show tl ("0" : PySem.Str) = [48] by decide +kernel]
          refine ⟨fun σ' M' => ∃ x2, σ' = [some (.str z), some (.str y), x2] ∧ M' = M ∧ ¬ (c = 48 ∧ tl z ≠ [48]), ?_, ?_⟩
          · refine ⟨_, rfl, by omega, c, hat, byc (fun h3 => ⟨_, rfl, bync (fun h4 => ?_) fun h4 => ⟨_, rfl, rfl, fun hx => hx.2 (ez.mp h4)⟩⟩) fun h3 => no ⟨_, rfl, rfl, fun hx => h3 (e48.mpr hx.1)⟩⟩
            refine none (p := True) (hn.trans (if_neg fun hx => hx.2.2.2 ⟨by rw [hcr, e48.mp h3]; rfl, fun e => h4 (ez.mpr e)⟩))
          · rintro _ M ⟨x2, rfl, rfl, h5⟩
            have hs : ∃ i, numOf z = some i := ⟨_, hn.trans (if_pos ⟨by omega, by omega, hdg, fun hx => h5 ⟨by rw [hcr] at hx; simpa using hx.1, hx.2⟩⟩)⟩
            obtain ⟨i, hi⟩ := hs
            rw [hi] at h
            obtain ⟨a1, a2⟩ := intText_of hi
            exact ⟨_, rfl, z, i, rfl, a1, by omega, qf_same h⟩
      · refine hn.trans (if_neg fun hx => ?_)
        omega
    · refine hn.trans (if_neg fun hx => ?_)
      omega
  by_cases h45 : (tl z).head? = some 45
  · refine ⟨_, rfl, sure (b := Txt.startswith z "-") (by rw [hst]; simp [h45]) ⟨_, rfl, hz, ?_⟩⟩
    refine main _ ?_ (cutS_length _ _ _)
    rw [show ((1 : Int)) = ((1 : Nat) : Int) from rfl, tl_from, digL, if_pos h45, List.drop_one]
  · exact ⟨_, rfl, never (b := Txt.startswith z "-") (by rw [hst]; simp [h45]) ⟨_, rfl, main z (by rw [digL, if_neg h45]) (Nat.le_refl _)⟩⟩

/-! is_row(value, width) -/
@[irreducible] def S_is_row (x y : D) (M : Mem) (Q : DK) (_ : DXK) : Prop := ∃ w : Int, y = .int w ∧ TyN 1 M x ∧ Q (.bl (rowB w x)) M
def sp_is_row : DSp := spk2 S_is_row
theorem isrow_in {x : D} {w : Int} {M : Mem} {Q : DK} {E : DXK} (h : Typ x) (h2 : ∀ ds, x = .tup ds → ds.length ≤ sizeLine ∧ ∀ d ∈ ds, Typ d) (q : Q (.bl (rowB w x)) M) : S_is_row x (.int w) M Q E := by
  unfold S_is_row
  exact ⟨w, rfl, ⟨h.imp fun t ht => ht M, fun ds e => ⟨(h2 ds e).1, fun d hd => ((h2 ds e).2 d hd).imp fun t ht => ht M⟩⟩, q⟩
theorem isrow_inM {x : D} {w : Int} {M : Mem} {Q : DK} {E : DXK} (h : TyN 1 M x) (q : Q (.bl (rowB w x)) M) : S_is_row x (.int w) M Q E := by
  unfold S_is_row
  exact ⟨w, rfl, h, q⟩
def t_is_row : DTS :=
  dSeq (dIfS (dOr (dNot (dTruth (dCB (r2 (dIsi .tu)) (dCons (dVar 0) (dCons (dC (.ty "tuple")) (dNil)))))) (dTest (dBin dNe (dCB (r1 dLen) (dCons (dVar 0) (dNil))) (dVar 1)))) (dRet (dC (.bl false))) (dNext))
  (dRet (dCB (r1 dAll) (dCons (dLc (diSeq (dVar 0)) (.nm 2) (dYes) (dCall sp_is_integer [] wNo (dCons (dVar 2) (dNil))) [2]) (dNil))))
theorem rd_is_row : ∀ ds M Q E, sp_is_row ds M Q E → t_is_row { nx := fun _ M' => QF Q .non M', rt := QF Q } (dstart 3 ds) M := rd2 fun x y M Q E h => by
  unfold S_is_row at h
  obtain ⟨w, rfl, ⟨⟨t, ht⟩, h2⟩, h⟩ := h
  have ht' := ht
  refine ⟨_, rfl, rfl, t, ht', ?_⟩
  cases ht' with
  | tup ds =>
    obtain ⟨hz, h3⟩ := h2 ds rfl
    refine no ⟨_, rfl, _, rfl, bync (fun hn => ?_) fun hn => ?_⟩
    · have e : rowB w (.tup ds) = false := by simp [rowB, hn]
      rw [e] at h
      exact qf_same h
    · have e : rowB w (.tup ds) = ds.all isI := by simp [rowB, hn]
      rw [e] at h
      refine ⟨_, rfl, hz, fun i acc M' => M' = M ∧ acc = (ds.take i).map fun d => D.bl (isI d), ⟨rfl, by simp⟩, ?_, ?_⟩
      · rintro i acc d _ hd _ ⟨rfl, rfl⟩
        refine yes ⟨_, rfl, isint_inM (h3 d (List.mem_of_getElem? hd)) ⟨rfl, ?_⟩⟩
        rw [List.take_succ, hd, List.map_append]
        rfl
      · rintro acc _ _ ⟨rfl, rfl⟩
        refine ⟨ds.map isI, by simp, qf_same ?_⟩
        rw [List.all_map]
        exact h
  | @ref a co hm => cases co <;> exact yes (yes (qf_same h))
  | _ => exact yes (yes (qf_same h))

/-! row_text(row) -/
/-- the written form of a row -/
def rowT (ns : List Int) : PySem.Str := Txt.join " " (ns.map fun n => numT n)
theorem numT_len {i : Int} (h : i.natAbs < 10 ^ 200) : (numT i).length ≤ 201 := by
  rw [len_tl, tl_int]
  unfold intL
  have := numL_len (n := i.natAbs) (k := 200) (by decide) h
  split
  · simp; omega
  · omega
theorem sum_le_mul {l : List Nat} {k : Nat} (h : ∀ x ∈ l, x ≤ k) : l.sum ≤ l.length * k := by
  induction l with
  | nil => simp
  | cons x xs ih =>
    have h1 := h x (by simp)
    have h2 := ih fun y hy => h y (by simp [hy])
    rw [List.sum_cons, List.length_cons, Nat.add_mul, Nat.one_mul]
    omega
theorem rowT_room {ns : List Int} (hz : ns.length ≤ 100) (h : ∀ n ∈ ns, n.natAbs < 10 ^ 200) : ((ns.map fun n => numT n).map (·.length)).sum + (ns.map fun n => numT n).length * (" " : PySem.Str).length ≤ 16777216 := by
  have h1 : ((ns.map fun n => numT n).map (·.length)).sum ≤ ((ns.map fun n => numT n).map (·.length)).length * 201 := sum_le_mul fun x hx => by
    simp only [List.mem_map] at hx
    obtain ⟨_, ⟨n, hn, rfl⟩, rfl⟩ := hx
    exact numT_len (h n hn)
  simp only [List.length_map] at h1 ⊢
  have h2 : (" " : PySem.Str).length = 1 := rfl
  rw [h2]
  omega
@[irreducible] def S_row_text (x : D) (M : Mem) (Q : DK) (_ : DXK) : Prop := ∃ ns : List Int, x = .tup (ns.map .int) ∧ ns.length ≤ 100 ∧ (∀ n ∈ ns, n.natAbs < 10 ^ 200) ∧ Q (.str (rowT ns)) M
def sp_row_text : DSp := spk1 S_row_text
theorem rowtext_in {ns : List Int} {M : Mem} {Q : DK} {E : DXK} (hz : ns.length ≤ 100) (h : ∀ n ∈ ns, n.natAbs < 10 ^ 200) (q : Q (.str (rowT ns)) M) : S_row_text (.tup (ns.map .int)) M Q E := by
  unfold S_row_text
  exact ⟨ns, rfl, hz, h, q⟩
def t_row_text : DTS :=
  dRet (dSM dJoin (dC (.str " ")) (dCons (dLc (diSeq (dVar 0)) (.nm 1) (dYes) (dCall sp_number_text [] wNo (dCons (dVar 1) (dNil))) [1]) (dNil)))
theorem rd_row_text : ∀ ds M Q E, sp_row_text ds M Q E → t_row_text { nx := fun _ M' => QF Q .non M', rt := QF Q } (dstart 2 ds) M := rd1 fun x M Q E h => by
  unfold S_row_text at h
  obtain ⟨ns, rfl, hz, hn, h⟩ := h
  refine ⟨_, rfl, by simp only [List.length_map]; exact Nat.le_trans hz (by decide), fun i acc M' => M' = M ∧ acc = (ns.take i).map fun n => D.str (numT n), ⟨rfl, by simp⟩, ?_, ?_⟩
  · rintro i acc d _ hd _ ⟨rfl, rfl⟩
    rw [List.getElem?_map] at hd
    obtain ⟨v, hv, rfl⟩ := Option.map_eq_some_iff.mp hd
    refine yes ⟨_, rfl, text_in (hn v (List.mem_of_getElem? hv)) ⟨rfl, ?_⟩⟩
    rw [List.take_succ, hv, List.map_append]
    rfl
  · rintro acc _ _ ⟨rfl, rfl⟩
    refine ⟨_, ns.map fun n => numT n, rfl, ?_, rowT_room hz hn, qf_same h⟩
    rw [List.length_map, List.take_length]
    exact .inl (by simp)

/-! read_words(words) -/
@[irreducible] def S_read_words (x : D) (M : Mem) (Q : DK) (_ : DXK) : Prop := ∃ ys : List PySem.Str, LstOf x M (ys.map .str) ∧ ys.length ≤ sizeLine ∧ (∀ y ∈ ys, y.length ≤ sizeLine) ∧ Q (.tup (wordsD ys)) M
def sp_read_words : DSp := spk1 S_read_words
theorem readwords_in {x : D} {ys : List PySem.Str} {M : Mem} {Q : DK} {E : DXK} (hx : LstOf x M (ys.map .str)) (hz : ys.length ≤ sizeLine) (h : ∀ y ∈ ys, y.length ≤ sizeLine) (q : Q (.tup (wordsD ys)) M) : S_read_words x M Q E := by
  unfold S_read_words
  exact ⟨ys, hx, hz, h, q⟩
theorem strs_get {ys : List PySem.Str} {i : Nat} {d : D} (h : (ys.map D.str)[i]? = some d) : ∃ y, ys[i]? = some y ∧ d = .str y := by
  rw [List.getElem?_map] at h
  obtain ⟨r, hr, rfl⟩ := Option.map_eq_some_iff.mp h
  exact ⟨r, hr, rfl⟩
def t_read_words : DTS :=
  dRet (dCB (r1 dTupF) (dCons (dLc (diSeq (dVar 0)) (.nm 1) (dYes) (dCall sp_read_number [] wNo (dCons (dVar 1) (dNil))) [1]) (dNil)))
theorem rd_read_words : ∀ ds M Q E, sp_read_words ds M Q E → t_read_words { nx := fun _ M' => QF Q .non M', rt := QF Q } (dstart 2 ds) M := rd1 fun x M Q E h => by
  unfold S_read_words at h
  obtain ⟨ys, hx, hz, hy, h⟩ := h
  refine ⟨_, rfl, comp_list hx (by simpa using hz) (fun i acc M' => M' = M ∧ acc = wordsD (ys.take i)) ?_ ⟨⟨rfl, rfl⟩, ?_, ?_⟩⟩
  · rintro _ _ _ ⟨rfl, _⟩
    exact hx
  · rintro i acc d M hd _ ⟨rfl, rfl⟩
    obtain ⟨y, hy', rfl⟩ := strs_get hd
    refine yes ⟨_, rfl, readnum_in (hy y (List.mem_of_getElem? hy')) ⟨rfl, ?_⟩⟩
    rw [List.take_succ, hy']
    show _ = wordsD (_ ++ [y])
    unfold wordsD
    rw [List.map_append]
    rfl
  · rintro acc M _ ⟨rfl, rfl⟩
    rw [List.length_map, List.take_length]
    exact ⟨_, Seq.lst, qf_same h⟩

/-! read_row(text, width) -/
@[irreducible] def S_read_row (x y : D) (M : Mem) (Q : DK) (_ : DXK) : Prop := ∃ (z : PySem.Str) (w : Int), x = .str z ∧ y = .int w ∧ z.length + 2 ≤ sizeLine ∧ Q (rowOfD w z) M
def sp_read_row : DSp := spk2 S_read_row
theorem readrow_in {z : PySem.Str} {w : Int} {M : Mem} {Q : DK} {E : DXK} (hz : z.length + 2 ≤ sizeLine) (q : Q (rowOfD w z) M) : S_read_row (.str z) (.int w) M Q E := by
  unfold S_read_row
  exact ⟨z, w, rfl, rfl, hz, q⟩
def t_read_row : DTS :=
  dSeq (dAsg (dCall sp_read_words [] wNo (dCons (dSM dSplit (dVar 0) (dCons (dC (.str " ")) (dNil))) (dNil))) (dgName 2))
  (dSeq (dIfS (dTruth (dCall sp_is_row [] wNo (dCons (dVar 2) (dCons (dVar 1) (dNil))))) (dRet (dVar 2)) (dNext))
  (dRet (dC .non)))
theorem rd_read_row : ∀ ds M Q E, sp_read_row ds M Q E → t_read_row { nx := fun _ M' => QF Q .non M', rt := QF Q } (dstart 3 ds) M := rd2 fun x y M Q E h => by
  unfold S_read_row at h
  obtain ⟨z, w, rfl, rfl, hz, h⟩ := h
  obtain ⟨h1, h2⟩ := words_room z
  have hwl : (wordsD (words z)).length = (words z).length := by simp [wordsD]
  refine ⟨_, rfl, _, rfl, by decide, hz, readwords_in LstOf.lst (by show (words z).length ≤ _; omega) (fun y hy => Nat.le_trans (h2 y hy) (by omega)) ?_⟩
  refine ⟨_, rfl, _, rfl, isrow_in (typ_tup _) (fun ds e => ?_) ?_⟩
  · cases e
    exact ⟨by show (wordsD (words z)).length ≤ _; omega, wordsD_typ⟩
  · unfold rowOfD at h
    by_cases hb : rowB w (.tup (wordsD (words z))) = true
    · rw [if_pos hb] at h
      exact sure hb ⟨_, rfl, qf_same h⟩
    · rw [if_neg hb] at h
      exact never (Bool.eq_false_iff.mpr hb) (qf_same h)

/-! _law_take(script, box, limit): a number from 0 on, below the limit; the box alone changes -/
@[irreducible] def S_law_take (s b n : D) (M : Mem) (Q : DK) (_ : DXK) : Prop := ∃ (ns : List Int) (a : Addr) (k : Int), s = .ro (ns.map D.int) ∧ b = .ref a ∧ n = .int k ∧ BoxAt M a ∧ 0 < k ∧ k.natAbs.log2 < 9000 ∧
  ∀ v M', 0 ≤ v → v < k → Drawn a M M' → Q (.int v) M'
def sp_law_take : DSp := spk3 S_law_take
theorem take_in {ns : List Int} {a : Addr} {k : Int} {M : Mem} {Q : DK} {E : DXK} (hb : BoxAt M a) (h0 : 0 < k) (h1 : k.natAbs.log2 < 9000) (h : ∀ v M', 0 ≤ v → v < k → Drawn a M M' → Q (.int v) M') :
    S_law_take (.ro (ns.map D.int)) (.ref a) (.int k) M Q E := by
  unfold S_law_take
  exact ⟨ns, a, k, rfl, rfl, rfl, hb, h0, h1, h⟩
def t_law_take : DTS :=
  dSeqC (dIfS (dAnd (dTest (dBin dEq (dBin dIx (dVar 1) (dC (.int 0))) (dC (.int 0)))) (dTest (dBin dLt (dBin dIx (dVar 1) (dC (.int 1))) (dCB (r1 dLen) (dCons (dVar 0) (dNil)))))) (dSeq (dAsg (dCB (r1 dInt) (dCons (dBin dIx (dVar 0) (dBin dIx (dVar 1) (dC (.int 1)))) (dNil))) (dgName 3))
  (dSeq (dAsg (dCB (r1 dAbs) (dCons (dVar 3) (dNil))) (dgName 4))
  (dSeqC (dIfS (dTest (dBin dLt (dVar 4) (dBin dPow (dC (.int 10)) (dC (.int 18))))) (dSeq (dAsg (dBin dMod (dCB (r1 dInt) (dCons (dBin dMul (dBin dAdd (dBin dAdd (dBin dMul (dC (.int 2)) (dVar 4)) (dCB (r1 dInt) (dCons (dBin dLt (dVar 3) (dC (.int 0))) (dNil)))) (dC (.int 1))) (dBin dAdd (dC (.int 1000000007)) (dBin dMul (dC (.int 2)) (dBin dIx (dVar 1) (dC (.int 1)))))) (dNil))) (dC (.int 2147483647))) (dgName 4))
  (dAsg (dBin dMod (dCB (r1 dInt) (dCons (dBin dMul (dVar 4) (dVar 4)) (dNil))) (dC (.int 998244353))) (dgName 4))) (dNext))
  (dSeq (dAsg (dVar 4) (dgSub (dVar 1) (dC (.int 0))))
  (dAsg (dBin dAdd (dBin dIx (dVar 1) (dC (.int 1))) (dC (.int 1))) (dgSub (dVar 1) (dC (.int 1)))))))) (dNext))
  (dSeq (dAsg (dBin dMod (dCB (r1 dInt) (dCons (dBin dIx (dVar 1) (dC (.int 0))) (dNil))) (dVar 2)) (dgName 5))
  (dSeq (dAsg (dBin dFdiv (dBin dIx (dVar 1) (dC (.int 0))) (dVar 2)) (dgSub (dVar 1) (dC (.int 0))))
  (dRet (dVar 5))))
theorem rd_law_take : ∀ ds M Q E, sp_law_take ds M Q E → t_law_take { nx := fun _ M' => QF Q .non M', rt := QF Q } (dstart 6 ds) M := rd3 fun s b n M Q E h => by
  unfold S_law_take at h
  obtain ⟨ns, a, k, rfl, rfl, rfl, ⟨l, i, hb, hl, hi⟩, h0, h1, h⟩ := h
  refine ⟨fun σ' M' => ∃ (l i : Int) (x3 x4 : Option D), σ' = [some (.ro (ns.map D.int)), some (.ref a), some (.int k), x3, x4, none] ∧ M' a = some (.lst [.int l, .int i]) ∧ 0 ≤ l ∧ 0 ≤ i ∧ Only a M M', ?_, ?_⟩
  · refine ⟨_, rfl, _, _, hb, rfl, byc (fun _ => ?_) fun _ => no ⟨l, i, _, _, rfl, hb, hl, hi, .refl⟩⟩
    refine ⟨_, rfl, _, _, hb, rfl, _, rfl, byc (fun hlt => ?_) fun _ => ⟨l, i, _, _, rfl, hb, hl, hi, .refl⟩⟩
    have hlt : i < ns.length := by simpa using hlt
    obtain ⟨v, hv⟩ := atI_ints hi hlt
    refine ⟨_, rfl, _, rfl, _, _, hb, rfl, _, hv, _, rfl, ?_⟩
    refine ⟨fun σ' M' => ∃ left : Int, σ' = [some (.ro (ns.map D.int)), some (.ref a), some (.int k), some (.int v), some (.int left), none] ∧ M' = M ∧ 0 ≤ left, ?_, ?_⟩
    · have hav : 0 ≤ (v.natAbs : Int) := by omega
      refine ⟨_, rfl, ⟨by decide, by decide, by decide⟩, byc (fun hs => ?_) fun _ => ⟨_, rfl, rfl, hav⟩⟩
      have hs : (v.natAbs : Int) < 10 ^ 18 := hs
      generalize (v.natAbs : Int) = left at hav hs
      refine ⟨_, rfl, .inl (.inl ⟨by decide, by decide⟩), _, rfl, _, rfl, _, _, hb, rfl, .inl (.inl ⟨by decide, by decide⟩), .inl (.inl ?_), by decide, ?_⟩
      · split <;> omega
      refine ⟨_, rfl, _, rfl, .inl (.inl ?_), by decide, ?_⟩
      · have h1 := Int.emod_nonneg ((2 * left + (if decide (v < 0) = true then 1 else 0) + 1) * (1000000007 + 2 * i)) (show (2147483647 : Int) ≠ 0 by decide)
        have h2 := Int.emod_lt_of_pos ((2 * left + (if decide (v < 0) = true then 1 else 0) + 1) * (1000000007 + 2 * i)) (show (0 : Int) < 2147483647 by decide)
        omega
      exact ⟨_, rfl, rfl, Int.emod_nonneg _ (by decide)⟩
    · rintro _ _ ⟨left, rfl, rfl, h0⟩
      refine ⟨_, rfl, _, rfl, a, _, 0, 0, rfl, rfl, hb, rfl, ?_⟩
      refine ⟨_, rfl, _, _, mset_same, rfl, _, rfl, a, _, 1, 1, rfl, rfl, mset_same, rfl, ?_⟩
      exact ⟨left, i + 1, _, _, rfl, mset_same, h0, by omega, Only.refl.mset.mset⟩
  · rintro _ M' ⟨l, i, x3, x4, rfl, hb, hl, hi, ho⟩
    refine ⟨_, rfl, _, _, hb, rfl, _, rfl, h0, ?_⟩
    refine ⟨_, rfl, _, _, hb, rfl, _, rfl, ⟨h0, h1⟩, _, rfl, a, _, 0, 0, rfl, rfl, hb, rfl, _, rfl, qf_same ?_⟩
    exact h _ _ (Int.emod_nonneg _ (by omega)) (Int.emod_lt_of_pos _ h0) ⟨⟨_, _, mset_same, Int.ediv_nonneg hl (by omega), hi⟩, ho.mset⟩

/-! _law_number(script, box): an integer of at most 41 digits -/
@[irreducible] def S_law_number (s b : D) (M : Mem) (Q : DK) (_ : DXK) : Prop := ∃ (ns : List Int) (a : Addr), s = .ro (ns.map D.int) ∧ b = .ref a ∧ BoxAt M a ∧
  ∀ v M', v.natAbs ≤ 10 ^ 40 → Drawn a M M' → Q (.int v) M'
def sp_law_number : DSp := spk2 S_law_number
theorem number_in {ns : List Int} {a : Addr} {M : Mem} {Q : DK} {E : DXK} (hb : BoxAt M a) (h : ∀ v M', v.natAbs ≤ 10 ^ 40 → Drawn a M M' → Q (.int v) M') :
    S_law_number (.ro (ns.map D.int)) (.ref a) M Q E := by
  unfold S_law_number
  exact ⟨ns, a, rfl, rfl, hb, h⟩
def t_law_number : DTS :=
  dSeq (dAsg (dCall sp_law_take [] wNo (dCons (dVar 0) (dCons (dVar 1) (dCons (dC (.int 6)) (dNil))))) (dgName 2))
  (dSeq (dIfS (dTest (dBin dLt (dVar 2) (dC (.int 4)))) (dRet (dBin dIx (dLst (dCons (dC (.int 0)) (dCons (dC (.int 1)) (dCons (dC (.int 2)) (dCons (dUn dNeg (dC (.int 1))) (dNil)))))) (dVar 2))) (dNext))
  (dSeq (dAsg (dCall sp_law_take [] wNo (dCons (dVar 0) (dCons (dVar 1) (dCons (dBin dPow (dC (.int 10)) (dC (.int 40))) (dNil))))) (dgName 3))
  (dSeq (dIfS (dTest (dBin dEq (dVar 2) (dC (.int 4)))) (dRet (dVar 3)) (dNext))
  (dRet (dBin dSub (dUn dNeg (dC (.int 1))) (dVar 3))))))
theorem rd_law_number : ∀ ds M Q E, sp_law_number ds M Q E → t_law_number { nx := fun _ M' => QF Q .non M', rt := QF Q } (dstart 4 ds) M := rd2 fun s b M Q E h => by
  unfold S_law_number at h
  obtain ⟨ns, a, rfl, rfl, hb, h⟩ := h
  refine ⟨_, rfl, _, rfl, take_in hb (by decide) (by decide) fun v M1 h0 h1 d1 => ?_⟩
  refine ⟨_, rfl, byc (fun hv => ?_) fun hv => ?_⟩
  · have : v = 0 ∨ v = 1 ∨ v = 2 ∨ v = 3 := by omega
    rcases this with rfl | rfl | rfl | rfl <;> exact ⟨by decide, _, rfl, _, rfl, qf_same (h _ _ (by decide) d1)⟩
  · refine ⟨_, rfl, _, rfl, ⟨by decide, by decide, by decide⟩, take_in d1.box (by decide) (by decide) fun w M2 h2 h3 d2 => ?_⟩
    have h3 : w < 10 ^ 40 := h3
    refine ⟨_, rfl, byc (fun hv => ?_) fun hv => ?_⟩
    · exact ⟨_, rfl, qf_same (h _ _ (by omega) (d1.trans d2))⟩
    · exact ⟨_, rfl, qf_same (h _ _ (by omega) (d1.trans d2))⟩

/-! _law_width(script, box): a width from 1 to 8 -/
@[irreducible] def S_law_width (s b : D) (M : Mem) (Q : DK) (_ : DXK) : Prop := ∃ (ns : List Int) (a : Addr), s = .ro (ns.map D.int) ∧ b = .ref a ∧ BoxAt M a ∧
  ∀ (w : Nat) M', 1 ≤ w → w ≤ 8 → Drawn a M M' → Q (.int w) M'
def sp_law_width : DSp := spk2 S_law_width
theorem width_in {ns : List Int} {a : Addr} {M : Mem} {Q : DK} {E : DXK} (hb : BoxAt M a) (h : ∀ (w : Nat) M', 1 ≤ w → w ≤ 8 → Drawn a M M' → Q (.int w) M') :
    S_law_width (.ro (ns.map D.int)) (.ref a) M Q E := by
  unfold S_law_width
  exact ⟨ns, a, rfl, rfl, hb, h⟩
def t_law_width : DTS :=
  dSeq (dAsg (dBin dIx (dLst (dCons (dC (.int 2)) (dCons (dC (.int 3)) (dCons (dC (.int 1)) (dCons (dC (.int 4)) (dCons (dC (.int 2)) (dCons (dC (.int 3)) (dCons (dC (.int 5)) (dCons (dC (.int 8)) (dNil)))))))))) (dCall sp_law_take [] wNo (dCons (dVar 0) (dCons (dVar 1) (dCons (dC (.int 8)) (dNil)))))) (dgName 2))
  (dSeqC (dIfS (dTest (dBin dEq (dVar 2) (dC (.int 8)))) (dAsg (dBin dAdd (dC (.int 5)) (dCall sp_law_take [] wNo (dCons (dVar 0) (dCons (dVar 1) (dCons (dC (.int 4)) (dNil)))))) (dgName 2)) (dNext))
  (dRet (dVar 2)))
theorem rd_law_width : ∀ ds M Q E, sp_law_width ds M Q E → t_law_width { nx := fun _ M' => QF Q .non M', rt := QF Q } (dstart 3 ds) M := rd2 fun s b M Q E h => by
  unfold S_law_width at h
  obtain ⟨ns, a, rfl, rfl, hb, h⟩ := h
  refine ⟨by decide, _, rfl, _, rfl, take_in hb (by decide) (by decide) fun v M1 h0 h1 d1 => ?_⟩
  have done : ∀ (w : Int) M', 1 ≤ w → w ≤ 8 → Drawn a M M' → QF Q (.int w) M' := fun w M' a b d => by
    obtain ⟨k, rfl⟩ : ∃ k : Nat, w = k := ⟨w.toNat, by omega⟩
    exact qf_same (h k M' (by omega) (by omega) d)
  have go : ∃ u : Int, 1 ≤ u ∧ u ≤ 8 ∧ atI [D.int 2, .int 3, .int 1, .int 4, .int 2, .int 3, .int 5, .int 8] v = some (.int u) := by
    have : v = 0 ∨ v = 1 ∨ v = 2 ∨ v = 3 ∨ v = 4 ∨ v = 5 ∨ v = 6 ∨ v = 7 := by omega
    rcases this with rfl | rfl | rfl | rfl | rfl | rfl | rfl | rfl <;> exact ⟨_, by decide, by decide, rfl⟩
  obtain ⟨u, u0, u1, e⟩ := go
  refine ⟨_, e, ?_⟩
  refine ⟨fun σ' M' => ∃ u : Int, σ' = [some (.ro (ns.map D.int)), some (.ref a), some (.int u)] ∧ 1 ≤ u ∧ u ≤ 8 ∧ Drawn a M M', ?_, ?_⟩
  · refine ⟨_, rfl, byc (fun _ => ?_) fun _ => ⟨u, rfl, u0, u1, d1⟩⟩
    exact ⟨_, rfl, _, rfl, take_in d1.box (by decide) (by decide) fun v M2 h2 h3 d2 => ⟨_, rfl, by omega, by omega, d1.trans d2⟩⟩
  · rintro _ M' ⟨u, rfl, h2, h3, d⟩
    exact ⟨_, rfl, done _ _ h2 h3 d⟩

/-! _law_digits(number): the written form, below 60 digits -/
@[irreducible] def S_law_digits (x : D) (M : Mem) (Q : DK) (_ : DXK) : Prop := ∃ i : Int, x = .int i ∧ i.natAbs < 10 ^ 60 ∧ Q (.str (numT i)) M
def sp_law_digits : DSp := spk1 S_law_digits
theorem digits_in {i : Int} {M : Mem} {Q : DK} {E : DXK} (h : i.natAbs < 10 ^ 60) (q : Q (.str (numT i)) M) : S_law_digits (.int i) M Q E := by
  unfold S_law_digits
  exact ⟨i, rfl, h, q⟩
def t_law_digits : DTS :=
  dSeq (dAsg (dC (.str "")) (dgName 1))
  (dSeq (dAsg (dCB (r1 dAbs) (dCons (dVar 0) (dNil))) (dgName 2))
  (dSeq (dFor (diRange1 (dCons (dC (.int 60)) (dNil))) (dgName 3) (dIfS (dOr (dTest (dBin dGt (dVar 2) (dC (.int 0)))) (dTest (dBin dEq (dVar 3) (dC (.int 0))))) (dSeq (dAsg (dBin dAdd (dBin dIx (dC (.str "0123456789")) (dBin dMod (dCB (r1 dInt) (dCons (dVar 2) (dNil))) (dC (.int 10)))) (dVar 1)) (dgName 1))
  (dAsg (dBin dFdiv (dVar 2) (dC (.int 10))) (dgName 2))) (dNext)))
  (dSeqC (dIfS (dTest (dBin dLt (dVar 0) (dC (.int 0)))) (dAsg (dBin dAdd (dC (.str "-")) (dVar 1)) (dgName 1)) (dNext))
  (dRet (dVar 1)))))
theorem rd_law_digits : ∀ ds M Q E, sp_law_digits ds M Q E → t_law_digits { nx := fun _ M' => QF Q .non M', rt := QF Q } (dstart 4 ds) M := rd1 fun x M Q E h => by
  unfold S_law_digits at h
  obtain ⟨i, rfl, hi, h⟩ := h
  obtain ⟨N, hN⟩ : ∃ N, i.natAbs = N := ⟨_, rfl⟩
  refine ⟨_, rfl, ?_⟩
  refine ⟨⟨by decide, by decide⟩, fun k σ' M' => ∃ (z : PySem.Str) (x3 : Option D) (r : Nat), σ' = [some (.int i), some (.str z), some (.int (r : Int)), x3] ∧ M' = M ∧ r = N / 10 ^ k ∧ (tl z).length ≤ k ∧
    (((k = 0 ∨ 0 < r) ∧ numL N = numL r ++ tl z) ∨ (0 < k ∧ r = 0 ∧ numL N = tl z)), ⟨PySem.Str.ofString "", none, i.natAbs, rfl, rfl, by rw [hN]; simp, by decide, .inl ⟨.inl rfl, by rw [hN, tl_ofString]; simp⟩⟩, ?_, ?_⟩
  · rintro k d _ M' hd ⟨z, x3, r, rfl, rfl, hr, hz, inv⟩
    obtain ⟨hk, rfl⟩ := rgD_get hd
    have step : N / 10 ^ (k + 1) = r / 10 := by rw [hr, Nat.pow_succ, Nat.div_div_eq_div_mul]
    -- one sign more
    have m0 : 0 ≤ (r : Int) % 10 := Int.emod_nonneg _ (by decide)
    have m1 : (r : Int) % 10 < 10 := Int.emod_lt_of_pos _ (by decide)
    have em : ((r : Int) % 10).toNat = r % 10 := by omega
    have ed : (r : Int) / 10 = ((r / 10 : Nat) : Int) := by omega
    have hl : (PySem.Str.mk #[48 + ((r : Int) % 10).toNat]).length + z.length ≤ sizeLine := by
      rw [len_tl z]
      exact Nat.le_trans (show 1 + (tl z).length ≤ 100 by omega) (by decide)
    have hz2 : (tl (PySem.Str.mk #[48 + ((r : Int) % 10).toNat] ++ z)).length ≤ k + 1 := by
      rw [tl_append]
      show ([48 + ((r : Int) % 10).toNat] ++ tl z).length ≤ k + 1
      simp; omega
    have grow : (k = 0 ∨ 0 < r) → numL N = numL r ++ tl z → ((k + 1 = 0 ∨ 0 < r / 10) ∧ numL N = numL (r / 10) ++ tl (PySem.Str.mk #[48 + ((r : Int) % 10).toNat] ++ z)) ∨ (0 < k + 1 ∧ r / 10 = 0 ∧ numL N = tl (PySem.Str.mk #[48 + ((r : Int) % 10).toNat] ++ z)) := by
      intro h1 h2
      rw [tl_append, em]
      show ((k + 1 = 0 ∨ 0 < r / 10) ∧ numL N = numL (r / 10) ++ ([48 + r % 10] ++ tl z)) ∨ (0 < k + 1 ∧ r / 10 = 0 ∧ numL N = [48 + r % 10] ++ tl z)
      by_cases h10 : 10 ≤ r
      · refine .inl ⟨.inr (by omega), ?_⟩
        rw [h2, numL_step h10, List.append_assoc]
      · refine .inr ⟨by omega, by omega, ?_⟩
        rw [h2, numL_lt (by omega)]
        have : r % 10 = r := by omega
        rw [this]
    refine ⟨_, rfl, byc (fun hpos => ?_) fun hz0 => ⟨_, rfl, byc (fun hk0 => ?_) fun hk0 => ?_⟩⟩
    · rcases inv with ⟨h1, h2⟩ | ⟨_, h2, _⟩
      · exact yes ⟨_, rfl, by decide, by decide, _, digit_at m0 m1, _, rfl, hl, _, rfl, ⟨by decide, by decide⟩, _, _, r / 10, by rw [ed]; rfl, rfl, step.symm, hz2, grow h1 h2⟩
      · exact absurd hpos (by omega)
    · rcases inv with ⟨h1, h2⟩ | ⟨h1, _, _⟩
      · exact ⟨_, rfl, by decide, by decide, _, digit_at m0 m1, _, rfl, hl, _, rfl, ⟨by decide, by decide⟩, _, _, r / 10, by rw [ed]; rfl, rfl, step.symm, hz2, grow h1 h2⟩
      · exact absurd hk0 (by omega)
    · have r0 : r = 0 := by omega
      refine ⟨z, _, r, rfl, rfl, by rw [step, r0], by omega, ?_⟩
      rcases inv with ⟨h1, h2⟩ | ⟨h1, _, h2⟩
      · exact absurd h1 (by omega)
      · exact .inr ⟨by omega, r0, h2⟩
  · rintro _ M9 ⟨z, x3, r, rfl, rfl, hr, hz, inv⟩
    rw [rgD_len] at hz inv hr
    have h60 : r = 0 := by rw [hr]; exact Nat.div_eq_of_lt (by rw [← hN]; exact hi)
    subst h60
    have e : numL N = tl z := by
      rcases inv with ⟨h1, h2⟩ | ⟨_, _, h2⟩
      · exact absurd h1 (by decide)
      · exact h2
    have hz' : (tl z).length ≤ 60 := hz
    refine ⟨fun σ' M2 => ∃ x2 : Option D, σ' = [some (.int i), some (.str (numT i)), x2, x3] ∧ M2 = M9, ?_, ?_⟩
    · refine ⟨_, rfl, byc (fun hn => ?_) fun hn => ?_⟩
      · have e2 : (("-" : PySem.Str) ++ z) = numT i := by
          refine ext_tl ?_
          rw [tl_append, tl_int]
          unfold intL
          rw [if_pos hn, hN, e]
          rfl
        refine ⟨_, rfl, ?_, _, by rw [← e2]; rfl, rfl⟩
        rw [len_tl z]
        exact Nat.le_trans (show 1 + (tl z).length ≤ 100 by omega) (by decide)
      · have e2 : z = numT i := by
          refine ext_tl ?_
          rw [tl_int]
          unfold intL
          rw [if_neg hn, hN, e]
        exact ⟨_, by rw [← e2], rfl⟩
    · rintro _ _ ⟨x2, rfl, rfl⟩
      exact ⟨_, rfl, qf_same h⟩

/-! _law_value(text) -/
@[irreducible] def S_law_value (x : D) (M : Mem) (Q : DK) (_ : DXK) : Prop := ∃ z : PySem.Str, x = .str z ∧ z.length ≤ sizeLine ∧ Q (optI (numOf z)) M
def sp_law_value : DSp := spk1 S_law_value
theorem lawval_in {z : PySem.Str} {M : Mem} {Q : DK} {E : DXK} (h : z.length ≤ sizeLine) (q : Q (optI (numOf z)) M) : S_law_value (.str z) M Q E := by
  unfold S_law_value
  exact ⟨z, rfl, h, q⟩
def t_law_value : DTS :=
  dSeq (dAsg (dVar 0) (dgName 1))
  (dSeqC (dIfS (dTest (dBin dEq (dSlice dSl (dVar 0) (dNoPart) (dPart (dC (.int 1)))) (dC (.str "-")))) (dAsg (dSlice dSl (dVar 0) (dPart (dC (.int 1))) (dNoPart)) (dgName 1)) (dNext))
  (dSeq (dIfS (dOr (dTest (dBin dEq (dCB (r1 dLen) (dCons (dVar 1) (dNil))) (dC (.int 0)))) (dTest (dBin dGt (dCB (r1 dLen) (dCons (dVar 1) (dNil))) (dC (.int 60))))) (dRet (dC .non)) (dNext))
  (dSeqC (dIfS (dAnd (dTest (dBin dEq (dSlice dSl (dVar 1) (dNoPart) (dPart (dC (.int 1)))) (dC (.str "0")))) (dTest (dBin dNe (dVar 0) (dC (.str "0"))))) (dRet (dC .non)) (dNext))
  (dSeq (dAsg (dC (.int 0)) (dgName 2))
  (dSeq (dFor (diSeq (dVar 1)) (dgName 3) (dSeq (dAsg (dSM dFind (dC (.str "0123456789")) (dCons (dVar 3) (dNil))) (dgName 4))
  (dSeq (dIfS (dTest (dBin dLt (dVar 4) (dC (.int 0)))) (dRet (dC .non)) (dNext))
  (dAsg (dBin dAdd (dBin dMul (dC (.int 10)) (dVar 2)) (dVar 4)) (dgName 2)))))
  (dSeq (dIfS (dTest (dBin dEq (dSlice dSl (dVar 0) (dNoPart) (dPart (dC (.int 1)))) (dC (.str "-")))) (dRet (dBin dSub (dC (.int 0)) (dVar 2))) (dNext))
  (dRet (dVar 2))))))))
theorem rd_law_value : ∀ ds M Q E, sp_law_value ds M Q E → t_law_value { nx := fun _ M' => QF Q .non M', rt := QF Q } (dstart 5 ds) M := rd1 fun x M Q E h => by
  unfold S_law_value at h
  obtain ⟨z, rfl, hz, h⟩ := h
  have hcut : ((cutS z none (some 1)) = ("-" : PySem.Str)) ↔ (tl z).head? = some 45 := by
    rw [str_eq, show ((1 : Int)) = ((1 : Nat) : Int) from rfl, tl_upto, show tl ("-" : PySem.Str) = [45] by decide +kernel]
    cases tl z <;> simp
  have ez : (z = ("0" : PySem.Str)) ↔ tl z = [48] := by
    rw [str_eq, show tl ("0" : PySem.Str) = [48] by decide +kernel]
  refine ⟨_, rfl, fun σ' M' => ∃ y : PySem.Str, σ' = [some (.str z), some (.str y), none, none, none] ∧ M' = M ∧ tl y = digL (tl z) ∧ y.length ≤ z.length, ?_, ?_⟩
  · refine ⟨_, rfl, hz, byc (fun h1 => ⟨_, rfl, hz, _, rfl, rfl, ?_, cutS_length _ _ _⟩) fun h1 => ⟨z, rfl, rfl, ?_, Nat.le_refl _⟩⟩
    · rw [show ((1 : Int)) = ((1 : Nat) : Int) from rfl, tl_from, digL, if_pos (hcut.mp h1), List.drop_one]
    · rw [digL, if_neg fun e => h1 (hcut.mpr e)]
  rintro _ M ⟨y, rfl, rfl, hy, hyl⟩
  have hn := numOfL_by (tl z)
  rw [← hy] at hn
  have hlen := len_tl y
  have none : (numOf z = .none) → QF Q .non M := fun e => by
    rw [e] at h
    exact qf_same h
  have hye : (cutS y Option.none (some 1) = ("0" : PySem.Str)) ↔ (tl y).head? = some 48 := by
    rw [str_eq, show ((1 : Int)) = ((1 : Nat) : Int) from rfl, tl_upto, show tl ("0" : PySem.Str) = [48] by decide +kernel]
    cases tl y <;> simp
  refine ⟨_, rfl, by omega, byc (fun h1 => yes (none ?_)) fun h1 => ⟨_, rfl, by omega, byc (fun h2 => none ?_) fun h2 => ?_⟩⟩
  · refine hn.trans (if_neg fun hx => ?_)
    omega
  · refine hn.trans (if_neg fun hx => ?_)
    omega
  refine ⟨fun σ' M' => σ' = [some (.str z), some (.str y), Option.none, Option.none, Option.none] ∧ M' = M ∧ ¬ ((tl y).head? = some 48 ∧ tl z ≠ [48]), ?_, ?_⟩
  · refine ⟨_, rfl, by omega, byc (fun h3 => ⟨_, rfl, bync (fun h4 => ?_) fun h4 => ⟨rfl, rfl, fun hx => hx.2 (ez.mp h4)⟩⟩) fun h3 => no ⟨rfl, rfl, fun hx => h3 (hye.mpr hx.1)⟩⟩
    exact none (hn.trans (if_neg fun hx => hx.2.2.2 ⟨hye.mp h3, fun e => h4 (ez.mpr e)⟩))
  rintro _ M ⟨rfl, rfl, h5⟩
  refine ⟨_, rfl, fun i σ' M' => ∃ x3 x4, σ' = [some (.str z), some (.str y), some (.int (NumText.digitsVal ((tl y).take i) : Nat)), x3, x4] ∧ M' = M ∧ digs ((tl y).take i) = true, ⟨_, _, rfl, rfl, rfl⟩, ?_, ?_⟩
  · rintro i d _ M hd ⟨x3, x4, rfl, rfl, hdg⟩
    obtain ⟨c, hc, rfl⟩ := chD_get hd
    by_cases hcd : 48 ≤ c ∧ c ≤ 57
    · have hf : Txt.find "0123456789" ⟨#[c]⟩ = (c : Int) - 48 := by rw [find_digit, if_pos hcd]
      refine ⟨_, rfl, ⟨_, rfl, byc (fun hx => ?_) fun _ => ⟨_, rfl, mulL (by decide) (by decide), _, rfl, some (.str ⟨#[c]⟩), some (.int (Txt.find "0123456789" ⟨#[c]⟩)), ?_, rfl, by rw [digs_take hc, hdg]; simp [hcd]⟩⟩⟩
      · have hx : Txt.find "0123456789" ⟨#[c]⟩ < 0 := hx
        omega
      · show [some _, some _, some (D.int (10 * _ + Txt.find "0123456789" ⟨#[c]⟩)), _, some (D.int (Txt.find "0123456789" ⟨#[c]⟩))] = _
        have e : (10 : Int) * ((NumText.digitsVal ((tl y).take i) : Nat) : Int) + ((c : Int) - 48) = ((NumText.digitsVal ((tl y).take i) * 10 + (c - 48) : Nat) : Int) := by omega
        rw [val_take hc, ← e, hf]
    · have hf : Txt.find "0123456789" ⟨#[c]⟩ = -1 := by rw [find_digit, if_neg hcd]
      refine ⟨_, rfl, ⟨_, rfl, byc (fun _ => none (hn.trans (if_neg fun hx => ?_))) fun hx => absurd (show Txt.find "0123456789" ⟨#[c]⟩ < 0 by rw [hf]; decide) hx⟩⟩
      rw [digs_false hc hcd] at hx
      exact absurd hx.2.2.1 (by simp)
  · rintro _ M ⟨x3, x4, rfl, rfl, hdg⟩
    rw [chD_len, List.take_length] at hdg ⊢
    have hs := hn.trans (if_pos ⟨by omega, by omega, hdg, h5⟩)
    have hs : numOf z = _ := hs
    rw [hs] at h
    refine ⟨_, rfl, hz, byc (fun h6 => ?_) fun h6 => ?_⟩
    · rw [if_pos (hcut.mp h6)] at h
      refine ⟨_, rfl, qf_same ?_⟩
      rw [Int.zero_sub]
      exact h
    · rw [if_neg fun e => h6 (hcut.mpr e)] at h
      exact ⟨_, rfl, qf_same h⟩

/-! _law_read(text, width) -/
@[irreducible] def S_law_read (x y : D) (M : Mem) (Q : DK) (_ : DXK) : Prop := ∃ (z : PySem.Str) (w : Int), x = .str z ∧ y = .int w ∧ z.length + 2 ≤ sizeLine ∧ Q (rowOfD w z) M
def sp_law_read : DSp := spk2 S_law_read
theorem lread_in {z : PySem.Str} {w : Int} {M : Mem} {Q : DK} {E : DXK} (hz : z.length + 2 ≤ sizeLine) (q : Q (rowOfD w z) M) : S_law_read (.str z) (.int w) M Q E := by
  unfold S_law_read
  exact ⟨z, w, rfl, rfl, hz, q⟩
theorem optI_non {o : Option Int} (h : isI (optI o) = false) : optI o = .non := by
  cases o with
  | none => rfl
  | some i => cases h
def t_law_read : DTS :=
  dSeq (dAsg (dLc (diSeq (dSM dSplit (dVar 0) (dCons (dC (.str " ")) (dNil)))) (.nm 4) (dYes) (dCall sp_law_value [] wNo (dCons (dVar 4) (dNil))) [4]) (dgName 2))
  (dSeq (dIfS (dTest (dBin dNe (dCB (r1 dLen) (dCons (dVar 2) (dNil))) (dVar 1))) (dRet (dC .non)) (dNext))
  (dSeq (dFor (diSeq (dVar 2)) (dgName 3) (dIfS (dTest (dBin dIs (dVar 3) (dC .non))) (dRet (dC .non)) (dNext)))
  (dRet (dCB (r1 dTupF) (dCons (dVar 2) (dNil))))))
theorem rd_law_read : ∀ ds M Q E, sp_law_read ds M Q E → t_law_read { nx := fun _ M' => QF Q .non M', rt := QF Q } (dstart 5 ds) M := rd2 fun x y M Q E h => by
  unfold S_law_read at h
  obtain ⟨z, w, rfl, rfl, hz, h⟩ := h
  obtain ⟨h1, h2⟩ := words_room z
  have hwl : (wordsD (words z)).length = (words z).length := by simp [wordsD]
  refine ⟨_, rfl, _, rfl, by decide, hz, by show ((words z).map D.str).length ≤ _; simp; omega, fun i acc M' => M' = M ∧ acc = wordsD ((words z).take i), ⟨rfl, rfl⟩, ?_, ?_⟩
  · rintro i acc d M hd _ ⟨rfl, rfl⟩
    obtain ⟨y, hy', rfl⟩ := strs_get hd
    have hy' : (words z)[i]? = some y := hy'
    refine yes ⟨_, rfl, lawval_in (Nat.le_trans (h2 y (List.mem_of_getElem? hy')) (by omega)) ⟨rfl, ?_⟩⟩
    rw [List.take_succ, hy']
    show _ = wordsD (_ ++ [y])
    unfold wordsD
    rw [List.map_append]
    rfl
  rintro acc M _ ⟨rfl, rfl⟩
  rw [List.length_map]
  rw [show (words z).take (Txt.split z " ").length = words z from List.take_length]
  refine ⟨_, rfl, _, rfl, bync (fun hn => ?_) fun hn => ?_⟩
  · have e : rowOfD w z = .non := by
      unfold rowOfD
      rw [rowB_len hn]
      rfl
    rw [e] at h
    exact qf_same h
  refine ⟨_, rfl, fun i σ' M' => ∃ x3, σ' = [some (.str z), some (.int w), some (.lst (wordsD (words z))), x3, none] ∧ M' = M ∧ ((wordsD (words z)).take i).all isI = true, ⟨_, rfl, rfl, rfl⟩, ?_, ?_⟩
  · rintro i d _ M hd ⟨x3, rfl, rfl, hall⟩
    have hd' : (wordsD (words z))[i]? = some d := hd
    have htk : ((wordsD (words z)).take (i + 1)).all isI = isI d := by
      rw [List.take_succ, hd', List.all_append, hall]
      simp
    cases hi : isI d with
    | true =>
      have : isNon d = false := by cases d <;> first | rfl | cases hi
      refine ⟨_, rfl, never this ⟨_, rfl, rfl, by rw [htk, hi]⟩⟩
    | false =>
      have hdn : d = .non := by
        obtain ⟨y, _, rfl⟩ := List.mem_map.mp (List.mem_of_getElem? hd')
        exact optI_non hi
      have e : rowOfD w z = .non := by
        unfold rowOfD
        have : rowB w (.tup (wordsD (words z))) = false := by
          have hf : (wordsD (words z)).all isI = false := List.all_eq_false.mpr ⟨d, List.mem_of_getElem? hd', by rw [hi]; exact Bool.false_ne_true⟩
          show (_ && (wordsD (words z)).all isI) = false
          rw [hf, Bool.and_false]
        rw [this]
        rfl
      rw [e] at h
      rw [hdn]
      exact ⟨_, rfl, yes (qf_same h)⟩
  · rintro _ M ⟨x3, rfl, rfl, hall⟩
    have hall : ((wordsD (words z)).take (wordsD (words z)).length).all isI = true := hall
    rw [List.take_length] at hall
    have e : rowOfD w z = .tup (wordsD (words z)) := by
      unfold rowOfD
      have hn' : ((wordsD (words z)).length : Int) = w := hn
      have : rowB w (.tup (wordsD (words z))) = true := by
        show (decide (((wordsD (words z)).length : Int) = w) && (wordsD (words z)).all isI) = true
        rw [hall, decide_eq_true hn']
        rfl
      rw [if_pos this]
    rw [e] at h
    exact ⟨_, rfl, _, Seq.lst, qf_same h⟩

/-! _law_is_int(value) -/
@[irreducible] def S_law_is_int (x : D) (M : Mem) (Q : DK) (_ : DXK) : Prop := Typ x ∧ Q (.bl (isI x)) M
def sp_law_is_int : DSp := spk1 S_law_is_int
theorem lisint_in {x : D} {M : Mem} {Q : DK} {E : DXK} (h : Typ x) (q : Q (.bl (isI x)) M) : S_law_is_int x M Q E := by
  unfold S_law_is_int
  exact ⟨h, q⟩
def t_law_is_int : DTS :=
  dRet (dAndV (dCB (r2 (dIsi .it)) (dCons (dVar 0) (dCons (dC (.ty "int")) (dNil)))) (dNotV (dCB (r2 (dIsi .bo)) (dCons (dVar 0) (dCons (dC (.ty "bool")) (dNil))))))
theorem rd_law_is_int : ∀ ds M Q E, sp_law_is_int ds M Q E → t_law_is_int { nx := fun _ M' => QF Q .non M', rt := QF Q } (dstart 1 ds) M := rd1 fun x M Q E h => by
  unfold S_law_is_int at h
  obtain ⟨⟨t, ht⟩, h⟩ := h
  have ht' := ht M
  refine ⟨_, rfl, rfl, t, ht', ?_⟩
  cases ht' with
  | int i => exact yes ⟨_, rfl, rfl, .it, .int i, qf_same h⟩
  | bl b => exact yes ⟨_, rfl, rfl, .bo, .bl b, qf_same h⟩
  | @ref a co hm => cases co <;> exact no (qf_same h)
  | _ => exact no (qf_same h)

/-! _law_is_row(value, row), of rows -/
@[irreducible] def S_law_is_row (x y : D) (M : Mem) (Q : DK) (_ : DXK) : Prop := ∃ a b : Row, x = rowD a ∧ y = rowD b ∧ a.length ≤ 1000 ∧ Q (.bl (decide (a = b))) M
def sp_law_is_row : DSp := spk2 S_law_is_row
theorem lisrow_in {a b : Row} {M : Mem} {Q : DK} {E : DXK} (hz : a.length ≤ 1000) (q : Q (.bl (decide (a = b))) M) : S_law_is_row (rowD a) (rowD b) M Q E := by
  unfold S_law_is_row
  exact ⟨a, b, rfl, rfl, hz, q⟩
def t_law_is_row : DTS :=
  dSeq (dIfS (dOr (dNot (dTruth (dCB (r2 (dIsi .tu)) (dCons (dVar 0) (dCons (dC (.ty "tuple")) (dNil)))))) (dTest (dBin dNe (dCB (r1 dLen) (dCons (dVar 0) (dNil))) (dCB (r1 dLen) (dCons (dVar 1) (dNil)))))) (dRet (dC (.bl false))) (dNext))
  (dRet (dAndV (dCB (r1 dAll) (dCons (dLc (diSeq (dVar 0)) (.nm 2) (dYes) (dCall sp_law_is_int [] wNo (dCons (dVar 2) (dNil))) [2]) (dNil))) (dBin dEq (dVar 0) (dVar 1))))
theorem rd_law_is_row : ∀ ds M Q E, sp_law_is_row ds M Q E → t_law_is_row { nx := fun _ M' => QF Q .non M', rt := QF Q } (dstart 3 ds) M := rd2 fun x y M Q E h => by
  unfold S_law_is_row at h
  obtain ⟨a, b, rfl, rfl, hz, h⟩ := h
  refine ⟨_, rfl, rfl, _, .tup _, no ⟨_, rfl, _, rfl, bync (fun hn => ?_) fun hn => ?_⟩⟩
  · have e : decide (a = b) = false := decide_eq_false fun e => hn (by rw [e])
    rw [e] at h
    exact qf_same h
  refine ⟨_, rfl, sz9 (by simpa using hz), fun i acc M' => M' = M ∧ acc = (a.take i).map fun _ => D.bl true, ⟨rfl, rfl⟩, ?_, ?_⟩
  · rintro i acc d M hd _ ⟨rfl, rfl⟩
    rw [List.getElem?_map] at hd
    obtain ⟨v, hv, rfl⟩ := Option.map_eq_some_iff.mp hd
    refine yes ⟨_, rfl, lisint_in (typ_int _) ⟨rfl, ?_⟩⟩
    rw [List.take_succ, hv, List.map_append]
    rfl
  · rintro acc M _ ⟨rfl, rfl⟩
    refine ⟨(a.take (a.map D.int).length).map fun _ => true, by simp, ?_⟩
    refine sure (by simp) ⟨_, rfl, _, rfl, dEq_opt (a := some a) (b := some b) (qf_same ?_)⟩
    have e : decide (some a = some b) = decide (a = b) := by simp
    rw [e]
    exact h

/-! _law_row_string(script, box, width): a text of at most 1000 signs -/
@[irreducible] def S_law_row_string (s b x : D) (M : Mem) (Q : DK) (_ : DXK) : Prop := ∃ (ns : List Int) (a : Addr) (w : Nat), s = .ro (ns.map D.int) ∧ b = .ref a ∧ x = .int w ∧ BoxAt M a ∧ 1 ≤ w ∧ w ≤ 8 ∧
  ∀ (z : PySem.Str) M', z.length ≤ 1000 → Kept a M M' → Q (.str z) M'
def sp_law_row_string : DSp := spk3 S_law_row_string
theorem rowstr_in {ns : List Int} {a : Addr} {w : Nat} {M : Mem} {Q : DK} {E : DXK} (hb : BoxAt M a) (h1 : 1 ≤ w) (h2 : w ≤ 8) (h : ∀ (z : PySem.Str) M', z.length ≤ 1000 → Kept a M M' → Q (.str z) M') :
    S_law_row_string (.ro (ns.map D.int)) (.ref a) (.int w) M Q E := by
  unfold S_law_row_string
  exact ⟨ns, a, w, rfl, rfl, rfl, hb, h1, h2, h⟩
theorem numT_len60 {i : Int} (h : i.natAbs ≤ 10 ^ 40) : (numT i).length ≤ 61 := by
  rw [len_tl, tl_int]
  exact intL_len (Nat.lt_of_le_of_lt h (Nat.pow_lt_pow_right (by decide) (by decide)))
theorem seqIx {i : Int} {n : Nat} (h0 : 0 ≤ i) (h1 : i < n) : seqIndex? i n = some i.toNat := by
  simp only [seqIndex?, if_neg (show ¬ i < 0 by omega)]
  rw [if_pos (by simp; omega)]
/-- what is known of the words ahead of the tries from n on -/
structure R7 (w : Nat) (pick n : Int) (ws : List PySem.Str) : Prop where
  len : ws.length ≤ w + 1
  whole : n ≤ pick → ws.length = w
  each : ∀ y ∈ ws, y.length ≤ 61
theorem R7.skip {w : Nat} {pick n m : Int} {ws : List PySem.Str} (r : R7 w pick n ws) (h : n ≤ m) : R7 w pick m ws := ⟨r.len, fun hp => r.whole (by omega), r.each⟩
theorem R7.room {w : Nat} {pick n : Int} {ws : List PySem.Str} (r : R7 w pick n ws) (hw : w ≤ 8) : (ws.map (·.length)).sum ≤ 9 * 61 ∧ ws.length ≤ 9 := by
  have h1 : (ws.map (·.length)).sum ≤ (ws.map (·.length)).length * 61 := sum_le_mul fun x hx => by
    obtain ⟨y, hy, rfl⟩ := List.mem_map.mp hx
    exact r.each y hy
  have h2 := r.len
  rw [List.length_map] at h1
  have : ws.length * 61 ≤ 9 * 61 := Nat.mul_le_mul_right _ (by omega)
  exact ⟨by omega, by omega⟩
def t_law_row_string : DTS :=
  dSeq (dAsg (dLcC (diRange1 (dCons (dVar 2) (dNil))) (.nm 6) (dYes) (dCall sp_law_digits [] wNo (dCons (dCall sp_law_number [] wNo (dCons (dVar 0) (dCons (dVar 1) (dNil)))) (dNil))) [6]) (dgName 3))
  (dSeq (dAsg (dCall sp_law_take [] wNo (dCons (dVar 0) (dCons (dVar 1) (dCons (dC (.int 10)) (dNil))))) (dgName 4))
  (dSeq (dAsg (dCall sp_law_take [] wNo (dCons (dVar 0) (dCons (dVar 1) (dCons (dVar 2) (dNil))))) (dgName 5))
  (dSeq (dIfS (dTest (dBin dEq (dVar 4) (dC (.int 3)))) (dRet (dSM dJoin (dC (.str ",")) (dCons (dVar 3) (dNil)))) (dNext))
  (dSeqC (dIfS (dTest (dBin dEq (dVar 4) (dC (.int 4)))) (dDrop (dLM dInsert (dVar 3) (dCons (dVar 5) (dCons (dCall sp_law_digits [] wNo (dCons (dCall sp_law_number [] wNo (dCons (dVar 0) (dCons (dVar 1) (dNil)))) (dNil))) (dNil))))) (dNext))
  (dSeqC (dIfS (dTest (dBin dEq (dVar 4) (dC (.int 5)))) (dDrop (dLM dPopAt (dVar 3) (dCons (dVar 5) (dNil)))) (dNext))
  (dSeqC (dIfS (dTest (dBin dEq (dVar 4) (dC (.int 6)))) (dAsg (dBin dIx (dLst (dCons (dC (.str "")) (dCons (dC (.str "-")) (dCons (dC (.str "+1")) (dCons (dC (.str "-0")) (dCons (dC (.str "01")) (dCons (dC (.str "x")) (dCons (dC (.str "1.0")) (dCons (dC (.str "to")) (dCons (dC (.str "None")) (dCons (dC (.str "1\n")) (dNil)))))))))))) (dCall sp_law_take [] wNo (dCons (dVar 0) (dCons (dVar 1) (dCons (dC (.int 10)) (dNil)))))) (dgSub (dVar 3) (dVar 5))) (dNext))
  (dSeqC (dIfS (dTest (dBin dEq (dVar 4) (dC (.int 7)))) (dAsg (dBin dAdd (dC (.str "1")) (dBin dMul (dC (.int 60)) (dC (.str "0")))) (dgSub (dVar 3) (dVar 5))) (dNext))
  (dSeqC (dIfS (dTest (dBin dEq (dVar 4) (dC (.int 8)))) (dDrop (dLM dInsert (dVar 3) (dCons (dVar 5) (dCons (dC (.str "")) (dNil))))) (dNext))
  (dSeqC (dIfS (dTest (dBin dEq (dVar 4) (dC (.int 9)))) (dDrop (dApp (dVar 3) (dCons (dC (.str "")) (dNil)))) (dNext))
  (dRet (dSM dJoin (dC (.str " ")) (dCons (dVar 3) (dNil)))))))))))))
theorem rd_law_row_string : ∀ ds M Q E, sp_law_row_string ds M Q E → t_law_row_string { nx := fun _ M' => QF Q .non M', rt := QF Q } (dstart 7 ds) M := rd3 fun s b x M Q E h => by
  unfold S_law_row_string at h
  obtain ⟨ns, a, w, rfl, rfl, rfl, hb, hw1, hw8, h⟩ := h
  have p60 : (10 : Nat) ^ 40 < 10 ^ 60 := Nat.pow_lt_pow_right (by decide) (by decide)
  refine ⟨_, rfl, ⟨by omega, by omega⟩, ?_⟩
  refine ⟨by rw [rgD_len]; exact sz9 (by omega), fun i acc M' => BoxAt M' a ∧ Only a M M' ∧ acc.length = i ∧ ∃ ws : List PySem.Str, acc = ws.map .str ∧ ∀ y ∈ ws, y.length ≤ 61, ⟨hb, .refl, rfl, [], rfl, by simp⟩, ?_, ?_⟩
  · rintro i _ d M' hd _ ⟨bx, on, hl, ws, rfl, hy⟩
    refine yes ⟨_, rfl, _, rfl, number_in bx fun v M2 hv d2 => digits_in (Nat.lt_of_le_of_lt hv p60) ⟨d2.box, on.trans d2.only, by simpa using hl, ws ++ [numT v], by simp, fun y hy' => ?_⟩⟩
    rcases List.mem_append.mp hy' with h | h
    · exact hy y h
    · simp at h; rw [h]; exact numT_len60 hv
  rintro _ M2 _ ⟨bx2, on2, hl2, ws, rfl, hy⟩
  rw [rgD_len] at hl2
  have hws : ws.length = w := by simpa using hl2
  intro p hp
  have kp2 : Kept a M M2 := Drawn.kept ⟨bx2, on2⟩
  have hap := bx2.ne hp
  have hf := kp2.fresh hp
  have kp3 := kp2.mset (o := .lst (ws.map D.str)) hf hap
  refine ⟨_, rfl, _, rfl, take_in kp3.box (by decide) (by decide) fun pick M4 _ _ d4 => ?_⟩
  refine ⟨_, rfl, _, rfl, _, rfl, take_in d4.box (by omega) (log_small (by omega) (by omega)) fun at_ M5 ha0 ha1 d5 => ?_⟩
  have hm : M5 p = some (.lst (ws.map .str)) := (d4.trans d5).only.at (Ne.symm hap) mset_same
  have kp : Kept a M M5 := (kp3.trans d4.kept).trans d5.kept
  have r4 : R7 w pick 4 ws := ⟨by omega, fun _ => hws, hy⟩
  clear hl2 hws hy kp3 d4 d5 kp2 on2 bx2
  have fin : ∀ {sep : PySem.Str} {ws : List PySem.Str} {n : Int} {M6 : Mem}, sep.length = 1 → R7 w pick n ws → Kept a M M6 → M6 p = some (.lst (ws.map .str)) → dJoin sep [.ref p] M6 (QF Q) := fun {sep ws n M6} hs r kp hm => by
    obtain ⟨h1, h2⟩ := r.room hw8
    refine ⟨_, ws, rfl, Seq.cell hm, ?_, qf_same (h _ _ ?_ kp)⟩
    · rw [hs]; omega
    · have := join_len sep ws
      rw [hs] at this
      omega
  refine ⟨_, rfl, byc (fun _ => ⟨_, rfl, fin (by decide) r4 kp hm⟩) fun _ => ?_⟩
  have W : ∀ n : Int, ∃ P : DSt → Mem → Prop, P = fun σ' M' => ∃ ws : List PySem.Str, σ' = [some (.ro (ns.map D.int)), some (.ref a), some (.int w), some (.ref p), some (.int pick), some (.int at_), none] ∧ M' p = some (.lst (ws.map .str)) ∧ Kept a M M' ∧ R7 w pick n ws := fun n => ⟨_, rfl⟩
  have set_ok : ∀ {ws : List PySem.Str} {n m : Int} {y : PySem.Str}, R7 w pick n ws → pick < m → y.length ≤ 61 → R7 w pick m (ws.set at_.toNat y) := fun {ws n m y} r hm hy => ⟨by rw [List.length_set]; exact r.len, fun hp => by omega, fun z hz => (List.mem_or_eq_of_mem_set hz).elim (r.each z) fun e => by rw [e]; exact hy⟩
  have ins_ok : ∀ {ws : List PySem.Str} {n m : Int} {y : PySem.Str}, R7 w pick n ws → n ≤ pick → pick < m → y.length ≤ 61 → R7 w pick m (ws.take at_.toNat ++ [y] ++ ws.drop at_.toNat) := fun {ws n m y} r hn hm hy => ⟨by have := r.whole hn; simp; omega, fun hp => by omega, fun z hz => by
    rcases List.mem_append.mp hz with h | h
    · rcases List.mem_append.mp h with h | h
      · exact r.each z (List.mem_of_mem_take h)
      · simp at h; rw [h]; exact hy
    · exact r.each z (List.mem_of_mem_drop h)⟩
  -- 4
  obtain ⟨P, e⟩ := W 5
  refine ⟨P, ?_, ?_⟩
  · rw [e]
    refine ⟨_, rfl, byc (fun hv => ?_) fun hv => ⟨ws, rfl, hm, kp, r4.skip (by omega)⟩⟩
    refine ⟨_, rfl, ⟨p, _, rfl, hm⟩, _, rfl, _, rfl, _, rfl, number_in kp.box fun v M6 hv6 d6 => digits_in (Nat.lt_of_le_of_lt hv6 p60) ?_⟩
    have hm6 := d6.only.at (Ne.symm hap) hm
    have hl := r4.whole (by omega)
    refine ⟨_, _, _, rfl, hm6, szlt (by simp; omega), ha0, by omega, ?_⟩
    refine ⟨ws.take at_.toNat ++ [numT v] ++ ws.drop at_.toNat, rfl, ?_, (kp.trans d6.kept).mset hf hap, ins_ok r4 (by omega) (by omega) (numT_len60 hv6)⟩
    rw [mset_same]
    simp
  rw [e]
  clear e P hm kp r4
  rintro _ M6 ⟨ws, rfl, hm, kp, r⟩
  -- 5
  obtain ⟨P, e⟩ := W 6
  refine ⟨P, ?_, ?_⟩
  · rw [e]
    refine ⟨_, rfl, byc (fun hv => ?_) fun hv => ⟨ws, rfl, hm, kp, r.skip (by omega)⟩⟩
    have hl := r.whole (by omega)
    have hat : at_.toNat < (ws.map D.str).length := by simp; omega
    refine ⟨_, rfl, ⟨p, _, rfl, hm⟩, _, rfl, _, _, _, _, rfl, hm, by omega, by omega, seqIx ha0 (by simp; omega), List.getElem?_eq_getElem hat, ?_⟩
    refine ⟨ws.eraseIdx at_.toNat, rfl, ?_, kp.mset hf hap, ⟨?_, fun hp => by omega, fun z hz => r.each z (List.mem_of_mem_eraseIdx hz)⟩⟩
    · rw [mset_same, map_erase]
    · have := List.length_eraseIdx_le (l := ws) (i := at_.toNat)
      omega
  rw [e]
  clear e P hm kp r
  rintro _ M7 ⟨ws, rfl, hm, kp, r⟩
  -- 6
  obtain ⟨P, e⟩ := W 7
  refine ⟨P, ?_, ?_⟩
  · rw [e]
    refine ⟨_, rfl, byc (fun hv => ?_) fun hv => ⟨ws, rfl, hm, kp, r.skip (by omega)⟩⟩
    have hl := r.whole (by omega)
    refine ⟨by decide, _, rfl, _, rfl, take_in kp.box (by decide) (by decide) fun u M8 hu0 hu1 d8 => ?_⟩
    have go : ∃ y : PySem.Str, atI [D.str "", D.str "-", D.str "+1", D.str "-0", D.str "01", D.str "x", D.str "1.0", D.str "to", D.str "None", D.str "1\n"] u = some (.str y) ∧ y.length ≤ 61 := by
      have : u = 0 ∨ u = 1 ∨ u = 2 ∨ u = 3 ∨ u = 4 ∨ u = 5 ∨ u = 6 ∨ u = 7 ∨ u = 8 ∨ u = 9 := by omega
      rcases this with rfl | rfl | rfl | rfl | rfl | rfl | rfl | rfl | rfl | rfl <;> exact ⟨_, rfl, by decide⟩
    obtain ⟨y, hy, hyl⟩ := go
    have hm8 := d8.only.at (Ne.symm hap) hm
    refine ⟨_, hy, _, rfl, _, rfl, p, _, _, _, rfl, rfl, hm8, ixN_in ha0 (by simp; omega), ?_⟩
    exact ⟨ws.set at_.toNat y, rfl, by rw [mset_same, List.map_set], (kp.trans d8.kept).mset hf hap, set_ok r (by omega) hyl⟩
  rw [e]
  clear e P hm kp r
  rintro _ M8 ⟨ws, rfl, hm, kp, r⟩
  -- 7
  obtain ⟨P, e⟩ := W 8
  refine ⟨P, ?_, ?_⟩
  · rw [e]
    refine ⟨_, rfl, byc (fun hv => ?_) fun hv => ⟨ws, rfl, hm, kp, r.skip (by omega)⟩⟩
    have hl := r.whole (by omega)
    have hml : (Txt.mul "0" 60).length = 60 := by
      have := len_mul "0" 60
      rw [if_neg (by decide), show ("0" : PySem.Str).length = 1 by decide] at this
      omega
    refine ⟨mulOk_of 1 60 (by decide) (by decide) (by decide) (by decide) (by decide), sz9 (by rw [hml]; decide), _, rfl, _, rfl, p, _, _, _, rfl, rfl, hm, ixN_in ha0 (by simp; omega), ?_⟩
    exact ⟨ws.set at_.toNat ("1" ++ Txt.mul "0" 60), rfl, by rw [mset_same, List.map_set], kp.mset hf hap, set_ok r (by omega) (by rw [len_app, hml]; decide)⟩
  rw [e]
  clear e P hm kp r
  rintro _ M9 ⟨ws, rfl, hm, kp, r⟩
  -- 8
  obtain ⟨P, e⟩ := W 9
  refine ⟨P, ?_, ?_⟩
  · rw [e]
    refine ⟨_, rfl, byc (fun hv => ?_) fun hv => ⟨ws, rfl, hm, kp, r.skip (by omega)⟩⟩
    have hl := r.whole (by omega)
    refine ⟨_, rfl, ⟨p, _, rfl, hm⟩, _, rfl, _, _, _, rfl, hm, szlt (by simp; omega), ha0, by omega, ?_⟩
    refine ⟨ws.take at_.toNat ++ [("" : PySem.Str)] ++ ws.drop at_.toNat, rfl, ?_, kp.mset hf hap, ins_ok r (by omega) (by omega) (by decide)⟩
    rw [mset_same]
    simp
  rw [e]
  clear e P hm kp r
  rintro _ M10 ⟨ws, rfl, hm, kp, r⟩
  -- 9
  obtain ⟨P, e⟩ := W 10
  refine ⟨P, ?_, ?_⟩
  · rw [e]
    refine ⟨_, rfl, byc (fun hv => ?_) fun hv => ⟨ws, rfl, hm, kp, r.skip (by omega)⟩⟩
    have hl := r.whole (by omega)
    refine ⟨_, rfl, ⟨p, _, rfl, hm⟩, p, _, _, rfl, rfl, hm, szlt (by simp; omega), ?_⟩
    refine ⟨ws ++ [("" : PySem.Str)], rfl, ?_, kp.mset hf hap, ⟨by simp; omega, fun hp => by omega, fun z hz => ?_⟩⟩
    · rw [mset_same]
      simp
    · rcases List.mem_append.mp hz with h | h
      · exact r.each z h
      · simp at h; rw [h]; decide
  rw [e]
  rintro _ M11 ⟨ws, rfl, hm, kp, r⟩
  exact ⟨_, rfl, fin (by decide) r kp hm⟩

/-! the law -/
def t_law : DTS :=
  dSeq (dAsg (dLstC (dCons (dC (.int 0)) (dCons (dC (.int 0)) (dNil)))) (dgName 1))
  (dSeq (dFor (diRange1 (dCons (dC (.int 3)) (dNil))) (dgName 2) (dSeq (dAsg (dCall sp_law_width [] wNo (dCons (dVar 0) (dCons (dVar 1) (dNil)))) (dgName 3))
  (dSeq (dAsg (dCall sp_law_row_string [] wNo (dCons (dVar 0) (dCons (dVar 1) (dCons (dVar 3) (dNil))))) (dgName 4))
  (dFor (diSeq (dLst (dCons (dVar 3) (dCons (dBin dAdd (dBin dMod (dCB (r1 dInt) (dCons (dVar 3) (dNil))) (dC (.int 8))) (dC (.int 1))) (dNil))))) (dgName 5) (dSeq (dAsg (dCall sp_law_read [] wNo (dCons (dVar 4) (dCons (dVar 5) (dNil)))) (dgName 6))
  (dSeq (dAsg (dCall sp_read_row [] wNo (dCons (dVar 4) (dCons (dVar 5) (dNil)))) (dgName 7))
  (dIfS (dTest (dBin dIs (dVar 6) (dC .non))) (dIfS (dTest (dBin dIsNot (dVar 7) (dC .non))) (dRet (dC (.bl false))) (dNext)) (dIfS (dOr (dNot (dTruth (dCall sp_law_is_row [] wNo (dCons (dVar 7) (dCons (dVar 6) (dNil)))))) (dTest (dBin dNe (dCall sp_row_text [] wNo (dCons (dVar 7) (dNil))) (dVar 4)))) (dRet (dC (.bl false))) (dNext)))))))))
  (dRet (dC (.bl true))))
theorem rd_law : ∀ ds M Q E, sp_law ds M Q E → t_law { nx := fun _ M' => QF Q .non M', rt := QF Q } (dstart 8 ds) M := rd1 fun s M Q E h => by
  unfold S_law at h
  obtain ⟨ns, rfl, hlen, h⟩ := h
  refine ⟨by decide, fun b hb => ?_⟩
  have hbox : BoxAt (mset M b (.lst [.int 0, .int 0])) b := ⟨0, 0, mset_same, by decide, by decide⟩
  refine ⟨⟨by decide, by decide⟩, fun i σ' M' => ∃ x2 x3 x4 x5 x6 x7 : Option D, σ' = [some (.ro (ns.map D.int)), some (.ref b), x2, x3, x4, x5, x6, x7] ∧ BoxAt M' b, ⟨_, _, _, _, _, _, rfl, hbox⟩, ?_, ?_⟩
  · rintro i d _ M' hd ⟨x2, x3, x4, x5, x6, x7, rfl, bx⟩
    refine ⟨_, rfl, _, rfl, width_in bx fun w M1 hw0 hw1 d1 => ?_⟩
    refine ⟨_, rfl, _, rfl, _, rfl, rowstr_in d1.box hw0 hw1 fun z M2 hz k2 => ?_⟩
    have hzr : z.length + 2 ≤ sizeLine := Nat.le_trans (show _ ≤ 2000 by omega) (by decide)
    refine ⟨_, rfl, _, rfl, by decide, sz9 (show 2 ≤ 1000 by decide), fun j σ' M' => ∃ x5 x6 x7 : Option D, σ' = [some (.ro (ns.map D.int)), some (.ref b), some d, some (.int w), some (.str z), x5, x6, x7] ∧ BoxAt M' b, ⟨_, _, _, rfl, k2.box⟩, ?_, ?_⟩
    · rintro j dj _ M3 hj ⟨x5, x6, x7, rfl, bx3⟩
      have hv : ∃ v : Int, dj = .int v ∧ v ≤ 9 := by
        have := List.mem_of_getElem? hj
        simp at this
        rcases this with e | e
        · exact ⟨_, e, by omega⟩
        · exact ⟨_, e, by omega⟩
      obtain ⟨v, rfl, hvb⟩ := hv
      refine ⟨_, rfl, _, rfl, lread_in hzr ?_⟩
      refine ⟨_, rfl, _, rfl, readrow_in hzr ?_⟩
      cases hb : rowB v (.tup (wordsD (words z))) with
      | false =>
        have e : rowOfD v z = .non := by unfold rowOfD; rw [hb]; rfl
        rw [e]
        exact ⟨_, rfl, yes ⟨_, rfl, no ⟨_, _, _, rfl, bx3⟩⟩⟩
      | true =>
        obtain ⟨r, e, hl, ht, hr⟩ := rowOfD_some hb
        rw [e]
        have hr2 : ∀ n ∈ r, n.natAbs < 10 ^ 200 := fun n hn => Nat.lt_of_lt_of_le (hr n hn) (Nat.pow_le_pow_right (by decide) (by decide))
        refine ⟨_, rfl, no ⟨_, rfl, _, rfl, lisrow_in (by omega) ?_⟩⟩
        refine never (by simp) ⟨_, rfl, rowtext_in (by omega) hr2 ⟨_, rfl, never (by rw [show rowT r = z from ht]; simp) ⟨_, _, _, rfl, bx3⟩⟩⟩
    · rintro _ M4 ⟨x5, x6, x7, rfl, bx4⟩
      exact ⟨_, _, _, _, _, _, rfl, bx4⟩
  · rintro _ M' _
    exact qf_same (h _)

end DL
set_option maxHeartbeats 0
namespace LawW
open PySem PySem.Spec PyProof.Rows L2 DL
def top (i : Nat) : Stmt := PySem.Challenge.pw_placelayers_k07_read_row.main.body.getD i (.Pass ⟨0, 0, 0, 0⟩)
abbrev st_is_integer : Stmt := top 3
abbrev N_is_integer : List PySem.Str := ["value"]
theorem sc_is_integer : FnScope N_is_integer ["value"] (defScope st_is_integer) := ⟨rfl, rfl, rfl, by decide +kernel, rfl, by decide +kernel, by decide +kernel⟩
abbrev st_number_text : Stmt := top 4
abbrev N_number_text : List PySem.Str := ["number"]
theorem sc_number_text : FnScope N_number_text ["number"] (defScope st_number_text) := ⟨rfl, rfl, rfl, by decide +kernel, rfl, by decide +kernel, by decide +kernel⟩
abbrev st_read_number : Stmt := top 5
abbrev N_read_number : List PySem.Str := ["text", "digits", "char"]
theorem sc_read_number : FnScope N_read_number ["text"] (defScope st_read_number) := ⟨rfl, rfl, rfl, by decide +kernel, rfl, by decide +kernel, by decide +kernel⟩
abbrev st_is_row : Stmt := top 7
abbrev N_is_row : List PySem.Str := ["value", "width", "number"]
theorem sc_is_row : FnScope N_is_row ["value", "width"] (defScope st_is_row) := ⟨rfl, rfl, rfl, by decide +kernel, rfl, by decide +kernel, by decide +kernel⟩
abbrev st_row_text : Stmt := top 8
abbrev N_row_text : List PySem.Str := ["row", "number"]
theorem sc_row_text : FnScope N_row_text ["row"] (defScope st_row_text) := ⟨rfl, rfl, rfl, by decide +kernel, rfl, by decide +kernel, by decide +kernel⟩
abbrev st_read_words : Stmt := top 9
abbrev N_read_words : List PySem.Str := ["words", "word"]
theorem sc_read_words : FnScope N_read_words ["words"] (defScope st_read_words) := ⟨rfl, rfl, rfl, by decide +kernel, rfl, by decide +kernel, by decide +kernel⟩
abbrev st_read_row : Stmt := top 10
abbrev N_read_row : List PySem.Str := ["text", "width", "row"]
theorem sc_read_row : FnScope N_read_row ["text", "width"] (defScope st_read_row) := ⟨rfl, rfl, rfl, by decide +kernel, rfl, by decide +kernel, by decide +kernel⟩
abbrev st_law_take : Stmt := top 12
abbrev N_law_take : List PySem.Str := ["_law_script", "_law_box", "_law_limit", "_law_cell", "_law_left", "_law_value_here"]
theorem sc_law_take : FnScope N_law_take ["_law_script", "_law_box", "_law_limit"] (defScope st_law_take) := ⟨rfl, rfl, rfl, by decide +kernel, rfl, by decide +kernel, by decide +kernel⟩
abbrev st_law_number : Stmt := top 13
abbrev N_law_number : List PySem.Str := ["_law_script", "_law_box", "_law_pick", "_law_far"]
theorem sc_law_number : FnScope N_law_number ["_law_script", "_law_box"] (defScope st_law_number) := ⟨rfl, rfl, rfl, by decide +kernel, rfl, by decide +kernel, by decide +kernel⟩
abbrev st_law_width : Stmt := top 14
abbrev N_law_width : List PySem.Str := ["_law_script", "_law_box", "_law_width_here"]
theorem sc_law_width : FnScope N_law_width ["_law_script", "_law_box"] (defScope st_law_width) := ⟨rfl, rfl, rfl, by decide +kernel, rfl, by decide +kernel, by decide +kernel⟩
abbrev st_law_digits : Stmt := top 15
abbrev N_law_digits : List PySem.Str := ["_law_number_here", "_law_text", "_law_rest", "_law_k"]
theorem sc_law_digits : FnScope N_law_digits ["_law_number_here"] (defScope st_law_digits) := ⟨rfl, rfl, rfl, by decide +kernel, rfl, by decide +kernel, by decide +kernel⟩
abbrev st_law_value : Stmt := top 16
abbrev N_law_value : List PySem.Str := ["_law_text", "_law_digits_here", "_law_value_here", "_law_char", "_law_at"]
theorem sc_law_value : FnScope N_law_value ["_law_text"] (defScope st_law_value) := ⟨rfl, rfl, rfl, by decide +kernel, rfl, by decide +kernel, by decide +kernel⟩
abbrev st_law_read : Stmt := top 17
abbrev N_law_read : List PySem.Str := ["_law_text", "_law_width_here", "_law_numbers", "_law_number_here", "_law_word"]
theorem sc_law_read : FnScope N_law_read ["_law_text", "_law_width_here"] (defScope st_law_read) := ⟨rfl, rfl, rfl, by decide +kernel, rfl, by decide +kernel, by decide +kernel⟩
abbrev st_law_is_int : Stmt := top 18
abbrev N_law_is_int : List PySem.Str := ["_law_value_here"]
theorem sc_law_is_int : FnScope N_law_is_int ["_law_value_here"] (defScope st_law_is_int) := ⟨rfl, rfl, rfl, by decide +kernel, rfl, by decide +kernel, by decide +kernel⟩
abbrev st_law_is_row : Stmt := top 19
abbrev N_law_is_row : List PySem.Str := ["_law_value_here", "_law_row", "_law_number_here"]
theorem sc_law_is_row : FnScope N_law_is_row ["_law_value_here", "_law_row"] (defScope st_law_is_row) := ⟨rfl, rfl, rfl, by decide +kernel, rfl, by decide +kernel, by decide +kernel⟩
abbrev st_law_row_string : Stmt := top 20
abbrev N_law_row_string : List PySem.Str := ["_law_script", "_law_box", "_law_width_here", "_law_words", "_law_pick", "_law_at", "_law_c"]
theorem sc_law_row_string : FnScope N_law_row_string ["_law_script", "_law_box", "_law_width_here"] (defScope st_law_row_string) := ⟨rfl, rfl, rfl, by decide +kernel, rfl, by decide +kernel, by decide +kernel⟩
abbrev st_law : Stmt := top 21
abbrev N_law : List PySem.Str := ["_law_script", "_law_box", "_law_turn", "_law_width_here", "_law_text", "_law_other", "_law_due", "_law_row"]
theorem sc_law : FnScope N_law ["_law_script"] (defScope st_law) := ⟨rfl, rfl, rfl, by decide +kernel, rfl, by decide +kernel, by decide +kernel⟩
/-- what the top has written -/
structure Txt (mg : PySem.Str → Option Value) : Prop where
  n_abs : mg "abs" = none
  n_all : mg "all" = none
  n_bool : mg "bool" = none
  n_int : mg "int" = none
  n_isinstance : mg "isinstance" = none
  n_len : mg "len" = none
  n_range : mg "range" = none
  n_str : mg "str" = none
  n_tuple : mg "tuple" = none
  c_DIGITS : ∃ t, mg "DIGITS" = some (.str "0123456789" t)
  c_MOST_DIGITS : ∃ t, mg "MOST_DIGITS" = some (.int 60 t)
section
variable {P : Program} {w : World} {K : PySem.W.Frag} {mg : PySem.Str → Option Value} {base : Heap}
theorem ok_is_integer {f : Addr} {fd : FuncData} (F : FunD K "is_integer" "is_integer" (defArgs st_is_integer) (defBody st_is_integer) (defScope st_is_integer) [] [] f fd) (T : Txt mg)  : FnOk P w K mg base (EX P w) 1 f fd ["value"] (liftSp K sp_is_integer) :=
  dfn_ok (N := N_is_integer) (k := 0) F sc_is_integer spk1_len (fun cdv A outer s H E g hr =>
      (dss_one (ds_ret (de_and (de_callB (dcall_isi .it) rfl T.n_isinstance (by decide +kernel) (da_cons (de_pv (pv 0)) (da_cons (de_ty rfl T.n_int boot_int) da_nil))) (de_one (de_not (de_callB (dcall_isi .bo) rfl T.n_isinstance (by decide +kernel) (da_cons (de_pv (pv 0)) (da_cons (de_ty rfl T.n_bool boot_bool) da_nil))))))))) rd_is_integer
theorem ok_number_text {f : Addr} {fd : FuncData} (F : FunD K "number_text" "number_text" (defArgs st_number_text) (defBody st_number_text) (defScope st_number_text) [] [] f fd) (T : Txt mg)  : FnOk P w K mg base (EX P w) 1 f fd ["number"] (liftSp K sp_number_text) :=
  dfn_ok (N := N_number_text) (k := 0) F sc_number_text spk1_len (fun cdv A outer s H E g hr =>
      (dss_one (ds_ret (de_callTy dcall_str rfl T.n_str boot_str (da_cons (de_pv (pv 0)) da_nil))))) rd_number_text
theorem ok_read_number {f : Addr} {fd : FuncData} (F : FunD K "read_number" "read_number" (defArgs st_read_number) (defBody st_read_number) (defScope st_read_number) [] [] f fd) (T : Txt mg)  : FnOk P w K mg base (EX P w) 1 f fd ["text"] (liftSp K sp_read_number) :=
  dfn_ok (N := N_read_number) (k := 0) F sc_read_number spk1_len (fun cdv A outer s H E g hr =>
      (dss_cons (ds_set (i := 1) sc_read_number.nd rfl (Or.inl rfl) (de_ifExp (dt_truth (de_sm PySem.F.slot_str_startswith PySem.F.type_str_startswith dmt_starts (de_pv (pv 0)) (da_cons de_str da_nil) (fun ho ha => pe_bm PySem.F.plainAttrs_str PySem.F.slot_str_startswith PySem.F.type_str_startswith dmt_starts ho ha))) (de_slice dsl_ok (de_pv (pv 0)) (do_some de_int) do_none) (de_pv (pv 0))))
      (dss_cons (ds_if (dt_not (dt_chain dop_le dop_le de_int (de_callB dcall_len rfl T.n_len boot_len (da_cons (de_pv (pv 1)) da_nil)) (de_gint rfl T.c_MOST_DIGITS))) (dss_one (ds_ret de_non)) dss_nil)
      (dss_cons (ds_for PassesOwn.never rfl (di_seq (de_pv (pv 1))) (dg_name (pg_name (i := 2) sc_read_number.nd rfl (Or.inl rfl))) (dss_one (ds_if (dt_cmp dop_notInS (de_pv (pv 2)) (de_gstr rfl T.c_DIGITS)) (dss_one (ds_ret de_non)) dss_nil)))
      (dss_cut (ds_if (dw_pt (dw_and (dt_cmp (dop_eq hr.units) (de_ix (de_pv (pv 1)) de_int (fun _ _ => rfl)) de_str) (dw_and1 (dt_cmp (dop_ne hr.units) (de_pv (pv 0)) de_str)))) (dss_one (ds_ret de_non)) dss_nil)
      (dss_one (ds_ret (de_callTy dcall_intS rfl T.n_int boot_int (da_cons (de_pv (pv 0)) da_nil))))))))) rd_read_number
theorem ok_is_row {f : Addr} {fd : FuncData} (F : FunD K "is_row" "is_row" (defArgs st_is_row) (defBody st_is_row) (defScope st_is_row) [] [] f fd) (T : Txt mg) (c_is_integer : DCal P w K mg base 1 "is_integer" sp_is_integer []) : FnOk P w K mg base (EX P w) 2 f fd ["value", "width"] (liftSp K sp_is_row) :=
  dfn_ok (N := N_is_row) (k := 1) F sc_is_row spk2_len (fun cdv A outer s H E g hr =>
      (dss_cons (ds_if (dw_pt (dw_or (dt_not (dt_truth (de_callB (dcall_isi .tu) rfl T.n_isinstance (by decide +kernel) (da_cons (de_pv (pv 0)) (da_cons (de_ty rfl T.n_tuple boot_tuple) da_nil))))) (dw_or1 (dt_cmp (dop_ne hr.units) (de_callB dcall_len rfl T.n_len boot_len (da_cons (de_pv (pv 0)) da_nil)) (de_pv (pv 1)))))) (dss_one (ds_ret de_bl)) dss_nil)
      (dss_one (ds_ret (de_callB (dcall_all rfl) rfl T.n_all (by decide +kernel) (da_cons (de_lc (tg := .nm 2) (own := [("number", 2)]) rfl sc_is_row.nd (di_seq (de_pv (pv 0))) (blkOk_by (own := [("number", 2)]) (N := N_is_row) (sc := defScope st_is_row) (by decide +kernel)) (by decide) (fun _ _ _ _ _ => pg_name (i := 2) sc_is_row.nd rfl (Or.inl rfl)) (fun _ _ _ _ _ _ => dts_nil) (fun _ _ _ _ _ _ => (de_call c_is_integer hr (by decide) rfl pass_no (da_cons (de_pv (pv 2)) da_nil)))) da_nil)))))) rd_is_row
theorem ok_row_text {f : Addr} {fd : FuncData} (F : FunD K "row_text" "row_text" (defArgs st_row_text) (defBody st_row_text) (defScope st_row_text) [] [] f fd) (T : Txt mg) (c_number_text : DCal P w K mg base 1 "number_text" sp_number_text []) : FnOk P w K mg base (EX P w) 2 f fd ["row"] (liftSp K sp_row_text) :=
  dfn_ok (N := N_row_text) (k := 1) F sc_row_text spk1_len (fun cdv A outer s H E g hr =>
      (dss_one (ds_ret (de_sm PySem.F.slot_str_join PySem.F.type_str_join dmt_join de_str (da_cons (de_lc (tg := .nm 1) (own := [("number", 1)]) rfl sc_row_text.nd (di_seq (de_pv (pv 0))) (blkOk_by (own := [("number", 1)]) (N := N_row_text) (sc := defScope st_row_text) (by decide +kernel)) (by decide) (fun _ _ _ _ _ => pg_name (i := 1) sc_row_text.nd rfl (Or.inl rfl)) (fun _ _ _ _ _ _ => dts_nil) (fun _ _ _ _ _ _ => (de_call c_number_text hr (by decide) rfl pass_no (da_cons (de_pv (pv 1)) da_nil)))) da_nil) (fun ho ha => pe_bm PySem.F.plainAttrs_str PySem.F.slot_str_join PySem.F.type_str_join dmt_join ho ha))))) rd_row_text
theorem ok_read_words {f : Addr} {fd : FuncData} (F : FunD K "read_words" "read_words" (defArgs st_read_words) (defBody st_read_words) (defScope st_read_words) [] [] f fd) (T : Txt mg) (c_read_number : DCal P w K mg base 1 "read_number" sp_read_number []) : FnOk P w K mg base (EX P w) 2 f fd ["words"] (liftSp K sp_read_words) :=
  dfn_ok (N := N_read_words) (k := 1) F sc_read_words spk1_len (fun cdv A outer s H E g hr =>
      (dss_one (ds_ret (de_callTy dcall_tuple rfl T.n_tuple boot_tuple (da_cons (de_lc (tg := .nm 1) (own := [("word", 1)]) rfl sc_read_words.nd (di_seq (de_pv (pv 0))) (blkOk_by (own := [("word", 1)]) (N := N_read_words) (sc := defScope st_read_words) (by decide +kernel)) (by decide) (fun _ _ _ _ _ => pg_name (i := 1) sc_read_words.nd rfl (Or.inl rfl)) (fun _ _ _ _ _ _ => dts_nil) (fun _ _ _ _ _ _ => (de_call c_read_number hr (by decide) rfl pass_no (da_cons (de_pv (pv 1)) da_nil)))) da_nil))))) rd_read_words
theorem ok_read_row {f : Addr} {fd : FuncData} (F : FunD K "read_row" "read_row" (defArgs st_read_row) (defBody st_read_row) (defScope st_read_row) [] [] f fd) (T : Txt mg) (c_read_words : DCal P w K mg base 2 "read_words" sp_read_words []) (c_is_row : DCal P w K mg base 2 "is_row" sp_is_row []) : FnOk P w K mg base (EX P w) 3 f fd ["text", "width"] (liftSp K sp_read_row) :=
  dfn_ok (N := N_read_row) (k := 2) F sc_read_row spk2_len (fun cdv A outer s H E g hr =>
      (dss_cons (ds_set (i := 2) sc_read_row.nd rfl (Or.inl rfl) (de_call c_read_words hr (by decide) rfl pass_no (da_cons (de_sm PySem.F.slot_str_split PySem.F.type_str_split dmt_split (de_pv (pv 0)) (da_cons de_str da_nil) (fun ho ha => pe_bm PySem.F.plainAttrs_str PySem.F.slot_str_split PySem.F.type_str_split dmt_split ho ha)) da_nil)))
      (dss_cons (ds_if (dt_truth (de_call c_is_row hr (by decide) rfl pass_no (da_cons (de_pv (pv 2)) (da_cons (de_pv (pv 1)) da_nil)))) (dss_one (ds_ret (de_pv (pv 2)))) dss_nil)
      (dss_one (ds_ret de_non))))) rd_read_row
theorem ok_law_take {f : Addr} {fd : FuncData} (F : FunD K "_law_take" "_law_take" (defArgs st_law_take) (defBody st_law_take) (defScope st_law_take) [] [] f fd) (T : Txt mg)  : FnOk P w K mg base (EX P w) 1 f fd ["_law_script", "_law_box", "_law_limit"] (liftSp K sp_law_take) :=
  dfn_ok (N := N_law_take) (k := 0) F sc_law_take spk3_len (fun cdv A outer s H E g hr =>
      (dss_cut (ds_if (dw_pt (dw_and (dt_cmp (dop_eq hr.units) (de_ix (de_pv (pv 1)) de_int (fun _ _ => rfl)) de_int) (dw_and1 (dt_cmp dop_lt (de_ix (de_pv (pv 1)) de_int (fun _ _ => rfl)) (de_callB dcall_len rfl T.n_len boot_len (da_cons (de_pv (pv 0)) da_nil)))))) (dss_cons (ds_set (i := 3) sc_law_take.nd rfl (Or.inl rfl) (de_callTy dcall_int rfl T.n_int boot_int (da_cons (de_ix (de_pv (pv 0)) (de_ix (de_pv (pv 1)) de_int (fun _ _ => rfl)) (fun _ _ => rfl)) da_nil)))
      (dss_cons (ds_set (i := 4) sc_law_take.nd rfl (Or.inl rfl) (de_callB dcall_abs rfl T.n_abs (by decide +kernel) (da_cons (de_pv (pv 3)) da_nil)))
      (dss_cut (ds_if (dt_cmp dop_lt (de_pv (pv 4)) (de_bin dop_pow de_int de_int)) (dss_cons (ds_set (i := 4) sc_law_take.nd rfl (Or.inl rfl) (de_bin dop_mod (de_callTy dcall_int rfl T.n_int boot_int (da_cons (de_bin dop_mul (de_bin dop_add (de_bin dop_add (de_bin dop_mul de_int (de_pv (pv 4))) (de_callTy dcall_int rfl T.n_int boot_int (da_cons (de_cmp dop_lt (de_pv (pv 3)) de_int) da_nil))) de_int) (de_bin dop_add de_int (de_bin dop_mul de_int (de_ix (de_pv (pv 1)) de_int (fun _ _ => rfl))))) da_nil)) de_int))
      (dss_one (ds_set (i := 4) sc_law_take.nd rfl (Or.inl rfl) (de_bin dop_mod (de_callTy dcall_int rfl T.n_int boot_int (da_cons (de_bin dop_mul (de_pv (pv 4)) (de_pv (pv 4))) da_nil)) de_int)))) dss_nil)
      (dss_cons (ds_asg (de_pv (pv 4)) (dg_sub (de_pv (pv 1)) de_int))
      (dss_one (ds_asg (de_bin dop_add (de_ix (de_pv (pv 1)) de_int (fun _ _ => rfl)) de_int) (dg_sub (de_pv (pv 1)) de_int))))))) dss_nil)
      (dss_cons (ds_set (i := 5) sc_law_take.nd rfl (Or.inl rfl) (de_bin dop_mod (de_callTy dcall_int rfl T.n_int boot_int (da_cons (de_ix (de_pv (pv 1)) de_int (fun _ _ => rfl)) da_nil)) (de_pv (pv 2))))
      (dss_cons (ds_asg (de_bin dop_fdiv (de_ix (de_pv (pv 1)) de_int (fun _ _ => rfl)) (de_pv (pv 2))) (dg_sub (de_pv (pv 1)) de_int))
      (dss_one (ds_ret (de_pv (pv 5)))))))) rd_law_take
theorem ok_law_number {f : Addr} {fd : FuncData} (F : FunD K "_law_number" "_law_number" (defArgs st_law_number) (defBody st_law_number) (defScope st_law_number) [] [] f fd) (T : Txt mg) (c_law_take : DCal P w K mg base 1 "_law_take" sp_law_take []) : FnOk P w K mg base (EX P w) 2 f fd ["_law_script", "_law_box"] (liftSp K sp_law_number) :=
  dfn_ok (N := N_law_number) (k := 1) F sc_law_number spk2_len (fun cdv A outer s H E g hr =>
      (dss_cons (ds_set (i := 2) sc_law_number.nd rfl (Or.inl rfl) (de_call c_law_take hr (by decide) rfl pass_no (da_cons (de_pv (pv 0)) (da_cons (de_pv (pv 1)) (da_cons de_int da_nil)))))
      (dss_cons (ds_if (dt_cmp dop_lt (de_pv (pv 2)) de_int) (dss_one (ds_ret (de_ix (de_lst (da_cons de_int (da_cons de_int (da_cons de_int (da_cons (de_un dun_neg de_int) da_nil))))) (de_pv (pv 2)) (fun _ _ => rfl)))) dss_nil)
      (dss_cons (ds_set (i := 3) sc_law_number.nd rfl (Or.inl rfl) (de_call c_law_take hr (by decide) rfl pass_no (da_cons (de_pv (pv 0)) (da_cons (de_pv (pv 1)) (da_cons (de_bin dop_pow de_int de_int) da_nil)))))
      (dss_cons (ds_if (dt_cmp (dop_eq hr.units) (de_pv (pv 2)) de_int) (dss_one (ds_ret (de_pv (pv 3)))) dss_nil)
      (dss_one (ds_ret (de_bin dop_sub (de_un dun_neg de_int) (de_pv (pv 3)))))))))) rd_law_number
theorem ok_law_width {f : Addr} {fd : FuncData} (F : FunD K "_law_width" "_law_width" (defArgs st_law_width) (defBody st_law_width) (defScope st_law_width) [] [] f fd) (T : Txt mg) (c_law_take : DCal P w K mg base 1 "_law_take" sp_law_take []) : FnOk P w K mg base (EX P w) 2 f fd ["_law_script", "_law_box"] (liftSp K sp_law_width) :=
  dfn_ok (N := N_law_width) (k := 1) F sc_law_width spk2_len (fun cdv A outer s H E g hr =>
      (dss_cons (ds_set (i := 2) sc_law_width.nd rfl (Or.inl rfl) (de_ix (de_lst (da_cons de_int (da_cons de_int (da_cons de_int (da_cons de_int (da_cons de_int (da_cons de_int (da_cons de_int (da_cons de_int da_nil))))))))) (de_call c_law_take hr (by decide) rfl pass_no (da_cons (de_pv (pv 0)) (da_cons (de_pv (pv 1)) (da_cons de_int da_nil)))) (fun _ _ => rfl)))
      (dss_cut (ds_if (dt_cmp (dop_eq hr.units) (de_pv (pv 2)) de_int) (dss_one (ds_set (i := 2) sc_law_width.nd rfl (Or.inl rfl) (de_bin dop_add de_int (de_call c_law_take hr (by decide) rfl pass_no (da_cons (de_pv (pv 0)) (da_cons (de_pv (pv 1)) (da_cons de_int da_nil))))))) dss_nil)
      (dss_one (ds_ret (de_pv (pv 2))))))) rd_law_width
theorem ok_law_digits {f : Addr} {fd : FuncData} (F : FunD K "_law_digits" "_law_digits" (defArgs st_law_digits) (defBody st_law_digits) (defScope st_law_digits) [] [] f fd) (T : Txt mg)  : FnOk P w K mg base (EX P w) 1 f fd ["_law_number_here"] (liftSp K sp_law_digits) :=
  dfn_ok (N := N_law_digits) (k := 0) F sc_law_digits spk1_len (fun cdv A outer s H E g hr =>
      (dss_cons (ds_set (i := 1) sc_law_digits.nd rfl (Or.inl rfl) de_str)
      (dss_cons (ds_set (i := 2) sc_law_digits.nd rfl (Or.inl rfl) (de_callB dcall_abs rfl T.n_abs (by decide +kernel) (da_cons (de_pv (pv 0)) da_nil)))
      (dss_cons (ds_for PassesOwn.never rfl (di_range1 rfl T.n_range (da_cons de_int da_nil)) (dg_name (pg_name (i := 3) sc_law_digits.nd rfl (Or.inl rfl))) (dss_one (ds_if (dw_pt (dw_or (dt_cmp dop_gt (de_pv (pv 2)) de_int) (dw_or1 (dt_cmp (dop_eq hr.units) (de_pv (pv 3)) de_int)))) (dss_cons (ds_set (i := 1) sc_law_digits.nd rfl (Or.inl rfl) (de_bin dop_add (de_ix de_str (de_bin dop_mod (de_callTy dcall_int rfl T.n_int boot_int (da_cons (de_pv (pv 2)) da_nil)) de_int) (fun _ _ => rfl)) (de_pv (pv 1))))
      (dss_one (ds_set (i := 2) sc_law_digits.nd rfl (Or.inl rfl) (de_bin dop_fdiv (de_pv (pv 2)) de_int)))) dss_nil)))
      (dss_cut (ds_if (dt_cmp dop_lt (de_pv (pv 0)) de_int) (dss_one (ds_set (i := 1) sc_law_digits.nd rfl (Or.inl rfl) (de_bin dop_add de_str (de_pv (pv 1))))) dss_nil)
      (dss_one (ds_ret (de_pv (pv 1))))))))) rd_law_digits
theorem ok_law_value {f : Addr} {fd : FuncData} (F : FunD K "_law_value" "_law_value" (defArgs st_law_value) (defBody st_law_value) (defScope st_law_value) [] [] f fd) (T : Txt mg)  : FnOk P w K mg base (EX P w) 1 f fd ["_law_text"] (liftSp K sp_law_value) :=
  dfn_ok (N := N_law_value) (k := 0) F sc_law_value spk1_len (fun cdv A outer s H E g hr =>
      (dss_cons (ds_set (i := 1) sc_law_value.nd rfl (Or.inl rfl) (de_pv (pv 0)))
      (dss_cut (ds_if (dt_cmp (dop_eq hr.units) (de_slice dsl_ok (de_pv (pv 0)) do_none (do_some de_int)) de_str) (dss_one (ds_set (i := 1) sc_law_value.nd rfl (Or.inl rfl) (de_slice dsl_ok (de_pv (pv 0)) (do_some de_int) do_none))) dss_nil)
      (dss_cons (ds_if (dw_pt (dw_or (dt_cmp (dop_eq hr.units) (de_callB dcall_len rfl T.n_len boot_len (da_cons (de_pv (pv 1)) da_nil)) de_int) (dw_or1 (dt_cmp dop_gt (de_callB dcall_len rfl T.n_len boot_len (da_cons (de_pv (pv 1)) da_nil)) de_int)))) (dss_one (ds_ret de_non)) dss_nil)
      (dss_cut (ds_if (dw_pt (dw_and (dt_cmp (dop_eq hr.units) (de_slice dsl_ok (de_pv (pv 1)) do_none (do_some de_int)) de_str) (dw_and1 (dt_cmp (dop_ne hr.units) (de_pv (pv 0)) de_str)))) (dss_one (ds_ret de_non)) dss_nil)
      (dss_cons (ds_set (i := 2) sc_law_value.nd rfl (Or.inl rfl) de_int)
      (dss_cons (ds_for PassesOwn.never rfl (di_seq (de_pv (pv 1))) (dg_name (pg_name (i := 3) sc_law_value.nd rfl (Or.inl rfl))) (dss_cons (ds_set (i := 4) sc_law_value.nd rfl (Or.inl rfl) (de_sm PySem.F.slot_str_find PySem.F.type_str_find dmt_find de_str (da_cons (de_pv (pv 3)) da_nil) (fun ho ha => pe_bm PySem.F.plainAttrs_str PySem.F.slot_str_find PySem.F.type_str_find dmt_find ho ha)))
      (dss_cons (ds_if (dt_cmp dop_lt (de_pv (pv 4)) de_int) (dss_one (ds_ret de_non)) dss_nil)
      (dss_one (ds_set (i := 2) sc_law_value.nd rfl (Or.inl rfl) (de_bin dop_add (de_bin dop_mul de_int (de_pv (pv 2))) (de_pv (pv 4))))))))
      (dss_cons (ds_if (dt_cmp (dop_eq hr.units) (de_slice dsl_ok (de_pv (pv 0)) do_none (do_some de_int)) de_str) (dss_one (ds_ret (de_bin dop_sub de_int (de_pv (pv 2))))) dss_nil)
      (dss_one (ds_ret (de_pv (pv 2)))))))))))) rd_law_value
theorem ok_law_read {f : Addr} {fd : FuncData} (F : FunD K "_law_read" "_law_read" (defArgs st_law_read) (defBody st_law_read) (defScope st_law_read) [] [] f fd) (T : Txt mg) (c_law_value : DCal P w K mg base 1 "_law_value" sp_law_value []) : FnOk P w K mg base (EX P w) 2 f fd ["_law_text", "_law_width_here"] (liftSp K sp_law_read) :=
  dfn_ok (N := N_law_read) (k := 1) F sc_law_read spk2_len (fun cdv A outer s H E g hr =>
      (dss_cons (ds_setLc (i := 2) (tg := .nm 4) (own := [("_law_word", 4)]) rfl sc_law_read.nd rfl rfl (sw_true rfl rfl rfl (by decide +kernel)) (di_seq (de_sm PySem.F.slot_str_split PySem.F.type_str_split dmt_split (de_pv (pv 0)) (da_cons de_str da_nil) (fun ho ha => pe_bm PySem.F.plainAttrs_str PySem.F.slot_str_split PySem.F.type_str_split dmt_split ho ha))) (blkOk_by (own := [("_law_word", 4)]) (N := N_law_read) (sc := defScope st_law_read) (by decide +kernel)) (by decide) (fun _ _ _ _ _ => pg_name (i := 4) sc_law_read.nd rfl (Or.inl rfl)) (fun _ _ _ _ _ _ => dts_nil) (fun _ _ _ _ _ _ => (de_call c_law_value hr (by decide) rfl pass_no (da_cons (de_pv (pv 4)) da_nil))))
      (dss_cons (ds_if (dt_cmp (dop_ne hr.units) (de_callB dcall_len rfl T.n_len boot_len (da_cons (de_pv (pv 2)) da_nil)) (de_pv (pv 1))) (dss_one (ds_ret de_non)) dss_nil)
      (dss_cons (ds_for PassesOwn.never rfl (di_seq (de_pv (pv 2))) (dg_name (pg_name (i := 3) sc_law_read.nd rfl (Or.inl rfl))) (dss_one (ds_if (dt_cmp dop_is (de_pv (pv 3)) de_non) (dss_one (ds_ret de_non)) dss_nil)))
      (dss_one (ds_ret (de_callTy dcall_tuple rfl T.n_tuple boot_tuple (da_cons (de_pv (pv 2)) da_nil)))))))) rd_law_read
theorem ok_law_is_int {f : Addr} {fd : FuncData} (F : FunD K "_law_is_int" "_law_is_int" (defArgs st_law_is_int) (defBody st_law_is_int) (defScope st_law_is_int) [] [] f fd) (T : Txt mg)  : FnOk P w K mg base (EX P w) 1 f fd ["_law_value_here"] (liftSp K sp_law_is_int) :=
  dfn_ok (N := N_law_is_int) (k := 0) F sc_law_is_int spk1_len (fun cdv A outer s H E g hr =>
      (dss_one (ds_ret (de_and (de_callB (dcall_isi .it) rfl T.n_isinstance (by decide +kernel) (da_cons (de_pv (pv 0)) (da_cons (de_ty rfl T.n_int boot_int) da_nil))) (de_one (de_not (de_callB (dcall_isi .bo) rfl T.n_isinstance (by decide +kernel) (da_cons (de_pv (pv 0)) (da_cons (de_ty rfl T.n_bool boot_bool) da_nil))))))))) rd_law_is_int
theorem ok_law_is_row {f : Addr} {fd : FuncData} (F : FunD K "_law_is_row" "_law_is_row" (defArgs st_law_is_row) (defBody st_law_is_row) (defScope st_law_is_row) [] [] f fd) (T : Txt mg) (c_law_is_int : DCal P w K mg base 1 "_law_is_int" sp_law_is_int []) : FnOk P w K mg base (EX P w) 2 f fd ["_law_value_here", "_law_row"] (liftSp K sp_law_is_row) :=
  dfn_ok (N := N_law_is_row) (k := 1) F sc_law_is_row spk2_len (fun cdv A outer s H E g hr =>
      (dss_cons (ds_if (dw_pt (dw_or (dt_not (dt_truth (de_callB (dcall_isi .tu) rfl T.n_isinstance (by decide +kernel) (da_cons (de_pv (pv 0)) (da_cons (de_ty rfl T.n_tuple boot_tuple) da_nil))))) (dw_or1 (dt_cmp (dop_ne hr.units) (de_callB dcall_len rfl T.n_len boot_len (da_cons (de_pv (pv 0)) da_nil)) (de_callB dcall_len rfl T.n_len boot_len (da_cons (de_pv (pv 1)) da_nil)))))) (dss_one (ds_ret de_bl)) dss_nil)
      (dss_one (ds_ret (de_and (de_callB (dcall_all rfl) rfl T.n_all (by decide +kernel) (da_cons (de_lc (tg := .nm 2) (own := [("_law_number_here", 2)]) rfl sc_law_is_row.nd (di_seq (de_pv (pv 0))) (blkOk_by (own := [("_law_number_here", 2)]) (N := N_law_is_row) (sc := defScope st_law_is_row) (by decide +kernel)) (by decide) (fun _ _ _ _ _ => pg_name (i := 2) sc_law_is_row.nd rfl (Or.inl rfl)) (fun _ _ _ _ _ _ => dts_nil) (fun _ _ _ _ _ _ => (de_call c_law_is_int hr (by decide) rfl pass_no (da_cons (de_pv (pv 2)) da_nil)))) da_nil)) (de_one (de_cmp (dop_eq hr.units) (de_pv (pv 0)) (de_pv (pv 1))))))))) rd_law_is_row
theorem ok_law_row_string {f : Addr} {fd : FuncData} (F : FunD K "_law_row_string" "_law_row_string" (defArgs st_law_row_string) (defBody st_law_row_string) (defScope st_law_row_string) [] [] f fd) (T : Txt mg) (c_law_digits : DCal P w K mg base 1 "_law_digits" sp_law_digits []) (c_law_number : DCal P w K mg base 2 "_law_number" sp_law_number []) (c_law_take : DCal P w K mg base 1 "_law_take" sp_law_take []) : FnOk P w K mg base (EX P w) 3 f fd ["_law_script", "_law_box", "_law_width_here"] (liftSp K sp_law_row_string) :=
  dfn_ok (N := N_law_row_string) (k := 2) F sc_law_row_string spk3_len (fun cdv A outer s H E g hr =>
      (dss_cons (ds_setLcC (i := 3) (tg := .nm 6) (own := [("_law_c", 6)]) rfl sc_law_row_string.nd rfl rfl (sw_true rfl rfl rfl (by decide +kernel)) (di_range1 rfl T.n_range (da_cons (de_pv (pv 2)) da_nil)) (blkOk_by (own := [("_law_c", 6)]) (N := N_law_row_string) (sc := defScope st_law_row_string) (by decide +kernel)) (by decide) (fun _ _ _ _ _ => pg_name (i := 6) sc_law_row_string.nd rfl (Or.inl rfl)) (fun _ _ _ _ _ _ => dts_nil) (fun _ _ _ _ _ _ => (de_call c_law_digits hr (by decide) rfl pass_no (da_cons (de_call c_law_number hr (by decide) rfl pass_no (da_cons (de_pv (pv 0)) (da_cons (de_pv (pv 1)) da_nil))) da_nil))))
      (dss_cons (ds_set (i := 4) sc_law_row_string.nd rfl (Or.inl rfl) (de_call c_law_take hr (by decide) rfl pass_no (da_cons (de_pv (pv 0)) (da_cons (de_pv (pv 1)) (da_cons de_int da_nil)))))
      (dss_cons (ds_set (i := 5) sc_law_row_string.nd rfl (Or.inl rfl) (de_call c_law_take hr (by decide) rfl pass_no (da_cons (de_pv (pv 0)) (da_cons (de_pv (pv 1)) (da_cons (de_pv (pv 2)) da_nil)))))
      (dss_cons (ds_if (dt_cmp (dop_eq hr.units) (de_pv (pv 4)) de_int) (dss_one (ds_ret (de_sm PySem.F.slot_str_join PySem.F.type_str_join dmt_join de_str (da_cons (de_pv (pv 3)) da_nil) (fun ho ha => pe_bm PySem.F.plainAttrs_str PySem.F.slot_str_join PySem.F.type_str_join dmt_join ho ha)))) dss_nil)
      (dss_cut (ds_if (dt_cmp (dop_eq hr.units) (de_pv (pv 4)) de_int) (dss_one (ds_expr (de_lm (de_pv (pv 3)) (da_cons (de_pv (pv 5)) (da_cons (de_call c_law_digits hr (by decide) rfl pass_no (da_cons (de_call c_law_number hr (by decide) rfl pass_no (da_cons (de_pv (pv 0)) (da_cons (de_pv (pv 1)) da_nil))) da_nil)) da_nil)) (fun ho ha => pe_bm PySem.F.plainAttrs_list PySem.F.slot_list_insert PySem.F.type_list_insert dmt_insert ho ha)))) dss_nil)
      (dss_cut (ds_if (dt_cmp (dop_eq hr.units) (de_pv (pv 4)) de_int) (dss_one (ds_expr (de_lm (de_pv (pv 3)) (da_cons (de_pv (pv 5)) da_nil) (fun ho ha => pe_bm PySem.F.plainAttrs_list PySem.F.slot_list_pop PySem.F.type_list_pop dmt_popAt ho ha)))) dss_nil)
      (dss_cut (ds_if (dt_cmp (dop_eq hr.units) (de_pv (pv 4)) de_int) (dss_one (ds_asg (de_ix (de_lst (da_cons de_str (da_cons de_str (da_cons de_str (da_cons de_str (da_cons de_str (da_cons de_str (da_cons de_str (da_cons de_str (da_cons de_str (da_cons de_str da_nil))))))))))) (de_call c_law_take hr (by decide) rfl pass_no (da_cons (de_pv (pv 0)) (da_cons (de_pv (pv 1)) (da_cons de_int da_nil)))) (fun _ _ => rfl)) (dg_sub (de_pv (pv 3)) (de_pv (pv 5))))) dss_nil)
      (dss_cut (ds_if (dt_cmp (dop_eq hr.units) (de_pv (pv 4)) de_int) (dss_one (ds_asg (de_bin dop_add de_str (de_bin dop_mul de_int de_str)) (dg_sub (de_pv (pv 3)) (de_pv (pv 5))))) dss_nil)
      (dss_cut (ds_if (dt_cmp (dop_eq hr.units) (de_pv (pv 4)) de_int) (dss_one (ds_expr (de_lm (de_pv (pv 3)) (da_cons (de_pv (pv 5)) (da_cons de_str da_nil)) (fun ho ha => pe_bm PySem.F.plainAttrs_list PySem.F.slot_list_insert PySem.F.type_list_insert dmt_insert ho ha)))) dss_nil)
      (dss_cut (ds_if (dt_cmp (dop_eq hr.units) (de_pv (pv 4)) de_int) (dss_one (ds_expr (de_append (de_pv (pv 3)) (da_cons de_str da_nil) (fun ho ha => pe_bm PySem.F.plainAttrs_list PySem.F.slot_list_append PySem.F.type_list_append mt_append ho ha)))) dss_nil)
      (dss_one (ds_ret (de_sm PySem.F.slot_str_join PySem.F.type_str_join dmt_join de_str (da_cons (de_pv (pv 3)) da_nil) (fun ho ha => pe_bm PySem.F.plainAttrs_str PySem.F.slot_str_join PySem.F.type_str_join dmt_join ho ha))))))))))))))) rd_law_row_string
theorem ok_law {f : Addr} {fd : FuncData} (F : FunD K "law" "law" (defArgs st_law) (defBody st_law) (defScope st_law) [] [] f fd) (T : Txt mg) (c_law_width : DCal P w K mg base 2 "_law_width" sp_law_width []) (c_law_row_string : DCal P w K mg base 3 "_law_row_string" sp_law_row_string []) (c_law_read : DCal P w K mg base 2 "_law_read" sp_law_read []) (c_read_row : DCal P w K mg base 3 "read_row" sp_read_row []) (c_law_is_row : DCal P w K mg base 2 "_law_is_row" sp_law_is_row []) (c_row_text : DCal P w K mg base 2 "row_text" sp_row_text []) : FnOk P w K mg base (EX P w) 4 f fd ["_law_script"] (liftSp K sp_law) :=
  dfn_ok (N := N_law) (k := 3) F sc_law spk1_len (fun cdv A outer s H E g hr =>
      (dss_cons (ds_set (i := 1) sc_law.nd rfl (Or.inl rfl) (de_lstC (da_cons de_int (da_cons de_int da_nil))))
      (dss_cons (ds_for PassesOwn.never rfl (di_range1 rfl T.n_range (da_cons de_int da_nil)) (dg_name (pg_name (i := 2) sc_law.nd rfl (Or.inl rfl))) (dss_cons (ds_set (i := 3) sc_law.nd rfl (Or.inl rfl) (de_call c_law_width hr (by decide) rfl pass_no (da_cons (de_pv (pv 0)) (da_cons (de_pv (pv 1)) da_nil))))
      (dss_cons (ds_set (i := 4) sc_law.nd rfl (Or.inl rfl) (de_call c_law_row_string hr (by decide) rfl pass_no (da_cons (de_pv (pv 0)) (da_cons (de_pv (pv 1)) (da_cons (de_pv (pv 3)) da_nil)))))
      (dss_one (ds_for PassesOwn.never rfl (di_seq (de_lst (da_cons (de_pv (pv 3)) (da_cons (de_bin dop_add (de_bin dop_mod (de_callTy dcall_int rfl T.n_int boot_int (da_cons (de_pv (pv 3)) da_nil)) de_int) de_int) da_nil)))) (dg_name (pg_name (i := 5) sc_law.nd rfl (Or.inl rfl))) (dss_cons (ds_set (i := 6) sc_law.nd rfl (Or.inl rfl) (de_call c_law_read hr (by decide) rfl pass_no (da_cons (de_pv (pv 4)) (da_cons (de_pv (pv 5)) da_nil))))
      (dss_cons (ds_set (i := 7) sc_law.nd rfl (Or.inl rfl) (de_call c_read_row hr (by decide) rfl pass_no (da_cons (de_pv (pv 4)) (da_cons (de_pv (pv 5)) da_nil))))
      (dss_one (ds_if (dt_cmp dop_is (de_pv (pv 6)) de_non) (dss_one (ds_if (dt_cmp dop_isnot (de_pv (pv 7)) de_non) (dss_one (ds_ret de_bl)) dss_nil)) (dss_one (ds_if (dw_pt (dw_or (dt_not (dt_truth (de_call c_law_is_row hr (by decide) rfl pass_no (da_cons (de_pv (pv 7)) (da_cons (de_pv (pv 6)) da_nil))))) (dw_or1 (dt_cmp (dop_ne hr.units) (de_call c_row_text hr (by decide) rfl pass_no (da_cons (de_pv (pv 7)) da_nil)) (de_pv (pv 4)))))) (dss_one (ds_ret de_bl)) dss_nil)))))))))))
      (dss_one (ds_ret de_bl))))) rd_law
end
def d_is_integer : He.DefD := ⟨("is_integer", none), "is_integer", "is_integer", defArgs st_is_integer, defBody st_is_integer, defScope st_is_integer, [], []⟩
def d_number_text : He.DefD := ⟨("number_text", none), "number_text", "number_text", defArgs st_number_text, defBody st_number_text, defScope st_number_text, [], []⟩
def d_read_number : He.DefD := ⟨("read_number", none), "read_number", "read_number", defArgs st_read_number, defBody st_read_number, defScope st_read_number, [], []⟩
def d_is_row : He.DefD := ⟨("is_row", none), "is_row", "is_row", defArgs st_is_row, defBody st_is_row, defScope st_is_row, [], []⟩
def d_row_text : He.DefD := ⟨("row_text", none), "row_text", "row_text", defArgs st_row_text, defBody st_row_text, defScope st_row_text, [], []⟩
def d_read_words : He.DefD := ⟨("read_words", none), "read_words", "read_words", defArgs st_read_words, defBody st_read_words, defScope st_read_words, [], []⟩
def d_read_row : He.DefD := ⟨("read_row", none), "read_row", "read_row", defArgs st_read_row, defBody st_read_row, defScope st_read_row, [], []⟩
def d_law_take : He.DefD := ⟨("_law_take", none), "_law_take", "_law_take", defArgs st_law_take, defBody st_law_take, defScope st_law_take, [], []⟩
def d_law_number : He.DefD := ⟨("_law_number", none), "_law_number", "_law_number", defArgs st_law_number, defBody st_law_number, defScope st_law_number, [], []⟩
def d_law_width : He.DefD := ⟨("_law_width", none), "_law_width", "_law_width", defArgs st_law_width, defBody st_law_width, defScope st_law_width, [], []⟩
def d_law_digits : He.DefD := ⟨("_law_digits", none), "_law_digits", "_law_digits", defArgs st_law_digits, defBody st_law_digits, defScope st_law_digits, [], []⟩
def d_law_value : He.DefD := ⟨("_law_value", none), "_law_value", "_law_value", defArgs st_law_value, defBody st_law_value, defScope st_law_value, [], []⟩
def d_law_read : He.DefD := ⟨("_law_read", none), "_law_read", "_law_read", defArgs st_law_read, defBody st_law_read, defScope st_law_read, [], []⟩
def d_law_is_int : He.DefD := ⟨("_law_is_int", none), "_law_is_int", "_law_is_int", defArgs st_law_is_int, defBody st_law_is_int, defScope st_law_is_int, [], []⟩
def d_law_is_row : He.DefD := ⟨("_law_is_row", none), "_law_is_row", "_law_is_row", defArgs st_law_is_row, defBody st_law_is_row, defScope st_law_is_row, [], []⟩
def d_law_row_string : He.DefD := ⟨("_law_row_string", none), "_law_row_string", "_law_row_string", defArgs st_law_row_string, defBody st_law_row_string, defScope st_law_row_string, [], []⟩
def d_law : He.DefD := ⟨("law", none), "law", "law", defArgs st_law, defBody st_law, defScope st_law, [], []⟩
def fn : List He.DefD := [d_is_integer, d_number_text, d_read_number, d_is_row, d_row_text, d_read_words, d_read_row, d_law_take, d_law_number, d_law_width, d_law_digits, d_law_value, d_law_read, d_law_is_int, d_law_is_row, d_law_row_string, d_law]
def fa : List He.Fa := [.glo "is_integer", .glo "number_text", .glo "read_number", .glo "is_row", .glo "row_text", .glo "read_words", .glo "read_row", .glo "_law_take", .glo "_law_number", .glo "_law_width", .glo "_law_digits", .glo "_law_value", .glo "_law_read", .glo "_law_is_int", .glo "_law_is_row", .glo "_law_row_string", .glo "law", .free "abs", .free "all", .free "bool", .free "int", .free "isinstance", .free "len", .free "range", .free "str", .free "tuple", .str "DIGITS" "0123456789", .int "MOST_DIGITS" 60]
abbrev R : PySem.W.OpenRow := PySem.W.OpenLaw.row PySem.Challenge.rw_placelayers_k07_read_row
abbrev hk : PySem.W.Hook := He.hookD 4 fa fn
def ob (s : PySem.W.SharedT) : He.AlD := He.obsDG 4 fa fn (HandSHeadRun.getT s)
theorem ob_eq (s : PySem.W.SharedT) : ob s = hk.obs s.abs := He.obsDG_eq (HandSHeadRun.getT_eq s)
def loose : List PySem.Str := ["__name__", "MOST_DIGITS", "DIGITS", "is_integer", "number_text", "read_number", "is_row", "row_text", "read_words", "read_row", "_law_take", "_law_number", "_law_width", "_law_digits", "_law_value", "_law_read", "_law_is_int", "_law_is_row", "_law_row_string"]
theorem run (w : World) : HandSHeadRun.RunEq R (PySem.W.view R.prog [21]) hk ob 4000 loose w := by
  intro os
  kernel_rfl
theorem facts {P : Program} {w : World} {K : PySem.W.Frag} {h : Heap} {mg : PySem.Str → Option Value} {f : Addr} (X : K.In h) (G : h.Ns mainGlobals mg) (hfa : mg ("law" : PySem.Str) = some (.ref f)) (c : He.SaysD fa fn K) :
    ∃ fd : FuncData, (∀ (s : Shared) (v : Value), BindsTo s fd ⟨[v], []⟩ [("_law_script", v)]) ∧ ∀ base : Heap, K.In base → base.Ns mainGlobals mg → FnOk P w K mg base (EX P w) 4 f fd ["_law_script"] (liftSp K sp_law) := by
  have T : Txt mg := ⟨He.free_ok X G (c.fact 17 (f := .free "abs") rfl), He.free_ok X G (c.fact 18 (f := .free "all") rfl), He.free_ok X G (c.fact 19 (f := .free "bool") rfl), He.free_ok X G (c.fact 20 (f := .free "int") rfl), He.free_ok X G (c.fact 21 (f := .free "isinstance") rfl), He.free_ok X G (c.fact 22 (f := .free "len") rfl), He.free_ok X G (c.fact 23 (f := .free "range") rfl), He.free_ok X G (c.fact 24 (f := .free "str") rfl), He.free_ok X G (c.fact 25 (f := .free "tuple") rfl), He.str_ok X G (c.fact 26 (f := .str "DIGITS" "0123456789") rfl), He.int_ok X G (c.fact 27 (f := .int "MOST_DIGITS" 60) rfl)⟩
  obtain ⟨fd_is_integer, F_is_integer⟩ := c.def_ 0 (d := d_is_integer) rfl
  obtain ⟨fd_number_text, F_number_text⟩ := c.def_ 1 (d := d_number_text) rfl
  obtain ⟨fd_read_number, F_read_number⟩ := c.def_ 2 (d := d_read_number) rfl
  obtain ⟨fd_is_row, F_is_row⟩ := c.def_ 3 (d := d_is_row) rfl
  obtain ⟨fd_row_text, F_row_text⟩ := c.def_ 4 (d := d_row_text) rfl
  obtain ⟨fd_read_words, F_read_words⟩ := c.def_ 5 (d := d_read_words) rfl
  obtain ⟨fd_read_row, F_read_row⟩ := c.def_ 6 (d := d_read_row) rfl
  obtain ⟨fd_law_take, F_law_take⟩ := c.def_ 7 (d := d_law_take) rfl
  obtain ⟨fd_law_number, F_law_number⟩ := c.def_ 8 (d := d_law_number) rfl
  obtain ⟨fd_law_width, F_law_width⟩ := c.def_ 9 (d := d_law_width) rfl
  obtain ⟨fd_law_digits, F_law_digits⟩ := c.def_ 10 (d := d_law_digits) rfl
  obtain ⟨fd_law_value, F_law_value⟩ := c.def_ 11 (d := d_law_value) rfl
  obtain ⟨fd_law_read, F_law_read⟩ := c.def_ 12 (d := d_law_read) rfl
  obtain ⟨fd_law_is_int, F_law_is_int⟩ := c.def_ 13 (d := d_law_is_int) rfl
  obtain ⟨fd_law_is_row, F_law_is_row⟩ := c.def_ 14 (d := d_law_is_row) rfl
  obtain ⟨fd_law_row_string, F_law_row_string⟩ := c.def_ 15 (d := d_law_row_string) rfl
  obtain ⟨fd_law, F_law⟩ := c.def_ 16 (d := d_law) rfl
  have e := hfa.symm.trans (He.glo_ok X G (c.fact 16 (f := .glo "law") rfl))
  cases e
  have b := FunD.bindsA (ps := ["_law_script"]) F_law fun _ _ _ _ _ _ us hl => match us, hl with | [_], _ => rfl
  refine ⟨fd_law, fun s v => b s [v] rfl, fun base _ _ => ?_⟩
  have c_is_integer : DCal P w K mg base 1 "is_integer" sp_is_integer [] := ⟨⟨_, fd_is_integer, _, [], [], ok_is_integer F_is_integer T , He.glo_ok X G (c.fact 0 (f := .glo "is_integer") rfl), F_is_integer.kp, F_is_integer.bindsN fun _ _ _ _ _ _ us hl => match us, hl with | [_], _ => rfl, .nil, fun _ => .nil⟩⟩
  have c_number_text : DCal P w K mg base 1 "number_text" sp_number_text [] := ⟨⟨_, fd_number_text, _, [], [], ok_number_text F_number_text T , He.glo_ok X G (c.fact 1 (f := .glo "number_text") rfl), F_number_text.kp, F_number_text.bindsN fun _ _ _ _ _ _ us hl => match us, hl with | [_], _ => rfl, .nil, fun _ => .nil⟩⟩
  have c_read_number : DCal P w K mg base 1 "read_number" sp_read_number [] := ⟨⟨_, fd_read_number, _, [], [], ok_read_number F_read_number T , He.glo_ok X G (c.fact 2 (f := .glo "read_number") rfl), F_read_number.kp, F_read_number.bindsN fun _ _ _ _ _ _ us hl => match us, hl with | [_], _ => rfl, .nil, fun _ => .nil⟩⟩
  have c_is_row : DCal P w K mg base 2 "is_row" sp_is_row [] := ⟨⟨_, fd_is_row, _, [], [], ok_is_row F_is_row T c_is_integer, He.glo_ok X G (c.fact 3 (f := .glo "is_row") rfl), F_is_row.kp, F_is_row.bindsN fun _ _ _ _ _ _ us hl => match us, hl with | [_, _], _ => rfl, .nil, fun _ => .nil⟩⟩
  have c_row_text : DCal P w K mg base 2 "row_text" sp_row_text [] := ⟨⟨_, fd_row_text, _, [], [], ok_row_text F_row_text T c_number_text, He.glo_ok X G (c.fact 4 (f := .glo "row_text") rfl), F_row_text.kp, F_row_text.bindsN fun _ _ _ _ _ _ us hl => match us, hl with | [_], _ => rfl, .nil, fun _ => .nil⟩⟩
  have c_read_words : DCal P w K mg base 2 "read_words" sp_read_words [] := ⟨⟨_, fd_read_words, _, [], [], ok_read_words F_read_words T c_read_number, He.glo_ok X G (c.fact 5 (f := .glo "read_words") rfl), F_read_words.kp, F_read_words.bindsN fun _ _ _ _ _ _ us hl => match us, hl with | [_], _ => rfl, .nil, fun _ => .nil⟩⟩
  have c_read_row : DCal P w K mg base 3 "read_row" sp_read_row [] := ⟨⟨_, fd_read_row, _, [], [], ok_read_row F_read_row T c_read_words c_is_row, He.glo_ok X G (c.fact 6 (f := .glo "read_row") rfl), F_read_row.kp, F_read_row.bindsN fun _ _ _ _ _ _ us hl => match us, hl with | [_, _], _ => rfl, .nil, fun _ => .nil⟩⟩
  have c_law_take : DCal P w K mg base 1 "_law_take" sp_law_take [] := ⟨⟨_, fd_law_take, _, [], [], ok_law_take F_law_take T , He.glo_ok X G (c.fact 7 (f := .glo "_law_take") rfl), F_law_take.kp, F_law_take.bindsN fun _ _ _ _ _ _ us hl => match us, hl with | [_, _, _], _ => rfl, .nil, fun _ => .nil⟩⟩
  have c_law_number : DCal P w K mg base 2 "_law_number" sp_law_number [] := ⟨⟨_, fd_law_number, _, [], [], ok_law_number F_law_number T c_law_take, He.glo_ok X G (c.fact 8 (f := .glo "_law_number") rfl), F_law_number.kp, F_law_number.bindsN fun _ _ _ _ _ _ us hl => match us, hl with | [_, _], _ => rfl, .nil, fun _ => .nil⟩⟩
  have c_law_width : DCal P w K mg base 2 "_law_width" sp_law_width [] := ⟨⟨_, fd_law_width, _, [], [], ok_law_width F_law_width T c_law_take, He.glo_ok X G (c.fact 9 (f := .glo "_law_width") rfl), F_law_width.kp, F_law_width.bindsN fun _ _ _ _ _ _ us hl => match us, hl with | [_, _], _ => rfl, .nil, fun _ => .nil⟩⟩
  have c_law_digits : DCal P w K mg base 1 "_law_digits" sp_law_digits [] := ⟨⟨_, fd_law_digits, _, [], [], ok_law_digits F_law_digits T , He.glo_ok X G (c.fact 10 (f := .glo "_law_digits") rfl), F_law_digits.kp, F_law_digits.bindsN fun _ _ _ _ _ _ us hl => match us, hl with | [_], _ => rfl, .nil, fun _ => .nil⟩⟩
  have c_law_value : DCal P w K mg base 1 "_law_value" sp_law_value [] := ⟨⟨_, fd_law_value, _, [], [], ok_law_value F_law_value T , He.glo_ok X G (c.fact 11 (f := .glo "_law_value") rfl), F_law_value.kp, F_law_value.bindsN fun _ _ _ _ _ _ us hl => match us, hl with | [_], _ => rfl, .nil, fun _ => .nil⟩⟩
  have c_law_read : DCal P w K mg base 2 "_law_read" sp_law_read [] := ⟨⟨_, fd_law_read, _, [], [], ok_law_read F_law_read T c_law_value, He.glo_ok X G (c.fact 12 (f := .glo "_law_read") rfl), F_law_read.kp, F_law_read.bindsN fun _ _ _ _ _ _ us hl => match us, hl with | [_, _], _ => rfl, .nil, fun _ => .nil⟩⟩
  have c_law_is_int : DCal P w K mg base 1 "_law_is_int" sp_law_is_int [] := ⟨⟨_, fd_law_is_int, _, [], [], ok_law_is_int F_law_is_int T , He.glo_ok X G (c.fact 13 (f := .glo "_law_is_int") rfl), F_law_is_int.kp, F_law_is_int.bindsN fun _ _ _ _ _ _ us hl => match us, hl with | [_], _ => rfl, .nil, fun _ => .nil⟩⟩
  have c_law_is_row : DCal P w K mg base 2 "_law_is_row" sp_law_is_row [] := ⟨⟨_, fd_law_is_row, _, [], [], ok_law_is_row F_law_is_row T c_law_is_int, He.glo_ok X G (c.fact 14 (f := .glo "_law_is_row") rfl), F_law_is_row.kp, F_law_is_row.bindsN fun _ _ _ _ _ _ us hl => match us, hl with | [_, _], _ => rfl, .nil, fun _ => .nil⟩⟩
  have c_law_row_string : DCal P w K mg base 3 "_law_row_string" sp_law_row_string [] := ⟨⟨_, fd_law_row_string, _, [], [], ok_law_row_string F_law_row_string T c_law_digits c_law_number c_law_take, He.glo_ok X G (c.fact 15 (f := .glo "_law_row_string") rfl), F_law_row_string.kp, F_law_row_string.bindsN fun _ _ _ _ _ _ us hl => match us, hl with | [_, _, _], _ => rfl, .nil, fun _ => .nil⟩⟩
  exact ok_law F_law T c_law_width c_law_row_string c_law_read c_read_row c_law_is_row c_row_text
end LawW
open PySem PySem.W PySem.Calls PyProof.Rows
set_option maxRecDepth 100000 in
set_option maxHeartbeats 0 in
theorem PySem.Challenge.cw_placelayers_k07_read_row_holds : PySem.Challenge.rw_placelayers_k07_read_row.Holds := by
  w_on; o_law
  refine HandSHeadRun.head_any (r := OpenLaw.row PySem.Challenge.rw_placelayers_k07_read_row) (q := view (OpenLaw.row PySem.Challenge.rw_placelayers_k07_read_row).prog [21]) (H := LawW.hk) (ob := LawW.ob) (M := 4000) (loose := LawW.loose) (d := HandSHeadRun.topDef (OpenLaw.row PySem.Challenge.rw_placelayers_k07_read_row).prog 21) (kwd := []) LawW.ob_eq
    (by kernel_rfl) (fun s => by kernel_rfl) LawW.run (by kernel_rfl) (by kernel_rfl) (by kernel_rfl) (by rfl) (by first | assumption | decide +kernel) (by decide +kernel) ⟨rfl, rfl, rfl, rfl, rfl, by decide +kernel⟩ ?hw ?hc
  case hw => w_witness2
  case hc =>
    refine L2.walk_ofE (l := PySem.Challenge.rw_placelayers_k07_read_row) (n := 63) (k := 4) (x := "_law_script") (CX := L2.CX0) rfl (by decide) (by kernel_rfl) ⟨rfl, by decide, by decide⟩ ?F (fun _ _ _ _ z => z)
    intro w mg fa h Y G hmg0
    obtain ⟨K, KX, c⟩ := Y
    have hmg : mg ("law" : PySem.Str) = some (.ref fa) := by
      have e : (HandSHeadRun.topDef (OpenLaw.row PySem.Challenge.rw_placelayers_k07_read_row).prog 21).name = ("law" : PySem.Str) := by kernel_rfl
      rw [← e]
      exact hmg0
    obtain ⟨fd, hb, hF⟩ := LawW.facts (P := (PySem.Challenge.rw_placelayers_k07_read_row).prog) (w := w) KX G hmg c
    exact ⟨K, fd, DL.liftSp K DL.sp_law, KX, hb, fun H a ns hl _ hS => DL.law_start hl hS, fun base X G => DL.fn_quiet (hF base X G) DL.law_quiet⟩
