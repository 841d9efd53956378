import PyProof.Rows.All
import Wide.All
import OpenK.AllK
import Wide.FinOn
import HandS.ForMost
import HandS.ForExc
import HandS.Wide
import HandS.WideBits
import HandS.SlotsOwn
import HandS.Defaults
import HandS.TryMany
import HandS.ExcInit
import HandS.ExcField
import HandS.IsInst
import HandS.TupAny
import HandS.StrMore
import PyProof.ReprRoads
import HandS.Text
import HandS.RaiseMore
import KE.KExcInit
import HandS.EndBits
import PySem.Challenge.RW_wholedrift_k11_whole_roundings_by_bounds
set_option Elab.async false
set_option linter.all false
set_option maxRecDepth 100000
set_option maxHeartbeats 4000000
open PySem PySem.W PyProof.Rows in
set_option maxHeartbeats 0 in
open_top hd11 for PySem.Challenge.rw_wholedrift_k11_whole_roundings_by_bounds
namespace Dv
open PySem PySem.Spec PyProof.Rows L2
inductive D where
  | non | bl (b : Bool) | int (i : Int) | str (x : Str) | ty (n : String) | ref (a : Addr)
  | tup (xs : List D) | lst (xs : List D) | dct (kvs : List (Key × D))
  | sl (C : Addr) (xs : List D)
  | ins (C : Addr) (fs : List (Str × D))
  | scr (ns : List Int)
mutual
inductive Rep (K : PySem.W.Frag) (F : Hp) : D → V → Prop
  | non : Rep K F .non .non
  | bl (b : Bool) : Rep K F (.bl b) (.bl b)
  | int (i : Int) : Rep K F (.int i) (.int i)
  | str (x : Str) : Rep K F (.str x) (.str x)
  | ty (n : String) : Rep K F (.ty n) (.ty n)
  | ref (a : Addr) : Rep K F (.ref a) (.ref a)
  | tup {a : Addr} {vs : List V} {ds : List D} : SqT K F a vs → RepL K F ds vs → Rep K F (.tup ds) (.ref a)
  | lst {a : Addr} {vs : List V} {ds : List D} : F a = some (.lst vs) → RepL K F ds vs → Rep K F (.lst ds) (.ref a)
  | dct {a : Addr} {kvs : List (Key × V)} {ks : List (Key × D)} : F a = some (.dK kvs) → RepK K F ks kvs → Rep K F (.dct ks) (.ref a)
  | sl {a C dx : Addr} {vs : List V} {ds : List D} : SlX.Slt F a C dx (vs.map some) → RepL K F ds vs → Rep K F (.sl C ds) (.ref a)
  | ins {a C dx : Addr} {vs : List (Str × V)} {fs : List (Str × D)} : F a = some (.ins C dx vs) → RepF K F fs vs → Rep K F (.ins C fs) (.ref a)
  | scr {a : Addr} {ns : List Int} : SqL K F a (ns.map V.int) → Rep K F (.scr ns) (.ref a)
inductive RepL (K : PySem.W.Frag) (F : Hp) : List D → List V → Prop
  | nil : RepL K F [] []
  | cons {d : D} {ds : List D} {v : V} {vs : List V} : Rep K F d v → RepL K F ds vs → RepL K F (d :: ds) (v :: vs)
inductive RepK (K : PySem.W.Frag) (F : Hp) : List (Key × D) → List (Key × V) → Prop
  | nil : RepK K F [] []
  | cons {k : Key} {d : D} {ds : List (Key × D)} {v : V} {vs : List (Key × V)} : Rep K F d v → RepK K F ds vs → RepK K F ((k, d) :: ds) ((k, v) :: vs)
inductive RepF (K : PySem.W.Frag) (F : Hp) : List (Str × D) → List (Str × V) → Prop
  | nil : RepF K F [] []
  | cons {k : Str} {d : D} {ds : List (Str × D)} {v : V} {vs : List (Str × V)} : Rep K F d v → RepF K F ds vs → RepF K F ((k, d) :: ds) ((k, v) :: vs)
end
def Ex (H H' : Hp) : Prop := ∀ a o, H a = some o → H' a = some o
theorem Ex.refl (H : Hp) : Ex H H := fun _ _ h => h
theorem Ex.trans {H H1 H2 : Hp} (a : Ex H H1) (b : Ex H1 H2) : Ex H H2 := fun x o h => b x o (a x o h)
theorem Ex.new {H : Hp} {p : Addr} {o : HO} (h : H p = none) : Ex H (upd H p o) := fun a u e => by
  rw [upd_ne (ne_of_none e h)]; exact e
theorem Ex.rd {H H' : Hp} {a : Addr} {u : HO} (e : Ex H H') (h : Rd H a u) : Rd H' a u := by
  rcases h with h | ⟨o, h⟩
  · exact .inl (e a _ h)
  · exact .inr ⟨o, e a _ h⟩
theorem Ex.l {K : PySem.W.Frag} {H H' : Hp} {a : Addr} {xs : List V} (e : Ex H H') (h : SqL K H a xs) : SqL K H' a xs := h.elim (fun h => .inl (e.rd h)) .inr
theorem Ex.t {K : PySem.W.Frag} {H H' : Hp} {a : Addr} {xs : List V} (e : Ex H H') (h : SqT K H a xs) : SqT K H' a xs := h.elim (fun h => .inl (e.rd h)) .inr
theorem Ex.slt {H H' : Hp} {a C dx : Addr} {vs : List (Option V)} (e : Ex H H') (h : SlX.Slt H a C dx vs) : SlX.Slt H' a C dx vs :=
  h.elim (fun h => .inl ⟨e _ _ h.1, h.2⟩) fun h => .inr ⟨e _ _ h.1, e _ _ h.2⟩
theorem Ex.back {H H' : Hp} {p : Addr} (e : Ex H H') (h : H' p = none) : H p = none := by
  cases h1 : H p with
  | none => rfl
  | some o => rw [e p o h1] at h; cases h
mutual
theorem Rep.mono {K : PySem.W.Frag} {F F' : Hp} (e : Ex F F') : ∀ {d : D} {v : V}, Rep K F d v → Rep K F' d v
  | _, _, .non => .non
  | _, _, .bl b => .bl b
  | _, _, .int i => .int i
  | _, _, .str x => .str x
  | _, _, .ty n => .ty n
  | _, _, .ref a => .ref a
  | _, _, .tup h r => .tup (e.t h) (RepL.mono e r)
  | _, _, .lst h r => .lst (e _ _ h) (RepL.mono e r)
  | _, _, .dct h r => .dct (e _ _ h) (RepK.mono e r)
  | _, _, .sl h r => .sl (e.slt h) (RepL.mono e r)
  | _, _, .ins h r => .ins (e _ _ h) (RepF.mono e r)
  | _, _, .scr h => .scr (e.l h)
theorem RepL.mono {K : PySem.W.Frag} {F F' : Hp} (e : Ex F F') : ∀ {d : List D} {v : List V}, RepL K F d v → RepL K F' d v
  | _, _, .nil => .nil
  | _, _, .cons h r => .cons (Rep.mono e h) (RepL.mono e r)
theorem RepK.mono {K : PySem.W.Frag} {F F' : Hp} (e : Ex F F') : ∀ {d : List (Key × D)} {v : List (Key × V)}, RepK K F d v → RepK K F' d v
  | _, _, .nil => .nil
  | _, _, .cons h r => .cons (Rep.mono e h) (RepK.mono e r)
theorem RepF.mono {K : PySem.W.Frag} {F F' : Hp} (e : Ex F F') : ∀ {d : List (Str × D)} {v : List (Str × V)}, RepF K F d v → RepF K F' d v
  | _, _, .nil => .nil
  | _, _, .cons h r => .cons (Rep.mono e h) (RepF.mono e r)
end
end Dv
namespace Dv
open PySem PySem.Spec PyProof.Rows L2
inductive RepS (K : PySem.W.Frag) (F : Hp) : List (Option D) → List (Option V) → Prop
  | nil : RepS K F [] []
  | yes {d : D} {v : V} {ds : List (Option D)} {vs : List (Option V)} : Rep K F d v → RepS K F ds vs → RepS K F (some d :: ds) (some v :: vs)
  | no (o : Option V) {ds : List (Option D)} {vs : List (Option V)} : RepS K F ds vs → RepS K F (none :: ds) (o :: vs)
inductive RepT (K : PySem.W.Frag) (F : Hp) : List (List Key × D) → List (List Key × V) → Prop
  | nil : RepT K F [] []
  | cons {k : List Key} {d : D} {ds : List (List Key × D)} {v : V} {vs : List (List Key × V)} : Rep K F d v → RepT K F ds vs → RepT K F ((k, d) :: ds) ((k, v) :: vs)
section
variable {K : PySem.W.Frag} {F F' : Hp}
theorem RepS.mono (e : Ex F F') : ∀ {d : List (Option D)} {v : List (Option V)}, RepS K F d v → RepS K F' d v
  | _, _, .nil => .nil
  | _, _, .yes h r => .yes (Rep.mono e h) (RepS.mono e r)
  | _, _, .no o r => .no o (RepS.mono e r)
theorem RepT.mono (e : Ex F F') : ∀ {d : List (List Key × D)} {v : List (List Key × V)}, RepT K F d v → RepT K F' d v
  | _, _, .nil => .nil
  | _, _, .cons h r => .cons (Rep.mono e h) (RepT.mono e r)
theorem RepS.get : ∀ {ds : List (Option D)} {vs : List (Option V)} {i : Nat} {d : D}, RepS K F ds vs → ds[i]? = some (some d) → ∃ v, vs[i]? = some (some v) ∧ Rep K F d v
  | _, _, i, _, .nil, e => by simp at e
  | _, _, 0, _, .yes h r, e => by cases e; exact ⟨_, rfl, h⟩
  | _, _, 0, _, .no _ r, e => by cases e
  | _, _, i + 1, d, .yes (ds := ds) h r, e => RepS.get (ds := ds) (i := i) r (by simpa using e)
  | _, _, i + 1, d, .no (ds := ds) _ r, e => RepS.get (ds := ds) (i := i) r (by simpa using e)
theorem RepS.set {d : D} {v : V} (h : Rep K F d v) : ∀ {ds : List (Option D)} {vs : List (Option V)} (i : Nat), RepS K F ds vs → RepS K F (ds.set i (Option.some d)) (vs.set i (Option.some v))
  | _, _, _, .nil => .nil
  | _, _, 0, .yes _ r => .yes h r
  | _, _, 0, .no _ r => .yes h r
  | _, _, i + 1, .yes q r => .yes q (RepS.set h i r)
  | _, _, i + 1, .no o r => .no o (RepS.set h i r)
theorem RepS.unset (o : Option V) : ∀ {ds : List (Option D)} {vs : List (Option V)} (i : Nat), RepS K F ds vs → RepS K F (ds.set i Option.none) (vs.set i o)
  | _, _, _, .nil => .nil
  | _, _, 0, .yes _ r => .no o r
  | _, _, 0, .no _ r => .no o r
  | _, _, i + 1, .yes q r => .yes q (RepS.unset o i r)
  | _, _, i + 1, .no z r => .no z (RepS.unset o i r)
theorem RepS.length : ∀ {ds : List (Option D)} {vs : List (Option V)}, RepS K F ds vs → ds.length = vs.length
  | _, _, .nil => rfl
  | _, _, .yes _ r => congrArg Nat.succ r.length
  | _, _, .no _ r => congrArg Nat.succ r.length
theorem RepS.append : ∀ {ds : List (Option D)} {vs : List (Option V)} {es : List (Option D)} {ws : List (Option V)}, RepS K F ds vs → RepS K F es ws → RepS K F (ds ++ es) (vs ++ ws)
  | _, _, _, _, .nil, s => s
  | _, _, _, _, .yes h r, s => .yes h (r.append s)
  | _, _, _, _, .no o r, s => .no o (r.append s)
theorem RepS.nones : ∀ n : Nat, RepS K F (List.replicate n Option.none) (List.replicate n Option.none)
  | 0 => .nil
  | n + 1 => .no Option.none (RepS.nones n)
theorem RepL.length : ∀ {ds : List D} {vs : List V}, RepL K F ds vs → ds.length = vs.length
  | _, _, .nil => rfl
  | _, _, .cons _ r => congrArg Nat.succ r.length
theorem RepL.somes : ∀ {ds : List D} {vs : List V}, RepL K F ds vs → RepS K F (ds.map Option.some) (vs.map Option.some)
  | _, _, .nil => .nil
  | _, _, .cons h r => .yes h r.somes
theorem RepL.get : ∀ {ds : List D} {vs : List V} {i : Nat} {d : D}, RepL K F ds vs → ds[i]? = some d → ∃ v, vs[i]? = some v ∧ Rep K F d v
  | _, _, _, _, .nil, e => by simp at e
  | _, _, 0, _, .cons h r, e => by cases e; exact ⟨_, rfl, h⟩
  | _, _, i + 1, d, .cons (ds := ds) h r, e => RepL.get (ds := ds) (i := i) r (by simpa using e)
theorem RepL.getV : ∀ {ds : List D} {vs : List V} {i : Nat} {v : V}, RepL K F ds vs → vs[i]? = some v → ∃ d, ds[i]? = some d ∧ Rep K F d v
  | _, _, _, _, .nil, e => by simp at e
  | _, _, 0, _, .cons h r, e => by cases e; exact ⟨_, rfl, h⟩
  | _, _, i + 1, v, .cons (vs := vs) h r, e => RepL.getV (vs := vs) (i := i) r (by simpa using e)
theorem RepL.set {d : D} {v : V} (h : Rep K F d v) : ∀ {ds : List D} {vs : List V} (i : Nat), RepL K F ds vs → RepL K F (ds.set i d) (vs.set i v)
  | _, _, _, .nil => .nil
  | _, _, 0, .cons _ r => .cons h r
  | _, _, i + 1, .cons q r => .cons q (RepL.set h i r)
theorem RepL.append : ∀ {ds : List D} {vs : List V} {es : List D} {ws : List V}, RepL K F ds vs → RepL K F es ws → RepL K F (ds ++ es) (vs ++ ws)
  | _, _, _, _, .nil, s => s
  | _, _, _, _, .cons h r, s => .cons h (r.append s)
theorem RepL.take : ∀ {ds : List D} {vs : List V} (n : Nat), RepL K F ds vs → RepL K F (ds.take n) (vs.take n)
  | _, _, 0, _ => .nil
  | _, _, _ + 1, .nil => .nil
  | _, _, n + 1, .cons h r => .cons h (RepL.take n r)
theorem RepL.drop : ∀ {ds : List D} {vs : List V} (n : Nat), RepL K F ds vs → RepL K F (ds.drop n) (vs.drop n)
  | _, _, 0, r => r
  | _, _, _ + 1, .nil => .nil
  | _, _, n + 1, .cons h r => RepL.drop n r
theorem RepF.look : ∀ {fs : List (Str × D)} {vs : List (Str × V)} {f : Str} {d : D}, RepF K F fs vs → fs.lookup f = some d → ∃ v, vs.lookup f = some v ∧ Rep K F d v
  | _, _, f, d, .nil, e => by cases e
  | _, _, f, d, .cons (k := k) (d := d0) h r, e => by
    by_cases q : f = k
    · subst q
      simp only [List.lookup, beq_self_eq_true] at e ⊢
      cases e; exact ⟨_, rfl, h⟩
    · have z : (f == k) = false := by simpa using q
      simp only [List.lookup, z] at e ⊢
      exact RepF.look r e
theorem RepF.length : ∀ {ds : List (Str × D)} {vs : List (Str × V)}, RepF K F ds vs → ds.length = vs.length
  | _, _, .nil => rfl
  | _, _, .cons _ r => congrArg Nat.succ r.length
theorem RepK.length : ∀ {ds : List (Key × D)} {vs : List (Key × V)}, RepK K F ds vs → ds.length = vs.length
  | _, _, .nil => rfl
  | _, _, .cons _ r => congrArg Nat.succ r.length
end
inductive MO where
  | lst (xs : List D) | dK (ks : List (Key × D)) | dT (ks : List (List Key × D))
  | ins (C : Addr) (fs : List (Str × D)) | sl (C dx : Addr) (vs : List (Option D)) | xd (fs : List (Str × D))
abbrev MH := Addr → Option MO
def mup (M : MH) (p : Addr) (o : MO) : MH := fun q => if q = p then some o else M q
def mdel (M : MH) (p : Addr) : MH := fun q => if q = p then none else M q
theorem mup_same {M : MH} {p : Addr} {o : MO} : mup M p o p = some o := if_pos rfl
theorem mup_ne {M : MH} {p q : Addr} {o : MO} (h : q ≠ p) : mup M p o q = M q := if_neg h
theorem mup_mup {M : MH} {p : Addr} {o o' : MO} : mup (mup M p o) p o' = mup M p o' := by
  funext q; unfold mup; split <;> rfl
theorem mup_self {M : MH} {p : Addr} {o : MO} (h : M p = some o) : mup M p o = M := by
  funext q; unfold mup; split
  · rename_i e; rw [e, h]
  · rfl
theorem mdel_same {M : MH} {p : Addr} : mdel M p p = none := if_pos rfl
theorem mdel_ne {M : MH} {p q : Addr} (h : q ≠ p) : mdel M p q = M q := if_neg h
theorem mdel_mup {M : MH} {p : Addr} {o : MO} (h : M p = none) : mdel (mup M p o) p = M := by
  funext q; unfold mdel mup; split
  · rename_i e; rw [e, h]
  · rfl
def RM (K : PySem.W.Frag) (R F H : Hp) (M : MH) (p : Addr) : MO → Prop
  | .lst ds => ∃ vs, H p = some (.lst vs) ∧ RepL K F ds vs
  | .dK ks => ∃ kvs, H p = some (.dK kvs) ∧ RepK K F ks kvs
  | .dT ks => ∃ kvs, H p = some (.dT kvs) ∧ RepT K F ks kvs
  | .ins C fs => ∃ dx vs, H p = some (.ins C dx vs) ∧ RepF K F fs vs
  | .sl C dx vs => F dx = none ∧ M dx = none ∧ R dx = none ∧ dx ≠ p ∧ (∃ u, H dx = some u) ∧ ∃ ws, SlX.Slt H p C dx ws ∧ RepS K F vs ws
  | .xd fs => ∃ vs, H p = some (.xd vs) ∧ RepF K F fs vs
structure HM (K : PySem.W.Frag) (R F H : Hp) (M : MH) : Prop where
  ex : Ex F H
  fr : ∀ p o, M p = some o → F p = none
  ob : ∀ p o, M p = some o → RM K R F H M p o
  rr : ∀ p o, R p = some o → H p = some o ∧ F p = none ∧ M p = none
section
variable {K : PySem.W.Frag} {R F F' H H' : Hp} {M M' : MH} {p q : Addr} {o : MO} {u : HO}
theorem HM.there (h : HM K R F H M) (e : M p = some o) : ∃ u, H p = some u := by
  have r := h.ob p o e
  cases o with
  | lst ds => obtain ⟨vs, r, _⟩ := r; exact ⟨_, r⟩
  | dK ds => obtain ⟨vs, r, _⟩ := r; exact ⟨_, r⟩
  | dT ds => obtain ⟨vs, r, _⟩ := r; exact ⟨_, r⟩
  | ins C fs => obtain ⟨dx, vs, r, _⟩ := r; exact ⟨_, r⟩
  | sl C dx vs =>
    obtain ⟨_, _, _, _, _, ws, r, _⟩ := r
    rcases r with r | r
    · exact ⟨_, r.1⟩
    · exact ⟨_, r.1⟩
  | xd fs => obtain ⟨vs, r, _⟩ := r; exact ⟨_, r⟩
theorem HM.freeM (h : HM K R F H M) (e : H p = none) : M p = none := by
  cases q : M p with
  | none => rfl
  | some o => obtain ⟨u, z⟩ := h.there q; rw [e] at z; cases z
theorem HM.freeF (h : HM K R F H M) (e : H p = none) : F p = none := h.ex.back e
theorem HM.freeR (h : HM K R F H M) (e : H p = none) : R p = none := by
  cases q : R p with
  | none => rfl
  | some o => have z := (h.rr p o q).1; rw [e] at z; cases z
theorem HM.notR (h : HM K R F H M) (e : M p = some o) : R p = none := by
  cases q : R p with
  | none => rfl
  | some o => have z := (h.rr p o q).2.2; rw [e] at z; cases z
theorem RM.to {o : MO} (r : RM K R F H M p o) (e : Ex F F') (h : ∀ q, (q = p ∨ ∃ C vs, o = .sl C q vs) → ∀ u, H q = some u → H' q = some u) (hd : ∀ C dx vs, o = .sl C dx vs → F' dx = none ∧ M' dx = none) : RM K R F' H' M' p o := by
  cases o with
  | lst ds => obtain ⟨vs, r, z⟩ := r; exact ⟨vs, h p (.inl rfl) _ r, z.mono e⟩
  | dK ds => obtain ⟨vs, r, z⟩ := r; exact ⟨vs, h p (.inl rfl) _ r, z.mono e⟩
  | dT ds => obtain ⟨vs, r, z⟩ := r; exact ⟨vs, h p (.inl rfl) _ r, z.mono e⟩
  | ins C fs => obtain ⟨dx, vs, r, z⟩ := r; exact ⟨dx, vs, h p (.inl rfl) _ r, z.mono e⟩
  | sl C dx vs =>
    obtain ⟨f1, f2, f0, f3, ⟨u, f4⟩, ws, r, z⟩ := r
    obtain ⟨g1, g2⟩ := hd C dx vs rfl
    refine ⟨g1, g2, f0, f3, ⟨u, h dx (.inr ⟨C, vs, rfl⟩) _ f4⟩, ws, ?_, z.mono e⟩
    rcases r with r | r
    · exact .inl ⟨h p (.inl rfl) _ r.1, r.2⟩
    · exact .inr ⟨h p (.inl rfl) _ r.1, h dx (.inr ⟨C, vs, rfl⟩) _ r.2⟩
  | xd fs => obtain ⟨vs, r, z⟩ := r; exact ⟨vs, h p (.inl rfl) _ r, z.mono e⟩
theorem HM.slotted (h : HM K R F H M) {C dx : Addr} {vs : List (Option D)} (e : M p = some (.sl C dx vs)) : F dx = none ∧ M dx = none ∧ R dx = none ∧ dx ≠ p ∧ ∃ u, H dx = some u := by
  obtain ⟨a, b, c, d, f, _⟩ := h.ob p _ e
  exact ⟨a, b, c, d, f⟩
theorem HM.cold (h : HM K R F H M) (n : H p = none) : HM K R (upd F p u) (upd H p u) M := by
  refine ⟨fun a v e => ?_, fun q o e => ?_, fun q o e => ?_, fun q o e => ?_⟩
  · by_cases z : a = p
    · subst z; rw [upd_same] at e ⊢; exact e
    · rw [upd_ne z] at e ⊢; exact h.ex _ _ e
  · have z : q ≠ p := fun z => by rw [z, h.freeM n] at e; cases e
    rw [upd_ne z]; exact h.fr q o e
  · refine (h.ob q o e).to (Ex.new (h.freeF n)) (fun b _ v z => (Ex.new n) b v z) fun C dx vs z => ?_
    subst z
    obtain ⟨f1, f2, _, _, w, f4⟩ := h.slotted e
    exact ⟨by rw [upd_ne (ne_of_none f4 n)]; exact f1, f2⟩
  · obtain ⟨a, b, c⟩ := h.rr q o e
    have z := ne_of_none a n
    exact ⟨by rw [upd_ne z]; exact a, by rw [upd_ne z]; exact b, c⟩
theorem Ex.cold (h : HM K R F H M) (n : H p = none) : Ex F (upd F p u) := Ex.new (h.freeF n)
theorem HM.warm (h : HM K R F H M) (n : H p = none) (r : RM K R F (upd H p u) (mup M p o) p o) : HM K R F (upd H p u) (mup M p o) := by
  refine ⟨h.ex.trans (Ex.new n), fun q o' e => ?_, fun q o' e => ?_, fun q o e => ?_⟩
  · by_cases z : q = p
    · rw [z]; exact h.freeF n
    · rw [mup_ne z] at e; exact h.fr q o' e
  · by_cases z : q = p
    · rw [z, mup_same] at e; cases e; rw [z]; exact r
    · rw [mup_ne z] at e
      refine (h.ob q o' e).to (Ex.refl F) (fun b _ v z => (Ex.new n) b v z) fun C dx vs z => ?_
      subst z
      obtain ⟨f1, f2, _, _, w, f4⟩ := h.slotted e
      exact ⟨f1, by rw [mup_ne (ne_of_none f4 n)]; exact f2⟩
  · obtain ⟨a, b, c⟩ := h.rr q o e
    have z := ne_of_none a n
    exact ⟨by rw [upd_ne z]; exact a, b, by rw [mup_ne z]; exact c⟩
theorem HM.put {o' : MO} (h : HM K R F H M) (e : M p = some o') (r : RM K R F (upd H p u) (mup M p o) p o) : HM K R F (upd H p u) (mup M p o) := by
  refine ⟨fun a v z => ?_, fun q o' e => ?_, fun q o2 e2 => ?_, fun q o2 e2 => ?_⟩
  · rw [upd_ne (ne_of_none z (h.fr p _ e))]; exact h.ex _ _ z
  · by_cases z : q = p
    · rw [z]; exact h.fr p _ (by assumption)
    · rw [mup_ne z] at e; exact h.fr q o' e
  · by_cases z : q = p
    · rw [z, mup_same] at e2; cases e2; rw [z]; exact r
    · rw [mup_ne z] at e2
      have nd : ∀ C dx vs, o2 = .sl C dx vs → dx ≠ p := fun C dx vs z2 z3 => by
        subst z2
        have := (h.slotted e2).2.1
        rw [z3, e] at this; cases this
      refine (h.ob q o2 e2).to (Ex.refl F) (fun b hb v z4 => ?_) fun C dx vs z2 => ?_
      · have : b ≠ p := by
          rcases hb with hb | ⟨C, vs, hb⟩
          · rw [hb]; exact z
          · exact nd C b vs hb
        rw [upd_ne this]; exact z4
      · have n := nd C dx vs z2
        subst z2
        obtain ⟨f1, f2, _⟩ := h.slotted e2
        exact ⟨f1, by rw [mup_ne n]; exact f2⟩
  · obtain ⟨a, b, c⟩ := h.rr q o2 e2
    have z : q ≠ p := fun z => by rw [z, e] at c; cases c
    exact ⟨by rw [upd_ne z]; exact a, b, by rw [mup_ne z]; exact c⟩
theorem HM.stop (h : HM K R F H M) (e : M p = some o) (z : H p = some u) : Ex F (upd F p u) ∧ HM K R (upd F p u) H (mdel M p) := by
  have fp := h.fr p o e
  refine ⟨Ex.new fp, fun a v e => ?_, fun q o' e' => ?_, fun q o' e' => ?_, fun q o2 e2 => ?_⟩
  · by_cases z2 : a = p
    · rw [z2, upd_same] at e; rw [z2, z]; exact e
    · rw [upd_ne z2] at e; exact h.ex _ _ e
  · have n : q ≠ p := fun z => by rw [z, mdel_same] at e'; cases e'
    rw [upd_ne n]; rw [mdel_ne n] at e'; exact h.fr q o' e'
  · have n : q ≠ p := fun z => by rw [z, mdel_same] at e'; cases e'
    rw [mdel_ne n] at e'
    refine (h.ob q o' e').to (Ex.new fp) (fun b _ v z => z) fun C dx vs z2 => ?_
    subst z2
    obtain ⟨f1, f2, _⟩ := h.slotted e'
    have nd : dx ≠ p := fun z3 => by rw [z3, e] at f2; cases f2
    exact ⟨by rw [upd_ne nd]; exact f1, by rw [mdel_ne nd]; exact f2⟩
  · obtain ⟨a, b, c⟩ := h.rr q o2 e2
    have z : q ≠ p := fun z => by rw [z, e] at c; cases c
    exact ⟨a, by rw [upd_ne z]; exact b, by rw [mdel_ne z]; exact c⟩
theorem HM.lend (h : HM K R F H M) (n : H p = none) : HM K (upd R p u) F (upd H p u) M := by
  refine ⟨h.ex.trans (Ex.new n), h.fr, fun q o' e => ?_, fun q o2 e2 => ?_⟩
  · have r := (h.ob q o' e).to (H' := upd H p u) (M' := M) (Ex.refl F) (fun b _ v z => (Ex.new n) b v z) fun C dx vs z => by
      subst z
      obtain ⟨f1, f2, _⟩ := h.slotted e
      exact ⟨f1, f2⟩
    cases o' with
    | sl C dx vs =>
      obtain ⟨f1, f2, f0, f3, f4, f5⟩ := r
      obtain ⟨_, _, _, _, w, g⟩ := h.slotted e
      exact ⟨f1, f2, by rw [upd_ne (ne_of_none g n)]; exact f0, f3, f4, f5⟩
    | _ => exact r
  · by_cases z : q = p
    · rw [z, upd_same] at e2; cases e2; rw [z]; exact ⟨upd_same, h.freeF n, h.freeM n⟩
    · rw [upd_ne z] at e2
      obtain ⟨a, b, c⟩ := h.rr q o2 e2
      exact ⟨by rw [upd_ne z]; exact a, b, c⟩
theorem HM.lent {v : HO} (h : HM K (upd R p u) F H M) (n : R p = none) : HM K (upd R p v) F (upd H p v) M := by
  obtain ⟨hp, fp, mp⟩ := h.rr p u upd_same
  refine ⟨fun a w e => ?_, h.fr, fun q o' e => ?_, fun q o2 e2 => ?_⟩
  · rw [upd_ne (ne_of_none e fp)]; exact h.ex _ _ e
  · have nq : q ≠ p := fun z => by rw [z, mp] at e; cases e
    have nd : ∀ C dx vs, o' = .sl C dx vs → dx ≠ p := fun C dx vs z z2 => by
      subst z
      have := (h.slotted e).2.2.1
      rw [z2, upd_same] at this; cases this
    have r := (h.ob q o' e).to (H' := upd H p v) (M' := M) (Ex.refl F) (fun b hb w z => by
        have : b ≠ p := by
          rcases hb with hb | ⟨C, vs, hb⟩
          · rw [hb]; exact nq
          · exact nd C b vs hb
        rw [upd_ne this]; exact z) fun C dx vs z => by
      subst z
      obtain ⟨f1, f2, _⟩ := h.slotted e
      exact ⟨f1, f2⟩
    cases o' with
    | sl C dx vs =>
      obtain ⟨f1, f2, f0, f3, f4, f5⟩ := r
      have n2 := nd C dx vs rfl
      exact ⟨f1, f2, by rw [upd_ne n2] at f0 ⊢; exact f0, f3, f4, f5⟩
    | _ => exact r
  · by_cases z : q = p
    · rw [z, upd_same] at e2; cases e2; rw [z]; exact ⟨upd_same, fp, mp⟩
    · rw [upd_ne z] at e2
      obtain ⟨a, b, c⟩ := h.rr q o2 (by rw [upd_ne z]; exact e2)
      exact ⟨by rw [upd_ne z]; exact a, b, c⟩
theorem HM.back (h : HM K (upd R p u) F H M) (n : R p = none) : Ex F (upd F p u) ∧ HM K R (upd F p u) H M := by
  obtain ⟨hp, fp, mp⟩ := h.rr p u upd_same
  refine ⟨Ex.new fp, fun a v e => ?_, fun q o' e' => ?_, fun q o' e' => ?_, fun q o2 e2 => ?_⟩
  · by_cases z2 : a = p
    · rw [z2, upd_same] at e; rw [z2, hp]; exact e
    · rw [upd_ne z2] at e; exact h.ex _ _ e
  · have n : q ≠ p := fun z => by rw [z, mp] at e'; cases e'
    rw [upd_ne n]; exact h.fr q o' e'
  · have nd : ∀ C dx vs, o' = .sl C dx vs → dx ≠ p := fun C dx vs z z2 => by
      subst z
      have := (h.slotted e').2.2.1
      rw [z2, upd_same] at this; cases this
    have r := (h.ob q o' e').to (H' := H) (M' := M) (Ex.new (o := u) fp) (fun b _ w z => z) fun C dx vs z2 => by
      have n2 := nd C dx vs z2
      subst z2
      obtain ⟨f1, f2, _⟩ := h.slotted e'
      exact ⟨by rw [upd_ne n2]; exact f1, f2⟩
    cases o' with
    | sl C dx vs =>
      obtain ⟨f1, f2, f0, f3, f4, f5⟩ := r
      have n2 := nd C dx vs rfl
      exact ⟨f1, f2, by rw [upd_ne n2] at f0; exact f0, f3, f4, f5⟩
    | _ => exact r
  · have z : q ≠ p := fun z => by rw [z, n] at e2; cases e2
    obtain ⟨a, b, c⟩ := h.rr q o2 (by rw [upd_ne z]; exact e2)
    exact ⟨a, by rw [upd_ne z]; exact b, c⟩
theorem HM.backM (h : HM K (upd R p u) F H M) (n : R p = none) (r : RM K R F H (mup M p o) p o) : HM K R F H (mup M p o) := by
  obtain ⟨hp, fp, mp⟩ := h.rr p u upd_same
  refine ⟨h.ex, fun q o' e' => ?_, fun q o' e' => ?_, fun q o2 e2 => ?_⟩
  · by_cases z : q = p
    · rw [z]; exact fp
    · rw [mup_ne z] at e'; exact h.fr q o' e'
  · by_cases z : q = p
    · rw [z, mup_same] at e'; cases e'; rw [z]; exact r
    · rw [mup_ne z] at e'
      have nd : ∀ C dx vs, o' = .sl C dx vs → dx ≠ p := fun C dx vs z z2 => by
        subst z
        have := (h.slotted e').2.2.1
        rw [z2, upd_same] at this; cases this
      have r := (h.ob q o' e').to (H' := H) (M' := mup M p o) (Ex.refl F) (fun b _ w z => z) fun C dx vs z2 => by
        have n2 := nd C dx vs z2
        subst z2
        obtain ⟨f1, f2, _⟩ := h.slotted e'
        exact ⟨f1, by rw [mup_ne n2]; exact f2⟩
      cases o' with
      | sl C dx vs =>
        obtain ⟨f1, f2, f0, f3, f4, f5⟩ := r
        have n2 := nd C dx vs rfl
        exact ⟨f1, f2, by rw [upd_ne n2] at f0; exact f0, f3, f4, f5⟩
      | _ => exact r
  · have z : q ≠ p := fun z => by rw [z, n] at e2; cases e2
    obtain ⟨a, b, c⟩ := h.rr q o2 (by rw [upd_ne z]; exact e2)
    exact ⟨a, b, by rw [mup_ne z]; exact c⟩
end
end Dv
namespace Dv
open PySem PySem.Spec L2
abbrev Sl := List (Option D)
abbrev DQ := D → MH → Prop
abbrev DE := Sl → MH → DQ → Prop
abbrev DT := Sl → MH → (Bool → MH → Prop) → Prop
abbrev DA := Sl → MH → (List D → MH → Prop) → Prop
structure DEnds where
  nx : Sl → MH → Prop
  rt : DQ
  bk : Sl → MH → Prop := fun _ _ => False
  ct : Sl → MH → Prop := fun _ _ => False
abbrev DS := DEnds → Sl → MH → Prop
structure Br (b : Bool) (A B : Prop) : Prop where
  yes : b = true → A
  no : b = false → B
theorem Br.t {A B : Prop} (h : A) : Br true A B := ⟨fun _ => h, fun z => nomatch z⟩
theorem Br.f {A B : Prop} (h : B) : Br false A B := ⟨fun z => (nomatch z), fun _ => h⟩
theorem Br.of_t {b : Bool} {A B : Prop} (e : b = true) (h : A) : Br b A B := ⟨fun _ => h, fun z => by rw [e] at z; cases z⟩
theorem Br.of_f {b : Bool} {A B : Prop} (e : b = false) (h : B) : Br b A B := ⟨fun z => (by rw [e] at z; cases z), fun _ => h⟩

def Cont (K : PySem.W.Frag) (R F : Hp) (Qd : DQ) (Q : VK) : Prop := ∀ F' H' M' d v, Ex F F' → HM K R F' H' M' → Rep K F' d v → Qd d M' → Q v H'
def ContB (K : PySem.W.Frag) (R F : Hp) (Qd : Bool → MH → Prop) (Q : Bool → Hp → Prop) : Prop := ∀ F' H' M' b, Ex F F' → HM K R F' H' M' → Qd b M' → Q b H'
def ContL (K : PySem.W.Frag) (R F : Hp) (Qd : List D → MH → Prop) (Q : List V → Hp → Prop) : Prop := ∀ F' H' M' d v, Ex F F' → HM K R F' H' M' → RepL K F' d v → Qd d M' → Q v H'
def ContS (K : PySem.W.Frag) (R F : Hp) (Qd : Sl → MH → Prop) (Q : St → Hp → Prop) : Prop := ∀ F' H' M' ds σ, Ex F F' → HM K R F' H' M' → RepS K F' ds σ → Qd ds M' → Q σ H'
structure ContE (K : PySem.W.Frag) (R F : Hp) (Dd : DEnds) (D : Ends) : Prop where
  nx : ContS K R F Dd.nx D.nx
  rt : Cont K R F Dd.rt D.rt
  bk : ContS K R F Dd.bk D.bk
  ct : ContS K R F Dd.ct D.ct
section
variable {K : PySem.W.Frag} {R F F' : Hp}
theorem Cont.mono {Qd : DQ} {Q : VK} (c : Cont K R F Qd Q) (e : Ex F F') : Cont K R F' Qd Q := fun G H M d v g => c G H M d v (e.trans g)
theorem ContB.mono {Qd : Bool → MH → Prop} {Q : Bool → Hp → Prop} (c : ContB K R F Qd Q) (e : Ex F F') : ContB K R F' Qd Q := fun G H M d g => c G H M d (e.trans g)
theorem ContL.mono {Qd : List D → MH → Prop} {Q : List V → Hp → Prop} (c : ContL K R F Qd Q) (e : Ex F F') : ContL K R F' Qd Q := fun G H M d v g => c G H M d v (e.trans g)
theorem ContS.mono {Qd : Sl → MH → Prop} {Q : St → Hp → Prop} (c : ContS K R F Qd Q) (e : Ex F F') : ContS K R F' Qd Q := fun G H M d v g => c G H M d v (e.trans g)
theorem ContE.mono {Dd : DEnds} {D : Ends} (c : ContE K R F Dd D) (e : Ex F F') : ContE K R F' Dd D := ⟨c.nx.mono e, c.rt.mono e, c.bk.mono e, c.ct.mono e⟩
end
structure At (K : PySem.W.Frag) (R F0 F H : Hp) (σ : St) (ds : Sl) (M : MH) : Prop where
  ex : Ex F0 F
  hm : HM K R F H M
  rs : RepS K F ds σ
theorem At.go {K : PySem.W.Frag} {R F0 F H F' H' : Hp} {σ : St} {ds : Sl} {M M' : MH} (a : At K R F0 F H σ ds M) (e : Ex F F') (h : HM K R F' H' M') : At K R F0 F' H' σ ds M' := ⟨a.ex.trans e, h, a.rs.mono e⟩
def up (K : PySem.W.Frag) (R F0 : Hp) (t : DE) : TE := fun σ H Q => ∃ F ds M Qd, At K R F0 F H σ ds M ∧ t ds M Qd ∧ Cont K R F Qd Q
def upT (K : PySem.W.Frag) (R F0 : Hp) (t : DT) : TT := fun σ H Q => ∃ F ds M Qd, At K R F0 F H σ ds M ∧ t ds M Qd ∧ ContB K R F Qd Q
def upA (K : PySem.W.Frag) (R F0 : Hp) (t : DA) : TA := fun σ H Q => ∃ F ds M Qd, At K R F0 F H σ ds M ∧ t ds M Qd ∧ ContL K R F Qd Q
def upS (K : PySem.W.Frag) (R F0 : Hp) (t : DS) : TS := fun D σ H => ∃ F ds M Dd, At K R F0 F H σ ds M ∧ t Dd ds M ∧ ContE K R F Dd D
abbrev PDE (R F0 : Hp) (X : Cx) (e : Expr) (t : DE) : Prop := PE X e (up X.K R F0 t)
abbrev PDT (R F0 : Hp) (X : Cx) (e : Expr) (t : DT) : Prop := PT X e (upT X.K R F0 t)
abbrev PDW (R F0 : Hp) (X : Cx) (e : Expr) (t : DT) : Prop := PW X e (upT X.K R F0 t)
abbrev PDA (R F0 : Hp) (X : Cx) (es : List Expr) (t : DA) : Prop := PA X es (upA X.K R F0 t)
abbrev PDS (R F0 : Hp) (X : Cx) (st : Stmt) (t : DS) : Prop := PS X st (upS X.K R F0 t)
abbrev PDSs (R F0 : Hp) (X : Cx) (st : List Stmt) (t : DS) : Prop := PSs X st (upS X.K R F0 t)
section
variable {X : Cx} {R F0 : Hp}
theorem PE.imp {e : Expr} {t t' : TE} (h : PE X e t) (k : ∀ σ H Q, t' σ H Q → t σ H Q) : PE X e t' := ⟨fun pins s σ H Q I q => h.run pins s σ H Q I (k σ H Q q)⟩
theorem PT.imp {e : Expr} {t t' : TT} (h : PT X e t) (k : ∀ σ H Q, t' σ H Q → t σ H Q) : PT X e t' := ⟨fun pins s σ H Q I q => h.run pins s σ H Q I (k σ H Q q)⟩
theorem PW.imp {e : Expr} {t t' : TT} (h : PW X e t) (k : ∀ σ H Q, t' σ H Q → t σ H Q) : PW X e t' := ⟨fun wh pins s σ H Q I q => h.run wh pins s σ H Q I (k σ H Q q)⟩
theorem PA.imp {e : List Expr} {t t' : TA} (h : PA X e t) (k : ∀ σ H Q, t' σ H Q → t σ H Q) : PA X e t' := ⟨fun pos pins s σ H Q I q => h.run pos pins s σ H Q I (k σ H Q q)⟩
theorem PS.imp {e : Stmt} {t t' : TS} (h : PS X e t) (k : ∀ D σ H, t' D σ H → t D σ H) : PS X e t' := ⟨fun pins s σ H D I q => h.run pins s σ H D I (k D σ H q)⟩
theorem PSs.imp {e : List Stmt} {t t' : TS} (h : PSs X e t) (k : ∀ D σ H, t' D σ H → t D σ H) : PSs X e t' := ⟨fun pins s σ H D I q => h.run pins s σ H D I (k D σ H q)⟩

def dVar (i : Nat) : DE := fun ds M Q => match ds[i]? with
  | some (some d) => Q d M
  | _ => False
theorem pd_var (i : Nat) {x : Str} {pos : Pos} (hN : X.N[i]? = some x := by rfl) (hv : Vis X.env.scope x := by first | exact Or.inl rfl | exact Or.inr (Or.inl rfl) | exact Or.inr (Or.inr rfl)) (hd : (x == ("__debug__" : Str)) = false := by decide)
    (hcd : (x == ("__classdict__" : Str)) = false := by decide) : PDE R F0 X (.Name x pos) (dVar i) := by
  refine PE.imp (pv i hN hv hd hcd) ?_
  rintro σ H Q ⟨F, ds, M, Qd, a, h, c⟩
  unfold dVar at h
  split at h
  · rename_i d e
    obtain ⟨v, e2, r⟩ := a.rs.get e
    exact ⟨v, e2, c _ _ _ _ _ (Ex.refl _) a.hm r h⟩
  · exact h.elim
def dC (d : D) : DE := fun _ M Q => Q d M
theorem pd_of {e : Expr} {v : V} {d : D} (h : PE X e (tC v)) (r : ∀ F, Ex F0 F → Rep X.K F d v) : PDE R F0 X e (dC d) := by
  refine PE.imp h ?_
  rintro σ H Q ⟨F, ds, M, Qd, a, h, c⟩
  exact c _ _ _ _ _ (Ex.refl _) a.hm (r F a.ex) h
theorem pd_int {i j pos} : PDE R F0 X (.Constant (.int i) j pos) (dC (.int i)) := pd_of pe_int fun _ _ => .int i
theorem pd_bl {b j pos} : PDE R F0 X (.Constant (.bool b) j pos) (dC (.bl b)) := pd_of pe_bl fun _ _ => .bl b
theorem pd_non {j pos} : PDE R F0 X (.Constant .none j pos) (dC .non) := pd_of pe_non fun _ _ => .non
theorem pd_str {x j pos} : PDE R F0 X (.Constant (.str x) j pos) (dC (.str x)) := pd_of pe_str fun _ _ => .str x
theorem pd_glob {x : Str} {d : D} {v : V} {u : Value} {pos : Pos} (hg : Gl X x) (hm : X.mg x = some u) (r : RelV v u) (rd : ∀ F, Rep X.K F d v) (hd : (x == ("__debug__" : Str)) = false := by decide) : PDE R F0 X (.Name x pos) (dC d) :=
  pd_of (pe_glob hg hm r hd) fun F _ => rd F
theorem pd_bltn {x : Str} {n : String} {pos : Pos} (hg : Gl X x) (hm : X.mg x = none) (hv : bootBuiltins x = some (.type n)) (hn : x ≠ "__name__" := by decide) (hd : (x == ("__debug__" : Str)) = false := by decide) : PDE R F0 X (.Name x pos) (dC (.ty n)) :=
  pd_of (pe_bltn (v := .ty n) hg hm hv rfl hn hd) fun _ _ => .ty n

abbrev DR1 := D → MH → DQ → Prop
abbrev DR2 := D → D → MH → DQ → Prop
def Op1 (K : PySem.W.Frag) (r : DR1) (rv : V → Hp → VK → Prop) : Prop := ∀ R F H M x vx Qd Q, HM K R F H M → Rep K F x vx → r x M Qd → Cont K R F Qd Q → rv vx H Q
def Op2 (K : PySem.W.Frag) (r : DR2) (rv : R2) : Prop := ∀ R F H M x y vx vy Qd Q, HM K R F H M → Rep K F x vx → Rep K F y vy → r x y M Qd → Cont K R F Qd Q → rv vx vy H Q
def dOp (r : DR2) (ta tb : DE) : DE := fun ds M Q => ta ds M fun x M1 => tb ds M1 fun y M2 => r x y M2 Q
def dUn (r : DR1) (ta : DE) : DE := fun ds M Q => ta ds M fun x M1 => r x M1 Q
variable {a b : Expr} {ta tb : DE} {pos : Pos}
theorem op2_up {r : DR2} {rv : R2} (o : Op2 X.K r rv) : ∀ σ H Q, up X.K R F0 (dOp r ta tb) σ H Q → tOp rv (up X.K R F0 ta) (up X.K R F0 tb) σ H Q := by
  rintro σ H Q ⟨F, ds, M, Qd, a, h, c⟩
  refine ⟨F, ds, M, _, a, h, fun F1 H1 M1 x vx e1 m1 r1 q1 => ?_⟩
  refine ⟨F1, ds, M1, _, a.go e1 m1, q1, fun F2 H2 M2 y vy e2 m2 r2 q2 => ?_⟩
  exact o R F2 H2 M2 x y vx vy _ _ m2 (r1.mono e2) r2 q2 (c.mono (e1.trans e2))
theorem pd_op {op : Operator} {r : DR2} {rv : R2} (ho : OpR X (binaryOp op) rv) (o : Op2 X.K r rv) (ha : PDE R F0 X a ta) (hb : PDE R F0 X b tb) : PDE R F0 X (.BinOp a op b pos) (dOp r ta tb) := PE.imp (pe_op ho ha hb) (op2_up o)
theorem pd_cmp {op : CmpOp} {r : DR2} {rv : R2} (ho : OpR X (compareOp op) rv) (o : Op2 X.K r rv) (ha : PDE R F0 X a ta) (hb : PDE R F0 X b tb) (hm : behindInMarks op b = false) : PDE R F0 X (.Compare a [op] [b] pos) (dOp r ta tb) := PE.imp (pe_cmpR ho ha hb hm) (op2_up o)
theorem pd_un {op : UnaryOp} {r : DR1} {rv : V → Hp → VK → Prop} (ho : UnR X (unaryOp op) rv) (o : Op1 X.K r rv) (ha : PDE R F0 X a ta) : PDE R F0 X (.UnaryOp op a pos) (dUn r ta) := by
  refine PE.imp (pe_un ho ha) ?_
  rintro σ H Q ⟨F, ds, M, Qd, a, h, c⟩
  exact ⟨F, ds, M, _, a, h, fun F1 H1 M1 x vx e1 m1 r1 q1 => o R F1 H1 M1 x vx _ _ m1 r1 q1 (c.mono e1)⟩
theorem pd_ix {r : DR2} {rv : R2} (ho : IxR X rv) (o : Op2 X.K r rv) (ha : PDE R F0 X a ta) (hb : PDE R F0 X b tb) (hs : PlainIx b) : PDE R F0 X (.Subscript a b pos) (dOp r ta tb) := PE.imp (pe_ix ho ha hb hs) (op2_up o)

def dB (t : DE) : DT := fun ds M Q => t ds M fun x M1 => match x with
  | .bl b => Q b M1
  | _ => False
theorem pdt_cmp {op : CmpOp} {r : DR2} {rv : R2} (ho : OpR X (compareOp op) rv) (o : Op2 X.K r rv) (ha : PDE R F0 X a ta) (hb : PDE R F0 X b tb) (hm : behindInMarks op b = false) : PDT R F0 X (.Compare a [op] [b] pos) (dB (dOp r ta tb)) := by
  refine PT.imp (pt_cmpR ho ha hb hm) ?_
  rintro σ H Q ⟨F, ds, M, Qd, a, h, c⟩
  refine op2_up o σ H _ ⟨F, ds, M, _, a, h, fun F1 H1 M1 x vx e1 m1 r1 q1 => ?_⟩
  cases r1 with
  | bl k => exact ⟨k, rfl, c _ _ _ _ e1 m1 q1⟩
  | _ => exact q1.elim
theorem pdt_val {e : Expr} {t : DE} (h : PDE R F0 X e t) (he : ∀ whole, isTrue e X.env whole = (do let v ← whole; standAt e.pos; holding [v] (truthy v)) := by intro _; rfl) : PDT R F0 X e (dB t) := by
  refine PT.imp (pt_val h he) ?_
  rintro σ H Q ⟨F, ds, M, Qd, a, h, c⟩
  refine ⟨F, ds, M, _, a, h, fun F1 H1 M1 x vx e1 m1 r1 q1 => ?_⟩
  cases r1 with
  | bl k => exact ⟨k, rfl, c _ _ _ _ e1 m1 q1⟩
  | _ => exact q1.elim
def dAnd (t u : DT) : DT := fun ds M Q => t ds M fun c M1 => Br c (u ds M1 Q) (Q false M1)
def dOr (t u : DT) : DT := fun ds M Q => t ds M fun c M1 => Br c (Q true M1) (u ds M1 Q)
def dNot (t : DT) : DT := fun ds M Q => t ds M fun c M1 => Q (!c) M1
variable {t u : DT} {rest : List Expr}
theorem pdw_and1 (ha : PDT R F0 X a t) : PDW R F0 X (.BoolOp .And [a] pos) t := pw_and1 ha
theorem pdw_or1 (ha : PDT R F0 X a t) : PDW R F0 X (.BoolOp .Or [a] pos) t := pw_or1 ha
theorem ite_of_br {c : Bool} {A B : Prop} (h : Br c A B) : if c = true then A else B := by
  cases c with
  | true => exact h.yes rfl
  | false => exact h.no rfl
theorem pdw_and (ha : PDT R F0 X a t) (hb : PDW R F0 X (.BoolOp .And (b :: rest) pos) u) : PDW R F0 X (.BoolOp .And (a :: b :: rest) pos) (dAnd t u) := by
  refine PW.imp (pw_and ha hb) ?_
  rintro σ H Q ⟨F, ds, M, Qd, a, h, c⟩
  refine ⟨F, ds, M, _, a, h, fun F1 H1 M1 k e1 m1 q1 => ite_of_br ⟨fun z => ?_, fun z => ?_⟩⟩
  · exact ⟨F1, ds, M1, _, a.go e1 m1, q1.yes z, c.mono e1⟩
  · exact c _ _ _ _ e1 m1 (q1.no z)
theorem pdw_or (ha : PDT R F0 X a t) (hb : PDW R F0 X (.BoolOp .Or (b :: rest) pos) u) : PDW R F0 X (.BoolOp .Or (a :: b :: rest) pos) (dOr t u) := by
  refine PW.imp (pw_or ha hb) ?_
  rintro σ H Q ⟨F, ds, M, Qd, a, h, c⟩
  refine ⟨F, ds, M, _, a, h, fun F1 H1 M1 k e1 m1 q1 => ite_of_br ⟨fun z => ?_, fun z => ?_⟩⟩
  · exact c _ _ _ _ e1 m1 (q1.yes z)
  · exact ⟨F1, ds, M1, _, a.go e1 m1, q1.no z, c.mono e1⟩
theorem pdt_w {e : Expr} (h : PDW R F0 X e t) : PDT R F0 X e t := h.pt
theorem pdt_not (ha : PDT R F0 X a t) : PDT R F0 X (.UnaryOp .Not a pos) (dNot t) := by
  refine PT.imp (pt_not ha) ?_
  rintro σ H Q ⟨F, ds, M, Qd, a, h, c⟩
  exact ⟨F, ds, M, _, a, h, fun F1 H1 M1 k e1 m1 q1 => c _ _ _ _ e1 m1 q1⟩
def dAndV (ta tb : DE) : DE := fun ds M Q => ta ds M fun x M1 => match x with
  | .bl c => Br c (tb ds M1 Q) (Q (.bl false) M1)
  | _ => False
def dOrV (ta tb : DE) : DE := fun ds M Q => ta ds M fun x M1 => match x with
  | .bl c => Br c (Q (.bl true) M1) (tb ds M1 Q)
  | _ => False
def dNotV (ta : DE) : DE := fun ds M Q => ta ds M fun x M1 => match x with
  | .bl c => Q (.bl (!c)) M1
  | _ => False
theorem pd_one {op} (h : PDE R F0 X a ta) : PDE R F0 X (.BoolOp op [a] pos) ta := pe_one h
theorem pd_and (ha : PDE R F0 X a ta) (hb : PDE R F0 X (.BoolOp .And (b :: rest) pos) tb) : PDE R F0 X (.BoolOp .And (a :: b :: rest) pos) (dAndV ta tb) := by
  refine PE.imp (pe_and ha hb) ?_
  rintro σ H Q ⟨F, ds, M, Qd, a, h, c⟩
  refine ⟨F, ds, M, _, a, h, fun F1 H1 M1 x vx e1 m1 r1 q1 => ?_⟩
  cases r1 with
  | bl k =>
    refine ⟨k, rfl, ite_of_br ⟨fun z => ?_, fun z => ?_⟩⟩
    · exact ⟨F1, ds, M1, _, a.go e1 m1, q1.yes z, c.mono e1⟩
    · exact c _ _ _ _ _ e1 m1 (.bl false) (q1.no z)
  | _ => exact q1.elim
theorem pd_or (ha : PDE R F0 X a ta) (hb : PDE R F0 X (.BoolOp .Or (b :: rest) pos) tb) : PDE R F0 X (.BoolOp .Or (a :: b :: rest) pos) (dOrV ta tb) := by
  refine PE.imp (pe_or ha hb) ?_
  rintro σ H Q ⟨F, ds, M, Qd, a, h, c⟩
  refine ⟨F, ds, M, _, a, h, fun F1 H1 M1 x vx e1 m1 r1 q1 => ?_⟩
  cases r1 with
  | bl k =>
    refine ⟨k, rfl, ite_of_br ⟨fun z => ?_, fun z => ?_⟩⟩
    · exact c _ _ _ _ _ e1 m1 (.bl true) (q1.yes z)
    · exact ⟨F1, ds, M1, _, a.go e1 m1, q1.no z, c.mono e1⟩
  | _ => exact q1.elim
theorem pd_not (ha : PDE R F0 X a ta) : PDE R F0 X (.UnaryOp .Not a pos) (dNotV ta) := by
  refine PE.imp (pe_not ha) ?_
  rintro σ H Q ⟨F, ds, M, Qd, a, h, c⟩
  refine ⟨F, ds, M, _, a, h, fun F1 H1 M1 x vx e1 m1 r1 q1 => ?_⟩
  cases r1 with
  | bl k => exact ⟨k, rfl, c _ _ _ _ _ e1 m1 (.bl _) q1⟩
  | _ => exact q1.elim
def dIf (t : DT) (ta tb : DE) : DE := fun ds M Q => t ds M fun c M1 => Br c (ta ds M1 Q) (tb ds M1 Q)
theorem pd_if {c : Expr} (hc : PDT R F0 X c t) (ha : PDE R F0 X a ta) (hb : PDE R F0 X b tb) : PDE R F0 X (.IfExp c a b pos) (dIf t ta tb) := by
  refine PE.imp (pe_ifExp hc ha hb) ?_
  rintro σ H Q ⟨F, ds, M, Qd, a, h, c⟩
  refine ⟨F, ds, M, _, a, h, fun F1 H1 M1 k e1 m1 q1 => ite_of_br ⟨fun z => ?_, fun z => ?_⟩⟩
  · exact ⟨F1, ds, M1, _, a.go e1 m1, q1.yes z, c.mono e1⟩
  · exact ⟨F1, ds, M1, _, a.go e1 m1, q1.no z, c.mono e1⟩
def dNil : DA := fun _ M Q => Q [] M
def dCons (ta : DE) (tr : DA) : DA := fun ds M Q => ta ds M fun x M1 => tr ds M1 fun xs M2 => Q (x :: xs) M2
theorem pda_nil : PDA R F0 X [] dNil := by
  refine PA.imp pa_nil ?_
  rintro σ H Q ⟨F, ds, M, Qd, a, h, c⟩
  exact c _ _ _ _ _ (Ex.refl _) a.hm .nil h
theorem pda_cons {e : Expr} {es : List Expr} {te : DE} {tr : DA} (ha : PDE R F0 X e te) (hr : PDA R F0 X es tr) (hs : starEach (e :: es) X.env = (false, eval e X.env) :: starEach es X.env := by rfl) : PDA R F0 X (e :: es) (dCons te tr) := by
  refine PA.imp (pa_cons ha hr hs) ?_
  rintro σ H Q ⟨F, ds, M, Qd, a, h, c⟩
  refine ⟨F, ds, M, _, a, h, fun F1 H1 M1 x vx e1 m1 r1 q1 => ?_⟩
  refine ⟨F1, ds, M1, _, a.go e1 m1, q1, fun F2 H2 M2 xs vs e2 m2 r2 q2 => ?_⟩
  exact c _ _ _ _ _ (e1.trans e2) m2 (.cons (r1.mono e2) r2) q2
def dTup (t : DA) : DE := fun ds M Q => t ds M fun xs M1 => xs.length ≤ sizeLine ∧ Q (.tup xs) M1
def dLst (t : DA) : DE := fun ds M Q => t ds M fun xs M1 => xs.length ≤ sizeLine ∧ Q (.lst xs) M1
def dLstM (t : DA) : DE := fun ds M Q => t ds M fun xs M1 => xs.length ≤ sizeLine ∧ ∀ p, M1 p = none → Q (.ref p) (mup M1 p (.lst xs))
theorem pd_tup {es : List Expr} {t : DA} {x1} (h : PDA R F0 X es t) : PDE R F0 X (.Tuple es x1 pos) (dTup t) := by
  refine PE.imp (pe_tup h) ?_
  rintro σ H Q ⟨F, ds, M, Qd, a, h, c⟩
  refine ⟨F, ds, M, _, a, h, fun F1 H1 M1 xs vs e1 m1 r1 q1 => ⟨r1.length ▸ q1.1, fun p hp => ?_⟩⟩
  exact c _ _ _ _ _ (e1.trans (.cold m1 hp)) (m1.cold hp) (.tup (.of upd_same) (r1.mono (.cold m1 hp))) q1.2
theorem pd_lst {es : List Expr} {t : DA} (h : PDA R F0 X es t) : PDE R F0 X (.List es pos) (dLst t) := by
  refine PE.imp (pe_lst h) ?_
  rintro σ H Q ⟨F, ds, M, Qd, a, h, c⟩
  refine ⟨F, ds, M, _, a, h, fun F1 H1 M1 xs vs e1 m1 r1 q1 => ⟨r1.length ▸ q1.1, fun p hp => ?_⟩⟩
  exact c _ _ _ _ _ (e1.trans (.cold m1 hp)) (m1.cold hp) (.lst upd_same (r1.mono (.cold m1 hp))) q1.2
theorem pd_lstM {es : List Expr} {t : DA} (h : PDA R F0 X es t) : PDE R F0 X (.List es pos) (dLstM t) := by
  refine PE.imp (pe_lst h) ?_
  rintro σ H Q ⟨F, ds, M, Qd, a, h, c⟩
  refine ⟨F, ds, M, _, a, h, fun F1 H1 M1 xs vs e1 m1 r1 q1 => ⟨r1.length ▸ q1.1, fun p hp => ?_⟩⟩
  exact c _ _ _ _ _ e1 (m1.warm (o := .lst xs) hp ⟨vs, upd_same, r1⟩) (.ref p) (q1.2 p (m1.freeM hp))

def dNext : DS := fun D ds M => D.nx ds M
def dSeq (t u : DS) : DS := fun D ds M => t { D with nx := u D } ds M
variable {st : Stmt} {sts : List Stmt} {ts us : DS} {e : Expr} {te : DE}
theorem pds_nil : PDSs R F0 X [] dNext := by
  refine PSs.imp pss_nil ?_
  rintro D σ H ⟨F, ds, M, Dd, a, h, c⟩
  exact c.nx _ _ _ _ _ (Ex.refl _) a.hm a.rs h
theorem pds_cons (h1 : PDS R F0 X st ts) (h2 : PDSs R F0 X sts us) : PDSs R F0 X (st :: sts) (dSeq ts us) := by
  refine PSs.imp (pss_cons h1 h2) ?_
  rintro D σ H ⟨F, ds, M, Dd, a, h, c⟩
  refine ⟨F, ds, M, _, a, h, ⟨fun F1 H1 M1 ds1 σ1 e1 m1 r1 q1 => ?_, c.rt, c.bk, c.ct⟩⟩
  exact ⟨F1, ds1, M1, Dd, ⟨a.ex.trans e1, m1, r1⟩, q1, c.mono e1⟩
theorem pds_one (h1 : PDS R F0 X st ts) : PDSs R F0 X [st] ts := by
  refine PSs.imp (pds_cons h1 pds_nil) ?_
  rintro D σ H ⟨F, ds, M, Dd, a, h, c⟩
  exact ⟨F, ds, M, Dd, a, h, c⟩
def dBreak : DS := fun D ds M => D.bk ds M
def dContinue : DS := fun D ds M => D.ct ds M
theorem pd_pass : PDS R F0 X (.Pass pos) dNext := by
  refine PS.imp ps_pass ?_
  rintro D σ H ⟨F, ds, M, Dd, a, h, c⟩
  exact c.nx _ _ _ _ _ (Ex.refl _) a.hm a.rs h
theorem pd_break : PDS R F0 X (.Break pos) dBreak := by
  refine PS.imp ps_break ?_
  rintro D σ H ⟨F, ds, M, Dd, a, h, c⟩
  exact c.bk _ _ _ _ _ (Ex.refl _) a.hm a.rs h
theorem pd_continue : PDS R F0 X (.Continue pos) dContinue := by
  refine PS.imp ps_continue ?_
  rintro D σ H ⟨F, ds, M, Dd, a, h, c⟩
  exact c.ct _ _ _ _ _ (Ex.refl _) a.hm a.rs h
def dDrop (te : DE) : DS := fun D ds M => te ds M fun _ M1 => D.nx ds M1
theorem pd_expr (he : PDE R F0 X e te) (hs : swapsWith e none pos.line X.env = pure false := by rfl) : PDS R F0 X (.Expr e pos) (dDrop te) := by
  refine PS.imp (ps_expr he hs) ?_
  rintro D σ H ⟨F, ds, M, Dd, a, h, c⟩
  exact ⟨F, ds, M, _, a, h, fun F1 H1 M1 x vx e1 m1 r1 q1 => c.nx _ _ _ _ _ e1 m1 (a.rs.mono e1) q1⟩
def dRet (te : DE) : DS := fun D ds M => te ds M D.rt
theorem pd_ret (he : PDE R F0 X e te) : PDS R F0 X (.Return (some e) pos) (dRet te) := by
  refine PS.imp (ps_ret he) ?_
  rintro D σ H ⟨F, ds, M, Dd, a, h, c⟩
  exact ⟨F, ds, M, _, a, h, c.rt⟩
def dRetN : DS := fun D _ M => D.rt .non M
theorem pd_retN : PDS R F0 X (.Return none pos) dRetN := by
  refine PS.imp ps_retN ?_
  rintro D σ H ⟨F, ds, M, Dd, a, h, c⟩
  exact c.rt _ _ _ _ _ (Ex.refl _) a.hm .non h
def dIfS (c : DT) (t u : DS) : DS := fun D ds M => c ds M fun b M1 => Br b (t D ds M1) (u D ds M1)
theorem pd_ifS {c : Expr} {a b : List Stmt} {tc : DT} (hc : PDT R F0 X c tc) (ha : PDSs R F0 X a ts) (hb : PDSs R F0 X b us) : PDS R F0 X (.If c a b pos) (dIfS tc ts us) := by
  refine PS.imp (ps_if hc ha hb) ?_
  rintro D σ H ⟨F, ds, M, Dd, a, h, c⟩
  refine ⟨F, ds, M, _, a, h, fun F1 H1 M1 k e1 m1 q1 => ite_of_br ⟨fun z => ?_, fun z => ?_⟩⟩
  · exact ⟨F1, ds, M1, _, a.go e1 m1, q1.yes z, c.mono e1⟩
  · exact ⟨F1, ds, M1, _, a.go e1 m1, q1.no z, c.mono e1⟩
abbrev DG := D → Sl → MH → (Sl → MH → Prop) → Prop
abbrev DGs := List D → Sl → MH → (Sl → MH → Prop) → Prop
def upG (K : PySem.W.Frag) (R F0 : Hp) (g : DG) : TG := fun v σ H Q => ∃ F ds M d Qd, At K R F0 F H σ ds M ∧ Rep K F d v ∧ g d ds M Qd ∧ ContS K R F Qd Q
def upGs (K : PySem.W.Frag) (R F0 : Hp) (g : DGs) : TGs := fun v σ H Q => ∃ F ds M d Qd, At K R F0 F H σ ds M ∧ RepL K F d v ∧ g d ds M Qd ∧ ContS K R F Qd Q
abbrev PDG (R F0 : Hp) (X : Cx) (e : Expr) (g : DG) : Prop := PG X e (upG X.K R F0 g)
abbrev PDGs (R F0 : Hp) (X : Cx) (e : List Expr) (g : DGs) : Prop := PGs X e (upGs X.K R F0 g)
theorem PG.imp {e : Expr} {t t' : TG} (h : PG X e t) (k : ∀ v σ H Q, t' v σ H Q → t v σ H Q) : PG X e t' := ⟨fun pins s σ H v u Q I r q => h.run pins s σ H v u Q I r (k v σ H Q q)⟩
theorem PGs.imp {e : List Expr} {t t' : TGs} (h : PGs X e t) (k : ∀ v σ H Q, t' v σ H Q → t v σ H Q) : PGs X e t' := ⟨fun pins s σ H vs us Q I r q => h.run pins s σ H vs us Q I r (k vs σ H Q q)⟩
def dName (i : Nat) : DG := fun d ds M Q => Q (ds.set i (some d)) M
theorem pdg_name (i : Nat) {x : Str} (hN : X.N.Nodup) (hi : X.N[i]? = some x := by rfl) (hx : Loc X.env.scope x := by first | exact Or.inl rfl | exact Or.inr rfl) (hf : X.fn x = true ∨ X.env.scope.names.lookup x = some .local := by first | exact .inl rfl | exact .inr rfl | assumption) : PDG R F0 X (.Name x pos) (dName i) := by
  refine PG.imp (pg_name hN hi hx hf) ?_
  rintro v σ H Q ⟨F, ds, M, d, Qd, a, r, h, c⟩
  exact c _ _ _ _ _ (Ex.refl _) a.hm (a.rs.set r i) h
def dgNil : DGs := fun xs ds M Q => match xs with
  | [] => Q ds M
  | _ => False
def dgCons (g : DG) (gs : DGs) : DGs := fun xs ds M Q => match xs with
  | x :: xs => g x ds M fun ds1 M1 => gs xs ds1 M1 Q
  | _ => False
theorem pdgs_nil : PDGs R F0 X [] dgNil := by
  refine PGs.imp pgs_nil ?_
  rintro v σ H Q ⟨F, ds, M, d, Qd, a, r, h, c⟩
  cases r with
  | nil => exact ⟨rfl, c _ _ _ _ _ (Ex.refl _) a.hm a.rs h⟩
  | cons _ _ => exact h.elim
theorem pdgs_cons {e : Expr} {es : List Expr} {g : DG} {gs : DGs} (h1 : PDG R F0 X e g) (h2 : PDGs R F0 X es gs) (hs : (assignEach (e :: es) X.env).map (·.2) = assign e X.env :: (assignEach es X.env).map (·.2) := by rfl) : PDGs R F0 X (e :: es) (dgCons g gs) := by
  refine PGs.imp (pgs_cons h1 h2 hs) ?_
  rintro v σ H Q ⟨F, ds, M, d, Qd, a, r, h, c⟩
  cases r with
  | nil => exact h.elim
  | cons r rs =>
    refine ⟨_, _, rfl, F, ds, M, _, _, a, r, h, fun F1 H1 M1 ds1 σ1 e1 m1 r1 q1 => ?_⟩
    exact ⟨F1, ds1, M1, _, _, ⟨a.ex.trans e1, m1, r1⟩, rs.mono e1, q1, c.mono e1⟩
end
end Dv
namespace Dv
open PySem PySem.Spec L2
section
variable {X : Cx} {R F0 : Hp} {pos : Pos}
def dgTup (n : Nat) (gs : DGs) : DG := fun x ds M Q => match x with
  | .tup xs => xs.length = n ∧ gs xs ds M Q
  | _ => False
theorem pdg_tup {es : List Expr} {k : Nat} {gs : DGs} {n : Nat} (hc : X.calm = true) (h : PDGs R F0 X es gs) (hn : (assignEach es X.env).length = n := by rfl) (hst : (assignEach es X.env).findIdx? (·.1) = none := by rfl) : PDG R F0 X (.Tuple es k pos) (dgTup n gs) := by
  refine PG.imp (pg_tup hc h hn hst) ?_
  rintro v σ H Q ⟨F, ds, M, d, Qd, a, r, h, c⟩
  cases r with
  | tup hs rs =>
    obtain ⟨h1, h2⟩ := h
    exact ⟨_, _, rfl, a.hm.ex.t hs, rs.length.symm.trans h1, F, ds, M, _, Qd, a, rs, h2, c⟩
  | _ => exact h.elim
abbrev DSet := D → D → D → MH → (MH → Prop) → Prop
def Set3 (K : PySem.W.Frag) (r : DSet) (rv : TSet) : Prop := ∀ R F H M o i x vo vi vx Qd Q, HM K R F H M → Rep K F o vo → Rep K F i vi → Rep K F x vx → r o i x M Qd → (∀ F' H' M', Ex F F' → HM K R F' H' M' → Qd M' → Q H') → rv vo vi vx H Q
def dgSub (to ti : DE) (r : DSet) : DG := fun x ds M Q => to ds M fun o M1 => ti ds M1 fun i M2 => r o i x M2 fun M3 => Q ds M3
theorem pdg_sub {o i : Expr} {to ti : DE} {r : DSet} {rv : TSet} (ho : PDE R F0 X o to) (hi : PDE R F0 X i ti) (hs : PSet X rv) (s3 : Set3 X.K r rv) (ha : ∀ v, assign (.Subscript o i pos) X.env v = (do
      let ov ← holding [v] (eval o X.env)
      let iv ← holding [v, ov] (eval i X.env)
      standAt pos
      holding [v, ov, iv] (setItem ov iv v)
      release [v, ov, iv] []) := by intro _; rfl) : PDG R F0 X (.Subscript o i pos) (dgSub to ti r) := by
  refine PG.imp (pg_sub ho hi hs ha) ?_
  rintro v σ H Q ⟨F, ds, M, d, Qd, a, r0, h, c⟩
  refine ⟨F, ds, M, _, a, h, fun F1 H1 M1 x vx e1 m1 r1 q1 => ?_⟩
  refine ⟨F1, ds, M1, _, a.go e1 m1, q1, fun F2 H2 M2 y vy e2 m2 r2 q2 => ?_⟩
  exact s3 R F2 H2 M2 _ _ _ _ _ _ _ _ m2 (r1.mono e2) r2 (r0.mono (e1.trans e2)) q2 fun F3 H3 M3 e3 m3 q3 => c _ _ _ _ _ ((e1.trans e2).trans e3) m3 (a.rs.mono ((e1.trans e2).trans e3)) q3
def dAsg (te : DE) (g : DG) : DS := fun D ds M => te ds M fun x M1 => g x ds M1 D.nx
theorem asg_up {te : DE} {g : DG} : ∀ D σ H, upS X.K R F0 (dAsg te g) D σ H → tAsg (up X.K R F0 te) (upG X.K R F0 g) D σ H := by
  rintro D σ H ⟨F, ds, M, Dd, a, h, c⟩
  exact ⟨F, ds, M, _, a, h, fun F1 H1 M1 x vx e1 m1 r1 q1 => ⟨F1, ds, M1, x, _, a.go e1 m1, r1, q1, c.nx.mono e1⟩⟩
theorem pd_asg {tg e : Expr} {te : DE} {g : DG} (he : PDE R F0 X e te) (hg : PDG R F0 X tg g) (hs : swapsWithSole [tg] e pos.line X.env = pure false := by rfl) (hw : swappedStores [tg] e X.env = pure none := by rfl) (h1 : (assignEach [tg] X.env).map (·.2) = [assign tg X.env] := by rfl) : PDS R F0 X (.Assign [tg] e pos) (dAsg te g) :=
  PS.imp (ps_asg he hg hs hw h1) asg_up
theorem pd_set (i : Nat) {x : Str} {e : Expr} {te : DE} {pos' : Pos} (hN : X.N.Nodup) (he : PDE R F0 X e te) (hi : X.N[i]? = some x := by rfl) (hx : Loc X.env.scope x := by first | exact Or.inl rfl | exact Or.inr rfl) (hs : swapsWith e (some (.Name x pos')) pos.line X.env = pure false := by rfl)
    (hf : X.fn x = true ∨ X.env.scope.names.lookup x = some .local := by first | exact .inl rfl | exact .inr rfl | assumption) : PDS R F0 X (.Assign [.Name x pos'] e pos) (dAsg te (dName i)) := by
  refine PS.imp (ps_set hN hi hx he hs hf) ?_
  rintro D σ H ⟨F, ds, M, Dd, a, h, c⟩
  exact ⟨F, ds, M, _, a, h, fun F1 H1 M1 x vx e1 m1 r1 q1 => c.nx _ _ _ _ _ e1 m1 ((a.rs.mono e1).set r1 i) q1⟩

def ItOk (K : PySem.W.Frag) (R F : Hp) (M : MH) (J : It) (xs : List D) : Prop := ∀ (i : Nat) F' H' M', Ex F F' → HM K R F' H' M' → M' = M →
  (xs.length ≤ i → J.stop i H') ∧ (i < xs.length → J.go i H') ∧ ∀ v H2, i < xs.length → J.yld i H' v H2 → ∃ d F2, xs[i]? = some d ∧ Ex F' F2 ∧ HM K R F2 H2 M' ∧ Rep K F2 d v
def ItOkA (K : PySem.W.Frag) (F : Hp) (J : It) (xs : List D) : Prop := ∀ R M, ItOk K R F M J xs
abbrev DI := Sl → MH → (List D → MH → Prop) → Prop
def upI (K : PySem.W.Frag) (R F0 : Hp) (t : DI) : TI := fun σ H Z => ∃ F ds M Rd, At K R F0 F H σ ds M ∧ t ds M Rd ∧ ∀ F' H' M' J xs, Ex F F' → HM K R F' H' M' → ItOkA K F' J xs → Rd xs M' → Z J H'
abbrev PDI (R F0 : Hp) (X : Cx) (tg it : Expr) (t : DI) : Prop := PI X tg it (upI X.K R F0 t)
theorem PI.imp {tg it : Expr} {t t' : TI} (h : PI X tg it t) (k : ∀ σ H R, t' σ H R → t σ H R) : PI X tg it t' := ⟨fun pins s σ H R I q => h.run pins s σ H R I (k σ H R q)⟩
def dLoop (g : DG) (body : DS) (W : DEnds) : List D → Sl → MH → Prop
  | [], ds, M => W.nx ds M
  | x :: xs, ds, M => g x ds M fun ds1 M1 => body { nx := dLoop g body W xs, rt := W.rt, bk := W.nx, ct := dLoop g body W xs } ds1 M1
def dFor (it : DI) (g : DG) (body : DS) : DS := fun D ds M => it ds M fun xs M1 => dLoop g body D xs ds M1
theorem pd_for {tg iter : Expr} {body : List Stmt} {it : DI} {g : DG} {tb : DS} (hp : PassesOwn (model X.prog X.w) X.A X.env X.xe) (hc : X.calm = true) (hi : PDI R F0 X tg iter it) (hg : PDG R F0 X tg g) (hb : PDSs R F0 X body tb)
    (hs : ∀ x, foldedSetIterable iter X.env x = pure x := by intro _; rfl) : PDS R F0 X (.For tg iter body [] pos) (dFor it g tb) := by
  refine PS.imp (ps_for hp hc hi hg hb hs) ?_
  rintro D σ H ⟨F, ds, M, Dd, a, h, c⟩
  refine ⟨F, ds, M, _, a, h, fun F1 H1 M1 J xs e1 m1 ok q1 => ?_⟩
  refine ⟨fun i m σ' H' => m = xs.length - i ∧ ∃ F' ds' M', Ex F1 F' ∧ At X.K R F0 F' H' σ' ds' M' ∧ dLoop g tb Dd (xs.drop i) ds' M', ⟨_, rfl, F1, ds, M1, Ex.refl _, a.go e1 m1, q1⟩, ?_⟩
  rintro i m σ' H' ⟨rfl, F', ds', M', e', a', q'⟩
  obtain ⟨k1, k2, k3⟩ := ok R M' i F' H' M' e' a'.hm rfl
  by_cases hlt : i < xs.length
  · refine .inr ⟨k2 hlt, fun σ2 H2 => ∃ F2 ds2 M2, Ex F1 F2 ∧ At X.K R F0 F2 H2 σ2 ds2 M2 ∧ dLoop g tb Dd (xs.drop (i + 1)) ds2 M2, fun σ2 H2 z => ⟨xs.length - (i + 1), by omega, rfl, z⟩, fun v H2 y => ?_⟩
    obtain ⟨d, F2, ed, e2, m2, r2⟩ := k3 v H2 hlt y
    rw [List.drop_eq_getElem_cons hlt] at q'
    have e3 : xs[i] = d := by rw [List.getElem?_eq_getElem hlt] at ed; exact Option.some.inj ed
    rw [e3] at q'
    refine ⟨F2, ds', M', d, _, a'.go e2 m2, r2, q', fun F3 H3 M3 ds3 σ3 e4 m3 r3 q3 => ?_⟩
    have a3 : At X.K R F0 F3 H3 σ3 ds3 M3 := ⟨(a'.ex.trans e2).trans e4, m3, r3⟩
    refine ⟨F3, ds3, M3, _, a3, q3, ?_⟩
    have cc := c.mono (e1.trans (e'.trans (e2.trans e4)))
    have nx : ContS X.K R F3 (dLoop g tb Dd (xs.drop (i + 1))) (fun σ2 H2 => ∃ F2 ds2 M2, Ex F1 F2 ∧ At X.K R F0 F2 H2 σ2 ds2 M2 ∧ dLoop g tb Dd (xs.drop (i + 1)) ds2 M2) :=
      fun F5 H5 M5 ds5 σ5 e5 m5 r5 q5 => ⟨F5, ds5, M5, ((e'.trans e2).trans e4).trans e5, ⟨a3.ex.trans e5, m5, r5⟩, q5⟩
    exact ⟨nx, cc.rt, cc.nx, nx⟩
  · refine .inl ⟨k1 (by omega), ?_⟩
    rw [List.drop_eq_nil_of_le (by omega)] at q'
    exact c.nx _ _ _ _ _ (e1.trans e') a'.hm a'.rs q'

def dSeqI (te : DE) : DI := fun ds M R => te ds M fun x M1 => match x with
  | .lst xs => R xs M1
  | _ => False
def dTupI (te : DE) : DI := fun ds M R => te ds M fun x M1 => match x with
  | .tup xs => R xs M1
  | _ => False
theorem itok_list {K : PySem.W.Frag} {F : Hp} {a : Addr} {vs : List V} {xs : List D} (h : SqL K F a vs) (r : RepL K F xs vs) : ItOkA K F (Itl K a) xs := by
  intro R M i F' H' M' e m _
  have hq : SqL K H' a vs := (e.trans m.ex).l h
  refine ⟨fun z => ⟨vs, hq, by rw [← r.length]; exact z⟩, fun z => ?_, ?_⟩
  · have z2 : i < vs.length := by rw [← r.length]; exact z
    exact ⟨vs, vs[i], hq, List.getElem?_eq_getElem z2⟩
  · rintro v H2 _ ⟨rfl, z⟩
    obtain ⟨d, e1, e2⟩ := r.getV (z vs hq)
    exact ⟨d, F', e1, Ex.refl _, m, e2.mono e⟩
theorem itok_tup {K : PySem.W.Frag} {F : Hp} {a : Addr} {vs : List V} {xs : List D} (h : SqT K F a vs) (r : RepL K F xs vs) : ItOkA K F (Itt K a) xs := by
  intro R M i F' H' M' e m _
  have hq : SqT K H' a vs := (e.trans m.ex).t h
  refine ⟨fun z => ⟨vs, hq, by rw [← r.length]; exact z⟩, fun z => ?_, ?_⟩
  · have z2 : i < vs.length := by rw [← r.length]; exact z
    exact ⟨vs, vs[i], hq, List.getElem?_eq_getElem z2⟩
  · rintro v H2 _ ⟨rfl, z⟩
    obtain ⟨d, e1, e2⟩ := r.getV (z vs hq)
    exact ⟨d, F', e1, Ex.refl _, m, e2.mono e⟩
theorem pdi_list {tg e : Expr} {te : DE} (he : PDE R F0 X e te) : PDI R F0 X tg e (dSeqI te) := by
  refine PI.imp (pi_list he) ?_
  rintro σ H Z ⟨F, ds, M, Rd, a, h, c⟩
  refine ⟨F, ds, M, _, a, h, fun F1 H1 M1 x vx e1 m1 r1 q1 => ?_⟩
  cases r1 with
  | lst hs rs => exact ⟨_, rfl, ⟨_, m1.ex.l (.inl (.inl hs))⟩, c _ _ _ _ _ e1 m1 (itok_list (.inl (.inl hs)) rs) q1⟩
  | _ => exact q1.elim
theorem pdi_tup {tg e : Expr} {te : DE} (he : PDE R F0 X e te) : PDI R F0 X tg e (dTupI te) := by
  refine PI.imp (pi_tup he) ?_
  rintro σ H Z ⟨F, ds, M, Rd, a, h, c⟩
  refine ⟨F, ds, M, _, a, h, fun F1 H1 M1 x vx e1 m1 r1 q1 => ?_⟩
  cases r1 with
  | tup hs rs => exact ⟨_, rfl, ⟨_, m1.ex.t hs⟩, c _ _ _ _ _ e1 m1 (itok_tup hs rs) q1⟩
  | _ => exact q1.elim
def rangeD (lo : Int) (n : Nat) : List D := (List.range n).map fun (i : Nat) => .int (lo + i)
theorem itok_range {K : PySem.W.Frag} {F : Hp} {lo : Int} {n : Nat} : ItOkA K F (Itr lo n) (rangeD lo n) := by
  intro R M i F' H' M' e m _
  have hl : (rangeD lo n).length = n := by simp [rangeD]
  rw [hl]
  refine ⟨fun z => z, fun z => z, ?_⟩
  rintro v H2 hi ⟨rfl, rfl⟩
  exact ⟨.int (lo + i), F', by simp [rangeD, List.getElem?_range hi], Ex.refl _, m, .int _⟩
def dRange1 (ta : DA) : DI := fun ds M R => ta ds M fun xs M1 => match xs with
  | [.int j] => (-(2 ^ 62) ≤ j ∧ j < 2 ^ 62) ∧ R (rangeD 0 j.toNat) M1
  | _ => False
def dRange2 (ta : DA) : DI := fun ds M R => ta ds M fun xs M1 => match xs with
  | [.int i, .int j] => (-(2 ^ 62) ≤ i ∧ i < 2 ^ 62 ∧ -(2 ^ 62) ≤ j ∧ j < 2 ^ 62) ∧ R (rangeD i (j - i).toNat) M1
  | _ => False
theorem repl_one {K : PySem.W.Frag} {F : Hp} {d : D} {vs : List V} (r : RepL K F [d] vs) : ∃ v, vs = [v] ∧ Rep K F d v := by
  cases r with
  | cons h r => cases r; exact ⟨_, rfl, h⟩
theorem repl_two {K : PySem.W.Frag} {F : Hp} {d e : D} {vs : List V} (r : RepL K F [d, e] vs) : ∃ v w, vs = [v, w] ∧ Rep K F d v ∧ Rep K F e w := by
  cases r with
  | cons h r => obtain ⟨w, rfl, h2⟩ := repl_one r; exact ⟨_, _, rfl, h, h2⟩
theorem repl_three {K : PySem.W.Frag} {F : Hp} {d e f : D} {vs : List V} (r : RepL K F [d, e, f] vs) : ∃ v w u, vs = [v, w, u] ∧ Rep K F d v ∧ Rep K F e w ∧ Rep K F f u := by
  cases r with
  | cons h r => obtain ⟨w, u, rfl, h2, h3⟩ := repl_two r; exact ⟨_, _, _, rfl, h, h2, h3⟩
theorem pdi_range1 {tg a : Expr} {ta : DA} {p : Pos} (hg : Gl X "range") (hm : X.mg "range" = none) (ha : PDA R F0 X [a] ta) (hs : starEach [a] X.env = [(false, eval a X.env)] := by rfl) : PDI R F0 X tg (.Call (.Name "range" p) [a] [] pos) (dRange1 ta) := by
  refine PI.imp (pi_range1 hg hm ha hs) ?_
  rintro σ H Z ⟨F, ds, M, Rd, a, h, c⟩
  refine ⟨F, ds, M, _, a, h, fun F1 H1 M1 xs vs e1 m1 r1 q1 => ?_⟩
  split at q1
  · obtain ⟨v, rfl, r⟩ := repl_one r1
    cases r
    exact ⟨_, rfl, q1.1.1, q1.1.2, c _ _ _ _ _ e1 m1 itok_range q1.2⟩
  · exact q1.elim
theorem pdi_range2 {tg a b : Expr} {ta : DA} {p : Pos} (hg : Gl X "range") (hm : X.mg "range" = none) (ha : PDA R F0 X [a, b] ta) (hs : starEach [a, b] X.env = [(false, eval a X.env), (false, eval b X.env)] := by rfl) (hs2 : starEach [b] X.env = [(false, eval b X.env)] := by rfl) :
    PDI R F0 X tg (.Call (.Name "range" p) [a, b] [] pos) (dRange2 ta) := by
  refine PI.imp (pi_range2 hg hm ha hs hs2) ?_
  rintro σ H Z ⟨F, ds, M, Rd, a, h, c⟩
  refine ⟨F, ds, M, _, a, h, fun F1 H1 M1 xs vs e1 m1 r1 q1 => ?_⟩
  split at q1
  · obtain ⟨v, w, rfl, r, r'⟩ := repl_two r1
    cases r; cases r'
    exact ⟨_, _, rfl, q1.1, c _ _ _ _ _ e1 m1 itok_range q1.2⟩
  · exact q1.elim
def strD (x : Str) : List D := x.cps.toList.map fun c => .str ⟨#[c]⟩
theorem itok_str {K : PySem.W.Frag} {F : Hp} {x : Str} : ItOkA K F (Its x) (strD x) := by
  intro R M i F' H' M' e m _
  have hl : (strD x).length = x.cps.size := by simp [strD]
  rw [hl]
  refine ⟨fun z => z, fun z => z, ?_⟩
  rintro v H2 hi ⟨rfl, c, hc, rfl⟩
  refine ⟨.str ⟨#[c]⟩, F', ?_, Ex.refl _, m, .str _⟩
  unfold strD
  rw [List.getElem?_map]
  have : x.cps.toList[i]? = some c := by rw [Array.getElem?_toList]; exact hc
  rw [this]; rfl
def dStrI (te : DE) : DI := fun ds M R => te ds M fun x M1 => match x with
  | .str x => R (strD x) M1
  | _ => False
theorem pdi_str {tg e : Expr} {te : DE} (he : PDE R F0 X e te) : PDI R F0 X tg e (dStrI te) := by
  refine PI.imp (pi_str he) ?_
  rintro σ H Z ⟨F, ds, M, Rd, a, h, c⟩
  refine ⟨F, ds, M, _, a, h, fun F1 H1 M1 x vx e1 m1 r1 q1 => ?_⟩
  cases r1 with
  | str x => exact ⟨_, rfl, c _ _ _ _ _ e1 m1 itok_str q1⟩
  | _ => exact q1.elim
def dwipe (ds : Sl) : List Nat → Sl
  | [] => ds
  | v :: vs => (dwipe ds vs).set v none
theorem rep_wipe {K : PySem.W.Frag} {F : Hp} {ds : Sl} {σ : St} (r : RepS K F ds σ) : ∀ vs, RepS K F (dwipe ds vs) (wipe σ vs)
  | [] => r
  | v :: vs => RepS.unset none v (rep_wipe r vs)
def dLcL (g : DG) (tt : DT) (te : DE) (vs : List Nat) (ds : Sl) (Q : List D → MH → Prop) : List D → List D → MH → Prop
  | [], acc, M => Q acc M
  | x :: xs, acc, M => g x (dwipe ds vs) M fun ds1 M1 => tt ds1 M1 fun b M2 => Br b (te ds1 M2 fun y M3 => acc.length < sizeLine ∧ dLcL g tt te vs ds Q xs (acc ++ [y]) M3) (dLcL g tt te vs ds Q xs acc M2)
def dLc (it : DI) (g : DG) (tt : DT) (te : DE) (vs : List Nat) : DE := fun ds M Q => it ds M fun xs M1 => dLcL g tt te vs ds (fun ys M2 => Q (.lst ys) M2) xs [] M1
def dLcM (it : DI) (g : DG) (tt : DT) (te : DE) (vs : List Nat) : DE := fun ds M Q => it ds M fun xs M1 => dLcL g tt te vs ds (fun ys M2 => ∀ p, M2 p = none → Q (.ref p) (mup M2 p (.lst ys))) xs [] M1
def dYes : DT := fun _ M Q => Q true M
theorem wipe_set {σ : St} {o : Option V} {i : Nat} : ∀ {vs : List Nat}, i ∈ vs → wipe (σ.set i o) vs = wipe σ vs
  | v :: vs, h => by
    show (wipe (σ.set i o) vs).set v none = (wipe σ vs).set v none
    by_cases e : i ∈ vs
    · rw [wipe_set e]
    · have e2 : i = v := (List.mem_cons.mp h).resolve_right e
      subst e2
      have key : ∀ vs : List Nat, i ∉ vs → wipe (σ.set i o) vs = (wipe σ vs).set i o := by
        intro vs
        induction vs with
        | nil => intro _; rfl
        | cons w ws ih =>
          intro hn
          show (wipe (σ.set i o) ws).set w none = ((wipe σ ws).set w none).set i o
          rw [ih fun z => hn (List.mem_cons_of_mem _ z)]
          exact List.set_comm _ _ fun z => hn (by rw [← z]; exact List.mem_cons_self)
      rw [key vs e, List.set_set]
theorem wipe_wipe {σ : St} : ∀ (ws vs : List Nat), (∀ i ∈ ws, i ∈ vs) → wipe (wipe σ ws) vs = wipe σ vs
  | [], vs, _ => rfl
  | w :: ws, vs, h => by
    show wipe ((wipe σ ws).set w none) vs = wipe σ vs
    rw [wipe_set (h w List.mem_cons_self)]
    exact wipe_wipe ws vs fun i z => h i (List.mem_cons_of_mem _ z)
def TgOk (K : PySem.W.Frag) (R F0 : Hp) (gV : TG) (g : DG) (vs : List Nat) : Prop := ∀ v σ σ0 H Q, wipe σ vs = σ0 → upG K R F0 g v σ H Q → gV v σ H fun σ2 H2 => wipe σ2 vs = σ0 ∧ Q σ2 H2
def TgsOk (K : PySem.W.Frag) (R F0 : Hp) (gV : TGs) (g : DGs) (vs : List Nat) : Prop := ∀ v σ σ0 H Q, wipe σ vs = σ0 → upGs K R F0 g v σ H Q → gV v σ H fun σ2 H2 => wipe σ2 vs = σ0 ∧ Q σ2 H2
theorem tgok_name {K : PySem.W.Frag} {i : Nat} {vs : List Nat} (h : i ∈ vs) : TgOk K R F0 (gName i) (dName i) vs := by
  rintro v σ σ0 H Q e ⟨F, ds, M, d, Qd, a, r, h1, c⟩
  exact ⟨by rw [wipe_set h]; exact e, c _ _ _ _ _ (Ex.refl _) a.hm (a.rs.set r i) h1⟩
theorem tgsok_nil {K : PySem.W.Frag} {vs : List Nat} : TgsOk K R F0 gNil dgNil vs := by
  rintro v σ σ0 H Q e ⟨F, ds, M, d, Qd, a, r, h, c⟩
  cases r with
  | nil => exact ⟨rfl, e, c _ _ _ _ _ (Ex.refl _) a.hm a.rs h⟩
  | cons _ _ => exact h.elim
theorem tgsok_cons {K : PySem.W.Frag} {i : Nat} {gV : TGs} {g : DGs} {vs : List Nat} (h : i ∈ vs) (hr : TgsOk K R F0 gV g vs) : TgsOk K R F0 (gCons (gName i) gV) (dgCons (dName i) g) vs := by
  rintro v σ σ0 H Q e ⟨F, ds, M, d, Qd, a, r, h1, c⟩
  cases r with
  | nil => exact h1.elim
  | cons r rs => exact ⟨_, _, rfl, hr _ _ σ0 _ _ (by rw [wipe_set h]; exact e) ⟨F, ds.set i (some _), M, _, Qd, ⟨a.ex, a.hm, a.rs.set r i⟩, rs, h1, c⟩⟩
theorem tgok_tup {K : PySem.W.Frag} {gV : TGs} {g : DGs} {vs : List Nat} {n : Nat} (hr : TgsOk K R F0 gV g vs) : TgOk K R F0 (gTup K n gV) (dgTup n g) vs := by
  rintro v σ σ0 H Q e ⟨F, ds, M, d, Qd, a, r, h1, c⟩
  cases r with
  | tup hs rs =>
    obtain ⟨h2, h3⟩ := h1
    exact ⟨_, _, rfl, a.hm.ex.t hs, rs.length.symm.trans h2, hr _ _ σ0 _ _ e ⟨F, ds, M, _, Qd, a, rs, h3, c⟩⟩
  | _ => exact h1.elim
theorem lc_up {wi : TI} {it : DI} {gV : TG} {g : DG} {ttV : TT} {tt : DT} {teV : TE} {te : DE} {vs : List Nat} {K : PySem.W.Frag} {σ : St} {F H : Hp} (hw : ∀ σ H Z, upI K R F0 it σ H Z → wi σ H Z) (hg : ∀ R, TgOk K R F0 gV g vs) (ht : ∀ R σ H Q, upT K R F0 tt σ H Q → ttV σ H Q) (he : ∀ R σ H Q, up K R F0 te σ H Q → teV σ H Q)
    {ds : Sl} {M : MH} {Qs : List D → MH → Prop} {Q : VK} (a : At K R F0 F H σ ds M) (h : it ds M fun xs M1 => dLcL g tt te vs ds Qs xs [] M1)
    (c : ∀ L F' H' M' ys, Ex F F' → R L = none → (∃ ws, H' L = some (.lst ws) ∧ RepL K F' ys ws ∧ HM K (upd R L (.lst ws)) F' H' M') → Qs ys M' → Q (.ref L) H') : tLc wi gV ttV teV vs σ H Q := by
  refine hw σ H _ ⟨F, ds, M, _, a, h, fun F1 H1 M1 J xs e1 m1 ok q1 => ?_⟩
  intro L hL
  have nR : R L = none := m1.freeR hL
  refine ⟨fun i m H' => m = xs.length - i ∧ ∃ F' M' ys ws, Ex F1 F' ∧ RepL K F' ys ws ∧ HM K (upd R L (.lst ws)) F' H' M' ∧ dLcL g tt te vs ds Qs (xs.drop i) ys M', ⟨_, rfl, F1, M1, [], [], Ex.refl _, .nil, m1.lend hL, q1⟩, ?_⟩
  rintro i m H' ⟨rfl, F', M', ys, ws, e', ry, m', q'⟩
  obtain ⟨k1, k2, k3⟩ := ok _ M' i F' H' M' e' m' rfl
  have hLH : H' L = some (.lst ws) := (m'.rr L _ upd_same).1
  by_cases hlt : i < xs.length
  · refine .inr ⟨k2 hlt, fun H2 => ∃ F2 M2 ys2 ws2, Ex F1 F2 ∧ RepL K F2 ys2 ws2 ∧ HM K (upd R L (.lst ws2)) F2 H2 M2 ∧ dLcL g tt te vs ds Qs (xs.drop (i + 1)) ys2 M2, fun H2 z => ⟨xs.length - (i + 1), by omega, rfl, z⟩, fun v H2 y => ?_⟩
    obtain ⟨d, F2, ed, e2, m2, r2⟩ := k3 v H2 hlt y
    rw [List.drop_eq_getElem_cons hlt] at q'
    have e3 : xs[i] = d := by rw [List.getElem?_eq_getElem hlt] at ed; exact Option.some.inj ed
    rw [e3] at q'
    have ex2 : Ex F0 F2 := (a.ex.trans e1).trans (e'.trans e2)
    refine hg (upd R L (.lst ws)) v (wipe σ vs) (wipe σ vs) H2 _ (wipe_wipe vs vs fun _ z => z) ⟨F2, dwipe ds vs, M', d, _, ⟨ex2, m2, rep_wipe (a.rs.mono (e1.trans (e'.trans e2))) vs⟩, r2, q', fun F3 H3 M3 ds3 σ3 e4 m3 r3 q3 => ?_⟩
    refine ht (upd R L (.lst ws)) σ3 H3 _ ⟨F3, ds3, M3, _, ⟨ex2.trans e4, m3, r3⟩, q3, fun F5 H5 M5 b e5 m5 q5 => ite_of_br ⟨fun zb => ?_, fun zb => ?_⟩⟩
    · refine he (upd R L (.lst ws)) σ3 H5 _ ⟨F5, ds3, M5, _, ⟨(ex2.trans e4).trans e5, m5, r3.mono e5⟩, q5.yes zb, fun F6 H6 M6 y vy e6 m6 r6 q6 => ?_⟩
      have hL6 : H6 L = some (.lst ws) := (m6.rr L _ upd_same).1
      have e16 : Ex F' F6 := ((e2.trans e4).trans e5).trans e6
      have rl : RepL K F6 (ys ++ [y]) (ws ++ [vy]) := (ry.mono e16).append (.cons r6 .nil)
      refine ⟨ws, hL6, by rw [← ry.length]; exact q6.1, F6, M6, ys ++ [y], ws ++ [vy], e'.trans e16, rl, ?_, q6.2⟩
      exact HM.lent m6 nR
    · exact ⟨F5, M5, ys, ws, e'.trans ((e2.trans e4).trans e5), ry.mono ((e2.trans e4).trans e5), m5, q5.no zb⟩
  · refine .inl ⟨k1 (by omega), ?_⟩
    rw [List.drop_eq_nil_of_le (by omega)] at q'
    exact c L F' H' M' ys (e1.trans e') nR ⟨ws, hLH, ry, m'⟩ q'
theorem lc_cold {K : PySem.W.Frag} {R F F' H' : Hp} {M' : MH} {L : Addr} {ys : List D} {Qd : DQ} {Q : VK} (c : Cont K R F Qd Q) (e : Ex F F') (n : R L = none) (h : ∃ ws, H' L = some (.lst ws) ∧ RepL K F' ys ws ∧ HM K (upd R L (.lst ws)) F' H' M') (q : Qd (.lst ys) M') : Q (.ref L) H' := by
  obtain ⟨ws, hL, rl, m⟩ := h
  obtain ⟨e2, m2⟩ := m.back n
  exact c _ _ _ _ _ (e.trans e2) m2 (.lst upd_same (rl.mono e2)) q
theorem lc_warm {K : PySem.W.Frag} {R F F' H' : Hp} {M' : MH} {L : Addr} {ys : List D} {Qd : DQ} {Q : VK} (c : Cont K R F Qd Q) (e : Ex F F') (n : R L = none) (h : ∃ ws, H' L = some (.lst ws) ∧ RepL K F' ys ws ∧ HM K (upd R L (.lst ws)) F' H' M') (q : ∀ p, M' p = none → Qd (.ref p) (mup M' p (.lst ys))) : Q (.ref L) H' := by
  obtain ⟨ws, hL, rl, m⟩ := h
  have mL : M' L = none := (m.rr L _ upd_same).2.2
  exact c _ _ _ _ _ e (HM.backM (o := .lst ys) m n ⟨ws, hL, rl⟩) (.ref L) (q L mL)
section
variable {elt tg iter : Expr} {ifs : List Expr} {scope : Scope} {own : List (Str × Nat)} {it : DI} {gV : TG} {g : DG} {tt : DT} {te : DE}
abbrev PDTs (R F0 : Hp) (X : Cx) (ifs : List Expr) (t : DT) : Prop := PTs X ifs (upT X.K R F0 t)
theorem PTs.imp {ifs : List Expr} {t t' : TT} (h : PTs X ifs t) (k : ∀ σ H Q, t' σ H Q → t σ H Q) : PTs X ifs t' := ⟨fun pins s σ H Q I q => h.run pins s σ H Q I (k σ H Q q)⟩
theorem PTs.ex {ifs : List Expr} {t : Hp → TT} (h : ∀ r, PTs X ifs (t r)) : PTs X ifs (fun σ H Q => ∃ r, t r σ H Q) := ⟨fun pins s σ H Q I ⟨r, q⟩ => (h r).run pins s σ H Q I q⟩
theorem PE.ex {e : Expr} {t : Hp → TE} (h : ∀ r, PE X e (t r)) : PE X e (fun σ H Q => ∃ r, t r σ H Q) := ⟨fun pins s σ H Q I ⟨r, q⟩ => (h r).run pins s σ H Q I q⟩
theorem pdts_nil : PDTs R F0 X [] dYes := by
  refine PTs.imp pts_nil ?_
  rintro σ H Q ⟨F, ds, M, Qd, a, h, c⟩
  exact c _ _ _ _ (Ex.refl _) a.hm h
theorem pdts_one {e : Expr} {t : DT} (h : PDT R F0 X e t) : PDTs R F0 X [e] t := pts_one h
theorem pd_lc (hc : X.calm = true) (hN : X.N.Nodup) (hi : PDI R F0 X tg iter it) (ok : BlkOk X.N X.env.scope scope own) (hT : ∀ R, TgOk X.K R F0 gV g (own.map (·.2)))
    (hg : ∀ (s : Shared) (H : Hp) (C : Addr) (cl : List (Str × Addr)) (fp : List Addr), PG (X.blk s H scope (compEnvC scope cl C X.env) fp) tg gV) (ht : ∀ (R : Hp) (s : Shared) (H : Hp) (C : Addr) (cl : List (Str × Addr)) (fp : List Addr), PDTs R F0 (X.blk s H scope (compEnvC scope cl C X.env) fp) ifs tt)
    (he : ∀ (R : Hp) (s : Shared) (H : Hp) (C : Addr) (cl : List (Str × Addr)) (fp : List Addr), PDE R F0 (X.blk s H scope (compEnvC scope cl C X.env) fp) elt te) (hs : ∀ x, foldedSetIterable iter X.env x = pure x := by intro _; rfl) :
    PDE R F0 X (.ListComp elt [⟨tg, iter, ifs, 0⟩] scope pos) (dLc it g tt te (own.map (·.2))) := by
  refine PE.imp (pe_lc (tt := fun σ H Q => ∃ R, upT X.K R F0 tt σ H Q) (te := fun σ H Q => ∃ R, up X.K R F0 te σ H Q) hc hN hi ok hg (fun s H C cl fp => PTs.ex fun R => ht R s H C cl fp) (fun s H C cl fp => PE.ex fun R => he R s H C cl fp) hs) ?_
  rintro σ H Q ⟨F, ds, M, Qd, a, h, c⟩
  exact lc_up (fun _ _ _ z => z) hT (fun R _ _ _ z => ⟨R, z⟩) (fun R _ _ _ z => ⟨R, z⟩) a h fun L F' H' M' ys e n hh q => lc_cold c e n hh q
theorem pd_lcM (hc : X.calm = true) (hN : X.N.Nodup) (hi : PDI R F0 X tg iter it) (ok : BlkOk X.N X.env.scope scope own) (hT : ∀ R, TgOk X.K R F0 gV g (own.map (·.2)))
    (hg : ∀ (s : Shared) (H : Hp) (C : Addr) (cl : List (Str × Addr)) (fp : List Addr), PG (X.blk s H scope (compEnvC scope cl C X.env) fp) tg gV) (ht : ∀ (R : Hp) (s : Shared) (H : Hp) (C : Addr) (cl : List (Str × Addr)) (fp : List Addr), PDTs R F0 (X.blk s H scope (compEnvC scope cl C X.env) fp) ifs tt)
    (he : ∀ (R : Hp) (s : Shared) (H : Hp) (C : Addr) (cl : List (Str × Addr)) (fp : List Addr), PDE R F0 (X.blk s H scope (compEnvC scope cl C X.env) fp) elt te) (hs : ∀ x, foldedSetIterable iter X.env x = pure x := by intro _; rfl) :
    PDE R F0 X (.ListComp elt [⟨tg, iter, ifs, 0⟩] scope pos) (dLcM it g tt te (own.map (·.2))) := by
  refine PE.imp (pe_lc (tt := fun σ H Q => ∃ R, upT X.K R F0 tt σ H Q) (te := fun σ H Q => ∃ R, up X.K R F0 te σ H Q) hc hN hi ok hg (fun s H C cl fp => PTs.ex fun R => ht R s H C cl fp) (fun s H C cl fp => PE.ex fun R => he R s H C cl fp) hs) ?_
  rintro σ H Q ⟨F, ds, M, Qd, a, h, c⟩
  exact lc_up (fun _ _ _ z => z) hT (fun R _ _ _ z => ⟨R, z⟩) (fun R _ _ _ z => ⟨R, z⟩) a h fun L F' H' M' ys e n hh q => lc_warm c e n hh q
theorem pd_setLc (i : Nat) {y : Str} {py spos : Pos} (hc : X.calm = true) (hN : X.N.Nodup) (hi : PDI R F0 X tg iter it) (ok : BlkOk X.N X.env.scope scope own) (hT : ∀ R, TgOk X.K R F0 gV g (own.map (·.2)))
    (hg : ∀ (s : Shared) (H : Hp) (C : Addr) (cl : List (Str × Addr)) (fp : List Addr), PG (X.blk s H scope (compEnvC scope cl C X.env) fp) tg gV) (ht : ∀ (R : Hp) (s : Shared) (H : Hp) (C : Addr) (cl : List (Str × Addr)) (fp : List Addr), PDTs R F0 (X.blk s H scope (compEnvC scope cl C X.env) fp) ifs tt)
    (he : ∀ (R : Hp) (s : Shared) (H : Hp) (C : Addr) (cl : List (Str × Addr)) (fp : List Addr), PDE R F0 (X.blk s H scope (compEnvC scope cl C X.env) fp) elt te)
    (hsw : swapsWith (.ListComp elt [⟨tg, iter, ifs, 0⟩] scope pos) (some (.Name y py)) spos.line X.env = pure true) (hy : X.N[i]? = some y := by rfl) (hyl : X.env.scope.names.lookup y = some .local := by rfl) (hs : ∀ x, foldedSetIterable iter X.env x = pure x := by intro _; rfl) :
    PDS R F0 X (.Assign [.Name y py] (.ListComp elt [⟨tg, iter, ifs, 0⟩] scope pos) spos) (dAsg (dLc it g tt te (own.map (·.2))) (dName i)) := by
  refine PS.imp (ps_setLc (tt := fun σ H Q => ∃ R, upT X.K R F0 tt σ H Q) (te := fun σ H Q => ∃ R, up X.K R F0 te σ H Q) hc hN hy hyl hsw hi ok hg (fun s H C cl fp => PTs.ex fun R => ht R s H C cl fp) (fun s H C cl fp => PE.ex fun R => he R s H C cl fp) hs) ?_
  rintro D σ H ⟨F, ds, M, Dd, a, h, c⟩
  have c2 : Cont X.K R F (fun x M1 => Dd.nx (ds.set i (some x)) M1) (fun x H1 => D.nx (σ.set i (some x)) H1) := fun F' H' M' d v e m r q => c.nx _ _ _ _ _ e m ((a.rs.mono e).set r i) q
  exact lc_up (fun _ _ _ z => z) hT (fun R _ _ _ z => ⟨R, z⟩) (fun R _ _ _ z => ⟨R, z⟩) a h fun L F' H' M' ys e n hh q => lc_cold c2 e n hh q
theorem pd_setLcM (i : Nat) {y : Str} {py spos : Pos} (hc : X.calm = true) (hN : X.N.Nodup) (hi : PDI R F0 X tg iter it) (ok : BlkOk X.N X.env.scope scope own) (hT : ∀ R, TgOk X.K R F0 gV g (own.map (·.2)))
    (hg : ∀ (s : Shared) (H : Hp) (C : Addr) (cl : List (Str × Addr)) (fp : List Addr), PG (X.blk s H scope (compEnvC scope cl C X.env) fp) tg gV) (ht : ∀ (R : Hp) (s : Shared) (H : Hp) (C : Addr) (cl : List (Str × Addr)) (fp : List Addr), PDTs R F0 (X.blk s H scope (compEnvC scope cl C X.env) fp) ifs tt)
    (he : ∀ (R : Hp) (s : Shared) (H : Hp) (C : Addr) (cl : List (Str × Addr)) (fp : List Addr), PDE R F0 (X.blk s H scope (compEnvC scope cl C X.env) fp) elt te)
    (hsw : swapsWith (.ListComp elt [⟨tg, iter, ifs, 0⟩] scope pos) (some (.Name y py)) spos.line X.env = pure true) (hy : X.N[i]? = some y := by rfl) (hyl : X.env.scope.names.lookup y = some .local := by rfl) (hs : ∀ x, foldedSetIterable iter X.env x = pure x := by intro _; rfl) :
    PDS R F0 X (.Assign [.Name y py] (.ListComp elt [⟨tg, iter, ifs, 0⟩] scope pos) spos) (dAsg (dLcM it g tt te (own.map (·.2))) (dName i)) := by
  refine PS.imp (ps_setLc (tt := fun σ H Q => ∃ R, upT X.K R F0 tt σ H Q) (te := fun σ H Q => ∃ R, up X.K R F0 te σ H Q) hc hN hy hyl hsw hi ok hg (fun s H C cl fp => PTs.ex fun R => ht R s H C cl fp) (fun s H C cl fp => PE.ex fun R => he R s H C cl fp) hs) ?_
  rintro D σ H ⟨F, ds, M, Dd, a, h, c⟩
  have c2 : Cont X.K R F (fun x M1 => Dd.nx (ds.set i (some x)) M1) (fun x H1 => D.nx (σ.set i (some x)) H1) := fun F' H' M' d v e m r q => c.nx _ _ _ _ _ e m ((a.rs.mono e).set r i) q
  exact lc_up (fun _ _ _ z => z) hT (fun R _ _ _ z => ⟨R, z⟩) (fun R _ _ _ z => ⟨R, z⟩) a h fun L F' H' M' ys e n hh q => lc_warm c2 e n hh q
end
end
end Dv
namespace Dv
open PySem PySem.Spec L2
structure FnG (P : Program) (w : World) (K : PySem.W.Frag) (mg : Str → Option Value) (base : Heap) (k : Nat) (f : Addr) (fd : FuncData) (ps : List Str) (sp : Sp) : Prop where
  len : ∀ vs H Q E, sp vs H Q E → vs.length = ps.length
  run : ∀ (A : Around) (outer : List Env) (s : Shared) (H : Hp) (args : Args) (us : List Value) (vs : List V) (Q : VK) (E : XK), Room k A → A.guards = some [] → Env0 P w K mg base A outer s H →
    BindsTo s fd args (ps.zip us) → Vals vs us → sp vs H Q E → codeAny (model P w) A (.call (.ref f) args) (CR (L2.CX P w) outer P w H s Q E) s
theorem FnG.mono {P : Program} {w : World} {K : PySem.W.Frag} {mg : Str → Option Value} {base : Heap} {j k : Nat} {f : Addr} {fd : FuncData} {ps : List Str} {sp : Sp} (F : FnG P w K mg base j f fd ps sp) (h : j ≤ k) : FnG P w K mg base k f fd ps sp :=
  ⟨F.len, fun A outer s H args us vs Q E hr => F.run A outer s H args us vs Q E (hr.mono h)⟩
section
variable {P : Program} {w : World} {K : PySem.W.Frag} {mg : Str → Option Value} {base : Heap}
theorem fnG_of {x qual : Str} {params : Arguments} {body : List Stmt} {scope : Scope} {dvs : List V} {kws : List (Str × V)} {f : Addr} {fd : FuncData} {N ps : List Str} {k : Nat} {sp : Sp} (FD : FunD K x qual params body scope dvs kws f fd) (S : FnScope N ps scope)
    (len : ∀ vs H Q E, sp vs H Q E → vs.length = ps.length)
    (hb : ∀ (cdv : Value) (A : Around) (outer : List Env) (s : Shared) (H : Hp) (vs : List V) (Q : VK) (E : XK), Room k (A.deeper (PyProof.Rows.envOfC qual scope s.heap.objs.size f cdv)) → A.guards = some [] → sp vs H Q E →
      ∃ t, PSs (cxOf (L2.CX P w) P w K mg base N qual scope f cdv A outer s H E) body t ∧ t { nx := fun _ H' => Q .non H', rt := Q } (L2.start N vs) H) : FnG P w K mg base (k + 1) f fd ps sp := by
  obtain ⟨oc, od, dV, kV, doc, pm, an, cdv, ct, osl, rfl, lk, hcd, _, _⟩ := FD.ex
  refine ⟨len, ?_⟩
  intro A outer s H args us vs Q E room guards e0 binds rel prom
  have same : ∀ b o, base.get? b = some o → s.heap.get? b = some o := fun b o e => (e0.bs b o e).1
  have KX := e0.mod.kin.keeps same
  refine codeAny_call_function room.depth (KX _ _ lk) rfl S.co S.gen rfl (PySem.W.codeRec_of KX hcd) (binds _ _ _ _ ?_)
  have kinds : ∀ y ∈ ps.zip us, scope.names.lookup y.1 = some .local ∨ (scope.names.lookup y.1 = some .cell ∧ ((cellsFrom (s.heap.objs.size + 1) scope.names []).lookup y.1).isSome = true) := by
    rintro ⟨n, v⟩ hy
    exact (S.par n (List.of_mem_zip hy).1).imp id fun q => ⟨q, PySem.W.cellsFrom_some _ _ _ (.inl q)⟩
  refine wpAny_newFunctionEnv_cells S.kind kinds fun env he s1 x => ?_
  subst he
  refine ⟨(e0.mod.nolimit.keeps same).keeps x.toInCall.keep, codeAny_func ?_⟩
  obtain ⟨t, ht, hq⟩ := hb cdv A outer s H vs Q E (room.deeper _) guards prom
  have I := inv_start (CX := L2.CX P w) (E := E) (cd := cdv) S room.hd e0 (len _ _ _ _ prom) rel x
  refine wpAny_mono (ht.run [] s1 (L2.start N vs) H _ I hq) (fun fl s' hs => ?_) fun e s' hs => hs
  cases fl with
  | ret u =>
    obtain ⟨v, σ', H', J, rv, q⟩ := hs
    exact ⟨v, H', J.os, J.bare, J.base, J.hok, rv, q⟩
  | next =>
    obtain ⟨σ', H', J, q⟩ := hs
    exact ⟨V.non, H', J.os, J.bare, J.base, J.hok, rfl, q⟩
  | brk => exact hs.elim fun _ z => z.elim fun _ z => z.2.elim
  | cont => exact hs.elim fun _ z => z.elim fun _ z => z.2.elim
end
abbrev DX := Value → Option Addr → MH → Prop
abbrev DWX := Value → Option Addr → Sl → MH → Prop
abbrev DSp := List D → MH → DQ → DX → Prop
def ContX (K : PySem.W.Frag) (R F : Hp) (Ed : DX) (E : XK) : Prop := ∀ F' H' M' cls d, Ex F F' → HM K R F' H' M' → Ed cls d M' → E cls d H'
def upSp (K : PySem.W.Frag) (sp : DSp) : Sp := fun vs H Q E => ∃ R F ds M Qd Ed, HM K R F H M ∧ RepL K F ds vs ∧ sp ds M Qd Ed ∧ Cont K R F Qd Q ∧ ContX K R F Ed E
def upW (K : PySem.W.Frag) (R F0 : Hp) (W : DWX) : WX := fun cls d σ H => ∃ F ds M, At K R F0 F H σ ds M ∧ W cls d ds M
abbrev DTakes (R F0 : Hp) (X : Cx) (W : DWX) : Prop := Takes X (upW X.K R F0 W)
abbrev W0 : DWX := fun _ _ _ _ => False
theorem takes_no {X : Cx} {R F0 : Hp} : DTakes R F0 X W0 := fun u s' x => by
  obtain ⟨_, _, _, _, _, _, _, _, _, _, _, _, _, _, _, _, _, _, _, _, z⟩ := x
  exact z.elim
abbrev E0' : DX := fun _ _ _ => False
def dstart (N : List Str) (ds : List D) : Sl := ds.map some ++ List.replicate (N.length - ds.length) none
theorem rep_start {K : PySem.W.Frag} {F : Hp} {N : List Str} {ds : List D} {vs : List V} (r : RepL K F ds vs) : RepS K F (dstart N ds) (L2.start N vs) := by
  unfold dstart L2.start
  rw [r.length]
  exact r.somes.append (.nones _)
section
variable {P : Program} {w : World} {K : PySem.W.Frag} {mg : Str → Option Value} {base : Heap}
theorem fnD_of {x qual : Str} {params : Arguments} {body : List Stmt} {scope : Scope} {dvs : List V} {kws : List (Str × V)} {f : Addr} {fd : FuncData} {N ps : List Str} {k : Nat} {sp : DSp} (FD : FunD K x qual params body scope dvs kws f fd) (S : FnScope N ps scope)
    (len : ∀ ds M Q E, sp ds M Q E → ds.length = ps.length)
    (hb : ∀ (cdv : Value) (A : Around) (outer : List Env) (s : Shared) (H : Hp) (E0 : XK) (R F : Hp) (ds : List D) (M : MH) (Q : DQ) (E : DX),
      Room k (cxOf (L2.CX P w) P w K mg base N qual scope f cdv A outer s H E0).A → (cxOf (L2.CX P w) P w K mg base N qual scope f cdv A outer s H E0).A.guards = some [] → DTakes R F (cxOf (L2.CX P w) P w K mg base N qual scope f cdv A outer s H E0) (fun cls d _ M => E cls d M) → sp ds M Q E →
      ∃ t, PDSs R F (cxOf (L2.CX P w) P w K mg base N qual scope f cdv A outer s H E0) body t ∧ t { nx := fun _ M' => Q .non M', rt := Q } (dstart N ds) M) : FnG P w K mg base (k + 1) f fd ps (upSp K sp) := by
  refine fnG_of FD S (fun vs H Q E h => ?_) fun cdv A outer s H vs Q E room guards h => ?_
  · obtain ⟨R, F, ds, M, Qd, Ed, _, r, h, _⟩ := h
    exact r.length.symm.trans (len _ _ _ _ h)
  · obtain ⟨R, F, ds, M, Qd, Ed, m, r, h, c, cx⟩ := h
    have tk0 : Takes (cxOf (L2.CX P w) P w K mg base N qual scope f cdv A outer s H E) (fun cls d _ H => E cls d H) := takes_of rfl rfl rfl rfl
    have tk := Takes.imp tk0 (W' := upW K R F (fun cls d _ M => Ed cls d M)) (fun cls d σ H ⟨F', ds', M', a, z⟩ => cx F' H M' cls d a.ex a.hm z)
    obtain ⟨t, ht, hq⟩ := hb cdv A outer s H E R F ds M Qd Ed room guards tk h
    refine ⟨_, ht, F, _, M, _, ⟨Ex.refl _, m, rep_start r⟩, hq, ⟨?_, c, fun _ _ _ _ _ _ _ _ z => z, fun _ _ _ _ _ _ _ _ z => z⟩⟩
    exact fun F' H' M' ds' σ' e m' _ q => c F' H' M' .non .non e m' .non q
end
section
variable {X : Cx} {R F0 : Hp} {k : Nat} {f C : Addr} {fd : FuncData} {ps : List Str} {sp : DSp} {W : DWX} {x m : Str} {p pos apos : Pos} {e o : Expr} {es : List Expr}
theorem at_call {pins : List (Addr × Obj)} {σ : St} {H : Hp} {s : Shared} {Q : VK} {Wv : WX} {A : Around} {c : Code} (tk : Takes X Wv) (I : Inv X pins σ H s) (h : codeAny (model X.prog X.w) A c (CR (L2.CX X.prog X.w) X.stack X.prog X.w H s Q (fun cls d H' => Wv cls d σ H')) s) :
    codeAny (model X.prog X.w) A c (fun r s' => match r with | .ok (.ret u) => EP X pins σ Q u s' | .ok _ => False | .error e => X.xe e s') s := by
  refine codeAny_mono h fun r s' hq => ?_
  cases r with
  | error e => exact tk e s' (XE.of_call I (fun _ _ _ z => z) hq)
  | ok fl =>
    cases fl with
    | ret u => exact I.after hq
    | next => exact False.elim hq
    | brk => exact False.elim hq
    | cont => exact False.elim hq
theorem sp_up {σ : St} {ds : Sl} {F1 F H : Hp} {M : MH} {args : List D} {vs : List V} {Qd : DQ} {Q : VK} (a : At X.K R F0 F H σ ds M) (r : RepL X.K F args vs) (h : sp args M Qd fun cls d M2 => W cls d ds M2) (c : Cont X.K R F Qd Q) :
    upSp X.K sp vs H Q (fun cls d H' => upW X.K R F0 W cls d σ H') :=
  ⟨R, F, args, M, Qd, _, a.hm, r, h, c, fun F' H' M' cls d e m z => ⟨F', ds, M', a.go e m, z⟩⟩
def dCall (sp : DSp) (dvs : List D) (W : DWX) (t : DA) : DE := fun ds M Q => t ds M fun xs M1 => sp (xs ++ dvs) M1 Q fun cls d M2 => W cls d ds M2
def Dfl (K : PySem.W.Frag) (dvs : List D) (us : List Value) : Prop := ∃ vs, Vals vs us ∧ ∀ F, RepL K F dvs vs
theorem Dfl.nil {K : PySem.W.Frag} : Dfl K [] [] := ⟨[], .nil, fun _ => .nil⟩
theorem pd_call {t : DA} {dvs : List D} {us : List Value} (G : FnG X.prog X.w X.K X.mg X.base k f fd ps (upSp X.K sp)) (hr : Room k X.A) (hG : X.A.guards = some []) (hg : Gl X x) (hm : X.mg x = some (.ref f)) (hk : PySem.W.keepIn X.K (.ref f) = true) (hb : Binds X.K fd ps us) (hd : Dfl X.K dvs us)
    (tk : DTakes R F0 X W) (ha : PDA R F0 X (e :: es) t) (hdb : (x == ("__debug__" : Str)) = false := by decide) (he : starEach (e :: es) X.env = (false, eval e X.env) :: starEach es X.env := by rfl) (hpl : (backTo pos (starEach es X.env)).any (·.1) = false := by rfl) :
    PDE R F0 X (.Call (.Name x p) (e :: es) [] pos) (dCall sp dvs W t) := by
  refine ⟨fun pins s σ H Q I h => ?_⟩
  obtain ⟨F, ds, M, Qd, a, h, c⟩ := h
  obtain ⟨dv, rd, rp⟩ := hd
  refine wpAny_Call_Name_kw (ld_glob I hg hm ?_ hdb)
  refine PySem.W.callWith_K (h₀ := X.base) I.ok.mod.kin hk (thn (ha.run pos pins s σ H (fun vs H1 => upSp X.K sp (vs ++ dv) H1 Q (fun cls d H' => upW X.K R F0 W cls d σ H')) I ⟨F, ds, M, _, a, h, fun F1 H1 M1 xs vs e1 m1 r1 q1 => ?_⟩) ?_) he hpl
  · exact sp_up (F1 := F1) (a.go e1 m1) (r1.append (rp F1)) q1 (c.mono e1)
  · rintro ws s1 ⟨vs, H1, I1, r, q⟩
    refine ⟨I1.kIn, wpAny_call (at_call tk I1 ?_)⟩
    have r2 : Vals (vs ++ dv) (ws ++ us) := r.append rd
    have hl : (ws ++ us).length = ps.length := by rw [← r2.length]; exact G.len _ _ _ _ q
    exact G.run X.A X.stack s1 H1 ⟨ws, []⟩ (ws ++ us) (vs ++ dv) Q _ hr hG I1.env0 (hb s1 ws I1.kIn hl) r2 q
theorem pd_call0 {dvs : List D} {us : List Value} (G : FnG X.prog X.w X.K X.mg X.base k f fd ps (upSp X.K sp)) (hr : Room k X.A) (hG : X.A.guards = some []) (hg : Gl X x) (hm : X.mg x = some (.ref f)) (hk : PySem.W.keepIn X.K (.ref f) = true) (hb : Binds X.K fd ps us) (hd : Dfl X.K dvs us)
    (tk : DTakes R F0 X W) (hdb : (x == ("__debug__" : Str)) = false := by decide) : PDE R F0 X (.Call (.Name x p) [] [] pos) (dCall sp dvs W dNil) := by
  refine ⟨fun pins s σ H Q I h => ?_⟩
  obtain ⟨F, ds, M, Qd, a, h, c⟩ := h
  obtain ⟨dv, rd, rp⟩ := hd
  have q := sp_up (F1 := F) a (rp F) h c
  refine wpAny_Call_Name_kw (ld_glob I hg hm ?_ hdb)
  refine PySem.W.callWith_K0 I.kIn hk (wpAny_call (at_call tk I ?_))
  have hl : ([] ++ us).length = ps.length := by rw [List.nil_append, ← rd.length]; exact G.len _ _ _ _ q
  exact G.run X.A X.stack s H ⟨[], []⟩ us dv Q _ hr hG I.env0 (hb s [] I.kIn hl) rd q
structure KB (K : PySem.W.Frag) (fd : FuncData) (ps : List Str) (n : Nat) (ks : List Str) (gD : List D → List D → List D) : Prop where
  ex : ∃ (g : List Value → List Value → List Value) (gV : List V → List V → List V), KBn K fd ps n ks g gV ∧ ∀ F ds vs es ws, RepL K F ds vs → RepL K F es ws → RepL K F (gD ds es) (gV vs ws)
def dCallK (n m : Nat) (sp : DSp) (gD : List D → List D → List D) (W : DWX) (t tk : DA) : DE := fun ds M Q => t ds M fun xs M1 => tk ds M1 fun ys M2 => (xs.length = n ∧ ys.length = m) ∧ sp (gD xs ys) M2 Q fun cls d M3 => W cls d ds M3
abbrev PDK (R F0 : Hp) (X : Cx) (kws : List Keyword) (t : DA) : Prop := PK X kws (upA X.K R F0 t)
theorem PK.imp {kws : List Keyword} {t t' : TA} (h : PK X kws t) (k : ∀ σ H Q, t' σ H Q → t σ H Q) : PK X kws t' := ⟨fun pos pins s σ H Q I q => h.run pos pins s σ H Q I (k σ H Q q)⟩
theorem pdk_nil : PDK R F0 X [] dNil := by
  refine PK.imp pk_nil ?_
  rintro σ H Q ⟨F, ds, M, Qd, a, h, c⟩
  exact c _ _ _ _ _ (Ex.refl _) a.hm .nil h
theorem pdk_cons {te : DE} {t : DA} {nm : Option Str} {kpos : Pos} {kws : List Keyword} (ha : PDE R F0 X e te) (hr : PDK R F0 X kws t) : PDK R F0 X (⟨nm, e, kpos⟩ :: kws) (dCons te t) := by
  refine PK.imp (pk_cons ha hr) ?_
  rintro σ H Q ⟨F, ds, M, Qd, a, h, c⟩
  refine ⟨F, ds, M, _, a, h, fun F1 H1 M1 x vx e1 m1 r1 q1 => ?_⟩
  refine ⟨F1, ds, M1, _, a.go e1 m1, q1, fun F2 H2 M2 xs vs e2 m2 r2 q2 => ?_⟩
  exact c _ _ _ _ _ (e1.trans e2) m2 (.cons (r1.mono e2) r2) q2
theorem pd_callK {t tk : DA} {n : Nat} {ks : List Str} {gD : List D → List D → List D} {kws : List Keyword} (G : FnG X.prog X.w X.K X.mg X.base k f fd ps (upSp X.K sp)) (hr : Room k X.A) (hG : X.A.guards = some []) (hg : Gl X x) (hm : X.mg x = some (.ref f)) (hk : PySem.W.keepIn X.K (.ref f) = true)
    (hb : KB X.K fd ps n ks gD) (tx : DTakes R F0 X W) (ha : PDA R F0 X (e :: es) t) (hkw : PDK R F0 X kws tk) (hall : (backToKw pos (keywordEach kws X.env)).all (·.1.isSome) = true := by rfl) (hks : (backToKw pos (keywordEach kws X.env)).filterMap (·.1) = ks := by rfl)
    (hdb : (x == ("__debug__" : Str)) = false := by decide) (he : starEach (e :: es) X.env = (false, eval e X.env) :: starEach es X.env := by rfl)
    (hpl : ((backTo pos (starEach (e :: es) X.env)).any (·.1) || (backToKw pos (keywordEach kws X.env)).any (·.1.isNone)) = false := by rfl) :
    PDE R F0 X (.Call (.Name x p) (e :: es) kws pos) (dCallK n ks.length sp gD W t tk) := by
  obtain ⟨g, gV, kb, rel⟩ := hb.ex
  refine ⟨fun pins s σ H Q I h => ?_⟩
  obtain ⟨F, ds, M, Qd, a, h, c⟩ := h
  refine wpAny_Call_Name_kw (ld_glob I hg hm ?_ hdb)
  refine PySem.W.callWith_KW (h₀ := X.base) I.ok.mod.kin hk hall (thn (ha.run pos pins s σ H (fun vs H1 => upA X.K R F0 tk σ H1 fun zs H2 => (vs.length = n ∧ zs.length = ks.length) ∧ upSp X.K sp (gV vs zs) H2 Q (fun cls d H' => upW X.K R F0 W cls d σ H')) I ⟨F, ds, M, _, a, h, fun F1 H1 M1 xs vs e1 m1 r1 q1 => ?_⟩) ?_) hpl he
  · refine ⟨F1, ds, M1, _, a.go e1 m1, q1, fun F2 H2 M2 ys zs e2 m2 r2 q2 => ⟨⟨r1.length.symm.trans q2.1.1, r2.length.symm.trans q2.1.2⟩, ?_⟩⟩
    exact sp_up (F1 := F2) (a.go (e1.trans e2) m2) (rel F2 _ _ _ _ (r1.mono e2) r2) q2.2 (c.mono (e1.trans e2))
  · rintro ws s1 ⟨vs, H1, I1, r, q⟩
    refine thn (hkw.run pos pins s1 σ H1 _ I1 q) ?_
    rintro us s2 ⟨zs, H2, I2, rz, ⟨l1, l2⟩, q2⟩
    rw [hks]
    exact ⟨I2.kIn, wpAny_call (at_call tx I2 (G.run X.A X.stack s2 H2 ⟨ws, ks.zip us⟩ (g ws us) (gV vs zs) Q _ hr hG I2.env0 (kb.to s2 ws us I2.kIn (r.length.symm.trans l1) (rz.length.symm.trans l2)) (kb.rel r rz) q2))⟩
end
end Dv
namespace Dv
open PySem PySem.Spec L2
def keyP : Key → PyData
  | .inl i => .int i
  | .inr x => .str x
mutual
def pOf : D → PyData
  | .non => .none
  | .bl b => .bool b
  | .int i => .int i
  | .str x => .str x
  | .tup xs => .tuple (pOfL xs)
  | .lst xs => .list (pOfL xs)
  | .dct ks => .dict (pOfK ks)
  | .ty _ | .ref _ | .sl _ _ | .ins _ _ | .scr _ => .none
def pOfL : List D → List PyData
  | [] => []
  | x :: xs => pOf x :: pOfL xs
def pOfK : List (Key × D) → List (PyData × PyData)
  | [] => []
  | (k, x) :: xs => (keyP k, pOf x) :: pOfK xs
end
mutual
def plain : D → Bool
  | .non | .bl _ | .int _ | .str _ => true
  | .tup xs | .lst xs => plainL xs
  | .dct ks => plainK ks
  | .ty _ | .ref _ | .sl _ _ | .ins _ _ | .scr _ => false
def plainL : List D → Bool
  | [] => true
  | x :: xs => plain x && plainL xs
def plainK : List (Key × D) → Bool
  | [] => true
  | (_, x) :: xs => plain x && plainK xs
end
mutual
inductive Rds (h : Heap) : Value → PyData → Prop
  | non : Rds h .none .none
  | bl (b : Bool) : Rds h (.bool b) (.bool b)
  | int (i : Int) (t : Tok) : Rds h (.int i t) (.int i)
  | str (x : Str) (t : Tok) : Rds h (.str x t) (.str x)
  | lst {a : Addr} {o : Obj} {us : Array Value} {n : Nat} {ps : List PyData} : h.get? a = some o → o.cls = .type "list" → o.data = .seq us n → RdsL h us.toList ps → Rds h (.ref a) (.list ps)
  | tup {a : Addr} {o : Obj} {us : Array Value} {n : Nat} {ps : List PyData} : h.get? a = some o → o.cls = .type "tuple" → o.data = .seq us n → RdsL h us.toList ps → Rds h (.ref a) (.tuple ps)
  | dct {a : Addr} {o : Obj} {es : Array DictEntry} {n : Nat} {ps : List (PyData × PyData)} : h.get? a = some o → o.cls = .type "dict" → o.data = .dict es n → (a == sysModules) = false →
      RdsL h (es.toList.map (·.key)) (ps.map (·.1)) → RdsL h (es.toList.map (·.val)) (ps.map (·.2)) → Rds h (.ref a) (.dict ps)
inductive RdsL (h : Heap) : List Value → List PyData → Prop
  | nil : RdsL h [] []
  | cons {u : Value} {us : List Value} {p : PyData} {ps : List PyData} : Rds h u p → RdsL h us ps → RdsL h (u :: us) (p :: ps)
end
mutual
theorem Rds.to {h : Heap} : ∀ {u : Value} {p : PyData}, Rds h u p → ∃ as, Reads h u p as
  | _, _, .non => ⟨_, .none⟩
  | _, _, .bl b => ⟨_, .bool b⟩
  | _, _, .int i t => ⟨_, .int i t⟩
  | _, _, .str x t => ⟨_, .str x t⟩
  | _, _, .lst e1 e2 e3 r => let ⟨_, q⟩ := RdsL.to r; ⟨_, .list e1 e2 e3 q⟩
  | _, _, .tup e1 e2 e3 r => let ⟨_, q⟩ := RdsL.to r; ⟨_, .tuple e1 e2 e3 q⟩
  | _, _, .dct e1 e2 e3 _ r1 r2 => let ⟨_, q1⟩ := RdsL.to r1; let ⟨_, q2⟩ := RdsL.to r2; ⟨_, .dict e1 e2 e3 q1 q2⟩
theorem RdsL.to {h : Heap} : ∀ {us : List Value} {ps : List PyData}, RdsL h us ps → ∃ as, ReadsAll h us ps as
  | _, _, .nil => ⟨_, .nil⟩
  | _, _, .cons r rs => let ⟨_, q⟩ := Rds.to r; let ⟨_, qs⟩ := RdsL.to rs; ⟨_, .cons q qs⟩
end
section
variable {prog : Program} {w : World} {h : Heap}
mutual
theorem Rds.shows : ∀ {u : Value} {p : PyData}, Rds h u p → p.showable = true → p.shown.length ≤ sizeLine → ∃ bs, ReadAtMost h p.depth bs ∧ ReprK prog w bs h p.depth u p.shown
  | _, _, .non, _, _ => ⟨[], (fun _ z => nomatch z), by simp only [PyData.shown]; exact .of_is ReprIs.none _ _ _⟩
  | _, _, .bl b, _, _ => ⟨[], (fun _ z => nomatch z), by simp only [PyData.shown]; exact .of_is (ReprIs.bool b) _ _ _⟩
  | _, _, .int i t, hs, _ => ⟨[], (fun _ z => nomatch z), by simp only [PyData.shown]; exact .of_is (ReprIs.int t (by simpa [PyData.showable] using hs)) _ _ _⟩
  | _, _, .str x t, _, hz => ⟨[], (fun _ z => nomatch z), by simp only [PyData.shown]; exact .of_is (ReprIs.str x t (by simpa only [PyData.shown] using hz)) _ _ _⟩
  | _, _, .lst (a := a) (us := us) (ps := ps) e1 e2 e3 r, hs, hz => by
    have z1 : (listText (PyData.shownAll ps)).length ≤ sizeLine := by simpa only [PyData.shown] using hz
    obtain ⟨bs, hb, hk⟩ := RdsL.shows r (by simpa [PyData.showable] using hs) (fun t m => Nat.le_trans (listText_mem_le m) z1)
    obtain ⟨as, q⟩ := Rds.to (.lst e1 e2 e3 r)
    have off : a ∉ bs := not_mem_of_deeper q (by simp only [PyData.depth]; omega) hb
    refine ⟨a :: bs, ReadAtMost.cons q (by simp only [PyData.depth]; omega) hb, ?_⟩
    simp only [PyData.depth, PyData.shown]
    obtain ⟨l⟩ := us
    cases l with
    | nil =>
      have r0 : RdsL h [] ps := r
      cases r0
      simp only [PyData.shownAll, listText_nil]
      exact ReprK.listEmpty e1 e2 e3
    | cons x l => exact ReprK.list e1 e2 e3 off (by simpa using hk.length_eq) (fun i y e => hk.item i y (by simpa using e))
  | _, _, .tup (a := a) (ps := ps) e1 e2 e3 r, hs, hz => by
    have z1 : (tupleText (PyData.shownAll ps)).length ≤ sizeLine := by simpa only [PyData.shown] using hz
    obtain ⟨bs, hb, hk⟩ := RdsL.shows r (by simpa [PyData.showable] using hs) (fun t m => Nat.le_trans (tupleText_mem_le m) z1)
    obtain ⟨as, q⟩ := Rds.to (.tup e1 e2 e3 r)
    have off : a ∉ bs := not_mem_of_deeper q (by simp only [PyData.depth]; omega) hb
    refine ⟨a :: bs, ReadAtMost.cons q (by simp only [PyData.depth]; omega) hb, ?_⟩
    simp only [PyData.depth, PyData.shown]
    exact ReprK.tuple e1 e2 e3 off hk
  | _, _, .dct (a := a) (es := es) (ps := ps) e1 e2 e3 ns r1 r2, hs, hz => by
    have z1 : (dictText (PyData.shownKv ps)).length ≤ sizeLine := by simpa only [PyData.shown] using hz
    obtain ⟨hs1, hs2⟩ := PyData.showableKv_split ps (by simpa [PyData.showable] using hs)
    obtain ⟨b1, hb1, k1⟩ := RdsL.shows r1 hs1 (fun t m => let ⟨p, hp, hl⟩ := PyData.shownKv_key_le ps t m; Nat.le_trans hl (Nat.le_trans (dictText_mem_le hp) z1))
    obtain ⟨b2, hb2, k2⟩ := RdsL.shows r2 hs2 (fun t m => let ⟨p, hp, hl⟩ := PyData.shownKv_val_le ps t m; Nat.le_trans hl (Nat.le_trans (dictText_mem_le hp) z1))
    obtain ⟨as, q⟩ := Rds.to (.dct e1 e2 e3 ns r1 r2)
    have both : ReadAtMost h (PyData.depthKv ps) (b1 ++ b2) := (hb1.mono (PyData.depthAll_keys_le ps)).append (hb2.mono (PyData.depthAll_vals_le ps))
    have off : a ∉ b1 ++ b2 := not_mem_of_deeper q (by simp only [PyData.depth]; omega) both
    refine ⟨a :: (b1 ++ b2), ReadAtMost.cons q (by simp only [PyData.depth]; omega) both, ?_⟩
    simp only [PyData.depth, PyData.shown, PyData.shownKv_eq]
    exact ReprK.dict e1 e2 e3 ns off (ReprEntriesK.of_two es.toList _ _ (k1.more_le (fun b z => List.mem_append_left _ z) (PyData.depthAll_keys_le ps)) (k2.more_le (fun b z => List.mem_append_right _ z) (PyData.depthAll_vals_le ps)))
theorem RdsL.shows : ∀ {us : List Value} {ps : List PyData}, RdsL h us ps → PyData.showableAll ps = true → (∀ t ∈ PyData.shownAll ps, t.length ≤ sizeLine) → ∃ bs, ReadAtMost h (PyData.depthAll ps) bs ∧ ReprAllK prog w bs h (PyData.depthAll ps) us (PyData.shownAll ps)
  | _, _, .nil, _, _ => ⟨[], (fun _ z => nomatch z), by simp only [PyData.shownAll]; exact .nil⟩
  | _, _, .cons (p := p) (ps := ps) r rs, hs, hz => by
    have s2 : p.showable = true ∧ PyData.showableAll ps = true := by simpa [PyData.showableAll] using hs
    obtain ⟨b1, hb1, k1⟩ := Rds.shows r s2.1 (hz _ (by simp only [PyData.shownAll]; exact List.mem_cons_self ..))
    obtain ⟨b2, hb2, k2⟩ := RdsL.shows rs s2.2 (fun t m => hz t (by simp only [PyData.shownAll]; exact List.mem_cons_of_mem _ m))
    refine ⟨b1 ++ b2, ?_, ?_⟩
    · exact (hb1.mono (by simp only [PyData.depthAll]; exact Nat.le_max_left _ _)).append (hb2.mono (by simp only [PyData.depthAll]; exact Nat.le_max_right _ _))
    · simp only [PyData.depthAll, PyData.shownAll]
      exact .cons ((k1.more fun b z => List.mem_append_left _ z).level_le (Nat.le_max_left _ _)) (k2.more_le (fun b z => List.mem_append_right _ z) (Nat.le_max_right _ _))
end
theorem Rds.call {u : Value} {p : PyData} {A : Around} {E : Value → Shared → Prop} {s : Shared} {Q : Value → Shared → Prop} (r : Rds s.heap u p) (hs : p.showable = true) (hz : p.shown.length ≤ sizeLine) (hg : A.guards = some []) (hu : A.units + (p.depth + 2) < cLine)
    (hQ : ∀ h' u tk, (∀ b o, s.heap.get? b = some o → h'.get? b = some o) → Q (.str p.shown u) { s with heap := h', toks := tk }) : wpAny (model prog w) A (call (.builtin "repr") [u]) Q E s := by
  cases r with
  | non => simp only [PyData.shown] at hQ; exact P.repr_of_none (hQ s.heap _ _ fun _ _ e => e)
  | bl b => simp only [PyData.shown] at hQ; exact P.repr_of_bool (hQ s.heap _ _ fun _ _ e => e)
  | int i t => simp only [PyData.shown] at hQ; exact P.repr_of_int (by simpa [PyData.showable] using hs) (hQ s.heap _ _ fun _ _ e => e)
  | str x t => simp only [PyData.shown] at hQ hz; exact P.repr_of_str (hQ s.heap _ _ fun _ _ e => e) hz
  | @lst a o us n ps e1 e2 e3 r =>
    have z1 : (listText (PyData.shownAll ps)).length ≤ sizeLine := by simpa only [PyData.shown] using hz
    obtain ⟨bs, hb, hk⟩ := RdsL.shows (prog := prog) (w := w) r (by simpa [PyData.showable] using hs) (fun t m => Nat.le_trans (listText_mem_le m) z1)
    obtain ⟨as, q⟩ := Rds.to (.lst e1 e2 e3 r)
    have off : a ∉ bs := not_mem_of_deeper q (by simp only [PyData.depth]; omega) hb
    simp only [PyData.depth] at hu
    simp only [PyData.shown] at hQ
    refine call_repr_slot (by omega) ⟨o, e1, e2⟩ F.slot_list_repr.toG ?_
    obtain ⟨l⟩ := us
    cases l with
    | nil =>
      have r0 : RdsL s.heap [] ps := r
      cases r0
      simp only [PyData.shownAll, listText_nil] at hQ
      exact call_list_repr_empty ⟨o, e1, e2⟩ e1 e3 ⟨_, _, rfl, hQ s.heap _ _ fun _ _ e => e⟩
    | cons x l =>
      exact call_list_reprK e1 e2 e3 off (by simpa using hk.length_eq) (fun i y e => hk.item i y (by simpa using e)) (g := []) hg (fun b _ => Clear.nil b) (by show A.units + 1 + _ < cLine; omega) (fun _ _ e => e) (fun h' u tk hk => ⟨_, _, rfl, hQ h' u tk hk⟩) z1
  | @tup a o us n ps e1 e2 e3 r =>
    have z1 : (tupleText (PyData.shownAll ps)).length ≤ sizeLine := by simpa only [PyData.shown] using hz
    obtain ⟨bs, hb, hk⟩ := RdsL.shows (prog := prog) (w := w) r (by simpa [PyData.showable] using hs) (fun t m => Nat.le_trans (tupleText_mem_le m) z1)
    obtain ⟨as, q⟩ := Rds.to (.tup e1 e2 e3 r)
    have off : a ∉ bs := not_mem_of_deeper q (by simp only [PyData.depth]; omega) hb
    simp only [PyData.depth] at hu
    simp only [PyData.shown] at hQ
    refine call_repr_slot (by omega) ⟨o, e1, e2⟩ F.slot_tuple_repr ?_
    exact call_tuple_reprK e1 e2 e3 off hk (g := []) hg (fun b _ => Clear.nil b) (by show A.units + 1 + _ < cLine; omega) (fun _ _ e => e) (fun h' u tk hk => ⟨_, _, rfl, hQ h' u tk hk⟩) z1
  | @dct a o es n ps e1 e2 e3 ns r1 r2 =>
    have z1 : (dictText (PyData.shownKv ps)).length ≤ sizeLine := by simpa only [PyData.shown] using hz
    obtain ⟨hs1, hs2⟩ := PyData.showableKv_split ps (by simpa [PyData.showable] using hs)
    obtain ⟨b1, hb1, k1⟩ := RdsL.shows (prog := prog) (w := w) r1 hs1 (fun t m => let ⟨p, hp, hl⟩ := PyData.shownKv_key_le ps t m; Nat.le_trans hl (Nat.le_trans (dictText_mem_le hp) z1))
    obtain ⟨b2, hb2, k2⟩ := RdsL.shows (prog := prog) (w := w) r2 hs2 (fun t m => let ⟨p, hp, hl⟩ := PyData.shownKv_val_le ps t m; Nat.le_trans hl (Nat.le_trans (dictText_mem_le hp) z1))
    obtain ⟨as, q⟩ := Rds.to (.dct e1 e2 e3 ns r1 r2)
    have both : ReadAtMost s.heap (PyData.depthKv ps) (b1 ++ b2) := (hb1.mono (PyData.depthAll_keys_le ps)).append (hb2.mono (PyData.depthAll_vals_le ps))
    have off : a ∉ b1 ++ b2 := not_mem_of_deeper q (by simp only [PyData.depth]; omega) both
    simp only [PyData.depth] at hu
    simp only [PyData.shown, PyData.shownKv_eq] at hQ
    refine call_repr_slot (by omega) ⟨o, e1, e2⟩ F.slot_dict_repr ?_
    exact call_dict_reprK e1 e2 e3 ns off (ReprEntriesK.of_two es.toList _ _ (k1.more_le (fun b z => List.mem_append_left _ z) (PyData.depthAll_keys_le ps)) (k2.more_le (fun b z => List.mem_append_right _ z) (PyData.depthAll_vals_le ps))) (g := []) hg (fun b _ => Clear.nil b) (by show A.units + 1 + _ < cLine; omega) (fun _ _ e => e) (fun h' u tk hk => ⟨_, _, rfl, hQ h' u tk hk⟩) (by rw [← PyData.shownKv_eq]; exact z1)
end
section
variable {X : Cx} {pins : List (Addr × Obj)} {σ : St} {H F : Hp} {s : Shared}
theorem rds_keys {w : World} {P : Program} {h : Heap} : ∀ {es : List DictEntry} {xs : List (Key × Value)} {ks : List (Key × D)} {kvs : List (Key × V)}, Pairs (mixKind P w) es xs → KV kvs xs → RepK X.K F ks kvs → RdsL h (es.map (·.key)) ((pOfK ks).map (·.1))
  | _, _, _, _, .nil, .nil, .nil => .nil
  | _, _, _, _, .cons e1 _ es, .cons r rs, .cons q qs => by
    obtain ⟨rk, _⟩ := r
    refine .cons ?_ (rds_keys es rs qs)
    simp only at rk
    rw [← rk] at e1
    rcases keyIs_shape e1 with ⟨i, t, e, e'⟩ | ⟨x, t, e, e'⟩
    · rw [e]; show Rds h (DictEntry.key _) _; rw [e']; exact .int i t
    · rw [e]; show Rds h (DictEntry.key _) _; rw [e']; exact .str x t
theorem entries_vals {w : World} {P : Program} : ∀ {es : List DictEntry} {xs : List (Key × Value)}, Pairs (mixKind P w) es xs → es.map (·.val) = xs.map (·.2)
  | _, _, .nil => rfl
  | _, _, .cons _ e r => by rw [List.map_cons, List.map_cons, e, entries_vals r]
mutual
theorem Rep.rds (I : Inv X pins σ H s) (ex : Ex F H) : ∀ {d : D} {v : V} {u : Value}, Rep X.K F d v → RelV v u → plain d = true → Rds s.heap u (pOf d)
  | _, _, _, .non, r, _ => by cases r; exact .non
  | _, _, _, .bl b, r, _ => by cases r; exact .bl b
  | _, _, _, .int i, r, _ => by obtain ⟨t, rfl⟩ := r; exact .int i t
  | _, _, _, .str x, r, _ => by obtain ⟨t, rfl⟩ := r; exact .str x t
  | _, _, _, .ty _, _, hp => nomatch hp
  | _, _, _, .ref _, _, hp => nomatch hp
  | _, _, _, .tup h rs, r, hp => by
    cases r
    obtain ⟨its, rv, ⟨o, ho, hc, n, hd⟩, _⟩ := I.tuple (ex.t h)
    exact .tup ho hc hd (RepL.rds I ex rs rv hp)
  | _, _, _, .lst h rs, r, hp => by
    cases r
    obtain ⟨_, its, n, rv, e⟩ := (show ObjOk X.prog X.w H s.heap _ (.lst _) from I.hok _ _ (ex _ _ h))
    exact .lst e rfl rfl (RepL.rds I ex rs rv hp)
  | _, _, _, .dct h rs, r, hp => by
    cases r
    obtain ⟨_, ns, xs, kv, o, es, ep, e1, e2, e3, _, pr, _⟩ := (show ObjOk X.prog X.w H s.heap _ (.dK _) from I.hok _ _ (ex _ _ h))
    refine .dct e1 e2.1 e3 ns (rds_keys pr kv rs) ?_
    rw [entries_vals pr]
    exact RepK.rds I ex rs kv hp
  | _, _, _, .sl _ _, _, hp => nomatch hp
  | _, _, _, .ins _ _, _, hp => nomatch hp
  | _, _, _, .scr _, _, hp => nomatch hp
theorem RepL.rds (I : Inv X pins σ H s) (ex : Ex F H) : ∀ {ds : List D} {vs : List V} {us : List Value}, RepL X.K F ds vs → Vals vs us → plainL ds = true → RdsL s.heap us (pOfL ds)
  | _, _, _, .nil, r, _ => by cases r; exact .nil
  | _, _, _, .cons h rs, .cons r rr, hp => by
    have hq := (Bool.and_eq_true _ _).mp hp
    exact .cons (Rep.rds I ex h r hq.1) (RepL.rds I ex rs rr hq.2)
theorem RepK.rds (I : Inv X pins σ H s) (ex : Ex F H) : ∀ {ds : List (Key × D)} {vs : List (Key × V)} {us : List (Key × Value)}, RepK X.K F ds vs → KV vs us → plainK ds = true → RdsL s.heap (us.map (·.2)) ((pOfK ds).map (·.2))
  | _, _, _, .nil, r, _ => by cases r; exact .nil
  | _, _, _, .cons h rs, .cons r rr, hp => by
    have hq := (Bool.and_eq_true _ _).mp hp
    exact .cons (Rep.rds I ex h r.2 hq.1) (RepK.rds I ex rs rr hq.2)
end
structure Sh (n k : Nat) (d : D) : Prop where
  pl : plain d = true
  sw : (pOf d).showable = true
  lv : (pOf d).leavesShort 64 = true
  dp : (pOf d).depth ≤ n
  wt : (pOf d).weight ≤ k
theorem Sh.mono {n m k l : Nat} {d : D} (h : Sh n k d) (a : n ≤ m) (b : k ≤ l) : Sh m l d := ⟨h.pl, h.sw, h.lv, Nat.le_trans h.dp a, Nat.le_trans h.wt b⟩
theorem Sh.fits {d : D} (h : Sh 60 60000 d) : (pOf d).shown.length ≤ sizeLine := by
  have e := PyData.shown_le 64 (by decide) _ h.lv
  have w := h.wt
  rw [sizeLine_eq]
  omega
abbrev DRC := List D → MH → DQ → Prop
def OpC (K : PySem.W.Frag) (r : DRC) (rv : List V → Hp → VK → Prop) : Prop := ∀ R F H M xs vs Qd Q, HM K R F H M → RepL K F xs vs → r xs M Qd → Cont K R F Qd Q → rv vs H Q
def CallD (R F0 : Hp) (X : Cx) (f : Value) (r : DRC) : Prop := CallR X f fun vs H Q => ∃ F ds M Qd, Ex F0 F ∧ HM X.K R F H M ∧ RepL X.K F ds vs ∧ r ds M Qd ∧ Cont X.K R F Qd Q
def dB1 (r : DRC) (t : DA) : DE := fun ds M Q => t ds M fun xs M1 => r xs M1 Q
def rRepr : DRC := fun xs M Q => match xs with
  | [d] => Sh 60 60000 d ∧ Q (.str (pOf d).shown) M
  | _ => False
theorem call_reprD {R F0 : Hp} (hg : X.A.guards = some []) (hu : X.A.units + 64 < cLine) : CallD R F0 X (.builtin "repr") rRepr := by
  intro pins s σ H xs us Q I r h
  obtain ⟨F, ds, M, Qd, e, m, rp, h, c⟩ := h
  unfold rRepr at h
  split at h
  · rename_i d
    obtain ⟨sh, q⟩ := h
    obtain ⟨v, rfl, rv⟩ := repl_one rp
    obtain ⟨u, rfl, ru⟩ := vals1 r
    refine Rds.call (rv.rds I m.ex ru sh.pl) sh.sw sh.fits hg (by have := sh.dp; omega) fun h' u tk hk => ?_
    exact ⟨.str _, H, I.kept hk, ⟨_, rfl⟩, c _ _ _ _ _ (Ex.refl _) m (.str _) q⟩
  · exact h.elim
end
end Dv
namespace Dv
open PySem PySem.Spec L2
theorem Cont.now {K : PySem.W.Frag} {R F H : Hp} {M : MH} {Qd : DQ} {Q : VK} {d : D} {v : V} (c : Cont K R F Qd Q) (m : HM K R F H M) (r : Rep K F d v) (h : Qd d M) : Q v H := c _ _ _ _ _ (Ex.refl _) m r h
theorem Cont.cold {K : PySem.W.Frag} {R F H : Hp} {M : MH} {Qd : DQ} {Q : VK} {d : D} {p : Addr} {u : HO} (c : Cont K R F Qd Q) (m : HM K R F H M) (n : H p = none) (r : Rep K (upd F p u) d (.ref p)) (h : Qd d M) : Q (.ref p) (upd H p u) := c _ _ _ _ _ (.cold m n) (m.cold n) r h
theorem HM.l {K : PySem.W.Frag} {R F H : Hp} {M : MH} {a : Addr} {vs : List V} (m : HM K R F H M) (h : F a = some (.lst vs)) : SqL K H a vs := .inl (.inl (m.ex _ _ h))
theorem HM.t {K : PySem.W.Frag} {R F H : Hp} {M : MH} {a : Addr} {vs : List V} (m : HM K R F H M) (h : SqT K F a vs) : SqT K H a vs := m.ex.t h
section
variable {X : Cx} {K : PySem.W.Frag}
def rAdd : DR2 := fun x y M Q => match x, y with
  | .int i, .int j => Q (.int (i + j)) M
  | .str a, .str b => a.length + b.length ≤ sizeLine ∧ Q (.str (a ++ b)) M
  | .lst xs, .lst ys => xs.length + ys.length ≤ sizeLine ∧ Q (.lst (xs ++ ys)) M
  | .tup xs, .tup ys => xs ≠ [] ∧ xs.length + ys.length ≤ sizeLine ∧ Q (.tup (xs ++ ys)) M
  | _, _ => False
def vAdd (K : PySem.W.Frag) : R2 := fun x y H Q => ((rI0 (fun i j => .int (i + j)) x y H Q ∨ (∃ i j, x = .str i ∧ y = .str j ∧ i.length + j.length ≤ sizeLine ∧ Q (.str (i ++ j)) H)) ∨ rCat x y H Q) ∨ rCatT K x y H Q
theorem op_addD : OpR X (binaryOp .Add) (vAdd X.K) := OpR.or (OpR.or (OpR.or op_add op_add_str) op_cat) op_catT
theorem o2_add : Op2 K rAdd (vAdd K) := by
  intro R F H M x y vx vy Qd Q m rx ry h c
  unfold rAdd at h
  split at h
  · cases rx; cases ry; exact .inl (.inl (.inl ⟨_, _, rfl, rfl, c.now m (.int _) h⟩))
  · cases rx; cases ry; exact .inl (.inl (.inr ⟨_, _, rfl, rfl, h.1, c.now m (.str _) h.2⟩))
  · cases rx with | lst hx rx => cases ry with | lst hy ry => exact .inl (.inr ⟨_, _, _, _, rfl, rfl, m.ex _ _ hx, m.ex _ _ hy, by rw [← rx.length, ← ry.length]; exact h.1, fun p n => c.cold m n (.lst upd_same ((rx.append ry).mono (.cold m n))) h.2⟩)
  · cases rx with | tup hx rx => cases ry with | tup hy ry =>
      refine .inr ⟨_, _, _, _, rfl, rfl, m.t hx, m.t hy, ?_, by rw [← rx.length, ← ry.length]; exact h.2.1, fun z => ?_, fun z p n => c.cold m n (.tup (.of upd_same) ((rx.append ry).mono (.cold m n))) h.2.2⟩
      · intro z
        subst z
        cases rx
        exact h.1 rfl
      · subst z
        cases ry
        have q := h.2.2
        rw [List.append_nil] at q
        exact c.now m (.tup hx rx) q
  · exact h.elim
def rInt2 (C : Int → Int → Prop) (g : Int → Int → D) : DR2 := fun x y M Q => match x, y with
  | .int i, .int j => C i j ∧ Q (g i j) M
  | _, _ => False
def rInt0 (g : Int → Int → D) : DR2 := fun x y M Q => match x, y with
  | .int i, .int j => Q (g i j) M
  | _, _ => False
theorem o2_int0 {g : Int → Int → D} {gv : Int → Int → V} (e : ∀ F i j, Rep K F (g i j) (gv i j)) : Op2 K (rInt0 g) (rI0 gv) := by
  intro R F H M x y vx vy Qd Q m rx ry h c
  unfold rInt0 at h
  split at h
  · cases rx; cases ry; exact ⟨_, _, rfl, rfl, c.now m (e _ _ _) h⟩
  · exact h.elim
theorem o2_int2 {C : Int → Int → Prop} {g : Int → Int → D} {gv : Int → Int → V} (e : ∀ F i j, Rep K F (g i j) (gv i j)) : Op2 K (rInt2 C g) (rI C gv) := by
  intro R F H M x y vx vy Qd Q m rx ry h c
  unfold rInt2 at h
  split at h
  · cases rx; cases ry; exact ⟨_, _, rfl, rfl, h.1, c.now m (e _ _ _) h.2⟩
  · exact h.elim
def rSub : DR2 := rInt0 fun i j => .int (i - j)
def CMulA (i j : Int) : Prop := CMul i j ∨ CMulX i j
def rMul : DR2 := rInt2 CMulA fun i j => .int (i * j)
theorem op_mulA : OpR X (binaryOp .Mult) (rI CMulA fun i j => .int (i * j)) := by
  intro pins s σ H x y v u Q I rx ry h
  obtain ⟨i, j, e1, e2, hc, q⟩ := h
  rcases hc with hc | hc
  · exact op_mul pins s σ H x y v u Q I rx ry ⟨i, j, e1, e2, hc, q⟩
  · exact op_mulX pins s σ H x y v u Q I rx ry ⟨i, j, e1, e2, hc, q⟩
def rFdv : DR2 := rInt2 CDivW fun i j => .int (i / j)
def rMod : DR2 := rInt2 (fun _ j => 0 < j) fun i j => .int (i % j)
def rPow : DR2 := rInt2 CPow fun i j => .int (i ^ j.toNat)
def rLt : DR2 := rInt0 fun i j => .bl (decide (i < j))
def rLe : DR2 := rInt0 fun i j => .bl (decide (i ≤ j))
def rGt : DR2 := rInt0 fun i j => .bl (decide (j < i))
def rGe : DR2 := rInt0 fun i j => .bl (decide (j ≤ i))
theorem o2_sub : Op2 K rSub (rI0 fun i j => .int (i - j)) := o2_int0 fun _ _ _ => .int _
theorem o2_mul : Op2 K rMul (rI CMulA fun i j => .int (i * j)) := o2_int2 fun _ _ _ => .int _
theorem o2_fdv : Op2 K rFdv (rI CDivW fun i j => .int (i / j)) := o2_int2 fun _ _ _ => .int _
theorem o2_mod : Op2 K rMod (rI (fun _ j => 0 < j) fun i j => .int (i % j)) := o2_int2 fun _ _ _ => .int _
theorem o2_pow : Op2 K rPow (rI CPow fun i j => .int (i ^ j.toNat)) := o2_int2 fun _ _ _ => .int _
theorem o2_lt : Op2 K rLt (rI0 fun i j => .bl (decide (i < j))) := o2_int0 fun _ _ _ => .bl _
theorem o2_le : Op2 K rLe (rI0 fun i j => .bl (decide (i ≤ j))) := o2_int0 fun _ _ _ => .bl _
theorem o2_gt : Op2 K rGt (rI0 fun i j => .bl (decide (j < i))) := o2_int0 fun _ _ _ => .bl _
theorem o2_ge : Op2 K rGe (rI0 fun i j => .bl (decide (j ≤ i))) := o2_int0 fun _ _ _ => .bl _
def rNeg : DR1 := fun x M Q => match x with
  | .int i => Q (.int (-i)) M
  | _ => False
theorem o1_neg : Op1 K rNeg (rU fun i => .int (-i)) := by
  intro R F H M x vx Qd Q m rx h c
  unfold rNeg at h
  split at h
  · cases rx; exact ⟨_, rfl, c.now m (.int _) h⟩
  · exact h.elim
mutual
theorem Rep.dp {F H : Hp} (ex : Ex F H) : ∀ {d : D} {v : V}, Rep K F d v → plain d = true → (pOf d).canLay0 = true → Dp K H v (pOf d)
  | _, _, .non, _, _ => .non
  | _, _, .bl b, _, _ => .bl b
  | _, _, .int i, _, _ => .int i
  | _, _, .str x, _, _ => .str x
  | _, _, .ty _, p, _ => nomatch p
  | _, _, .ref _, p, _ => nomatch p
  | _, _, .tup h r, p, q => .tup (ex.t h) (RepL.dp ex r p (by simpa only [pOf, PyData.canLay0] using q))
  | _, _, .lst h r, p, q => .lst (.inl (.inl (ex _ _ h))) (RepL.dp ex r p (by simpa only [pOf, PyData.canLay0] using q))
  | _, _, .dct h r, p, q => by simp only [pOf, PyData.canLay0] at q; cases q
  | _, _, .sl _ _, p, _ => nomatch p
  | _, _, .ins _ _, p, _ => nomatch p
  | _, _, .scr _, p, _ => nomatch p
theorem RepL.dp {F H : Hp} (ex : Ex F H) : ∀ {ds : List D} {vs : List V}, RepL K F ds vs → plainL ds = true → PyData.canLayAll0 (pOfL ds) = true → DpAll K H vs (pOfL ds)
  | _, _, .nil, _, _ => .nil
  | _, _, .cons (d := d) (ds := ds) h r, p, q => by
    have p2 := (Bool.and_eq_true _ _).mp p
    have q2 : (pOf d).canLay0 = true ∧ PyData.canLayAll0 (pOfL ds) = true := by simpa only [pOfL, PyData.canLayAll0, Bool.and_eq_true] using q
    exact .cons (Rep.dp ex h p2.1 q2.1) (RepL.dp ex r p2.2 q2.2)
end
structure Dt (d : D) : Prop where
  pl : plain d = true
  sh : SeqAt.shaped (pOf d) = true
def eqQ (x y : D) (Q : Bool → Prop) : Prop := match x, y with
  | .int i, .int j => Q (decide (i = j))
  | .bl i, .bl j => Q (decide (i = j))
  | .str i, .str j => Q (decide (i = j))
  | .non, .non => Q true
  | .non, .int _ => Q false
  | .int _, .non => Q false
  | .non, .bl _ => Q false
  | .bl _, .non => Q false
  | .non, .str _ => Q false
  | .str _, .non => Q false
  | .int _, .str _ => Q false
  | .str _, .int _ => Q false
  | .bl _, .str _ => Q false
  | .str _, .bl _ => Q false
  | x, y => Dt x ∧ Dt y ∧ Q (PyData.eqv (pOf x) (pOf y))
def rEq : DR2 := fun x y M Q => eqQ x y fun b => Q (.bl b) M
def rNe : DR2 := fun x y M Q => eqQ x y fun b => Q (.bl (!b)) M
def vEq (K : PySem.W.Frag) : R2 := fun x y H Q => L2.rEq x y H Q ∨ rEqD K x y H Q
def vNe (K : PySem.W.Frag) : R2 := fun x y H Q => L2.rNe x y H Q ∨ rNeD K x y H Q
theorem op_eqA (hu : X.A.units + 64 < cLine) : OpR X (compareOp .Eq) (vEq X.K) := OpR.or op_eq (op_eqD hu)
theorem op_neA (hu : X.A.units + 64 < cLine) : OpR X (compareOp .NotEq) (vNe X.K) := OpR.or op_ne (op_neD hu)
theorem o2_eq : Op2 K rEq (vEq K) := by
  intro R F H M x y vx vy Qd Q m rx ry h c
  unfold rEq eqQ at h
  split at h
  case h_15 =>
    obtain ⟨hx, hy, h⟩ := h
    exact .inr ⟨_, _, rx.dp m.ex hx.pl (SeqAt.canLay_of_shaped hx.sh), ry.dp m.ex hy.pl (SeqAt.canLay_of_shaped hy.sh), hx.sh, hy.sh, c.now m (.bl _) h⟩
  all_goals
    cases rx; cases ry
    refine .inl ⟨rfl, c.now m (.bl _) ?_⟩
    simpa using h
theorem o2_ne : Op2 K rNe (vNe K) := by
  intro R F H M x y vx vy Qd Q m rx ry h c
  unfold rNe eqQ at h
  split at h
  case h_15 =>
    obtain ⟨hx, hy, h⟩ := h
    exact .inr ⟨_, _, rx.dp m.ex hx.pl (SeqAt.canLay_of_shaped hx.sh), ry.dp m.ex hy.pl (SeqAt.canLay_of_shaped hy.sh), hx.sh, hy.sh, c.now m (.bl _) h⟩
  all_goals
    cases rx; cases ry
    refine .inl ⟨rfl, c.now m (.bl _) ?_⟩
    simpa using h
def isNon : D → Bool
  | .non => true
  | _ => false
def rIsN (neg : Bool) : DR2 := fun x y M Q => match y with
  | .non => Q (.bl (if neg then !isNon x else isNon x)) M
  | _ => False
theorem isNon_rep {F : Hp} {d : D} {v : V} (r : Rep K F d v) : decide (v = V.non) = isNon d := by
  cases r <;> simp [isNon]
theorem o2_isN : Op2 K (rIsN false) (fun x y H Q => y = .non ∧ Q (.bl (decide (x = .non))) H) := by
  intro R F H M x y vx vy Qd Q m rx ry h c
  unfold rIsN at h
  split at h
  · cases ry
    refine ⟨rfl, ?_⟩
    rw [isNon_rep rx]
    exact c.now m (.bl _) h
  · exact h.elim
theorem o2_notN : Op2 K (rIsN true) (fun x y H Q => y = .non ∧ Q (.bl (!decide (x = .non))) H) := by
  intro R F H M x y vx vy Qd Q m rx ry h c
  unfold rIsN at h
  split at h
  · cases ry
    refine ⟨rfl, ?_⟩
    rw [isNon_rep rx]
    exact c.now m (.bl _) h
  · exact h.elim
def flatD : D → Bool
  | .non | .bl _ | .int _ | .str _ => true
  | _ => false
def eqD : D → D → Bool
  | .non, .non => true
  | .bl a, .bl b => a == b
  | .bl a, .int b => (if a then 1 else 0) == b
  | .int a, .bl b => a == (if b then 1 else 0)
  | .int a, .int b => a == b
  | .str a, .str b => a == b
  | _, _ => false
theorem flatD_rep {F : Hp} {d : D} {v : V} (r : Rep K F d v) (f : flatD d = true) : flatV v = true := by
  cases r <;> first | rfl | (cases f; done)
theorem eqD_rep {F : Hp} {d e : D} {v w : V} (r : Rep K F d v) (q : Rep K F e w) (f : flatD d = true) (g : flatD e = true) : eqV v w = eqD d e := by
  cases r <;> first | (cases f; done) | (cases q <;> first | rfl | (cases g; done))
theorem flatL_rep {F : Hp} : ∀ {ds : List D} {vs : List V}, RepL K F ds vs → ds.all flatD = true → vs.all flatV = true
  | _, _, .nil, _ => rfl
  | _, _, .cons r rs, f => by
    rw [List.all_cons, Bool.and_eq_true] at f ⊢
    exact ⟨flatD_rep r f.1, flatL_rep rs f.2⟩
theorem inD_rep {F : Hp} {e : D} {w : V} (q : Rep K F e w) (g : flatD e = true) : ∀ {ds : List D} {vs : List V}, RepL K F ds vs → ds.all flatD = true → inV w vs = ds.any fun d => eqD d e
  | _, _, .nil, _ => rfl
  | _, _, .cons r rs, f => by
    rw [List.all_cons, Bool.and_eq_true] at f
    have h := inD_rep q g rs f.2
    unfold inV at h ⊢
    rw [List.any_cons, List.any_cons, h, eqD_rep r q f.1 g]
def inQ (x y : D) (Q : Bool → Prop) : Prop := match y with
  | .lst ys => flatD x = true ∧ ys.all flatD = true ∧ Q (ys.any fun d => eqD d x)
  | .tup ys => flatD x = true ∧ ys.all flatD = true ∧ Q (ys.any fun d => eqD d x)
  | .str z => ∃ c : Nat, x = .str ⟨#[c]⟩ ∧ Q (decide (c ∈ z.cps.toList))
  | _ => False
def rInD (neg : Bool) : DR2 := fun x y M Q => inQ x y fun b => Q (.bl (if neg then !b else b)) M
def vIn (K : PySem.W.Frag) : R2 := fun x y H Q => rIn K false x y H Q ∨ (∃ (c : Nat) (z : Str), x = .str ⟨#[c]⟩ ∧ y = .str z ∧ Q (.bl (decide (c ∈ z.cps.toList))) H)
theorem op_inA : OpR X (compareOp .In) (vIn X.K) := OpR.or op_in_seq op_in_sign
theorem o2_in : Op2 K (rInD false) (vIn K) := by
  intro R F H M x y vx vy Qd Q m rx ry h c
  unfold rInD inQ at h
  split at h
  · cases ry with | lst hy ry =>
      refine .inl ⟨_, _, rfl, .inl (m.l hy), flatD_rep rx h.1, flatL_rep ry h.2.1, ?_⟩
      rw [inD_rep rx h.1 ry h.2.1]
      exact c.now m (.bl _) h.2.2
  · cases ry with | tup hy ry =>
      refine .inl ⟨_, _, rfl, .inr (m.t hy), flatD_rep rx h.1, flatL_rep ry h.2.1, ?_⟩
      rw [inD_rep rx h.1 ry h.2.1]
      exact c.now m (.bl _) h.2.2
  · cases ry
    obtain ⟨k, rfl, h⟩ := h
    cases rx
    exact .inr ⟨_, _, rfl, rfl, c.now m (.bl _) h⟩
  · exact h.elim
def rNotIn : DR2 := fun x y M Q => match y with
  | .lst ys => flatD x = true ∧ ys.all flatD = true ∧ Q (.bl (!ys.any fun d => eqD d x)) M
  | .tup ys => flatD x = true ∧ ys.all flatD = true ∧ Q (.bl (!ys.any fun d => eqD d x)) M
  | .str z => ∃ c : Nat, x = .str ⟨#[c]⟩ ∧ Q (.bl (!(!(Builtin.Str.occurrences z ⟨#[c]⟩ 0 z.length 1).isEmpty))) M
  | _ => False
def vNotIn (K : PySem.W.Frag) : R2 := fun x y H Q => rIn K true x y H Q ∨ (∃ i j, x = .str i ∧ y = .str j ∧ Q (.bl (!(!(Builtin.Str.occurrences j i 0 j.length 1).isEmpty))) H)
theorem op_notInA : OpR X (compareOp .NotIn) (vNotIn X.K) := OpR.or op_notIn_seq op_notIn_str
theorem o2_notIn : Op2 K rNotIn (vNotIn K) := by
  intro R F H M x y vx vy Qd Q m rx ry h c
  unfold rNotIn at h
  split at h
  · cases ry with | lst hy ry =>
      refine .inl ⟨_, _, rfl, .inl (m.l hy), flatD_rep rx h.1, flatL_rep ry h.2.1, ?_⟩
      rw [inD_rep rx h.1 ry h.2.1]
      exact c.now m (.bl _) h.2.2
  · cases ry with | tup hy ry =>
      refine .inl ⟨_, _, rfl, .inr (m.t hy), flatD_rep rx h.1, flatL_rep ry h.2.1, ?_⟩
      rw [inD_rep rx h.1 ry h.2.1]
      exact c.now m (.bl _) h.2.2
  · cases ry
    obtain ⟨k, rfl, h⟩ := h
    cases rx
    exact .inr ⟨_, _, rfl, rfl, c.now m (.bl _) h⟩
  · exact h.elim
def ixQ (x : D) (i : Int) (M : MH) (Q : DQ) : Prop := match x with
  | .lst xs => ∃ d, atI xs i = some d ∧ Q d M
  | .tup xs => ∃ d, atI xs i = some d ∧ Q d M
  | .str z => ∃ c, atI z.cps.toList i = some c ∧ z.length ≤ sizeLine ∧ Q (.str ⟨#[c]⟩) M
  | .ref p => ∃ xs d, M p = some (.lst xs) ∧ atI xs i = some d ∧ Q d M
  | .scr ns => ∃ n, atI ns i = some n ∧ Q (.int n) M
  | _ => False
def rIxD : DR2 := fun x y M Q => match y with
  | .int i => ixQ x i M Q
  | _ => False
theorem atI_rep {F : Hp} {ds : List D} {vs : List V} {i : Int} {d : D} (r : RepL K F ds vs) (h : atI ds i = some d) : ∃ v, atI vs i = some v ∧ Rep K F d v := by
  unfold atI at h ⊢
  rw [← r.length]
  cases e : ixN ds.length i with
  | none => rw [e] at h; cases h
  | some j =>
    rw [e] at h
    exact r.get h
theorem HM.look {R F H : Hp} {M : MH} {p : Addr} {xs : List D} (m : HM K R F H M) (h : M p = some (.lst xs)) : ∃ vs, H p = some (.lst vs) ∧ RepL K F xs vs := m.ob p _ h
theorem o2_ix : Op2 K rIxD (rIx K) := by
  intro R F H M x y vx vy Qd Q m rx ry h c
  unfold rIxD at h
  split at h
  · cases ry
    unfold ixQ at h
    split at h
    · cases rx with | lst hx rx =>
        obtain ⟨d, e, q⟩ := h
        obtain ⟨v, e2, r⟩ := atI_rep rx e
        exact .inl ⟨_, _, _, _, rfl, rfl, m.l hx, e2, c.now m r q⟩
    · cases rx with | tup hx rx =>
        obtain ⟨d, e, q⟩ := h
        obtain ⟨v, e2, r⟩ := atI_rep rx e
        exact .inr (.inl ⟨_, _, _, _, rfl, rfl, m.t hx, e2, c.now m r q⟩)
    · cases rx
      obtain ⟨k, e, z, q⟩ := h
      exact .inr (.inr ⟨_, _, _, rfl, rfl, z, e, c.now m (.str _) q⟩)
    · cases rx
      obtain ⟨xs, d, e0, e, q⟩ := h
      obtain ⟨vs, hv, rl⟩ := m.look e0
      obtain ⟨v, e2, r⟩ := atI_rep rl e
      exact .inl ⟨_, _, _, _, rfl, rfl, .inl (.inl hv), e2, c.now m r q⟩
    · cases rx with | scr hx =>
        obtain ⟨n, e, q⟩ := h
        refine .inl ⟨_, _, _, _, rfl, rfl, m.ex.l hx, ?_, c.now m (.int n) q⟩
        unfold atI at e ⊢
        rw [List.length_map]
        cases ej : ixN _ _ with
        | none => rw [ej] at e; cases e
        | some j =>
          rw [ej] at e
          show (List.map V.int _)[j]? = _
          rw [List.getElem?_map]
          rw [show _[j]? = some n from e]
          rfl
    · exact h.elim
  · exact h.elim
def cutD (xs : List D) (lo hi : Option Int) : List D := (xs.drop (HT.sIx xs.length 0 lo)).take (HT.sIx xs.length xs.length hi - HT.sIx xs.length 0 lo)
def sSet : DSet := fun o i x M Q => match o, i with
  | .ref p, .int k => ∃ xs j, M p = some (.lst xs) ∧ ixN xs.length k = some j ∧ Q (mup M p (.lst (xs.set j x)))
  | _, _ => False
theorem s3_set : Set3 K sSet rSetL := by
  intro R F H M o i x vo vi vx Qd Q m ro ri rx h c
  unfold sSet at h
  split at h
  · cases ro; cases ri
    obtain ⟨xs, j, e, ei, q⟩ := h
    obtain ⟨vs, hv, rl⟩ := m.look e
    refine ⟨_, _, _, j, rfl, rfl, hv, by rw [← rl.length]; exact ei, ?_⟩
    exact c _ _ _ (Ex.refl _) (m.put (o := .lst (xs.set j x)) e ⟨_, upd_same, rl.set rx j⟩) q
  · exact h.elim
end
end Dv
namespace Dv
open PySem PySem.Spec L2
section
variable {X : Cx} {R F0 : Hp} {K : PySem.W.Frag} {e : Expr} {es : List Expr} {t : DA} {r : DRC} {x : Str} {p pos : Pos} {id T : String}
theorem CallD.of {f : Value} {rv : List V → Hp → VK → Prop} (hc : CallR X f rv) (o : OpC X.K r rv) : CallD R F0 X f r := by
  intro pins s σ H xs us Q I rl h
  obtain ⟨F, ds, M, Qd, e, m, rp, h, c⟩ := h
  exact hc pins s σ H xs us Q I rl (o R F H M ds xs Qd Q m rp h c)
theorem callD_up : ∀ σ H Q, up X.K R F0 (dB1 r t) σ H Q → tCB (fun vs H Q => ∃ F ds M Qd, Ex F0 F ∧ HM X.K R F H M ∧ RepL X.K F ds vs ∧ r ds M Qd ∧ Cont X.K R F Qd Q) (upA X.K R F0 t) σ H Q := by
  rintro σ H Q ⟨F, ds, M, Qd, a, h, c⟩
  exact ⟨F, ds, M, _, a, h, fun F1 H1 M1 xs vs e1 m1 r1 q1 => ⟨F1, xs, M1, Qd, a.ex.trans e1, m1, r1, q1, c.mono e1⟩⟩
theorem pd_callB (hc : CallD R F0 X (.builtin id) r) (hg : Gl X x) (hm : X.mg x = none) (hv : bootBuiltins x = some (.builtin id)) (ha : PDA R F0 X (e :: es) t) (hn : x ≠ "__name__" := by decide) (hdb : (x == ("__debug__" : Str)) = false := by decide)
    (he : starEach (e :: es) X.env = (false, eval e X.env) :: starEach es X.env := by rfl) (hpl : (backTo pos (starEach es X.env)).any (·.1) = false := by rfl) : PDE R F0 X (.Call (.Name x p) (e :: es) [] pos) (dB1 r t) :=
  PE.imp (pe_callB hc hg hm hv ha hn hdb he hpl) callD_up
theorem pd_callTy (hc : CallD R F0 X (.type T) r) (hg : Gl X x) (hm : X.mg x = none) (hv : bootBuiltins x = some (.type T)) (ha : PDA R F0 X (e :: es) t) (hn : x ≠ "__name__" := by decide) (hdb : (x == ("__debug__" : Str)) = false := by decide)
    (he : starEach (e :: es) X.env = (false, eval e X.env) :: starEach es X.env := by rfl) (hpl : (backTo pos (starEach es X.env)).any (·.1) = false := by rfl) : PDE R F0 X (.Call (.Name x p) (e :: es) [] pos) (dB1 r t) :=
  PE.imp (pe_callTy hc hg hm hv ha hn hdb he hpl) callD_up
def rLen : DRC := fun xs M Q => match xs with
  | [.lst ys] => Q (.int ys.length) M
  | [.tup ys] => Q (.int ys.length) M
  | [.str z] => z.length ≤ sizeLine ∧ Q (.int z.length) M
  | [.ref p] => ∃ ys, M p = some (.lst ys) ∧ Q (.int ys.length) M
  | [.scr ns] => Q (.int ns.length) M
  | _ => False
def vLen (K : PySem.W.Frag) : List V → Hp → VK → Prop := fun xs H Q => (∃ p ys, xs = [.ref p] ∧ (SqL K H p ys ∨ SqT K H p ys) ∧ Q (.int ys.length) H) ∨ (∃ z, xs = [.str z] ∧ z.length ≤ sizeLine ∧ Q (.int z.length) H)
theorem CallR.or {f : Value} {r r' : List V → Hp → VK → Prop} (h : CallR X f r) (h' : CallR X f r') : CallR X f (fun xs H Q => r xs H Q ∨ r' xs H Q) := fun pins s σ H xs us Q I rl q => q.elim (h pins s σ H xs us Q I rl) (h' pins s σ H xs us Q I rl)
theorem call_lenD : CallD R F0 X (.builtin "len") rLen := by
  refine CallD.of (CallR.or call_len_seq call_len_str) ?_
  intro R F H M xs vs Qd Q m rp h c
  unfold rLen at h
  split at h
  · obtain ⟨v, rfl, r⟩ := repl_one rp
    cases r with | lst hx rx => exact .inl ⟨_, _, rfl, .inl (m.l hx), by rw [← rx.length]; exact c.now m (.int _) h⟩
  · obtain ⟨v, rfl, r⟩ := repl_one rp
    cases r with | tup hx rx => exact .inl ⟨_, _, rfl, .inr (m.t hx), by rw [← rx.length]; exact c.now m (.int _) h⟩
  · obtain ⟨v, rfl, r⟩ := repl_one rp
    cases r
    exact .inr ⟨_, rfl, h.1, c.now m (.int _) h.2⟩
  · obtain ⟨v, rfl, r⟩ := repl_one rp
    cases r
    obtain ⟨ys, e, q⟩ := h
    obtain ⟨ws, hw, rl⟩ := m.look e
    exact .inl ⟨_, _, rfl, .inl (.inl (.inl hw)), by rw [← rl.length]; exact c.now m (.int _) q⟩
  · obtain ⟨v, rfl, r⟩ := repl_one rp
    cases r with | scr hx => exact .inl ⟨_, _, rfl, .inl (m.ex.l hx), by rw [List.length_map]; exact c.now m (.int _) h⟩
  · exact h.elim
def rInt : DRC := fun xs M Q => match xs with
  | [.int i] => Q (.int i) M
  | [.bl k] => Q (.int (if k then 1 else 0)) M
  | _ => False
theorem call_intD : CallD R F0 X (.type "int") rInt := by
  refine CallD.of call_int1 ?_
  intro R F H M xs vs Qd Q m rp h c
  unfold rInt at h
  split at h
  · obtain ⟨v, rfl, r⟩ := repl_one rp; cases r; exact .inl ⟨_, rfl, c.now m (.int _) h⟩
  · obtain ⟨v, rfl, r⟩ := repl_one rp; cases r; exact .inr ⟨_, rfl, c.now m (.int _) h⟩
  · exact h.elim
def rStr : DRC := fun xs M Q => match xs with
  | [.int i] => i.natAbs.log2 < 1920 ∧ Q (.str (toString i)) M
  | [.str a] => Q (.str a) M
  | _ => False
theorem call_strD : CallD R F0 X (.type "str") rStr := by
  refine CallD.of (CallR.or call_str_int SkE.call_str_str) ?_
  intro R F H M xs vs Qd Q m rp h c
  unfold rStr at h
  split at h
  · obtain ⟨v, rfl, r⟩ := repl_one rp; cases r; exact .inl ⟨_, rfl, h.1, c.now m (.str _) h.2⟩
  · obtain ⟨v, rfl, r⟩ := repl_one rp; cases r; exact .inr ⟨_, rfl, c.now m (.str _) h⟩
  · exact h.elim
def rAbs : DRC := fun xs M Q => match xs with
  | [.int i] => Q (.int (if i < 0 then -i else i)) M
  | _ => False
theorem call_absD : CallD R F0 X (.builtin "abs") rAbs := by
  refine CallD.of call_abs ?_
  intro R F H M xs vs Qd Q m rp h c
  unfold rAbs at h
  split at h
  · obtain ⟨v, rfl, r⟩ := repl_one rp; cases r; exact ⟨_, rfl, c.now m (.int _) h⟩
  · exact h.elim
def rMax : DRC := fun xs M Q => match xs with
  | [.int i, .int j] => Q (.int (if j > i then j else i)) M
  | _ => False
def rMin : DRC := fun xs M Q => match xs with
  | [.int i, .int j] => Q (.int (if j < i then j else i)) M
  | _ => False
theorem call_maxD (hc : X.calm = true) : CallD R F0 X (.builtin "max") rMax := by
  refine CallD.of (call_max2 hc) ?_
  intro R F H M xs vs Qd Q m rp h c
  unfold rMax at h
  split at h
  · obtain ⟨v, w, rfl, r1, r2⟩ := repl_two rp; cases r1; cases r2; exact ⟨_, _, rfl, c.now m (.int _) h⟩
  · exact h.elim
theorem call_minD (hc : X.calm = true) : CallD R F0 X (.builtin "min") rMin := by
  refine CallD.of (call_min2 hc) ?_
  intro R F H M xs vs Qd Q m rp h c
  unfold rMin at h
  split at h
  · obtain ⟨v, w, rfl, r1, r2⟩ := repl_two rp; cases r1; cases r2; exact ⟨_, _, rfl, c.now m (.int _) h⟩
  · exact h.elim
def rDivmod : DRC := fun xs M Q => match xs with
  | [.int i, .int j] => CDivP i j ∧ Q (.tup [.int (i / j), .int (i % j)]) M
  | _ => False
theorem call_divmodD : CallD R F0 X (.builtin "divmod") rDivmod := by
  refine CallD.of call_divmodW ?_
  intro R F H M xs vs Qd Q m rp h c
  unfold rDivmod at h
  split at h
  · obtain ⟨v, w, rfl, r1, r2⟩ := repl_two rp; cases r1; cases r2
    exact ⟨_, _, rfl, h.1, fun p n => c.cold m n (.tup (.of upd_same) (.cons (.int _) (.cons (.int _) .nil))) h.2⟩
  · exact h.elim
theorem bls_rep {F : Hp} : ∀ {bs : List Bool} {vs : List V}, RepL K F (bs.map .bl) vs → vs = bs.map V.bl
  | [], _, .nil => rfl
  | b :: bs, _, .cons r rs => by cases r; rw [bls_rep rs]; rfl
theorem ints_rep {F : Hp} : ∀ {bs : List Int} {vs : List V}, RepL K F (bs.map .int) vs → vs = bs.map V.int
  | [], _, .nil => rfl
  | b :: bs, _, .cons r rs => by cases r; rw [ints_rep rs]; rfl
theorem strs_rep {F : Hp} : ∀ {bs : List Str} {vs : List V}, RepL K F (bs.map .str) vs → vs = bs.map V.str
  | [], _, .nil => rfl
  | b :: bs, _, .cons r rs => by cases r; rw [strs_rep rs]; rfl
def rAll : DRC := fun xs M Q => ∃ bs : List Bool, xs = [.lst (bs.map .bl)] ∧ Q (.bl (bs.all fun b => b)) M
def rAny : DRC := fun xs M Q => ∃ bs : List Bool, xs = [.lst (bs.map .bl)] ∧ Q (.bl (bs.any fun b => b)) M
def rSum : DRC := fun xs M Q => ∃ ns : List Int, xs = [.lst (ns.map .int)] ∧ Q (.int ns.sum) M
theorem call_allD (hc : X.calm = true) : CallD R F0 X (.builtin "all") rAll := by
  refine CallD.of (cr_all hc) ?_
  rintro R F H M xs vs Qd Q m rp ⟨bs, rfl, h⟩ c
  obtain ⟨v, rfl, r⟩ := repl_one rp
  cases r with | lst hx rx => exact ⟨_, bs, rfl, (bls_rep rx) ▸ m.l hx, c.now m (.bl _) h⟩
theorem call_anyD (hc : X.calm = true) : CallD R F0 X (.builtin "any") rAny := by
  refine CallD.of (cr_any hc) ?_
  rintro R F H M xs vs Qd Q m rp ⟨bs, rfl, h⟩ c
  obtain ⟨v, rfl, r⟩ := repl_one rp
  cases r with | lst hx rx => exact ⟨_, bs, rfl, (bls_rep rx) ▸ m.l hx, c.now m (.bl _) h⟩
theorem call_sumD (hc : X.calm = true) : CallD R F0 X (.builtin "sum") rSum := by
  refine CallD.of (cr_sum hc) ?_
  rintro R F H M xs vs Qd Q m rp ⟨bs, rfl, h⟩ c
  obtain ⟨v, rfl, r⟩ := repl_one rp
  cases r with | lst hx rx => exact ⟨_, bs, rfl, (ints_rep rx) ▸ m.l hx, c.now m (.int _) h⟩
def rTupOf : DRC := fun xs M Q => match xs with
  | [.lst ys] => Q (.tup ys) M
  | [.tup ys] => Q (.tup ys) M
  | [.ref p] => ∃ ys, M p = some (.lst ys) ∧ Q (.tup ys) M
  | _ => False
theorem call_tupleD : CallD R F0 X (.type "tuple") rTupOf := by
  refine CallD.of call_tuple_of ?_
  intro R F H M xs vs Qd Q m rp h c
  unfold rTupOf at h
  split at h
  · obtain ⟨v, rfl, r⟩ := repl_one rp
    cases r with | lst hx rx => exact ⟨_, _, rfl, .inl ⟨m.l hx, fun p n => c.cold m n (.tup (.of upd_same) (rx.mono (.cold m n))) h⟩⟩
  · obtain ⟨v, rfl, r⟩ := repl_one rp
    cases r with | tup hx rx => exact ⟨_, _, rfl, .inr ⟨m.t hx, c.now m (.tup hx rx) h⟩⟩
  · obtain ⟨v, rfl, r⟩ := repl_one rp
    cases r
    obtain ⟨ys, e, q⟩ := h
    obtain ⟨ws, hw, rl⟩ := m.look e
    exact ⟨_, _, rfl, .inl ⟨.inl (.inl hw), fun p n => c.cold m n (.tup (.of upd_same) (rl.mono (.cold m n))) q⟩⟩
  · exact h.elim
def rLstOf : DRC := fun xs M Q => match xs with
  | [.lst ys] => Q (.lst ys) M
  | [.tup ys] => Q (.lst ys) M
  | _ => False
theorem call_listD : CallD R F0 X (.type "list") rLstOf := by
  refine CallD.of call_list_of ?_
  intro R F H M xs vs Qd Q m rp h c
  unfold rLstOf at h
  split at h
  · obtain ⟨v, rfl, r⟩ := repl_one rp
    cases r with | lst hx rx => exact ⟨_, _, rfl, .inl (m.l hx), fun p n => c.cold m n (.lst upd_same (rx.mono (.cold m n))) h⟩
  · obtain ⟨v, rfl, r⟩ := repl_one rp
    cases r with | tup hx rx => exact ⟨_, _, rfl, .inr (m.t hx), fun p n => c.cold m n (.lst upd_same (rx.mono (.cold m n))) h⟩
  · exact h.elim
def tyD : D → Option String
  | .non => some "NoneType"
  | .bl _ => some "bool"
  | .int _ => some "int"
  | .str _ => some "str"
  | .tup _ => some "tuple"
  | .lst _ => some "list"
  | .dct _ => some "dict"
  | _ => none
theorem tyD_rep {F H : Hp} {M : MH} (m : HM K R F H M) {d : D} {v : V} {n : String} (r : Rep K F d v) (e : tyD d = some n) : TyX K H v (.type n) := by
  cases r with
  | non => cases e; exact .base .non
  | bl b => cases e; exact .base (.bl b)
  | int i => cases e; exact .base (.int i)
  | str x => cases e; exact .base (.str x)
  | ty n => cases e
  | ref a => cases e
  | tup h r =>
    cases e
    rcases m.t h with (h | ⟨o, h⟩) | ⟨o, its, n, hk, hc, _⟩
    · exact .base (.tup h)
    · exact .fTuple h
    · exact .kTuple hk hc
  | lst h r => cases e; exact .base (.lst (m.ex _ _ h))
  | dct h r => cases e; exact .base (.dK (m.ex _ _ h))
  | sl h r => cases e
  | ins h r => cases e
  | scr h => cases e
def isQ (n : String) (x : D) (Q : Bool → Prop) : Prop := match x with
  | .non => ∃ b, kitB "NoneType" n = some b ∧ Q b
  | .bl _ => ∃ b, kitB "bool" n = some b ∧ Q b
  | .int _ => ∃ b, kitB "int" n = some b ∧ Q b
  | .str _ => ∃ b, kitB "str" n = some b ∧ Q b
  | .tup _ => ∃ b, kitB "tuple" n = some b ∧ Q b
  | .lst _ => ∃ b, kitB "list" n = some b ∧ Q b
  | .dct _ => ∃ b, kitB "dict" n = some b ∧ Q b
  | _ => False
def rIsi : DRC := fun xs M Q => match xs with
  | [x, .ty n] => isQ n x fun b => Q (.bl b) M
  | _ => False
theorem isQ_ty {n : String} {x : D} {Q : Bool → Prop} (h : isQ n x Q) : ∃ t b, tyD x = some t ∧ kitB t n = some b ∧ Q b := by
  unfold isQ at h
  split at h
  all_goals first | (obtain ⟨b, e, q⟩ := h; exact ⟨_, b, rfl, e, q⟩) | exact h.elim
theorem call_isiD : CallD R F0 X (.builtin "isinstance") rIsi := by
  refine CallD.of call_isi ?_
  intro R F H M xs vs Qd Q m rp h c
  unfold rIsi at h
  split at h
  · obtain ⟨v, w, rfl, r1, r2⟩ := repl_two rp
    cases r2
    obtain ⟨t, b, e1, e2, q⟩ := isQ_ty h
    exact ⟨_, _, _, _, b, rfl, .ty _, tyD_rep m r1 e1, kit_ty e2, c.now m (.bl _) q⟩
  · exact h.elim
abbrev DRM := D → List D → MH → DQ → Prop
def OpM (K : PySem.W.Frag) (r : DRM) (rv : V → List V → Hp → VK → Prop) : Prop := ∀ R F H M x xs vx vs Qd Q, HM K R F H M → Rep K F x vx → RepL K F xs vs → r x xs M Qd → Cont K R F Qd Q → rv vx vs H Q
def dM0 (r : DRM) (to : DE) : DE := fun ds M Q => to ds M fun x M1 => (∃ a, x = .str a) ∧ r x [] M1 Q
def dM1 (r : DRM) (to te : DE) : DE := fun ds M Q => to ds M fun x M1 => (∃ a, x = .str a) ∧ te ds M1 fun y M2 => r x [y] M2 Q
variable {name : Str} {apos : Pos} {o : Expr} {to te : DE} {rm : DRM} {rv : V → List V → Hp → VK → Prop}
theorem pd_m0 (slot : Slot "str" name id) (ty : typeOf (.builtin id) = pure (.type "method_descriptor")) (rule : MtR X id rv) (ok : OpM X.K rm rv) (ho : PDE R F0 X o to)
    (hbase : attributeBase o name X.env (eval o X.env) = eval o X.env := by rfl) (hline : (apos.endLine == pos.line) = true := by rfl) : PDE R F0 X (.Call (.Attribute o name apos) [] [] pos) (dM0 rm to) := by
  refine PE.imp (pe_m0 slot ty rule ho hbase hline) ?_
  rintro σ H Q ⟨F, ds, M, Qd, a, h, c⟩
  refine ⟨F, ds, M, _, a, h, fun F1 H1 M1 x vx e1 m1 r1 q1 => ?_⟩
  obtain ⟨⟨z, rfl⟩, q1⟩ := q1
  cases r1
  exact ⟨⟨_, rfl⟩, ok R F1 H1 M1 _ _ _ _ _ _ m1 (.str _) .nil q1 (c.mono e1)⟩
theorem pd_m1 (slot : Slot "str" name id) (ty : typeOf (.builtin id) = pure (.type "method_descriptor")) (rule : MtR X id rv) (ok : OpM X.K rm rv) (ho : PDE R F0 X o to) (he : PDE R F0 X e te)
    (hs : starEach [e] X.env = [(false, eval e X.env)] := by rfl) (hbase : attributeBase o name X.env (eval o X.env) = eval o X.env := by rfl) (hline : (apos.endLine == pos.line) = true := by rfl) : PDE R F0 X (.Call (.Attribute o name apos) [e] [] pos) (dM1 rm to te) := by
  refine PE.imp (pe_m1 slot ty rule ho he hs hbase hline) ?_
  rintro σ H Q ⟨F, ds, M, Qd, a, h, c⟩
  refine ⟨F, ds, M, _, a, h, fun F1 H1 M1 x vx e1 m1 r1 q1 => ?_⟩
  obtain ⟨⟨z, rfl⟩, q1⟩ := q1
  cases r1
  refine ⟨⟨_, rfl⟩, F1, ds, M1, _, a.go e1 m1, q1, fun F2 H2 M2 y vy e2 m2 r2 q2 => ?_⟩
  exact ok R F2 H2 M2 _ _ _ _ _ _ m2 (.str _) (.cons r2 .nil) q2 (c.mono (e1.trans e2))
def rJoin : DRM := fun x xs M Q => ∃ a, x = .str a ∧ ∃ ys : List Str, ((xs = [.lst (ys.map .str)] ∨ xs = [.tup (ys.map .str)]) ∨ ∃ p, xs = [.ref p] ∧ M p = some (.lst (ys.map .str))) ∧ (ys.map (·.length)).sum + ys.length * a.length ≤ 16777216 ∧ Q (.str (Txt.join a ys)) M
def rFind : DRM := fun x xs M Q => match x, xs with
  | .str a, [.str b] => Q (.int (Txt.find a b)) M
  | _, _ => False
theorem om_join : OpM K rJoin (fun x xs H Q => ∃ a p, ∃ ys : List Str, x = .str a ∧ xs = [.ref p] ∧ (SqL K H p (ys.map V.str) ∨ SqT K H p (ys.map V.str)) ∧ (ys.map (·.length)).sum + ys.length * a.length ≤ 16777216 ∧ Q (.str (Txt.join a ys)) H) := by
  rintro R F H M x xs vx vs Qd Q m rx rp ⟨a, rfl, ys, hx, hz, h⟩ c
  cases rx
  rcases hx with (rfl | rfl) | ⟨p, rfl, hp⟩
  · obtain ⟨v, rfl, r⟩ := repl_one rp
    cases r with | lst hx r => exact ⟨_, _, ys, rfl, rfl, .inl (strs_rep r ▸ m.l hx), hz, c.now m (.str _) h⟩
  · obtain ⟨v, rfl, r⟩ := repl_one rp
    cases r with | tup hx r => exact ⟨_, _, ys, rfl, rfl, .inr (strs_rep r ▸ m.t hx), hz, c.now m (.str _) h⟩
  · obtain ⟨v, rfl, r⟩ := repl_one rp
    cases r
    obtain ⟨vs, hv, rl⟩ := m.look hp
    exact ⟨_, _, ys, rfl, rfl, .inl (strs_rep rl ▸ .inl (.inl hv)), hz, c.now m (.str _) h⟩
theorem om_find : OpM K rFind (fun x xs H Q => ∃ a b, x = .str a ∧ xs = [.str b] ∧ Q (.int (Txt.find a b)) H) := by
  intro R F H M x xs vx vs Qd Q m rx rp h c
  unfold rFind at h
  split at h
  · cases rx
    obtain ⟨v, rfl, r⟩ := repl_one rp
    cases r
    exact ⟨_, _, rfl, rfl, c.now m (.int _) h⟩
  · exact h.elim
end
end Dv
namespace PySem
namespace ErD
open PySem.W PySem.Calls PyProof.Rows PySem.HandSPX
open Builtin Builtin.ObjectAttr
structure Bse (bm : List Value) (nid : String) : Prop where
  pass : ∀ self, refuseLoop self "__setattr__" bm = pure ()
  obj : bm.contains (.type "object") = true
  call : ∃ B iid bB, ExcBaseFacts B nid iid bB ∧ ∀ Y : String, bm.contains (.type Y) = bB.contains (.type Y)
theorem Bse.own {bm : List Value} {nid : String} {C : Addr} (h : Bse bm nid) : Bse (.ref C :: bm) nid :=
  ⟨fun self => by rw [refuseLoop_ref]; exact h.pass self, by rw [List.contains_cons, h.obj, Bool.or_true], let ⟨B, i, b, F, e⟩ := h.call; ⟨B, i, b, F, fun Y => by rw [List.contains_cons, e Y]; rfl⟩⟩
theorem Bse.ve : Bse [.type "ValueError", .type "Exception", .type "BaseException", .type "object"] "ValueError.__new__" :=
  ⟨fun self => F.store_ValueError.passes self, by decide +kernel, _, _, _, F.excBase_ValueError, fun Y => rfl⟩
theorem Bse.le : Bse [.type "LookupError", .type "Exception", .type "BaseException", .type "object"] "LookupError.__new__" :=
  ⟨fun self => F.store_LookupError.passes self, by decide +kernel, _, _, _, F.excBase_LookupError, fun Y => rfl⟩
theorem Bse.ae : Bse [.type "ArithmeticError", .type "Exception", .type "BaseException", .type "object"] "ArithmeticError.__new__" :=
  ⟨fun self => F.store_ArithmeticError.passes self, by decide +kernel, _, _, _, F.excBase_ArithmeticError, fun Y => rfl⟩
section
variable {prog : Program} {w : World} {A : Around} {R : Result → Shared → Prop} {g : Array GenState} {dr : Drawn} {tk0 : Nat} {os : OsState} {hp : Heap}
theorem set_new {K : W.Frag} {name nid : Str} {nd : String} {tk : Tok} {v : Value} {x C : Addr} {fv : Array Value} {cl : ClassData}
    (Y : K.In hp) (gx : hp.get? x = some { cls := .ref C, data := .fields fv }) (gc : W.clsIn K C = some cl) (hb : Bse cl.mro nd) (dict : cl.hasDict = true) (no : W.findIn K (.ref C) name = some none)
    (hq : ∀ h' tk' dx, (∀ b o, b ≠ x → hp.get? b = some o → h'.get? b = some o) → hp.objs.size ≤ dx → dx ≠ x → h'.get? x = some { cls := .ref C, dict := some dx, data := .fields fv } → h'.Ns1 dx (fun y => if y = name then some v else none) → R (.ok (.ret .none)) ⟨h', g, dr, tk', os⟩) :
    codeAny (model prog w) A (.call (.builtin "object.__setattr__") ⟨[.ref x, .str name tk, v], []⟩) R ⟨hp, g, dr, tk0, os⟩ := by
  have J : W.InstAt hp x { cls := .ref C, data := .fields fv } C none := ⟨gx, rfl, rfl, trivial⟩
  have so := F.store_object
  have full : cl.mro.isEmpty = false := by
    cases e : cl.mro with
    | nil => have z := hb.obj; rw [e] at z; cases z
    | cons _ _ => rfl
  have xs : x ≠ hp.objs.size := Nat.ne_of_lt (Heap.lt_size gx)
  have isO : W.Looks (model prog w) hp (isInstance (.ref x) (.type "object")) true := J.type.andThen (W.looks_mroIn Y (by unfold W.mroIn; rw [gc, Option.bind_some, if_neg (by rw [full]; decide), hb.obj]))
  refine codeAny_call_builtin so.slot.plain so.entry (@W.check_slot (model prog w) _ _ ⟨hp, g, dr, tk0, os⟩ "object.__setattr__" "object" "__setattr__" (.ref x) [.str name tk, v] [] _ so.kind so.split isO (so.args (.ref x) (.str name tk) v) ?_)
  have lm : W.Looks (model prog w) hp (mroOf (.ref C)) cl.mro := (W.looks_clsIn Y gc).andThen .now
  have lt : W.Looks (model prog w) hp (storeTaker? none) none := .now
  have lc : W.Looks (model prog w) hp (classData C) cl := W.looks_clsIn Y gc
  rw [W.osa_eq, refuse_eq]
  refine wpAny_bind (wpAny_bind (J.type.at (wpAny_bind (lm.at ?_))))
  rw [hb.pass]
  refine wpAny_pure (wpAny_bind (J.type.at (wpAny_bind ((W.looks_findIn Y no).at (wpAny_bind (lt.at ?_))))))
  show wpAny _ _ (storeInOwnDict (.ref x) (.ref C) (.str name tk) name v false) _ _ _
  obtain ⟨c1, c2, c3, c4, c5, c6, c7, c8, c9, c10, c11⟩ := cl
  dsimp only at dict
  subst dict
  unfold storeInOwnDict ownDictForStores
  repeat (first | with_reducible refine store_in_new ?_ ?_ | with_reducible refine wpAny_loadPart_at gx ?_ | with_reducible refine lc.at ?_ | wp_step)
  · exact ⟨_, #[], _, (Heap.get?_update_ne _ _ _ _ xs.symm).trans (Heap.get?_push_at rfl rfl), rfl, fun e he => absurd he (by simp), fun _ => rfl⟩
  · intro h' tk' hn' same
    have g2 : (hp.push { cls := .type "dict", data := .dict #[] }).get? x = some { cls := .ref C, data := .fields fv } := Heap.get?_push_of_some _ gx
    refine hq h' tk' hp.objs.size (fun b o nb eo => ?_) (Nat.le_refl _) xs.symm ?_ hn'
    · exact (same.2 b (Nat.ne_of_lt (Heap.lt_size eo))).trans ((Heap.get?_update_ne _ _ _ _ nb).trans (Heap.get?_push_of_some _ eo))
    · exact (same.2 x xs).trans (Heap.get?_update_self _ g2 rfl)
end
end ErD
end PySem
namespace PySem
namespace ErD
open PySem.W PySem.Calls PyProof.Rows PySem.HandSPX
def eArgs (fl : Str) (p1 p2 : Pos) : Arguments := { posonlyargs := [], args := [{ arg := "self", annotation := none, pos := p1 }, { arg := fl, annotation := none, pos := p2 }], vararg := none, kwonlyargs := [], kw_defaults := [], kwarg := none, defaults := [] }
def eBody (fl : Str) (q1 q2 q3 q4 : Pos) : List Stmt := [.Assign [.Attribute (.Name "self" q1) fl q2] (.Name fl q3) q4]
def eScope (fl : Str) : Scope := { kind := .function, names := [(PySem.Str.ofString "self", .local), (fl, .local)], isGenerator := false, isCoroutine := false, more := [] }
structure ErrT (K : Frag) (mg : Str → Option Value) (cn fl : Str) (C fI : Addr) : Prop where
  fd : fl = "given" ∨ fl = "index"
  gC : mg cn = some (.ref C)
  cls : ∃ nm q N bs bm sn sub ab col dd k0 k1 k2 k3 k5 nid, K.lookup C = some (excClassObj nm q C N bs bm true sn sub ab col dd k0 k1 k2 k3 k5 nid) ∧ Bse bm nid
  sa : findIn K (.ref C) "__setattr__" = some (some (.builtin "object.__setattr__"))
  ga : findIn K (.ref C) "__getattribute__" = some (some (.builtin "BaseException.__getattribute__"))
  gg : findIn K (.ref C) "__getattr__" = some none
  noN : findIn K (.ref C) fl = some none
  iC : findIn K (.ref C) "__init__" = some (some (.ref fI))
  tC : typeIn K (.ref fI) = some (.type "function")
  kC : keepIn K (.ref C) = true
  exC : subIn K (.ref C) (.type "BaseException") = some true
  tyC : typeIn K (.ref C) = some (.type "type")
  hdC : hasDictIn K C = true
  fn : ∃ (oc : Value) (od : Option Addr) (doc pm : Value) (an : Option Addr) (cdv ct : Value) (osl : Array (Option Value)) (qn : Str) (p1 p2 q1 q2 q3 q4 : Pos),
    K.lookup fI = some ⟨oc, od, .func (fnOf "__init__" qn (eArgs fl p1 p2) (eBody fl q1 q2 q3 q4) (eScope fl) .none .none doc pm an cdv ct), osl⟩ ∧ codeIn K cdv qn = true
theorem one_le_line (v : Value) : [v].length ≤ sizeLine := by
  rw [sizeLine_eq]
  exact (by decide : 1 ≤ 16777216)
theorem loc_ld {M : Model} {s : Shared} {qn : Str} {scope : Scope} {L a : Addr} {cd : Value} {m : Str → Option Value} {x : Str} {pos : Pos} {v : Value} {Q : Value → Shared → Prop} {A : Around} {E : Value → Shared → Prop} (hn : s.heap.Ns L m) (hv : m x = some v) (h : Q v s)
    (hk : scope.kind = .function := by rfl) (hl : (envOfC qn scope L a cd).kindOf x = some .local := by rfl) (hd : (x == ("__debug__" : Str)) = false := by decide) : wpAny M A (eval (.Name x pos) (envOfC qn scope L a cd)) Q E s := wpAny_Name (wpAny_loadName_local hk hl hn hv h) hd
structure EndI (h h' : Heap) (x C dx t1 : Addr) (fl : Str) (v : Value) : Prop where
  keep : ∀ b o, b ≠ x → h.get? b = some o → h'.get? b = some o
  obj : h'.get? x = some { cls := .ref C, dict := some dx, data := .fields #[.ref t1, .none, .none, .none, .bool false, .none] }
  dbig : h.objs.size ≤ dx
  dne : dx ≠ x
  ns : h'.Ns1 dx (fun y => if y = fl then some v else none)
structure Made (h h' : Heap) (e C d : Addr) (fl : Str) (v : Value) : Prop where
  keep : ∀ b o, h.get? b = some o → h'.get? b = some o
  new : h.objs.size ≤ e
  obj : ∃ oe vs, h'.get? e = some oe ∧ oe.cls = .ref C ∧ oe.dict = some d ∧ oe.data = .fields vs ∧ vs[1]? = some .none
  dbig : h.objs.size ≤ d
  dne : d ≠ e
  ns : h'.Ns1 d (fun y => if y = fl then some v else none)
section
variable {prog : Program} {w : World} {A : Around} {E : Value → Shared → Prop} {R : Result → Shared → Prop} {s : Shared} {K : Frag} {mg : Str → Option Value} {C fI : Addr} {cn fl : Str}
theorem err_init (T : ErrT K mg cn fl C fI) {x t0 : Addr} {v : Value} (Y : K.In s.heap) (lim : s.heap.NoLimit) (hx : s.heap.get? x = some (excO C t0)) (room : A.depth < recursionLimit)
    (hq : ∀ h' tk dx, EndI s.heap h' x C dx t0 fl v → R (.ok (.ret .none)) { s with heap := h', toks := tk }) :
    codeAny (model prog w) A (.call (.ref fI) ⟨[.ref x, v], []⟩) R s := by
  obtain ⟨oc, od, doc, pm, an, cdv, ct, osl, qn, p1, p2, q1, q2, q3, q4, ho, hcd⟩ := T.fn
  obtain ⟨nm, q, N, bs, bm, sn, sub, ab, col, dd, k0, k1, k2, k3, k5, nid, hC, hb⟩ := T.cls
  have hcl : clsIn K C = some { name := nm, bases := bs, mro := .ref C :: bm, ns := N, qualname := q, hasDict := true, slotNames := sn, subclasses := sub, abstract := ab, collection := col, hasDel := false } := by unfold clsIn; rw [hC] <;> rfl
  have noN := T.noN
  have fd := T.fd
  rcases fd with rfl | rfl
  all_goals
    refine Att.call_fn (binds := [("self", .ref x), (_, v)]) Y lim ho hcd room (BindsTo.of_eq (by first | rfl | with_unfolding_all rfl)) (by first | rfl | decide | with_unfolding_all rfl) (fun s₁ IC => ?_) rfl rfl rfl
    obtain ⟨h₁, tk₁, rfl⟩ := IC.toInCall.same
    have k : ∀ b o, s.heap.get? b = some o → h₁.get? b = some o := IC.toInCall.keep
    have hn := IC.toInCall.ns
    have Y₁ : K.In h₁ := Y.keeps k
    have hx₁ := k _ _ hx
    show wpAny _ _ (execs _ _) _ _ _
    refine wpAny_execs_cons (plainObj_wpAny_Assign_Attribute ?_)
    refine loc_ld (v := v) hn (by first | rfl | with_unfolding_all rfl | kernel_rfl) (loc_ld (v := .ref x) hn (by first | rfl | with_unfolding_all rfl | kernel_rfl) ?_)
    refine set_plain Y₁ (ox := excO C t0) (od := none) ⟨hx₁, rfl, rfl, trivial⟩ T.sa ?_
    refine set_new (nid := "") Y₁ hx₁ hcl hb.own rfl noN (fun h₃ tk₃ dx k₃ dn dne hx₃ hn₃ => ?_)
    show wpAny _ _ (execs _ _) _ _ _
    have z : s.heap.objs.size < h₁.objs.size := hn.lt
    exact wpAny_execs_nil (hq h₃ tk₃ dx ⟨fun b o nb e => k₃ b o nb (k b o e), hx₃, Nat.le_of_lt (Nat.lt_of_lt_of_le z dn), dne, hn₃⟩)
theorem err_made (T : ErrT K mg cn fl C fI) {v : Value} (Y : K.In s.heap) (lim : s.heap.NoLimit) (room : A.depth + 1 < recursionLimit)
    (hq : ∀ h' tk e d, Made s.heap h' e C d fl v → R (.ok (.ret (.ref e))) { s with heap := h', toks := tk }) :
    codeAny (model prog w) A (.call (.ref C) ⟨[v], []⟩) R s := by
  obtain ⟨nm, q, N, bs, bm, sn, sub, ab, col, dd, k0, k1, k2, k3, k5, nid, hC, hb⟩ := T.cls
  obtain ⟨B, iid, bB, BF, same⟩ := hb.call
  obtain ⟨hp, g, dr, tk, os⟩ := s
  have k : ∀ b o, hp.get? b = some o → ((hp.push (kdv_tup [v])).push (excO C hp.objs.size)).get? b = some o := fun b o e => Heap.get?_push_of_some _ (Heap.get?_push_of_some _ e)
  have there : ((hp.push (kdv_tup [v])).push (excO C hp.objs.size)).get? (hp.objs.size + 1) = some (excO C hp.objs.size) := by heap_get
  refine call_own BF same (Y _ _ hC) (looks_findIn Y T.iC) (fun self => bind_fn Y self T.tC) (one_le_line v) ?_
  refine err_init (s := ⟨(hp.push (kdv_tup [v])).push (excO C hp.objs.size), g, dr, tk, os⟩) T (Y.keeps k) (lim.keeps k) there room fun h' tk' dx ⟨k', hx, dn, dne, hns⟩ => ?_
  have old : ∀ b o, hp.get? b = some o → h'.get? b = some o := fun b o e => k' b o (Nat.ne_of_lt (Nat.lt_succ_of_lt (Heap.lt_size e))) (k b o e)
  have z : hp.objs.size + 1 + 1 ≤ dx := by
    have q := dn
    rw [Heap.size_push, Heap.size_push] at q
    exact q
  exact ⟨rfl, hq h' tk' (hp.objs.size + 1) dx ⟨old, Nat.le_succ _, ⟨_, _, hx, rfl, rfl, rfl, rfl⟩, Nat.le_trans (Nat.le_trans (Nat.le_succ _) (Nat.le_succ _)) z, dne, hns⟩⟩
end
end ErD
end PySem
namespace Dv
open PySem PySem.Spec L2
theorem relO_one {v : V} {v' : Value} {fl : Str} (r : RelV v v') (f : Str) : RelO (List.lookup f [(fl, v)]) (if f = fl then some v' else none) := by
  by_cases hw : f = fl
  · subst hw
    rw [if_pos rfl]
    have q : List.lookup f [(f, v)] = some v := by simp [List.lookup]
    rw [q]
    exact r
  · rw [if_neg hw]
    have qw : (f == fl) = false := by simpa using hw
    have q2 : List.lookup f [(fl, v)] = none := by simp [List.lookup, qw]
    rw [q2]
    trivial
section
variable {X : Cx} {C fI : Addr} {cn fl : Str} {R F0 : Hp}
def tMkErr (C : Addr) (fl : Str) (ta : TA) : St → Hp → XK → Prop := fun σ H Q => ta σ H fun vs H1 => ∃ v, vs = [v] ∧ ∀ d, H1 d = none → Q (.ref C) (some d) (upd H1 d (.xd [(fl, v)]))
theorem mk_err {pins : List (Addr × Obj)} {s : Shared} {σ : St} {H : Hp} {Q : XK} {v : V} {u : Value} {k : Nat} (T : PySem.ErD.ErrT X.K X.mg cn fl C fI) (hr : Room k X.A) (I : Inv X pins σ H s) (rv : RelV v u) (q : ∀ d, H d = none → Q (.ref C) (some d) (upd H d (.xd [(fl, v)]))) :
    wpAny (model X.prog X.w) X.A (call (.ref C) [u]) (MkP X pins σ Q) X.xe s := by
  have lim := I.nolimit
  obtain ⟨hp, g, dr, tk, os⟩ := s
  refine wpAny_call (PySem.ErD.err_made T I.kIn lim (by have := hr.dp; omega) fun h' tk' e d M => ?_)
  show MkP X pins σ Q (.ref e) ⟨h', g, dr, tk', os⟩
  obtain ⟨oe, fv, hoe, hc, hd, hdat, h1⟩ := M.obj
  have hns := M.ns
  obtain ⟨G', g1, g2⟩ := restrict h' fun b => decide (b ≠ e)
  have off : ∀ b, b ≠ e → G'.get? b = h'.get? b := fun b hb => g1 b (decide_eq_true hb)
  have gone : G'.get? e = none := g2 e (by simp)
  have old : ∀ b o, hp.get? b = some o → G'.get? b = some o := fun b o q => (off b (Nat.ne_of_lt (Nat.lt_of_lt_of_le (Heap.lt_size q) M.new))).trans (M.keep b o q)
  have ob : ObjOk X.prog X.w (upd H d (.xd [(fl, v)])) G' d (.xd [(fl, v)]) := ⟨_, hns.at (fun o q => (off d M.dne).trans q), fun f => relO_one rv f⟩
  have J : Inv X pins σ (upd H d (.xd [(fl, v)])) ⟨G', g, dr, tk', os⟩ := I.laid (t' := tk') old M.dbig ob
  refine ⟨e, oe, fv, ⟨G', g, dr, tk', os⟩, _, .ref C, some d, rfl, J, fun b o q => ?_, gone, hoe, ⟨hc, hd⟩, hdat, h1, ?_, rfl, I.bare, raises_own T.exC T.tyC, q d (I.hok.fresh M.dbig)⟩
  · by_cases hb : b = e
    · have q' : G'.get? b = some o := q
      rw [hb, gone] at q'; cases q'
    · exact (off b hb).symm.trans q
  · rw [upd_ne (Ne.symm M.dne)]
    exact I.hok.fresh M.new
theorem pmk_err {a : Expr} {ta : TA} {p pos : Pos} {k : Nat} (T : PySem.ErD.ErrT X.K X.mg cn fl C fI) (hr : Room k X.A) (ha : PA X [a] ta) (hg : Gl X cn := by rfl) (hdb : (cn == ("__debug__" : Str)) = false := by decide)
    (he : starEach (a :: []) X.env = (false, eval a X.env) :: starEach [] X.env := by rfl) (hpl : (backTo pos (starEach [] X.env)).any (·.1) = false := by rfl) : PMk X (.Call (.Name cn p) [a] [] pos) (tMkErr C fl ta) := by
  intro pins s σ H Q I h
  refine wpAny_Call_Name_kw (ld_glob I hg T.gC ?_ hdb)
  refine PySem.W.callWith_K (h₀ := X.base) I.ok.mod.kin T.kC (thn (ha.run pos pins s σ H _ I h) fun us s1 hh => ?_) he hpl
  obtain ⟨vs, H1, I1, r1, v, ev, q1⟩ := hh
  subst ev
  refine ⟨I1.kIn, ?_⟩
  cases r1 with
  | cons rv rn =>
    cases rn
    exact mk_err T hr I1 rv q1
def dRaise (C : Addr) (fl : Str) (W : DWX) (t : DA) : DS := fun _ ds M => t ds M fun xs M1 => match xs with
  | [x] => ∀ p, M1 p = none → W (.ref C) (some p) ds (mup M1 p (.xd [(fl, x)]))
  | _ => False
theorem pd_raise {a : Expr} {t : DA} {W : DWX} {p pos pos2 : Pos} {k : Nat} (hc : X.calm = true) (T : PySem.ErD.ErrT X.K X.mg cn fl C fI) (hr : Room k X.A) (tk : DTakes R F0 X W) (ha : PDA R F0 X [a] t) (hg : Gl X cn := by rfl) (hdb : (cn == ("__debug__" : Str)) = false := by decide)
    (he : starEach (a :: []) X.env = (false, eval a X.env) :: starEach [] X.env := by rfl) (hpl : (backTo pos (starEach [] X.env)).any (·.1) = false := by rfl) :
    PDS R F0 X (.Raise (some (.Call (.Name cn p) [a] [] pos)) none pos2) (dRaise C fl W t) := by
  refine PS.imp (ps_raise hc tk (pmk_err T hr ha hg hdb he hpl)) ?_
  rintro D σ H ⟨F, ds, M, Dd, a, h, c⟩
  refine ⟨F, ds, M, _, a, h, fun F1 H1 M1 xs vs e1 m1 r1 q1 => ?_⟩
  cases r1 with
  | nil => exact q1.elim
  | cons rx rn =>
    cases rn with
    | cons _ _ => exact q1.elim
    | nil => exact ⟨_, rfl, fun d hd => ⟨F1, ds, _, a.go e1 (m1.warm (o := .xd [(fl, _)]) hd ⟨_, upd_same, .cons rx .nil⟩), q1 d (m1.freeM hd)⟩⟩
def dXf (a : Addr) (cls : Value) (d : Option Addr) (C : Addr) (f : Str) (te : DE) : DE := fun ds M Q => te ds M fun x M1 => x = .ref a ∧ cls = .ref C ∧ ∃ (dd : Addr) (fs : List (Str × D)) (v : D), d = some dd ∧ M1 dd = some (.xd fs) ∧ fs.lookup f = some v ∧ Q v M1
theorem pd_xf {a : Addr} {oe : Obj} {cls : Value} {d : Option Addr} {pn : List (Addr × Obj)} {e : Expr} {te : DE} {pos : Pos} {n : Str} (T : PySem.ErD.ErrT X.K X.mg cn n C fI) (hz : Zc cls d oe) (hf : ∃ vs, oe.data = .fields vs) (he : PDE R F0 (X.suite a ((a, oe) :: pn)) e te) (hb : attributeBase e n X.env (eval e X.env) = eval e X.env := by rfl) :
    PDE R F0 (X.suite a ((a, oe) :: pn)) (.Attribute e n pos) (dXf a cls d C n te) := by
  refine PE.imp (pe_xf ⟨T.ga, T.gg, T.exC, T.hdC⟩ T.noN hz hf he hb) ?_
  rintro σ H Q ⟨F, ds, M, Qd, at_, h, c⟩
  refine ⟨F, ds, M, _, at_, h, fun F1 H1 M1 x vx e1 m1 r1 q1 => ?_⟩
  obtain ⟨rfl, ec, dd, fs, v, ed, em, l, q⟩ := q1
  cases r1
  obtain ⟨vs, hv, rf⟩ := m1.ob dd _ em
  obtain ⟨w, lw, rw'⟩ := rf.look l
  exact ⟨rfl, ec, dd, vs, w, ed, hv, lw, c _ _ _ _ _ e1 m1 rw' q⟩
def dWAs (K : PySem.W.Frag) (c : Value) (i : Nat) (ts : Addr → Value → Option Addr → DS) (Wout : DWX) (D : DEnds) : DWX := fun cls d ds M =>
  ∃ b, PySem.W.exmOne K cls c = some b ∧ (b = true → ∀ a, ts a cls d { nx := fun ds' M' => D.nx (ds'.set i none) M', rt := D.rt, bk := fun ds' M' => D.bk (ds'.set i none) M', ct := fun ds' M' => D.ct (ds'.set i none) M' } (ds.set i (some (.ref a))) M) ∧
    (b = false → Wout cls d ds M)
theorem ContS.unset {K : PySem.W.Frag} {F : Hp} {Qd : Sl → MH → Prop} {Q : St → Hp → Prop} {i : Nat} (c : ContS K R F Qd Q) : ContS K R F (fun ds M => Qd (ds.set i none) M) (fun σ H => Q (σ.set i none) H) :=
  fun F' H' M' ds σ e m r q => c F' H' M' _ _ e m (r.unset none i) q
theorem pd_try_as {x n : Str} {c : Value} {i : Nat} {body suite : List Stmt} {b₀ : Stmt} {np pos pos' : Pos} {tb : DWX → DS} {ts : Addr → Value → Option Addr → DS} {Wout : DWX} (hs : X.stack = X.env :: X.outer) (hf : X.env.frame = some X.env.locals) (hN : X.N.Nodup)
    (tk : DTakes R F0 X Wout) (hc : Names X x c) (hi : X.N[i]? = some n) (hln : X.env.kindOf n = some .local)
    (hb : ∀ (F1 : Hp) (W : DWX) (pn : List (Addr × Obj)) (xe : Value → Shared → Prop), DTakes R F1 (X.tr pn xe) W → PassesOwn (model X.prog X.w) X.A X.env xe → PDSs R F1 (X.tr pn xe) body (tb W))
    (hsu : ∀ (F1 : Hp) (a : Addr) (oe : Obj) (cls : Value) (d : Option Addr) (pn : List (Addr × Obj)), Zc cls d oe → (∃ vs, oe.data = .fields vs) → PDSs R F1 (X.suite a ((a, oe) :: pn)) (b₀ :: suite) (ts a cls d)) :
    PDS R F0 X (.Try body [.ExceptHandler (some (.Name x np)) (some n) (b₀ :: suite) pos'] [] [] pos) (fun D ds M => tb (dWAs X.K c i ts Wout D) D ds M) := by
  refine PS.imp (ps_try_as (Wout := upW X.K R F0 Wout) (ts := fun a cls d => fun D σ H => ∃ F1, upS X.K R F1 (ts a cls d) D σ H) (tb := fun W => fun D σ H => ∃ Wd F1, (∀ cls d σ' H', upW X.K R F1 Wd cls d σ' H' → W cls d σ' H') ∧ upS X.K R F1 (tb Wd) D σ H)
    hs hf hN hi hln hc tk (fun W pn xe tk2 ps => ⟨fun pins s σ H D I ⟨Wd, F1, im, h⟩ => (hb F1 Wd pn xe (Takes.imp tk2 im) ps).run pins s σ H D I h⟩)
    (fun a oe cls d pn hz hf => ⟨fun pins s σ H D I ⟨F1, h⟩ => (hsu F1 a oe cls d pn hz hf).run pins s σ H D I h⟩)) ?_
  rintro D σ H ⟨F, ds, M, Dd, a, h, c⟩
  refine ⟨_, F, ?_, F, ds, M, _, ⟨Ex.refl _, a.hm, a.rs⟩, h, c⟩
  rintro cls d σ' H' ⟨F', ds', M', a', b, eb, yes, no⟩
  refine ⟨b, eb, fun z a2 na => ?_, fun z => ?_⟩
  · have k := c.mono a'.ex
    refine ⟨F', F', _, M', _, ⟨Ex.refl _, a'.hm, a'.rs.set (.ref a2) i⟩, yes z a2, ⟨?_, k.rt, ?_, ?_⟩⟩
    · exact k.nx.unset
    · exact k.bk.unset
    · exact k.ct.unset
  · exact ⟨F', ds', M', ⟨a.ex.trans a'.ex, a'.hm, a'.rs⟩, no z⟩
end
end Dv
namespace Dv
open PySem PySem.Spec L2
def endSet (D : Ends) (i : Nat) : Ends := { nx := fun τ G => D.nx (τ.set i none) G, rt := D.rt, bk := fun τ G => D.bk (τ.set i none) G, ct := fun τ G => D.ct (τ.set i none) G }
abbrev Cl := Value × Nat × (Addr → Value → Option Addr → TS)
def wClauses (K : PySem.W.Frag) (Wout : WX) (D : Ends) : List Cl → WX
  | [] => Wout
  | (c, i, ts) :: r => fun cls d τ G => ∃ b, PySem.W.exmOne K cls c = some b ∧ (b = true → ∀ a, G a = none → ts a cls d (endSet D i) (τ.set i (some (.ref a))) G) ∧ (b = false → wClauses K Wout D r cls d τ G)
inductive Clauses (X : Cx) : List ExceptHandler → List Cl → Prop
  | nil : Clauses X [] []
  | cons {x n : Str} {c : Value} {i : Nat} {ts : Addr → Value → Option Addr → TS} {b₀ : Stmt} {suite : List Stmt} {np pos' : Pos} {hds : List ExceptHandler} {l : List Cl} (names : Names X x c) (hi : X.N[i]? = some n) (hln : X.env.kindOf n = some .local)
      (su : ∀ (a : Addr) (oe : Obj) (cls : Value) (d : Option Addr) (pn : List (Addr × Obj)), Zc cls d oe → (∃ vs, oe.data = .fields vs) → PSs (X.suite a ((a, oe) :: pn)) (b₀ :: suite) (ts a cls d)) (rest : Clauses X hds l) :
      Clauses X (.ExceptHandler (some (.Name x np)) (some n) (b₀ :: suite) pos' :: hds) ((c, i, ts) :: l)
section
variable {X : Cx} {body : List Stmt} {h₀ : ExceptHandler} {hds : List ExceptHandler} {l : List Cl} {pos : Pos} {tb : WX → TS} {Wout : WX}
theorem ps_clauses (stk : X.stack = X.env :: X.outer) (frm : X.env.frame = some X.env.locals) (nod : X.N.Nodup) (out : Takes X Wout)
    (hb : ∀ (W : WX) (pn : List (Addr × Obj)) (xe : Value → Shared → Prop), Takes (X.tr pn xe) W → PassesOwn (model X.prog X.w) X.A X.env xe → PSs (X.tr pn xe) body (tb W)) (hh : Clauses X (h₀ :: hds) l) :
    PS X (.Try body (h₀ :: hds) [] [] pos) (fun D σ H => tb (wClauses X.K Wout D l) D σ H) := by
  refine ⟨fun pins s σ H D I h => ?_⟩
  have good := I.ok
  have frs0 : X.A.frames = some (X.env :: X.outer) := by rw [good.frames, stk]
  refine wpAny_Try_except ?_
  refine wpAny_mono ((hb (wClauses X.K Wout D l) (X.pn ++ pins) (fun ex q0 => wpAny (model X.prog X.w) X.A (noteFrame ex X.env) (fun _ q1 => wpAny (model X.prog X.w) X.A (setFlight ex none) (fun _ q2 =>
    wpAny (model X.prog X.w) X.A (handleBy ex X.env (h₀ :: hds)) (SP X pins D) X.xe q2) X.xe q1) X.xe q0) (fun u t' caught => ?_) PassesOwn.looking).run [] s σ H D (I.toTry _) h) (fun f t1 done => ?_) (fun ex q0 he => he)
  · obtain ⟨a, B, t0, pins1, τ, G, cls, d, rfl, It, nb, grows, sky0, fresh, os, bare, wish⟩ := caught
    have J : Inv X pins τ G t0 := It.ofTry good
    have sky1 : Sky B (X.env :: X.outer) a (Zc cls d) X.env.locals t'.heap := by rw [← stk]; exact sky0
    show wpAny (model X.prog X.w) X.A (noteFrame (.ref a) X.env) _ _ _
    refine Sky.land Zc.steady frs0 frm sky1 fun g3 fly3 grows3 => ?_
    have J3 : Inv X pins τ G { t' with heap := g3 } := J.landed nb fly3.1 (grows.trans grows3) os bare
    obtain ⟨ob3, fv3, get3, zc3, dat3⟩ := fly3.there
    have away : a ∉ frs (X.env :: X.outer) := fun hm => by
      obtain ⟨_, o', e', hnf⟩ := fly3.2.2.1.mem hm
      rw [get3] at e'; cases e'
      exact hnf _ dat3
    have awayL : a ≠ X.env.locals := fun z => away (List.mem_filterMap.mpr ⟨X.env, List.mem_cons_self, by rw [frm, z]⟩)
    have awayF : a ∉ X.fs := fun hm => by
      obtain ⟨en, hen, q⟩ := List.mem_filterMap.mp hm
      exact away (List.mem_filterMap.mpr ⟨en, List.mem_cons_of_mem _ hen, q⟩)
    have S3 := J3.suite get3 dat3 fresh awayL awayF
    have walk : ∀ {hs2 : List ExceptHandler} {l2 : List Cl}, Clauses X hs2 l2 → wClauses X.K Wout D l2 cls d τ G → wpAny (model X.prog X.w) X.A (handleBy (.ref a) X.env hs2) (SP X pins D) X.xe { t' with heap := g3 } := by
      intro hs2 l2 hk
      induction hk with
      | nil =>
        intro wish2
        refine wpAny_handleBy_nil ?_
        obtain ⟨k1, k2, k3, oe, vs, T, oT, ts', he, hz, hd, h1, hr⟩ := id fly3
        unfold PySem.passOn
        refine wpAny_bind (wpAny_field he hd h1 ?_)
        rw [if_neg (show ¬ ((Value.ref T == Value.none) = true) from by simp)]
        have leave : wpAny (model X.prog X.w) X.A (setFlight (.ref a) X.env.frame) (fun _ t4 => wpAny (model X.prog X.w) X.A (throw (.ref a) : Sem Flow) (SP X pins D) X.xe t4) X.xe { t' with heap := g3 } := by
          rw [frm]
          refine HandSPX.setFlight_upZ fly3 fun g4 sky4 grows4 => wpAny_throw (out _ _ ?_)
          exact ⟨a, B, t0, pins, τ, G, cls, d, rfl, J, nb, (grows.trans grows3).trans grows4, .inr (.inr (by rw [stk]; exact sky4)), fresh, os, bare, wish2⟩
        first
          | exact wpAny_bind (wpAny_pure (wpAny_bind leave))
          | exact wpAny_bind leave
      | @cons x n c i ts b₀ suite np pos' hds3 l3 names hi hln su rest ih =>
        intro wish2
        obtain ⟨b, eb, yes, no⟩ := wish2
        have loc : Loc X.env.scope n := .inl hln
        refine wpAny_handleBy_cons (codeAny_handlers_test ?_) (by intro q; cases q)
        have itsT : PySem.W.Looks (model X.prog X.w) g3 (typeOf (.ref a)) cls := fun A Q E s k q => wpAny_typeOf_ref (k _ _ get3) (by rw [zc3.1]; exact q)
        have its := PySem.W.exm_one (M := model X.prog X.w) (J3.kIn) itsT eb
        have named : ∀ {Q : Value → Shared → Prop} {E : Value → Shared → Prop}, Q c { t' with heap := g3 } → wpAny (model X.prog X.w) (X.A.mark (some (.ref a))) (eval (.Name x np) X.env) Q E { t' with heap := g3 } := fun {Q E} q => by
          obtain ⟨hg, hdbg, hm | ⟨hm, hv, hnn⟩⟩ := names
          · exact ld_glob (X := X.suite a ((a, ob3) :: (X.pn ++ pins))) S3 hg hm q hdbg
          · exact ld_blt (X := X.suite a ((a, ob3) :: (X.pn ++ pins))) S3 hg hm hv q hnn hdbg
        refine named (its.here ?_)
        cases b with
        | true =>
          refine codeAny_handlers_suite_as ?_
          refine HandSPX.lands_againZ fly3 fun g4 fly4 grows4 => ?_
          have J4 : Inv X pins τ G { t' with heap := g4 } := J.landed nb fly4.1 ((grows.trans grows3).trans grows4) os bare
          obtain ⟨ob4, fv4, get4, zc4, dat4⟩ := fly4.there
          have S4 := J4.suite get4 dat4 fresh awayL awayF
          refine store_ok (X := X.suite a ((a, ob4) :: (X.pn ++ pins))) (v := .ref a) S4 nod hi loc rfl (fun t5 S5 => ?_) (.inr hln)
          refine wpAny_mono ((su a ob4 cls d (X.pn ++ pins) zc4 ⟨_, dat4⟩).run [] t5 _ G _ S5 (yes rfl a fresh)) (fun f t6 done => ?_) (fun _ _ z => False.elim z)
          have fin : ∀ {τ6 : St} {G6 : Hp} {Q : Shared → Prop}, Inv (X.suite a ((a, ob4) :: (X.pn ++ pins))) [] τ6 G6 t6 → (∀ t7, Inv X pins (τ6.set i none) G6 t7 → Q t7) →
              wpAny (model X.prog X.w) X.A (do bindName X.env n .none; unbindBehindTheSuite X.env n pos') (fun _ t7 => Q t7) X.xe t6 := fun {τ6 G6 Q} S6 hq => gone_ok (S6.unsuite good) nod hi hln hq
          cases f with
          | next =>
            obtain ⟨τ6, G6, S6, q6⟩ := done
            exact fin S6 fun t7 J7 => ⟨_, _, J7, q6⟩
          | brk =>
            obtain ⟨τ6, G6, S6, q6⟩ := done
            exact fin S6 fun t7 J7 => ⟨_, _, J7, q6⟩
          | cont =>
            obtain ⟨τ6, G6, S6, q6⟩ := done
            exact fin S6 fun t7 J7 => ⟨_, _, J7, q6⟩
          | ret u =>
            obtain ⟨v6, τ6, G6, S6, r6, q6⟩ := done
            exact fin S6 fun t7 J7 => ⟨_, _, _, J7, r6, q6⟩
        | false =>
          show wpAny _ X.A (handleBy (.ref a) X.env hds3) _ _ _
          exact ih (no rfl)
    exact walk hh wish
  · cases f with
    | next =>
      obtain ⟨τ, G, It, q⟩ := done
      exact wpAny_execs_nil ⟨τ, G, It.ofTry good, q⟩
    | brk =>
      obtain ⟨τ, G, It, q⟩ := done
      exact ⟨τ, G, It.ofTry good, q⟩
    | cont =>
      obtain ⟨τ, G, It, q⟩ := done
      exact ⟨τ, G, It.ofTry good, q⟩
    | ret u =>
      obtain ⟨v, τ, G, It, r, q⟩ := done
      exact ⟨v, τ, G, It.ofTry good, r, q⟩
end
abbrev DCl := Value × Nat × (Addr → Value → Option Addr → DS)
def dEndSet (D : DEnds) (i : Nat) : DEnds := { nx := fun ds M => D.nx (ds.set i none) M, rt := D.rt, bk := fun ds M => D.bk (ds.set i none) M, ct := fun ds M => D.ct (ds.set i none) M }
def dWCl (K : PySem.W.Frag) (Wout : DWX) (D : DEnds) : List DCl → DWX
  | [] => Wout
  | (c, i, ts) :: r => fun cls d ds M => ∃ b, PySem.W.exmOne K cls c = some b ∧ (b = true → ∀ a, ts a cls d (dEndSet D i) (ds.set i (some (.ref a))) M) ∧ (b = false → dWCl K Wout D r cls d ds M)
section
variable {X : Cx} {R F0 : Hp}
inductive DClauses (R : Hp) (X : Cx) : List ExceptHandler → List DCl → Prop
  | nil : DClauses R X [] []
  | cons {x n : Str} {c : Value} {i : Nat} {ts : Addr → Value → Option Addr → DS} {b₀ : Stmt} {suite : List Stmt} {np pos' : Pos} {hds : List ExceptHandler} {l : List DCl} (names : Names X x c) (hi : X.N[i]? = some n) (hln : X.env.kindOf n = some .local)
      (su : ∀ (F1 : Hp) (a : Addr) (oe : Obj) (cls : Value) (d : Option Addr) (pn : List (Addr × Obj)), Zc cls d oe → (∃ vs, oe.data = .fields vs) → PDSs R F1 (X.suite a ((a, oe) :: pn)) (b₀ :: suite) (ts a cls d)) (rest : DClauses R X hds l) :
      DClauses R X (.ExceptHandler (some (.Name x np)) (some n) (b₀ :: suite) pos' :: hds) ((c, i, ts) :: l)
def clUp (K : PySem.W.Frag) (R : Hp) : List DCl → List Cl := List.map fun p => (p.1, p.2.1, fun a cls d => fun D σ H => ∃ F1, upS K R F1 (p.2.2 a cls d) D σ H)
theorem DClauses.up {hds : List ExceptHandler} {l : List DCl} (h : DClauses R X hds l) : Clauses X hds (clUp X.K R l) := by
  induction h with
  | nil => exact .nil
  | cons names hi hln su rest ih => exact .cons names hi hln (fun a oe cls d pn hz hf => ⟨fun pins s σ H D I ⟨F1, h⟩ => (su F1 a oe cls d pn hz hf).run pins s σ H D I h⟩) ih
theorem wcl_up {K : PySem.W.Frag} {F : Hp} {Wout : DWX} {Dd : DEnds} {D : Ends} (ex : Ex F0 F) (c : ContE K R F Dd D) : ∀ (l : List DCl) (cls : Value) (d : Option Addr) (σ : St) (H : Hp), upW K R F (dWCl K Wout Dd l) cls d σ H → wClauses K (upW K R F0 Wout) D (clUp K R l) cls d σ H
  | [], cls, d, σ, H, ⟨F', ds, M, a, h⟩ => ⟨F', ds, M, ⟨ex.trans a.ex, a.hm, a.rs⟩, h⟩
  | (cc, i, ts) :: r, cls, d, σ, H, ⟨F', ds, M, a, b, eb, yes, no⟩ => by
    refine ⟨b, eb, fun z a2 na => ?_, fun z => wcl_up ex c r cls d σ H ⟨F', ds, M, a, no z⟩⟩
    have k := c.mono a.ex
    exact ⟨F', F', _, M, _, ⟨Ex.refl _, a.hm, a.rs.set (.ref a2) i⟩, yes z a2, ⟨k.nx.unset, k.rt, k.bk.unset, k.ct.unset⟩⟩
theorem pd_try {body : List Stmt} {h₀ : ExceptHandler} {hds : List ExceptHandler} {l : List DCl} {pos : Pos} {tb : DWX → DS} {Wout : DWX} (stk : X.stack = X.env :: X.outer) (frm : X.env.frame = some X.env.locals) (nod : X.N.Nodup) (tk : DTakes R F0 X Wout)
    (hb : ∀ (F1 : Hp) (W : DWX) (pn : List (Addr × Obj)) (xe : Value → Shared → Prop), DTakes R F1 (X.tr pn xe) W → PassesOwn (model X.prog X.w) X.A X.env xe → PDSs R F1 (X.tr pn xe) body (tb W)) (hh : DClauses R X (h₀ :: hds) l) :
    PDS R F0 X (.Try body (h₀ :: hds) [] [] pos) (fun D ds M => tb (dWCl X.K Wout D l) D ds M) := by
  refine PS.imp (ps_clauses (Wout := upW X.K R F0 Wout) (tb := fun W => fun D σ H => ∃ Wd F1, (∀ cls d σ' H', upW X.K R F1 Wd cls d σ' H' → W cls d σ' H') ∧ upS X.K R F1 (tb Wd) D σ H)
    stk frm nod tk (fun W pn xe tk2 ps => ⟨fun pins s σ H D I ⟨Wd, F1, im, h⟩ => (hb F1 Wd pn xe (Takes.imp tk2 im) ps).run pins s σ H D I h⟩) hh.up) ?_
  rintro D σ H ⟨F, ds, M, Dd, a, h, c⟩
  exact ⟨_, F, fun cls d σ' H' => wcl_up a.ex c l cls d σ' H', F, ds, M, _, ⟨Ex.refl _, a.hm, a.rs⟩, h, c⟩
end
end Dv
namespace Dv
open PySem PySem.Spec L2
abbrev DO := Sl → MH → (Option Int → MH → Prop) → Prop
def upO (K : PySem.W.Frag) (R F0 : Hp) (t : DO) : TO := fun σ H Q => ∃ F ds M Qd, At K R F0 F H σ ds M ∧ t ds M Qd ∧ ∀ F' H' M' o, Ex F F' → HM K R F' H' M' → Qd o M' → Q o H'
abbrev PDO (R F0 : Hp) (X : Cx) (e : Option Expr) (t : DO) : Prop := PO X e (upO X.K R F0 t)
theorem PO.imp {X : Cx} {e : Option Expr} {t t' : TO} (h : PO X e t) (k : ∀ σ H Q, t' σ H Q → t σ H Q) : PO X e t' := ⟨fun pins s σ H Q I q => h.run pins s σ H Q I (k σ H Q q)⟩
section
variable {X : Cx} {R F0 : Hp} {K : PySem.W.Frag} {e : Expr} {te : DE} {lo hi : Option Expr} {tl th : DO} {p2 pos : Pos}
def dNoPart : DO := fun _ M Q => Q none M
def dPart (t : DE) : DO := fun ds M Q => t ds M fun x M1 => match x with
  | .int i => Q (some i) M1
  | _ => False
theorem pdo_none : PDO R F0 X none dNoPart := by
  refine PO.imp po_none ?_
  rintro σ H Q ⟨F, ds, M, Qd, a, h, c⟩
  exact c _ _ _ _ (Ex.refl _) a.hm h
theorem pdo_some (h : PDE R F0 X e te) : PDO R F0 X (some e) (dPart te) := by
  refine PO.imp (po_some h) ?_
  rintro σ H Q ⟨F, ds, M, Qd, a, h, c⟩
  refine ⟨F, ds, M, _, a, h, fun F1 H1 M1 x vx e1 m1 r1 q1 => ?_⟩
  cases r1 with
  | int i => exact ⟨i, rfl, c _ _ _ _ e1 m1 q1⟩
  | _ => exact q1.elim
def rSl : D → Option Int → Option Int → MH → DQ → Prop := fun x lo hi M Q => match x with
  | .lst xs => Q (.lst (cutD xs lo hi)) M
  | .tup xs => Q (.tup (cutD xs lo hi)) M
  | .scr ns => Q (.lst (cutD (ns.map .int) lo hi)) M
  | .str z => z.length ≤ sizeLine ∧ Q (.str (cutS z lo hi)) M
  | .ref p => ∃ xs, M p = some (.lst xs) ∧ Q (.lst (cutD xs lo hi)) M
  | _ => False
def vSl (K : PySem.W.Frag) : V → Option Int → Option Int → Hp → VK → Prop := fun x lo hi H Q => (rSlL K x lo hi H Q ∨ rSlA K x lo hi H Q) ∨ rSlS x lo hi H Q
theorem sl_all : SlR X (vSl X.K) := SlR.or (SlR.or sl_list sl_tupA) sl_str
theorem cut_rep {F : Hp} {ds : List D} {vs : List V} (r : RepL K F ds vs) (lo hi : Option Int) : RepL K F (cutD ds lo hi) (cutV vs lo hi) := by
  unfold cutD cutV
  rw [r.length]
  exact (r.drop _).take _
theorem RepL.ints {F : Hp} : ∀ ns : List Int, RepL K F (ns.map .int) (ns.map V.int)
  | [] => .nil
  | n :: ns => .cons (.int n) (RepL.ints ns)
def dSl (te : DE) (tl th : DO) : DE := fun ds M Q => te ds M fun x M1 => tl ds M1 fun l M2 => th ds M2 fun u M3 => rSl x l u M3 Q
theorem cut_whole {α : Type} (xs : List α) {i j : Nat} (h : i = 0 ∧ j = xs.length) : (xs.drop i).take (j - i) = xs := by
  obtain ⟨rfl, rfl⟩ := h
  simp
theorem pd_slice (he : PDE R F0 X e te) (hl : PDO R F0 X lo tl) (hu : PDO R F0 X hi th) : PDE R F0 X (.Subscript e (.Slice lo hi none p2) pos) (dSl te tl th) := by
  refine PE.imp (pe_slice sl_all he hl hu) ?_
  rintro σ H Q ⟨F, ds, M, Qd, a, h, c⟩
  refine ⟨F, ds, M, _, a, h, fun F1 H1 M1 x vx e1 m1 r1 q1 => ?_⟩
  refine ⟨F1, ds, M1, _, a.go e1 m1, q1, fun F2 H2 M2 l e2 m2 q2 => ?_⟩
  refine ⟨F2, ds, M2, _, a.go (e1.trans e2) m2, q2, fun F3 H3 M3 u e3 m3 q3 => ?_⟩
  have r3 := r1.mono (e2.trans e3)
  have c3 := c.mono ((e1.trans e2).trans e3)
  have m := m3
  unfold rSl at q3
  split at q3
  · cases r3 with | lst hx rx => exact .inl (.inl ⟨_, _, rfl, m.l hx, fun p n => c3.cold m n (.lst upd_same ((cut_rep rx _ _).mono (.cold m n))) q3⟩)
  · cases r3 with | tup hx rx =>
      refine .inl (.inr ⟨_, _, rfl, m.t hx, fun z => ?_, fun z p n => c3.cold m n (.tup (.of upd_same) ((cut_rep rx _ _).mono (.cold m n))) q3⟩)
      refine c3.now m (.tup hx rx) ?_
      have e : cutD _ l u = _ := cut_whole _ (by rw [rx.length]; exact z)
      rw [e] at q3
      exact q3
  · cases r3 with | scr hx => exact .inl (.inl ⟨_, _, rfl, m.ex.l hx, fun p n => c3.cold m n (.lst upd_same (cut_rep (RepL.ints _) _ _)) q3⟩)
  · cases r3; exact .inr ⟨_, rfl, q3.1, c3.now m (.str _) q3.2⟩
  · cases r3
    obtain ⟨xs, ex, q⟩ := q3
    obtain ⟨vs, hv, rl⟩ := m.look ex
    exact .inl (.inl ⟨_, _, rfl, .inl (.inl hv), fun p n => c3.cold m n (.lst upd_same ((cut_rep rl _ _).mono (.cold m n))) q⟩)
  · exact q3.elim
end
def M0 : MH := fun _ => none
def R0 : Hp := fun _ => none
theorem HM.start {K : PySem.W.Frag} {H : Hp} : HM K R0 H H M0 := ⟨Ex.refl _, (fun _ _ e => by cases e), (fun _ _ e => by cases e), (fun _ _ e => by cases e)⟩
section
open PyProof.Rows
theorem law_goes {P : Program} {w : World} {K : PySem.W.Frag} {mg mb : Str → Option Value} {k : Nat} {fa a : Addr} {fd : FuncData} {x : Str} {sp : DSp} {s₁ : Shared} {vs : List Value} {ns : List Int}
    (KX : K.In s₁.heap) (glob : s₁.heap.Ns mainGlobals mg) (blt : s₁.heap.Ns builtinsNs mb) (boot : ∀ x : Str, x ≠ "__name__" → mb x = bootBuiltins x) (lim : s₁.heap.NoLimit) (gens : s₁.gens = #[])
    (ha : s₁.heap.get? a = some { cls := .type "list", data := .seq vs.toArray }) (hi : IntsAre vs ns) (hl : ns.length ≤ sizeLine) (room : Room k callerA)
    (F : ∀ base : Heap, K.In base → base.Ns mainGlobals mg → FnG P w K mg base k fa fd [x] (upSp K sp)) (binds : ∀ (s : Shared) (u : Value), BindsTo s fd ⟨[u], []⟩ [(x, u)])
    (keeps : sp [.scr ns] M0 (fun d _ => d = .bl true) fun _ _ _ => False) :
    codeAny (model P w) callerA (.call (.ref fa) ⟨[.ref a], []⟩) (fun r s' => r = .ok (.ret (.bool true)) ∧ OldK s₁.heap s'.heap ∧ s'.os = s₁.os ∧ AllBare s'.gens) s₁ := by
  have rv := vals_ints hi
  have len := hi.length
  have core : ∀ H : Hp, Only H → SqL K H a (ns.map V.int) → HOk P w H s₁.heap → (∀ b, H b ≠ none → b = a) → (H a ≠ none → K.lookup a = none) →
      codeAny (model P w) callerA (.call (.ref fa) ⟨[.ref a], []⟩) (fun r s' => r = .ok (.ret (.bool true)) ∧ OldK s₁.heap s'.heap ∧ s'.os = s₁.os ∧ AllBare s'.gens) s₁ := by
    intro H only sq good one out
    have inB : ∀ {b : Addr} {o : Obj}, s₁.heap.get? b = some o → H b = none → (hidT s₁.heap H).get? b = some o := fun e n => hidT_get e n
    have dicts : ∀ {b : Addr} {o : Obj} {es : Array DictEntry} {ep : Nat}, s₁.heap.get? b = some o → o.data = .dict es ep → H b = none := fun {b o es ep} e d => by
      cases q : H b with
      | none => rfl
      | some u =>
        have e' : b = a := one b (by rw [q]; simp)
        subst e'
        rw [ha] at e; cases e
        have d' : Data.seq vs.toArray _ = Data.dict es ep := d
        cases d'
    have nsB : ∀ {b : Addr} {m : Str → Option Value}, s₁.heap.Ns b m → (hidT s₁.heap H).Ns b m := fun {b m} ⟨o, es, ep, e, d, r⟩ => ⟨o, es, ep, inB e (dicts e d), d, r⟩
    have kB : K.In (hidT s₁.heap H) := fun b o e => inB (KX b o e) (by
      cases q : H b with
      | none => rfl
      | some u =>
        have e' : b = a := one b (by rw [q]; simp)
        subst e'
        rw [out (by rw [q]; simp)] at e; cases e)
    have mods : Mod K mg (hidT s₁.heap H) := ⟨kB, nsB glob, ⟨mb, nsB blt, boot⟩, let ⟨mc, h1, h2⟩ := lim; ⟨mc, nsB h1, h2⟩⟩
    have e0 : Env0 P w K mg (hidT s₁.heap H) callerA [] s₁ H := ⟨rfl, mods, fun b o e => of_hidT e, Nat.le_of_eq (hidT_size _ _), trivial, fun b hb => absurd (show b ∈ ([] : List Addr) from hb) (by simp), good, .of_eq gens⟩
    refine codeAny_mono ((F _ kB (nsB glob)).run callerA [] s₁ H ⟨[.ref a], []⟩ [.ref a] [.ref a] (fun v _ => v = .bl true) (fun _ _ _ => False) room rfl e0 (binds s₁ (.ref a)) (.cons rfl .nil)
      ⟨R0, H, [.scr ns], M0, _, _, .start, .cons (.scr sq) .nil, keeps, fun F' H' M' d v ex m r q => (by have q' : d = .bl true := q; subst q'; cases r; rfl), fun _ _ _ _ _ _ _ z => z⟩) fun r s' h => ?_
    cases r with
    | error e =>
      obtain ⟨_, _, _, _, _, _, _, _, _, _, _, _, z⟩ := h
      exact z.elim
    | ok fl =>
      cases fl with
      | next => exact False.elim h
      | brk => exact False.elim h
      | cont => exact False.elim h
      | ret u =>
        obtain ⟨v, H', os, bare, un, good', r', q⟩ := h
        have q' : v = .bl true := q
        subst q'
        obtain rfl : u = Value.bool true := r'
        refine ⟨rfl, OldK.of_keep fun b o e => ?_, os, bare⟩
        cases q : H b with
        | none => exact un.keep b o e q (by intro z; exact absurd (show b ∈ ([] : List Addr) from z) (by simp)) (by simp)
        | some u =>
          rcases only b with z | ⟨ob, xs, z⟩
          · rw [q] at z; cases z
          · have z2 := un.frzs b ob _ z
            obtain ⟨e1, _⟩ := good b _ z
            obtain ⟨e2, _⟩ := good' b _ z2
            rw [e] at e1; cases e1
            exact e2
  cases hk : K.lookup a with
  | some o =>
    have e := KX a o hk
    rw [ha] at e
    cases e
    refine core (fun _ => none) (fun _ => .inl rfl) (.inr ⟨_, vs.toArray, _, hk, rfl, rfl, rfl, by rw [List.size_toArray, len]; exact hl, by simpa using rv⟩) (fun b u z => by have z' : (none : Option HO) = some u := z; cases z') (fun b z => absurd rfl z) fun z => absurd rfl z
  | none =>
    refine core (fun b => if b = a then some (.frz { cls := .type "list", data := .seq vs.toArray } (.lst (ns.map V.int))) else none) (fun b => ?_) (.inl (.inr ⟨{ cls := .type "list", data := .seq vs.toArray }, if_pos rfl⟩)) (fun b u z => ?_) (fun b z => ?_) fun _ => hk
    · by_cases hb : b = a
      · exact .inr ⟨_, _, if_pos hb⟩
      · exact .inl (if_neg hb)
    · by_cases hb : b = a
      · have z' := (if_pos hb).symm.trans z
        cases z'
        subst hb
        exact ⟨ha, by rw [List.length_map]; exact hl, vs, _, rv, ha⟩
      · have z' := (if_neg hb).symm.trans z
        cases z'
    · by_cases hb : b = a
      · exact hb
      · exact absurd (if_neg hb) z
theorem walk_ofD {l : PySem.W.OpenLaw} {n k : Nat} {q : Program} {loose : List Str} {XP : (Str → Option Value) → Heap → Prop} {YP : World → Heap → Prop} {d : DefRec} {K : Params → PySem.W.Frag} {sp : DSp} {x : Str}
    (hn : l.most = some n) (hn2 : n ≤ sizeLine) (hdf : d.params.defaults = []) (hr : Room k callerA) (hY : ∀ (w : World) (h : Heap), YP w h → (K w.params).In h)
    (F : ∀ (w : World) (mg : Str → Option Value) (fa : Addr) (h : Heap), (K w.params).In h → h.Ns mainGlobals mg → mg d.name = some (.ref fa) →
      ∃ fd : FuncData, (∀ (s : Shared) (u : Value), BindsTo s fd ⟨[u], []⟩ [(x, u)]) ∧ ∀ base : Heap, (K w.params).In base → base.Ns mainGlobals mg → FnG l.prog w (K w.params) mg base k fa fd [x] (upSp (K w.params) sp))
    (hsp : ∀ ns : List Int, ns.length ≤ n → (∀ z ∈ ns, Builtin.Int.intBits z ≤ 1048576) → sp [.scr ns] M0 (fun d _ => d = .bl true) fun _ _ _ => False) :
    PySem.W.WalkO q loose XP YP l.row.toRowW d [] (fun f vs => PySem.call f vs) := by
  refine Att.attach_callB hn hdf fun w s₀ s₁ mg mb fa o pm cd doc a vs ns G Y ho hd hcd hmg hobj hints hlen hbits hg => ?_
  have KX := hY w _ Y
  obtain ⟨fd, hb, hF⟩ := F w mg fa _ KX G.T.g hmg
  exact law_goes KX G.T.g G.T.b G.T.builtins G.T.nolimit hg hobj hints (Nat.le_trans hlen hn2) hr hF hb (hsp ns hlen hbits)
end
end Dv
namespace Dv
open PySem PySem.Spec L2
section
variable {X : Cx} {R F0 : Hp} {K : PySem.W.Frag} {a b c : Expr} {ta tb tc : DE} {pos : Pos}
def dChain (r r' : DR2) (ta tb tc : DE) : DE := fun ds M Q => ta ds M fun x M1 => tb ds M1 fun y M2 => r x y M2 fun z M3 => match z with
  | .bl k => Br k (tc ds M3 fun w M4 => r' y w M4 Q) (Q (.bl false) M3)
  | _ => False
theorem chain_up {r r' : DR2} {rv rv' : R2} (o : Op2 X.K r rv) (o' : Op2 X.K r' rv') : ∀ σ H Q, up X.K R F0 (dChain r r' ta tb tc) σ H Q → tChain rv rv' (up X.K R F0 ta) (up X.K R F0 tb) (up X.K R F0 tc) σ H Q := by
  rintro σ H Q ⟨F, ds, M, Qd, a, h, c⟩
  refine ⟨F, ds, M, _, a, h, fun F1 H1 M1 x vx e1 m1 r1 q1 => ?_⟩
  refine ⟨F1, ds, M1, _, a.go e1 m1, q1, fun F2 H2 M2 y vy e2 m2 r2 q2 => ?_⟩
  refine o R F2 H2 M2 x y vx vy _ _ m2 (r1.mono e2) r2 q2 fun F3 H3 M3 z vz e3 m3 r3 q3 => ?_
  cases r3 with
  | bl k =>
    refine ⟨k, rfl, ite_of_br ⟨fun e => ?_, fun e => ?_⟩⟩
    · refine ⟨F3, ds, M3, _, a.go ((e1.trans e2).trans e3) m3, q3.yes e, fun F4 H4 M4 w vw e4 m4 r4 q4 => ?_⟩
      exact o' R F4 H4 M4 y w vy vw _ _ m4 (r2.mono (e3.trans e4)) r4 q4 (c.mono (((e1.trans e2).trans e3).trans e4))
    · exact c _ _ _ _ _ ((e1.trans e2).trans e3) m3 (.bl false) (q3.no e)
  | _ => exact q3.elim
theorem pd_chain {op op' : CmpOp} {r r' : DR2} {rv rv' : R2} (ho : OpR X (compareOp op) rv) (o : Op2 X.K r rv) (ho' : OpR X (compareOp op') rv') (o' : Op2 X.K r' rv') (ha : PDE R F0 X a ta) (hb : PDE R F0 X b tb) (hc : PDE R F0 X c tc)
    (hm : lastMarks [op, op'] [b, c] = false := by with_unfolding_all rfl) : PDE R F0 X (.Compare a [op, op'] [b, c] pos) (dChain r r' ta tb tc) := PE.imp (pe_chain ho ho' ha hb hc hm) (chain_up o o')
theorem pdt_chain {op op' : CmpOp} {r r' : DR2} {rv rv' : R2} (ho : OpR X (compareOp op) rv) (o : Op2 X.K r rv) (ho' : OpR X (compareOp op') rv') (o' : Op2 X.K r' rv') (ha : PDE R F0 X a ta) (hb : PDE R F0 X b tb) (hc : PDE R F0 X c tc)
    (hm : lastMarks [op, op'] [b, c] = false := by with_unfolding_all rfl) : PDT R F0 X (.Compare a [op, op'] [b, c] pos) (dB (dChain r r' ta tb tc)) := by
  refine PT.imp (pt_chain ho ho' ha hb hc hm) ?_
  rintro σ H Q ⟨F, ds, M, Qd, a, h, c⟩
  refine chain_up o o' σ H _ ⟨F, ds, M, _, a, h, fun F1 H1 M1 x vx e1 m1 r1 q1 => ?_⟩
  cases r1 with
  | bl k => exact ⟨k, rfl, c _ _ _ _ e1 m1 q1⟩
  | _ => exact q1.elim
end
structure Dn (K : PySem.W.Frag) (mg : Str → Option Value) (x qual : Str) (st : Stmt) (ps : List Str) (f : Addr) (fd : FuncData) : Prop where
  g : mg x = some (.ref f)
  d : FunD K x qual (defArgs st) (defBody st) (defScope st) [] [] f fd
  b : Binds K fd ps []
structure Cal (P : Program) (w : World) (K : PySem.W.Frag) (mg : Str → Option Value) (base : Heap) (k : Nat) (x : Str) (f : Addr) (fd : FuncData) (ps : List Str) (sp : DSp) : Prop where
  G : FnG P w K mg base k f fd ps (upSp K sp)
  g : mg x = some (.ref f)
  kp : PySem.W.keepIn K (.ref f) = true
  b : Binds K fd ps []
theorem Cal.imp {P : Program} {w : World} {K : PySem.W.Frag} {mg : Str → Option Value} {base : Heap} {k : Nat} {x : Str} {f : Addr} {fd : FuncData} {ps : List Str} {sp sp' : DSp} (C : Cal P w K mg base k x f fd ps sp) (h : ∀ ds M Q E, sp' ds M Q E → sp ds M Q E) : Cal P w K mg base k x f fd ps sp' :=
  ⟨⟨fun vs H Q E ⟨R, F, ds, M, Qd, Ed, m, r, q, c, cx⟩ => C.G.len vs H Q E ⟨R, F, ds, M, Qd, Ed, m, r, h _ _ _ _ q, c, cx⟩,
    fun A outer s H args us vs Q E hr hG e0 hb rv ⟨R, F, ds, M, Qd, Ed, m, r, q, c, cx⟩ => C.G.run A outer s H args us vs Q E hr hG e0 hb rv ⟨R, F, ds, M, Qd, Ed, m, r, h _ _ _ _ q, c, cx⟩⟩, C.g, C.kp, C.b⟩
section
variable {P : Program} {w : World} {K : PySem.W.Frag} {mg : Str → Option Value} {base : Heap}
theorem cal_of {x qual : Str} {st : Stmt} {f : Addr} {fd : FuncData} {N ps : List Str} (k : Nat) {sp : DSp} (DD : Dn K mg x qual st ps f fd) (S : FnScope N ps (defScope st)) (len : ∀ ds M Q E, sp ds M Q E → ds.length = ps.length)
    (hb : ∀ (cdv : Value) (A : Around) (outer : List Env) (s : Shared) (H : Hp) (E0 : XK) (R F : Hp) (ds : List D) (M : MH) (Q : DQ) (E : DX),
      Room k (cxOf (L2.CX P w) P w K mg base N qual (defScope st) f cdv A outer s H E0).A → (cxOf (L2.CX P w) P w K mg base N qual (defScope st) f cdv A outer s H E0).A.guards = some [] →
      DTakes R F (cxOf (L2.CX P w) P w K mg base N qual (defScope st) f cdv A outer s H E0) (fun cls d _ M => E cls d M) → sp ds M Q E →
      ∃ t, PDSs R F (cxOf (L2.CX P w) P w K mg base N qual (defScope st) f cdv A outer s H E0) (defBody st) t ∧ t { nx := fun _ M' => Q .non M', rt := Q } (dstart N ds) M) : Cal P w K mg base (k + 1) x f fd ps sp :=
  ⟨fnD_of DD.d S len hb, DD.g, DD.d.kp, DD.b⟩
theorem funD_mk {x qual : Str} {st : Stmt} {f : Addr} {oc : Value} {od an : Option Addr} {osl : Array (Option Value)} {kV doc pm cdv ct : Value} (l : K.lookup f = some ⟨oc, od, .func (PySem.W.fnOf x qual (defArgs st) (defBody st) (defScope st) .none kV doc pm an cdv ct), osl⟩)
    (c : PySem.W.codeIn K cdv qual = true) (k : PySem.W.keepIn K (.ref f) = true) : FunD K x qual (defArgs st) (defBody st) (defScope st) [] [] f (PySem.W.fnOf x qual (defArgs st) (defBody st) (defScope st) .none kV doc pm an cdv ct) :=
  ⟨⟨oc, od, .none, kV, doc, pm, an, cdv, ct, osl, rfl, l, c, .inl ⟨rfl, rfl⟩, .inl rfl⟩, k⟩
end
section
variable {X : Cx} {R F0 : Hp} {k j : Nat} {f : Addr} {fd : FuncData} {ps : List Str} {sp : DSp} {W : DWX} {x : Str} {p pos : Pos} {e : Expr} {es : List Expr}
theorem pd_cal {t : DA} (C : Cal X.prog X.w X.K X.mg X.base k x f fd ps sp) (hr : Room j X.A) (hk : k ≤ j) (hG : X.A.guards = some []) (tk : DTakes R F0 X W) (ha : PDA R F0 X (e :: es) t) (hg : Gl X x := by rfl) (hdb : (x == ("__debug__" : Str)) = false := by decide)
    (he : starEach (e :: es) X.env = (false, eval e X.env) :: starEach es X.env := by rfl) (hpl : (backTo pos (starEach es X.env)).any (·.1) = false := by rfl) : PDE R F0 X (.Call (.Name x p) (e :: es) [] pos) (dCall sp [] W t) :=
  pd_call C.G (hr.mono hk) hG hg C.g C.kp C.b Dfl.nil tk ha hdb he hpl
theorem pd_cal0 (C : Cal X.prog X.w X.K X.mg X.base k x f fd ps sp) (hr : Room j X.A) (hk : k ≤ j) (hG : X.A.guards = some []) (tk : DTakes R F0 X W) (hg : Gl X x := by rfl) (hdb : (x == ("__debug__" : Str)) = false := by decide) :
    PDE R F0 X (.Call (.Name x p) [] [] pos) (dCall sp [] W dNil) := pd_call0 C.G (hr.mono hk) hG hg C.g C.kp C.b Dfl.nil tk hdb
end
end Dv
namespace Dv
open PySem PySem.Spec L2
section
variable {X : Cx} {R F0 : Hp} {K : PySem.W.Frag} {a b c : Expr} {ta tb tc : DE} {pos : Pos}
def dPar (i j : Nat) (t : DA) : DS := fun D ds M => t ds M fun xs M1 => match xs with
  | [x, y] => D.nx ((ds.set i (some x)).set j (some y)) M1
  | _ => False
theorem pd_par (i j : Nat) {x y : Str} {a b : Expr} {t : DA} {px py pt : Pos} {kt k2 pt2} (hc : X.calm = true) (hN : X.N.Nodup) (ha : PDA R F0 X [a, b] t) (hi : X.N[i]? = some x := by rfl) (hj : X.N[j]? = some y := by rfl) (hij : i ≠ j := by decide)
    (hx : X.env.scope.names.lookup x = some .local := by rfl) (hy : X.env.scope.names.lookup y = some .local := by rfl)
    (hw : swappedStores [.Tuple [.Name x px, .Name y py] kt pt] (.Tuple [a, b] k2 pt2) X.env = pure (some [x, y]) := by rfl)
    (hs : swapsWithSole [.Tuple [.Name x px, .Name y py] kt pt] (.Tuple [a, b] k2 pt2) pos.line X.env = pure false := by rfl) : PDS R F0 X (.Assign [.Tuple [.Name x px, .Name y py] kt pt] (.Tuple [a, b] k2 pt2) pos) (dPar i j t) := by
  refine PS.imp (ps_par hc hN hi hj hij hx hy ha hw hs) ?_
  rintro D σ H ⟨F, ds, M, Dd, a, h, c⟩
  refine ⟨F, ds, M, _, a, h, fun F1 H1 M1 xs vs e1 m1 r1 q1 => ?_⟩
  split at q1
  · obtain ⟨v, w, rfl, r2, r3⟩ := repl_two r1
    exact ⟨v, w, rfl, c.nx _ _ _ _ _ e1 m1 (((a.rs.mono e1).set r2 i).set r3 j) q1⟩
  · exact q1.elim
theorem pd_dct0 : PDE R F0 X (.Dict [] [] pos) (dC (.dct [])) := by
  refine PE.imp pe_dnewK ?_
  rintro σ H Q ⟨F, ds, M, Qd, a, h, c⟩
  exact fun p n => c.cold a.hm n (.dct upd_same .nil) h
def dDct1 (tk tv : DE) : DE := fun ds M Q => tk ds M fun x M1 => tv ds M1 fun y M2 => match x with
  | .int i => Q (.dct [(.inl i, y)]) M2
  | .str s => Q (.dct [(.inr s, y)]) M2
  | _ => False
theorem pd_dct1 {k v : Expr} {tk tv : DE} (hk : ∀ R, PDE R F0 X k tk) (hv : ∀ R, PDE R F0 X v tv) : PDE R F0 X (.Dict [some k] [v] pos) (dDct1 tk tv) := by
  refine PE.imp (pe_disp (pps_cons (PE.ex hk) (PE.ex hv) pps_nil) rfl rfl (by simp) (by simp)) ?_
  rintro σ H Q ⟨F, ds, M, Qd, a, h, c⟩
  intro p hp
  have nR := a.hm.freeR hp
  refine ⟨upd R p (.dK []), F, ds, M, _, ⟨a.ex, a.hm.lend hp, a.rs⟩, h, fun F1 H1 M1 x vx e1 m1 r1 q1 => ⟨upd R p (.dK []), F1, ds, M1, _, ⟨a.ex.trans e1, m1, a.rs.mono e1⟩, q1, fun F2 H2 M2 y vy e2 m2 r2 q2 => ?_⟩⟩
  refine ⟨(m2.rr p _ upd_same).1, ?_⟩
  have fin : ∀ key : Key, vx = kV key → Qd (.dct [(key, y)]) M2 → ∃ kvs : List (Key × V), [(vx, vy)] = kvs.map (fun kv => (kV kv.1, kv.2)) ∧ kvs.length ≤ 15 ∧ Q (.ref p) (upd H2 p (.dK (mergeK [] kvs))) := fun key ek q => by
    refine ⟨[(key, vy)], by rw [ek]; rfl, by simp, ?_⟩
    obtain ⟨e3, m3⟩ := (m2.lent (v := .dK [(key, vy)]) nR).back nR
    have z : mergeK [] [(key, vy)] = [(key, vy)] := rfl
    rw [z]
    exact c _ _ _ _ _ ((e1.trans e2).trans e3) m3 (.dct upd_same (.cons (r2.mono e3) .nil)) q
  split at q2
  · cases r1; exact fin (.inl _) rfl q2
  · cases r1; exact fin (.inr _) rfl q2
  · exact q2.elim
end
theorem hu_room {X : Cx} {k : Nat} (r : Room k X.A) : X.A.units + 64 < cLine := by
  have := r.un
  omega
def Pool (M : MH) (p : Addr) : Prop := ∃ a b c : Int, M p = some (.lst [.int a, .int b, .int c]) ∧ 0 ≤ a ∧ a < 2147483648 ∧ 0 ≤ b
structure Go (p : Addr) (M M' : MH) : Prop where
  pool : Pool M' p
  old : ∀ q o, q ≠ p → M q = some o → M' q = some o
theorem Go.trans {p : Addr} {M M1 M2 : MH} (g : Go p M M1) (h : Go p M1 M2) : Go p M M2 := ⟨h.pool, fun q o n e => h.old q o n (g.old q o n e)⟩
theorem Go.refl {p : Addr} {M : MH} (h : Pool M p) : Go p M M := ⟨h, fun _ _ _ e => e⟩
theorem Pool.set {M : MH} {p : Addr} {a b c : Int} (ha : 0 ≤ a) (hb : a < 2147483648) (hc : 0 ≤ b) : Go p M (mup M p (.lst [.int a, .int b, .int c])) := ⟨⟨a, b, c, mup_same, ha, hb, hc⟩, fun q o n e => by rw [mup_ne n]; exact e⟩
theorem Go.new {p q : Addr} {M : MH} {o : MO} (h : Pool M p) (n : M q = none) : Go p M (mup M q o) := by
  have hq : ∀ r o', M r = some o' → mup M q o r = some o' := fun r o' e => by
    rw [mup_ne (fun z => by rw [z, n] at e; cases e)]
    exact e
  obtain ⟨a, b, c, e, z⟩ := h
  exact ⟨⟨a, b, c, hq _ _ e, z⟩, fun r o' _ e' => hq r o' e'⟩
end Dv
namespace Dv
open PySem PySem.Spec L2
theorem loop_inv {g : DG} {body : DS} {W : DEnds} (Iv : List D → Sl → MH → Prop) (hend : ∀ ds M, Iv [] ds M → W.nx ds M)
    (step : ∀ x rest ds M, Iv (x :: rest) ds M → (∀ ds M, Iv rest ds M → dLoop g body W rest ds M) → g x ds M fun ds1 M1 => body { nx := dLoop g body W rest, rt := W.rt, bk := W.nx, ct := dLoop g body W rest } ds1 M1) :
    ∀ (xs : List D) (ds : Sl) (M : MH), Iv xs ds M → dLoop g body W xs ds M
  | [], ds, M, h => hend ds M h
  | x :: xs, ds, M, h => step x xs ds M h fun ds M h => loop_inv Iv hend step xs ds M h
theorem lc_inv {g : DG} {tt : DT} {te : DE} {vs : List Nat} {ds : Sl} {Q : List D → MH → Prop} (Iv : List D → List D → MH → Prop) (hend : ∀ acc M, Iv [] acc M → Q acc M)
    (step : ∀ x rest acc M, Iv (x :: rest) acc M → (∀ acc M, Iv rest acc M → dLcL g tt te vs ds Q rest acc M) →
      g x (dwipe ds vs) M fun ds1 M1 => tt ds1 M1 fun b M2 => Br b (te ds1 M2 fun y M3 => acc.length < sizeLine ∧ dLcL g tt te vs ds Q rest (acc ++ [y]) M3) (dLcL g tt te vs ds Q rest acc M2)) :
    ∀ (xs acc : List D) (M : MH), Iv xs acc M → dLcL g tt te vs ds Q xs acc M
  | [], acc, M, h => hend acc M h
  | x :: xs, acc, M, h => step x xs acc M h fun acc M h => lc_inv Iv hend step xs acc M h
theorem small_line {n : Nat} (h : n < 1000000) : n < sizeLine := by
  rw [sizeLine_eq]
  omega
theorem small_le {n : Nat} (h : n < 1000000) : n ≤ sizeLine := Nat.le_of_lt (small_line h)
theorem Sh.non {n k : Nat} : Sh n k .non := ⟨rfl, rfl, rfl, Nat.zero_le _, Nat.zero_le _⟩
theorem Sh.bl {n k : Nat} (b : Bool) : Sh n k (.bl b) := ⟨rfl, rfl, rfl, Nat.zero_le _, Nat.zero_le _⟩
theorem log2_small {n : Nat} (h : n < 10 ^ 50) : n.log2 < 170 := by
  by_cases z : n = 0
  · subst z; decide
  · have e := (Nat.log2_lt z (k := 170)).mpr (Nat.lt_trans h (by decide +kernel))
    exact e
theorem Sh.int {n k : Nat} {i : Int} (h : i.natAbs < 10 ^ 50) (hk : 200 ≤ k) : Sh n k (.int i) := by
  have l := log2_small h
  have e := int_text_length_le10 (k := 50) (by decide) h
  refine ⟨rfl, ?_, ?_, Nat.zero_le _, ?_⟩
  · show PyData.showable (.int i) = true
    simp only [PyData.showable, decide_eq_true_eq]
    omega
  · show PyData.leavesShort 64 (.int i) = true
    simp only [PyData.leavesShort, decide_eq_true_eq]
    show (Str.ofString (toString i)).length ≤ 64
    rw [ofString_length]
    omega
  · show PyData.weight (.int i) ≤ k
    simp only [PyData.weight]
    split <;> omega
def Sg (x : Str) : Prop := ∀ c ∈ x.cps.toList, c < 1114112
theorem Sh.str {n k : Nat} {x : Str} (h : Sg x) (hk : x.length ≤ k) : Sh n k (.str x) := by
  refine ⟨rfl, rfl, ?_, Nat.zero_le _, hk⟩
  show PyData.leavesShort 64 (.str x) = true
  simp only [PyData.leavesShort, List.all_eq_true, decide_eq_true_eq]
  intro c hc
  have := h c hc
  exact Nat.lt_trans this (by decide)
theorem sg_ofString (s : String) : Sg (Str.ofString s) := by
  intro c hc
  rw [Str.ofString_eq_toList] at hc
  simp only [List.mem_map] at hc
  obtain ⟨d, _, rfl⟩ := hc
  have := d.valid
  show d.val.toNat < 1114112
  rcases this with h | h
  · have : d.val.toNat < 0xd800 := h
    omega
  · exact h.2
theorem Sh.txt {n k : Nat} (s : String) (h : s.length ≤ k) : Sh n k (.str (Str.ofString s)) := .str (sg_ofString s) (by rw [ofString_length]; exact h)
theorem Sh.listAll {n k : Nat} : ∀ {xs : List D}, (∀ d ∈ xs, Sh n k d) → plainL xs = true ∧ PyData.showableAll (pOfL xs) = true ∧ PyData.leavesShortAll 64 (pOfL xs) = true ∧ PyData.depthAll (pOfL xs) ≤ n ∧ PyData.weightAll (pOfL xs) ≤ xs.length * (k + 1)
  | [], _ => ⟨rfl, rfl, rfl, Nat.zero_le _, Nat.zero_le _⟩
  | x :: xs, h => by
    have a := h x List.mem_cons_self
    obtain ⟨b1, b2, b3, b4, b5⟩ := Sh.listAll (xs := xs) fun d m => h d (List.mem_cons_of_mem _ m)
    refine ⟨?_, ?_, ?_, ?_, ?_⟩
    · simp only [plainL, a.pl, b1, Bool.and_self]
    · simp only [pOfL, PyData.showableAll, a.sw, b2, Bool.and_self]
    · simp only [pOfL, PyData.leavesShortAll, a.lv, b3, Bool.and_self]
    · simp only [pOfL, PyData.depthAll]
      exact Nat.max_le.mpr ⟨a.dp, b4⟩
    · simp only [pOfL, PyData.weightAll, List.length_cons]
      have := a.wt
      have e : (xs.length + 1) * (k + 1) = xs.length * (k + 1) + (k + 1) := Nat.succ_mul _ _
      omega
theorem Sh.lst {n k : Nat} {xs : List D} (h : ∀ d ∈ xs, Sh n k d) : Sh (n + 1) (xs.length * (k + 1)) (.lst xs) := by
  obtain ⟨b1, b2, b3, b4, b5⟩ := Sh.listAll h
  refine ⟨b1, ?_, ?_, ?_, ?_⟩
  · simpa only [pOf, PyData.showable] using b2
  · simpa only [pOf, PyData.leavesShort] using b3
  · simp only [pOf, PyData.depth]
    omega
  · simpa only [pOf, PyData.weight] using b5
theorem Sh.tup {n k : Nat} {xs : List D} (h : ∀ d ∈ xs, Sh n k d) : Sh (n + 1) (xs.length * (k + 1)) (.tup xs) := by
  obtain ⟨b1, b2, b3, b4, b5⟩ := Sh.listAll h
  refine ⟨b1, ?_, ?_, ?_, ?_⟩
  · simpa only [pOf, PyData.showable] using b2
  · simpa only [pOf, PyData.leavesShort] using b3
  · simp only [pOf, PyData.depth]
    omega
  · simpa only [pOf, PyData.weight] using b5
theorem all_nil {p : D → Prop} : ∀ d ∈ ([] : List D), p d := fun d h => by cases h
theorem all_cons {p : D → Prop} {x : D} {xs : List D} (h : p x) (r : ∀ d ∈ xs, p d) : ∀ d ∈ x :: xs, p d := fun d m => by
  rcases List.mem_cons.mp m with rfl | m
  · exact h
  · exact r d m
theorem kind_of {d : D} {n k : Nat} (h : Sh n k d) : (d = .non ∨ (∃ b, d = .bl b) ∨ (∃ i, d = .int i) ∨ (∃ x, d = .str x)) ∨ (∃ xs, d = .tup xs) ∨ (∃ xs, d = .lst xs) ∨ ∃ ks, d = .dct ks := by
  have p := h.pl
  cases d with
  | non => exact .inl (.inl rfl)
  | bl b => exact .inl (.inr (.inl ⟨b, rfl⟩))
  | int i => exact .inl (.inr (.inr (.inl ⟨i, rfl⟩)))
  | str x => exact .inl (.inr (.inr (.inr ⟨x, rfl⟩)))
  | tup xs => exact .inr (.inl ⟨xs, rfl⟩)
  | lst xs => exact .inr (.inr (.inl ⟨xs, rfl⟩))
  | dct ks => exact .inr (.inr (.inr ⟨ks, rfl⟩))
  | ty n => cases p
  | ref a => cases p
  | sl C xs => cases p
  | ins C fs => cases p
  | scr ns => cases p
end Dv
namespace Dv
open PySem PySem.Spec L2
theorem cmL {i j : Int} (a : -(2 ^ 64) < i) (b : i < 2 ^ 64) : CMulA i j := .inl (.inl ⟨a, b⟩)
theorem cmR {i j : Int} (a : -(2 ^ 64) < j) (b : j < 2 ^ 64) : CMulA i j := .inl (.inr ⟨a, b⟩)
theorem cdw {i j : Int} (a : 0 < j) (b : j < 2 ^ 64) : CDivW i j := by
  refine ⟨a, ?_⟩
  have h : j.natAbs < 10 ^ 50 := by omega
  have := log2_small h
  omega
theorem cdp {i j : Int} (a : 0 < j) (b : j < 2 ^ 64) : CDivP i j := by
  refine ⟨a, ?_⟩
  have h : j.natAbs < 10 ^ 50 := by omega
  have l := log2_small h
  unfold Builtin.divisionGoesByPylong
  have z : (j == 0) = false := by
    have : j ≠ 0 := by omega
    simpa using this
  simp only [z]
  have : ¬ (j.natAbs.log2 / 30 + 1 > 300) := by omega
  simp [this]
theorem cp10 {j : Int} (a : 0 ≤ j) (b : j ≤ 1000000) : CPow 10 j := ⟨a, b, by decide⟩
theorem ints_all {ns : List Int} : ∀ d ∈ ns.map D.int, ∃ n, d = .int n := fun d h => by
  obtain ⟨n, _, rfl⟩ := List.mem_map.mp h
  exact ⟨n, rfl⟩
theorem cut_all {p : D → Prop} {xs : List D} {lo hi : Option Int} (h : ∀ d ∈ xs, p d) : ∀ d ∈ cutD xs lo hi, p d := fun d m => h d (List.mem_of_mem_drop (List.mem_of_mem_take m))
theorem atI_in {α : Type} {xs : List α} {i : Int} (h0 : 0 ≤ i) (h1 : i < xs.length) : ∃ d, atI xs i = some d ∧ d ∈ xs := by
  have l : i.toNat < xs.length := by omega
  refine ⟨xs[i.toNat], ?_, List.getElem_mem l⟩
  unfold atI ixN
  rw [if_pos h0, if_pos h1]
  exact List.getElem?_eq_getElem l
theorem Pool.ne {M : MH} {p : Addr} {o : MO} (h : Pool M p) : ∃ a b c : Int, M p = some (.lst [.int a, .int b, .int c]) := let ⟨a, b, c, e, _⟩ := h; ⟨a, b, c, e⟩
structure Odd (d : D) : Prop where
  sh : Sh 10 2000 d
  sm : ∀ i, d = .int i → i.natAbs < 10 ^ 41
theorem Odd.of {d : D} (h : Sh 10 2000 d) (n : ∀ i, d ≠ .int i) : Odd d := ⟨h, fun i e => absurd e (n i)⟩
theorem Odd.int {i : Int} (h : i.natAbs < 10 ^ 41) : Odd (.int i) := ⟨.int (Nat.lt_trans h (by decide +kernel)) (by decide), fun j e => by cases e; exact h⟩
theorem Odd.txt (s : String) (h : s.length ≤ 2000) : Odd (.str (Str.ofString s)) := .of (.txt s h) fun i e => by cases e
theorem Odd.tup {n k : Nat} {xs : List D} (h : ∀ d ∈ xs, Sh n k d) (a : n < 10) (b : xs.length * (k + 1) ≤ 2000) : Odd (.tup xs) := .of ((Sh.tup h).mono a b) fun i e => by cases e
theorem Odd.lst {n k : Nat} {xs : List D} (h : ∀ d ∈ xs, Sh n k d) (a : n < 10) (b : xs.length * (k + 1) ≤ 2000) : Odd (.lst xs) := .of ((Sh.lst h).mono a b) fun i e => by cases e
theorem e41 : (10 : Nat) ^ 41 = 100000000000000000000000000000000000000000 := by decide
theorem e50 : (10 : Nat) ^ 50 = 100000000000000000000000000000000000000000000000000 := by decide
theorem Odd.num {i : Int} (a : -1000000 ≤ i) (b : i ≤ 1000000) : Odd (.int i) := .int (by rw [e41]; omega)
theorem sh_num {n k : Nat} {i : Int} (a : -1000000 ≤ i) (b : i ≤ 1000000) (hk : 200 ≤ k) : Sh n k (.int i) := .int (by rw [e50]; omega) hk
theorem odd_str_num {i : Int} (a : -1000000 ≤ i) (b : i ≤ 1000000) : Odd (.str (toString i)) := by
  have e := int_text_length_le10 (k := 12) (a := i) (by decide) (by omega)
  exact Odd.txt (toString i) (by omega)
theorem sl (n : Nat) (h : n < 1000000 := by decide) : n ≤ sizeLine := small_le h
theorem odd_menu {m : Int} (a : -1000000 ≤ m) (b : m ≤ 1000000) : ∀ d ∈ ([.non, .int 0, .int 1, .bl true, .bl false, .str (Str.ofString ""), .str (Str.ofString "a b"), .str (Str.ofString "down"), .tup [], .tup [.str (Str.ofString "a"), .int 0], .lst [.int 1], .lst [], .dct [],
    .dct [(.inr (Str.ofString "a"), .tup [.int 1])], .int (-1), .int (10 ^ 39)] ++ [.tup [.str (Str.ofString "a"), .non, .lst [.int 2]], .int m, .str (Str.ofString (toString m)), .tup [.int m], .tup [.tup [.str (Str.ofString "x")], .tup []], .lst [.lst [], .lst [.non]], .int 24, .str (Str.ofString "near"),
    .tup [.tup [], .lst [], .dct []]] : List D), Odd d := by
  have c1 : Sh 3 300 (.str (Str.ofString "a")) := .txt "a" (by decide)
  have c2 : ∀ i : Int, -1000000 ≤ i → i ≤ 1000000 → Sh 3 300 (.int i) := fun i a b => sh_num a b (by decide)
  have c3 : Sh 3 300 (.dct []) := ⟨rfl, rfl, rfl, by decide, by decide⟩
  have c4 : Sh 3 300 (.lst []) := ⟨rfl, rfl, rfl, by decide, by decide⟩
  have c5 : Sh 3 300 (.tup []) := ⟨rfl, rfl, rfl, by decide, by decide⟩
  show ∀ d ∈ ([_, _, _, _, _, _, _, _, _, _, _, _, _, _, _, _, _, _, _, _, _, _, _, _, _] : List D), Odd d
  refine all_cons (.of .non nofun) <| all_cons (.num (by decide) (by decide)) <| all_cons (.num (by decide) (by decide)) <| all_cons (.of (.bl _) nofun) <| all_cons (.of (.bl _) nofun) <| all_cons (.txt "" (by decide)) <| all_cons (.txt "a b" (by decide)) <| all_cons (.txt "down" (by decide)) <| ?_
  refine all_cons (.of (c5.mono (by decide) (by decide)) nofun) <| all_cons (.tup (all_cons c1 <| all_cons (c2 0 (by decide) (by decide)) all_nil) (by decide) (by decide)) <| all_cons (.lst (all_cons (c2 1 (by decide) (by decide)) all_nil) (by decide) (by decide)) <| all_cons (.of (c4.mono (by decide) (by decide)) nofun) <| all_cons (.of (c3.mono (by decide) (by decide)) nofun) <| ?_
  refine all_cons (.of ⟨rfl, by decide +kernel, by decide +kernel, by decide +kernel, by decide +kernel⟩ nofun) <| all_cons (.num (by decide) (by decide)) <| all_cons (.int (by decide +kernel)) <| ?_
  refine all_cons (.tup (k := 600) (n := 4) (all_cons (c1.mono (by decide) (by decide)) <| all_cons .non <| all_cons ((Sh.lst (all_cons (c2 2 (by decide) (by decide)) all_nil)).mono (by decide) (by decide)) all_nil) (by decide) (by decide)) <| all_cons (.num a b) <| all_cons (odd_str_num a b) <| all_cons (.tup (all_cons (c2 m a b) all_nil) (by decide) (show 1 * 301 ≤ 2000 by decide)) <| ?_
  refine all_cons (.tup (k := 600) (n := 4) (all_cons ((Sh.tup (all_cons (Sh.txt (n := 3) (k := 300) "x" (by decide)) all_nil)).mono (by decide) (by decide)) <| all_cons (c5.mono (by decide) (by decide)) all_nil) (by decide) (by decide)) <| ?_
  refine all_cons (.lst (k := 600) (n := 4) (all_cons (c4.mono (by decide) (by decide)) <| all_cons ((Sh.lst (all_cons (Sh.non (n := 3) (k := 300)) all_nil)).mono (by decide) (by decide)) all_nil) (by decide) (by decide)) <| ?_
  exact all_cons (.num (by decide) (by decide)) <| all_cons (.txt "near" (by decide)) <| all_cons (.tup (all_cons c5 <| all_cons c4 <| all_cons c3 all_nil) (by decide) (by decide)) all_nil
end Dv
namespace Dv
open PySem PySem.Spec L2
section
variable {X : Cx} {R F0 : Hp} {k j : Nat} {f : Addr} {fd : FuncData} {ps : List Str} {sp : DSp} {W : DWX} {x : Str} {p pos : Pos} {e : Expr} {es : List Expr}
theorem pd_callK0 {tk : DA} {ks : List Str} {gD : List D → List D → List D} {kws : List Keyword} (G : FnG X.prog X.w X.K X.mg X.base k f fd ps (upSp X.K sp)) (hr : Room k X.A) (hG : X.A.guards = some []) (hg : Gl X x) (hm : X.mg x = some (.ref f)) (hk : PySem.W.keepIn X.K (.ref f) = true)
    (hb : KB X.K fd ps 0 ks gD) (tx : DTakes R F0 X W) (hkw : PDK R F0 X kws tk) (hall : (backToKw pos (keywordEach kws X.env)).all (·.1.isSome) = true := by rfl) (hks : (backToKw pos (keywordEach kws X.env)).filterMap (·.1) = ks := by rfl)
    (hdb : (x == ("__debug__" : Str)) = false := by decide)
    (hpl : ((backTo pos (starEach [] X.env)).any (·.1) || (backToKw pos (keywordEach kws X.env)).any (·.1.isNone)) = false := by rfl) :
    PDE R F0 X (.Call (.Name x p) [] kws pos) (dCallK 0 ks.length sp gD W dNil tk) := by
  obtain ⟨g, gV, kb, rel⟩ := hb.ex
  refine ⟨fun pins s σ H Q I h => ?_⟩
  obtain ⟨F, ds, M, Qd, a, h, c⟩ := h
  refine wpAny_Call_Name_kw (ld_glob I hg hm ?_ hdb)
  refine PySem.W.callWith_KW0 (h₀ := X.base) I.ok.mod.kin hk hall (thn (hkw.run pos pins s σ H (fun zs H2 => zs.length = ks.length ∧ upSp X.K sp (gV [] zs) H2 Q (fun cls d H' => upW X.K R F0 W cls d σ H')) I ⟨F, ds, M, _, a, h, fun F2 H2 M2 ys zs e2 m2 r2 q2 => ?_⟩) ?_) hpl
  · exact ⟨r2.length.symm.trans q2.1.2, sp_up (F1 := F2) (a.go e2 m2) (rel F2 _ _ _ _ .nil r2) q2.2 (c.mono e2)⟩
  · rintro us s2 ⟨zs, H2, I2, rz, l2, q2⟩
    rw [hks]
    exact ⟨I2.kIn, wpAny_call (at_call tx I2 (G.run X.A X.stack s2 H2 ⟨[], ks.zip us⟩ (g [] us) (gV [] zs) Q _ hr hG I2.env0 (kb.to s2 [] us I2.kIn rfl (rz.length.symm.trans l2)) (kb.rel .nil rz) q2))⟩
theorem pd_calK0 {tk : DA} {ks : List Str} {gD : List D → List D → List D} {kws : List Keyword} (C : Cal X.prog X.w X.K X.mg X.base k x f fd ps sp) (hb : KB X.K fd ps 0 ks gD) (hr : Room j X.A) (hk : k ≤ j) (hG : X.A.guards = some []) (tx : DTakes R F0 X W) (hkw : PDK R F0 X kws tk) (hg : Gl X x := by rfl)
    (hall : (backToKw pos (keywordEach kws X.env)).all (·.1.isSome) = true := by rfl) (hks : (backToKw pos (keywordEach kws X.env)).filterMap (·.1) = ks := by rfl) (hdb : (x == ("__debug__" : Str)) = false := by decide)
    (hpl : ((backTo pos (starEach [] X.env)).any (·.1) || (backToKw pos (keywordEach kws X.env)).any (·.1.isNone)) = false := by rfl) : PDE R F0 X (.Call (.Name x p) [] kws pos) (dCallK 0 ks.length sp gD W dNil tk) :=
  pd_callK0 C.G (hr.mono hk) hG hg C.g C.kp hb tx hkw hall hks hdb hpl
theorem pd_calKn {t tk : DA} {n : Nat} {ks : List Str} {gD : List D → List D → List D} {kws : List Keyword} (C : Cal X.prog X.w X.K X.mg X.base k x f fd ps sp) (hb : KB X.K fd ps n ks gD) (hr : Room j X.A) (hk : k ≤ j) (hG : X.A.guards = some []) (tx : DTakes R F0 X W) (ha : PDA R F0 X (e :: es) t) (hkw : PDK R F0 X kws tk) (hg : Gl X x := by rfl)
    (hall : (backToKw pos (keywordEach kws X.env)).all (·.1.isSome) = true := by rfl) (hks : (backToKw pos (keywordEach kws X.env)).filterMap (·.1) = ks := by rfl) (hdb : (x == ("__debug__" : Str)) = false := by decide) (he : starEach (e :: es) X.env = (false, eval e X.env) :: starEach es X.env := by rfl)
    (hpl : ((backTo pos (starEach (e :: es) X.env)).any (·.1) || (backToKw pos (keywordEach kws X.env)).any (·.1.isNone)) = false := by rfl) : PDE R F0 X (.Call (.Name x p) (e :: es) kws pos) (dCallK n ks.length sp gD W t tk) :=
  pd_callK C.G (hr.mono hk) hG hg C.g C.kp hb tx ha hkw hall hks hdb he hpl
end
def pick {α : Type} (z : α) (ix : List Nat) (xs : List α) : List α := ix.map fun i => xs.getD i z
theorem vals_getD : ∀ {vs : List V} {us : List Value}, Vals vs us → ∀ i, RelV (vs.getD i .non) (us.getD i .none)
  | _, _, .nil, i => by simp [RelV]
  | _, _, .cons r _, 0 => r
  | _, _, .cons _ rs, i + 1 => by simpa using vals_getD rs i
theorem repl_getD {K : PySem.W.Frag} {F : Hp} : ∀ {ds : List D} {vs : List V}, RepL K F ds vs → ∀ i, Rep K F (ds.getD i .non) (vs.getD i .non)
  | _, _, .nil, i => by simp; exact .non
  | _, _, .cons r _, 0 => r
  | _, _, .cons _ rs, i + 1 => by simpa using repl_getD rs i
theorem kb_of {K : PySem.W.Frag} {fd : FuncData} {ps : List Str} {n : Nat} {ks : List Str} (ix : List Nat) (h : ∀ (s : Shared) (us ws : List Value), K.In s.heap → us.length = n → ws.length = ks.length → BindsTo s fd ⟨us, ks.zip ws⟩ (ps.zip (pick .none ix (us ++ ws)))) :
    KB K fd ps n ks (fun xs ys => pick .non ix (xs ++ ys)) := by
  refine ⟨fun us ws => pick .none ix (us ++ ws), fun vs zs => pick .non ix (vs ++ zs), ⟨h, fun r1 r2 => ?_⟩, fun F ds vs es ws r1 r2 => ?_⟩
  · have r := r1.append r2
    unfold pick
    induction ix with
    | nil => exact .nil
    | cons i ix ih =>
      refine .cons (vals_getD r i) ?_
      clear h
      clear ih
      induction ix with
      | nil => exact .nil
      | cons j ix ih => exact .cons (vals_getD r j) ih
  · have r := r1.append r2
    unfold pick
    clear h
    induction ix with
    | nil => exact .nil
    | cons i ix ih => exact .cons (repl_getD r i) ih
def Gv (K : PySem.W.Frag) (mg : Str → Option Value) (x : Str) (d : D) : Prop := ∃ (v : V) (u : Value), mg x = some u ∧ RelV v u ∧ ∀ F, Rep K F d v
theorem pd_gv {X : Cx} {R F0 : Hp} {x : Str} {d : D} {pos : Pos} (g : Gv X.K X.mg x d) (hg : Gl X x) (hd : (x == ("__debug__" : Str)) = false := by decide) : PDE R F0 X (.Name x pos) (dC d) := by
  obtain ⟨v, u, hm, r, rd⟩ := g
  exact pd_glob hg hm r rd hd
def isInt : D → Bool
  | .int _ => true
  | _ => false
def isBl : D → Bool
  | .bl _ => true
  | _ => false
def isStr : D → Bool
  | .str _ => true
  | _ => false
def isTup : D → Bool
  | .tup _ => true
  | _ => false
def isLst : D → Bool
  | .lst _ => true
  | _ => false
def isDct : D → Bool
  | .dct _ => true
  | _ => false
def Kd (d : D) : Prop := (tyD d).isSome = true
theorem Sh.kd {n k : Nat} {d : D} (h : Sh n k d) : Kd d := by
  have p := h.pl
  cases d <;> first | rfl | (cases p)
theorem Odd.kd {d : D} (h : Odd d) : Kd d := h.sh.kd
theorem kd_int {d : D} {Q : Bool → Prop} (h : Kd d) (q : Q (isInt d || isBl d)) : isQ "int" d Q := by
  cases d with
  | non  => exact ⟨false, by decide +kernel, q⟩
  | bl b => exact ⟨true, by decide +kernel, q⟩
  | int b => exact ⟨true, by decide +kernel, q⟩
  | str b => exact ⟨false, by decide +kernel, q⟩
  | tup b => exact ⟨false, by decide +kernel, q⟩
  | lst b => exact ⟨false, by decide +kernel, q⟩
  | dct b => exact ⟨false, by decide +kernel, q⟩
  | _ => cases h
theorem kd_bool {d : D} {Q : Bool → Prop} (h : Kd d) (q : Q (isBl d)) : isQ "bool" d Q := by
  cases d with
  | non  => exact ⟨false, by decide +kernel, q⟩
  | bl b => exact ⟨true, by decide +kernel, q⟩
  | int b => exact ⟨false, by decide +kernel, q⟩
  | str b => exact ⟨false, by decide +kernel, q⟩
  | tup b => exact ⟨false, by decide +kernel, q⟩
  | lst b => exact ⟨false, by decide +kernel, q⟩
  | dct b => exact ⟨false, by decide +kernel, q⟩
  | _ => cases h
theorem kd_str {d : D} {Q : Bool → Prop} (h : Kd d) (q : Q (isStr d)) : isQ "str" d Q := by
  cases d with
  | non  => exact ⟨false, by decide +kernel, q⟩
  | bl b => exact ⟨false, by decide +kernel, q⟩
  | int b => exact ⟨false, by decide +kernel, q⟩
  | str b => exact ⟨true, by decide +kernel, q⟩
  | tup b => exact ⟨false, by decide +kernel, q⟩
  | lst b => exact ⟨false, by decide +kernel, q⟩
  | dct b => exact ⟨false, by decide +kernel, q⟩
  | _ => cases h
theorem kd_tuple {d : D} {Q : Bool → Prop} (h : Kd d) (q : Q (isTup d)) : isQ "tuple" d Q := by
  cases d with
  | non  => exact ⟨false, by decide +kernel, q⟩
  | bl b => exact ⟨false, by decide +kernel, q⟩
  | int b => exact ⟨false, by decide +kernel, q⟩
  | str b => exact ⟨false, by decide +kernel, q⟩
  | tup b => exact ⟨true, by decide +kernel, q⟩
  | lst b => exact ⟨false, by decide +kernel, q⟩
  | dct b => exact ⟨false, by decide +kernel, q⟩
  | _ => cases h
theorem kd_list {d : D} {Q : Bool → Prop} (h : Kd d) (q : Q (isLst d)) : isQ "list" d Q := by
  cases d with
  | non  => exact ⟨false, by decide +kernel, q⟩
  | bl b => exact ⟨false, by decide +kernel, q⟩
  | int b => exact ⟨false, by decide +kernel, q⟩
  | str b => exact ⟨false, by decide +kernel, q⟩
  | tup b => exact ⟨false, by decide +kernel, q⟩
  | lst b => exact ⟨true, by decide +kernel, q⟩
  | dct b => exact ⟨false, by decide +kernel, q⟩
  | _ => cases h
theorem kd_dict {d : D} {Q : Bool → Prop} (h : Kd d) (q : Q (isDct d)) : isQ "dict" d Q := by
  cases d with
  | non  => exact ⟨false, by decide +kernel, q⟩
  | bl b => exact ⟨false, by decide +kernel, q⟩
  | int b => exact ⟨false, by decide +kernel, q⟩
  | str b => exact ⟨false, by decide +kernel, q⟩
  | tup b => exact ⟨false, by decide +kernel, q⟩
  | lst b => exact ⟨false, by decide +kernel, q⟩
  | dct b => exact ⟨true, by decide +kernel, q⟩
  | _ => cases h
theorem asg_join {te : DE} {g : DG} {W : DEnds} {ds : Sl} {M : MH} (Pj : D → MH → Prop) (h : ∀ Q' : DQ, (∀ x M', Pj x M' → Q' x M') → te ds M Q') (tail : ∀ x M', Pj x M' → g x ds M' W.nx) : dAsg te g W ds M := h _ tail
theorem seq_join {t u : DS} {W : DEnds} {ds : Sl} {M : MH} (Pj : Sl → MH → Prop) (h : ∀ N : Sl → MH → Prop, (∀ ds M, Pj ds M → N ds M) → t { W with nx := N } ds M) (tail : ∀ ds M, Pj ds M → u W ds M) : dSeq t u W ds M := h _ tail
def Old (M M' : MH) : Prop := ∀ q o, M q = some o → M' q = some o
theorem Old.refl {M : MH} : Old M M := fun _ _ e => e
theorem Old.trans {M M1 M2 : MH} (g : Old M M1) (h : Old M1 M2) : Old M M2 := fun q o e => h q o (g q o e)
theorem Old.new {M : MH} {p : Addr} {o : MO} (n : M p = none) : Old M (mup M p o) := fun q o' e => by
  rw [mup_ne (fun z => by rw [z, n] at e; cases e)]
  exact e
theorem Old.go {M M' : MH} {p : Addr} (h : Old M M') (g : Pool M p) : Go p M M' := by
  obtain ⟨a, b, c, e, z⟩ := g
  exact ⟨⟨a, b, c, h _ _ e, z⟩, fun q o _ e => h q o e⟩
theorem Go.old' {p q : Addr} {M M' : MH} {o : MO} (g : Go p M M') (n : q ≠ p) (e : M q = some o) : M' q = some o := g.old q o n e
theorem Go.to_old {p : Addr} {M M' M2 : MH} (g : Go p M M') (h : Old M' M2) : Go p M M2 := g.trans (h.go g.pool)
theorem cmB {i j : Int} (a : i.natAbs < 10 ^ 50) (b : j.natAbs < 10 ^ 50) : CMulA i j := by
  have h1 := log2_small a
  have h2 := log2_small b
  refine .inr ?_
  show (Builtin.Int.intBits i : Int) + (Builtin.Int.intBits j : Int) ≤ 134217728
  have z : ∀ n : Int, n.natAbs.log2 < 170 → Builtin.Int.intBits n ≤ 171 := fun n h => by
    unfold Builtin.Int.intBits
    split <;> omega
  have := z i h1
  have := z j h2
  omega
theorem cdB {i j : Int} (a : 0 < j) (b : j.natAbs < 10 ^ 50) : CDivW i j := ⟨a, by have := log2_small b; omega⟩
end Dv
-- LAW law_k11_whole_roundings_by_bounds wholedrift_k11_whole_roundings_by_bounds
namespace Dv
open PySem PySem.Spec L2
abbrev top (i : Nat) : Stmt := PySem.Challenge.pw_wholedrift_k11_whole_roundings_by_bounds.main.body.getD i (.Pass ⟨0, 0, 0, 0⟩)
abbrev st_law_seed : Stmt := top 13
abbrev N_law_seed : List Str := ["_law_script", "_law_spot", "_law_state", "_law_cell"]
abbrev ps_law_seed : List Str := ["_law_script", "_law_spot"]
theorem sc_law_seed : FnScope N_law_seed ps_law_seed (defScope st_law_seed) := ⟨rfl, rfl, rfl, by decide +kernel, rfl, by decide +kernel, by decide +kernel⟩
abbrev st_law_pool : Stmt := top 14
abbrev N_law_pool : List Str := ["_law_cell"]
abbrev ps_law_pool : List Str := ["_law_cell"]
theorem sc_law_pool : FnScope N_law_pool ps_law_pool (defScope st_law_pool) := ⟨rfl, rfl, rfl, by decide +kernel, rfl, by decide +kernel, by decide +kernel⟩
abbrev st_law_draw : Stmt := top 15
abbrev N_law_draw : List Str := ["_law_pool_here", "_law_many", "_law_digit", "_law_state"]
abbrev ps_law_draw : List Str := ["_law_pool_here", "_law_many"]
theorem sc_law_draw : FnScope N_law_draw ps_law_draw (defScope st_law_draw) := ⟨rfl, rfl, rfl, by decide +kernel, rfl, by decide +kernel, by decide +kernel⟩
abbrev st_law_pick : Stmt := top 16
abbrev N_law_pick : List Str := ["_law_pool_here", "_law_things"]
abbrev ps_law_pick : List Str := ["_law_pool_here", "_law_things"]
theorem sc_law_pick : FnScope N_law_pick ps_law_pick (defScope st_law_pick) := ⟨rfl, rfl, rfl, by decide +kernel, rfl, by decide +kernel, by decide +kernel⟩
abbrev st_law_odd : Stmt := top 17
abbrev N_law_odd : List Str := ["_law_pool_here", "_law_many", "_law_menu"]
abbrev ps_law_odd : List Str := ["_law_pool_here"]
theorem sc_law_odd : FnScope N_law_odd ps_law_odd (defScope st_law_odd) := ⟨rfl, rfl, rfl, by decide +kernel, rfl, by decide +kernel, by decide +kernel⟩
section
variable {P : Program} {w : World} {K : PySem.W.Frag} {mg : Str → Option Value} {base : Heap}
def sp_seed : DSp := fun ds M Q _ => ∃ ns i, ds = [.scr ns, .int i] ∧ 0 ≤ i ∧ ∀ n : Int, Q (.int n) M
theorem ok_seed {f : Addr} {fd : FuncData} (DD : Dn K mg "_law_seed" "_law_seed" st_law_seed ps_law_seed f fd) (n_len : mg "len" = none) (n_int : mg "int" = none) : Cal P w K mg base 1 "_law_seed" f fd ps_law_seed sp_seed := by
  refine cal_of 0 DD sc_law_seed (fun ds M Q E h => ?_) fun cdv A outer s H E0 R F ds M Q E rm hG tk h => ?_
  · obtain ⟨ns, i, rfl, _⟩ := h; rfl
  · have hu := hu_room rm
    have nd := sc_law_seed.nd
    refine ⟨_, (pds_cons (pd_ifS (pdt_cmp op_lt o2_lt (pd_var 1) (pd_callB call_lenD rfl n_len (by rfl) (pda_cons (pd_var 0) pda_nil)) (nomark _)) (pds_one (pd_ret (pd_ix ix_seq o2_ix (pd_var 0) (pd_var 1) (fun _ _ => rfl)))) pds_nil)
      (pds_cons (pd_set 2 nd (pd_op op_addD o2_add (pd_op op_mulA o2_mul pd_int (pd_op op_addD o2_add (pd_var 1) pd_int)) pd_int))
      (pds_cons (pd_for (passes_of rfl) rfl (pdi_list (pd_slice (pd_var 0) pdo_none (pdo_some pd_int))) (pdg_name 3 nd) (pds_one (pd_set 2 nd (pd_op op_mod o2_mod (pd_callTy call_intD rfl n_int (by rfl) (pda_cons (pd_op op_addD o2_add (pd_op op_mulA o2_mul (pd_var 2) pd_int) (pd_var 3)) pda_nil)) pd_int))))
      (pds_one (pd_ret (pd_var 2)))))), ?_⟩
    obtain ⟨ns, i, rfl, h0, q⟩ := h
    refine ⟨fun hlt => ?_, fun hge => ?_⟩
    · obtain ⟨n, hn, _⟩ := atI_in (xs := ns) h0 (of_decide_eq_true hlt)
      exact ⟨n, hn, q n⟩
    · refine ⟨cmL (by decide) (by decide), ?_⟩
      refine loop_inv (fun rest ds M' => M' = M ∧ (∀ d ∈ rest, ∃ n, d = .int n) ∧ ∃ (st : Int) (c : Option D), ds = [some (.scr ns), some (.int i), some (.int st), c]) ?_ ?_ _ _ _ ?_
      · rintro ds M' ⟨rfl, _, st, c, rfl⟩
        exact q st
      · rintro x rest ds M' ⟨rfl, hx, st, c, rfl⟩ go
        obtain ⟨n, rfl⟩ := hx x List.mem_cons_self
        exact ⟨cmR (by decide) (by decide), (by decide : (0 : Int) < 2147483629), go _ _ ⟨rfl, fun d m => hx d (List.mem_cons_of_mem _ m), _, _, rfl⟩⟩
      · exact ⟨rfl, cut_all ints_all, _, _, rfl⟩
def sp_pool : DSp := fun ds M Q _ => ∃ c : Int, ds = [.int c] ∧ ∀ p M', M p = none → Go p M M' → Q (.ref p) M'
theorem ok_pool {f : Addr} {fd : FuncData} (DD : Dn K mg "_law_pool" "_law_pool" st_law_pool ps_law_pool f fd) (n_int : mg "int" = none) (n_abs : mg "abs" = none) : Cal P w K mg base 1 "_law_pool" f fd ps_law_pool sp_pool := by
  refine cal_of 0 DD sc_law_pool (fun ds M Q E h => ?_) fun cdv A outer s H E0 R F ds M Q E rm hG tk h => ?_
  · obtain ⟨c, rfl, _⟩ := h; rfl
  · have hu := hu_room rm
    have nd := sc_law_pool.nd
    refine ⟨_, (pds_one (pd_ret (pd_lstM (pda_cons (pd_op op_mod o2_mod (pd_callTy call_intD rfl n_int (by rfl) (pda_cons (pd_var 0) pda_nil)) pd_int) (pda_cons (pd_if (pdt_cmp op_ge o2_ge (pd_callB call_absD rfl n_abs (by rfl) (pda_cons (pd_var 0) pda_nil)) (pd_op op_pow o2_pow pd_int pd_int) (nomark _)) (pd_callB call_absD rfl n_abs (by rfl) (pda_cons (pd_var 0) pda_nil)) pd_int) (pda_cons pd_int pda_nil)))))), ?_⟩
    obtain ⟨c, rfl, q⟩ := h
    have m1 : 0 ≤ c % 2147483629 := Int.emod_nonneg _ (by decide)
    have m2 : c % 2147483629 < 2147483648 := Int.lt_trans (Int.emod_lt_of_pos _ (by decide)) (by decide)
    refine ⟨(by decide : (0 : Int) < 2147483629), cp10 (by decide) (by decide), fun hlt => ?_, fun hge => ?_⟩
    · refine ⟨small_le (n := 3) (by decide), fun p n => q p _ n ⟨⟨_, _, _, mup_same, m1, m2, ?_⟩, fun r o z e => by rw [mup_ne z]; exact e⟩⟩
      split <;> omega
    · exact ⟨small_le (n := 3) (by decide), fun p n => q p _ n ⟨⟨_, _, _, mup_same, m1, m2, Int.le_refl _⟩, fun r o z e => by rw [mup_ne z]; exact e⟩⟩
def sp_draw : DSp := fun ds M Q _ => ∃ p m, ds = [.ref p, .int m] ∧ Pool M p ∧ 0 < m ∧ m < 2 ^ 64 ∧ ∀ (r : Int) M', 0 ≤ r → r < m → Go p M M' → Q (.int r) M'
theorem ok_draw {f : Addr} {fd : FuncData} (DD : Dn K mg "_law_draw" "_law_draw" st_law_draw ps_law_draw f fd) (n_int : mg "int" = none) (n_divmod : mg "divmod" = none) : Cal P w K mg base 1 "_law_draw" f fd ps_law_draw sp_draw := by
  refine cal_of 0 DD sc_law_draw (fun ds M Q E h => ?_) fun cdv A outer s H E0 R F ds M Q E rm hG tk h => ?_
  · obtain ⟨p, m, rfl, _⟩ := h; rfl
  · have hu := hu_room rm
    have nd := sc_law_draw.nd
    refine ⟨_, (pds_cons (pd_asg (pd_op op_addD o2_add (pd_ix ix_seq o2_ix (pd_var 0) pd_int (fun _ _ => rfl)) pd_int) (pdg_sub (pd_var 0) pd_int set_list s3_set))
      (pds_cons (pd_ifS (pdt_cmp op_gt o2_gt (pd_ix ix_seq o2_ix (pd_var 0) pd_int (fun _ _ => rfl)) pd_int (nomark _)) (pds_cons (pd_asg (pd_callB call_divmodD rfl n_divmod (by rfl) (pda_cons (pd_ix ix_seq o2_ix (pd_var 0) pd_int (fun _ _ => rfl)) (pda_cons (pd_var 1) pda_nil))) (pdg_tup rfl (pdgs_cons (pdg_sub (pd_var 0) pd_int set_list s3_set) (pdgs_cons (pdg_name 2 nd) pdgs_nil))))
      (pds_one (pd_ret (pd_var 2)))) pds_nil)
      (pds_cons (pd_set 3 nd (pd_callTy call_intD rfl n_int (by rfl) (pda_cons (pd_ix ix_seq o2_ix (pd_var 0) pd_int (fun _ _ => rfl)) pda_nil)))
      (pds_cons (pd_set 3 nd (pd_op op_mod o2_mod (pd_callTy call_intD rfl n_int (by rfl) (pda_cons (pd_op op_addD o2_add (pd_op op_addD o2_add (pd_op op_mulA o2_mul (pd_var 3) (pd_op op_addD o2_add (pd_op op_mod o2_mod (pd_callTy call_intD rfl n_int (by rfl) (pda_cons (pd_var 3) pda_nil)) pd_int) pd_int)) (pd_op op_mulA o2_mul pd_int (pd_ix ix_seq o2_ix (pd_var 0) pd_int (fun _ _ => rfl)))) pd_int) pda_nil)) pd_int))
      (pds_cons (pd_asg (pd_op op_mod o2_mod (pd_callTy call_intD rfl n_int (by rfl) (pda_cons (pd_op op_addD o2_add (pd_op op_mulA o2_mul (pd_var 3) pd_int) (pd_op op_mulA o2_mul pd_int (pd_ix ix_seq o2_ix (pd_var 0) pd_int (fun _ _ => rfl)))) pda_nil)) pd_int) (pdg_sub (pd_var 0) pd_int set_list s3_set))
      (pds_one (pd_ret (pd_op op_mod o2_mod (pd_callTy call_intD rfl n_int (by rfl) (pda_cons (pd_op op_fdivW o2_fdv (pd_ix ix_seq o2_ix (pd_var 0) pd_int (fun _ _ => rfl)) pd_int) pda_nil)) (pd_var 1))))))))), ?_⟩
    obtain ⟨p, m, rfl, ⟨a, b, c, e, ha, hb, hc⟩, m0, m64, q⟩ := h
    have ix0 : ∀ x y z : D, atI [x, y, z] 0 = some x := fun _ _ _ => rfl
    have ix1 : ∀ x y z : D, atI [x, y, z] 1 = some y := fun _ _ _ => rfl
    have ix2 : ∀ x y z : D, atI [x, y, z] 2 = some z := fun _ _ _ => rfl
    refine ⟨_, _, e, rfl, _, 2, e, rfl, ?_⟩
    refine ⟨_, _, mup_same, rfl, fun hpos => ?_, fun hneg => ?_⟩
    · refine ⟨_, _, mup_same, rfl, cdp m0 m64, rfl, _, 1, mup_same, rfl, ?_⟩
      refine q _ _ (Int.emod_nonneg _ (by omega)) (Int.emod_lt_of_pos _ m0) ?_
      rw [mup_mup]
      exact Pool.set ha hb (Int.ediv_nonneg hc (by omega))
    · refine ⟨_, _, mup_same, rfl, ?_⟩
      refine ⟨(by decide : (0 : Int) < 7919), cmL (by omega) (by omega), _, _, mup_same, rfl, cmL (by decide) (by decide), (by decide : (0 : Int) < 2147483629), ?_⟩
      refine ⟨cmR (by decide) (by decide), _, _, mup_same, rfl, cmL (by decide) (by decide), (by decide : (0 : Int) < 2147483587), _, 0, mup_same, rfl, ?_⟩
      refine ⟨_, _, mup_same, rfl, cdw (by decide) (by decide), m0, ?_⟩
      refine q _ _ (Int.emod_nonneg _ (by omega)) (Int.emod_lt_of_pos _ m0) ?_
      rw [mup_mup]
      exact Pool.set (Int.emod_nonneg _ (by decide)) (Int.lt_trans (Int.emod_lt_of_pos _ (by decide)) (by decide)) hc
def sp_pick : DSp := fun ds M Q _ => ∃ p xs, ds = [.ref p, .lst xs] ∧ Pool M p ∧ xs ≠ [] ∧ xs.length < 1000000 ∧ ∀ d ∈ xs, ∀ M', Go p M M' → Q d M'
theorem ok_pick {f fdr : Addr} {fd fdd : FuncData} (DD : Dn K mg "_law_pick" "_law_pick" st_law_pick ps_law_pick f fd) (n_len : mg "len" = none) (c_law_draw : Cal P w K mg base 1 "_law_draw" fdr fdd ps_law_draw sp_draw) : Cal P w K mg base 2 "_law_pick" f fd ps_law_pick sp_pick := by
  refine cal_of 1 DD sc_law_pick (fun ds M Q E h => ?_) fun cdv A outer s H E0 R F ds M Q E rm hG tk h => ?_
  · obtain ⟨p, xs, rfl, _⟩ := h; rfl
  · have hu := hu_room rm
    have nd := sc_law_pick.nd
    refine ⟨_, (pds_one (pd_ret (pd_ix ix_seq o2_ix (pd_var 1) (pd_cal c_law_draw rm (by decide) hG takes_no (pda_cons (pd_var 0) (pda_cons (pd_callB call_lenD rfl n_len (by rfl) (pda_cons (pd_var 1) pda_nil)) pda_nil))) (fun _ _ => rfl)))), ?_⟩
    obtain ⟨p, xs, rfl, hp, ne, sm, q⟩ := h
    have l : 0 < xs.length := List.length_pos_iff.mpr ne
    refine ⟨_, _, rfl, hp, by omega, by omega, fun r M' h0 h1 g => ?_⟩
    obtain ⟨d, ed, md⟩ := atI_in (xs := xs) h0 h1
    exact ⟨d, ed, q d md M' g⟩
def sp_odd : DSp := fun ds M Q _ => ∃ p, ds = [.ref p] ∧ Pool M p ∧ ∀ d M', Odd d → Go p M M' → Q d M'
theorem ok_odd {f fdr fpi : Addr} {fd fdd fdp : FuncData} (DD : Dn K mg "_law_odd" "_law_odd" st_law_odd ps_law_odd f fd) (n_str : mg "str" = none) (c_law_draw : Cal P w K mg base 1 "_law_draw" fdr fdd ps_law_draw sp_draw)
    (c_law_pick : Cal P w K mg base 2 "_law_pick" fpi fdp ps_law_pick sp_pick) : Cal P w K mg base 3 "_law_odd" f fd ps_law_odd sp_odd := by
  refine cal_of 2 DD sc_law_odd (fun ds M Q E h => ?_) fun cdv A outer s H E0 R F ds M Q E rm hG tk h => ?_
  · obtain ⟨p, rfl, _⟩ := h; rfl
  · have hu := hu_room rm
    have nd := sc_law_odd.nd
    refine ⟨_, (pds_cons (pd_set 1 nd (pd_op op_sub o2_sub (pd_cal c_law_draw rm (by decide) hG takes_no (pda_cons (pd_var 0) (pda_cons (pd_op op_pow o2_pow pd_int pd_int) pda_nil))) pd_int))
      (pds_cons (pd_set 2 nd (pd_lst (pda_cons pd_non (pda_cons pd_int (pda_cons pd_int (pda_cons pd_bl (pda_cons pd_bl (pda_cons pd_str (pda_cons pd_str (pda_cons pd_str (pda_cons (pd_tup pda_nil) (pda_cons (pd_tup (pda_cons pd_str (pda_cons pd_int pda_nil))) (pda_cons (pd_lst (pda_cons pd_int pda_nil)) (pda_cons (pd_lst pda_nil) (pda_cons pd_dct0 (pda_cons (pd_dct1 (fun _ => pd_str) (fun _ => (pd_tup (pda_cons pd_int pda_nil)))) (pda_cons (pd_un un_neg o1_neg pd_int) (pda_cons (pd_op op_pow o2_pow pd_int pd_int) pda_nil))))))))))))))))))
      (pds_cons (pd_set 2 nd (pd_op op_addD o2_add (pd_var 2) (pd_lst (pda_cons (pd_tup (pda_cons pd_str (pda_cons pd_non (pda_cons (pd_lst (pda_cons pd_int pda_nil)) pda_nil)))) (pda_cons (pd_var 1) (pda_cons (pd_callTy call_strD rfl n_str (by rfl) (pda_cons (pd_var 1) pda_nil)) (pda_cons (pd_tup (pda_cons (pd_var 1) pda_nil)) (pda_cons (pd_tup (pda_cons (pd_tup (pda_cons pd_str pda_nil)) (pda_cons (pd_tup pda_nil) pda_nil))) (pda_cons (pd_lst (pda_cons (pd_lst pda_nil) (pda_cons (pd_lst (pda_cons pd_non pda_nil)) pda_nil))) (pda_cons pd_int (pda_cons pd_str (pda_cons (pd_tup (pda_cons (pd_tup pda_nil) (pda_cons (pd_lst pda_nil) (pda_cons pd_dct0 pda_nil)))) pda_nil))))))))))))
      (pds_one (pd_ret (pd_cal c_law_pick rm (by decide) hG takes_no (pda_cons (pd_var 0) (pda_cons (pd_var 2) pda_nil)))))))), ?_⟩
    obtain ⟨p, rfl, hp, q⟩ := h
    refine ⟨cp10 (by decide) (by decide), _, _, rfl, hp, by decide, by decide, fun r M' h0 h1 g => ?_⟩
    have b1 : (-1000000 : Int) ≤ r - 400000 := by omega
    have b2 : r - 400000 ≤ 1000000 := by have : r < 1000000 := h1; omega
    have l1 : (r - 400000).natAbs.log2 < 1920 := by
      have z : (r - 400000).natAbs < 10 ^ 50 := by rw [e50]; omega
      have := log2_small z
      omega
    refine ⟨sl 0, sl 2, sl 1, sl 0, sl 1, cp10 (by decide) (by decide), sl 16, ?_⟩
    refine ⟨sl 1, sl 3, l1, sl 1, sl 1, sl 0, sl 2, sl 0, sl 1, sl 2, sl 0, sl 0, sl 3, sl 9, sl 25, ?_⟩
    refine ⟨_, _, rfl, g.pool, by simp, by show 25 < 1000000; decide, fun d md M2 g2 => q d M2 (odd_menu b1 b2 d md) (g.trans g2)⟩
end

abbrev st_is_integer : Stmt := top 5
abbrev N_is_integer : List Str := ["value"]
abbrev ps_is_integer : List Str := ["value"]
theorem sc_is_integer : FnScope N_is_integer ps_is_integer (defScope st_is_integer) := ⟨rfl, rfl, rfl, by decide +kernel, rfl, by decide +kernel, by decide +kernel⟩
abbrev st_is_rounding : Stmt := top 8
abbrev N_is_rounding : List Str := ["value"]
abbrev ps_is_rounding : List Str := ["value"]
theorem sc_is_rounding : FnScope N_is_rounding ps_is_rounding (defScope st_is_rounding) := ⟨rfl, rfl, rfl, by decide +kernel, rfl, by decide +kernel, by decide +kernel⟩
abbrev st_rounded_by : Stmt := top 10
abbrev N_rounded_by : List Str := ["top", "bottom", "rounding", "low", "rest"]
abbrev ps_rounded_by : List Str := ["top", "bottom", "rounding"]
theorem sc_rounded_by : FnScope N_rounded_by ps_rounded_by (defScope st_rounded_by) := ⟨rfl, rfl, rfl, by decide +kernel, rfl, by decide +kernel, by decide +kernel⟩
abbrev st_rounded : Stmt := top 11
abbrev N_rounded : List Str := ["top", "bottom", "rounding"]
abbrev ps_rounded : List Str := ["top", "bottom", "rounding"]
theorem sc_rounded : FnScope N_rounded ps_rounded (defScope st_rounded) := ⟨rfl, rfl, rfl, by decide +kernel, rfl, by decide +kernel, by decide +kernel⟩
abbrev st_law_styles : Stmt := top 18
abbrev N_law_styles : List Str := []
abbrev ps_law_styles : List Str := []
theorem sc_law_styles : FnScope N_law_styles ps_law_styles (defScope st_law_styles) := ⟨rfl, rfl, rfl, by decide +kernel, rfl, by decide +kernel, by decide +kernel⟩
abbrev st_law_number : Stmt := top 19
abbrev N_law_number : List Str := ["_law_pool_here", "_law_kind_here", "_law_size"]
abbrev ps_law_number : List Str := ["_law_pool_here"]
theorem sc_law_number : FnScope N_law_number ps_law_number (defScope st_law_number) := ⟨rfl, rfl, rfl, by decide +kernel, rfl, by decide +kernel, by decide +kernel⟩
abbrev st_law_whole : Stmt := top 20
abbrev N_law_whole : List Str := ["_law_thing"]
abbrev ps_law_whole : List Str := ["_law_thing"]
theorem sc_law_whole : FnScope N_law_whole ps_law_whole (defScope st_law_whole) := ⟨rfl, rfl, rfl, by decide +kernel, rfl, by decide +kernel, by decide +kernel⟩
abbrev st_law_fits : Stmt := top 21
abbrev N_law_fits : List Str := ["_law_high", "_law_low", "_law_style", "_law_got", "_law_apart"]
abbrev ps_law_fits : List Str := ["_law_high", "_law_low", "_law_style", "_law_got"]
theorem sc_law_fits : FnScope N_law_fits ps_law_fits (defScope st_law_fits) := ⟨rfl, rfl, rfl, by decide +kernel, rfl, by decide +kernel, by decide +kernel⟩
abbrev st_law_fraction : Stmt := top 22
abbrev N_law_fraction : List Str := ["_law_pool_here", "_law_low", "_law_high", "_law_times"]
abbrev ps_law_fraction : List Str := ["_law_pool_here"]
theorem sc_law_fraction : FnScope N_law_fraction ps_law_fraction (defScope st_law_fraction) := ⟨rfl, rfl, rfl, by decide +kernel, rfl, by decide +kernel, by decide +kernel⟩
abbrev st_law_told : Stmt := top 23
abbrev N_law_told : List Str := ["_law_high", "_law_low", "_law_style", "_law_by_position", "_law_got", "e"]
abbrev ps_law_told : List Str := ["_law_high", "_law_low", "_law_style", "_law_by_position"]
theorem sc_law_told : FnScope N_law_told ps_law_told (defScope st_law_told) := ⟨rfl, rfl, rfl, by decide +kernel, rfl, by decide +kernel, by decide +kernel⟩
abbrev st_law_refusal : Stmt := top 24
abbrev N_law_refusal : List Str := ["_law_high", "_law_low", "_law_style"]
abbrev ps_law_refusal : List Str := ["_law_high", "_law_low", "_law_style"]
theorem sc_law_refusal : FnScope N_law_refusal ps_law_refusal (defScope st_law_refusal) := ⟨rfl, rfl, rfl, by decide +kernel, rfl, by decide +kernel, by decide +kernel⟩
abbrev st_law_judged : Stmt := top 25
abbrev N_law_judged : List Str := ["_law_high", "_law_low", "_law_style", "_law_told_here", "_law_due"]
abbrev ps_law_judged : List Str := ["_law_high", "_law_low", "_law_style"]
theorem sc_law_judged : FnScope N_law_judged ps_law_judged (defScope st_law_judged) := ⟨rfl, rfl, rfl, by decide +kernel, rfl, by decide +kernel, by decide +kernel⟩
abbrev st_law_right : Stmt := top 26
abbrev N_law_right : List Str := ["_law_pool_here", "_law_turn", "_law_high", "_law_low", "_law_style", "_law_got", "_law_mirrored", "_law_menu", "_law_again", "_law_odd_here"]
abbrev ps_law_right : List Str := ["_law_pool_here"]
theorem sc_law_right : FnScope N_law_right ps_law_right (defScope st_law_right) := ⟨rfl, rfl, rfl, by decide +kernel, rfl, by decide +kernel, by decide +kernel⟩
abbrev st_law : Stmt := top 27
abbrev N_law : List Str := ["_law_script", "_law_spot"]
abbrev ps_law : List Str := ["_law_script"]
theorem sc_law : FnScope N_law ps_law (defScope st_law) := ⟨rfl, rfl, rfl, by decide +kernel, rfl, by decide +kernel, by decide +kernel⟩
section
variable {P : Program} {w : World} {K : PySem.W.Frag} {mg : Str → Option Value} {base : Heap}
def sp_isint : DSp := fun ds M Q _ => ∃ d, ds = [d] ∧ Kd d ∧ Q (.bl (isInt d)) M
theorem int_only (d : D) : ((isInt d || isBl d) && !isBl d) = isInt d := by cases d <;> rfl
theorem ok_isint {f : Addr} {fd : FuncData} (DD : Dn K mg "is_integer" "is_integer" st_is_integer ps_is_integer f fd) (n_isinstance : mg "isinstance" = none) (n_int : mg "int" = none) (n_bool : mg "bool" = none) : Cal P w K mg base 1 "is_integer" f fd ps_is_integer sp_isint := by
  refine cal_of 0 DD sc_is_integer (fun ds M Q E h => ?_) fun cdv A outer s H E0 R F ds M Q E rm hG tk h => ?_
  · obtain ⟨d, rfl, _⟩ := h; rfl
  · refine ⟨_, (pds_one (pd_ret (pd_and (pd_callB call_isiD rfl n_isinstance (by rfl) (pda_cons (pd_var 0) (pda_cons (pd_bltn rfl n_int (by rfl)) pda_nil))) (pd_one (pd_not (pd_callB call_isiD rfl n_isinstance (by rfl) (pda_cons (pd_var 0) (pda_cons (pd_bltn rfl n_bool (by rfl)) pda_nil)))))))), ?_⟩
    obtain ⟨d, rfl, hd, q⟩ := h
    refine kd_int hd ⟨fun h1 => kd_bool hd ?_, fun h1 => ?_⟩
    · rw [← int_only, h1, Bool.true_and] at q
      exact q
    · rw [← int_only, h1, Bool.false_and] at q
      exact q
theorem ok_whole {f : Addr} {fd : FuncData} (DD : Dn K mg "_law_whole" "_law_whole" st_law_whole ps_law_whole f fd) (n_isinstance : mg "isinstance" = none) (n_int : mg "int" = none) (n_bool : mg "bool" = none) : Cal P w K mg base 1 "_law_whole" f fd ps_law_whole sp_isint := by
  refine cal_of 0 DD sc_law_whole (fun ds M Q E h => ?_) fun cdv A outer s H E0 R F ds M Q E rm hG tk h => ?_
  · obtain ⟨d, rfl, _⟩ := h; rfl
  · refine ⟨_, (pds_one (pd_ret (pd_and (pd_callB call_isiD rfl n_isinstance (by rfl) (pda_cons (pd_var 0) (pda_cons (pd_bltn rfl n_int (by rfl)) pda_nil))) (pd_one (pd_not (pd_callB call_isiD rfl n_isinstance (by rfl) (pda_cons (pd_var 0) (pda_cons (pd_bltn rfl n_bool (by rfl)) pda_nil)))))))), ?_⟩
    obtain ⟨d, rfl, hd, q⟩ := h
    refine kd_int hd ⟨fun h1 => kd_bool hd ?_, fun h1 => ?_⟩
    · rw [← int_only, h1, Bool.true_and] at q
      exact q
    · rw [← int_only, h1, Bool.false_and] at q
      exact q
abbrev styles : List Str := ["down", "up", "near down", "near up", "near even"]
abbrev stylesD : List D := [.str "down", .str "up", .str "near down", .str "near up", .str "near even"]
def inSt (x : Str) : Bool := stylesD.any fun d => eqD d (.str x)
def isRnd : D → Bool
  | .str x => inSt x
  | _ => false
def sp_isrnd : DSp := fun ds M Q _ => ∃ d, ds = [d] ∧ Kd d ∧ Q (.bl (isRnd d)) M
theorem ok_isrnd {f : Addr} {fd : FuncData} (DD : Dn K mg "is_rounding" "is_rounding" st_is_rounding ps_is_rounding f fd) (n_isinstance : mg "isinstance" = none) (n_str : mg "str" = none) (v_ROUNDINGS : Gv K mg "ROUNDINGS" (.tup stylesD)) : Cal P w K mg base 1 "is_rounding" f fd ps_is_rounding sp_isrnd := by
  refine cal_of 0 DD sc_is_rounding (fun ds M Q E h => ?_) fun cdv A outer s H E0 R F ds M Q E rm hG tk h => ?_
  · obtain ⟨d, rfl, _⟩ := h; rfl
  · refine ⟨_, (pds_one (pd_ret (pd_and (pd_callB call_isiD rfl n_isinstance (by rfl) (pda_cons (pd_var 0) (pda_cons (pd_bltn rfl n_str (by rfl)) pda_nil))) (pd_one (pd_cmp op_inA o2_in (pd_var 0) (pd_gv v_ROUNDINGS rfl) (by rfl)))))), ?_⟩
    obtain ⟨d, rfl, hd, q⟩ := h
    refine kd_str hd ⟨fun h1 => ?_, fun h1 => ?_⟩
    · cases d <;> first | (cases h1; done) | exact ⟨rfl, rfl, q⟩
    · cases d <;> first | (cases h1; done) | exact q
def rnd (t b : Int) (x : Str) : Int :=
  if (decide (x = "down") || decide (2 * (t - t / b * b) = 0)) = true then t / b
  else if (decide (x = "up") || decide (b < 2 * (t - t / b * b))) = true then t / b + 1
  else if (decide (2 * (t - t / b * b) < b) || decide (x = "near down")) = true then t / b
  else if decide (x = "near up") = true then t / b + 1 else t / b + t / b % 2
def sp_rby : DSp := fun ds M Q _ => ∃ (t b : Int) (x : Str), ds = [.int t, .int b, .str x] ∧ 0 < b ∧ t.natAbs < 10 ^ 50 ∧ b.natAbs < 10 ^ 50 ∧ Q (.int (rnd t b x)) M
theorem div_small {t b : Int} (hb : 0 < b) (h : t.natAbs < 10 ^ 50) : (t / b).natAbs < 10 ^ 50 := by
  rw [e50] at h ⊢
  have h1 : t / b ≤ t.natAbs := by
    by_cases ht : 0 ≤ t
    · have := Int.ediv_le_self b ht
      omega
    · have := Int.ediv_neg_of_neg_of_pos (a := t) (b := b) (by omega) hb
      omega
  have h2 : -(t.natAbs : Int) ≤ t / b := by
    by_cases ht : 0 ≤ t
    · have := Int.ediv_nonneg ht (by omega : (0 : Int) ≤ b)
      omega
    · have : t ≤ t / b := by
        have z : t * b ≤ t := by
          have := Int.mul_le_mul_of_nonpos_left (a := t) (b := b) (c := 1) (by omega) (by omega)
          omega
        exact (Int.le_ediv_iff_mul_le hb).mpr z
      omega
  omega
theorem ok_rby {f : Addr} {fd : FuncData} (DD : Dn K mg "rounded_by" "rounded_by" st_rounded_by ps_rounded_by f fd) : Cal P w K mg base 1 "rounded_by" f fd ps_rounded_by sp_rby := by
  refine cal_of 0 DD sc_rounded_by (fun ds M Q E h => ?_) fun cdv A outer s H E0 R F ds M Q E rm hG tk h => ?_
  · obtain ⟨t, b, x, rfl, _⟩ := h; rfl
  · have hu := hu_room rm
    have nd := sc_rounded_by.nd
    refine ⟨_, (pds_cons (pd_set 3 nd (pd_op op_fdivW o2_fdv (pd_var 0) (pd_var 1)))
      (pds_cons (pd_set 4 nd (pd_op op_mulA o2_mul pd_int (pd_op op_sub o2_sub (pd_var 0) (pd_op op_mulA o2_mul (pd_var 3) (pd_var 1)))))
      (pds_cons (pd_ifS (pdt_w (pdw_or (pdt_cmp (op_eqA hu) o2_eq (pd_var 2) pd_str (nomark _)) (pdw_or1 (pdt_cmp (op_eqA hu) o2_eq (pd_var 4) pd_int (nomark _))))) (pds_one (pd_ret (pd_var 3))) pds_nil)
      (pds_cons (pd_ifS (pdt_w (pdw_or (pdt_cmp (op_eqA hu) o2_eq (pd_var 2) pd_str (nomark _)) (pdw_or1 (pdt_cmp op_gt o2_gt (pd_var 4) (pd_var 1) (nomark _))))) (pds_one (pd_ret (pd_op op_addD o2_add (pd_var 3) pd_int))) pds_nil)
      (pds_cons (pd_ifS (pdt_w (pdw_or (pdt_cmp op_lt o2_lt (pd_var 4) (pd_var 1) (nomark _)) (pdw_or1 (pdt_cmp (op_eqA hu) o2_eq (pd_var 2) pd_str (nomark _))))) (pds_one (pd_ret (pd_var 3))) pds_nil)
      (pds_one (pd_ret (pd_if (pdt_cmp (op_eqA hu) o2_eq (pd_var 2) pd_str (nomark _)) (pd_op op_addD o2_add (pd_var 3) pd_int) (pd_op op_addD o2_add (pd_var 3) (pd_op op_mod o2_mod (pd_var 3) pd_int)))))))))), ?_⟩
    obtain ⟨t, b, x, rfl, hb, tb, bb, q⟩ := h
    unfold rnd at q
    refine ⟨cdB hb bb, cmB (div_small hb tb) bb, cmL (by decide) (by decide), ?_⟩
    refine ⟨fun h1 => Br.t ?_, fun h1 => ⟨fun h2 => ?_, fun h2 => ?_⟩⟩
    · rw [h1, Bool.true_or, if_pos rfl] at q; exact q
    · rw [h1, Bool.false_or, if_pos h2] at q; exact q
    · rw [h1, Bool.false_or, h2, if_neg Bool.false_ne_true] at q
      refine ⟨fun h3 => Br.t ?_, fun h3 => ⟨fun h4 => ?_, fun h4 => ?_⟩⟩
      · rw [h3, Bool.true_or, if_pos rfl] at q; exact q
      · rw [h3, Bool.false_or, if_pos h4] at q; exact q
      · rw [h3, Bool.false_or, h4, if_neg Bool.false_ne_true] at q
        refine ⟨fun h5 => Br.t ?_, fun h5 => ⟨fun h6 => ?_, fun h6 => ?_⟩⟩
        · rw [h5, Bool.true_or, if_pos rfl] at q; exact q
        · rw [h5, Bool.false_or, if_pos h6] at q; exact q
        · rw [h5, Bool.false_or, h6, if_neg Bool.false_ne_true] at q
          refine ⟨fun h7 => ?_, fun h7 => ⟨(by decide : (0 : Int) < 2), ?_⟩⟩
          · rw [if_pos h7] at q; exact q
          · rw [h7, if_neg Bool.false_ne_true] at q; exact q
def roundedR (t b r : D) : Except (Bool × D) Int := match t with
  | .int i => match b with
    | .int j => if j < 1 then .error (true, .int j) else match r with
      | .str x => if inSt x = true then .ok (rnd i j x) else .error (false, .str x)
      | r => .error (false, r)
    | b => .error (true, b)
  | t => .error (true, t)
def sp_rounded (CN CR : Addr) : DSp := fun ds M Q E => ∃ t b r, ds = [t, b, r] ∧ Odd t ∧ Odd b ∧ Odd r ∧ match roundedR t b r with
  | .ok n => Q (.int n) M
  | .error (k, d) => ∀ p, M p = none → E (.ref (if k = true then CN else CR)) (some p) (mup M p (.xd [("given", d)]))
theorem lt50 {i : Int} (h : i.natAbs < 10 ^ 41) : i.natAbs < 10 ^ 50 := by
  rw [e41] at h
  rw [e50]
  omega
theorem ok_rounded {f f1 f2 f3 CN CR i1 i2 : Addr} {fd d1 d2 d3 : FuncData} (DD : Dn K mg "rounded" "rounded" st_rounded ps_rounded f fd) (c_is_integer : Cal P w K mg base 1 "is_integer" f1 d1 ps_is_integer sp_isint) (c_is_rounding : Cal P w K mg base 1 "is_rounding" f2 d2 ps_is_rounding sp_isrnd)
    (c_rounded_by : Cal P w K mg base 1 "rounded_by" f3 d3 ps_rounded_by sp_rby) (e_InvalidNumber : PySem.ErD.ErrT K mg "InvalidNumber" "given" CN i1) (e_InvalidRounding : PySem.ErD.ErrT K mg "InvalidRounding" "given" CR i2) :
    Cal P w K mg base 2 "rounded" f fd ps_rounded (sp_rounded CN CR) := by
  refine cal_of 1 DD sc_rounded (fun ds M Q E h => ?_) fun cdv A outer s H E0 R F ds M Q E rm hG tk h => ?_
  · obtain ⟨t, b, r, rfl, _⟩ := h; rfl
  · have hu := hu_room rm
    have nd := sc_rounded.nd
    refine ⟨_, (pds_cons (pd_ifS (pdt_not (pdt_val (pd_cal c_is_integer rm (by decide) hG takes_no (pda_cons (pd_var 0) pda_nil)))) (pds_one (pd_raise rfl e_InvalidNumber rm tk (pda_cons (pd_var 0) pda_nil))) pds_nil)
      (pds_cons (pd_ifS (pdt_w (pdw_or (pdt_not (pdt_val (pd_cal c_is_integer rm (by decide) hG takes_no (pda_cons (pd_var 1) pda_nil)))) (pdw_or1 (pdt_cmp op_lt o2_lt (pd_var 1) pd_int (nomark _))))) (pds_one (pd_raise rfl e_InvalidNumber rm tk (pda_cons (pd_var 1) pda_nil))) pds_nil)
      (pds_cons (pd_ifS (pdt_not (pdt_val (pd_cal c_is_rounding rm (by decide) hG takes_no (pda_cons (pd_var 2) pda_nil)))) (pds_one (pd_raise rfl e_InvalidRounding rm tk (pda_cons (pd_var 2) pda_nil))) pds_nil)
      (pds_one (pd_ret (pd_cal c_rounded_by rm (by decide) hG takes_no (pda_cons (pd_var 0) (pda_cons (pd_var 1) (pda_cons (pd_var 2) pda_nil))))))))), ?_⟩
    obtain ⟨t, b, r, rfl, ht, hb, hr, q⟩ := h
    refine ⟨t, rfl, ht.kd, ⟨fun h1 => ?_, fun h1 => ⟨b, rfl, hb.kd, ⟨fun h2 => Br.t ?_, fun h2 => ?_⟩⟩⟩⟩
    · cases t <;> first | (cases h1; done) | exact q
    · cases t <;> first | (cases h1; done) | skip
      cases b <;> first | (cases h2; done) | exact q
    · cases t <;> first | (cases h1; done) | skip
      cases b <;> first | (cases h2; done) | skip
      rename_i i j
      refine ⟨fun h3 => ?_, fun h3 => ?_⟩
      · have h3' : j < 1 := of_decide_eq_true h3
        unfold roundedR at q
        simp only [if_pos h3'] at q
        exact q
      · have h3' : ¬ j < 1 := of_decide_eq_false h3
        unfold roundedR at q
        simp only [if_neg h3'] at q
        refine ⟨r, rfl, hr.kd, ⟨fun h4 => ?_, fun h4 => ?_⟩⟩
        · cases r <;> first | exact q | skip
          rename_i x
          have h5 : inSt x = false := by
            have z : (!inSt x) = true := h4
            simpa using z
          simp only [h5] at q
          exact q
        · cases r <;> first | (cases h4; done) | skip
          rename_i x
          have h5 : inSt x = true := by
            have z : (!inSt x) = false := h4
            simpa using z
          simp only [h5, if_true] at q
          exact ⟨i, j, x, rfl, by omega, lt50 (ht.sm i rfl), lt50 (hb.sm j rfl), q⟩
end

end Dv
-- LAW law_k11_whole_roundings_by_bounds wholedrift_k11_whole_roundings_by_bounds
namespace Dv
open PySem PySem.Spec L2
section
variable {P : Program} {w : World} {K : PySem.W.Frag} {mg : Str → Option Value} {base : Heap}
def sp_styles : DSp := fun ds M Q _ => ds = [] ∧ Q (.lst stylesD) M
theorem ok_styles {f : Addr} {fd : FuncData} (DD : Dn K mg "_law_styles" "_law_styles" st_law_styles ps_law_styles f fd) : Cal P w K mg base 1 "_law_styles" f fd ps_law_styles sp_styles := by
  refine cal_of 0 DD sc_law_styles (fun ds M Q E h => ?_) fun cdv A outer s H E0 R F ds M Q E rm hG tk h => ?_
  · obtain ⟨rfl, _⟩ := h; rfl
  · refine ⟨_, (pds_one (pd_ret (pd_lst (pda_cons pd_str (pda_cons pd_str (pda_cons pd_str (pda_cons pd_str (pda_cons pd_str pda_nil)))))))), ?_⟩
    obtain ⟨rfl, q⟩ := h
    exact ⟨sl 5, q⟩
def sp_number : DSp := fun ds M Q _ => ∃ p, ds = [.ref p] ∧ Pool M p ∧ ∀ (n : Int) M', n.natAbs < 10 ^ 32 → Go p M M' → Q (.int n) M'
theorem e32 : (10 : Nat) ^ 32 = 100000000000000000000000000000000 := by decide
theorem at8 {a b c d e f g h : D} {r : Int} (h0 : 0 ≤ r) (h1 : r < 8) : ∃ x, atI [a, b, c, d, e, f, g, h] r = some x ∧ x ∈ [a, b, c, d, e, f, g, h] := atI_in h0 h1
theorem ok_number {f f1 : Addr} {fd d1 : FuncData} (DD : Dn K mg "_law_number" "_law_number" st_law_number ps_law_number f fd) (c_law_draw : Cal P w K mg base 1 "_law_draw" f1 d1 ps_law_draw sp_draw) : Cal P w K mg base 2 "_law_number" f fd ps_law_number sp_number := by
  refine cal_of 1 DD sc_law_number (fun ds M Q E h => ?_) fun cdv A outer s H E0 R F ds M Q E rm hG tk h => ?_
  · obtain ⟨p, rfl, _⟩ := h; rfl
  · have hu := hu_room rm
    have nd := sc_law_number.nd
    refine ⟨_, (pds_cons (pd_set 1 nd (pd_cal c_law_draw rm (by decide) hG takes_no (pda_cons (pd_var 0) (pda_cons pd_int pda_nil))))
      (pds_cons (pd_ifS (pdt_cmp op_lt o2_lt (pd_var 1) pd_int (nomark _)) (pds_one (pd_ret (pd_op op_sub o2_sub (pd_cal c_law_draw rm (by decide) hG takes_no (pda_cons (pd_var 0) (pda_cons pd_int pda_nil))) pd_int))) pds_nil)
      (pds_cons (pd_ifS (pdt_cmp (op_eqA hu) o2_eq (pd_var 1) pd_int (nomark _)) (pds_one (pd_ret (pd_ix ix_seq o2_ix (pd_lst (pda_cons pd_int (pda_cons pd_int (pda_cons (pd_un un_neg o1_neg pd_int) (pda_cons pd_int (pda_cons (pd_un un_neg o1_neg pd_int) (pda_cons pd_int (pda_cons (pd_op op_pow o2_pow pd_int pd_int) (pda_cons (pd_un un_neg o1_neg (pd_op op_pow o2_pow pd_int pd_int)) pda_nil))))))))) (pd_cal c_law_draw rm (by decide) hG takes_no (pda_cons (pd_var 0) (pda_cons pd_int pda_nil))) (fun _ _ => rfl)))) pds_nil)
      (pds_cons (pd_set 2 nd (pd_ix ix_seq o2_ix (pd_lst (pda_cons (pd_op op_pow o2_pow pd_int pd_int) (pda_cons (pd_op op_pow o2_pow pd_int pd_int) (pda_cons (pd_op op_pow o2_pow pd_int pd_int) (pda_cons (pd_op op_pow o2_pow pd_int pd_int) pda_nil))))) (pd_cal c_law_draw rm (by decide) hG takes_no (pda_cons (pd_var 0) (pda_cons pd_int pda_nil))) (fun _ _ => rfl)))
      (pds_one (pd_ret (pd_op op_mulA o2_mul (pd_ix ix_seq o2_ix (pd_lst (pda_cons pd_int (pda_cons (pd_un un_neg o1_neg pd_int) pda_nil))) (pd_cal c_law_draw rm (by decide) hG takes_no (pda_cons (pd_var 0) (pda_cons pd_int pda_nil))) (fun _ _ => rfl)) (pd_op op_addD o2_add (pd_var 2) (pd_cal c_law_draw rm (by decide) hG takes_no (pda_cons (pd_var 0) (pda_cons pd_int pda_nil))))))))))), ?_⟩
    obtain ⟨p, rfl, hp, q⟩ := h
    refine ⟨_, _, rfl, hp, by decide, by decide, fun r M1 h0 h1 g => ?_⟩
    refine ⟨fun k1 => ?_, fun k1 => ⟨fun k2 => ?_, fun k2 => ?_⟩⟩
    · exact ⟨_, _, rfl, g.pool, by decide, by decide, fun r2 M2 a0 a1 g2 => q _ _ (by rw [e32]; omega) (g.trans g2)⟩
    · refine ⟨cp10 (by decide) (by decide), cp10 (by decide) (by decide), sl 8, _, _, rfl, g.pool, by decide, by decide, fun r2 M2 a0 a1 g2 => ?_⟩
      obtain ⟨x, ex, mx⟩ := at8 (a := .int 0) (b := .int 1) (c := .int (-1)) (d := .int 100) (e := .int (-100)) (f := .int 999) (g := .int (10 ^ 6)) (h := .int (-(10 ^ 6))) a0 a1
      refine ⟨x, ex, ?_⟩
      have z : ∀ d ∈ ([.int 0, .int 1, .int (-1), .int 100, .int (-100), .int 999, .int (10 ^ 6), .int (-(10 ^ 6))] : List D), Q d M2 := by
        refine all_cons ?_ <| all_cons ?_ <| all_cons ?_ <| all_cons ?_ <| all_cons ?_ <| all_cons ?_ <| all_cons ?_ <| all_cons ?_ all_nil
        all_goals exact q _ _ (by decide +kernel) (g.trans g2)
      exact z x mx
    · refine ⟨cp10 (by decide) (by decide), cp10 (by decide) (by decide), cp10 (by decide) (by decide), cp10 (by decide) (by decide), sl 4, _, _, rfl, g.pool, by decide, by decide, fun r2 M2 a0 a1 g2 => ?_⟩
      obtain ⟨x, ex, mx⟩ := atI_in (xs := ([.int (10 ^ 9), .int (10 ^ 12), .int (10 ^ 20), .int (10 ^ 30)] : List D)) a0 a1
      refine ⟨x, ex, ?_⟩
      have hx : ∃ n : Int, x = .int n ∧ 0 ≤ n ∧ n ≤ 10 ^ 30 := by
        have z : ∀ d ∈ ([.int (10 ^ 9), .int (10 ^ 12), .int (10 ^ 20), .int (10 ^ 30)] : List D), ∃ n : Int, d = .int n ∧ 0 ≤ n ∧ n ≤ 10 ^ 30 := by
          refine all_cons ?_ <| all_cons ?_ <| all_cons ?_ <| all_cons ?_ all_nil
          all_goals exact ⟨_, rfl, by decide +kernel, by decide +kernel⟩
        exact z x mx
      obtain ⟨n, rfl, n0, n1⟩ := hx
      refine ⟨sl 2, _, _, rfl, (g.trans g2).pool, by decide, by decide, fun r3 M3 b0 b1 g3 => ?_⟩
      obtain ⟨y, ey, my⟩ := atI_in (xs := ([.int 1, .int (-1)] : List D)) b0 b1
      refine ⟨y, ey, ?_⟩
      have g4 := (g.trans g2).trans g3
      have e30 : (10 : Int) ^ 30 = 1000000000000000000000000000000 := by decide
      rw [e30] at n1
      have z : ∀ d ∈ ([.int 1, .int (-1)] : List D), ∃ m : Int, d = .int m ∧ (m = 1 ∨ m = -1) := all_cons ⟨_, rfl, .inl rfl⟩ <| all_cons ⟨_, rfl, .inr rfl⟩ all_nil
      obtain ⟨m, rfl, hm⟩ := z y my
      refine ⟨_, _, rfl, g4.pool, by decide, by decide, fun r5 M5 c0 c1 g5 => ⟨cmL ?_ ?_, q _ _ ?_ (g4.trans g5)⟩⟩
      · rcases hm with rfl | rfl <;> decide
      · rcases hm with rfl | rfl <;> decide
      · rw [e32]
        rcases hm with rfl | rfl
        · rw [Int.one_mul]; omega
        · rw [Int.neg_mul, Int.one_mul]; omega
theorem rnd_split (t : Int) {b : Int} (hb : 0 < b) : ∃ q r : Int, t / b = q ∧ t - t / b * b = r ∧ t = q * b + r ∧ 0 ≤ r ∧ r < b := by
  refine ⟨t / b, t - t / b * b, rfl, rfl, by omega, ?_, ?_⟩
  · have h1 := Int.emod_nonneg t (show b ≠ 0 by omega)
    have h2 := Int.emod_def t b
    rw [Int.mul_comm b] at h2
    omega
  · have h1 := Int.emod_lt_of_pos t hb
    have h2 := Int.emod_def t b
    rw [Int.mul_comm b] at h2
    omega
def sp_fits : DSp := fun ds M Q _ => ∃ (t b : Int) (x : Str), ds = [.int t, .int b, .str x, .int (rnd t b x)] ∧ 0 < b ∧ inSt x = true ∧ t.natAbs < 10 ^ 45 ∧ b.natAbs < 10 ^ 45 ∧ Q (.bl true) M
theorem inSt_cases {x : Str} (h : inSt x = true) : x = "down" ∨ x = "up" ∨ x = "near down" ∨ x = "near up" ∨ x = "near even" := by
  have h' : (((("down" : Str) == x) || ((("up" : Str) == x) || ((("near down" : Str) == x) || ((("near up" : Str) == x) || ((("near even" : Str) == x) || false)))))) = true := h
  simp only [Bool.or_false, Bool.or_eq_true, beq_iff_eq] at h'
  rcases h' with h | h | h | h | h
  · exact .inl h.symm
  · exact .inr (.inl h.symm)
  · exact .inr (.inr (.inl h.symm))
  · exact .inr (.inr (.inr (.inl h.symm)))
  · exact .inr (.inr (.inr (.inr h.symm)))
theorem rnd_down {t b q r : Int} (e : t / b = q) (e2 : t - t / b * b = r) : rnd t b "down" = q := by
  unfold rnd
  rw [show decide (("down" : Str) = "down") = true by decide, Bool.true_or, if_pos rfl, e]
theorem rnd_up {t b q r : Int} (e : t / b = q) (e2 : t - t / b * b = r) : rnd t b "up" = if r = 0 then q else q + 1 := by
  unfold rnd
  rw [show decide (("up" : Str) = "down") = false by decide, show decide (("up" : Str) = "up") = true by decide, Bool.true_or, Bool.false_or, if_pos (rfl : true = true), e2, e]
  by_cases z : r = 0
  · rw [if_pos z, if_pos (by simp [z])]
  · rw [if_neg z, if_neg (by simp; omega)]
theorem rnd_nd {t b q r : Int} (hb : 0 < b) (e : t / b = q) (e2 : t - t / b * b = r) : rnd t b "near down" = if b < 2 * r then q + 1 else q := by
  unfold rnd
  rw [show decide (("near down" : Str) = "down") = false by decide, show decide (("near down" : Str) = "up") = false by decide, show decide (("near down" : Str) = "near down") = true by decide, Bool.or_true, Bool.false_or, Bool.false_or, if_pos (rfl : true = true), e2, e]
  by_cases z : 2 * r = 0
  · rw [if_pos (by simp [z]), if_neg (by omega)]
  · rw [if_neg (by simp; omega)]
    by_cases y : b < 2 * r
    · rw [if_pos (by simp [y]), if_pos y]
    · rw [if_neg (by simp; omega), if_neg y]
theorem rnd_nu {t b q r : Int} (hb : 0 < b) (e : t / b = q) (e2 : t - t / b * b = r) : rnd t b "near up" = if 2 * r < b then q else q + 1 := by
  unfold rnd
  rw [show decide (("near up" : Str) = "down") = false by decide, show decide (("near up" : Str) = "up") = false by decide, show decide (("near up" : Str) = "near down") = false by decide, show decide (("near up" : Str) = "near up") = true by decide, Bool.or_false, Bool.false_or, Bool.false_or, if_pos (rfl : true = true), e2, e]
  by_cases z : 2 * r = 0
  · rw [if_pos (by simp [z]), if_pos (by omega)]
  · rw [if_neg (by simp; omega)]
    by_cases y : b < 2 * r
    · rw [if_pos (by simp [y]), if_neg (by omega)]
    · rw [if_neg (by simp; omega)]
      by_cases v : 2 * r < b
      · rw [if_pos (by simp [v]), if_pos v]
      · rw [if_neg (by simp; omega), if_neg v]
theorem rnd_ne {t b q r : Int} (hb : 0 < b) (e : t / b = q) (e2 : t - t / b * b = r) : rnd t b "near even" = if b < 2 * r then q + 1 else if 2 * r < b then q else q + q % 2 := by
  unfold rnd
  rw [show decide (("near even" : Str) = "down") = false by decide, show decide (("near even" : Str) = "up") = false by decide, show decide (("near even" : Str) = "near down") = false by decide, show decide (("near even" : Str) = "near up") = false by decide, Bool.or_false, Bool.false_or, Bool.false_or, if_neg Bool.false_ne_true, e2, e]
  by_cases z : 2 * r = 0
  · rw [if_pos (by simp [z]), if_neg (by omega), if_pos (by omega)]
  · rw [if_neg (by simp; omega)]
    by_cases y : b < 2 * r
    · rw [if_pos (by simp [y]), if_pos y]
    · rw [if_neg (by simp; omega), if_neg y]
      by_cases v : 2 * r < b
      · rw [if_pos (by simp [v]), if_pos v]
      · rw [if_neg (by simp; omega), if_neg v]
theorem rnd_near {t b : Int} {x : Str} (hb : 0 < b) (hx : inSt x = true) : rnd t b x = t / b ∨ rnd t b x = t / b + 1 := by
  obtain ⟨q, r, e, e2, _, r0, r1⟩ := rnd_split t hb
  rcases inSt_cases hx with rfl | rfl | rfl | rfl | rfl
  · rw [rnd_down e e2, e]; exact .inl rfl
  · rw [rnd_up e e2, e]; split <;> omega
  · rw [rnd_nd hb e e2, e]; split <;> omega
  · rw [rnd_nu hb e e2, e]; split <;> omega
  · rw [rnd_ne hb e e2, e]
    split
    · omega
    · split <;> omega
theorem e45 : (10 : Nat) ^ 45 = 1000000000000000000000000000000000000000000000 := by decide
theorem rnd_small {t b : Int} {x : Str} (hb : 0 < b) (hx : inSt x = true) (h : t.natAbs < 10 ^ 45) : (rnd t b x).natAbs < 10 ^ 46 := by
  have z : t.natAbs < 10 ^ 50 := by rw [e45] at h; rw [e50]; omega
  have hd : (t / b).natAbs ≤ t.natAbs := by
    rw [e45] at h
    have h1 : t / b ≤ t.natAbs := by
      by_cases ht : 0 ≤ t
      · have := Int.ediv_le_self b ht
        omega
      · have := Int.ediv_neg_of_neg_of_pos (a := t) (b := b) (by omega) hb
        omega
    have h2 : -(t.natAbs : Int) ≤ t / b := by
      by_cases ht : 0 ≤ t
      · have := Int.ediv_nonneg ht (by omega : (0 : Int) ≤ b)
        omega
      · have : t ≤ t / b := by
          have z : t * b ≤ t := by
            have := Int.mul_le_mul_of_nonpos_left (a := t) (b := b) (c := 1) (by omega) (by omega)
            omega
          exact (Int.le_ediv_iff_mul_le hb).mpr z
        omega
    omega
  rw [show (10 : Nat) ^ 46 = 10000000000000000000000000000000000000000000000 by decide]
  rw [e45] at h
  rcases rnd_near (t := t) hb hx with e | e <;> omega
theorem abs_ite (x : Int) : (if x < 0 then -x else x) = (x.natAbs : Int) := by split <;> omega
theorem ok_fits {f f1 : Addr} {fd d1 : FuncData} (DD : Dn K mg "_law_fits" "_law_fits" st_law_fits ps_law_fits f fd) (n_abs : mg "abs" = none) (n_int : mg "int" = none) (c_law_whole : Cal P w K mg base 1 "_law_whole" f1 d1 ps_law_whole sp_isint) : Cal P w K mg base 2 "_law_fits" f fd ps_law_fits sp_fits := by
  refine cal_of 1 DD sc_law_fits (fun ds M Q E h => ?_) fun cdv A outer s H E0 R F ds M Q E rm hG tk h => ?_
  · obtain ⟨t, b, x, rfl, _⟩ := h; rfl
  · have hu := hu_room rm
    have nd := sc_law_fits.nd
    refine ⟨_, (pds_cons (pd_ifS (pdt_not (pdt_val (pd_cal c_law_whole rm (by decide) hG takes_no (pda_cons (pd_var 3) pda_nil)))) (pds_one (pd_ret pd_bl)) pds_nil)
      (pds_cons (pd_set 4 nd (pd_op op_sub o2_sub (pd_var 0) (pd_op op_mulA o2_mul (pd_var 3) (pd_var 1))))
      (pds_cons (pd_ifS (pdt_cmp (op_eqA hu) o2_eq (pd_var 2) pd_str (nomark _)) (pds_one (pd_ret (pd_chain op_le o2_le op_lt o2_lt pd_int (pd_var 4) (pd_var 1)))) pds_nil)
      (pds_cons (pd_ifS (pdt_cmp (op_eqA hu) o2_eq (pd_var 2) pd_str (nomark _)) (pds_one (pd_ret (pd_chain op_lt o2_lt op_le o2_le (pd_op op_sub o2_sub pd_int (pd_var 1)) (pd_var 4) pd_int))) pds_nil)
      (pds_cons (pd_ifS (pdt_cmp (op_neA hu) o2_ne (pd_op op_mulA o2_mul pd_int (pd_callB call_absD rfl n_abs (by rfl) (pda_cons (pd_var 4) pda_nil))) (pd_var 1) (nomark _)) (pds_one (pd_ret (pd_cmp op_lt o2_lt (pd_op op_mulA o2_mul pd_int (pd_callB call_absD rfl n_abs (by rfl) (pda_cons (pd_var 4) pda_nil))) (pd_var 1) (nomark _)))) pds_nil)
      (pds_cons (pd_ifS (pdt_cmp (op_eqA hu) o2_eq (pd_var 2) pd_str (nomark _)) (pds_one (pd_ret (pd_cmp (op_eqA hu) o2_eq (pd_op op_mod o2_mod (pd_callTy call_intD rfl n_int (by rfl) (pda_cons (pd_var 3) pda_nil)) pd_int) pd_int (nomark _)))) pds_nil)
      (pds_one (pd_ret (pd_if (pdt_cmp (op_eqA hu) o2_eq (pd_var 2) pd_str (nomark _)) (pd_cmp op_gt o2_gt (pd_var 4) pd_int (nomark _)) (pd_cmp op_lt o2_lt (pd_var 4) pd_int (nomark _))))))))))), ?_⟩
    obtain ⟨t, b, x, rfl, hb, hx, tb, bb, q⟩ := h
    have yes : ∀ c : Bool, c = true → Q (.bl c) M := fun c e => by rw [e]; exact q
    have gb : (rnd t b x).natAbs < 10 ^ 50 := by rw [e50]; have := rnd_small hb hx tb; rw [show (10 : Nat) ^ 46 = 10000000000000000000000000000000000000000000000 by decide] at this; omega
    have bb5 : b.natAbs < 10 ^ 50 := by rw [e50]; rw [e45] at bb; omega
    refine ⟨_, rfl, rfl, Br.f ⟨cmB gb bb5, ?_⟩⟩
    obtain ⟨q', r, e, e2, et, r0, r1⟩ := rnd_split t hb
    have m1 : (q' + 1) * b = q' * b + b := by rw [Int.add_mul, Int.one_mul]
    rcases inSt_cases hx with rfl | rfl | rfl | rfl | rfl
    · rw [rnd_down e e2]
      refine Br.of_t (by decide) ⟨fun h1 => yes _ (decide_eq_true (by omega)), fun h1 => absurd (of_decide_eq_false h1) (by omega)⟩
    · refine Br.of_f (by decide) (Br.of_t (by decide) ?_)
      rw [rnd_up e e2]
      have z : 0 - b < t - (if r = 0 then q' else q' + 1) * b ∧ t - (if r = 0 then q' else q' + 1) * b ≤ 0 := by split <;> omega
      refine ⟨fun h1 => yes _ (decide_eq_true z.2), fun h1 => absurd z.1 (of_decide_eq_false h1)⟩
    · refine Br.of_f (by decide) (Br.of_f (by decide) ?_)
      refine ⟨cmL (by decide) (by decide), ?_⟩
      rw [rnd_nd hb e e2]
      have z : (2 * (if t - (if b < 2 * r then q' + 1 else q') * b < 0 then -(t - (if b < 2 * r then q' + 1 else q') * b) else t - (if b < 2 * r then q' + 1 else q') * b) ≠ b → 2 * (if t - (if b < 2 * r then q' + 1 else q') * b < 0 then -(t - (if b < 2 * r then q' + 1 else q') * b) else t - (if b < 2 * r then q' + 1 else q') * b) < b) ∧
          (2 * (if t - (if b < 2 * r then q' + 1 else q') * b < 0 then -(t - (if b < 2 * r then q' + 1 else q') * b) else t - (if b < 2 * r then q' + 1 else q') * b) = b → 0 < t - (if b < 2 * r then q' + 1 else q') * b) := by
        split <;> split <;> omega
      refine ⟨fun h1 => ⟨cmL (by decide) (by decide), yes _ (decide_eq_true (z.1 (by simpa using h1)))⟩, fun h1 => ?_⟩
      refine Br.of_f (by decide) (Br.of_t (by decide) (yes _ (decide_eq_true (z.2 (by simpa using h1)))))
    · refine Br.of_f (by decide) (Br.of_f (by decide) ?_)
      refine ⟨cmL (by decide) (by decide), ?_⟩
      rw [rnd_nu hb e e2]
      have z : (2 * (if t - (if 2 * r < b then q' else q' + 1) * b < 0 then -(t - (if 2 * r < b then q' else q' + 1) * b) else t - (if 2 * r < b then q' else q' + 1) * b) ≠ b → 2 * (if t - (if 2 * r < b then q' else q' + 1) * b < 0 then -(t - (if 2 * r < b then q' else q' + 1) * b) else t - (if 2 * r < b then q' else q' + 1) * b) < b) ∧
          (2 * (if t - (if 2 * r < b then q' else q' + 1) * b < 0 then -(t - (if 2 * r < b then q' else q' + 1) * b) else t - (if 2 * r < b then q' else q' + 1) * b) = b → t - (if 2 * r < b then q' else q' + 1) * b < 0) := by
        split <;> split <;> omega
      refine ⟨fun h1 => ⟨cmL (by decide) (by decide), yes _ (decide_eq_true (z.1 (by simpa using h1)))⟩, fun h1 => ?_⟩
      refine Br.of_f (by decide) (Br.of_f (by decide) (yes _ (decide_eq_true (z.2 (by simpa using h1)))))
    · refine Br.of_f (by decide) (Br.of_f (by decide) ?_)
      refine ⟨cmL (by decide) (by decide), ?_⟩
      rw [rnd_ne hb e e2]
      have m2 : (q' + q' % 2) * b = q' * b + q' % 2 * b := Int.add_mul _ _ _
      have m3 : q' % 2 = 0 ∨ q' % 2 = 1 := by omega
      have m4 : q' % 2 * b = 0 ∨ q' % 2 * b = b := by rcases m3 with h | h <;> rw [h] <;> simp
      obtain ⟨g, eg⟩ : ∃ g, g = (if b < 2 * r then q' + 1 else if 2 * r < b then q' else q' + q' % 2) := ⟨_, rfl⟩
      rw [← eg]
      have z : (2 * (if t - g * b < 0 then -(t - g * b) else t - g * b) ≠ b → 2 * (if t - g * b < 0 then -(t - g * b) else t - g * b) < b) ∧ (2 * (if t - g * b < 0 then -(t - g * b) else t - g * b) = b → g % 2 = 0) := by
        by_cases c1 : b < 2 * r
        · rw [if_pos c1] at eg; subst eg; rw [m1]; split <;> omega
        · rw [if_neg c1] at eg
          by_cases c2 : 2 * r < b
          · rw [if_pos c2] at eg; subst eg; split <;> omega
          · rw [if_neg c2] at eg
            refine ⟨?_, fun _ => by rw [eg]; omega⟩
            rw [eg, m2]
            rcases m4 with h | h <;> rw [h] <;> split <;> omega
      refine ⟨fun h1 => ⟨cmL (by decide) (by decide), yes _ (decide_eq_true (z.1 (by simpa using h1)))⟩, fun h1 => ?_⟩
      exact Br.of_t (by decide) ⟨(by decide : (0 : Int) < 2), yes _ (decide_eq_true (z.2 (by simpa using h1)))⟩
end

end Dv
-- LAW law_k11_whole_roundings_by_bounds wholedrift_k11_whole_roundings_by_bounds
namespace Dv
open PySem PySem.Spec L2
section
variable {P : Program} {w : World} {K : PySem.W.Frag} {mg : Str → Option Value} {base : Heap}
def toldD (h l s : D) : D := match roundedR h l s with
  | .ok n => .lst [.str "told", .int n]
  | .error (k, d) => .lst [.str (if k = true then "number" else "rounding"), d]
def dueD (h l s : D) : D := match roundedR h l s with
  | .ok _ => .non
  | .error (k, d) => .lst [.str (if k = true then "number" else "rounding"), d]
def sp_told : DSp := fun ds M Q _ => ∃ h l s bp, ds = [h, l, s, .bl bp] ∧ Odd h ∧ Odd l ∧ Odd s ∧ ∀ M', Old M M' → Q (toldD h l s) M'
theorem k_rounded_0_rounding_bottom_top {x : Str} {qual : Str} {f : Addr} {fd : FuncData} (DD : Dn K mg x qual st_rounded ps_rounded f fd) : KB K fd ps_rounded 0 ["rounding", "bottom", "top"] (fun xs ys => pick .non [2, 1, 0] (xs ++ ys)) := by
  obtain ⟨oc, od, dV, kV, doc, pm, an, cdv, ct, osl, rfl, lk, hcd, hD, _⟩ := DD.d.ex
  rcases hD with ⟨_, rfl⟩ | ⟨e, _⟩
  · exact kb_of [2, 1, 0] fun s us ws _ hu hw => match us, hu, ws, hw with | [], _, [_, _, _], _ => .of_eq rfl
  · exact absurd rfl e
theorem ok_told {f f1 CN CR i1 i2 : Addr} {fd d1 : FuncData} (DD : Dn K mg "_law_told" "_law_told" st_law_told ps_law_told f fd) (DR : Dn K mg "rounded" "rounded" st_rounded ps_rounded f1 d1) (c_rounded : Cal P w K mg base 2 "rounded" f1 d1 ps_rounded (sp_rounded CN CR))
    (e_InvalidNumber : PySem.ErD.ErrT K mg "InvalidNumber" "given" CN i1) (e_InvalidRounding : PySem.ErD.ErrT K mg "InvalidRounding" "given" CR i2) (xNN : PySem.W.exmOne K (.ref CN) (.ref CN) = some true) (xRN : PySem.W.exmOne K (.ref CR) (.ref CN) = some false) (xRR : PySem.W.exmOne K (.ref CR) (.ref CR) = some true) :
    Cal P w K mg base 3 "_law_told" f fd ps_law_told sp_told := by
  refine cal_of 2 DD sc_law_told (fun ds M Q E h => ?_) fun cdv A outer s H E0 R F ds M Q E rm hG tk h => ?_
  · obtain ⟨h, l, s, bp, rfl, _⟩ := h; rfl
  · have hu := hu_room rm
    have nd := sc_law_told.nd
    have k_rounded_0_rounding_bottom_top := k_rounded_0_rounding_bottom_top DR
    refine ⟨_, (pds_cons (pd_try (Wout := W0) rfl rfl nd takes_no (fun _ _ _ _ tk2 ps => (pds_one (pd_set 4 nd (pd_if (pdt_val (pd_var 3)) (pd_cal c_rounded rm (by decide) hG tk2 (pda_cons (pd_var 0) (pda_cons (pd_var 1) (pda_cons (pd_var 2) pda_nil)))) (pd_calK0 c_rounded k_rounded_0_rounding_bottom_top rm (by decide) hG tk2 (pdk_cons (pd_var 2) (pdk_cons (pd_var 1) (pdk_cons (pd_var 0) pdk_nil)))))))) (.cons ⟨rfl, by decide, .inl e_InvalidNumber.gC⟩ (i := 5) rfl rfl (fun _ a oe cls d pn hz hf => (pds_one (pd_ret (pd_lst (pda_cons pd_str (pda_cons (pd_xf e_InvalidNumber hz hf (pd_var 5)) pda_nil)))))) (.cons ⟨rfl, by decide, .inl e_InvalidRounding.gC⟩ (i := 5) rfl rfl (fun _ a oe cls d pn hz hf => (pds_one (pd_ret (pd_lst (pda_cons pd_str (pda_cons (pd_xf e_InvalidRounding hz hf (pd_var 5)) pda_nil)))))) .nil)))
      (pds_one (pd_ret (pd_lst (pda_cons pd_str (pda_cons (pd_var 4) pda_nil)))))), ?_⟩
    obtain ⟨h, l, s, bp, rfl, oh, ol, os, q⟩ := h
    unfold toldD at q
    have good : ∀ n, roundedR h l s = .ok n → Q (.lst [.str "told", .int n]) M := fun n e => by
      have z := q M .refl
      rw [e] at z
      exact z
    have bad : ∀ k d M', Old M M' → roundedR h l s = .error (k, d) → Q (.lst [.str (if k = true then "number" else "rounding"), d]) M' := fun k d M' o e => by
      have z := q M' o
      rw [e] at z
      exact z
    refine ⟨fun hb => ⟨h, l, s, rfl, oh, ol, os, ?_⟩, fun hb => ⟨⟨rfl, rfl⟩, h, l, s, rfl, oh, ol, os, ?_⟩⟩
    all_goals
      cases e : roundedR h l s with
      | ok n => exact ⟨sl 2, good n e⟩
      | error kd =>
        obtain ⟨k, d⟩ := kd
        intro p n
        cases k with
        | true => exact ⟨true, xNN, fun _ a => ⟨rfl, rfl, _, _, _, rfl, mup_same, rfl, sl 2, bad true d _ (.new n) e⟩, fun z => nomatch z⟩
        | false => exact ⟨false, xRN, fun z => (nomatch z), fun _ => ⟨true, xRR, fun _ a => ⟨rfl, rfl, _, _, _, rfl, mup_same, rfl, sl 2, bad false d _ (.new n) e⟩, fun z => nomatch z⟩⟩
def sp_due : DSp := fun ds M Q _ => ∃ h l s, ds = [h, l, s] ∧ Odd h ∧ Odd l ∧ Odd s ∧ Q (dueD h l s) M
theorem ok_due {f f1 f2 : Addr} {fd d1 d2 : FuncData} (DD : Dn K mg "_law_refusal" "_law_refusal" st_law_refusal ps_law_refusal f fd) (n_isinstance : mg "isinstance" = none) (n_str : mg "str" = none) (c_law_whole : Cal P w K mg base 1 "_law_whole" f1 d1 ps_law_whole sp_isint)
    (c_law_styles : Cal P w K mg base 1 "_law_styles" f2 d2 ps_law_styles sp_styles) : Cal P w K mg base 2 "_law_refusal" f fd ps_law_refusal sp_due := by
  refine cal_of 1 DD sc_law_refusal (fun ds M Q E h => ?_) fun cdv A outer s H E0 R F ds M Q E rm hG tk h => ?_
  · obtain ⟨h, l, s, rfl, _⟩ := h; rfl
  · have hu := hu_room rm
    have nd := sc_law_refusal.nd
    refine ⟨_, (pds_cons (pd_ifS (pdt_not (pdt_val (pd_cal c_law_whole rm (by decide) hG takes_no (pda_cons (pd_var 0) pda_nil)))) (pds_one (pd_ret (pd_lst (pda_cons pd_str (pda_cons (pd_var 0) pda_nil))))) pds_nil)
      (pds_cons (pd_ifS (pdt_w (pdw_or (pdt_not (pdt_val (pd_cal c_law_whole rm (by decide) hG takes_no (pda_cons (pd_var 1) pda_nil)))) (pdw_or1 (pdt_cmp op_lt o2_lt (pd_var 1) pd_int (nomark _))))) (pds_one (pd_ret (pd_lst (pda_cons pd_str (pda_cons (pd_var 1) pda_nil))))) pds_nil)
      (pds_cons (pd_ifS (pdt_w (pdw_or (pdt_not (pdt_val (pd_callB call_isiD rfl n_isinstance (by rfl) (pda_cons (pd_var 2) (pda_cons (pd_bltn rfl n_str (by rfl)) pda_nil))))) (pdw_or1 (pdt_cmp op_notInA o2_notIn (pd_var 2) (pd_cal0 c_law_styles rm (by decide) hG takes_no) (by rfl))))) (pds_one (pd_ret (pd_lst (pda_cons pd_str (pda_cons (pd_var 2) pda_nil))))) pds_nil)
      (pds_one (pd_ret pd_non))))), ?_⟩
    obtain ⟨h, l, s, rfl, oh, ol, os, q⟩ := h
    unfold dueD at q
    refine ⟨_, rfl, oh.kd, ⟨fun h1 => ⟨sl 2, ?_⟩, fun h1 => ⟨_, rfl, ol.kd, ⟨fun h2 => Br.t ⟨sl 2, ?_⟩, fun h2 => ?_⟩⟩⟩⟩
    · cases h <;> first | (cases h1; done) | exact q
    · cases h <;> first | (cases h1; done) | skip
      cases l <;> first | (cases h2; done) | exact q
    · cases h <;> first | (cases h1; done) | skip
      cases l <;> first | (cases h2; done) | skip
      rename_i i j
      refine ⟨fun h3 => ⟨sl 2, ?_⟩, fun h3 => ?_⟩
      · have h3' : j < 1 := of_decide_eq_true h3
        unfold roundedR at q
        simp only [if_pos h3'] at q
        exact q
      · have h3' : ¬ j < 1 := of_decide_eq_false h3
        unfold roundedR at q
        simp only [if_neg h3'] at q
        refine kd_str os.kd ⟨fun h4 => Br.t ⟨sl 2, ?_⟩, fun h4 => ?_⟩
        · cases s <;> first | (cases h4; done) | exact q
        · cases s <;> first | (cases h4; done) | skip
          rename_i x
          refine ⟨rfl, rfl, rfl, ⟨fun h5 => ⟨sl 2, ?_⟩, fun h5 => ?_⟩⟩
          · have h6 : inSt x = false := by
              have z : (!inSt x) = true := h5
              simpa using z
            simp only [h6] at q
            exact q
          · have h6 : inSt x = true := by
              have z : (!inSt x) = false := h5
              simpa using z
            simp only [h6, if_true] at q
            exact q
theorem rr_ok {h l s : D} {n : Int} (e : roundedR h l s = .ok n) : ∃ i j x, h = .int i ∧ l = .int j ∧ s = .str x ∧ 0 < j ∧ inSt x = true ∧ n = rnd i j x := by
  unfold roundedR at e
  cases h with
  | int i =>
    cases l with
    | int j =>
      simp only at e
      split at e
      · cases e
      · rename_i hj
        cases s with
        | str x =>
          simp only at e
          split at e
          · rename_i hx
            cases e
            exact ⟨i, j, x, rfl, rfl, rfl, by omega, hx, rfl⟩
          · cases e
        | _ => cases e
    | _ => cases e
  | _ => cases e
theorem rr_bad {h l s d : D} {k : Bool} (oh : Odd h) (ol : Odd l) (os : Odd s) (e : roundedR h l s = .error (k, d)) : Odd d := by
  unfold roundedR at e
  cases h with
  | int i =>
    cases l with
    | int j =>
      simp only at e
      split at e
      · cases e; exact ol
      · cases s with
        | str x =>
          simp only at e
          split at e
          · cases e
          · cases e; exact os
        | _ => cases e; exact os
    | _ => cases e; exact ol
  | _ => cases e; exact oh
theorem sh_word {d : D} {x : Str} (hd : Sh 10 2000 d) (hx : Sh 10 2000 (.str x)) : Sh 60 60000 (.lst [.str x, d]) := (Sh.lst (all_cons hx (all_cons hd all_nil))).mono (by decide) (show 2 * 2001 ≤ 60000 by decide)
theorem toldD_sh {h l s : D} (oh : Odd h) (ol : Odd l) (os : Odd s) : Sh 60 60000 (toldD h l s) := by
  unfold toldD
  cases e : roundedR h l s with
  | ok n =>
    obtain ⟨i, j, x, rfl, rfl, rfl, hj, hx, rfl⟩ := rr_ok e
    refine sh_word (.int ?_ (by decide)) (.txt "told" (by decide))
    have := rnd_small (x := x) hj hx (t := i) (by have := oh.sm i rfl; rw [e41] at this; rw [e45]; omega)
    rw [e50]
    rw [show (10 : Nat) ^ 46 = 10000000000000000000000000000000000000000000000 by decide] at this
    omega
  | error p =>
    obtain ⟨k, d⟩ := p
    refine sh_word (rr_bad oh ol os e).sh ?_
    cases k
    · exact .txt "rounding" (by decide)
    · exact .txt "number" (by decide)
def sp_judged : DSp := fun ds M Q _ => ∃ h l s, ds = [h, l, s] ∧ Odd h ∧ Odd l ∧ Odd s ∧ ∀ M', Old M M' → Q (.bl true) M'
theorem ok_judged {f f1 f2 f3 : Addr} {fd d1 d2 d3 : FuncData} (DD : Dn K mg "_law_judged" "_law_judged" st_law_judged ps_law_judged f fd) (n_repr : mg "repr" = none) (c_law_told : Cal P w K mg base 3 "_law_told" f1 d1 ps_law_told sp_told) (c_law_refusal : Cal P w K mg base 2 "_law_refusal" f2 d2 ps_law_refusal sp_due)
    (c_law_fits : Cal P w K mg base 2 "_law_fits" f3 d3 ps_law_fits sp_fits) : Cal P w K mg base 4 "_law_judged" f fd ps_law_judged sp_judged := by
  refine cal_of 3 DD sc_law_judged (fun ds M Q E h => ?_) fun cdv A outer s H E0 R F ds M Q E rm hG tk h => ?_
  · obtain ⟨h, l, s, rfl, _⟩ := h; rfl
  · have hu := hu_room rm
    have nd := sc_law_judged.nd
    refine ⟨_, (pds_cons (pd_par 3 4 rfl nd (pda_cons (pd_cal c_law_told rm (by decide) hG takes_no (pda_cons (pd_var 0) (pda_cons (pd_var 1) (pda_cons (pd_var 2) (pda_cons pd_bl pda_nil))))) (pda_cons (pd_cal c_law_refusal rm (by decide) hG takes_no (pda_cons (pd_var 0) (pda_cons (pd_var 1) (pda_cons (pd_var 2) pda_nil)))) pda_nil)))
      (pds_cons (pd_ifS (pdt_cmp (op_neA hu) o2_ne (pd_callB (call_reprD hG hu) rfl n_repr (by rfl) (pda_cons (pd_var 3) pda_nil)) (pd_callB (call_reprD hG hu) rfl n_repr (by rfl) (pda_cons (pd_cal c_law_told rm (by decide) hG takes_no (pda_cons (pd_var 0) (pda_cons (pd_var 1) (pda_cons (pd_var 2) (pda_cons pd_bl pda_nil))))) pda_nil)) (nomark _)) (pds_one (pd_ret pd_bl)) pds_nil)
      (pds_cons (pd_ifS (pdt_cmp op_notN o2_notN (pd_var 4) pd_non (nomark _)) (pds_one (pd_ret (pd_cmp (op_eqA hu) o2_eq (pd_callB (call_reprD hG hu) rfl n_repr (by rfl) (pda_cons (pd_var 3) pda_nil)) (pd_callB (call_reprD hG hu) rfl n_repr (by rfl) (pda_cons (pd_var 4) pda_nil)) (nomark _)))) pds_nil)
      (pds_one (pd_ret (pd_and (pd_cmp (op_eqA hu) o2_eq (pd_ix ix_seq o2_ix (pd_var 3) pd_int (fun _ _ => rfl)) pd_str (nomark _)) (pd_one (pd_cal c_law_fits rm (by decide) hG takes_no (pda_cons (pd_var 0) (pda_cons (pd_var 1) (pda_cons (pd_var 2) (pda_cons (pd_ix ix_seq o2_ix (pd_var 3) pd_int (fun _ _ => rfl)) pda_nil)))))))))))), ?_⟩
    obtain ⟨h, l, s, rfl, oh, ol, os, q⟩ := h
    have sh := toldD_sh oh ol os
    refine ⟨_, _, _, _, rfl, oh, ol, os, fun M1 o1 => ⟨_, _, _, rfl, oh, ol, os, ?_⟩⟩
    refine ⟨sh, _, _, _, _, rfl, oh, ol, os, fun M2 o2 => ⟨sh, Br.of_f (by simp) ?_⟩⟩
    have o := o1.trans o2
    cases e : roundedR h l s with
    | ok n =>
      obtain ⟨i, j, x, rfl, rfl, rfl, hj, hx, rfl⟩ := rr_ok e
      have eD : dueD (.int i) (.int j) (.str x) = .non := by unfold dueD; rw [e]
      have eT : toldD (.int i) (.int j) (.str x) = .lst [.str "told", .int (rnd i j x)] := by unfold toldD; rw [e]
      rw [eD, eT]
      refine Br.of_f rfl ?_
      refine ⟨_, rfl, Br.of_t (by decide) ⟨_, rfl, _, _, _, rfl, hj, hx, ?_, ?_, q M2 o⟩⟩
      · have := oh.sm i rfl; rw [e41] at this; rw [e45]; omega
      · have := ol.sm j rfl; rw [e41] at this; rw [e45]; omega
    | error p =>
      obtain ⟨k, d⟩ := p
      have eD : dueD h l s = toldD h l s := by unfold dueD toldD; rw [e]
      have nn : isNon (toldD h l s) = false := by unfold toldD; rw [e]; rfl
      rw [eD]
      refine Br.of_t ?_ ⟨sh, sh, ?_⟩
      · show (!isNon (toldD h l s)) = true
        rw [nn]; rfl
      · have z : Q (.bl (decide ((pOf (toldD h l s)).shown = (pOf (toldD h l s)).shown))) M2 := by
          rw [decide_eq_true rfl]
          exact q M2 o
        exact z
end

end Dv
-- LAW law_k11_whole_roundings_by_bounds wholedrift_k11_whole_roundings_by_bounds
namespace Dv
open PySem PySem.Spec L2
section
variable {P : Program} {w : World} {K : PySem.W.Frag} {mg : Str → Option Value} {base : Heap}
def sp_fraction : DSp := fun ds M Q _ => ∃ p, ds = [.ref p] ∧ Pool M p ∧ ∀ (h l : Int) M', 1 ≤ l → l.natAbs < 10 ^ 32 → h.natAbs < 10 ^ 40 → Go p M M' → Q (.tup [.int h, .int l]) M'
theorem e15 : (10 : Nat) ^ 15 = 1000000000000000 := by decide
theorem e40 : (10 : Nat) ^ 40 = 10000000000000000000000000000000000000000 := by decide
theorem e21 : (10 : Nat) ^ 21 = 1000000000000000000000 := by decide
theorem ok_fraction {f f1 f2 : Addr} {fd d1 d2 : FuncData} (DD : Dn K mg "_law_fraction" "_law_fraction" st_law_fraction ps_law_fraction f fd) (c_law_draw : Cal P w K mg base 1 "_law_draw" f1 d1 ps_law_draw sp_draw) (c_law_number : Cal P w K mg base 2 "_law_number" f2 d2 ps_law_number sp_number) :
    Cal P w K mg base 3 "_law_fraction" f fd ps_law_fraction sp_fraction := by
  refine cal_of 2 DD sc_law_fraction (fun ds M Q E h => ?_) fun cdv A outer s H E0 R F ds M Q E rm hG tk h => ?_
  · obtain ⟨p, rfl, _⟩ := h; rfl
  · have hu := hu_room rm
    have nd := sc_law_fraction.nd
    refine ⟨_, (pds_cons (pd_set 1 nd (pd_if (pdt_cmp op_gt o2_gt (pd_cal c_law_draw rm (by decide) hG takes_no (pda_cons (pd_var 0) (pda_cons pd_int pda_nil))) pd_int (nomark _)) (pd_op op_addD o2_add pd_int (pd_cal c_law_draw rm (by decide) hG takes_no (pda_cons (pd_var 0) (pda_cons pd_int pda_nil)))) (pd_ix ix_seq o2_ix (pd_lst (pda_cons (pd_op op_pow o2_pow pd_int pd_int) (pda_cons (pd_op op_pow o2_pow pd_int pd_int) (pda_cons (pd_op op_addD o2_add (pd_op op_pow o2_pow pd_int pd_int) pd_int) pda_nil)))) (pd_cal c_law_draw rm (by decide) hG takes_no (pda_cons (pd_var 0) (pda_cons pd_int pda_nil))) (fun _ _ => rfl))))
      (pds_cons (pd_set 2 nd (pd_cal c_law_number rm (by decide) hG takes_no (pda_cons (pd_var 0) pda_nil)))
      (pds_cons (pd_ifS (pdt_cmp (op_eqA hu) o2_eq (pd_cal c_law_draw rm (by decide) hG takes_no (pda_cons (pd_var 0) (pda_cons pd_int pda_nil))) pd_int (nomark _)) (pds_cons (pd_set 3 nd (pd_if (pdt_cmp op_gt o2_gt (pd_cal c_law_draw rm (by decide) hG takes_no (pda_cons (pd_var 0) (pda_cons pd_int pda_nil))) pd_int (nomark _)) (pd_op op_sub o2_sub (pd_cal c_law_draw rm (by decide) hG takes_no (pda_cons (pd_var 0) (pda_cons pd_int pda_nil))) pd_int) (pd_op op_mulA o2_mul (pd_ix ix_seq o2_ix (pd_lst (pda_cons pd_int (pda_cons (pd_un un_neg o1_neg pd_int) pda_nil))) (pd_cal c_law_draw rm (by decide) hG takes_no (pda_cons (pd_var 0) (pda_cons pd_int pda_nil))) (fun _ _ => rfl)) (pd_op op_pow o2_pow pd_int pd_int))))
      (pds_one (pd_set 2 nd (pd_op op_addD o2_add (pd_op op_addD o2_add (pd_op op_mulA o2_mul (pd_var 1) (pd_var 3)) (pd_ix ix_seq o2_ix (pd_lst (pda_cons pd_int (pda_cons (pd_op op_fdivW o2_fdv (pd_var 1) pd_int) (pda_cons (pd_op op_fdivW o2_fdv (pd_var 1) pd_int) pda_nil)))) (pd_cal c_law_draw rm (by decide) hG takes_no (pda_cons (pd_var 0) (pda_cons pd_int pda_nil))) (fun _ _ => rfl))) (pd_ix ix_seq o2_ix (pd_lst (pda_cons pd_int (pda_cons pd_int (pda_cons pd_int (pda_cons (pd_un un_neg o1_neg pd_int) pda_nil))))) (pd_cal c_law_draw rm (by decide) hG takes_no (pda_cons (pd_var 0) (pda_cons pd_int pda_nil))) (fun _ _ => rfl)))))) pds_nil)
      (pds_one (pd_ret (pd_tup (pda_cons (pd_var 2) (pda_cons (pd_var 1) pda_nil)))))))), ?_⟩
    obtain ⟨p, rfl, hp, q⟩ := h
    refine asg_join (fun x M' => ∃ l : Int, x = .int l ∧ 1 ≤ l ∧ l.natAbs < 10 ^ 21 ∧ Go p M M') (fun Q' k => ?_) ?_
    · refine ⟨_, _, rfl, hp, by decide, by decide, fun r M1 h0 h1 g => ⟨fun _ => ?_, fun _ => ?_⟩⟩
      · exact ⟨_, _, rfl, g.pool, by decide, by decide, fun r2 M2 a0 a1 g2 => k _ _ ⟨_, rfl, by omega, by rw [e21]; omega, g.trans g2⟩⟩
      · refine ⟨cp10 (by decide) (by decide), cp10 (by decide) (by decide), cp10 (by decide) (by decide), sl 3, _, _, rfl, g.pool, by decide, by decide, fun r2 M2 a0 a1 g2 => ?_⟩
        obtain ⟨x, ex, mx⟩ := atI_in (xs := ([.int (10 ^ 6), .int (10 ^ 18), .int (10 ^ 20 + 2)] : List D)) a0 a1
        refine ⟨x, ex, k _ _ ?_⟩
        have z : ∀ d ∈ ([.int (10 ^ 6), .int (10 ^ 18), .int (10 ^ 20 + 2)] : List D), ∃ l : Int, d = .int l ∧ 1 ≤ l ∧ l.natAbs < 10 ^ 21 ∧ Go p M M2 := by
          refine all_cons ?_ <| all_cons ?_ <| all_cons ?_ all_nil
          all_goals exact ⟨_, rfl, by decide +kernel, by decide +kernel, g.trans g2⟩
        exact z x mx
    · rintro x M1 ⟨l, rfl, l1, l2, g1⟩
      refine ⟨_, rfl, g1.pool, fun h0 M2 hs g2 => ?_⟩
      have g12 := g1.trans g2
      dsimp only [dName]
      refine seq_join (t := dIfS _ _ _) (fun ds M' => ∃ (h : Int) (c : Option D), ds = [some (.ref p), some (.int l), some (.int h), c] ∧ h.natAbs < 10 ^ 40 ∧ Go p M M') (fun N k => ?_) ?_
      · refine ⟨_, _, rfl, g12.pool, by decide, by decide, fun r M3 a0 a1 g3 => ⟨fun _ => ?_, fun _ => k _ _ ⟨h0, _, rfl, by rw [e32] at hs; rw [e40]; omega, g12.trans g3⟩⟩⟩
        have g13 := g12.trans g3
        refine asg_join (fun x M' => ∃ n : Int, x = .int n ∧ n.natAbs ≤ 10 ^ 15 ∧ Go p M M') (fun Q' k' => ?_) ?_
        · refine ⟨_, _, rfl, g13.pool, by decide, by decide, fun r M4 b0 b1 g4 => ⟨fun _ => ?_, fun _ => ?_⟩⟩
          · exact ⟨_, _, rfl, (g13.trans g4).pool, by decide, by decide, fun r2 M5 c0 c1 g5 => k' _ _ ⟨_, rfl, by rw [e15]; omega, (g13.trans g4).trans g5⟩⟩
          · refine ⟨sl 2, _, _, rfl, (g13.trans g4).pool, by decide, by decide, fun r2 M5 c0 c1 g5 => ?_⟩
            obtain ⟨x, ex, mx⟩ := atI_in (xs := ([.int 1, .int (-1)] : List D)) c0 c1
            refine ⟨x, ex, ?_⟩
            have z : ∀ d ∈ ([.int 1, .int (-1)] : List D), ∃ m : Int, d = .int m ∧ (m = 1 ∨ m = -1) := all_cons ⟨_, rfl, .inl rfl⟩ <| all_cons ⟨_, rfl, .inr rfl⟩ all_nil
            obtain ⟨m, rfl, hm⟩ := z x mx
            refine ⟨cp10 (by decide) (by decide), ?_, k' _ _ ⟨_, rfl, ?_, (g13.trans g4).trans g5⟩⟩
            · rcases hm with rfl | rfl <;> exact cmL (by decide) (by decide)
            · rcases hm with rfl | rfl <;> decide +kernel
        · rintro x M6 ⟨n, rfl, hn, g6⟩
          have hn' : n.natAbs < 10 ^ 50 := by rw [show (10 : Nat) ^ 15 = 1000000000000000 by decide] at hn; rw [e50]; omega
          have hl' : l.natAbs < 10 ^ 50 := by rw [e21] at l2; rw [e50]; omega
          have hp1 : (l * n).natAbs ≤ 10 ^ 36 := by
            rw [Int.natAbs_mul]
            exact Nat.le_trans (Nat.mul_le_mul (Nat.le_of_lt l2) hn) (by decide +kernel)
          refine ⟨cmB hl' hn', cdw (by decide) (by decide), cdw (by decide) (by decide), sl 3, _, _, rfl, g6.pool, by decide, by decide, fun r M7 b0 b1 g7 => ?_⟩
          obtain ⟨x, ex, mx⟩ := atI_in (xs := ([.int 0, .int (l / 2), .int (l / 2)] : List D)) b0 b1
          refine ⟨x, ex, ?_⟩
          have z : ∀ d ∈ ([.int 0, .int (l / 2), .int (l / 2)] : List D), ∃ m : Int, d = .int m ∧ 0 ≤ m ∧ m ≤ l := all_cons ⟨_, rfl, by omega, by omega⟩ <| all_cons ⟨_, rfl, by omega, by omega⟩ <| all_cons ⟨_, rfl, by omega, by omega⟩ all_nil
          obtain ⟨m, rfl, m0, m1⟩ := z x mx
          refine ⟨sl 4, _, _, rfl, (g6.trans g7).pool, by decide, by decide, fun r2 M8 c0 c1 g8 => ?_⟩
          obtain ⟨y, ey, my⟩ := atI_in (xs := ([.int 0, .int 0, .int 1, .int (-1)] : List D)) c0 c1
          refine ⟨y, ey, ?_⟩
          have z2 : ∀ d ∈ ([.int 0, .int 0, .int 1, .int (-1)] : List D), ∃ v : Int, d = .int v ∧ -1 ≤ v ∧ v ≤ 1 := all_cons ⟨_, rfl, by decide, by decide⟩ <| all_cons ⟨_, rfl, by decide, by decide⟩ <| all_cons ⟨_, rfl, by decide, by decide⟩ <| all_cons ⟨_, rfl, by decide, by decide⟩ all_nil
          obtain ⟨v, rfl, v0, v1⟩ := z2 y my
          refine k _ _ ⟨_, _, rfl, ?_, (g6.trans g7).trans g8⟩
          rw [show (10 : Nat) ^ 36 = 1000000000000000000000000000000000000 by decide] at hp1
          rw [e21] at l2
          rw [e40]
          omega
      · rintro ds M' ⟨h, c, rfl, hh, g⟩
        exact ⟨sl 2, q h l M' l1 (by rw [e21] at l2; rw [e32]; omega) hh g⟩
theorem neg_split {t b q r : Int} (hb : 0 < b) (et : t = q * b + r) (r0 : 0 ≤ r) (r1 : r < b) : (r = 0 ∧ (0 - t) / b = -q ∧ (0 - t) - (0 - t) / b * b = 0) ∨ (0 < r ∧ (0 - t) / b = -q - 1 ∧ (0 - t) - (0 - t) / b * b = b - r) := by
  by_cases h : r = 0
  · left
    have e : (0 - t) / b = -q := by
      rw [et, h, show 0 - (q * b + 0) = -q * b by rw [Int.neg_mul]; omega]
      exact Int.mul_ediv_cancel _ (by omega)
    refine ⟨h, e, ?_⟩
    rw [e, Int.neg_mul]
    omega
  · right
    have e : (0 - t) / b = -q - 1 := by
      rw [et, show 0 - (q * b + r) = (b - r) + (-q - 1) * b by rw [Int.sub_mul, Int.neg_mul, Int.one_mul]; omega, Int.add_mul_ediv_right _ _ (by omega : b ≠ 0), Int.ediv_eq_zero_of_lt (by omega) (by omega), Int.zero_add]
    refine ⟨by omega, e, ?_⟩
    rw [e, Int.sub_mul, Int.neg_mul, Int.one_mul]
    omega
theorem mirror {t b : Int} (hb : 0 < b) : rnd t b "down" = 0 - rnd (0 - t) b "up" ∧ rnd t b "up" = 0 - rnd (0 - t) b "down" ∧ rnd t b "near down" = 0 - rnd (0 - t) b "near up" ∧ rnd t b "near up" = 0 - rnd (0 - t) b "near down" ∧ rnd t b "near even" = 0 - rnd (0 - t) b "near even" := by
  obtain ⟨q, r, e, e2, et, r0, r1⟩ := rnd_split t hb
  rcases neg_split hb et r0 r1 with ⟨h, n1, n2⟩ | ⟨h, n1, n2⟩
  · rw [rnd_down e e2, rnd_up e e2, rnd_nd hb e e2, rnd_nu hb e e2, rnd_ne hb e e2, rnd_down n1 n2, rnd_up n1 n2, rnd_nd hb n1 n2, rnd_nu hb n1 n2, rnd_ne hb n1 n2]
    subst h
    refine ⟨?_, ?_, ?_, ?_, ?_⟩ <;> (repeat' split) <;> omega
  · rw [rnd_down e e2, rnd_up e e2, rnd_nd hb e e2, rnd_nu hb e e2, rnd_ne hb e e2, rnd_down n1 n2, rnd_up n1 n2, rnd_nd hb n1 n2, rnd_nu hb n1 n2, rnd_ne hb n1 n2]
    refine ⟨?_, ?_, ?_, ?_, ?_⟩ <;> (repeat' split) <;> omega
end

end Dv
-- LAW law_k11_whole_roundings_by_bounds wholedrift_k11_whole_roundings_by_bounds
namespace Dv
open PySem PySem.Spec L2
section
variable {P : Program} {w : World} {K : PySem.W.Frag} {mg : Str → Option Value} {base : Heap}
theorem rr_of {i j : Int} {x : Str} (h : 1 ≤ j) (hx : inSt x = true) : roundedR (.int i) (.int j) (.str x) = .ok (rnd i j x) := by
  unfold roundedR
  simp only [if_neg (show ¬ j < 1 by omega), hx, if_true]
def sp_rv : DSp := fun ds M Q _ => ∃ (i j : Int) (x : Str), ds = [.int i, .int j, .str x] ∧ 1 ≤ j ∧ inSt x = true ∧ x.length ≤ 20 ∧ Sg x ∧ i.natAbs < 10 ^ 41 ∧ j.natAbs < 10 ^ 41 ∧ Q (.int (rnd i j x)) M
theorem odd_str {x : Str} (h : Sg x) (l : x.length ≤ 20) : Odd (.str x) := .of (.str h (Nat.le_trans l (by decide))) nofun
theorem rv_of {f CN CR : Addr} {fd : FuncData} (c : Cal P w K mg base 2 "rounded" f fd ps_rounded (sp_rounded CN CR)) : Cal P w K mg base 2 "rounded" f fd ps_rounded sp_rv :=
  c.imp fun ds M Q E ⟨i, j, x, e, hj, hx, l, sg, hi, hj2, q⟩ => ⟨_, _, _, e, .int hi, .int hj2, odd_str sg l, by rw [rr_of hj hx]; exact q⟩
theorem sg_lit (s : String) : Sg (Str.ofString s) := sg_ofString s
def sp_right : DSp := fun ds M Q _ => ∃ p, ds = [.ref p] ∧ Pool M p ∧ ∀ M', Q (.bl true) M'
theorem five {a b c d e a' b' c' d' e' : Int} (h1 : a = a') (h2 : b = b') (h3 : c = c') (h4 : d = d') (h5 : e = e') : PyData.eqv (pOf (.lst [.int a, .int b, .int c, .int d, .int e])) (pOf (.lst [.int a', .int b', .int c', .int d', .int e'])) = true := by
  subst h1; subst h2; subst h3; subst h4; subst h5
  simp [pOf, pOfL, PyData.eqv, PyData.eqvAll]
theorem dt5 (a b c d e : Int) : Dt (.lst [.int a, .int b, .int c, .int d, .int e]) := ⟨rfl, rfl⟩
theorem set_all {p : D → Prop} {xs : List D} {j : Nat} {d : D} (h : ∀ x ∈ xs, p x) (hd : p d) : ∀ x ∈ xs.set j d, p x := fun x m => by
  rcases List.mem_or_eq_of_mem_set m with m | rfl
  · exact h x m
  · exact hd
theorem at3 {xs : List D} (l : xs.length = 3) : ∃ a b c, xs = [a, b, c] := by
  match xs, l with
  | [a, b, c], _ => exact ⟨a, b, c, rfl⟩
theorem ok_right {f f1 f2 f3 f4 f5 f6 f7 CN CR : Addr} {fd d1 d2 d3 d4 d5 d6 d7 : FuncData} (DD : Dn K mg "_law_right" "_law_right" st_law_right ps_law_right f fd) (n_range : mg "range" = none) (c_law_fraction : Cal P w K mg base 3 "_law_fraction" f1 d1 ps_law_fraction sp_fraction)
    (c_law_styles : Cal P w K mg base 1 "_law_styles" f2 d2 ps_law_styles sp_styles) (c_law_judged : Cal P w K mg base 4 "_law_judged" f3 d3 ps_law_judged sp_judged) (c_rounded0 : Cal P w K mg base 2 "rounded" f4 d4 ps_rounded (sp_rounded CN CR)) (c_law_pick : Cal P w K mg base 2 "_law_pick" f5 d5 ps_law_pick sp_pick)
    (c_law_odd : Cal P w K mg base 3 "_law_odd" f6 d6 ps_law_odd sp_odd) (c_law_draw : Cal P w K mg base 1 "_law_draw" f7 d7 ps_law_draw sp_draw) : Cal P w K mg base 5 "_law_right" f fd ps_law_right sp_right := by
  have c_rounded := rv_of c_rounded0
  refine cal_of 4 DD sc_law_right (fun ds M Q E h => ?_) fun cdv A outer s H E0 R F ds M Q E rm hG tk h => ?_
  · obtain ⟨p, rfl, _⟩ := h; rfl
  · have hu := hu_room rm
    have nd := sc_law_right.nd
    refine ⟨_, (pds_cons (pd_for (passes_of rfl) rfl (pdi_range1 rfl n_range (pda_cons pd_int pda_nil)) (pdg_name 1 nd) (pds_cons (pd_asg (pd_cal c_law_fraction rm (by decide) hG takes_no (pda_cons (pd_var 0) pda_nil)) (pdg_tup rfl (pdgs_cons (pdg_name 2 nd) (pdgs_cons (pdg_name 3 nd) pdgs_nil))))
      (pds_cons (pd_for (passes_of rfl) rfl (pdi_list (pd_cal0 c_law_styles rm (by decide) hG takes_no)) (pdg_name 4 nd) (pds_one (pd_ifS (pdt_not (pdt_val (pd_cal c_law_judged rm (by decide) hG takes_no (pda_cons (pd_var 2) (pda_cons (pd_var 3) (pda_cons (pd_var 4) pda_nil)))))) (pds_one (pd_ret pd_bl)) pds_nil)))
      (pds_cons (pd_setLc 5 (own := [("_law_style", 4)]) rfl nd (pdi_list (pd_cal0 c_law_styles rm (by decide) hG takes_no)) (blkOk_by (own := [("_law_style", 4)]) (N := N_law_right) (sc := defScope st_law_right) (by decide +kernel)) (fun _ => tgok_name (by decide)) (fun _ _ _ _ _ => pg_name (i := 4) nd rfl (Or.inl rfl)) (fun _ _ _ _ _ _ => pdts_nil) (fun _ _ _ _ _ _ => (pd_cal c_rounded rm (by decide) hG takes_no (pda_cons (pd_var 2) (pda_cons (pd_var 3) (pda_cons (pd_var 4) pda_nil))))) (sw_true rfl rfl rfl (by decide +kernel)))
      (pds_cons (pd_set 6 nd (pd_lst (pda_cons pd_str (pda_cons pd_str (pda_cons pd_str (pda_cons pd_str (pda_cons pd_str pda_nil)))))))
      (pds_cons (pd_ifS (pdt_cmp (op_neA hu) o2_ne (pd_var 5) (pd_lc (own := [("_law_style", 4)]) rfl nd (pdi_list (pd_var 6)) (blkOk_by (own := [("_law_style", 4)]) (N := N_law_right) (sc := defScope st_law_right) (by decide +kernel)) (fun _ => tgok_name (by decide)) (fun _ _ _ _ _ => pg_name (i := 4) nd rfl (Or.inl rfl)) (fun _ _ _ _ _ _ => pdts_nil) (fun _ _ _ _ _ _ => (pd_op op_sub o2_sub pd_int (pd_cal c_rounded rm (by decide) hG takes_no (pda_cons (pd_op op_sub o2_sub pd_int (pd_var 2)) (pda_cons (pd_var 3) (pda_cons (pd_var 4) pda_nil))))))) (nomark _)) (pds_one (pd_ret pd_bl)) pds_nil)
      (pds_cons (pd_set 7 nd (pd_lstM (pda_cons (pd_var 2) (pda_cons (pd_var 3) (pda_cons (pd_cal c_law_pick rm (by decide) hG takes_no (pda_cons (pd_var 0) (pda_cons (pd_cal0 c_law_styles rm (by decide) hG takes_no) pda_nil))) pda_nil)))))
      (pds_one (pd_for (passes_of rfl) rfl (pdi_range1 rfl n_range (pda_cons pd_int pda_nil)) (pdg_name 8 nd) (pds_cons (pd_set 9 nd (pd_cal c_law_pick rm (by decide) hG takes_no (pda_cons (pd_var 0) (pda_cons (pd_lst (pda_cons pd_int (pda_cons (pd_un un_neg o1_neg pd_int) (pda_cons pd_bl (pda_cons pd_non (pda_cons pd_str (pda_cons (pd_tup (pda_cons pd_int pda_nil)) (pda_cons (pd_lst pda_nil) (pda_cons pd_str (pda_cons (pd_op op_sub o2_sub pd_int (pd_var 3)) (pda_cons (pd_cal c_law_odd rm (by decide) hG takes_no (pda_cons (pd_var 0) pda_nil)) pda_nil))))))))))) pda_nil))))
      (pds_cons (pd_asg (pd_var 9) (pdg_sub (pd_var 7) (pd_cal c_law_draw rm (by decide) hG takes_no (pda_cons (pd_var 0) (pda_cons pd_int pda_nil))) set_list s3_set))
      (pds_one (pd_ifS (pdt_not (pdt_val (pd_cal c_law_judged rm (by decide) hG takes_no (pda_cons (pd_ix ix_seq o2_ix (pd_var 7) pd_int (fun _ _ => rfl)) (pda_cons (pd_ix ix_seq o2_ix (pd_var 7) pd_int (fun _ _ => rfl)) (pda_cons (pd_ix ix_seq o2_ix (pd_var 7) pd_int (fun _ _ => rfl)) pda_nil)))))) (pds_one (pd_ret pd_bl)) pds_nil)))))))))))))
      (pds_one (pd_ret pd_bl))), ?_⟩
    obtain ⟨p, rfl, hp, q⟩ := h
    refine ⟨⟨by decide, by decide⟩, ?_⟩
    refine loop_inv (fun _ ds M' => Pool M' p ∧ ∃ c1 c2 c3 c4 c5 c6 c7 c8 c9, ds = [some (.ref p), c1, c2, c3, c4, c5, c6, c7, c8, c9]) ?_ ?_ _ _ _ ?_
    · rintro ds M' ⟨_, c1, c2, c3, c4, c5, c6, c7, c8, c9, rfl⟩
      exact q M'
    · rintro x rest ds M1 ⟨hp1, c1, c2, c3, c4, c5, c6, c7, c8, c9, rfl⟩ next
      refine ⟨_, rfl, hp1, fun h l M2 l1 l2 hh g2 => ⟨rfl, rfl, ?_⟩⟩
      have oh : Odd (.int h) := .int (by rw [e40] at hh; rw [e41]; omega)
      have ol : Odd (.int l) := .int (by rw [e32] at l2; rw [e41]; omega)
      have oh' : Odd (.int (0 - h)) := .int (by rw [e40] at hh; rw [e41]; omega)
      refine loop_inv (fun rest ds M' => Pool M' p ∧ (∀ d ∈ rest, d ∈ stylesD) ∧ ∃ c4, ds = [some (.ref p), some x, some (.int h), some (.int l), c4, c5, c6, c7, c8, c9]) ?_ ?_ _ _ _ ?_
      · rintro ds M3 ⟨hp3, _, c4, rfl⟩
        have sh := oh.sm h rfl
        have sl' := ol.sm l rfl
        have sh' := oh'.sm _ rfl
        refine ⟨rfl, ?_⟩
        refine Br.t ⟨_, _, _, rfl, l1, rfl, by decide, sg_lit _, sh, sl', small_line (n := 0) (by decide), ?_⟩
        refine Br.t ⟨_, _, _, rfl, l1, rfl, by decide, sg_lit _, sh, sl', small_line (n := 1) (by decide), ?_⟩
        refine Br.t ⟨_, _, _, rfl, l1, rfl, by decide, sg_lit _, sh, sl', small_line (n := 2) (by decide), ?_⟩
        refine Br.t ⟨_, _, _, rfl, l1, rfl, by decide, sg_lit _, sh, sl', small_line (n := 3) (by decide), ?_⟩
        refine Br.t ⟨_, _, _, rfl, l1, rfl, by decide, sg_lit _, sh, sl', small_line (n := 4) (by decide), ?_⟩
        refine ⟨sl 5, ?_⟩
        refine Br.t ⟨_, _, _, rfl, l1, rfl, by decide, sg_lit _, sh', sl', small_line (n := 0) (by decide), ?_⟩
        refine Br.t ⟨_, _, _, rfl, l1, rfl, by decide, sg_lit _, sh', sl', small_line (n := 1) (by decide), ?_⟩
        refine Br.t ⟨_, _, _, rfl, l1, rfl, by decide, sg_lit _, sh', sl', small_line (n := 2) (by decide), ?_⟩
        refine Br.t ⟨_, _, _, rfl, l1, rfl, by decide, sg_lit _, sh', sl', small_line (n := 3) (by decide), ?_⟩
        refine Br.t ⟨_, _, _, rfl, l1, rfl, by decide, sg_lit _, sh', sl', small_line (n := 4) (by decide), ?_⟩
        obtain ⟨m1, m2, m3, m4, m5⟩ := mirror (t := h) (show 0 < l by omega)
        refine ⟨dt5 _ _ _ _ _, dt5 _ _ _ _ _, Br.of_f ?_ ?_⟩
        · exact congrArg not (five m1 m2 m3 m4 m5)
        · refine ⟨rfl, _, _, rfl, hp3, by simp, show 5 < 1000000 by decide, fun d md M4 g4 => ⟨sl 3, fun mq nq => ⟨⟨by decide, by decide⟩, ?_⟩⟩⟩
          have od : Odd d := by
            have z : ∀ d ∈ stylesD, Odd d := all_cons (.txt "down" (by decide)) <| all_cons (.txt "up" (by decide)) <| all_cons (.txt "near down" (by decide)) <| all_cons (.txt "near up" (by decide)) <| all_cons (.txt "near even" (by decide)) all_nil
            exact z d md
          have npq : p ≠ mq := fun z => by
            obtain ⟨a, b, c, e, _⟩ := g4.pool
            rw [z, nq] at e
            cases e
          have g5 := Go.new (o := .lst [.int h, .int l, d]) g4.pool nq
          refine loop_inv (fun _ ds M' => Pool M' p ∧ (∃ xs, M' mq = some (.lst xs) ∧ xs.length = 3 ∧ ∀ y ∈ xs, Odd y) ∧ ∃ c8 c9, ds = [some (.ref p), some x, some (.int h), some (.int l), c4, some (.lst [.int (rnd h l "down"), .int (rnd h l "up"), .int (rnd h l "near down"), .int (rnd h l "near up"), .int (rnd h l "near even")]),
            some (.lst [.str "up", .str "down", .str "near up", .str "near down", .str "near even"]), some (.ref mq), c8, c9]) ?_ ?_ _ _ _ ?_
          · rintro ds M6 ⟨hp6, _, c8', c9', rfl⟩
            exact next _ _ ⟨hp6, _, _, _, _, _, _, _, _, _, rfl⟩
          · rintro y rest3 ds M6 ⟨hp6, ⟨xs, ex, lx, ax⟩, c8', c9', rfl⟩ next3
            refine ⟨sl 1, sl 0, _, rfl, hp6, fun dd M7 odd7 g7 => ⟨sl 10, _, _, rfl, g7.pool, by simp, show 10 < 1000000 by decide, fun e me M8 g8 => ?_⟩⟩
            have oe : Odd e := by
              have z : ∀ z ∈ ([.int 0, .int (-1), .bl true, .non, .str "1", .tup [.int 2], .lst [], .str "near", .int (0 - l), dd] : List D), Odd z := by
                refine all_cons (.num (by decide) (by decide)) <| all_cons (.num (by decide) (by decide)) <| all_cons (.of (.bl _) nofun) <| all_cons (.of .non nofun) <| all_cons (.txt "1" (by decide)) <| ?_
                refine all_cons (.tup (n := 0) (k := 200) (all_cons (sh_num (by decide) (by decide) (by decide)) all_nil) (by decide) (by decide)) <| all_cons (.lst (n := 0) (k := 0) all_nil (by decide) (by decide)) <| all_cons (.txt "near" (by decide)) <| ?_
                exact all_cons (.int (by rw [e32] at l2; rw [e41]; omega)) <| all_cons odd7 all_nil
              exact z e me
            have ex8 := (g7.trans g8).old mq _ npq.symm ex
            refine ⟨_, _, rfl, g8.pool, by decide, by decide, fun r M9 r0 r1 g9 => ?_⟩
            have ex9 := g9.old mq _ npq.symm ex8
            refine ⟨xs, r.toNat, ex9, ?_, ?_⟩
            · unfold ixN
              rw [lx, if_pos r0, if_pos (show r < ((3 : Nat) : Int) from r1)]
            · have all9 := set_all (j := r.toNat) ax oe
              obtain ⟨a, b, c, eabc⟩ := at3 (xs := xs.set r.toNat e) (by rw [List.length_set]; exact lx)
              rw [eabc] at all9 ⊢
              refine ⟨_, _, mup_same, rfl, _, _, mup_same, rfl, _, _, mup_same, rfl, _, _, _, rfl, all9 a (by simp), all9 b (by simp), all9 c (by simp), fun M10 o10 => Br.f (next3 _ _ ⟨?_, ⟨_, o10 _ _ mup_same, rfl, all9⟩, _, _, rfl⟩)⟩
              refine (o10.go ?_).pool
              obtain ⟨a1, a2, a3, e1, e2⟩ := g9.pool
              exact ⟨a1, a2, a3, by rw [mup_ne npq]; exact e1, e2⟩
          · exact ⟨g5.pool, ⟨_, mup_same, rfl, all_cons oh <| all_cons ol <| all_cons od all_nil⟩, _, _, rfl⟩
      · rintro y rest ds M3 ⟨hp3, hr, c4, rfl⟩ next2
        have my := hr y List.mem_cons_self
        have oy : Odd y := by
          have z : ∀ d ∈ stylesD, Odd d := all_cons (.txt "down" (by decide)) <| all_cons (.txt "up" (by decide)) <| all_cons (.txt "near down" (by decide)) <| all_cons (.txt "near up" (by decide)) <| all_cons (.txt "near even" (by decide)) all_nil
          exact z y my
        exact ⟨_, _, _, rfl, oh, ol, oy, fun M4 o => Br.f (next2 _ _ ⟨(o.go hp3).pool, fun d m => hr d (List.mem_cons_of_mem _ m), _, rfl⟩)⟩
      · exact ⟨g2.pool, fun d m => m, _, rfl⟩
    · exact ⟨hp, _, _, _, _, _, _, _, _, _, rfl⟩
end

end Dv
-- LAW law_k11_whole_roundings_by_bounds wholedrift_k11_whole_roundings_by_bounds
namespace Dv
open PySem PySem.Spec L2
section
variable {P : Program} {w : World} {K : PySem.W.Frag} {mg : Str → Option Value} {base : Heap}
def sp_law : DSp := fun ds M Q _ => ∃ ns, ds = [.scr ns] ∧ ns.length ≤ 63 ∧ ∀ M', Q (.bl true) M'
theorem range_all {n : Nat} : ∀ d ∈ rangeD 0 n, ∃ i : Int, d = .int i ∧ 0 ≤ i := fun d h => by
  obtain ⟨i, _, rfl⟩ := List.mem_map.mp h
  exact ⟨_, rfl, by omega⟩
theorem range_len {n : Nat} : (rangeD 0 n).length = n := by simp [rangeD]
theorem ok_law {f f1 f2 f3 : Addr} {fd d1 d2 d3 : FuncData} (DD : Dn K mg "law" "law" st_law ps_law f fd) (n_range : mg "range" = none) (n_len : mg "len" = none) (n_max : mg "max" = none) (n_min : mg "min" = none) (n_all : mg "all" = none) (c_law_seed : Cal P w K mg base 1 "_law_seed" f1 d1 ps_law_seed sp_seed)
    (c_law_pool : Cal P w K mg base 1 "_law_pool" f2 d2 ps_law_pool sp_pool) (c_law_right : Cal P w K mg base 5 "_law_right" f3 d3 ps_law_right sp_right) : Cal P w K mg base 6 "law" f fd ps_law sp_law := by
  refine cal_of 5 DD sc_law (fun ds M Q E h => ?_) fun cdv A outer s H E0 R F ds M Q E rm hG tk h => ?_
  · obtain ⟨ns, rfl, _⟩ := h; rfl
  · have hu := hu_room rm
    have nd := sc_law.nd
    refine ⟨_, (pds_one (pd_ret (pd_callB (call_allD rfl) rfl n_all (by rfl) (pda_cons (pd_lc (own := [("_law_spot", 1)]) rfl nd (pdi_range1 rfl n_range (pda_cons (pd_callB (call_maxD rfl) rfl n_max (by rfl) (pda_cons pd_int (pda_cons (pd_callB (call_minD rfl) rfl n_min (by rfl) (pda_cons (pd_callB call_lenD rfl n_len (by rfl) (pda_cons (pd_var 0) pda_nil)) (pda_cons pd_int pda_nil))) pda_nil))) pda_nil)) (blkOk_by (own := [("_law_spot", 1)]) (N := N_law) (sc := defScope st_law) (by decide +kernel)) (fun _ => tgok_name (by decide)) (fun _ _ _ _ _ => pg_name (i := 1) nd rfl (Or.inl rfl)) (fun _ _ _ _ _ _ => pdts_nil) (fun _ _ _ _ _ _ => (pd_cal c_law_right rm (by decide) hG takes_no (pda_cons (pd_cal c_law_pool rm (by decide) hG takes_no (pda_cons (pd_cal c_law_seed rm (by decide) hG takes_no (pda_cons (pd_var 0) (pda_cons (pd_var 1) pda_nil))) pda_nil)) pda_nil)))) pda_nil)))), ?_⟩
    obtain ⟨ns, rfl, l63, q⟩ := h
    refine ⟨⟨?_, ?_⟩, ?_⟩
    · (repeat' split) <;> omega
    · (repeat' split) <;> omega
    · refine lc_inv (fun rest acc M' => (∀ d ∈ rest, ∃ i : Int, d = .int i ∧ 0 ≤ i) ∧ (∃ k, acc = List.replicate k (.bl true)) ∧ acc.length + rest.length ≤ 100) ?_ ?_ _ _ _ ?_
      · rintro acc M' ⟨_, ⟨k, rfl⟩, _⟩
        refine ⟨List.replicate k true, by rw [List.map_replicate], ?_⟩
        rw [show (List.replicate k true).all (fun b => b) = true by simp]
        exact q M'
      · rintro x rest acc M' ⟨hr, ⟨k, rfl⟩, hl⟩ next
        obtain ⟨i, rfl, i0⟩ := hr x List.mem_cons_self
        refine Br.t ⟨_, _, rfl, i0, fun n => ⟨_, rfl, fun p M2 np g => ⟨_, rfl, g.pool, fun M3 => ⟨?_, next _ _ ⟨fun d m => hr d (List.mem_cons_of_mem _ m), ⟨k + 1, ?_⟩, ?_⟩⟩⟩⟩⟩
        · simp only [List.length_cons] at hl
          exact small_line (by omega)
        · rw [List.replicate_succ']
        · simp only [List.length_cons, List.length_append, List.length_nil] at hl ⊢
          omega
      · refine ⟨range_all, ⟨0, rfl⟩, ?_⟩
        rw [range_len]
        simp only [List.length_nil]
        (repeat' split) <;> omega
theorem rel_s {x : Str} {t : Tok} : RelV (.str x) (.str x t) := ⟨t, rfl⟩
theorem exm_of {S T : Addr} {b : Bool} (h1 : PySem.W.subIn K (.ref T) (.type "BaseException") = some true) (h2 : PySem.W.isClsIn K T = true) (h3 : PySem.W.typeIn K (.ref T) = some (.type "type")) (h4 : PySem.W.subIn K (.ref S) (.ref T) = some b) (n : (Value.ref S == Value.ref T) = true → b = true) : PySem.W.exmOne K (.ref S) (.ref T) = some b := by
  have e1 : (PySem.W.subIn K (.ref T) (.type "BaseException") == some true) = true := by rw [h1] <;> rfl
  have e2 : ((PySem.W.clsIn K T).isSome && PySem.W.typeIn K (.ref T) == some (.type "type")) = true := by
    have h2' : (PySem.W.clsIn K T).isSome = true := h2
    rw [h2', h3] <;> rfl
  unfold PySem.W.exmOne
  rw [if_pos e1]
  show (if ((PySem.W.clsIn K T).isSome && PySem.W.typeIn K (.ref T) == some (.type "type")) = true then PySem.W.subIn K (.ref S) (.ref T) else none) = some b
  rw [if_pos e2]
  exact h4
theorem all_mk {P : Program} {w : World} {K : PySem.W.Frag} {h : Heap} {mg : Str → Option Value} {fa : Addr} (X : K.In h) (G : h.Ns mainGlobals mg) (hfa : mg "law" = some (.ref fa))
    {f_is_integer : Addr} {oc_is_integer kV_is_integer dc_is_integer pm_is_integer cd_is_integer ct_is_integer : Value} {od_is_integer an_is_integer : Option Addr} {sl_is_integer : Array (Option Value)} {f_is_rounding : Addr} {oc_is_rounding kV_is_rounding dc_is_rounding pm_is_rounding cd_is_rounding ct_is_rounding : Value} {od_is_rounding an_is_rounding : Option Addr} {sl_is_rounding : Array (Option Value)} {f_rounded_by : Addr} {oc_rounded_by kV_rounded_by dc_rounded_by pm_rounded_by cd_rounded_by ct_rounded_by : Value} {od_rounded_by an_rounded_by : Option Addr} {sl_rounded_by : Array (Option Value)} {f_rounded : Addr} {oc_rounded kV_rounded dc_rounded pm_rounded cd_rounded ct_rounded : Value} {od_rounded an_rounded : Option Addr} {sl_rounded : Array (Option Value)} {f_law_seed : Addr} {oc_law_seed kV_law_seed dc_law_seed pm_law_seed cd_law_seed ct_law_seed : Value} {od_law_seed an_law_seed : Option Addr} {sl_law_seed : Array (Option Value)} {f_law_pool : Addr} {oc_law_pool kV_law_pool dc_law_pool pm_law_pool cd_law_pool ct_law_pool : Value} {od_law_pool an_law_pool : Option Addr} {sl_law_pool : Array (Option Value)} {f_law_draw : Addr} {oc_law_draw kV_law_draw dc_law_draw pm_law_draw cd_law_draw ct_law_draw : Value} {od_law_draw an_law_draw : Option Addr} {sl_law_draw : Array (Option Value)} {f_law_pick : Addr} {oc_law_pick kV_law_pick dc_law_pick pm_law_pick cd_law_pick ct_law_pick : Value} {od_law_pick an_law_pick : Option Addr} {sl_law_pick : Array (Option Value)} {f_law_odd : Addr} {oc_law_odd kV_law_odd dc_law_odd pm_law_odd cd_law_odd ct_law_odd : Value} {od_law_odd an_law_odd : Option Addr} {sl_law_odd : Array (Option Value)} {f_law_styles : Addr} {oc_law_styles kV_law_styles dc_law_styles pm_law_styles cd_law_styles ct_law_styles : Value} {od_law_styles an_law_styles : Option Addr} {sl_law_styles : Array (Option Value)} {f_law_number : Addr} {oc_law_number kV_law_number dc_law_number pm_law_number cd_law_number ct_law_number : Value} {od_law_number an_law_number : Option Addr} {sl_law_number : Array (Option Value)} {f_law_whole : Addr} {oc_law_whole kV_law_whole dc_law_whole pm_law_whole cd_law_whole ct_law_whole : Value} {od_law_whole an_law_whole : Option Addr} {sl_law_whole : Array (Option Value)} {f_law_fits : Addr} {oc_law_fits kV_law_fits dc_law_fits pm_law_fits cd_law_fits ct_law_fits : Value} {od_law_fits an_law_fits : Option Addr} {sl_law_fits : Array (Option Value)} {f_law_fraction : Addr} {oc_law_fraction kV_law_fraction dc_law_fraction pm_law_fraction cd_law_fraction ct_law_fraction : Value} {od_law_fraction an_law_fraction : Option Addr} {sl_law_fraction : Array (Option Value)} {f_law_told : Addr} {oc_law_told kV_law_told dc_law_told pm_law_told cd_law_told ct_law_told : Value} {od_law_told an_law_told : Option Addr} {sl_law_told : Array (Option Value)} {f_law_refusal : Addr} {oc_law_refusal kV_law_refusal dc_law_refusal pm_law_refusal cd_law_refusal ct_law_refusal : Value} {od_law_refusal an_law_refusal : Option Addr} {sl_law_refusal : Array (Option Value)} {f_law_judged : Addr} {oc_law_judged kV_law_judged dc_law_judged pm_law_judged cd_law_judged ct_law_judged : Value} {od_law_judged an_law_judged : Option Addr} {sl_law_judged : Array (Option Value)} {f_law_right : Addr} {oc_law_right kV_law_right dc_law_right pm_law_right cd_law_right ct_law_right : Value} {od_law_right an_law_right : Option Addr} {sl_law_right : Array (Option Value)} {f_law : Addr} {oc_law kV_law dc_law pm_law cd_law ct_law : Value} {od_law an_law : Option Addr} {sl_law : Array (Option Value)} {C_InvalidNumber i_InvalidNumber N_InvalidNumber w0_InvalidNumber : Addr} {nm_InvalidNumber q_InvalidNumber : Str} {bs_InvalidNumber sub_InvalidNumber : List Value} {sn_InvalidNumber : List Str} {ab_InvalidNumber : Bool} {col_InvalidNumber : Option Bool} {dd_InvalidNumber : Option Addr} {m0_InvalidNumber m1_InvalidNumber m2_InvalidNumber m3_InvalidNumber m5_InvalidNumber : Option Value} {oc_InvalidNumber dc_InvalidNumber pm_InvalidNumber cd_InvalidNumber ct_InvalidNumber : Value} {od_InvalidNumber an_InvalidNumber : Option Addr} {sl_InvalidNumber : Array (Option Value)} {C_InvalidRounding i_InvalidRounding N_InvalidRounding w0_InvalidRounding : Addr} {nm_InvalidRounding q_InvalidRounding : Str} {bs_InvalidRounding sub_InvalidRounding : List Value} {sn_InvalidRounding : List Str} {ab_InvalidRounding : Bool} {col_InvalidRounding : Option Bool} {dd_InvalidRounding : Option Addr} {m0_InvalidRounding m1_InvalidRounding m2_InvalidRounding m3_InvalidRounding m5_InvalidRounding : Option Value} {oc_InvalidRounding dc_InvalidRounding pm_InvalidRounding cd_InvalidRounding ct_InvalidRounding : Value} {od_InvalidRounding an_InvalidRounding : Option Addr} {sl_InvalidRounding : Array (Option Value)}
    (a_is_integer : PySem.W.nsIn K mainGlobals "is_integer" = some (some (.ref f_is_integer)))
    (l_is_integer : K.lookup f_is_integer = some ⟨oc_is_integer, od_is_integer, .func (PySem.W.fnOf "is_integer" "is_integer" (defArgs st_is_integer) (defBody st_is_integer) (defScope st_is_integer) .none kV_is_integer dc_is_integer pm_is_integer an_is_integer cd_is_integer ct_is_integer), sl_is_integer⟩)
    (c_is_integer : PySem.W.codeIn K cd_is_integer "is_integer" = true)
    (k_is_integer : PySem.W.keepIn K (.ref f_is_integer) = true)
    (a_is_rounding : PySem.W.nsIn K mainGlobals "is_rounding" = some (some (.ref f_is_rounding)))
    (l_is_rounding : K.lookup f_is_rounding = some ⟨oc_is_rounding, od_is_rounding, .func (PySem.W.fnOf "is_rounding" "is_rounding" (defArgs st_is_rounding) (defBody st_is_rounding) (defScope st_is_rounding) .none kV_is_rounding dc_is_rounding pm_is_rounding an_is_rounding cd_is_rounding ct_is_rounding), sl_is_rounding⟩)
    (c_is_rounding : PySem.W.codeIn K cd_is_rounding "is_rounding" = true)
    (k_is_rounding : PySem.W.keepIn K (.ref f_is_rounding) = true)
    (a_rounded_by : PySem.W.nsIn K mainGlobals "rounded_by" = some (some (.ref f_rounded_by)))
    (l_rounded_by : K.lookup f_rounded_by = some ⟨oc_rounded_by, od_rounded_by, .func (PySem.W.fnOf "rounded_by" "rounded_by" (defArgs st_rounded_by) (defBody st_rounded_by) (defScope st_rounded_by) .none kV_rounded_by dc_rounded_by pm_rounded_by an_rounded_by cd_rounded_by ct_rounded_by), sl_rounded_by⟩)
    (c_rounded_by : PySem.W.codeIn K cd_rounded_by "rounded_by" = true)
    (k_rounded_by : PySem.W.keepIn K (.ref f_rounded_by) = true)
    (a_rounded : PySem.W.nsIn K mainGlobals "rounded" = some (some (.ref f_rounded)))
    (l_rounded : K.lookup f_rounded = some ⟨oc_rounded, od_rounded, .func (PySem.W.fnOf "rounded" "rounded" (defArgs st_rounded) (defBody st_rounded) (defScope st_rounded) .none kV_rounded dc_rounded pm_rounded an_rounded cd_rounded ct_rounded), sl_rounded⟩)
    (c_rounded : PySem.W.codeIn K cd_rounded "rounded" = true)
    (k_rounded : PySem.W.keepIn K (.ref f_rounded) = true)
    (a_law_seed : PySem.W.nsIn K mainGlobals "_law_seed" = some (some (.ref f_law_seed)))
    (l_law_seed : K.lookup f_law_seed = some ⟨oc_law_seed, od_law_seed, .func (PySem.W.fnOf "_law_seed" "_law_seed" (defArgs st_law_seed) (defBody st_law_seed) (defScope st_law_seed) .none kV_law_seed dc_law_seed pm_law_seed an_law_seed cd_law_seed ct_law_seed), sl_law_seed⟩)
    (c_law_seed : PySem.W.codeIn K cd_law_seed "_law_seed" = true)
    (k_law_seed : PySem.W.keepIn K (.ref f_law_seed) = true)
    (a_law_pool : PySem.W.nsIn K mainGlobals "_law_pool" = some (some (.ref f_law_pool)))
    (l_law_pool : K.lookup f_law_pool = some ⟨oc_law_pool, od_law_pool, .func (PySem.W.fnOf "_law_pool" "_law_pool" (defArgs st_law_pool) (defBody st_law_pool) (defScope st_law_pool) .none kV_law_pool dc_law_pool pm_law_pool an_law_pool cd_law_pool ct_law_pool), sl_law_pool⟩)
    (c_law_pool : PySem.W.codeIn K cd_law_pool "_law_pool" = true)
    (k_law_pool : PySem.W.keepIn K (.ref f_law_pool) = true)
    (a_law_draw : PySem.W.nsIn K mainGlobals "_law_draw" = some (some (.ref f_law_draw)))
    (l_law_draw : K.lookup f_law_draw = some ⟨oc_law_draw, od_law_draw, .func (PySem.W.fnOf "_law_draw" "_law_draw" (defArgs st_law_draw) (defBody st_law_draw) (defScope st_law_draw) .none kV_law_draw dc_law_draw pm_law_draw an_law_draw cd_law_draw ct_law_draw), sl_law_draw⟩)
    (c_law_draw : PySem.W.codeIn K cd_law_draw "_law_draw" = true)
    (k_law_draw : PySem.W.keepIn K (.ref f_law_draw) = true)
    (a_law_pick : PySem.W.nsIn K mainGlobals "_law_pick" = some (some (.ref f_law_pick)))
    (l_law_pick : K.lookup f_law_pick = some ⟨oc_law_pick, od_law_pick, .func (PySem.W.fnOf "_law_pick" "_law_pick" (defArgs st_law_pick) (defBody st_law_pick) (defScope st_law_pick) .none kV_law_pick dc_law_pick pm_law_pick an_law_pick cd_law_pick ct_law_pick), sl_law_pick⟩)
    (c_law_pick : PySem.W.codeIn K cd_law_pick "_law_pick" = true)
    (k_law_pick : PySem.W.keepIn K (.ref f_law_pick) = true)
    (a_law_odd : PySem.W.nsIn K mainGlobals "_law_odd" = some (some (.ref f_law_odd)))
    (l_law_odd : K.lookup f_law_odd = some ⟨oc_law_odd, od_law_odd, .func (PySem.W.fnOf "_law_odd" "_law_odd" (defArgs st_law_odd) (defBody st_law_odd) (defScope st_law_odd) .none kV_law_odd dc_law_odd pm_law_odd an_law_odd cd_law_odd ct_law_odd), sl_law_odd⟩)
    (c_law_odd : PySem.W.codeIn K cd_law_odd "_law_odd" = true)
    (k_law_odd : PySem.W.keepIn K (.ref f_law_odd) = true)
    (a_law_styles : PySem.W.nsIn K mainGlobals "_law_styles" = some (some (.ref f_law_styles)))
    (l_law_styles : K.lookup f_law_styles = some ⟨oc_law_styles, od_law_styles, .func (PySem.W.fnOf "_law_styles" "_law_styles" (defArgs st_law_styles) (defBody st_law_styles) (defScope st_law_styles) .none kV_law_styles dc_law_styles pm_law_styles an_law_styles cd_law_styles ct_law_styles), sl_law_styles⟩)
    (c_law_styles : PySem.W.codeIn K cd_law_styles "_law_styles" = true)
    (k_law_styles : PySem.W.keepIn K (.ref f_law_styles) = true)
    (a_law_number : PySem.W.nsIn K mainGlobals "_law_number" = some (some (.ref f_law_number)))
    (l_law_number : K.lookup f_law_number = some ⟨oc_law_number, od_law_number, .func (PySem.W.fnOf "_law_number" "_law_number" (defArgs st_law_number) (defBody st_law_number) (defScope st_law_number) .none kV_law_number dc_law_number pm_law_number an_law_number cd_law_number ct_law_number), sl_law_number⟩)
    (c_law_number : PySem.W.codeIn K cd_law_number "_law_number" = true)
    (k_law_number : PySem.W.keepIn K (.ref f_law_number) = true)
    (a_law_whole : PySem.W.nsIn K mainGlobals "_law_whole" = some (some (.ref f_law_whole)))
    (l_law_whole : K.lookup f_law_whole = some ⟨oc_law_whole, od_law_whole, .func (PySem.W.fnOf "_law_whole" "_law_whole" (defArgs st_law_whole) (defBody st_law_whole) (defScope st_law_whole) .none kV_law_whole dc_law_whole pm_law_whole an_law_whole cd_law_whole ct_law_whole), sl_law_whole⟩)
    (c_law_whole : PySem.W.codeIn K cd_law_whole "_law_whole" = true)
    (k_law_whole : PySem.W.keepIn K (.ref f_law_whole) = true)
    (a_law_fits : PySem.W.nsIn K mainGlobals "_law_fits" = some (some (.ref f_law_fits)))
    (l_law_fits : K.lookup f_law_fits = some ⟨oc_law_fits, od_law_fits, .func (PySem.W.fnOf "_law_fits" "_law_fits" (defArgs st_law_fits) (defBody st_law_fits) (defScope st_law_fits) .none kV_law_fits dc_law_fits pm_law_fits an_law_fits cd_law_fits ct_law_fits), sl_law_fits⟩)
    (c_law_fits : PySem.W.codeIn K cd_law_fits "_law_fits" = true)
    (k_law_fits : PySem.W.keepIn K (.ref f_law_fits) = true)
    (a_law_fraction : PySem.W.nsIn K mainGlobals "_law_fraction" = some (some (.ref f_law_fraction)))
    (l_law_fraction : K.lookup f_law_fraction = some ⟨oc_law_fraction, od_law_fraction, .func (PySem.W.fnOf "_law_fraction" "_law_fraction" (defArgs st_law_fraction) (defBody st_law_fraction) (defScope st_law_fraction) .none kV_law_fraction dc_law_fraction pm_law_fraction an_law_fraction cd_law_fraction ct_law_fraction), sl_law_fraction⟩)
    (c_law_fraction : PySem.W.codeIn K cd_law_fraction "_law_fraction" = true)
    (k_law_fraction : PySem.W.keepIn K (.ref f_law_fraction) = true)
    (a_law_told : PySem.W.nsIn K mainGlobals "_law_told" = some (some (.ref f_law_told)))
    (l_law_told : K.lookup f_law_told = some ⟨oc_law_told, od_law_told, .func (PySem.W.fnOf "_law_told" "_law_told" (defArgs st_law_told) (defBody st_law_told) (defScope st_law_told) .none kV_law_told dc_law_told pm_law_told an_law_told cd_law_told ct_law_told), sl_law_told⟩)
    (c_law_told : PySem.W.codeIn K cd_law_told "_law_told" = true)
    (k_law_told : PySem.W.keepIn K (.ref f_law_told) = true)
    (a_law_refusal : PySem.W.nsIn K mainGlobals "_law_refusal" = some (some (.ref f_law_refusal)))
    (l_law_refusal : K.lookup f_law_refusal = some ⟨oc_law_refusal, od_law_refusal, .func (PySem.W.fnOf "_law_refusal" "_law_refusal" (defArgs st_law_refusal) (defBody st_law_refusal) (defScope st_law_refusal) .none kV_law_refusal dc_law_refusal pm_law_refusal an_law_refusal cd_law_refusal ct_law_refusal), sl_law_refusal⟩)
    (c_law_refusal : PySem.W.codeIn K cd_law_refusal "_law_refusal" = true)
    (k_law_refusal : PySem.W.keepIn K (.ref f_law_refusal) = true)
    (a_law_judged : PySem.W.nsIn K mainGlobals "_law_judged" = some (some (.ref f_law_judged)))
    (l_law_judged : K.lookup f_law_judged = some ⟨oc_law_judged, od_law_judged, .func (PySem.W.fnOf "_law_judged" "_law_judged" (defArgs st_law_judged) (defBody st_law_judged) (defScope st_law_judged) .none kV_law_judged dc_law_judged pm_law_judged an_law_judged cd_law_judged ct_law_judged), sl_law_judged⟩)
    (c_law_judged : PySem.W.codeIn K cd_law_judged "_law_judged" = true)
    (k_law_judged : PySem.W.keepIn K (.ref f_law_judged) = true)
    (a_law_right : PySem.W.nsIn K mainGlobals "_law_right" = some (some (.ref f_law_right)))
    (l_law_right : K.lookup f_law_right = some ⟨oc_law_right, od_law_right, .func (PySem.W.fnOf "_law_right" "_law_right" (defArgs st_law_right) (defBody st_law_right) (defScope st_law_right) .none kV_law_right dc_law_right pm_law_right an_law_right cd_law_right ct_law_right), sl_law_right⟩)
    (c_law_right : PySem.W.codeIn K cd_law_right "_law_right" = true)
    (k_law_right : PySem.W.keepIn K (.ref f_law_right) = true)
    (a_law : PySem.W.nsIn K mainGlobals "law" = some (some (.ref f_law)))
    (l_law : K.lookup f_law = some ⟨oc_law, od_law, .func (PySem.W.fnOf "law" "law" (defArgs st_law) (defBody st_law) (defScope st_law) .none kV_law dc_law pm_law an_law cd_law ct_law), sl_law⟩)
    (c_law : PySem.W.codeIn K cd_law "law" = true)
    (k_law : PySem.W.keepIn K (.ref f_law) = true)
    (b_len : PySem.W.nsIn K mainGlobals "len" = some none)
    (b_int : PySem.W.nsIn K mainGlobals "int" = some none)
    (b_abs : PySem.W.nsIn K mainGlobals "abs" = some none)
    (b_divmod : PySem.W.nsIn K mainGlobals "divmod" = some none)
    (b_str : PySem.W.nsIn K mainGlobals "str" = some none)
    (b_isinstance : PySem.W.nsIn K mainGlobals "isinstance" = some none)
    (b_bool : PySem.W.nsIn K mainGlobals "bool" = some none)
    (b_range : PySem.W.nsIn K mainGlobals "range" = some none)
    (b_max : PySem.W.nsIn K mainGlobals "max" = some none)
    (b_min : PySem.W.nsIn K mainGlobals "min" = some none)
    (b_all : PySem.W.nsIn K mainGlobals "all" = some none)
    (b_repr : PySem.W.nsIn K mainGlobals "repr" = some none)
    (a_InvalidNumber : PySem.W.nsIn K mainGlobals "InvalidNumber" = some (some (.ref C_InvalidNumber)))
    (x_InvalidNumber : K.lookup C_InvalidNumber = some (excClassObj nm_InvalidNumber q_InvalidNumber C_InvalidNumber N_InvalidNumber bs_InvalidNumber (.ref w0_InvalidNumber :: [.type "ValueError", .type "Exception", .type "BaseException", .type "object"]) true sn_InvalidNumber sub_InvalidNumber ab_InvalidNumber col_InvalidNumber dd_InvalidNumber m0_InvalidNumber m1_InvalidNumber m2_InvalidNumber m3_InvalidNumber m5_InvalidNumber "ValueError.__new__"))
    (sa_InvalidNumber : PySem.W.findIn K (.ref C_InvalidNumber) "__setattr__" = some (some (.builtin "object.__setattr__")))
    (ga_InvalidNumber : PySem.W.findIn K (.ref C_InvalidNumber) "__getattribute__" = some (some (.builtin "BaseException.__getattribute__")))
    (gg_InvalidNumber : PySem.W.findIn K (.ref C_InvalidNumber) "__getattr__" = some none)
    (nf_InvalidNumber : PySem.W.findIn K (.ref C_InvalidNumber) "given" = some none)
    (ii_InvalidNumber : PySem.W.findIn K (.ref C_InvalidNumber) "__init__" = some (some (.ref i_InvalidNumber)))
    (ti_InvalidNumber : PySem.W.typeIn K (.ref i_InvalidNumber) = some (.type "function"))
    (l_InvalidNumber : K.lookup i_InvalidNumber = some ⟨oc_InvalidNumber, od_InvalidNumber, .func (PySem.W.fnOf "__init__" "InvalidNumber.__init__" (defArgs (inClass (top 3) 0)) (defBody (inClass (top 3) 0)) (defScope (inClass (top 3) 0)) .none .none dc_InvalidNumber pm_InvalidNumber an_InvalidNumber cd_InvalidNumber ct_InvalidNumber), sl_InvalidNumber⟩)
    (c_InvalidNumber : PySem.W.codeIn K cd_InvalidNumber "InvalidNumber.__init__" = true)
    (k_InvalidNumber : PySem.W.keepIn K (.ref C_InvalidNumber) = true)
    (e_InvalidNumber : PySem.W.subIn K (.ref C_InvalidNumber) (.type "BaseException") = some true)
    (t_InvalidNumber : PySem.W.typeIn K (.ref C_InvalidNumber) = some (.type "type"))
    (h_InvalidNumber : PySem.W.hasDictIn K C_InvalidNumber = true)
    (y_InvalidNumber : PySem.W.isClsIn K C_InvalidNumber = true)
    (a_InvalidRounding : PySem.W.nsIn K mainGlobals "InvalidRounding" = some (some (.ref C_InvalidRounding)))
    (x_InvalidRounding : K.lookup C_InvalidRounding = some (excClassObj nm_InvalidRounding q_InvalidRounding C_InvalidRounding N_InvalidRounding bs_InvalidRounding (.ref w0_InvalidRounding :: [.type "ValueError", .type "Exception", .type "BaseException", .type "object"]) true sn_InvalidRounding sub_InvalidRounding ab_InvalidRounding col_InvalidRounding dd_InvalidRounding m0_InvalidRounding m1_InvalidRounding m2_InvalidRounding m3_InvalidRounding m5_InvalidRounding "ValueError.__new__"))
    (sa_InvalidRounding : PySem.W.findIn K (.ref C_InvalidRounding) "__setattr__" = some (some (.builtin "object.__setattr__")))
    (ga_InvalidRounding : PySem.W.findIn K (.ref C_InvalidRounding) "__getattribute__" = some (some (.builtin "BaseException.__getattribute__")))
    (gg_InvalidRounding : PySem.W.findIn K (.ref C_InvalidRounding) "__getattr__" = some none)
    (nf_InvalidRounding : PySem.W.findIn K (.ref C_InvalidRounding) "given" = some none)
    (ii_InvalidRounding : PySem.W.findIn K (.ref C_InvalidRounding) "__init__" = some (some (.ref i_InvalidRounding)))
    (ti_InvalidRounding : PySem.W.typeIn K (.ref i_InvalidRounding) = some (.type "function"))
    (l_InvalidRounding : K.lookup i_InvalidRounding = some ⟨oc_InvalidRounding, od_InvalidRounding, .func (PySem.W.fnOf "__init__" "InvalidRounding.__init__" (defArgs (inClass (top 2) 0)) (defBody (inClass (top 2) 0)) (defScope (inClass (top 2) 0)) .none .none dc_InvalidRounding pm_InvalidRounding an_InvalidRounding cd_InvalidRounding ct_InvalidRounding), sl_InvalidRounding⟩)
    (c_InvalidRounding : PySem.W.codeIn K cd_InvalidRounding "InvalidRounding.__init__" = true)
    (k_InvalidRounding : PySem.W.keepIn K (.ref C_InvalidRounding) = true)
    (e_InvalidRounding : PySem.W.subIn K (.ref C_InvalidRounding) (.type "BaseException") = some true)
    (t_InvalidRounding : PySem.W.typeIn K (.ref C_InvalidRounding) = some (.type "type"))
    (h_InvalidRounding : PySem.W.hasDictIn K C_InvalidRounding = true)
    (y_InvalidRounding : PySem.W.isClsIn K C_InvalidRounding = true)
    {T_R : Addr} {dd_R : Option Addr} {n_R : Nat} {t_1 t_2 t_3 t_4 t_5 : Tok} {sl_R : Array (Option Value)}
    (a_R : PySem.W.nsIn K mainGlobals "ROUNDINGS" = some (some (.ref T_R)))
    (x_R : K.lookup T_R = some ⟨.type "tuple", dd_R, .seq #[.str "down" t_1, .str "up" t_2, .str "near down" t_3, .str "near up" t_4, .str "near even" t_5] n_R, sl_R⟩)
    (s_NN : PySem.W.subIn K (.ref C_InvalidNumber) (.ref C_InvalidNumber) = some true)
    (s_RR : PySem.W.subIn K (.ref C_InvalidRounding) (.ref C_InvalidRounding) = some true)
    (s_RN : PySem.W.subIn K (.ref C_InvalidRounding) (.ref C_InvalidNumber) = some false)
    (d_RN : (Value.ref C_InvalidRounding == Value.ref C_InvalidNumber) = false) :
    ∃ fd : FuncData, (∀ (s : Shared) (u : Value), BindsTo s fd ⟨[u], []⟩ [("_law_script", u)]) ∧ ∀ base : Heap, K.In base → base.Ns mainGlobals mg → FnG P w K mg base 6 fa fd ["_law_script"] (upSp K sp_law) := by
  have D_is_integer : Dn K mg "is_integer" "is_integer" st_is_integer ps_is_integer f_is_integer _ := ⟨PySem.W.mg_of X G a_is_integer, funD_mk l_is_integer c_is_integer k_is_integer, (funD_mk l_is_integer c_is_integer k_is_integer).bindsN fun _ _ _ _ _ _ us hl => match us, hl with | [_], _ => rfl⟩
  have D_is_rounding : Dn K mg "is_rounding" "is_rounding" st_is_rounding ps_is_rounding f_is_rounding _ := ⟨PySem.W.mg_of X G a_is_rounding, funD_mk l_is_rounding c_is_rounding k_is_rounding, (funD_mk l_is_rounding c_is_rounding k_is_rounding).bindsN fun _ _ _ _ _ _ us hl => match us, hl with | [_], _ => rfl⟩
  have D_rounded_by : Dn K mg "rounded_by" "rounded_by" st_rounded_by ps_rounded_by f_rounded_by _ := ⟨PySem.W.mg_of X G a_rounded_by, funD_mk l_rounded_by c_rounded_by k_rounded_by, (funD_mk l_rounded_by c_rounded_by k_rounded_by).bindsN fun _ _ _ _ _ _ us hl => match us, hl with | [_, _, _], _ => rfl⟩
  have D_rounded : Dn K mg "rounded" "rounded" st_rounded ps_rounded f_rounded _ := ⟨PySem.W.mg_of X G a_rounded, funD_mk l_rounded c_rounded k_rounded, (funD_mk l_rounded c_rounded k_rounded).bindsN fun _ _ _ _ _ _ us hl => match us, hl with | [_, _, _], _ => rfl⟩
  have D_law_seed : Dn K mg "_law_seed" "_law_seed" st_law_seed ps_law_seed f_law_seed _ := ⟨PySem.W.mg_of X G a_law_seed, funD_mk l_law_seed c_law_seed k_law_seed, (funD_mk l_law_seed c_law_seed k_law_seed).bindsN fun _ _ _ _ _ _ us hl => match us, hl with | [_, _], _ => rfl⟩
  have D_law_pool : Dn K mg "_law_pool" "_law_pool" st_law_pool ps_law_pool f_law_pool _ := ⟨PySem.W.mg_of X G a_law_pool, funD_mk l_law_pool c_law_pool k_law_pool, (funD_mk l_law_pool c_law_pool k_law_pool).bindsN fun _ _ _ _ _ _ us hl => match us, hl with | [_], _ => rfl⟩
  have D_law_draw : Dn K mg "_law_draw" "_law_draw" st_law_draw ps_law_draw f_law_draw _ := ⟨PySem.W.mg_of X G a_law_draw, funD_mk l_law_draw c_law_draw k_law_draw, (funD_mk l_law_draw c_law_draw k_law_draw).bindsN fun _ _ _ _ _ _ us hl => match us, hl with | [_, _], _ => rfl⟩
  have D_law_pick : Dn K mg "_law_pick" "_law_pick" st_law_pick ps_law_pick f_law_pick _ := ⟨PySem.W.mg_of X G a_law_pick, funD_mk l_law_pick c_law_pick k_law_pick, (funD_mk l_law_pick c_law_pick k_law_pick).bindsN fun _ _ _ _ _ _ us hl => match us, hl with | [_, _], _ => rfl⟩
  have D_law_odd : Dn K mg "_law_odd" "_law_odd" st_law_odd ps_law_odd f_law_odd _ := ⟨PySem.W.mg_of X G a_law_odd, funD_mk l_law_odd c_law_odd k_law_odd, (funD_mk l_law_odd c_law_odd k_law_odd).bindsN fun _ _ _ _ _ _ us hl => match us, hl with | [_], _ => rfl⟩
  have D_law_styles : Dn K mg "_law_styles" "_law_styles" st_law_styles ps_law_styles f_law_styles _ := ⟨PySem.W.mg_of X G a_law_styles, funD_mk l_law_styles c_law_styles k_law_styles, (funD_mk l_law_styles c_law_styles k_law_styles).bindsN fun _ _ _ _ _ _ us hl => match us, hl with | [], _ => rfl⟩
  have D_law_number : Dn K mg "_law_number" "_law_number" st_law_number ps_law_number f_law_number _ := ⟨PySem.W.mg_of X G a_law_number, funD_mk l_law_number c_law_number k_law_number, (funD_mk l_law_number c_law_number k_law_number).bindsN fun _ _ _ _ _ _ us hl => match us, hl with | [_], _ => rfl⟩
  have D_law_whole : Dn K mg "_law_whole" "_law_whole" st_law_whole ps_law_whole f_law_whole _ := ⟨PySem.W.mg_of X G a_law_whole, funD_mk l_law_whole c_law_whole k_law_whole, (funD_mk l_law_whole c_law_whole k_law_whole).bindsN fun _ _ _ _ _ _ us hl => match us, hl with | [_], _ => rfl⟩
  have D_law_fits : Dn K mg "_law_fits" "_law_fits" st_law_fits ps_law_fits f_law_fits _ := ⟨PySem.W.mg_of X G a_law_fits, funD_mk l_law_fits c_law_fits k_law_fits, (funD_mk l_law_fits c_law_fits k_law_fits).bindsN fun _ _ _ _ _ _ us hl => match us, hl with | [_, _, _, _], _ => rfl⟩
  have D_law_fraction : Dn K mg "_law_fraction" "_law_fraction" st_law_fraction ps_law_fraction f_law_fraction _ := ⟨PySem.W.mg_of X G a_law_fraction, funD_mk l_law_fraction c_law_fraction k_law_fraction, (funD_mk l_law_fraction c_law_fraction k_law_fraction).bindsN fun _ _ _ _ _ _ us hl => match us, hl with | [_], _ => rfl⟩
  have D_law_told : Dn K mg "_law_told" "_law_told" st_law_told ps_law_told f_law_told _ := ⟨PySem.W.mg_of X G a_law_told, funD_mk l_law_told c_law_told k_law_told, (funD_mk l_law_told c_law_told k_law_told).bindsN fun _ _ _ _ _ _ us hl => match us, hl with | [_, _, _, _], _ => rfl⟩
  have D_law_refusal : Dn K mg "_law_refusal" "_law_refusal" st_law_refusal ps_law_refusal f_law_refusal _ := ⟨PySem.W.mg_of X G a_law_refusal, funD_mk l_law_refusal c_law_refusal k_law_refusal, (funD_mk l_law_refusal c_law_refusal k_law_refusal).bindsN fun _ _ _ _ _ _ us hl => match us, hl with | [_, _, _], _ => rfl⟩
  have D_law_judged : Dn K mg "_law_judged" "_law_judged" st_law_judged ps_law_judged f_law_judged _ := ⟨PySem.W.mg_of X G a_law_judged, funD_mk l_law_judged c_law_judged k_law_judged, (funD_mk l_law_judged c_law_judged k_law_judged).bindsN fun _ _ _ _ _ _ us hl => match us, hl with | [_, _, _], _ => rfl⟩
  have D_law_right : Dn K mg "_law_right" "_law_right" st_law_right ps_law_right f_law_right _ := ⟨PySem.W.mg_of X G a_law_right, funD_mk l_law_right c_law_right k_law_right, (funD_mk l_law_right c_law_right k_law_right).bindsN fun _ _ _ _ _ _ us hl => match us, hl with | [_], _ => rfl⟩
  have D_law : Dn K mg "law" "law" st_law ps_law f_law _ := ⟨PySem.W.mg_of X G a_law, funD_mk l_law c_law k_law, (funD_mk l_law c_law k_law).bindsN fun _ _ _ _ _ _ us hl => match us, hl with | [_], _ => rfl⟩
  have n_len : mg "len" = none := PySem.W.mg_none_of X G b_len
  have n_int : mg "int" = none := PySem.W.mg_none_of X G b_int
  have n_abs : mg "abs" = none := PySem.W.mg_none_of X G b_abs
  have n_divmod : mg "divmod" = none := PySem.W.mg_none_of X G b_divmod
  have n_str : mg "str" = none := PySem.W.mg_none_of X G b_str
  have n_isinstance : mg "isinstance" = none := PySem.W.mg_none_of X G b_isinstance
  have n_bool : mg "bool" = none := PySem.W.mg_none_of X G b_bool
  have n_range : mg "range" = none := PySem.W.mg_none_of X G b_range
  have n_max : mg "max" = none := PySem.W.mg_none_of X G b_max
  have n_min : mg "min" = none := PySem.W.mg_none_of X G b_min
  have n_all : mg "all" = none := PySem.W.mg_none_of X G b_all
  have n_repr : mg "repr" = none := PySem.W.mg_none_of X G b_repr
  have E_InvalidNumber : PySem.ErD.ErrT K mg "InvalidNumber" "given" C_InvalidNumber i_InvalidNumber := ⟨.inl rfl, PySem.W.mg_of X G a_InvalidNumber, ⟨_, _, _, _, _, _, _, _, _, _, _, _, _, _, _, _, x_InvalidNumber, PySem.ErD.Bse.ve.own⟩, sa_InvalidNumber, ga_InvalidNumber, gg_InvalidNumber, nf_InvalidNumber, ii_InvalidNumber, ti_InvalidNumber, k_InvalidNumber, e_InvalidNumber, t_InvalidNumber, h_InvalidNumber, ⟨_, _, _, _, _, _, _, _, _, _, _, _, _, _, _, l_InvalidNumber, c_InvalidNumber⟩⟩
  have E_InvalidRounding : PySem.ErD.ErrT K mg "InvalidRounding" "given" C_InvalidRounding i_InvalidRounding := ⟨.inl rfl, PySem.W.mg_of X G a_InvalidRounding, ⟨_, _, _, _, _, _, _, _, _, _, _, _, _, _, _, _, x_InvalidRounding, PySem.ErD.Bse.ve.own⟩, sa_InvalidRounding, ga_InvalidRounding, gg_InvalidRounding, nf_InvalidRounding, ii_InvalidRounding, ti_InvalidRounding, k_InvalidRounding, e_InvalidRounding, t_InvalidRounding, h_InvalidRounding, ⟨_, _, _, _, _, _, _, _, _, _, _, _, _, _, _, l_InvalidRounding, c_InvalidRounding⟩⟩
  have vR : Gv K mg "ROUNDINGS" (.tup stylesD) := ⟨.ref T_R, _, PySem.W.mg_of X G a_R, rfl, fun F => .tup (vs := [.str "down", .str "up", .str "near down", .str "near up", .str "near even"]) (.inr ⟨_, _, _, x_R, rfl, rfl, small_le (n := 5) (by decide), .cons rel_s (.cons rel_s (.cons rel_s (.cons rel_s (.cons rel_s .nil))))⟩) (.cons (.str _) (.cons (.str _) (.cons (.str _) (.cons (.str _) (.cons (.str _) .nil)))))⟩
  have xNN := exm_of e_InvalidNumber y_InvalidNumber t_InvalidNumber s_NN fun _ => rfl
  have xRR := exm_of e_InvalidRounding y_InvalidRounding t_InvalidRounding s_RR fun _ => rfl
  have xRN := exm_of e_InvalidNumber y_InvalidNumber t_InvalidNumber s_RN fun z => by rw [d_RN] at z; cases z
  have ef := hfa.symm.trans D_law.g
  cases ef
  refine ⟨_, fun s u => D_law.d.bindsA (ps := ["_law_script"]) (fun _ _ _ _ _ _ us hl => match us, hl with | [_], _ => rfl) s [u] rfl, fun base _ _ => ?_⟩
  have cI : Cal P w K mg base _ _ _ _ _ _ := ok_isint D_is_integer n_isinstance n_int n_bool
  have cR : Cal P w K mg base _ _ _ _ _ _ := ok_isrnd D_is_rounding n_isinstance n_str vR
  have cB : Cal P w K mg base _ _ _ _ _ _ := ok_rby D_rounded_by
  have cD : Cal P w K mg base _ _ _ _ _ _ := ok_rounded D_rounded cI cR cB E_InvalidNumber E_InvalidRounding
  have cS : Cal P w K mg base _ _ _ _ _ _ := ok_seed D_law_seed n_len n_int
  have cP : Cal P w K mg base _ _ _ _ _ _ := ok_pool D_law_pool n_int n_abs
  have cW : Cal P w K mg base _ _ _ _ _ _ := ok_draw D_law_draw n_int n_divmod
  have cK : Cal P w K mg base _ _ _ _ _ _ := ok_pick D_law_pick n_len cW
  have cO : Cal P w K mg base _ _ _ _ _ _ := ok_odd D_law_odd n_str cW cK
  have cY : Cal P w K mg base _ _ _ _ _ _ := ok_styles D_law_styles
  have cN : Cal P w K mg base _ _ _ _ _ _ := ok_number D_law_number cW
  have cH : Cal P w K mg base _ _ _ _ _ _ := ok_whole D_law_whole n_isinstance n_int n_bool
  have cF : Cal P w K mg base _ _ _ _ _ _ := ok_fits D_law_fits n_abs n_int cH
  have cC : Cal P w K mg base _ _ _ _ _ _ := ok_fraction D_law_fraction cW cN
  have cT : Cal P w K mg base _ _ _ _ _ _ := ok_told D_law_told D_rounded cD E_InvalidNumber E_InvalidRounding xNN xRN xRR
  have cU : Cal P w K mg base _ _ _ _ _ _ := ok_due D_law_refusal n_isinstance n_str cH cY
  have cJ : Cal P w K mg base _ _ _ _ _ _ := ok_judged D_law_judged n_repr cT cU cF
  have cZ : Cal P w K mg base _ _ _ _ _ _ := ok_right D_law_right n_range cC cY cJ cD cK cO cW
  exact (ok_law D_law n_range n_len n_max n_min n_all cS cP cZ).G
end

end Dv
-- LAW law_k11_whole_roundings_by_bounds wholedrift_k11_whole_roundings_by_bounds
open PySem PySem.W PyProof.Rows
set_option maxRecDepth 100000 in
set_option maxHeartbeats 0 in
theorem PySem.Challenge.cw_wholedrift_k11_whole_roundings_by_bounds_holds : PySem.Challenge.rw_wholedrift_k11_whole_roundings_by_bounds.Holds := by
  refine hd11 ?_
  k_fill
  refine Dv.walk_ofD (l := PySem.Challenge.rw_wholedrift_k11_whole_roundings_by_bounds) (n := 63) (k := 6) (x := "_law_script") (sp := Dv.sp_law) rfl (by decide) rfl ⟨rfl, by decide, by decide⟩ (fun w h Y => PySem.W.kIn_of Y) ?F fun ns hl hb => ⟨ns, rfl, hl, fun _ => rfl⟩
  case F =>
    intro w mg fa h KX G hmg
    refine' Dv.all_mk KX G hmg ?a_is_integer ?l_is_integer ?c_is_integer ?k_is_integer ?a_is_rounding ?l_is_rounding ?c_is_rounding ?k_is_rounding ?a_rounded_by ?l_rounded_by ?c_rounded_by ?k_rounded_by ?a_rounded ?l_rounded ?c_rounded ?k_rounded ?a_law_seed ?l_law_seed ?c_law_seed ?k_law_seed ?a_law_pool ?l_law_pool ?c_law_pool ?k_law_pool ?a_law_draw ?l_law_draw ?c_law_draw ?k_law_draw ?a_law_pick ?l_law_pick ?c_law_pick ?k_law_pick ?a_law_odd ?l_law_odd ?c_law_odd ?k_law_odd ?a_law_styles ?l_law_styles ?c_law_styles ?k_law_styles ?a_law_number ?l_law_number ?c_law_number ?k_law_number ?a_law_whole ?l_law_whole ?c_law_whole ?k_law_whole ?a_law_fits ?l_law_fits ?c_law_fits ?k_law_fits ?a_law_fraction ?l_law_fraction ?c_law_fraction ?k_law_fraction ?a_law_told ?l_law_told ?c_law_told ?k_law_told ?a_law_refusal ?l_law_refusal ?c_law_refusal ?k_law_refusal ?a_law_judged ?l_law_judged ?c_law_judged ?k_law_judged ?a_law_right ?l_law_right ?c_law_right ?k_law_right ?a_law ?l_law ?c_law ?k_law ?b_len ?b_int ?b_abs ?b_divmod ?b_str ?b_isinstance ?b_bool ?b_range ?b_max ?b_min ?b_all ?b_repr ?a_InvalidNumber ?x_InvalidNumber ?sa_InvalidNumber ?ga_InvalidNumber ?gg_InvalidNumber ?nf_InvalidNumber ?ii_InvalidNumber ?ti_InvalidNumber ?l_InvalidNumber ?c_InvalidNumber ?k_InvalidNumber ?e_InvalidNumber ?t_InvalidNumber ?h_InvalidNumber ?y_InvalidNumber ?a_InvalidRounding ?x_InvalidRounding ?sa_InvalidRounding ?ga_InvalidRounding ?gg_InvalidRounding ?nf_InvalidRounding ?ii_InvalidRounding ?ti_InvalidRounding ?l_InvalidRounding ?c_InvalidRounding ?k_InvalidRounding ?e_InvalidRounding ?t_InvalidRounding ?h_InvalidRounding ?y_InvalidRounding ?a_R ?x_R ?s_NN ?s_RR ?s_RN ?d_RN
    (case a_is_integer => k_is)
    (case l_is_integer => k_is)
    (case c_is_integer => k_is)
    (case k_is_integer => k_is)
    (case a_is_rounding => k_is)
    (case l_is_rounding => k_is)
    (case c_is_rounding => k_is)
    (case k_is_rounding => k_is)
    (case a_rounded_by => k_is)
    (case l_rounded_by => k_is)
    (case c_rounded_by => k_is)
    (case k_rounded_by => k_is)
    (case a_rounded => k_is)
    (case l_rounded => k_is)
    (case c_rounded => k_is)
    (case k_rounded => k_is)
    (case a_law_seed => k_is)
    (case l_law_seed => k_is)
    (case c_law_seed => k_is)
    (case k_law_seed => k_is)
    (case a_law_pool => k_is)
    (case l_law_pool => k_is)
    (case c_law_pool => k_is)
    (case k_law_pool => k_is)
    (case a_law_draw => k_is)
    (case l_law_draw => k_is)
    (case c_law_draw => k_is)
    (case k_law_draw => k_is)
    (case a_law_pick => k_is)
    (case l_law_pick => k_is)
    (case c_law_pick => k_is)
    (case k_law_pick => k_is)
    (case a_law_odd => k_is)
    (case l_law_odd => k_is)
    (case c_law_odd => k_is)
    (case k_law_odd => k_is)
    (case a_law_styles => k_is)
    (case l_law_styles => k_is)
    (case c_law_styles => k_is)
    (case k_law_styles => k_is)
    (case a_law_number => k_is)
    (case l_law_number => k_is)
    (case c_law_number => k_is)
    (case k_law_number => k_is)
    (case a_law_whole => k_is)
    (case l_law_whole => k_is)
    (case c_law_whole => k_is)
    (case k_law_whole => k_is)
    (case a_law_fits => k_is)
    (case l_law_fits => k_is)
    (case c_law_fits => k_is)
    (case k_law_fits => k_is)
    (case a_law_fraction => k_is)
    (case l_law_fraction => k_is)
    (case c_law_fraction => k_is)
    (case k_law_fraction => k_is)
    (case a_law_told => k_is)
    (case l_law_told => k_is)
    (case c_law_told => k_is)
    (case k_law_told => k_is)
    (case a_law_refusal => k_is)
    (case l_law_refusal => k_is)
    (case c_law_refusal => k_is)
    (case k_law_refusal => k_is)
    (case a_law_judged => k_is)
    (case l_law_judged => k_is)
    (case c_law_judged => k_is)
    (case k_law_judged => k_is)
    (case a_law_right => k_is)
    (case l_law_right => k_is)
    (case c_law_right => k_is)
    (case k_law_right => k_is)
    (case a_law => k_is)
    (case l_law => k_is)
    (case c_law => k_is)
    (case k_law => k_is)
    (case b_len => k_is)
    (case b_int => k_is)
    (case b_abs => k_is)
    (case b_divmod => k_is)
    (case b_str => k_is)
    (case b_isinstance => k_is)
    (case b_bool => k_is)
    (case b_range => k_is)
    (case b_max => k_is)
    (case b_min => k_is)
    (case b_all => k_is)
    (case b_repr => k_is)
    (case a_InvalidNumber => k_is)
    (case x_InvalidNumber => k_is)
    (case sa_InvalidNumber => k_is)
    (case ga_InvalidNumber => k_is)
    (case gg_InvalidNumber => k_is)
    (case nf_InvalidNumber => k_is)
    (case ii_InvalidNumber => k_is)
    (case ti_InvalidNumber => k_is)
    (case l_InvalidNumber => k_is)
    (case c_InvalidNumber => k_is)
    (case k_InvalidNumber => k_is)
    (case e_InvalidNumber => k_is)
    (case t_InvalidNumber => k_is)
    (case h_InvalidNumber => k_is)
    (case y_InvalidNumber => k_is)
    (case a_InvalidRounding => k_is)
    (case x_InvalidRounding => k_is)
    (case sa_InvalidRounding => k_is)
    (case ga_InvalidRounding => k_is)
    (case gg_InvalidRounding => k_is)
    (case nf_InvalidRounding => k_is)
    (case ii_InvalidRounding => k_is)
    (case ti_InvalidRounding => k_is)
    (case l_InvalidRounding => k_is)
    (case c_InvalidRounding => k_is)
    (case k_InvalidRounding => k_is)
    (case e_InvalidRounding => k_is)
    (case t_InvalidRounding => k_is)
    (case h_InvalidRounding => k_is)
    (case y_InvalidRounding => k_is)
    (case a_R => k_is)
    (case x_R => k_is)
    (case s_NN => k_is)
    (case s_RR => k_is)
    (case s_RN => k_is)
    (case d_RN => rfl)

