import PyProof.Rows.All
import Wide.All
import OpenK.AllK
import Wide.FinOn
import HandS.ForMost
import HandS.ForExc
import HandS.Wide
import HandS.WideBits
import HandS.SlotsOwn
import HandS.Defaults
import HandS.TryMany
import HandS.ExcInit
import HandS.ExcField
import HandS.IsInst
import HandS.TupAny
import HandS.StrMore
import PyProof.ReprRoads
import HandS.Text
import HandS.RaiseMore
import KE.KExcInit
import HandS.EndBits
import HandS.MakeKwOnly
import HandS.TryOnly
import PySem.Challenge.RW_wholedrift_k04_ledgers_and_rules_refused
set_option Elab.async false
set_option linter.all false
set_option maxRecDepth 100000
set_option maxHeartbeats 4000000
open PySem PySem.W PyProof.Rows in
set_option maxHeartbeats 0 in
open_top hd04 for PySem.Challenge.rw_wholedrift_k04_ledgers_and_rules_refused
namespace Dv
open PySem PySem.Spec PyProof.Rows L2
inductive D where
  | non | bl (b : Bool) | int (i : Int) | str (x : Str) | ty (n : String) | ref (a : Addr)
  | tup (xs : List D) | lst (xs : List D) | dct (kvs : List (Key × D))
  | sl (C : Addr) (xs : List D)
  | ins (C : Addr) (fs : List (Str × D))
  | scr (ns : List Int)
mutual
inductive Rep (K : PySem.W.Frag) (F : Hp) : D → V → Prop
  | non : Rep K F .non .non
  | bl (b : Bool) : Rep K F (.bl b) (.bl b)
  | int (i : Int) : Rep K F (.int i) (.int i)
  | str (x : Str) : Rep K F (.str x) (.str x)
  | ty (n : String) : Rep K F (.ty n) (.ty n)
  | ref (a : Addr) : Rep K F (.ref a) (.ref a)
  | tup {a : Addr} {vs : List V} {ds : List D} : SqT K F a vs → RepL K F ds vs → Rep K F (.tup ds) (.ref a)
  | lst {a : Addr} {vs : List V} {ds : List D} : F a = some (.lst vs) → RepL K F ds vs → Rep K F (.lst ds) (.ref a)
  | dct {a : Addr} {kvs : List (Key × V)} {ks : List (Key × D)} : F a = some (.dK kvs) → RepK K F ks kvs → Rep K F (.dct ks) (.ref a)
  | sl {a C dx : Addr} {vs : List V} {ds : List D} : SlX.Slt F a C dx (vs.map some) → RepL K F ds vs → Rep K F (.sl C ds) (.ref a)
  | ins {a C dx : Addr} {vs : List (Str × V)} {fs : List (Str × D)} : F a = some (.ins C dx vs) → RepF K F fs vs → Rep K F (.ins C fs) (.ref a)
  | scr {a : Addr} {ns : List Int} : SqL K F a (ns.map V.int) → Rep K F (.scr ns) (.ref a)
inductive RepL (K : PySem.W.Frag) (F : Hp) : List D → List V → Prop
  | nil : RepL K F [] []
  | cons {d : D} {ds : List D} {v : V} {vs : List V} : Rep K F d v → RepL K F ds vs → RepL K F (d :: ds) (v :: vs)
inductive RepK (K : PySem.W.Frag) (F : Hp) : List (Key × D) → List (Key × V) → Prop
  | nil : RepK K F [] []
  | cons {k : Key} {d : D} {ds : List (Key × D)} {v : V} {vs : List (Key × V)} : Rep K F d v → RepK K F ds vs → RepK K F ((k, d) :: ds) ((k, v) :: vs)
inductive RepF (K : PySem.W.Frag) (F : Hp) : List (Str × D) → List (Str × V) → Prop
  | nil : RepF K F [] []
  | cons {k : Str} {d : D} {ds : List (Str × D)} {v : V} {vs : List (Str × V)} : Rep K F d v → RepF K F ds vs → RepF K F ((k, d) :: ds) ((k, v) :: vs)
end
def Ex (H H' : Hp) : Prop := ∀ a o, H a = some o → H' a = some o
theorem Ex.refl (H : Hp) : Ex H H := fun _ _ h => h
theorem Ex.trans {H H1 H2 : Hp} (a : Ex H H1) (b : Ex H1 H2) : Ex H H2 := fun x o h => b x o (a x o h)
theorem Ex.new {H : Hp} {p : Addr} {o : HO} (h : H p = none) : Ex H (upd H p o) := fun a u e => by
  rw [upd_ne (ne_of_none e h)]; exact e
theorem Ex.rd {H H' : Hp} {a : Addr} {u : HO} (e : Ex H H') (h : Rd H a u) : Rd H' a u := by
  rcases h with h | ⟨o, h⟩
  · exact .inl (e a _ h)
  · exact .inr ⟨o, e a _ h⟩
theorem Ex.l {K : PySem.W.Frag} {H H' : Hp} {a : Addr} {xs : List V} (e : Ex H H') (h : SqL K H a xs) : SqL K H' a xs := h.elim (fun h => .inl (e.rd h)) .inr
theorem Ex.t {K : PySem.W.Frag} {H H' : Hp} {a : Addr} {xs : List V} (e : Ex H H') (h : SqT K H a xs) : SqT K H' a xs := h.elim (fun h => .inl (e.rd h)) .inr
theorem Ex.slt {H H' : Hp} {a C dx : Addr} {vs : List (Option V)} (e : Ex H H') (h : SlX.Slt H a C dx vs) : SlX.Slt H' a C dx vs :=
  h.elim (fun h => .inl ⟨e _ _ h.1, h.2⟩) fun h => .inr ⟨e _ _ h.1, e _ _ h.2⟩
theorem Ex.back {H H' : Hp} {p : Addr} (e : Ex H H') (h : H' p = none) : H p = none := by
  cases h1 : H p with
  | none => rfl
  | some o => rw [e p o h1] at h; cases h
mutual
theorem Rep.mono {K : PySem.W.Frag} {F F' : Hp} (e : Ex F F') : ∀ {d : D} {v : V}, Rep K F d v → Rep K F' d v
  | _, _, .non => .non
  | _, _, .bl b => .bl b
  | _, _, .int i => .int i
  | _, _, .str x => .str x
  | _, _, .ty n => .ty n
  | _, _, .ref a => .ref a
  | _, _, .tup h r => .tup (e.t h) (RepL.mono e r)
  | _, _, .lst h r => .lst (e _ _ h) (RepL.mono e r)
  | _, _, .dct h r => .dct (e _ _ h) (RepK.mono e r)
  | _, _, .sl h r => .sl (e.slt h) (RepL.mono e r)
  | _, _, .ins h r => .ins (e _ _ h) (RepF.mono e r)
  | _, _, .scr h => .scr (e.l h)
theorem RepL.mono {K : PySem.W.Frag} {F F' : Hp} (e : Ex F F') : ∀ {d : List D} {v : List V}, RepL K F d v → RepL K F' d v
  | _, _, .nil => .nil
  | _, _, .cons h r => .cons (Rep.mono e h) (RepL.mono e r)
theorem RepK.mono {K : PySem.W.Frag} {F F' : Hp} (e : Ex F F') : ∀ {d : List (Key × D)} {v : List (Key × V)}, RepK K F d v → RepK K F' d v
  | _, _, .nil => .nil
  | _, _, .cons h r => .cons (Rep.mono e h) (RepK.mono e r)
theorem RepF.mono {K : PySem.W.Frag} {F F' : Hp} (e : Ex F F') : ∀ {d : List (Str × D)} {v : List (Str × V)}, RepF K F d v → RepF K F' d v
  | _, _, .nil => .nil
  | _, _, .cons h r => .cons (Rep.mono e h) (RepF.mono e r)
end
end Dv
namespace Dv
open PySem PySem.Spec PyProof.Rows L2
inductive RepS (K : PySem.W.Frag) (F : Hp) : List (Option D) → List (Option V) → Prop
  | nil : RepS K F [] []
  | yes {d : D} {v : V} {ds : List (Option D)} {vs : List (Option V)} : Rep K F d v → RepS K F ds vs → RepS K F (some d :: ds) (some v :: vs)
  | no (o : Option V) {ds : List (Option D)} {vs : List (Option V)} : RepS K F ds vs → RepS K F (none :: ds) (o :: vs)
inductive RepT (K : PySem.W.Frag) (F : Hp) : List (List Key × D) → List (List Key × V) → Prop
  | nil : RepT K F [] []
  | cons {k : List Key} {d : D} {ds : List (List Key × D)} {v : V} {vs : List (List Key × V)} : Rep K F d v → RepT K F ds vs → RepT K F ((k, d) :: ds) ((k, v) :: vs)
section
variable {K : PySem.W.Frag} {F F' : Hp}
theorem RepS.mono (e : Ex F F') : ∀ {d : List (Option D)} {v : List (Option V)}, RepS K F d v → RepS K F' d v
  | _, _, .nil => .nil
  | _, _, .yes h r => .yes (Rep.mono e h) (RepS.mono e r)
  | _, _, .no o r => .no o (RepS.mono e r)
theorem RepT.mono (e : Ex F F') : ∀ {d : List (List Key × D)} {v : List (List Key × V)}, RepT K F d v → RepT K F' d v
  | _, _, .nil => .nil
  | _, _, .cons h r => .cons (Rep.mono e h) (RepT.mono e r)
theorem RepS.get : ∀ {ds : List (Option D)} {vs : List (Option V)} {i : Nat} {d : D}, RepS K F ds vs → ds[i]? = some (some d) → ∃ v, vs[i]? = some (some v) ∧ Rep K F d v
  | _, _, i, _, .nil, e => by simp at e
  | _, _, 0, _, .yes h r, e => by cases e; exact ⟨_, rfl, h⟩
  | _, _, 0, _, .no _ r, e => by cases e
  | _, _, i + 1, d, .yes (ds := ds) h r, e => RepS.get (ds := ds) (i := i) r (by simpa using e)
  | _, _, i + 1, d, .no (ds := ds) _ r, e => RepS.get (ds := ds) (i := i) r (by simpa using e)
theorem RepS.set {d : D} {v : V} (h : Rep K F d v) : ∀ {ds : List (Option D)} {vs : List (Option V)} (i : Nat), RepS K F ds vs → RepS K F (ds.set i (Option.some d)) (vs.set i (Option.some v))
  | _, _, _, .nil => .nil
  | _, _, 0, .yes _ r => .yes h r
  | _, _, 0, .no _ r => .yes h r
  | _, _, i + 1, .yes q r => .yes q (RepS.set h i r)
  | _, _, i + 1, .no o r => .no o (RepS.set h i r)
theorem RepS.unset (o : Option V) : ∀ {ds : List (Option D)} {vs : List (Option V)} (i : Nat), RepS K F ds vs → RepS K F (ds.set i Option.none) (vs.set i o)
  | _, _, _, .nil => .nil
  | _, _, 0, .yes _ r => .no o r
  | _, _, 0, .no _ r => .no o r
  | _, _, i + 1, .yes q r => .yes q (RepS.unset o i r)
  | _, _, i + 1, .no z r => .no z (RepS.unset o i r)
theorem RepS.length : ∀ {ds : List (Option D)} {vs : List (Option V)}, RepS K F ds vs → ds.length = vs.length
  | _, _, .nil => rfl
  | _, _, .yes _ r => congrArg Nat.succ r.length
  | _, _, .no _ r => congrArg Nat.succ r.length
theorem RepS.append : ∀ {ds : List (Option D)} {vs : List (Option V)} {es : List (Option D)} {ws : List (Option V)}, RepS K F ds vs → RepS K F es ws → RepS K F (ds ++ es) (vs ++ ws)
  | _, _, _, _, .nil, s => s
  | _, _, _, _, .yes h r, s => .yes h (r.append s)
  | _, _, _, _, .no o r, s => .no o (r.append s)
theorem RepS.nones : ∀ n : Nat, RepS K F (List.replicate n Option.none) (List.replicate n Option.none)
  | 0 => .nil
  | n + 1 => .no Option.none (RepS.nones n)
theorem RepL.length : ∀ {ds : List D} {vs : List V}, RepL K F ds vs → ds.length = vs.length
  | _, _, .nil => rfl
  | _, _, .cons _ r => congrArg Nat.succ r.length
theorem RepL.somes : ∀ {ds : List D} {vs : List V}, RepL K F ds vs → RepS K F (ds.map Option.some) (vs.map Option.some)
  | _, _, .nil => .nil
  | _, _, .cons h r => .yes h r.somes
theorem RepL.get : ∀ {ds : List D} {vs : List V} {i : Nat} {d : D}, RepL K F ds vs → ds[i]? = some d → ∃ v, vs[i]? = some v ∧ Rep K F d v
  | _, _, _, _, .nil, e => by simp at e
  | _, _, 0, _, .cons h r, e => by cases e; exact ⟨_, rfl, h⟩
  | _, _, i + 1, d, .cons (ds := ds) h r, e => RepL.get (ds := ds) (i := i) r (by simpa using e)
theorem RepL.getV : ∀ {ds : List D} {vs : List V} {i : Nat} {v : V}, RepL K F ds vs → vs[i]? = some v → ∃ d, ds[i]? = some d ∧ Rep K F d v
  | _, _, _, _, .nil, e => by simp at e
  | _, _, 0, _, .cons h r, e => by cases e; exact ⟨_, rfl, h⟩
  | _, _, i + 1, v, .cons (vs := vs) h r, e => RepL.getV (vs := vs) (i := i) r (by simpa using e)
theorem RepL.set {d : D} {v : V} (h : Rep K F d v) : ∀ {ds : List D} {vs : List V} (i : Nat), RepL K F ds vs → RepL K F (ds.set i d) (vs.set i v)
  | _, _, _, .nil => .nil
  | _, _, 0, .cons _ r => .cons h r
  | _, _, i + 1, .cons q r => .cons q (RepL.set h i r)
theorem RepL.append : ∀ {ds : List D} {vs : List V} {es : List D} {ws : List V}, RepL K F ds vs → RepL K F es ws → RepL K F (ds ++ es) (vs ++ ws)
  | _, _, _, _, .nil, s => s
  | _, _, _, _, .cons h r, s => .cons h (r.append s)
theorem RepL.take : ∀ {ds : List D} {vs : List V} (n : Nat), RepL K F ds vs → RepL K F (ds.take n) (vs.take n)
  | _, _, 0, _ => .nil
  | _, _, _ + 1, .nil => .nil
  | _, _, n + 1, .cons h r => .cons h (RepL.take n r)
theorem RepL.drop : ∀ {ds : List D} {vs : List V} (n : Nat), RepL K F ds vs → RepL K F (ds.drop n) (vs.drop n)
  | _, _, 0, r => r
  | _, _, _ + 1, .nil => .nil
  | _, _, n + 1, .cons h r => RepL.drop n r
theorem RepF.look : ∀ {fs : List (Str × D)} {vs : List (Str × V)} {f : Str} {d : D}, RepF K F fs vs → fs.lookup f = some d → ∃ v, vs.lookup f = some v ∧ Rep K F d v
  | _, _, f, d, .nil, e => by cases e
  | _, _, f, d, .cons (k := k) (d := d0) h r, e => by
    by_cases q : f = k
    · subst q
      simp only [List.lookup, beq_self_eq_true] at e ⊢
      cases e; exact ⟨_, rfl, h⟩
    · have z : (f == k) = false := by simpa using q
      simp only [List.lookup, z] at e ⊢
      exact RepF.look r e
theorem RepF.length : ∀ {ds : List (Str × D)} {vs : List (Str × V)}, RepF K F ds vs → ds.length = vs.length
  | _, _, .nil => rfl
  | _, _, .cons _ r => congrArg Nat.succ r.length
theorem RepK.length : ∀ {ds : List (Key × D)} {vs : List (Key × V)}, RepK K F ds vs → ds.length = vs.length
  | _, _, .nil => rfl
  | _, _, .cons _ r => congrArg Nat.succ r.length
end
inductive MO where
  | lst (xs : List D) | dK (ks : List (Key × D)) | dT (ks : List (List Key × D))
  | ins (C : Addr) (fs : List (Str × D)) | sl (C dx : Addr) (vs : List (Option D)) | xd (fs : List (Str × D))
abbrev MH := Addr → Option MO
def mup (M : MH) (p : Addr) (o : MO) : MH := fun q => if q = p then some o else M q
def mdel (M : MH) (p : Addr) : MH := fun q => if q = p then none else M q
theorem mup_same {M : MH} {p : Addr} {o : MO} : mup M p o p = some o := if_pos rfl
theorem mup_ne {M : MH} {p q : Addr} {o : MO} (h : q ≠ p) : mup M p o q = M q := if_neg h
theorem mup_mup {M : MH} {p : Addr} {o o' : MO} : mup (mup M p o) p o' = mup M p o' := by
  funext q; unfold mup; split <;> rfl
theorem mup_self {M : MH} {p : Addr} {o : MO} (h : M p = some o) : mup M p o = M := by
  funext q; unfold mup; split
  · rename_i e; rw [e, h]
  · rfl
theorem mdel_same {M : MH} {p : Addr} : mdel M p p = none := if_pos rfl
theorem mdel_ne {M : MH} {p q : Addr} (h : q ≠ p) : mdel M p q = M q := if_neg h
theorem mdel_mup {M : MH} {p : Addr} {o : MO} (h : M p = none) : mdel (mup M p o) p = M := by
  funext q; unfold mdel mup; split
  · rename_i e; rw [e, h]
  · rfl
def Dx (F : Hp) (dx : Addr) : Prop := ∀ u, F dx = some u → u = .xd []
theorem Dx.upd {F : Hp} {dx p : Addr} {o : HO} (h : Dx F dx) (n : dx ≠ p) : Dx (upd F p o) dx := fun u e => h u (by rw [upd_ne n] at e; exact e)
theorem Dx.of {F : Hp} {dx : Addr} (h : F dx = none) : Dx F dx := fun u e => by rw [h] at e; cases e
def RM (K : PySem.W.Frag) (R F H : Hp) (M : MH) (p : Addr) : MO → Prop
  | .lst ds => ∃ vs, H p = some (.lst vs) ∧ RepL K F ds vs
  | .dK ks => ∃ kvs, H p = some (.dK kvs) ∧ RepK K F ks kvs
  | .dT ks => ∃ kvs, H p = some (.dT kvs) ∧ RepT K F ks kvs
  | .ins C fs => ∃ dx vs, H p = some (.ins C dx vs) ∧ RepF K F fs vs
  | .sl C dx vs => Dx F dx ∧ M dx = none ∧ R dx = none ∧ dx ≠ p ∧ (∃ u, H dx = some u) ∧ ∃ ws, SlX.Slt H p C dx ws ∧ RepS K F vs ws
  | .xd fs => ∃ vs, H p = some (.xd vs) ∧ RepF K F fs vs
structure HM (K : PySem.W.Frag) (R F H : Hp) (M : MH) : Prop where
  ex : Ex F H
  fr : ∀ p o, M p = some o → F p = none
  ob : ∀ p o, M p = some o → RM K R F H M p o
  rr : ∀ p o, R p = some o → H p = some o ∧ F p = none ∧ M p = none
section
variable {K : PySem.W.Frag} {R F F' H H' : Hp} {M M' : MH} {p q : Addr} {o : MO} {u : HO}
theorem HM.there (h : HM K R F H M) (e : M p = some o) : ∃ u, H p = some u := by
  have r := h.ob p o e
  cases o with
  | lst ds => obtain ⟨vs, r, _⟩ := r; exact ⟨_, r⟩
  | dK ds => obtain ⟨vs, r, _⟩ := r; exact ⟨_, r⟩
  | dT ds => obtain ⟨vs, r, _⟩ := r; exact ⟨_, r⟩
  | ins C fs => obtain ⟨dx, vs, r, _⟩ := r; exact ⟨_, r⟩
  | sl C dx vs =>
    obtain ⟨_, _, _, _, _, ws, r, _⟩ := r
    rcases r with r | r
    · exact ⟨_, r.1⟩
    · exact ⟨_, r.1⟩
  | xd fs => obtain ⟨vs, r, _⟩ := r; exact ⟨_, r⟩
theorem HM.freeM (h : HM K R F H M) (e : H p = none) : M p = none := by
  cases q : M p with
  | none => rfl
  | some o => obtain ⟨u, z⟩ := h.there q; rw [e] at z; cases z
theorem HM.freeF (h : HM K R F H M) (e : H p = none) : F p = none := h.ex.back e
theorem HM.freeR (h : HM K R F H M) (e : H p = none) : R p = none := by
  cases q : R p with
  | none => rfl
  | some o => have z := (h.rr p o q).1; rw [e] at z; cases z
theorem HM.notR (h : HM K R F H M) (e : M p = some o) : R p = none := by
  cases q : R p with
  | none => rfl
  | some o => have z := (h.rr p o q).2.2; rw [e] at z; cases z
theorem RM.to {o : MO} (r : RM K R F H M p o) (e : Ex F F') (h : ∀ q, (q = p ∨ ∃ C vs, o = .sl C q vs) → ∀ u, H q = some u → H' q = some u) (hd : ∀ C dx vs, o = .sl C dx vs → Dx F' dx ∧ M' dx = none) : RM K R F' H' M' p o := by
  cases o with
  | lst ds => obtain ⟨vs, r, z⟩ := r; exact ⟨vs, h p (.inl rfl) _ r, z.mono e⟩
  | dK ds => obtain ⟨vs, r, z⟩ := r; exact ⟨vs, h p (.inl rfl) _ r, z.mono e⟩
  | dT ds => obtain ⟨vs, r, z⟩ := r; exact ⟨vs, h p (.inl rfl) _ r, z.mono e⟩
  | ins C fs => obtain ⟨dx, vs, r, z⟩ := r; exact ⟨dx, vs, h p (.inl rfl) _ r, z.mono e⟩
  | sl C dx vs =>
    obtain ⟨f1, f2, f0, f3, ⟨u, f4⟩, ws, r, z⟩ := r
    obtain ⟨g1, g2⟩ := hd C dx vs rfl
    refine ⟨g1, g2, f0, f3, ⟨u, h dx (.inr ⟨C, vs, rfl⟩) _ f4⟩, ws, ?_, z.mono e⟩
    rcases r with r | r
    · exact .inl ⟨h p (.inl rfl) _ r.1, r.2⟩
    · exact .inr ⟨h p (.inl rfl) _ r.1, h dx (.inr ⟨C, vs, rfl⟩) _ r.2⟩
  | xd fs => obtain ⟨vs, r, z⟩ := r; exact ⟨vs, h p (.inl rfl) _ r, z.mono e⟩
theorem HM.slotted (h : HM K R F H M) {C dx : Addr} {vs : List (Option D)} (e : M p = some (.sl C dx vs)) : Dx F dx ∧ M dx = none ∧ R dx = none ∧ dx ≠ p ∧ ∃ u, H dx = some u := by
  obtain ⟨a, b, c, d, f, _⟩ := h.ob p _ e
  exact ⟨a, b, c, d, f⟩
theorem HM.cold (h : HM K R F H M) (n : H p = none) : HM K R (upd F p u) (upd H p u) M := by
  refine ⟨fun a v e => ?_, fun q o e => ?_, fun q o e => ?_, fun q o e => ?_⟩
  · by_cases z : a = p
    · subst z; rw [upd_same] at e ⊢; exact e
    · rw [upd_ne z] at e ⊢; exact h.ex _ _ e
  · have z : q ≠ p := fun z => by rw [z, h.freeM n] at e; cases e
    rw [upd_ne z]; exact h.fr q o e
  · refine (h.ob q o e).to (Ex.new (h.freeF n)) (fun b _ v z => (Ex.new n) b v z) fun C dx vs z => ?_
    subst z
    obtain ⟨f1, f2, _, _, w, f4⟩ := h.slotted e
    exact ⟨f1.upd (ne_of_none f4 n), f2⟩
  · obtain ⟨a, b, c⟩ := h.rr q o e
    have z := ne_of_none a n
    exact ⟨by rw [upd_ne z]; exact a, by rw [upd_ne z]; exact b, c⟩
theorem Ex.cold (h : HM K R F H M) (n : H p = none) : Ex F (upd F p u) := Ex.new (h.freeF n)
theorem HM.warm (h : HM K R F H M) (n : H p = none) (r : RM K R F (upd H p u) (mup M p o) p o) : HM K R F (upd H p u) (mup M p o) := by
  refine ⟨h.ex.trans (Ex.new n), fun q o' e => ?_, fun q o' e => ?_, fun q o e => ?_⟩
  · by_cases z : q = p
    · rw [z]; exact h.freeF n
    · rw [mup_ne z] at e; exact h.fr q o' e
  · by_cases z : q = p
    · rw [z, mup_same] at e; cases e; rw [z]; exact r
    · rw [mup_ne z] at e
      refine (h.ob q o' e).to (Ex.refl F) (fun b _ v z => (Ex.new n) b v z) fun C dx vs z => ?_
      subst z
      obtain ⟨f1, f2, _, _, w, f4⟩ := h.slotted e
      exact ⟨f1, by rw [mup_ne (ne_of_none f4 n)]; exact f2⟩
  · obtain ⟨a, b, c⟩ := h.rr q o e
    have z := ne_of_none a n
    exact ⟨by rw [upd_ne z]; exact a, b, by rw [mup_ne z]; exact c⟩
theorem HM.put {o' : MO} (h : HM K R F H M) (e : M p = some o') (r : RM K R F (upd H p u) (mup M p o) p o) : HM K R F (upd H p u) (mup M p o) := by
  refine ⟨fun a v z => ?_, fun q o' e => ?_, fun q o2 e2 => ?_, fun q o2 e2 => ?_⟩
  · rw [upd_ne (ne_of_none z (h.fr p _ e))]; exact h.ex _ _ z
  · by_cases z : q = p
    · rw [z]; exact h.fr p _ (by assumption)
    · rw [mup_ne z] at e; exact h.fr q o' e
  · by_cases z : q = p
    · rw [z, mup_same] at e2; cases e2; rw [z]; exact r
    · rw [mup_ne z] at e2
      have nd : ∀ C dx vs, o2 = .sl C dx vs → dx ≠ p := fun C dx vs z2 z3 => by
        subst z2
        have := (h.slotted e2).2.1
        rw [z3, e] at this; cases this
      refine (h.ob q o2 e2).to (Ex.refl F) (fun b hb v z4 => ?_) fun C dx vs z2 => ?_
      · have : b ≠ p := by
          rcases hb with hb | ⟨C, vs, hb⟩
          · rw [hb]; exact z
          · exact nd C b vs hb
        rw [upd_ne this]; exact z4
      · have n := nd C dx vs z2
        subst z2
        obtain ⟨f1, f2, _⟩ := h.slotted e2
        exact ⟨f1, by rw [mup_ne n]; exact f2⟩
  · obtain ⟨a, b, c⟩ := h.rr q o2 e2
    have z : q ≠ p := fun z => by rw [z, e] at c; cases c
    exact ⟨by rw [upd_ne z]; exact a, b, by rw [mup_ne z]; exact c⟩
theorem HM.stop (h : HM K R F H M) (e : M p = some o) (z : H p = some u) : Ex F (upd F p u) ∧ HM K R (upd F p u) H (mdel M p) := by
  have fp := h.fr p o e
  refine ⟨Ex.new fp, fun a v e => ?_, fun q o' e' => ?_, fun q o' e' => ?_, fun q o2 e2 => ?_⟩
  · by_cases z2 : a = p
    · rw [z2, upd_same] at e; rw [z2, z]; exact e
    · rw [upd_ne z2] at e; exact h.ex _ _ e
  · have n : q ≠ p := fun z => by rw [z, mdel_same] at e'; cases e'
    rw [upd_ne n]; rw [mdel_ne n] at e'; exact h.fr q o' e'
  · have n : q ≠ p := fun z => by rw [z, mdel_same] at e'; cases e'
    rw [mdel_ne n] at e'
    refine (h.ob q o' e').to (Ex.new fp) (fun b _ v z => z) fun C dx vs z2 => ?_
    subst z2
    obtain ⟨f1, f2, _⟩ := h.slotted e'
    have nd : dx ≠ p := fun z3 => by rw [z3, e] at f2; cases f2
    exact ⟨f1.upd nd, by rw [mdel_ne nd]; exact f2⟩
  · obtain ⟨a, b, c⟩ := h.rr q o2 e2
    have z : q ≠ p := fun z => by rw [z, e] at c; cases c
    exact ⟨a, by rw [upd_ne z]; exact b, by rw [mdel_ne z]; exact c⟩
theorem HM.lend (h : HM K R F H M) (n : H p = none) : HM K (upd R p u) F (upd H p u) M := by
  refine ⟨h.ex.trans (Ex.new n), h.fr, fun q o' e => ?_, fun q o2 e2 => ?_⟩
  · have r := (h.ob q o' e).to (H' := upd H p u) (M' := M) (Ex.refl F) (fun b _ v z => (Ex.new n) b v z) fun C dx vs z => by
      subst z
      obtain ⟨f1, f2, _⟩ := h.slotted e
      exact ⟨f1, f2⟩
    cases o' with
    | sl C dx vs =>
      obtain ⟨f1, f2, f0, f3, f4, f5⟩ := r
      obtain ⟨_, _, _, _, w, g⟩ := h.slotted e
      exact ⟨f1, f2, by rw [upd_ne (ne_of_none g n)]; exact f0, f3, f4, f5⟩
    | _ => exact r
  · by_cases z : q = p
    · rw [z, upd_same] at e2; cases e2; rw [z]; exact ⟨upd_same, h.freeF n, h.freeM n⟩
    · rw [upd_ne z] at e2
      obtain ⟨a, b, c⟩ := h.rr q o2 e2
      exact ⟨by rw [upd_ne z]; exact a, b, c⟩
theorem HM.lent {v : HO} (h : HM K (upd R p u) F H M) (n : R p = none) : HM K (upd R p v) F (upd H p v) M := by
  obtain ⟨hp, fp, mp⟩ := h.rr p u upd_same
  refine ⟨fun a w e => ?_, h.fr, fun q o' e => ?_, fun q o2 e2 => ?_⟩
  · rw [upd_ne (ne_of_none e fp)]; exact h.ex _ _ e
  · have nq : q ≠ p := fun z => by rw [z, mp] at e; cases e
    have nd : ∀ C dx vs, o' = .sl C dx vs → dx ≠ p := fun C dx vs z z2 => by
      subst z
      have := (h.slotted e).2.2.1
      rw [z2, upd_same] at this; cases this
    have r := (h.ob q o' e).to (H' := upd H p v) (M' := M) (Ex.refl F) (fun b hb w z => by
        have : b ≠ p := by
          rcases hb with hb | ⟨C, vs, hb⟩
          · rw [hb]; exact nq
          · exact nd C b vs hb
        rw [upd_ne this]; exact z) fun C dx vs z => by
      subst z
      obtain ⟨f1, f2, _⟩ := h.slotted e
      exact ⟨f1, f2⟩
    cases o' with
    | sl C dx vs =>
      obtain ⟨f1, f2, f0, f3, f4, f5⟩ := r
      have n2 := nd C dx vs rfl
      exact ⟨f1, f2, by rw [upd_ne n2] at f0 ⊢; exact f0, f3, f4, f5⟩
    | _ => exact r
  · by_cases z : q = p
    · rw [z, upd_same] at e2; cases e2; rw [z]; exact ⟨upd_same, fp, mp⟩
    · rw [upd_ne z] at e2
      obtain ⟨a, b, c⟩ := h.rr q o2 (by rw [upd_ne z]; exact e2)
      exact ⟨by rw [upd_ne z]; exact a, b, c⟩
theorem HM.back (h : HM K (upd R p u) F H M) (n : R p = none) : Ex F (upd F p u) ∧ HM K R (upd F p u) H M := by
  obtain ⟨hp, fp, mp⟩ := h.rr p u upd_same
  refine ⟨Ex.new fp, fun a v e => ?_, fun q o' e' => ?_, fun q o' e' => ?_, fun q o2 e2 => ?_⟩
  · by_cases z2 : a = p
    · rw [z2, upd_same] at e; rw [z2, hp]; exact e
    · rw [upd_ne z2] at e; exact h.ex _ _ e
  · have n : q ≠ p := fun z => by rw [z, mp] at e'; cases e'
    rw [upd_ne n]; exact h.fr q o' e'
  · have nd : ∀ C dx vs, o' = .sl C dx vs → dx ≠ p := fun C dx vs z z2 => by
      subst z
      have := (h.slotted e').2.2.1
      rw [z2, upd_same] at this; cases this
    have r := (h.ob q o' e').to (H' := H) (M' := M) (Ex.new (o := u) fp) (fun b _ w z => z) fun C dx vs z2 => by
      have n2 := nd C dx vs z2
      subst z2
      obtain ⟨f1, f2, _⟩ := h.slotted e'
      exact ⟨f1.upd n2, f2⟩
    cases o' with
    | sl C dx vs =>
      obtain ⟨f1, f2, f0, f3, f4, f5⟩ := r
      have n2 := nd C dx vs rfl
      exact ⟨f1, f2, by rw [upd_ne n2] at f0; exact f0, f3, f4, f5⟩
    | _ => exact r
  · have z : q ≠ p := fun z => by rw [z, n] at e2; cases e2
    obtain ⟨a, b, c⟩ := h.rr q o2 (by rw [upd_ne z]; exact e2)
    exact ⟨a, by rw [upd_ne z]; exact b, c⟩
theorem HM.backM (h : HM K (upd R p u) F H M) (n : R p = none) (r : RM K R F H (mup M p o) p o) : HM K R F H (mup M p o) := by
  obtain ⟨hp, fp, mp⟩ := h.rr p u upd_same
  refine ⟨h.ex, fun q o' e' => ?_, fun q o' e' => ?_, fun q o2 e2 => ?_⟩
  · by_cases z : q = p
    · rw [z]; exact fp
    · rw [mup_ne z] at e'; exact h.fr q o' e'
  · by_cases z : q = p
    · rw [z, mup_same] at e'; cases e'; rw [z]; exact r
    · rw [mup_ne z] at e'
      have nd : ∀ C dx vs, o' = .sl C dx vs → dx ≠ p := fun C dx vs z z2 => by
        subst z
        have := (h.slotted e').2.2.1
        rw [z2, upd_same] at this; cases this
      have r := (h.ob q o' e').to (H' := H) (M' := mup M p o) (Ex.refl F) (fun b _ w z => z) fun C dx vs z2 => by
        have n2 := nd C dx vs z2
        subst z2
        obtain ⟨f1, f2, _⟩ := h.slotted e'
        exact ⟨f1, by rw [mup_ne n2]; exact f2⟩
      cases o' with
      | sl C dx vs =>
        obtain ⟨f1, f2, f0, f3, f4, f5⟩ := r
        have n2 := nd C dx vs rfl
        exact ⟨f1, f2, by rw [upd_ne n2] at f0; exact f0, f3, f4, f5⟩
      | _ => exact r
  · have z : q ≠ p := fun z => by rw [z, n] at e2; cases e2
    obtain ⟨a, b, c⟩ := h.rr q o2 (by rw [upd_ne z]; exact e2)
    exact ⟨a, b, by rw [mup_ne z]; exact c⟩
end
end Dv
namespace Dv
open PySem PySem.Spec L2
abbrev Sl := List (Option D)
abbrev DQ := D → MH → Prop
abbrev DE := Sl → MH → DQ → Prop
abbrev DT := Sl → MH → (Bool → MH → Prop) → Prop
abbrev DA := Sl → MH → (List D → MH → Prop) → Prop
structure DEnds where
  nx : Sl → MH → Prop
  rt : DQ
  bk : Sl → MH → Prop := fun _ _ => False
  ct : Sl → MH → Prop := fun _ _ => False
abbrev DS := DEnds → Sl → MH → Prop
structure Br (b : Bool) (A B : Prop) : Prop where
  yes : b = true → A
  no : b = false → B
theorem Br.t {A B : Prop} (h : A) : Br true A B := ⟨fun _ => h, fun z => nomatch z⟩
theorem Br.f {A B : Prop} (h : B) : Br false A B := ⟨fun z => (nomatch z), fun _ => h⟩
theorem Br.of_t {b : Bool} {A B : Prop} (e : b = true) (h : A) : Br b A B := ⟨fun _ => h, fun z => by rw [e] at z; cases z⟩
theorem Br.of_f {b : Bool} {A B : Prop} (e : b = false) (h : B) : Br b A B := ⟨fun z => (by rw [e] at z; cases z), fun _ => h⟩

def Cont (K : PySem.W.Frag) (R F : Hp) (Qd : DQ) (Q : VK) : Prop := ∀ F' H' M' d v, Ex F F' → HM K R F' H' M' → Rep K F' d v → Qd d M' → Q v H'
def ContB (K : PySem.W.Frag) (R F : Hp) (Qd : Bool → MH → Prop) (Q : Bool → Hp → Prop) : Prop := ∀ F' H' M' b, Ex F F' → HM K R F' H' M' → Qd b M' → Q b H'
def ContL (K : PySem.W.Frag) (R F : Hp) (Qd : List D → MH → Prop) (Q : List V → Hp → Prop) : Prop := ∀ F' H' M' d v, Ex F F' → HM K R F' H' M' → RepL K F' d v → Qd d M' → Q v H'
def ContS (K : PySem.W.Frag) (R F : Hp) (Qd : Sl → MH → Prop) (Q : St → Hp → Prop) : Prop := ∀ F' H' M' ds σ, Ex F F' → HM K R F' H' M' → RepS K F' ds σ → Qd ds M' → Q σ H'
structure ContE (K : PySem.W.Frag) (R F : Hp) (Dd : DEnds) (D : Ends) : Prop where
  nx : ContS K R F Dd.nx D.nx
  rt : Cont K R F Dd.rt D.rt
  bk : ContS K R F Dd.bk D.bk
  ct : ContS K R F Dd.ct D.ct
section
variable {K : PySem.W.Frag} {R F F' : Hp}
theorem Cont.mono {Qd : DQ} {Q : VK} (c : Cont K R F Qd Q) (e : Ex F F') : Cont K R F' Qd Q := fun G H M d v g => c G H M d v (e.trans g)
theorem ContB.mono {Qd : Bool → MH → Prop} {Q : Bool → Hp → Prop} (c : ContB K R F Qd Q) (e : Ex F F') : ContB K R F' Qd Q := fun G H M d g => c G H M d (e.trans g)
theorem ContL.mono {Qd : List D → MH → Prop} {Q : List V → Hp → Prop} (c : ContL K R F Qd Q) (e : Ex F F') : ContL K R F' Qd Q := fun G H M d v g => c G H M d v (e.trans g)
theorem ContS.mono {Qd : Sl → MH → Prop} {Q : St → Hp → Prop} (c : ContS K R F Qd Q) (e : Ex F F') : ContS K R F' Qd Q := fun G H M d v g => c G H M d v (e.trans g)
theorem ContE.mono {Dd : DEnds} {D : Ends} (c : ContE K R F Dd D) (e : Ex F F') : ContE K R F' Dd D := ⟨c.nx.mono e, c.rt.mono e, c.bk.mono e, c.ct.mono e⟩
end
structure At (K : PySem.W.Frag) (R F0 F H : Hp) (σ : St) (ds : Sl) (M : MH) : Prop where
  ex : Ex F0 F
  hm : HM K R F H M
  rs : RepS K F ds σ
theorem At.go {K : PySem.W.Frag} {R F0 F H F' H' : Hp} {σ : St} {ds : Sl} {M M' : MH} (a : At K R F0 F H σ ds M) (e : Ex F F') (h : HM K R F' H' M') : At K R F0 F' H' σ ds M' := ⟨a.ex.trans e, h, a.rs.mono e⟩
def up (K : PySem.W.Frag) (R F0 : Hp) (t : DE) : TE := fun σ H Q => ∃ F ds M Qd, At K R F0 F H σ ds M ∧ t ds M Qd ∧ Cont K R F Qd Q
def upT (K : PySem.W.Frag) (R F0 : Hp) (t : DT) : TT := fun σ H Q => ∃ F ds M Qd, At K R F0 F H σ ds M ∧ t ds M Qd ∧ ContB K R F Qd Q
def upA (K : PySem.W.Frag) (R F0 : Hp) (t : DA) : TA := fun σ H Q => ∃ F ds M Qd, At K R F0 F H σ ds M ∧ t ds M Qd ∧ ContL K R F Qd Q
def upS (K : PySem.W.Frag) (R F0 : Hp) (t : DS) : TS := fun D σ H => ∃ F ds M Dd, At K R F0 F H σ ds M ∧ t Dd ds M ∧ ContE K R F Dd D
abbrev PDE (R F0 : Hp) (X : Cx) (e : Expr) (t : DE) : Prop := PE X e (up X.K R F0 t)
abbrev PDT (R F0 : Hp) (X : Cx) (e : Expr) (t : DT) : Prop := PT X e (upT X.K R F0 t)
abbrev PDW (R F0 : Hp) (X : Cx) (e : Expr) (t : DT) : Prop := PW X e (upT X.K R F0 t)
abbrev PDA (R F0 : Hp) (X : Cx) (es : List Expr) (t : DA) : Prop := PA X es (upA X.K R F0 t)
abbrev PDS (R F0 : Hp) (X : Cx) (st : Stmt) (t : DS) : Prop := PS X st (upS X.K R F0 t)
abbrev PDSs (R F0 : Hp) (X : Cx) (st : List Stmt) (t : DS) : Prop := PSs X st (upS X.K R F0 t)
section
variable {X : Cx} {R F0 : Hp}
theorem PE.imp {e : Expr} {t t' : TE} (h : PE X e t) (k : ∀ σ H Q, t' σ H Q → t σ H Q) : PE X e t' := ⟨fun pins s σ H Q I q => h.run pins s σ H Q I (k σ H Q q)⟩
theorem PT.imp {e : Expr} {t t' : TT} (h : PT X e t) (k : ∀ σ H Q, t' σ H Q → t σ H Q) : PT X e t' := ⟨fun pins s σ H Q I q => h.run pins s σ H Q I (k σ H Q q)⟩
theorem PW.imp {e : Expr} {t t' : TT} (h : PW X e t) (k : ∀ σ H Q, t' σ H Q → t σ H Q) : PW X e t' := ⟨fun wh pins s σ H Q I q => h.run wh pins s σ H Q I (k σ H Q q)⟩
theorem PA.imp {e : List Expr} {t t' : TA} (h : PA X e t) (k : ∀ σ H Q, t' σ H Q → t σ H Q) : PA X e t' := ⟨fun pos pins s σ H Q I q => h.run pos pins s σ H Q I (k σ H Q q)⟩
theorem PS.imp {e : Stmt} {t t' : TS} (h : PS X e t) (k : ∀ D σ H, t' D σ H → t D σ H) : PS X e t' := ⟨fun pins s σ H D I q => h.run pins s σ H D I (k D σ H q)⟩
theorem PSs.imp {e : List Stmt} {t t' : TS} (h : PSs X e t) (k : ∀ D σ H, t' D σ H → t D σ H) : PSs X e t' := ⟨fun pins s σ H D I q => h.run pins s σ H D I (k D σ H q)⟩

def dVar (i : Nat) : DE := fun ds M Q => match ds[i]? with
  | some (some d) => Q d M
  | _ => False
theorem pd_var (i : Nat) {x : Str} {pos : Pos} (hN : X.N[i]? = some x := by rfl) (hv : Vis X.env.scope x := by first | exact Or.inl rfl | exact Or.inr (Or.inl rfl) | exact Or.inr (Or.inr rfl)) (hd : (x == ("__debug__" : Str)) = false := by decide)
    (hcd : (x == ("__classdict__" : Str)) = false := by decide) : PDE R F0 X (.Name x pos) (dVar i) := by
  refine PE.imp (pv i hN hv hd hcd) ?_
  rintro σ H Q ⟨F, ds, M, Qd, a, h, c⟩
  unfold dVar at h
  split at h
  · rename_i d e
    obtain ⟨v, e2, r⟩ := a.rs.get e
    exact ⟨v, e2, c _ _ _ _ _ (Ex.refl _) a.hm r h⟩
  · exact h.elim
def dC (d : D) : DE := fun _ M Q => Q d M
theorem pd_of {e : Expr} {v : V} {d : D} (h : PE X e (tC v)) (r : ∀ F, Ex F0 F → Rep X.K F d v) : PDE R F0 X e (dC d) := by
  refine PE.imp h ?_
  rintro σ H Q ⟨F, ds, M, Qd, a, h, c⟩
  exact c _ _ _ _ _ (Ex.refl _) a.hm (r F a.ex) h
theorem pd_int {i j pos} : PDE R F0 X (.Constant (.int i) j pos) (dC (.int i)) := pd_of pe_int fun _ _ => .int i
theorem pd_bl {b j pos} : PDE R F0 X (.Constant (.bool b) j pos) (dC (.bl b)) := pd_of pe_bl fun _ _ => .bl b
theorem pd_non {j pos} : PDE R F0 X (.Constant .none j pos) (dC .non) := pd_of pe_non fun _ _ => .non
theorem pd_str {x j pos} : PDE R F0 X (.Constant (.str x) j pos) (dC (.str x)) := pd_of pe_str fun _ _ => .str x
theorem pd_glob {x : Str} {d : D} {v : V} {u : Value} {pos : Pos} (hg : Gl X x) (hm : X.mg x = some u) (r : RelV v u) (rd : ∀ F, Rep X.K F d v) (hd : (x == ("__debug__" : Str)) = false := by decide) : PDE R F0 X (.Name x pos) (dC d) :=
  pd_of (pe_glob hg hm r hd) fun F _ => rd F
theorem pd_bltn {x : Str} {n : String} {pos : Pos} (hg : Gl X x) (hm : X.mg x = none) (hv : bootBuiltins x = some (.type n)) (hn : x ≠ "__name__" := by decide) (hd : (x == ("__debug__" : Str)) = false := by decide) : PDE R F0 X (.Name x pos) (dC (.ty n)) :=
  pd_of (pe_bltn (v := .ty n) hg hm hv rfl hn hd) fun _ _ => .ty n

abbrev DR1 := D → MH → DQ → Prop
abbrev DR2 := D → D → MH → DQ → Prop
def Op1 (K : PySem.W.Frag) (r : DR1) (rv : V → Hp → VK → Prop) : Prop := ∀ R F H M x vx Qd Q, HM K R F H M → Rep K F x vx → r x M Qd → Cont K R F Qd Q → rv vx H Q
def Op2 (K : PySem.W.Frag) (r : DR2) (rv : R2) : Prop := ∀ R F H M x y vx vy Qd Q, HM K R F H M → Rep K F x vx → Rep K F y vy → r x y M Qd → Cont K R F Qd Q → rv vx vy H Q
def dOp (r : DR2) (ta tb : DE) : DE := fun ds M Q => ta ds M fun x M1 => tb ds M1 fun y M2 => r x y M2 Q
def dUn (r : DR1) (ta : DE) : DE := fun ds M Q => ta ds M fun x M1 => r x M1 Q
variable {a b : Expr} {ta tb : DE} {pos : Pos}
theorem op2_up {r : DR2} {rv : R2} (o : Op2 X.K r rv) : ∀ σ H Q, up X.K R F0 (dOp r ta tb) σ H Q → tOp rv (up X.K R F0 ta) (up X.K R F0 tb) σ H Q := by
  rintro σ H Q ⟨F, ds, M, Qd, a, h, c⟩
  refine ⟨F, ds, M, _, a, h, fun F1 H1 M1 x vx e1 m1 r1 q1 => ?_⟩
  refine ⟨F1, ds, M1, _, a.go e1 m1, q1, fun F2 H2 M2 y vy e2 m2 r2 q2 => ?_⟩
  exact o R F2 H2 M2 x y vx vy _ _ m2 (r1.mono e2) r2 q2 (c.mono (e1.trans e2))
theorem pd_op {op : Operator} {r : DR2} {rv : R2} (ho : OpR X (binaryOp op) rv) (o : Op2 X.K r rv) (ha : PDE R F0 X a ta) (hb : PDE R F0 X b tb) : PDE R F0 X (.BinOp a op b pos) (dOp r ta tb) := PE.imp (pe_op ho ha hb) (op2_up o)
theorem pd_cmp {op : CmpOp} {r : DR2} {rv : R2} (ho : OpR X (compareOp op) rv) (o : Op2 X.K r rv) (ha : PDE R F0 X a ta) (hb : PDE R F0 X b tb) (hm : behindInMarks op b = false) : PDE R F0 X (.Compare a [op] [b] pos) (dOp r ta tb) := PE.imp (pe_cmpR ho ha hb hm) (op2_up o)
theorem pd_un {op : UnaryOp} {r : DR1} {rv : V → Hp → VK → Prop} (ho : UnR X (unaryOp op) rv) (o : Op1 X.K r rv) (ha : PDE R F0 X a ta) : PDE R F0 X (.UnaryOp op a pos) (dUn r ta) := by
  refine PE.imp (pe_un ho ha) ?_
  rintro σ H Q ⟨F, ds, M, Qd, a, h, c⟩
  exact ⟨F, ds, M, _, a, h, fun F1 H1 M1 x vx e1 m1 r1 q1 => o R F1 H1 M1 x vx _ _ m1 r1 q1 (c.mono e1)⟩
theorem pd_ix {r : DR2} {rv : R2} (ho : IxR X rv) (o : Op2 X.K r rv) (ha : PDE R F0 X a ta) (hb : PDE R F0 X b tb) (hs : PlainIx b) : PDE R F0 X (.Subscript a b pos) (dOp r ta tb) := PE.imp (pe_ix ho ha hb hs) (op2_up o)

def dB (t : DE) : DT := fun ds M Q => t ds M fun x M1 => match x with
  | .bl b => Q b M1
  | _ => False
theorem pdt_cmp {op : CmpOp} {r : DR2} {rv : R2} (ho : OpR X (compareOp op) rv) (o : Op2 X.K r rv) (ha : PDE R F0 X a ta) (hb : PDE R F0 X b tb) (hm : behindInMarks op b = false) : PDT R F0 X (.Compare a [op] [b] pos) (dB (dOp r ta tb)) := by
  refine PT.imp (pt_cmpR ho ha hb hm) ?_
  rintro σ H Q ⟨F, ds, M, Qd, a, h, c⟩
  refine op2_up o σ H _ ⟨F, ds, M, _, a, h, fun F1 H1 M1 x vx e1 m1 r1 q1 => ?_⟩
  cases r1 with
  | bl k => exact ⟨k, rfl, c _ _ _ _ e1 m1 q1⟩
  | _ => exact q1.elim
theorem pdt_val {e : Expr} {t : DE} (h : PDE R F0 X e t) (he : ∀ whole, isTrue e X.env whole = (do let v ← whole; standAt e.pos; holding [v] (truthy v)) := by intro _; rfl) : PDT R F0 X e (dB t) := by
  refine PT.imp (pt_val h he) ?_
  rintro σ H Q ⟨F, ds, M, Qd, a, h, c⟩
  refine ⟨F, ds, M, _, a, h, fun F1 H1 M1 x vx e1 m1 r1 q1 => ?_⟩
  cases r1 with
  | bl k => exact ⟨k, rfl, c _ _ _ _ e1 m1 q1⟩
  | _ => exact q1.elim
def dAnd (t u : DT) : DT := fun ds M Q => t ds M fun c M1 => Br c (u ds M1 Q) (Q false M1)
def dOr (t u : DT) : DT := fun ds M Q => t ds M fun c M1 => Br c (Q true M1) (u ds M1 Q)
def dNot (t : DT) : DT := fun ds M Q => t ds M fun c M1 => Q (!c) M1
variable {t u : DT} {rest : List Expr}
theorem pdw_and1 (ha : PDT R F0 X a t) : PDW R F0 X (.BoolOp .And [a] pos) t := pw_and1 ha
theorem pdw_or1 (ha : PDT R F0 X a t) : PDW R F0 X (.BoolOp .Or [a] pos) t := pw_or1 ha
theorem ite_of_br {c : Bool} {A B : Prop} (h : Br c A B) : if c = true then A else B := by
  cases c with
  | true => exact h.yes rfl
  | false => exact h.no rfl
theorem pdw_and (ha : PDT R F0 X a t) (hb : PDW R F0 X (.BoolOp .And (b :: rest) pos) u) : PDW R F0 X (.BoolOp .And (a :: b :: rest) pos) (dAnd t u) := by
  refine PW.imp (pw_and ha hb) ?_
  rintro σ H Q ⟨F, ds, M, Qd, a, h, c⟩
  refine ⟨F, ds, M, _, a, h, fun F1 H1 M1 k e1 m1 q1 => ite_of_br ⟨fun z => ?_, fun z => ?_⟩⟩
  · exact ⟨F1, ds, M1, _, a.go e1 m1, q1.yes z, c.mono e1⟩
  · exact c _ _ _ _ e1 m1 (q1.no z)
theorem pdw_or (ha : PDT R F0 X a t) (hb : PDW R F0 X (.BoolOp .Or (b :: rest) pos) u) : PDW R F0 X (.BoolOp .Or (a :: b :: rest) pos) (dOr t u) := by
  refine PW.imp (pw_or ha hb) ?_
  rintro σ H Q ⟨F, ds, M, Qd, a, h, c⟩
  refine ⟨F, ds, M, _, a, h, fun F1 H1 M1 k e1 m1 q1 => ite_of_br ⟨fun z => ?_, fun z => ?_⟩⟩
  · exact c _ _ _ _ e1 m1 (q1.yes z)
  · exact ⟨F1, ds, M1, _, a.go e1 m1, q1.no z, c.mono e1⟩
theorem pdt_w {e : Expr} (h : PDW R F0 X e t) : PDT R F0 X e t := h.pt
theorem pdt_not (ha : PDT R F0 X a t) : PDT R F0 X (.UnaryOp .Not a pos) (dNot t) := by
  refine PT.imp (pt_not ha) ?_
  rintro σ H Q ⟨F, ds, M, Qd, a, h, c⟩
  exact ⟨F, ds, M, _, a, h, fun F1 H1 M1 k e1 m1 q1 => c _ _ _ _ e1 m1 q1⟩
def dAndV (ta tb : DE) : DE := fun ds M Q => ta ds M fun x M1 => match x with
  | .bl c => Br c (tb ds M1 Q) (Q (.bl false) M1)
  | _ => False
def dOrV (ta tb : DE) : DE := fun ds M Q => ta ds M fun x M1 => match x with
  | .bl c => Br c (Q (.bl true) M1) (tb ds M1 Q)
  | _ => False
def dNotV (ta : DE) : DE := fun ds M Q => ta ds M fun x M1 => match x with
  | .bl c => Q (.bl (!c)) M1
  | _ => False
theorem pd_one {op} (h : PDE R F0 X a ta) : PDE R F0 X (.BoolOp op [a] pos) ta := pe_one h
theorem pd_and (ha : PDE R F0 X a ta) (hb : PDE R F0 X (.BoolOp .And (b :: rest) pos) tb) : PDE R F0 X (.BoolOp .And (a :: b :: rest) pos) (dAndV ta tb) := by
  refine PE.imp (pe_and ha hb) ?_
  rintro σ H Q ⟨F, ds, M, Qd, a, h, c⟩
  refine ⟨F, ds, M, _, a, h, fun F1 H1 M1 x vx e1 m1 r1 q1 => ?_⟩
  cases r1 with
  | bl k =>
    refine ⟨k, rfl, ite_of_br ⟨fun z => ?_, fun z => ?_⟩⟩
    · exact ⟨F1, ds, M1, _, a.go e1 m1, q1.yes z, c.mono e1⟩
    · exact c _ _ _ _ _ e1 m1 (.bl false) (q1.no z)
  | _ => exact q1.elim
theorem pd_or (ha : PDE R F0 X a ta) (hb : PDE R F0 X (.BoolOp .Or (b :: rest) pos) tb) : PDE R F0 X (.BoolOp .Or (a :: b :: rest) pos) (dOrV ta tb) := by
  refine PE.imp (pe_or ha hb) ?_
  rintro σ H Q ⟨F, ds, M, Qd, a, h, c⟩
  refine ⟨F, ds, M, _, a, h, fun F1 H1 M1 x vx e1 m1 r1 q1 => ?_⟩
  cases r1 with
  | bl k =>
    refine ⟨k, rfl, ite_of_br ⟨fun z => ?_, fun z => ?_⟩⟩
    · exact c _ _ _ _ _ e1 m1 (.bl true) (q1.yes z)
    · exact ⟨F1, ds, M1, _, a.go e1 m1, q1.no z, c.mono e1⟩
  | _ => exact q1.elim
theorem pd_not (ha : PDE R F0 X a ta) : PDE R F0 X (.UnaryOp .Not a pos) (dNotV ta) := by
  refine PE.imp (pe_not ha) ?_
  rintro σ H Q ⟨F, ds, M, Qd, a, h, c⟩
  refine ⟨F, ds, M, _, a, h, fun F1 H1 M1 x vx e1 m1 r1 q1 => ?_⟩
  cases r1 with
  | bl k => exact ⟨k, rfl, c _ _ _ _ _ e1 m1 (.bl _) q1⟩
  | _ => exact q1.elim
def dIf (t : DT) (ta tb : DE) : DE := fun ds M Q => t ds M fun c M1 => Br c (ta ds M1 Q) (tb ds M1 Q)
theorem pd_if {c : Expr} (hc : PDT R F0 X c t) (ha : PDE R F0 X a ta) (hb : PDE R F0 X b tb) : PDE R F0 X (.IfExp c a b pos) (dIf t ta tb) := by
  refine PE.imp (pe_ifExp hc ha hb) ?_
  rintro σ H Q ⟨F, ds, M, Qd, a, h, c⟩
  refine ⟨F, ds, M, _, a, h, fun F1 H1 M1 k e1 m1 q1 => ite_of_br ⟨fun z => ?_, fun z => ?_⟩⟩
  · exact ⟨F1, ds, M1, _, a.go e1 m1, q1.yes z, c.mono e1⟩
  · exact ⟨F1, ds, M1, _, a.go e1 m1, q1.no z, c.mono e1⟩
def dNil : DA := fun _ M Q => Q [] M
def dCons (ta : DE) (tr : DA) : DA := fun ds M Q => ta ds M fun x M1 => tr ds M1 fun xs M2 => Q (x :: xs) M2
theorem pda_nil : PDA R F0 X [] dNil := by
  refine PA.imp pa_nil ?_
  rintro σ H Q ⟨F, ds, M, Qd, a, h, c⟩
  exact c _ _ _ _ _ (Ex.refl _) a.hm .nil h
theorem pda_cons {e : Expr} {es : List Expr} {te : DE} {tr : DA} (ha : PDE R F0 X e te) (hr : PDA R F0 X es tr) (hs : starEach (e :: es) X.env = (false, eval e X.env) :: starEach es X.env := by rfl) : PDA R F0 X (e :: es) (dCons te tr) := by
  refine PA.imp (pa_cons ha hr hs) ?_
  rintro σ H Q ⟨F, ds, M, Qd, a, h, c⟩
  refine ⟨F, ds, M, _, a, h, fun F1 H1 M1 x vx e1 m1 r1 q1 => ?_⟩
  refine ⟨F1, ds, M1, _, a.go e1 m1, q1, fun F2 H2 M2 xs vs e2 m2 r2 q2 => ?_⟩
  exact c _ _ _ _ _ (e1.trans e2) m2 (.cons (r1.mono e2) r2) q2
def dTup (t : DA) : DE := fun ds M Q => t ds M fun xs M1 => xs.length ≤ sizeLine ∧ Q (.tup xs) M1
def dLst (t : DA) : DE := fun ds M Q => t ds M fun xs M1 => xs.length ≤ sizeLine ∧ Q (.lst xs) M1
def dLstM (t : DA) : DE := fun ds M Q => t ds M fun xs M1 => xs.length ≤ sizeLine ∧ ∀ p, M1 p = none → Q (.ref p) (mup M1 p (.lst xs))
theorem pd_tup {es : List Expr} {t : DA} {x1} (h : PDA R F0 X es t) : PDE R F0 X (.Tuple es x1 pos) (dTup t) := by
  refine PE.imp (pe_tup h) ?_
  rintro σ H Q ⟨F, ds, M, Qd, a, h, c⟩
  refine ⟨F, ds, M, _, a, h, fun F1 H1 M1 xs vs e1 m1 r1 q1 => ⟨r1.length ▸ q1.1, fun p hp => ?_⟩⟩
  exact c _ _ _ _ _ (e1.trans (.cold m1 hp)) (m1.cold hp) (.tup (.of upd_same) (r1.mono (.cold m1 hp))) q1.2
theorem pd_lst {es : List Expr} {t : DA} (h : PDA R F0 X es t) : PDE R F0 X (.List es pos) (dLst t) := by
  refine PE.imp (pe_lst h) ?_
  rintro σ H Q ⟨F, ds, M, Qd, a, h, c⟩
  refine ⟨F, ds, M, _, a, h, fun F1 H1 M1 xs vs e1 m1 r1 q1 => ⟨r1.length ▸ q1.1, fun p hp => ?_⟩⟩
  exact c _ _ _ _ _ (e1.trans (.cold m1 hp)) (m1.cold hp) (.lst upd_same (r1.mono (.cold m1 hp))) q1.2
theorem pd_lstM {es : List Expr} {t : DA} (h : PDA R F0 X es t) : PDE R F0 X (.List es pos) (dLstM t) := by
  refine PE.imp (pe_lst h) ?_
  rintro σ H Q ⟨F, ds, M, Qd, a, h, c⟩
  refine ⟨F, ds, M, _, a, h, fun F1 H1 M1 xs vs e1 m1 r1 q1 => ⟨r1.length ▸ q1.1, fun p hp => ?_⟩⟩
  exact c _ _ _ _ _ e1 (m1.warm (o := .lst xs) hp ⟨vs, upd_same, r1⟩) (.ref p) (q1.2 p (m1.freeM hp))

def dNext : DS := fun D ds M => D.nx ds M
def dSeq (t u : DS) : DS := fun D ds M => t { D with nx := u D } ds M
variable {st : Stmt} {sts : List Stmt} {ts us : DS} {e : Expr} {te : DE}
theorem pds_nil : PDSs R F0 X [] dNext := by
  refine PSs.imp pss_nil ?_
  rintro D σ H ⟨F, ds, M, Dd, a, h, c⟩
  exact c.nx _ _ _ _ _ (Ex.refl _) a.hm a.rs h
theorem pds_cons (h1 : PDS R F0 X st ts) (h2 : PDSs R F0 X sts us) : PDSs R F0 X (st :: sts) (dSeq ts us) := by
  refine PSs.imp (pss_cons h1 h2) ?_
  rintro D σ H ⟨F, ds, M, Dd, a, h, c⟩
  refine ⟨F, ds, M, _, a, h, ⟨fun F1 H1 M1 ds1 σ1 e1 m1 r1 q1 => ?_, c.rt, c.bk, c.ct⟩⟩
  exact ⟨F1, ds1, M1, Dd, ⟨a.ex.trans e1, m1, r1⟩, q1, c.mono e1⟩
theorem pds_one (h1 : PDS R F0 X st ts) : PDSs R F0 X [st] ts := by
  refine PSs.imp (pds_cons h1 pds_nil) ?_
  rintro D σ H ⟨F, ds, M, Dd, a, h, c⟩
  exact ⟨F, ds, M, Dd, a, h, c⟩
def dBreak : DS := fun D ds M => D.bk ds M
def dContinue : DS := fun D ds M => D.ct ds M
theorem pd_pass : PDS R F0 X (.Pass pos) dNext := by
  refine PS.imp ps_pass ?_
  rintro D σ H ⟨F, ds, M, Dd, a, h, c⟩
  exact c.nx _ _ _ _ _ (Ex.refl _) a.hm a.rs h
theorem pd_break : PDS R F0 X (.Break pos) dBreak := by
  refine PS.imp ps_break ?_
  rintro D σ H ⟨F, ds, M, Dd, a, h, c⟩
  exact c.bk _ _ _ _ _ (Ex.refl _) a.hm a.rs h
theorem pd_continue : PDS R F0 X (.Continue pos) dContinue := by
  refine PS.imp ps_continue ?_
  rintro D σ H ⟨F, ds, M, Dd, a, h, c⟩
  exact c.ct _ _ _ _ _ (Ex.refl _) a.hm a.rs h
def dDrop (te : DE) : DS := fun D ds M => te ds M fun _ M1 => D.nx ds M1
theorem pd_expr (he : PDE R F0 X e te) (hs : swapsWith e none pos.line X.env = pure false := by rfl) : PDS R F0 X (.Expr e pos) (dDrop te) := by
  refine PS.imp (ps_expr he hs) ?_
  rintro D σ H ⟨F, ds, M, Dd, a, h, c⟩
  exact ⟨F, ds, M, _, a, h, fun F1 H1 M1 x vx e1 m1 r1 q1 => c.nx _ _ _ _ _ e1 m1 (a.rs.mono e1) q1⟩
def dRet (te : DE) : DS := fun D ds M => te ds M D.rt
theorem pd_ret (he : PDE R F0 X e te) : PDS R F0 X (.Return (some e) pos) (dRet te) := by
  refine PS.imp (ps_ret he) ?_
  rintro D σ H ⟨F, ds, M, Dd, a, h, c⟩
  exact ⟨F, ds, M, _, a, h, c.rt⟩
def dRetN : DS := fun D _ M => D.rt .non M
theorem pd_retN : PDS R F0 X (.Return none pos) dRetN := by
  refine PS.imp ps_retN ?_
  rintro D σ H ⟨F, ds, M, Dd, a, h, c⟩
  exact c.rt _ _ _ _ _ (Ex.refl _) a.hm .non h
def dIfS (c : DT) (t u : DS) : DS := fun D ds M => c ds M fun b M1 => Br b (t D ds M1) (u D ds M1)
theorem pd_ifS {c : Expr} {a b : List Stmt} {tc : DT} (hc : PDT R F0 X c tc) (ha : PDSs R F0 X a ts) (hb : PDSs R F0 X b us) : PDS R F0 X (.If c a b pos) (dIfS tc ts us) := by
  refine PS.imp (ps_if hc ha hb) ?_
  rintro D σ H ⟨F, ds, M, Dd, a, h, c⟩
  refine ⟨F, ds, M, _, a, h, fun F1 H1 M1 k e1 m1 q1 => ite_of_br ⟨fun z => ?_, fun z => ?_⟩⟩
  · exact ⟨F1, ds, M1, _, a.go e1 m1, q1.yes z, c.mono e1⟩
  · exact ⟨F1, ds, M1, _, a.go e1 m1, q1.no z, c.mono e1⟩
abbrev DG := D → Sl → MH → (Sl → MH → Prop) → Prop
abbrev DGs := List D → Sl → MH → (Sl → MH → Prop) → Prop
def upG (K : PySem.W.Frag) (R F0 : Hp) (g : DG) : TG := fun v σ H Q => ∃ F ds M d Qd, At K R F0 F H σ ds M ∧ Rep K F d v ∧ g d ds M Qd ∧ ContS K R F Qd Q
def upGs (K : PySem.W.Frag) (R F0 : Hp) (g : DGs) : TGs := fun v σ H Q => ∃ F ds M d Qd, At K R F0 F H σ ds M ∧ RepL K F d v ∧ g d ds M Qd ∧ ContS K R F Qd Q
abbrev PDG (R F0 : Hp) (X : Cx) (e : Expr) (g : DG) : Prop := PG X e (upG X.K R F0 g)
abbrev PDGs (R F0 : Hp) (X : Cx) (e : List Expr) (g : DGs) : Prop := PGs X e (upGs X.K R F0 g)
theorem PG.imp {e : Expr} {t t' : TG} (h : PG X e t) (k : ∀ v σ H Q, t' v σ H Q → t v σ H Q) : PG X e t' := ⟨fun pins s σ H v u Q I r q => h.run pins s σ H v u Q I r (k v σ H Q q)⟩
theorem PGs.imp {e : List Expr} {t t' : TGs} (h : PGs X e t) (k : ∀ v σ H Q, t' v σ H Q → t v σ H Q) : PGs X e t' := ⟨fun pins s σ H vs us Q I r q => h.run pins s σ H vs us Q I r (k vs σ H Q q)⟩
def dName (i : Nat) : DG := fun d ds M Q => Q (ds.set i (some d)) M
theorem pdg_name (i : Nat) {x : Str} (hN : X.N.Nodup) (hi : X.N[i]? = some x := by rfl) (hx : Loc X.env.scope x := by first | exact Or.inl rfl | exact Or.inr rfl) (hf : X.fn x = true ∨ X.env.scope.names.lookup x = some .local := by first | exact .inl rfl | exact .inr rfl | assumption) : PDG R F0 X (.Name x pos) (dName i) := by
  refine PG.imp (pg_name hN hi hx hf) ?_
  rintro v σ H Q ⟨F, ds, M, d, Qd, a, r, h, c⟩
  exact c _ _ _ _ _ (Ex.refl _) a.hm (a.rs.set r i) h
def dgNil : DGs := fun xs ds M Q => match xs with
  | [] => Q ds M
  | _ => False
def dgCons (g : DG) (gs : DGs) : DGs := fun xs ds M Q => match xs with
  | x :: xs => g x ds M fun ds1 M1 => gs xs ds1 M1 Q
  | _ => False
theorem pdgs_nil : PDGs R F0 X [] dgNil := by
  refine PGs.imp pgs_nil ?_
  rintro v σ H Q ⟨F, ds, M, d, Qd, a, r, h, c⟩
  cases r with
  | nil => exact ⟨rfl, c _ _ _ _ _ (Ex.refl _) a.hm a.rs h⟩
  | cons _ _ => exact h.elim
theorem pdgs_cons {e : Expr} {es : List Expr} {g : DG} {gs : DGs} (h1 : PDG R F0 X e g) (h2 : PDGs R F0 X es gs) (hs : (assignEach (e :: es) X.env).map (·.2) = assign e X.env :: (assignEach es X.env).map (·.2) := by rfl) : PDGs R F0 X (e :: es) (dgCons g gs) := by
  refine PGs.imp (pgs_cons h1 h2 hs) ?_
  rintro v σ H Q ⟨F, ds, M, d, Qd, a, r, h, c⟩
  cases r with
  | nil => exact h.elim
  | cons r rs =>
    refine ⟨_, _, rfl, F, ds, M, _, _, a, r, h, fun F1 H1 M1 ds1 σ1 e1 m1 r1 q1 => ?_⟩
    exact ⟨F1, ds1, M1, _, _, ⟨a.ex.trans e1, m1, r1⟩, rs.mono e1, q1, c.mono e1⟩
end
end Dv
namespace Dv
open PySem PySem.Spec L2
section
variable {X : Cx} {R F0 : Hp} {pos : Pos}
def dgTup (n : Nat) (gs : DGs) : DG := fun x ds M Q => match x with
  | .tup xs => xs.length = n ∧ gs xs ds M Q
  | _ => False
theorem pdg_tup {es : List Expr} {k : Nat} {gs : DGs} {n : Nat} (hc : X.calm = true) (h : PDGs R F0 X es gs) (hn : (assignEach es X.env).length = n := by rfl) (hst : (assignEach es X.env).findIdx? (·.1) = none := by rfl) : PDG R F0 X (.Tuple es k pos) (dgTup n gs) := by
  refine PG.imp (pg_tup hc h hn hst) ?_
  rintro v σ H Q ⟨F, ds, M, d, Qd, a, r, h, c⟩
  cases r with
  | tup hs rs =>
    obtain ⟨h1, h2⟩ := h
    exact ⟨_, _, rfl, a.hm.ex.t hs, rs.length.symm.trans h1, F, ds, M, _, Qd, a, rs, h2, c⟩
  | _ => exact h.elim
abbrev DSet := D → D → D → MH → (MH → Prop) → Prop
def Set3 (K : PySem.W.Frag) (r : DSet) (rv : TSet) : Prop := ∀ R F H M o i x vo vi vx Qd Q, HM K R F H M → Rep K F o vo → Rep K F i vi → Rep K F x vx → r o i x M Qd → (∀ F' H' M', Ex F F' → HM K R F' H' M' → Qd M' → Q H') → rv vo vi vx H Q
def dgSub (to ti : DE) (r : DSet) : DG := fun x ds M Q => to ds M fun o M1 => ti ds M1 fun i M2 => r o i x M2 fun M3 => Q ds M3
theorem pdg_sub {o i : Expr} {to ti : DE} {r : DSet} {rv : TSet} (ho : PDE R F0 X o to) (hi : PDE R F0 X i ti) (hs : PSet X rv) (s3 : Set3 X.K r rv) (ha : ∀ v, assign (.Subscript o i pos) X.env v = (do
      let ov ← holding [v] (eval o X.env)
      let iv ← holding [v, ov] (eval i X.env)
      standAt pos
      holding [v, ov, iv] (setItem ov iv v)
      release [v, ov, iv] []) := by intro _; rfl) : PDG R F0 X (.Subscript o i pos) (dgSub to ti r) := by
  refine PG.imp (pg_sub ho hi hs ha) ?_
  rintro v σ H Q ⟨F, ds, M, d, Qd, a, r0, h, c⟩
  refine ⟨F, ds, M, _, a, h, fun F1 H1 M1 x vx e1 m1 r1 q1 => ?_⟩
  refine ⟨F1, ds, M1, _, a.go e1 m1, q1, fun F2 H2 M2 y vy e2 m2 r2 q2 => ?_⟩
  exact s3 R F2 H2 M2 _ _ _ _ _ _ _ _ m2 (r1.mono e2) r2 (r0.mono (e1.trans e2)) q2 fun F3 H3 M3 e3 m3 q3 => c _ _ _ _ _ ((e1.trans e2).trans e3) m3 (a.rs.mono ((e1.trans e2).trans e3)) q3
def dAsg (te : DE) (g : DG) : DS := fun D ds M => te ds M fun x M1 => g x ds M1 D.nx
theorem asg_up {te : DE} {g : DG} : ∀ D σ H, upS X.K R F0 (dAsg te g) D σ H → tAsg (up X.K R F0 te) (upG X.K R F0 g) D σ H := by
  rintro D σ H ⟨F, ds, M, Dd, a, h, c⟩
  exact ⟨F, ds, M, _, a, h, fun F1 H1 M1 x vx e1 m1 r1 q1 => ⟨F1, ds, M1, x, _, a.go e1 m1, r1, q1, c.nx.mono e1⟩⟩
theorem pd_asg {tg e : Expr} {te : DE} {g : DG} (he : PDE R F0 X e te) (hg : PDG R F0 X tg g) (hs : swapsWithSole [tg] e pos.line X.env = pure false := by rfl) (hw : swappedStores [tg] e X.env = pure none := by rfl) (h1 : (assignEach [tg] X.env).map (·.2) = [assign tg X.env] := by rfl) : PDS R F0 X (.Assign [tg] e pos) (dAsg te g) :=
  PS.imp (ps_asg he hg hs hw h1) asg_up
theorem pd_set (i : Nat) {x : Str} {e : Expr} {te : DE} {pos' : Pos} (hN : X.N.Nodup) (he : PDE R F0 X e te) (hi : X.N[i]? = some x := by rfl) (hx : Loc X.env.scope x := by first | exact Or.inl rfl | exact Or.inr rfl) (hs : swapsWith e (some (.Name x pos')) pos.line X.env = pure false := by rfl)
    (hf : X.fn x = true ∨ X.env.scope.names.lookup x = some .local := by first | exact .inl rfl | exact .inr rfl | assumption) : PDS R F0 X (.Assign [.Name x pos'] e pos) (dAsg te (dName i)) := by
  refine PS.imp (ps_set hN hi hx he hs hf) ?_
  rintro D σ H ⟨F, ds, M, Dd, a, h, c⟩
  exact ⟨F, ds, M, _, a, h, fun F1 H1 M1 x vx e1 m1 r1 q1 => c.nx _ _ _ _ _ e1 m1 ((a.rs.mono e1).set r1 i) q1⟩

def ItOk (K : PySem.W.Frag) (R F : Hp) (M : MH) (J : It) (xs : List D) : Prop := ∀ (i : Nat) F' H' M', Ex F F' → HM K R F' H' M' → M' = M →
  (xs.length ≤ i → J.stop i H') ∧ (i < xs.length → J.go i H') ∧ ∀ v H2, i < xs.length → J.yld i H' v H2 → ∃ d F2, xs[i]? = some d ∧ Ex F' F2 ∧ HM K R F2 H2 M' ∧ Rep K F2 d v
def ItOkA (K : PySem.W.Frag) (F : Hp) (J : It) (xs : List D) : Prop := ∀ R M, ItOk K R F M J xs
abbrev DI := Sl → MH → (List D → MH → Prop) → Prop
def upI (K : PySem.W.Frag) (R F0 : Hp) (t : DI) : TI := fun σ H Z => ∃ F ds M Rd, At K R F0 F H σ ds M ∧ t ds M Rd ∧ ∀ F' H' M' J xs, Ex F F' → HM K R F' H' M' → ItOkA K F' J xs → Rd xs M' → Z J H'
abbrev PDI (R F0 : Hp) (X : Cx) (tg it : Expr) (t : DI) : Prop := PI X tg it (upI X.K R F0 t)
theorem PI.imp {tg it : Expr} {t t' : TI} (h : PI X tg it t) (k : ∀ σ H R, t' σ H R → t σ H R) : PI X tg it t' := ⟨fun pins s σ H R I q => h.run pins s σ H R I (k σ H R q)⟩
def dLoop (g : DG) (body : DS) (W : DEnds) : List D → Sl → MH → Prop
  | [], ds, M => W.nx ds M
  | x :: xs, ds, M => g x ds M fun ds1 M1 => body { nx := dLoop g body W xs, rt := W.rt, bk := W.nx, ct := dLoop g body W xs } ds1 M1
def dFor (it : DI) (g : DG) (body : DS) : DS := fun D ds M => it ds M fun xs M1 => dLoop g body D xs ds M1
theorem pd_for {tg iter : Expr} {body : List Stmt} {it : DI} {g : DG} {tb : DS} (hp : PassesOwn (model X.prog X.w) X.A X.env X.xe) (hc : X.calm = true) (hi : PDI R F0 X tg iter it) (hg : PDG R F0 X tg g) (hb : PDSs R F0 X body tb)
    (hs : ∀ x, foldedSetIterable iter X.env x = pure x := by intro _; rfl) : PDS R F0 X (.For tg iter body [] pos) (dFor it g tb) := by
  refine PS.imp (ps_for hp hc hi hg hb hs) ?_
  rintro D σ H ⟨F, ds, M, Dd, a, h, c⟩
  refine ⟨F, ds, M, _, a, h, fun F1 H1 M1 J xs e1 m1 ok q1 => ?_⟩
  refine ⟨fun i m σ' H' => m = xs.length - i ∧ ∃ F' ds' M', Ex F1 F' ∧ At X.K R F0 F' H' σ' ds' M' ∧ dLoop g tb Dd (xs.drop i) ds' M', ⟨_, rfl, F1, ds, M1, Ex.refl _, a.go e1 m1, q1⟩, ?_⟩
  rintro i m σ' H' ⟨rfl, F', ds', M', e', a', q'⟩
  obtain ⟨k1, k2, k3⟩ := ok R M' i F' H' M' e' a'.hm rfl
  by_cases hlt : i < xs.length
  · refine .inr ⟨k2 hlt, fun σ2 H2 => ∃ F2 ds2 M2, Ex F1 F2 ∧ At X.K R F0 F2 H2 σ2 ds2 M2 ∧ dLoop g tb Dd (xs.drop (i + 1)) ds2 M2, fun σ2 H2 z => ⟨xs.length - (i + 1), by omega, rfl, z⟩, fun v H2 y => ?_⟩
    obtain ⟨d, F2, ed, e2, m2, r2⟩ := k3 v H2 hlt y
    rw [List.drop_eq_getElem_cons hlt] at q'
    have e3 : xs[i] = d := by rw [List.getElem?_eq_getElem hlt] at ed; exact Option.some.inj ed
    rw [e3] at q'
    refine ⟨F2, ds', M', d, _, a'.go e2 m2, r2, q', fun F3 H3 M3 ds3 σ3 e4 m3 r3 q3 => ?_⟩
    have a3 : At X.K R F0 F3 H3 σ3 ds3 M3 := ⟨(a'.ex.trans e2).trans e4, m3, r3⟩
    refine ⟨F3, ds3, M3, _, a3, q3, ?_⟩
    have cc := c.mono (e1.trans (e'.trans (e2.trans e4)))
    have nx : ContS X.K R F3 (dLoop g tb Dd (xs.drop (i + 1))) (fun σ2 H2 => ∃ F2 ds2 M2, Ex F1 F2 ∧ At X.K R F0 F2 H2 σ2 ds2 M2 ∧ dLoop g tb Dd (xs.drop (i + 1)) ds2 M2) :=
      fun F5 H5 M5 ds5 σ5 e5 m5 r5 q5 => ⟨F5, ds5, M5, ((e'.trans e2).trans e4).trans e5, ⟨a3.ex.trans e5, m5, r5⟩, q5⟩
    exact ⟨nx, cc.rt, cc.nx, nx⟩
  · refine .inl ⟨k1 (by omega), ?_⟩
    rw [List.drop_eq_nil_of_le (by omega)] at q'
    exact c.nx _ _ _ _ _ (e1.trans e') a'.hm a'.rs q'

def dSeqI (te : DE) : DI := fun ds M R => te ds M fun x M1 => match x with
  | .lst xs => R xs M1
  | _ => False
def dTupI (te : DE) : DI := fun ds M R => te ds M fun x M1 => match x with
  | .tup xs => R xs M1
  | _ => False
theorem itok_list {K : PySem.W.Frag} {F : Hp} {a : Addr} {vs : List V} {xs : List D} (h : SqL K F a vs) (r : RepL K F xs vs) : ItOkA K F (Itl K a) xs := by
  intro R M i F' H' M' e m _
  have hq : SqL K H' a vs := (e.trans m.ex).l h
  refine ⟨fun z => ⟨vs, hq, by rw [← r.length]; exact z⟩, fun z => ?_, ?_⟩
  · have z2 : i < vs.length := by rw [← r.length]; exact z
    exact ⟨vs, vs[i], hq, List.getElem?_eq_getElem z2⟩
  · rintro v H2 _ ⟨rfl, z⟩
    obtain ⟨d, e1, e2⟩ := r.getV (z vs hq)
    exact ⟨d, F', e1, Ex.refl _, m, e2.mono e⟩
theorem itok_tup {K : PySem.W.Frag} {F : Hp} {a : Addr} {vs : List V} {xs : List D} (h : SqT K F a vs) (r : RepL K F xs vs) : ItOkA K F (Itt K a) xs := by
  intro R M i F' H' M' e m _
  have hq : SqT K H' a vs := (e.trans m.ex).t h
  refine ⟨fun z => ⟨vs, hq, by rw [← r.length]; exact z⟩, fun z => ?_, ?_⟩
  · have z2 : i < vs.length := by rw [← r.length]; exact z
    exact ⟨vs, vs[i], hq, List.getElem?_eq_getElem z2⟩
  · rintro v H2 _ ⟨rfl, z⟩
    obtain ⟨d, e1, e2⟩ := r.getV (z vs hq)
    exact ⟨d, F', e1, Ex.refl _, m, e2.mono e⟩
theorem pdi_list {tg e : Expr} {te : DE} (he : PDE R F0 X e te) : PDI R F0 X tg e (dSeqI te) := by
  refine PI.imp (pi_list he) ?_
  rintro σ H Z ⟨F, ds, M, Rd, a, h, c⟩
  refine ⟨F, ds, M, _, a, h, fun F1 H1 M1 x vx e1 m1 r1 q1 => ?_⟩
  cases r1 with
  | lst hs rs => exact ⟨_, rfl, ⟨_, m1.ex.l (.inl (.inl hs))⟩, c _ _ _ _ _ e1 m1 (itok_list (.inl (.inl hs)) rs) q1⟩
  | _ => exact q1.elim
theorem pdi_tup {tg e : Expr} {te : DE} (he : PDE R F0 X e te) : PDI R F0 X tg e (dTupI te) := by
  refine PI.imp (pi_tup he) ?_
  rintro σ H Z ⟨F, ds, M, Rd, a, h, c⟩
  refine ⟨F, ds, M, _, a, h, fun F1 H1 M1 x vx e1 m1 r1 q1 => ?_⟩
  cases r1 with
  | tup hs rs => exact ⟨_, rfl, ⟨_, m1.ex.t hs⟩, c _ _ _ _ _ e1 m1 (itok_tup hs rs) q1⟩
  | _ => exact q1.elim
def rangeD (lo : Int) (n : Nat) : List D := (List.range n).map fun (i : Nat) => .int (lo + i)
theorem itok_range {K : PySem.W.Frag} {F : Hp} {lo : Int} {n : Nat} : ItOkA K F (Itr lo n) (rangeD lo n) := by
  intro R M i F' H' M' e m _
  have hl : (rangeD lo n).length = n := by simp [rangeD]
  rw [hl]
  refine ⟨fun z => z, fun z => z, ?_⟩
  rintro v H2 hi ⟨rfl, rfl⟩
  exact ⟨.int (lo + i), F', by simp [rangeD, List.getElem?_range hi], Ex.refl _, m, .int _⟩
def dRange1 (ta : DA) : DI := fun ds M R => ta ds M fun xs M1 => match xs with
  | [.int j] => (-(2 ^ 62) ≤ j ∧ j < 2 ^ 62) ∧ R (rangeD 0 j.toNat) M1
  | _ => False
def dRange2 (ta : DA) : DI := fun ds M R => ta ds M fun xs M1 => match xs with
  | [.int i, .int j] => (-(2 ^ 62) ≤ i ∧ i < 2 ^ 62 ∧ -(2 ^ 62) ≤ j ∧ j < 2 ^ 62) ∧ R (rangeD i (j - i).toNat) M1
  | _ => False
theorem repl_one {K : PySem.W.Frag} {F : Hp} {d : D} {vs : List V} (r : RepL K F [d] vs) : ∃ v, vs = [v] ∧ Rep K F d v := by
  cases r with
  | cons h r => cases r; exact ⟨_, rfl, h⟩
theorem repl_two {K : PySem.W.Frag} {F : Hp} {d e : D} {vs : List V} (r : RepL K F [d, e] vs) : ∃ v w, vs = [v, w] ∧ Rep K F d v ∧ Rep K F e w := by
  cases r with
  | cons h r => obtain ⟨w, rfl, h2⟩ := repl_one r; exact ⟨_, _, rfl, h, h2⟩
theorem repl_three {K : PySem.W.Frag} {F : Hp} {d e f : D} {vs : List V} (r : RepL K F [d, e, f] vs) : ∃ v w u, vs = [v, w, u] ∧ Rep K F d v ∧ Rep K F e w ∧ Rep K F f u := by
  cases r with
  | cons h r => obtain ⟨w, u, rfl, h2, h3⟩ := repl_two r; exact ⟨_, _, _, rfl, h, h2, h3⟩
theorem pdi_range1 {tg a : Expr} {ta : DA} {p : Pos} (hg : Gl X "range") (hm : X.mg "range" = none) (ha : PDA R F0 X [a] ta) (hs : starEach [a] X.env = [(false, eval a X.env)] := by rfl) : PDI R F0 X tg (.Call (.Name "range" p) [a] [] pos) (dRange1 ta) := by
  refine PI.imp (pi_range1 hg hm ha hs) ?_
  rintro σ H Z ⟨F, ds, M, Rd, a, h, c⟩
  refine ⟨F, ds, M, _, a, h, fun F1 H1 M1 xs vs e1 m1 r1 q1 => ?_⟩
  split at q1
  · obtain ⟨v, rfl, r⟩ := repl_one r1
    cases r
    exact ⟨_, rfl, q1.1.1, q1.1.2, c _ _ _ _ _ e1 m1 itok_range q1.2⟩
  · exact q1.elim
theorem pdi_range2 {tg a b : Expr} {ta : DA} {p : Pos} (hg : Gl X "range") (hm : X.mg "range" = none) (ha : PDA R F0 X [a, b] ta) (hs : starEach [a, b] X.env = [(false, eval a X.env), (false, eval b X.env)] := by rfl) (hs2 : starEach [b] X.env = [(false, eval b X.env)] := by rfl) :
    PDI R F0 X tg (.Call (.Name "range" p) [a, b] [] pos) (dRange2 ta) := by
  refine PI.imp (pi_range2 hg hm ha hs hs2) ?_
  rintro σ H Z ⟨F, ds, M, Rd, a, h, c⟩
  refine ⟨F, ds, M, _, a, h, fun F1 H1 M1 xs vs e1 m1 r1 q1 => ?_⟩
  split at q1
  · obtain ⟨v, w, rfl, r, r'⟩ := repl_two r1
    cases r; cases r'
    exact ⟨_, _, rfl, q1.1, c _ _ _ _ _ e1 m1 itok_range q1.2⟩
  · exact q1.elim
def strD (x : Str) : List D := x.cps.toList.map fun c => .str ⟨#[c]⟩
theorem itok_str {K : PySem.W.Frag} {F : Hp} {x : Str} : ItOkA K F (Its x) (strD x) := by
  intro R M i F' H' M' e m _
  have hl : (strD x).length = x.cps.size := by simp [strD]
  rw [hl]
  refine ⟨fun z => z, fun z => z, ?_⟩
  rintro v H2 hi ⟨rfl, c, hc, rfl⟩
  refine ⟨.str ⟨#[c]⟩, F', ?_, Ex.refl _, m, .str _⟩
  unfold strD
  rw [List.getElem?_map]
  have : x.cps.toList[i]? = some c := by rw [Array.getElem?_toList]; exact hc
  rw [this]; rfl
def dStrI (te : DE) : DI := fun ds M R => te ds M fun x M1 => match x with
  | .str x => R (strD x) M1
  | _ => False
theorem pdi_str {tg e : Expr} {te : DE} (he : PDE R F0 X e te) : PDI R F0 X tg e (dStrI te) := by
  refine PI.imp (pi_str he) ?_
  rintro σ H Z ⟨F, ds, M, Rd, a, h, c⟩
  refine ⟨F, ds, M, _, a, h, fun F1 H1 M1 x vx e1 m1 r1 q1 => ?_⟩
  cases r1 with
  | str x => exact ⟨_, rfl, c _ _ _ _ _ e1 m1 itok_str q1⟩
  | _ => exact q1.elim
def dwipe (ds : Sl) : List Nat → Sl
  | [] => ds
  | v :: vs => (dwipe ds vs).set v none
theorem rep_wipe {K : PySem.W.Frag} {F : Hp} {ds : Sl} {σ : St} (r : RepS K F ds σ) : ∀ vs, RepS K F (dwipe ds vs) (wipe σ vs)
  | [] => r
  | v :: vs => RepS.unset none v (rep_wipe r vs)
def dLcL (g : DG) (tt : DT) (te : DE) (vs : List Nat) (ds : Sl) (Q : List D → MH → Prop) : List D → List D → MH → Prop
  | [], acc, M => Q acc M
  | x :: xs, acc, M => g x (dwipe ds vs) M fun ds1 M1 => tt ds1 M1 fun b M2 => Br b (te ds1 M2 fun y M3 => acc.length < sizeLine ∧ dLcL g tt te vs ds Q xs (acc ++ [y]) M3) (dLcL g tt te vs ds Q xs acc M2)
def dLc (it : DI) (g : DG) (tt : DT) (te : DE) (vs : List Nat) : DE := fun ds M Q => it ds M fun xs M1 => dLcL g tt te vs ds (fun ys M2 => Q (.lst ys) M2) xs [] M1
def dLcM (it : DI) (g : DG) (tt : DT) (te : DE) (vs : List Nat) : DE := fun ds M Q => it ds M fun xs M1 => dLcL g tt te vs ds (fun ys M2 => ∀ p, M2 p = none → Q (.ref p) (mup M2 p (.lst ys))) xs [] M1
def dYes : DT := fun _ M Q => Q true M
theorem wipe_set {σ : St} {o : Option V} {i : Nat} : ∀ {vs : List Nat}, i ∈ vs → wipe (σ.set i o) vs = wipe σ vs
  | v :: vs, h => by
    show (wipe (σ.set i o) vs).set v none = (wipe σ vs).set v none
    by_cases e : i ∈ vs
    · rw [wipe_set e]
    · have e2 : i = v := (List.mem_cons.mp h).resolve_right e
      subst e2
      have key : ∀ vs : List Nat, i ∉ vs → wipe (σ.set i o) vs = (wipe σ vs).set i o := by
        intro vs
        induction vs with
        | nil => intro _; rfl
        | cons w ws ih =>
          intro hn
          show (wipe (σ.set i o) ws).set w none = ((wipe σ ws).set w none).set i o
          rw [ih fun z => hn (List.mem_cons_of_mem _ z)]
          exact List.set_comm _ _ fun z => hn (by rw [← z]; exact List.mem_cons_self)
      rw [key vs e, List.set_set]
theorem wipe_wipe {σ : St} : ∀ (ws vs : List Nat), (∀ i ∈ ws, i ∈ vs) → wipe (wipe σ ws) vs = wipe σ vs
  | [], vs, _ => rfl
  | w :: ws, vs, h => by
    show wipe ((wipe σ ws).set w none) vs = wipe σ vs
    rw [wipe_set (h w List.mem_cons_self)]
    exact wipe_wipe ws vs fun i z => h i (List.mem_cons_of_mem _ z)
def TgOk (K : PySem.W.Frag) (R F0 : Hp) (gV : TG) (g : DG) (vs : List Nat) : Prop := ∀ v σ σ0 H Q, wipe σ vs = σ0 → upG K R F0 g v σ H Q → gV v σ H fun σ2 H2 => wipe σ2 vs = σ0 ∧ Q σ2 H2
def TgsOk (K : PySem.W.Frag) (R F0 : Hp) (gV : TGs) (g : DGs) (vs : List Nat) : Prop := ∀ v σ σ0 H Q, wipe σ vs = σ0 → upGs K R F0 g v σ H Q → gV v σ H fun σ2 H2 => wipe σ2 vs = σ0 ∧ Q σ2 H2
theorem tgok_name {K : PySem.W.Frag} {i : Nat} {vs : List Nat} (h : i ∈ vs) : TgOk K R F0 (gName i) (dName i) vs := by
  rintro v σ σ0 H Q e ⟨F, ds, M, d, Qd, a, r, h1, c⟩
  exact ⟨by rw [wipe_set h]; exact e, c _ _ _ _ _ (Ex.refl _) a.hm (a.rs.set r i) h1⟩
theorem tgsok_nil {K : PySem.W.Frag} {vs : List Nat} : TgsOk K R F0 gNil dgNil vs := by
  rintro v σ σ0 H Q e ⟨F, ds, M, d, Qd, a, r, h, c⟩
  cases r with
  | nil => exact ⟨rfl, e, c _ _ _ _ _ (Ex.refl _) a.hm a.rs h⟩
  | cons _ _ => exact h.elim
theorem tgsok_cons {K : PySem.W.Frag} {i : Nat} {gV : TGs} {g : DGs} {vs : List Nat} (h : i ∈ vs) (hr : TgsOk K R F0 gV g vs) : TgsOk K R F0 (gCons (gName i) gV) (dgCons (dName i) g) vs := by
  rintro v σ σ0 H Q e ⟨F, ds, M, d, Qd, a, r, h1, c⟩
  cases r with
  | nil => exact h1.elim
  | cons r rs => exact ⟨_, _, rfl, hr _ _ σ0 _ _ (by rw [wipe_set h]; exact e) ⟨F, ds.set i (some _), M, _, Qd, ⟨a.ex, a.hm, a.rs.set r i⟩, rs, h1, c⟩⟩
theorem tgok_tup {K : PySem.W.Frag} {gV : TGs} {g : DGs} {vs : List Nat} {n : Nat} (hr : TgsOk K R F0 gV g vs) : TgOk K R F0 (gTup K n gV) (dgTup n g) vs := by
  rintro v σ σ0 H Q e ⟨F, ds, M, d, Qd, a, r, h1, c⟩
  cases r with
  | tup hs rs =>
    obtain ⟨h2, h3⟩ := h1
    exact ⟨_, _, rfl, a.hm.ex.t hs, rs.length.symm.trans h2, hr _ _ σ0 _ _ e ⟨F, ds, M, _, Qd, a, rs, h3, c⟩⟩
  | _ => exact h1.elim
theorem lc_up {wi : TI} {it : DI} {gV : TG} {g : DG} {ttV : TT} {tt : DT} {teV : TE} {te : DE} {vs : List Nat} {K : PySem.W.Frag} {σ : St} {F H : Hp} (hw : ∀ σ H Z, upI K R F0 it σ H Z → wi σ H Z) (hg : ∀ R, TgOk K R F0 gV g vs) (ht : ∀ R σ H Q, upT K R F0 tt σ H Q → ttV σ H Q) (he : ∀ R σ H Q, up K R F0 te σ H Q → teV σ H Q)
    {ds : Sl} {M : MH} {Qs : List D → MH → Prop} {Q : VK} (a : At K R F0 F H σ ds M) (h : it ds M fun xs M1 => dLcL g tt te vs ds Qs xs [] M1)
    (c : ∀ L F' H' M' ys, Ex F F' → R L = none → (∃ ws, H' L = some (.lst ws) ∧ RepL K F' ys ws ∧ HM K (upd R L (.lst ws)) F' H' M') → Qs ys M' → Q (.ref L) H') : tLc wi gV ttV teV vs σ H Q := by
  refine hw σ H _ ⟨F, ds, M, _, a, h, fun F1 H1 M1 J xs e1 m1 ok q1 => ?_⟩
  intro L hL
  have nR : R L = none := m1.freeR hL
  refine ⟨fun i m H' => m = xs.length - i ∧ ∃ F' M' ys ws, Ex F1 F' ∧ RepL K F' ys ws ∧ HM K (upd R L (.lst ws)) F' H' M' ∧ dLcL g tt te vs ds Qs (xs.drop i) ys M', ⟨_, rfl, F1, M1, [], [], Ex.refl _, .nil, m1.lend hL, q1⟩, ?_⟩
  rintro i m H' ⟨rfl, F', M', ys, ws, e', ry, m', q'⟩
  obtain ⟨k1, k2, k3⟩ := ok _ M' i F' H' M' e' m' rfl
  have hLH : H' L = some (.lst ws) := (m'.rr L _ upd_same).1
  by_cases hlt : i < xs.length
  · refine .inr ⟨k2 hlt, fun H2 => ∃ F2 M2 ys2 ws2, Ex F1 F2 ∧ RepL K F2 ys2 ws2 ∧ HM K (upd R L (.lst ws2)) F2 H2 M2 ∧ dLcL g tt te vs ds Qs (xs.drop (i + 1)) ys2 M2, fun H2 z => ⟨xs.length - (i + 1), by omega, rfl, z⟩, fun v H2 y => ?_⟩
    obtain ⟨d, F2, ed, e2, m2, r2⟩ := k3 v H2 hlt y
    rw [List.drop_eq_getElem_cons hlt] at q'
    have e3 : xs[i] = d := by rw [List.getElem?_eq_getElem hlt] at ed; exact Option.some.inj ed
    rw [e3] at q'
    have ex2 : Ex F0 F2 := (a.ex.trans e1).trans (e'.trans e2)
    refine hg (upd R L (.lst ws)) v (wipe σ vs) (wipe σ vs) H2 _ (wipe_wipe vs vs fun _ z => z) ⟨F2, dwipe ds vs, M', d, _, ⟨ex2, m2, rep_wipe (a.rs.mono (e1.trans (e'.trans e2))) vs⟩, r2, q', fun F3 H3 M3 ds3 σ3 e4 m3 r3 q3 => ?_⟩
    refine ht (upd R L (.lst ws)) σ3 H3 _ ⟨F3, ds3, M3, _, ⟨ex2.trans e4, m3, r3⟩, q3, fun F5 H5 M5 b e5 m5 q5 => ite_of_br ⟨fun zb => ?_, fun zb => ?_⟩⟩
    · refine he (upd R L (.lst ws)) σ3 H5 _ ⟨F5, ds3, M5, _, ⟨(ex2.trans e4).trans e5, m5, r3.mono e5⟩, q5.yes zb, fun F6 H6 M6 y vy e6 m6 r6 q6 => ?_⟩
      have hL6 : H6 L = some (.lst ws) := (m6.rr L _ upd_same).1
      have e16 : Ex F' F6 := ((e2.trans e4).trans e5).trans e6
      have rl : RepL K F6 (ys ++ [y]) (ws ++ [vy]) := (ry.mono e16).append (.cons r6 .nil)
      refine ⟨ws, hL6, by rw [← ry.length]; exact q6.1, F6, M6, ys ++ [y], ws ++ [vy], e'.trans e16, rl, ?_, q6.2⟩
      exact HM.lent m6 nR
    · exact ⟨F5, M5, ys, ws, e'.trans ((e2.trans e4).trans e5), ry.mono ((e2.trans e4).trans e5), m5, q5.no zb⟩
  · refine .inl ⟨k1 (by omega), ?_⟩
    rw [List.drop_eq_nil_of_le (by omega)] at q'
    exact c L F' H' M' ys (e1.trans e') nR ⟨ws, hLH, ry, m'⟩ q'
theorem lc_cold {K : PySem.W.Frag} {R F F' H' : Hp} {M' : MH} {L : Addr} {ys : List D} {Qd : DQ} {Q : VK} (c : Cont K R F Qd Q) (e : Ex F F') (n : R L = none) (h : ∃ ws, H' L = some (.lst ws) ∧ RepL K F' ys ws ∧ HM K (upd R L (.lst ws)) F' H' M') (q : Qd (.lst ys) M') : Q (.ref L) H' := by
  obtain ⟨ws, hL, rl, m⟩ := h
  obtain ⟨e2, m2⟩ := m.back n
  exact c _ _ _ _ _ (e.trans e2) m2 (.lst upd_same (rl.mono e2)) q
theorem lc_warm {K : PySem.W.Frag} {R F F' H' : Hp} {M' : MH} {L : Addr} {ys : List D} {Qd : DQ} {Q : VK} (c : Cont K R F Qd Q) (e : Ex F F') (n : R L = none) (h : ∃ ws, H' L = some (.lst ws) ∧ RepL K F' ys ws ∧ HM K (upd R L (.lst ws)) F' H' M') (q : ∀ p, M' p = none → Qd (.ref p) (mup M' p (.lst ys))) : Q (.ref L) H' := by
  obtain ⟨ws, hL, rl, m⟩ := h
  have mL : M' L = none := (m.rr L _ upd_same).2.2
  exact c _ _ _ _ _ e (HM.backM (o := .lst ys) m n ⟨ws, hL, rl⟩) (.ref L) (q L mL)
section
variable {elt tg iter : Expr} {ifs : List Expr} {scope : Scope} {own : List (Str × Nat)} {it : DI} {gV : TG} {g : DG} {tt : DT} {te : DE}
abbrev PDTs (R F0 : Hp) (X : Cx) (ifs : List Expr) (t : DT) : Prop := PTs X ifs (upT X.K R F0 t)
theorem PTs.imp {ifs : List Expr} {t t' : TT} (h : PTs X ifs t) (k : ∀ σ H Q, t' σ H Q → t σ H Q) : PTs X ifs t' := ⟨fun pins s σ H Q I q => h.run pins s σ H Q I (k σ H Q q)⟩
theorem PTs.ex {ifs : List Expr} {t : Hp → TT} (h : ∀ r, PTs X ifs (t r)) : PTs X ifs (fun σ H Q => ∃ r, t r σ H Q) := ⟨fun pins s σ H Q I ⟨r, q⟩ => (h r).run pins s σ H Q I q⟩
theorem PE.ex {e : Expr} {t : Hp → TE} (h : ∀ r, PE X e (t r)) : PE X e (fun σ H Q => ∃ r, t r σ H Q) := ⟨fun pins s σ H Q I ⟨r, q⟩ => (h r).run pins s σ H Q I q⟩
theorem pdts_nil : PDTs R F0 X [] dYes := by
  refine PTs.imp pts_nil ?_
  rintro σ H Q ⟨F, ds, M, Qd, a, h, c⟩
  exact c _ _ _ _ (Ex.refl _) a.hm h
theorem pdts_one {e : Expr} {t : DT} (h : PDT R F0 X e t) : PDTs R F0 X [e] t := pts_one h
theorem pd_lc (hc : X.calm = true) (hN : X.N.Nodup) (hi : PDI R F0 X tg iter it) (ok : BlkOk X.N X.env.scope scope own) (hT : ∀ R, TgOk X.K R F0 gV g (own.map (·.2)))
    (hg : ∀ (s : Shared) (H : Hp) (C : Addr) (cl : List (Str × Addr)) (fp : List Addr), PG (X.blk s H scope (compEnvC scope cl C X.env) fp) tg gV) (ht : ∀ (R : Hp) (s : Shared) (H : Hp) (C : Addr) (cl : List (Str × Addr)) (fp : List Addr), PDTs R F0 (X.blk s H scope (compEnvC scope cl C X.env) fp) ifs tt)
    (he : ∀ (R : Hp) (s : Shared) (H : Hp) (C : Addr) (cl : List (Str × Addr)) (fp : List Addr), PDE R F0 (X.blk s H scope (compEnvC scope cl C X.env) fp) elt te) (hs : ∀ x, foldedSetIterable iter X.env x = pure x := by intro _; rfl) :
    PDE R F0 X (.ListComp elt [⟨tg, iter, ifs, 0⟩] scope pos) (dLc it g tt te (own.map (·.2))) := by
  refine PE.imp (pe_lc (tt := fun σ H Q => ∃ R, upT X.K R F0 tt σ H Q) (te := fun σ H Q => ∃ R, up X.K R F0 te σ H Q) hc hN hi ok hg (fun s H C cl fp => PTs.ex fun R => ht R s H C cl fp) (fun s H C cl fp => PE.ex fun R => he R s H C cl fp) hs) ?_
  rintro σ H Q ⟨F, ds, M, Qd, a, h, c⟩
  exact lc_up (fun _ _ _ z => z) hT (fun R _ _ _ z => ⟨R, z⟩) (fun R _ _ _ z => ⟨R, z⟩) a h fun L F' H' M' ys e n hh q => lc_cold c e n hh q
theorem pd_lcM (hc : X.calm = true) (hN : X.N.Nodup) (hi : PDI R F0 X tg iter it) (ok : BlkOk X.N X.env.scope scope own) (hT : ∀ R, TgOk X.K R F0 gV g (own.map (·.2)))
    (hg : ∀ (s : Shared) (H : Hp) (C : Addr) (cl : List (Str × Addr)) (fp : List Addr), PG (X.blk s H scope (compEnvC scope cl C X.env) fp) tg gV) (ht : ∀ (R : Hp) (s : Shared) (H : Hp) (C : Addr) (cl : List (Str × Addr)) (fp : List Addr), PDTs R F0 (X.blk s H scope (compEnvC scope cl C X.env) fp) ifs tt)
    (he : ∀ (R : Hp) (s : Shared) (H : Hp) (C : Addr) (cl : List (Str × Addr)) (fp : List Addr), PDE R F0 (X.blk s H scope (compEnvC scope cl C X.env) fp) elt te) (hs : ∀ x, foldedSetIterable iter X.env x = pure x := by intro _; rfl) :
    PDE R F0 X (.ListComp elt [⟨tg, iter, ifs, 0⟩] scope pos) (dLcM it g tt te (own.map (·.2))) := by
  refine PE.imp (pe_lc (tt := fun σ H Q => ∃ R, upT X.K R F0 tt σ H Q) (te := fun σ H Q => ∃ R, up X.K R F0 te σ H Q) hc hN hi ok hg (fun s H C cl fp => PTs.ex fun R => ht R s H C cl fp) (fun s H C cl fp => PE.ex fun R => he R s H C cl fp) hs) ?_
  rintro σ H Q ⟨F, ds, M, Qd, a, h, c⟩
  exact lc_up (fun _ _ _ z => z) hT (fun R _ _ _ z => ⟨R, z⟩) (fun R _ _ _ z => ⟨R, z⟩) a h fun L F' H' M' ys e n hh q => lc_warm c e n hh q
theorem pd_setLc (i : Nat) {y : Str} {py spos : Pos} (hc : X.calm = true) (hN : X.N.Nodup) (hi : PDI R F0 X tg iter it) (ok : BlkOk X.N X.env.scope scope own) (hT : ∀ R, TgOk X.K R F0 gV g (own.map (·.2)))
    (hg : ∀ (s : Shared) (H : Hp) (C : Addr) (cl : List (Str × Addr)) (fp : List Addr), PG (X.blk s H scope (compEnvC scope cl C X.env) fp) tg gV) (ht : ∀ (R : Hp) (s : Shared) (H : Hp) (C : Addr) (cl : List (Str × Addr)) (fp : List Addr), PDTs R F0 (X.blk s H scope (compEnvC scope cl C X.env) fp) ifs tt)
    (he : ∀ (R : Hp) (s : Shared) (H : Hp) (C : Addr) (cl : List (Str × Addr)) (fp : List Addr), PDE R F0 (X.blk s H scope (compEnvC scope cl C X.env) fp) elt te)
    (hsw : swapsWith (.ListComp elt [⟨tg, iter, ifs, 0⟩] scope pos) (some (.Name y py)) spos.line X.env = pure true) (hy : X.N[i]? = some y := by rfl) (hyl : X.env.scope.names.lookup y = some .local := by rfl) (hs : ∀ x, foldedSetIterable iter X.env x = pure x := by intro _; rfl) :
    PDS R F0 X (.Assign [.Name y py] (.ListComp elt [⟨tg, iter, ifs, 0⟩] scope pos) spos) (dAsg (dLc it g tt te (own.map (·.2))) (dName i)) := by
  refine PS.imp (ps_setLc (tt := fun σ H Q => ∃ R, upT X.K R F0 tt σ H Q) (te := fun σ H Q => ∃ R, up X.K R F0 te σ H Q) hc hN hy hyl hsw hi ok hg (fun s H C cl fp => PTs.ex fun R => ht R s H C cl fp) (fun s H C cl fp => PE.ex fun R => he R s H C cl fp) hs) ?_
  rintro D σ H ⟨F, ds, M, Dd, a, h, c⟩
  have c2 : Cont X.K R F (fun x M1 => Dd.nx (ds.set i (some x)) M1) (fun x H1 => D.nx (σ.set i (some x)) H1) := fun F' H' M' d v e m r q => c.nx _ _ _ _ _ e m ((a.rs.mono e).set r i) q
  exact lc_up (fun _ _ _ z => z) hT (fun R _ _ _ z => ⟨R, z⟩) (fun R _ _ _ z => ⟨R, z⟩) a h fun L F' H' M' ys e n hh q => lc_cold c2 e n hh q
theorem pd_setLcM (i : Nat) {y : Str} {py spos : Pos} (hc : X.calm = true) (hN : X.N.Nodup) (hi : PDI R F0 X tg iter it) (ok : BlkOk X.N X.env.scope scope own) (hT : ∀ R, TgOk X.K R F0 gV g (own.map (·.2)))
    (hg : ∀ (s : Shared) (H : Hp) (C : Addr) (cl : List (Str × Addr)) (fp : List Addr), PG (X.blk s H scope (compEnvC scope cl C X.env) fp) tg gV) (ht : ∀ (R : Hp) (s : Shared) (H : Hp) (C : Addr) (cl : List (Str × Addr)) (fp : List Addr), PDTs R F0 (X.blk s H scope (compEnvC scope cl C X.env) fp) ifs tt)
    (he : ∀ (R : Hp) (s : Shared) (H : Hp) (C : Addr) (cl : List (Str × Addr)) (fp : List Addr), PDE R F0 (X.blk s H scope (compEnvC scope cl C X.env) fp) elt te)
    (hsw : swapsWith (.ListComp elt [⟨tg, iter, ifs, 0⟩] scope pos) (some (.Name y py)) spos.line X.env = pure true) (hy : X.N[i]? = some y := by rfl) (hyl : X.env.scope.names.lookup y = some .local := by rfl) (hs : ∀ x, foldedSetIterable iter X.env x = pure x := by intro _; rfl) :
    PDS R F0 X (.Assign [.Name y py] (.ListComp elt [⟨tg, iter, ifs, 0⟩] scope pos) spos) (dAsg (dLcM it g tt te (own.map (·.2))) (dName i)) := by
  refine PS.imp (ps_setLc (tt := fun σ H Q => ∃ R, upT X.K R F0 tt σ H Q) (te := fun σ H Q => ∃ R, up X.K R F0 te σ H Q) hc hN hy hyl hsw hi ok hg (fun s H C cl fp => PTs.ex fun R => ht R s H C cl fp) (fun s H C cl fp => PE.ex fun R => he R s H C cl fp) hs) ?_
  rintro D σ H ⟨F, ds, M, Dd, a, h, c⟩
  have c2 : Cont X.K R F (fun x M1 => Dd.nx (ds.set i (some x)) M1) (fun x H1 => D.nx (σ.set i (some x)) H1) := fun F' H' M' d v e m r q => c.nx _ _ _ _ _ e m ((a.rs.mono e).set r i) q
  exact lc_up (fun _ _ _ z => z) hT (fun R _ _ _ z => ⟨R, z⟩) (fun R _ _ _ z => ⟨R, z⟩) a h fun L F' H' M' ys e n hh q => lc_warm c2 e n hh q
end
end
end Dv
namespace Dv
open PySem PySem.Spec L2
structure FnG (P : Program) (w : World) (K : PySem.W.Frag) (mg : Str → Option Value) (base : Heap) (k : Nat) (f : Addr) (fd : FuncData) (ps : List Str) (sp : Sp) : Prop where
  len : ∀ vs H Q E, sp vs H Q E → vs.length = ps.length
  run : ∀ (A : Around) (outer : List Env) (s : Shared) (H : Hp) (args : Args) (us : List Value) (vs : List V) (Q : VK) (E : XK), Room k A → A.guards = some [] → Env0 P w K mg base A outer s H →
    BindsTo s fd args (ps.zip us) → Vals vs us → sp vs H Q E → codeAny (model P w) A (.call (.ref f) args) (CR (L2.CX P w) outer P w H s Q E) s
theorem FnG.mono {P : Program} {w : World} {K : PySem.W.Frag} {mg : Str → Option Value} {base : Heap} {j k : Nat} {f : Addr} {fd : FuncData} {ps : List Str} {sp : Sp} (F : FnG P w K mg base j f fd ps sp) (h : j ≤ k) : FnG P w K mg base k f fd ps sp :=
  ⟨F.len, fun A outer s H args us vs Q E hr => F.run A outer s H args us vs Q E (hr.mono h)⟩
section
variable {P : Program} {w : World} {K : PySem.W.Frag} {mg : Str → Option Value} {base : Heap}
theorem fnG_of {x qual : Str} {params : Arguments} {body : List Stmt} {scope : Scope} {dvs : List V} {kws : List (Str × V)} {f : Addr} {fd : FuncData} {N ps : List Str} {k : Nat} {sp : Sp} (FD : FunD K x qual params body scope dvs kws f fd) (S : FnScope N ps scope)
    (len : ∀ vs H Q E, sp vs H Q E → vs.length = ps.length)
    (hb : ∀ (cdv : Value) (A : Around) (outer : List Env) (s : Shared) (H : Hp) (vs : List V) (Q : VK) (E : XK), Room k (A.deeper (PyProof.Rows.envOfC qual scope s.heap.objs.size f cdv)) → A.guards = some [] → sp vs H Q E →
      ∃ t, PSs (cxOf (L2.CX P w) P w K mg base N qual scope f cdv A outer s H E) body t ∧ t { nx := fun _ H' => Q .non H', rt := Q } (L2.start N vs) H) : FnG P w K mg base (k + 1) f fd ps sp := by
  obtain ⟨oc, od, dV, kV, doc, pm, an, cdv, ct, osl, rfl, lk, hcd, _, _⟩ := FD.ex
  refine ⟨len, ?_⟩
  intro A outer s H args us vs Q E room guards e0 binds rel prom
  have same : ∀ b o, base.get? b = some o → s.heap.get? b = some o := fun b o e => (e0.bs b o e).1
  have KX := e0.mod.kin.keeps same
  refine codeAny_call_function room.depth (KX _ _ lk) rfl S.co S.gen rfl (PySem.W.codeRec_of KX hcd) (binds _ _ _ _ ?_)
  have kinds : ∀ y ∈ ps.zip us, scope.names.lookup y.1 = some .local ∨ (scope.names.lookup y.1 = some .cell ∧ ((cellsFrom (s.heap.objs.size + 1) scope.names []).lookup y.1).isSome = true) := by
    rintro ⟨n, v⟩ hy
    exact (S.par n (List.of_mem_zip hy).1).imp id fun q => ⟨q, PySem.W.cellsFrom_some _ _ _ (.inl q)⟩
  refine wpAny_newFunctionEnv_cells S.kind kinds fun env he s1 x => ?_
  subst he
  refine ⟨(e0.mod.nolimit.keeps same).keeps x.toInCall.keep, codeAny_func ?_⟩
  obtain ⟨t, ht, hq⟩ := hb cdv A outer s H vs Q E (room.deeper _) guards prom
  have I := inv_start (CX := L2.CX P w) (E := E) (cd := cdv) S room.hd e0 (len _ _ _ _ prom) rel x
  refine wpAny_mono (ht.run [] s1 (L2.start N vs) H _ I hq) (fun fl s' hs => ?_) fun e s' hs => hs
  cases fl with
  | ret u =>
    obtain ⟨v, σ', H', J, rv, q⟩ := hs
    exact ⟨v, H', J.os, J.bare, J.base, J.hok, rv, q⟩
  | next =>
    obtain ⟨σ', H', J, q⟩ := hs
    exact ⟨V.non, H', J.os, J.bare, J.base, J.hok, rfl, q⟩
  | brk => exact hs.elim fun _ z => z.elim fun _ z => z.2.elim
  | cont => exact hs.elim fun _ z => z.elim fun _ z => z.2.elim
end
abbrev DX := Value → Option Addr → MH → Prop
abbrev DWX := Value → Option Addr → Sl → MH → Prop
abbrev DSp := List D → MH → DQ → DX → Prop
def ContX (K : PySem.W.Frag) (R F : Hp) (Ed : DX) (E : XK) : Prop := ∀ F' H' M' cls d, Ex F F' → HM K R F' H' M' → Ed cls d M' → E cls d H'
def upSp (K : PySem.W.Frag) (sp : DSp) : Sp := fun vs H Q E => ∃ R F ds M Qd Ed, HM K R F H M ∧ RepL K F ds vs ∧ sp ds M Qd Ed ∧ Cont K R F Qd Q ∧ ContX K R F Ed E
def upW (K : PySem.W.Frag) (R F0 : Hp) (W : DWX) : WX := fun cls d σ H => ∃ F ds M, At K R F0 F H σ ds M ∧ W cls d ds M
abbrev DTakes (R F0 : Hp) (X : Cx) (W : DWX) : Prop := Takes X (upW X.K R F0 W)
abbrev W0 : DWX := fun _ _ _ _ => False
theorem takes_no {X : Cx} {R F0 : Hp} : DTakes R F0 X W0 := fun u s' x => by
  obtain ⟨_, _, _, _, _, _, _, _, _, _, _, _, _, _, _, _, _, _, _, _, z⟩ := x
  exact z.elim
abbrev E0' : DX := fun _ _ _ => False
def dstart (N : List Str) (ds : List D) : Sl := ds.map some ++ List.replicate (N.length - ds.length) none
theorem rep_start {K : PySem.W.Frag} {F : Hp} {N : List Str} {ds : List D} {vs : List V} (r : RepL K F ds vs) : RepS K F (dstart N ds) (L2.start N vs) := by
  unfold dstart L2.start
  rw [r.length]
  exact r.somes.append (.nones _)
section
variable {P : Program} {w : World} {K : PySem.W.Frag} {mg : Str → Option Value} {base : Heap}
theorem fnD_of {x qual : Str} {params : Arguments} {body : List Stmt} {scope : Scope} {dvs : List V} {kws : List (Str × V)} {f : Addr} {fd : FuncData} {N ps : List Str} {k : Nat} {sp : DSp} (FD : FunD K x qual params body scope dvs kws f fd) (S : FnScope N ps scope)
    (len : ∀ ds M Q E, sp ds M Q E → ds.length = ps.length)
    (hb : ∀ (cdv : Value) (A : Around) (outer : List Env) (s : Shared) (H : Hp) (E0 : XK) (R F : Hp) (ds : List D) (M : MH) (Q : DQ) (E : DX),
      Room k (cxOf (L2.CX P w) P w K mg base N qual scope f cdv A outer s H E0).A → (cxOf (L2.CX P w) P w K mg base N qual scope f cdv A outer s H E0).A.guards = some [] → DTakes R F (cxOf (L2.CX P w) P w K mg base N qual scope f cdv A outer s H E0) (fun cls d _ M => E cls d M) → sp ds M Q E →
      ∃ t, PDSs R F (cxOf (L2.CX P w) P w K mg base N qual scope f cdv A outer s H E0) body t ∧ t { nx := fun _ M' => Q .non M', rt := Q } (dstart N ds) M) : FnG P w K mg base (k + 1) f fd ps (upSp K sp) := by
  refine fnG_of FD S (fun vs H Q E h => ?_) fun cdv A outer s H vs Q E room guards h => ?_
  · obtain ⟨R, F, ds, M, Qd, Ed, _, r, h, _⟩ := h
    exact r.length.symm.trans (len _ _ _ _ h)
  · obtain ⟨R, F, ds, M, Qd, Ed, m, r, h, c, cx⟩ := h
    have tk0 : Takes (cxOf (L2.CX P w) P w K mg base N qual scope f cdv A outer s H E) (fun cls d _ H => E cls d H) := takes_of rfl rfl rfl rfl
    have tk := Takes.imp tk0 (W' := upW K R F (fun cls d _ M => Ed cls d M)) (fun cls d σ H ⟨F', ds', M', a, z⟩ => cx F' H M' cls d a.ex a.hm z)
    obtain ⟨t, ht, hq⟩ := hb cdv A outer s H E R F ds M Qd Ed room guards tk h
    refine ⟨_, ht, F, _, M, _, ⟨Ex.refl _, m, rep_start r⟩, hq, ⟨?_, c, fun _ _ _ _ _ _ _ _ z => z, fun _ _ _ _ _ _ _ _ z => z⟩⟩
    exact fun F' H' M' ds' σ' e m' _ q => c F' H' M' .non .non e m' .non q
end
section
variable {X : Cx} {R F0 : Hp} {k : Nat} {f C : Addr} {fd : FuncData} {ps : List Str} {sp : DSp} {W : DWX} {x m : Str} {p pos apos : Pos} {e o : Expr} {es : List Expr}
theorem at_call {pins : List (Addr × Obj)} {σ : St} {H : Hp} {s : Shared} {Q : VK} {Wv : WX} {A : Around} {c : Code} (tk : Takes X Wv) (I : Inv X pins σ H s) (h : codeAny (model X.prog X.w) A c (CR (L2.CX X.prog X.w) X.stack X.prog X.w H s Q (fun cls d H' => Wv cls d σ H')) s) :
    codeAny (model X.prog X.w) A c (fun r s' => match r with | .ok (.ret u) => EP X pins σ Q u s' | .ok _ => False | .error e => X.xe e s') s := by
  refine codeAny_mono h fun r s' hq => ?_
  cases r with
  | error e => exact tk e s' (XE.of_call I (fun _ _ _ z => z) hq)
  | ok fl =>
    cases fl with
    | ret u => exact I.after hq
    | next => exact False.elim hq
    | brk => exact False.elim hq
    | cont => exact False.elim hq
theorem sp_up {σ : St} {ds : Sl} {F1 F H : Hp} {M : MH} {args : List D} {vs : List V} {Qd : DQ} {Q : VK} (a : At X.K R F0 F H σ ds M) (r : RepL X.K F args vs) (h : sp args M Qd fun cls d M2 => W cls d ds M2) (c : Cont X.K R F Qd Q) :
    upSp X.K sp vs H Q (fun cls d H' => upW X.K R F0 W cls d σ H') :=
  ⟨R, F, args, M, Qd, _, a.hm, r, h, c, fun F' H' M' cls d e m z => ⟨F', ds, M', a.go e m, z⟩⟩
def dCall (sp : DSp) (dvs : List D) (W : DWX) (t : DA) : DE := fun ds M Q => t ds M fun xs M1 => sp (xs ++ dvs) M1 Q fun cls d M2 => W cls d ds M2
def Dfl (K : PySem.W.Frag) (dvs : List D) (us : List Value) : Prop := ∃ vs, Vals vs us ∧ ∀ F, RepL K F dvs vs
theorem Dfl.nil {K : PySem.W.Frag} : Dfl K [] [] := ⟨[], .nil, fun _ => .nil⟩
theorem pd_call {t : DA} {dvs : List D} {us : List Value} (G : FnG X.prog X.w X.K X.mg X.base k f fd ps (upSp X.K sp)) (hr : Room k X.A) (hG : X.A.guards = some []) (hg : Gl X x) (hm : X.mg x = some (.ref f)) (hk : PySem.W.keepIn X.K (.ref f) = true) (hb : Binds X.K fd ps us) (hd : Dfl X.K dvs us)
    (tk : DTakes R F0 X W) (ha : PDA R F0 X (e :: es) t) (hdb : (x == ("__debug__" : Str)) = false := by decide) (he : starEach (e :: es) X.env = (false, eval e X.env) :: starEach es X.env := by rfl) (hpl : (backTo pos (starEach es X.env)).any (·.1) = false := by rfl) :
    PDE R F0 X (.Call (.Name x p) (e :: es) [] pos) (dCall sp dvs W t) := by
  refine ⟨fun pins s σ H Q I h => ?_⟩
  obtain ⟨F, ds, M, Qd, a, h, c⟩ := h
  obtain ⟨dv, rd, rp⟩ := hd
  refine wpAny_Call_Name_kw (ld_glob I hg hm ?_ hdb)
  refine PySem.W.callWith_K (h₀ := X.base) I.ok.mod.kin hk (thn (ha.run pos pins s σ H (fun vs H1 => upSp X.K sp (vs ++ dv) H1 Q (fun cls d H' => upW X.K R F0 W cls d σ H')) I ⟨F, ds, M, _, a, h, fun F1 H1 M1 xs vs e1 m1 r1 q1 => ?_⟩) ?_) he hpl
  · exact sp_up (F1 := F1) (a.go e1 m1) (r1.append (rp F1)) q1 (c.mono e1)
  · rintro ws s1 ⟨vs, H1, I1, r, q⟩
    refine ⟨I1.kIn, wpAny_call (at_call tk I1 ?_)⟩
    have r2 : Vals (vs ++ dv) (ws ++ us) := r.append rd
    have hl : (ws ++ us).length = ps.length := by rw [← r2.length]; exact G.len _ _ _ _ q
    exact G.run X.A X.stack s1 H1 ⟨ws, []⟩ (ws ++ us) (vs ++ dv) Q _ hr hG I1.env0 (hb s1 ws I1.kIn hl) r2 q
theorem pd_call0 {dvs : List D} {us : List Value} (G : FnG X.prog X.w X.K X.mg X.base k f fd ps (upSp X.K sp)) (hr : Room k X.A) (hG : X.A.guards = some []) (hg : Gl X x) (hm : X.mg x = some (.ref f)) (hk : PySem.W.keepIn X.K (.ref f) = true) (hb : Binds X.K fd ps us) (hd : Dfl X.K dvs us)
    (tk : DTakes R F0 X W) (hdb : (x == ("__debug__" : Str)) = false := by decide) : PDE R F0 X (.Call (.Name x p) [] [] pos) (dCall sp dvs W dNil) := by
  refine ⟨fun pins s σ H Q I h => ?_⟩
  obtain ⟨F, ds, M, Qd, a, h, c⟩ := h
  obtain ⟨dv, rd, rp⟩ := hd
  have q := sp_up (F1 := F) a (rp F) h c
  refine wpAny_Call_Name_kw (ld_glob I hg hm ?_ hdb)
  refine PySem.W.callWith_K0 I.kIn hk (wpAny_call (at_call tk I ?_))
  have hl : ([] ++ us).length = ps.length := by rw [List.nil_append, ← rd.length]; exact G.len _ _ _ _ q
  exact G.run X.A X.stack s H ⟨[], []⟩ us dv Q _ hr hG I.env0 (hb s [] I.kIn hl) rd q
structure KB (K : PySem.W.Frag) (fd : FuncData) (ps : List Str) (n : Nat) (ks : List Str) (gD : List D → List D → List D) : Prop where
  ex : ∃ (g : List Value → List Value → List Value) (gV : List V → List V → List V), KBn K fd ps n ks g gV ∧ ∀ F ds vs es ws, RepL K F ds vs → RepL K F es ws → RepL K F (gD ds es) (gV vs ws)
def dCallK (n m : Nat) (sp : DSp) (gD : List D → List D → List D) (W : DWX) (t tk : DA) : DE := fun ds M Q => t ds M fun xs M1 => tk ds M1 fun ys M2 => (xs.length = n ∧ ys.length = m) ∧ sp (gD xs ys) M2 Q fun cls d M3 => W cls d ds M3
abbrev PDK (R F0 : Hp) (X : Cx) (kws : List Keyword) (t : DA) : Prop := PK X kws (upA X.K R F0 t)
theorem PK.imp {kws : List Keyword} {t t' : TA} (h : PK X kws t) (k : ∀ σ H Q, t' σ H Q → t σ H Q) : PK X kws t' := ⟨fun pos pins s σ H Q I q => h.run pos pins s σ H Q I (k σ H Q q)⟩
theorem pdk_nil : PDK R F0 X [] dNil := by
  refine PK.imp pk_nil ?_
  rintro σ H Q ⟨F, ds, M, Qd, a, h, c⟩
  exact c _ _ _ _ _ (Ex.refl _) a.hm .nil h
theorem pdk_cons {te : DE} {t : DA} {nm : Option Str} {kpos : Pos} {kws : List Keyword} (ha : PDE R F0 X e te) (hr : PDK R F0 X kws t) : PDK R F0 X (⟨nm, e, kpos⟩ :: kws) (dCons te t) := by
  refine PK.imp (pk_cons ha hr) ?_
  rintro σ H Q ⟨F, ds, M, Qd, a, h, c⟩
  refine ⟨F, ds, M, _, a, h, fun F1 H1 M1 x vx e1 m1 r1 q1 => ?_⟩
  refine ⟨F1, ds, M1, _, a.go e1 m1, q1, fun F2 H2 M2 xs vs e2 m2 r2 q2 => ?_⟩
  exact c _ _ _ _ _ (e1.trans e2) m2 (.cons (r1.mono e2) r2) q2
theorem pd_callK {t tk : DA} {n : Nat} {ks : List Str} {gD : List D → List D → List D} {kws : List Keyword} (G : FnG X.prog X.w X.K X.mg X.base k f fd ps (upSp X.K sp)) (hr : Room k X.A) (hG : X.A.guards = some []) (hg : Gl X x) (hm : X.mg x = some (.ref f)) (hk : PySem.W.keepIn X.K (.ref f) = true)
    (hb : KB X.K fd ps n ks gD) (tx : DTakes R F0 X W) (ha : PDA R F0 X (e :: es) t) (hkw : PDK R F0 X kws tk) (hall : (backToKw pos (keywordEach kws X.env)).all (·.1.isSome) = true := by rfl) (hks : (backToKw pos (keywordEach kws X.env)).filterMap (·.1) = ks := by rfl)
    (hdb : (x == ("__debug__" : Str)) = false := by decide) (he : starEach (e :: es) X.env = (false, eval e X.env) :: starEach es X.env := by rfl)
    (hpl : ((backTo pos (starEach (e :: es) X.env)).any (·.1) || (backToKw pos (keywordEach kws X.env)).any (·.1.isNone)) = false := by rfl) :
    PDE R F0 X (.Call (.Name x p) (e :: es) kws pos) (dCallK n ks.length sp gD W t tk) := by
  obtain ⟨g, gV, kb, rel⟩ := hb.ex
  refine ⟨fun pins s σ H Q I h => ?_⟩
  obtain ⟨F, ds, M, Qd, a, h, c⟩ := h
  refine wpAny_Call_Name_kw (ld_glob I hg hm ?_ hdb)
  refine PySem.W.callWith_KW (h₀ := X.base) I.ok.mod.kin hk hall (thn (ha.run pos pins s σ H (fun vs H1 => upA X.K R F0 tk σ H1 fun zs H2 => (vs.length = n ∧ zs.length = ks.length) ∧ upSp X.K sp (gV vs zs) H2 Q (fun cls d H' => upW X.K R F0 W cls d σ H')) I ⟨F, ds, M, _, a, h, fun F1 H1 M1 xs vs e1 m1 r1 q1 => ?_⟩) ?_) hpl he
  · refine ⟨F1, ds, M1, _, a.go e1 m1, q1, fun F2 H2 M2 ys zs e2 m2 r2 q2 => ⟨⟨r1.length.symm.trans q2.1.1, r2.length.symm.trans q2.1.2⟩, ?_⟩⟩
    exact sp_up (F1 := F2) (a.go (e1.trans e2) m2) (rel F2 _ _ _ _ (r1.mono e2) r2) q2.2 (c.mono (e1.trans e2))
  · rintro ws s1 ⟨vs, H1, I1, r, q⟩
    refine thn (hkw.run pos pins s1 σ H1 _ I1 q) ?_
    rintro us s2 ⟨zs, H2, I2, rz, ⟨l1, l2⟩, q2⟩
    rw [hks]
    exact ⟨I2.kIn, wpAny_call (at_call tx I2 (G.run X.A X.stack s2 H2 ⟨ws, ks.zip us⟩ (g ws us) (gV vs zs) Q _ hr hG I2.env0 (kb.to s2 ws us I2.kIn (r.length.symm.trans l1) (rz.length.symm.trans l2)) (kb.rel r rz) q2))⟩
end
end Dv
namespace Dv
open PySem PySem.Spec L2
def keyP : Key → PyData
  | .inl i => .int i
  | .inr x => .str x
mutual
def pOf : D → PyData
  | .non => .none
  | .bl b => .bool b
  | .int i => .int i
  | .str x => .str x
  | .tup xs => .tuple (pOfL xs)
  | .lst xs => .list (pOfL xs)
  | .dct ks => .dict (pOfK ks)
  | .ty _ | .ref _ | .sl _ _ | .ins _ _ | .scr _ => .none
def pOfL : List D → List PyData
  | [] => []
  | x :: xs => pOf x :: pOfL xs
def pOfK : List (Key × D) → List (PyData × PyData)
  | [] => []
  | (k, x) :: xs => (keyP k, pOf x) :: pOfK xs
end
mutual
def plain : D → Bool
  | .non | .bl _ | .int _ | .str _ => true
  | .tup xs | .lst xs => plainL xs
  | .dct ks => plainK ks
  | .ty _ | .ref _ | .sl _ _ | .ins _ _ | .scr _ => false
def plainL : List D → Bool
  | [] => true
  | x :: xs => plain x && plainL xs
def plainK : List (Key × D) → Bool
  | [] => true
  | (_, x) :: xs => plain x && plainK xs
end
mutual
inductive Rds (h : Heap) : Value → PyData → Prop
  | non : Rds h .none .none
  | bl (b : Bool) : Rds h (.bool b) (.bool b)
  | int (i : Int) (t : Tok) : Rds h (.int i t) (.int i)
  | str (x : Str) (t : Tok) : Rds h (.str x t) (.str x)
  | lst {a : Addr} {o : Obj} {us : Array Value} {n : Nat} {ps : List PyData} : h.get? a = some o → o.cls = .type "list" → o.data = .seq us n → RdsL h us.toList ps → Rds h (.ref a) (.list ps)
  | tup {a : Addr} {o : Obj} {us : Array Value} {n : Nat} {ps : List PyData} : h.get? a = some o → o.cls = .type "tuple" → o.data = .seq us n → RdsL h us.toList ps → Rds h (.ref a) (.tuple ps)
  | dct {a : Addr} {o : Obj} {es : Array DictEntry} {n : Nat} {ps : List (PyData × PyData)} : h.get? a = some o → o.cls = .type "dict" → o.data = .dict es n → (a == sysModules) = false →
      RdsL h (es.toList.map (·.key)) (ps.map (·.1)) → RdsL h (es.toList.map (·.val)) (ps.map (·.2)) → Rds h (.ref a) (.dict ps)
inductive RdsL (h : Heap) : List Value → List PyData → Prop
  | nil : RdsL h [] []
  | cons {u : Value} {us : List Value} {p : PyData} {ps : List PyData} : Rds h u p → RdsL h us ps → RdsL h (u :: us) (p :: ps)
end
mutual
theorem Rds.to {h : Heap} : ∀ {u : Value} {p : PyData}, Rds h u p → ∃ as, Reads h u p as
  | _, _, .non => ⟨_, .none⟩
  | _, _, .bl b => ⟨_, .bool b⟩
  | _, _, .int i t => ⟨_, .int i t⟩
  | _, _, .str x t => ⟨_, .str x t⟩
  | _, _, .lst e1 e2 e3 r => let ⟨_, q⟩ := RdsL.to r; ⟨_, .list e1 e2 e3 q⟩
  | _, _, .tup e1 e2 e3 r => let ⟨_, q⟩ := RdsL.to r; ⟨_, .tuple e1 e2 e3 q⟩
  | _, _, .dct e1 e2 e3 _ r1 r2 => let ⟨_, q1⟩ := RdsL.to r1; let ⟨_, q2⟩ := RdsL.to r2; ⟨_, .dict e1 e2 e3 q1 q2⟩
theorem RdsL.to {h : Heap} : ∀ {us : List Value} {ps : List PyData}, RdsL h us ps → ∃ as, ReadsAll h us ps as
  | _, _, .nil => ⟨_, .nil⟩
  | _, _, .cons r rs => let ⟨_, q⟩ := Rds.to r; let ⟨_, qs⟩ := RdsL.to rs; ⟨_, .cons q qs⟩
end
section
variable {prog : Program} {w : World} {h : Heap}
mutual
theorem Rds.shows : ∀ {u : Value} {p : PyData}, Rds h u p → p.showable = true → p.shown.length ≤ sizeLine → ∃ bs, ReadAtMost h p.depth bs ∧ ReprK prog w bs h p.depth u p.shown
  | _, _, .non, _, _ => ⟨[], (fun _ z => nomatch z), by simp only [PyData.shown]; exact .of_is ReprIs.none _ _ _⟩
  | _, _, .bl b, _, _ => ⟨[], (fun _ z => nomatch z), by simp only [PyData.shown]; exact .of_is (ReprIs.bool b) _ _ _⟩
  | _, _, .int i t, hs, _ => ⟨[], (fun _ z => nomatch z), by simp only [PyData.shown]; exact .of_is (ReprIs.int t (by simpa [PyData.showable] using hs)) _ _ _⟩
  | _, _, .str x t, _, hz => ⟨[], (fun _ z => nomatch z), by simp only [PyData.shown]; exact .of_is (ReprIs.str x t (by simpa only [PyData.shown] using hz)) _ _ _⟩
  | _, _, .lst (a := a) (us := us) (ps := ps) e1 e2 e3 r, hs, hz => by
    have z1 : (listText (PyData.shownAll ps)).length ≤ sizeLine := by simpa only [PyData.shown] using hz
    obtain ⟨bs, hb, hk⟩ := RdsL.shows r (by simpa [PyData.showable] using hs) (fun t m => Nat.le_trans (listText_mem_le m) z1)
    obtain ⟨as, q⟩ := Rds.to (.lst e1 e2 e3 r)
    have off : a ∉ bs := not_mem_of_deeper q (by simp only [PyData.depth]; omega) hb
    refine ⟨a :: bs, ReadAtMost.cons q (by simp only [PyData.depth]; omega) hb, ?_⟩
    simp only [PyData.depth, PyData.shown]
    obtain ⟨l⟩ := us
    cases l with
    | nil =>
      have r0 : RdsL h [] ps := r
      cases r0
      simp only [PyData.shownAll, listText_nil]
      exact ReprK.listEmpty e1 e2 e3
    | cons x l => exact ReprK.list e1 e2 e3 off (by simpa using hk.length_eq) (fun i y e => hk.item i y (by simpa using e))
  | _, _, .tup (a := a) (ps := ps) e1 e2 e3 r, hs, hz => by
    have z1 : (tupleText (PyData.shownAll ps)).length ≤ sizeLine := by simpa only [PyData.shown] using hz
    obtain ⟨bs, hb, hk⟩ := RdsL.shows r (by simpa [PyData.showable] using hs) (fun t m => Nat.le_trans (tupleText_mem_le m) z1)
    obtain ⟨as, q⟩ := Rds.to (.tup e1 e2 e3 r)
    have off : a ∉ bs := not_mem_of_deeper q (by simp only [PyData.depth]; omega) hb
    refine ⟨a :: bs, ReadAtMost.cons q (by simp only [PyData.depth]; omega) hb, ?_⟩
    simp only [PyData.depth, PyData.shown]
    exact ReprK.tuple e1 e2 e3 off hk
  | _, _, .dct (a := a) (es := es) (ps := ps) e1 e2 e3 ns r1 r2, hs, hz => by
    have z1 : (dictText (PyData.shownKv ps)).length ≤ sizeLine := by simpa only [PyData.shown] using hz
    obtain ⟨hs1, hs2⟩ := PyData.showableKv_split ps (by simpa [PyData.showable] using hs)
    obtain ⟨b1, hb1, k1⟩ := RdsL.shows r1 hs1 (fun t m => let ⟨p, hp, hl⟩ := PyData.shownKv_key_le ps t m; Nat.le_trans hl (Nat.le_trans (dictText_mem_le hp) z1))
    obtain ⟨b2, hb2, k2⟩ := RdsL.shows r2 hs2 (fun t m => let ⟨p, hp, hl⟩ := PyData.shownKv_val_le ps t m; Nat.le_trans hl (Nat.le_trans (dictText_mem_le hp) z1))
    obtain ⟨as, q⟩ := Rds.to (.dct e1 e2 e3 ns r1 r2)
    have both : ReadAtMost h (PyData.depthKv ps) (b1 ++ b2) := (hb1.mono (PyData.depthAll_keys_le ps)).append (hb2.mono (PyData.depthAll_vals_le ps))
    have off : a ∉ b1 ++ b2 := not_mem_of_deeper q (by simp only [PyData.depth]; omega) both
    refine ⟨a :: (b1 ++ b2), ReadAtMost.cons q (by simp only [PyData.depth]; omega) both, ?_⟩
    simp only [PyData.depth, PyData.shown, PyData.shownKv_eq]
    exact ReprK.dict e1 e2 e3 ns off (ReprEntriesK.of_two es.toList _ _ (k1.more_le (fun b z => List.mem_append_left _ z) (PyData.depthAll_keys_le ps)) (k2.more_le (fun b z => List.mem_append_right _ z) (PyData.depthAll_vals_le ps)))
theorem RdsL.shows : ∀ {us : List Value} {ps : List PyData}, RdsL h us ps → PyData.showableAll ps = true → (∀ t ∈ PyData.shownAll ps, t.length ≤ sizeLine) → ∃ bs, ReadAtMost h (PyData.depthAll ps) bs ∧ ReprAllK prog w bs h (PyData.depthAll ps) us (PyData.shownAll ps)
  | _, _, .nil, _, _ => ⟨[], (fun _ z => nomatch z), by simp only [PyData.shownAll]; exact .nil⟩
  | _, _, .cons (p := p) (ps := ps) r rs, hs, hz => by
    have s2 : p.showable = true ∧ PyData.showableAll ps = true := by simpa [PyData.showableAll] using hs
    obtain ⟨b1, hb1, k1⟩ := Rds.shows r s2.1 (hz _ (by simp only [PyData.shownAll]; exact List.mem_cons_self ..))
    obtain ⟨b2, hb2, k2⟩ := RdsL.shows rs s2.2 (fun t m => hz t (by simp only [PyData.shownAll]; exact List.mem_cons_of_mem _ m))
    refine ⟨b1 ++ b2, ?_, ?_⟩
    · exact (hb1.mono (by simp only [PyData.depthAll]; exact Nat.le_max_left _ _)).append (hb2.mono (by simp only [PyData.depthAll]; exact Nat.le_max_right _ _))
    · simp only [PyData.depthAll, PyData.shownAll]
      exact .cons ((k1.more fun b z => List.mem_append_left _ z).level_le (Nat.le_max_left _ _)) (k2.more_le (fun b z => List.mem_append_right _ z) (Nat.le_max_right _ _))
end
theorem Rds.call {u : Value} {p : PyData} {A : Around} {E : Value → Shared → Prop} {s : Shared} {Q : Value → Shared → Prop} (r : Rds s.heap u p) (hs : p.showable = true) (hz : p.shown.length ≤ sizeLine) (hg : A.guards = some []) (hu : A.units + (p.depth + 2) < cLine)
    (hQ : ∀ h' u tk, (∀ b o, s.heap.get? b = some o → h'.get? b = some o) → Q (.str p.shown u) { s with heap := h', toks := tk }) : wpAny (model prog w) A (call (.builtin "repr") [u]) Q E s := by
  cases r with
  | non => simp only [PyData.shown] at hQ; exact P.repr_of_none (hQ s.heap _ _ fun _ _ e => e)
  | bl b => simp only [PyData.shown] at hQ; exact P.repr_of_bool (hQ s.heap _ _ fun _ _ e => e)
  | int i t => simp only [PyData.shown] at hQ; exact P.repr_of_int (by simpa [PyData.showable] using hs) (hQ s.heap _ _ fun _ _ e => e)
  | str x t => simp only [PyData.shown] at hQ hz; exact P.repr_of_str (hQ s.heap _ _ fun _ _ e => e) hz
  | @lst a o us n ps e1 e2 e3 r =>
    have z1 : (listText (PyData.shownAll ps)).length ≤ sizeLine := by simpa only [PyData.shown] using hz
    obtain ⟨bs, hb, hk⟩ := RdsL.shows (prog := prog) (w := w) r (by simpa [PyData.showable] using hs) (fun t m => Nat.le_trans (listText_mem_le m) z1)
    obtain ⟨as, q⟩ := Rds.to (.lst e1 e2 e3 r)
    have off : a ∉ bs := not_mem_of_deeper q (by simp only [PyData.depth]; omega) hb
    simp only [PyData.depth] at hu
    simp only [PyData.shown] at hQ
    refine call_repr_slot (by omega) ⟨o, e1, e2⟩ F.slot_list_repr.toG ?_
    obtain ⟨l⟩ := us
    cases l with
    | nil =>
      have r0 : RdsL s.heap [] ps := r
      cases r0
      simp only [PyData.shownAll, listText_nil] at hQ
      exact call_list_repr_empty ⟨o, e1, e2⟩ e1 e3 ⟨_, _, rfl, hQ s.heap _ _ fun _ _ e => e⟩
    | cons x l =>
      exact call_list_reprK e1 e2 e3 off (by simpa using hk.length_eq) (fun i y e => hk.item i y (by simpa using e)) (g := []) hg (fun b _ => Clear.nil b) (by show A.units + 1 + _ < cLine; omega) (fun _ _ e => e) (fun h' u tk hk => ⟨_, _, rfl, hQ h' u tk hk⟩) z1
  | @tup a o us n ps e1 e2 e3 r =>
    have z1 : (tupleText (PyData.shownAll ps)).length ≤ sizeLine := by simpa only [PyData.shown] using hz
    obtain ⟨bs, hb, hk⟩ := RdsL.shows (prog := prog) (w := w) r (by simpa [PyData.showable] using hs) (fun t m => Nat.le_trans (tupleText_mem_le m) z1)
    obtain ⟨as, q⟩ := Rds.to (.tup e1 e2 e3 r)
    have off : a ∉ bs := not_mem_of_deeper q (by simp only [PyData.depth]; omega) hb
    simp only [PyData.depth] at hu
    simp only [PyData.shown] at hQ
    refine call_repr_slot (by omega) ⟨o, e1, e2⟩ F.slot_tuple_repr ?_
    exact call_tuple_reprK e1 e2 e3 off hk (g := []) hg (fun b _ => Clear.nil b) (by show A.units + 1 + _ < cLine; omega) (fun _ _ e => e) (fun h' u tk hk => ⟨_, _, rfl, hQ h' u tk hk⟩) z1
  | @dct a o es n ps e1 e2 e3 ns r1 r2 =>
    have z1 : (dictText (PyData.shownKv ps)).length ≤ sizeLine := by simpa only [PyData.shown] using hz
    obtain ⟨hs1, hs2⟩ := PyData.showableKv_split ps (by simpa [PyData.showable] using hs)
    obtain ⟨b1, hb1, k1⟩ := RdsL.shows (prog := prog) (w := w) r1 hs1 (fun t m => let ⟨p, hp, hl⟩ := PyData.shownKv_key_le ps t m; Nat.le_trans hl (Nat.le_trans (dictText_mem_le hp) z1))
    obtain ⟨b2, hb2, k2⟩ := RdsL.shows (prog := prog) (w := w) r2 hs2 (fun t m => let ⟨p, hp, hl⟩ := PyData.shownKv_val_le ps t m; Nat.le_trans hl (Nat.le_trans (dictText_mem_le hp) z1))
    obtain ⟨as, q⟩ := Rds.to (.dct e1 e2 e3 ns r1 r2)
    have both : ReadAtMost s.heap (PyData.depthKv ps) (b1 ++ b2) := (hb1.mono (PyData.depthAll_keys_le ps)).append (hb2.mono (PyData.depthAll_vals_le ps))
    have off : a ∉ b1 ++ b2 := not_mem_of_deeper q (by simp only [PyData.depth]; omega) both
    simp only [PyData.depth] at hu
    simp only [PyData.shown, PyData.shownKv_eq] at hQ
    refine call_repr_slot (by omega) ⟨o, e1, e2⟩ F.slot_dict_repr ?_
    exact call_dict_reprK e1 e2 e3 ns off (ReprEntriesK.of_two es.toList _ _ (k1.more_le (fun b z => List.mem_append_left _ z) (PyData.depthAll_keys_le ps)) (k2.more_le (fun b z => List.mem_append_right _ z) (PyData.depthAll_vals_le ps))) (g := []) hg (fun b _ => Clear.nil b) (by show A.units + 1 + _ < cLine; omega) (fun _ _ e => e) (fun h' u tk hk => ⟨_, _, rfl, hQ h' u tk hk⟩) (by rw [← PyData.shownKv_eq]; exact z1)
end
section
variable {X : Cx} {pins : List (Addr × Obj)} {σ : St} {H F : Hp} {s : Shared}
theorem rds_keys {w : World} {P : Program} {h : Heap} : ∀ {es : List DictEntry} {xs : List (Key × Value)} {ks : List (Key × D)} {kvs : List (Key × V)}, Pairs (mixKind P w) es xs → KV kvs xs → RepK X.K F ks kvs → RdsL h (es.map (·.key)) ((pOfK ks).map (·.1))
  | _, _, _, _, .nil, .nil, .nil => .nil
  | _, _, _, _, .cons e1 _ es, .cons r rs, .cons q qs => by
    obtain ⟨rk, _⟩ := r
    refine .cons ?_ (rds_keys es rs qs)
    simp only at rk
    rw [← rk] at e1
    rcases keyIs_shape e1 with ⟨i, t, e, e'⟩ | ⟨x, t, e, e'⟩
    · rw [e]; show Rds h (DictEntry.key _) _; rw [e']; exact .int i t
    · rw [e]; show Rds h (DictEntry.key _) _; rw [e']; exact .str x t
theorem entries_vals {w : World} {P : Program} : ∀ {es : List DictEntry} {xs : List (Key × Value)}, Pairs (mixKind P w) es xs → es.map (·.val) = xs.map (·.2)
  | _, _, .nil => rfl
  | _, _, .cons _ e r => by rw [List.map_cons, List.map_cons, e, entries_vals r]
mutual
theorem Rep.rds (I : Inv X pins σ H s) (ex : Ex F H) : ∀ {d : D} {v : V} {u : Value}, Rep X.K F d v → RelV v u → plain d = true → Rds s.heap u (pOf d)
  | _, _, _, .non, r, _ => by cases r; exact .non
  | _, _, _, .bl b, r, _ => by cases r; exact .bl b
  | _, _, _, .int i, r, _ => by obtain ⟨t, rfl⟩ := r; exact .int i t
  | _, _, _, .str x, r, _ => by obtain ⟨t, rfl⟩ := r; exact .str x t
  | _, _, _, .ty _, _, hp => nomatch hp
  | _, _, _, .ref _, _, hp => nomatch hp
  | _, _, _, .tup h rs, r, hp => by
    cases r
    obtain ⟨its, rv, ⟨o, ho, hc, n, hd⟩, _⟩ := I.tuple (ex.t h)
    exact .tup ho hc hd (RepL.rds I ex rs rv hp)
  | _, _, _, .lst h rs, r, hp => by
    cases r
    obtain ⟨_, its, n, rv, e⟩ := (show ObjOk X.prog X.w H s.heap _ (.lst _) from I.hok _ _ (ex _ _ h))
    exact .lst e rfl rfl (RepL.rds I ex rs rv hp)
  | _, _, _, .dct h rs, r, hp => by
    cases r
    obtain ⟨_, ns, xs, kv, o, es, ep, e1, e2, e3, _, pr, _⟩ := (show ObjOk X.prog X.w H s.heap _ (.dK _) from I.hok _ _ (ex _ _ h))
    refine .dct e1 e2.1 e3 ns (rds_keys pr kv rs) ?_
    rw [entries_vals pr]
    exact RepK.rds I ex rs kv hp
  | _, _, _, .sl _ _, _, hp => nomatch hp
  | _, _, _, .ins _ _, _, hp => nomatch hp
  | _, _, _, .scr _, _, hp => nomatch hp
theorem RepL.rds (I : Inv X pins σ H s) (ex : Ex F H) : ∀ {ds : List D} {vs : List V} {us : List Value}, RepL X.K F ds vs → Vals vs us → plainL ds = true → RdsL s.heap us (pOfL ds)
  | _, _, _, .nil, r, _ => by cases r; exact .nil
  | _, _, _, .cons h rs, .cons r rr, hp => by
    have hq := (Bool.and_eq_true _ _).mp hp
    exact .cons (Rep.rds I ex h r hq.1) (RepL.rds I ex rs rr hq.2)
theorem RepK.rds (I : Inv X pins σ H s) (ex : Ex F H) : ∀ {ds : List (Key × D)} {vs : List (Key × V)} {us : List (Key × Value)}, RepK X.K F ds vs → KV vs us → plainK ds = true → RdsL s.heap (us.map (·.2)) ((pOfK ds).map (·.2))
  | _, _, _, .nil, r, _ => by cases r; exact .nil
  | _, _, _, .cons h rs, .cons r rr, hp => by
    have hq := (Bool.and_eq_true _ _).mp hp
    exact .cons (Rep.rds I ex h r.2 hq.1) (RepK.rds I ex rs rr hq.2)
end
structure Sh (n k : Nat) (d : D) : Prop where
  pl : plain d = true
  sw : (pOf d).showable = true
  lv : (pOf d).leavesShort 64 = true
  dp : (pOf d).depth ≤ n
  wt : (pOf d).weight ≤ k
theorem Sh.mono {n m k l : Nat} {d : D} (h : Sh n k d) (a : n ≤ m) (b : k ≤ l) : Sh m l d := ⟨h.pl, h.sw, h.lv, Nat.le_trans h.dp a, Nat.le_trans h.wt b⟩
theorem Sh.fits {d : D} (h : Sh 60 60000 d) : (pOf d).shown.length ≤ sizeLine := by
  have e := PyData.shown_le 64 (by decide) _ h.lv
  have w := h.wt
  rw [sizeLine_eq]
  omega
abbrev DRC := List D → MH → DQ → Prop
def OpC (K : PySem.W.Frag) (r : DRC) (rv : List V → Hp → VK → Prop) : Prop := ∀ R F H M xs vs Qd Q, HM K R F H M → RepL K F xs vs → r xs M Qd → Cont K R F Qd Q → rv vs H Q
def CallD (R F0 : Hp) (X : Cx) (f : Value) (r : DRC) : Prop := CallR X f fun vs H Q => ∃ F ds M Qd, Ex F0 F ∧ HM X.K R F H M ∧ RepL X.K F ds vs ∧ r ds M Qd ∧ Cont X.K R F Qd Q
def dB1 (r : DRC) (t : DA) : DE := fun ds M Q => t ds M fun xs M1 => r xs M1 Q
def rRepr : DRC := fun xs M Q => match xs with
  | [d] => Sh 60 60000 d ∧ Q (.str (pOf d).shown) M
  | _ => False
theorem call_reprD {R F0 : Hp} (hg : X.A.guards = some []) (hu : X.A.units + 64 < cLine) : CallD R F0 X (.builtin "repr") rRepr := by
  intro pins s σ H xs us Q I r h
  obtain ⟨F, ds, M, Qd, e, m, rp, h, c⟩ := h
  unfold rRepr at h
  split at h
  · rename_i d
    obtain ⟨sh, q⟩ := h
    obtain ⟨v, rfl, rv⟩ := repl_one rp
    obtain ⟨u, rfl, ru⟩ := vals1 r
    refine Rds.call (rv.rds I m.ex ru sh.pl) sh.sw sh.fits hg (by have := sh.dp; omega) fun h' u tk hk => ?_
    exact ⟨.str _, H, I.kept hk, ⟨_, rfl⟩, c _ _ _ _ _ (Ex.refl _) m (.str _) q⟩
  · exact h.elim
end
end Dv
namespace Dv
open PySem PySem.Spec L2
theorem Cont.now {K : PySem.W.Frag} {R F H : Hp} {M : MH} {Qd : DQ} {Q : VK} {d : D} {v : V} (c : Cont K R F Qd Q) (m : HM K R F H M) (r : Rep K F d v) (h : Qd d M) : Q v H := c _ _ _ _ _ (Ex.refl _) m r h
theorem Cont.cold {K : PySem.W.Frag} {R F H : Hp} {M : MH} {Qd : DQ} {Q : VK} {d : D} {p : Addr} {u : HO} (c : Cont K R F Qd Q) (m : HM K R F H M) (n : H p = none) (r : Rep K (upd F p u) d (.ref p)) (h : Qd d M) : Q (.ref p) (upd H p u) := c _ _ _ _ _ (.cold m n) (m.cold n) r h
theorem HM.l {K : PySem.W.Frag} {R F H : Hp} {M : MH} {a : Addr} {vs : List V} (m : HM K R F H M) (h : F a = some (.lst vs)) : SqL K H a vs := .inl (.inl (m.ex _ _ h))
theorem HM.t {K : PySem.W.Frag} {R F H : Hp} {M : MH} {a : Addr} {vs : List V} (m : HM K R F H M) (h : SqT K F a vs) : SqT K H a vs := m.ex.t h
section
variable {X : Cx} {K : PySem.W.Frag}
def rAdd : DR2 := fun x y M Q => match x, y with
  | .int i, .int j => Q (.int (i + j)) M
  | .str a, .str b => a.length + b.length ≤ sizeLine ∧ Q (.str (a ++ b)) M
  | .lst xs, .lst ys => xs.length + ys.length ≤ sizeLine ∧ Q (.lst (xs ++ ys)) M
  | .tup xs, .tup ys => xs ≠ [] ∧ xs.length + ys.length ≤ sizeLine ∧ Q (.tup (xs ++ ys)) M
  | _, _ => False
def vAdd (K : PySem.W.Frag) : R2 := fun x y H Q => ((rI0 (fun i j => .int (i + j)) x y H Q ∨ (∃ i j, x = .str i ∧ y = .str j ∧ i.length + j.length ≤ sizeLine ∧ Q (.str (i ++ j)) H)) ∨ rCat x y H Q) ∨ rCatT K x y H Q
theorem op_addD : OpR X (binaryOp .Add) (vAdd X.K) := OpR.or (OpR.or (OpR.or op_add op_add_str) op_cat) op_catT
theorem o2_add : Op2 K rAdd (vAdd K) := by
  intro R F H M x y vx vy Qd Q m rx ry h c
  unfold rAdd at h
  split at h
  · cases rx; cases ry; exact .inl (.inl (.inl ⟨_, _, rfl, rfl, c.now m (.int _) h⟩))
  · cases rx; cases ry; exact .inl (.inl (.inr ⟨_, _, rfl, rfl, h.1, c.now m (.str _) h.2⟩))
  · cases rx with | lst hx rx => cases ry with | lst hy ry => exact .inl (.inr ⟨_, _, _, _, rfl, rfl, m.ex _ _ hx, m.ex _ _ hy, by rw [← rx.length, ← ry.length]; exact h.1, fun p n => c.cold m n (.lst upd_same ((rx.append ry).mono (.cold m n))) h.2⟩)
  · cases rx with | tup hx rx => cases ry with | tup hy ry =>
      refine .inr ⟨_, _, _, _, rfl, rfl, m.t hx, m.t hy, ?_, by rw [← rx.length, ← ry.length]; exact h.2.1, fun z => ?_, fun z p n => c.cold m n (.tup (.of upd_same) ((rx.append ry).mono (.cold m n))) h.2.2⟩
      · intro z
        subst z
        cases rx
        exact h.1 rfl
      · subst z
        cases ry
        have q := h.2.2
        rw [List.append_nil] at q
        exact c.now m (.tup hx rx) q
  · exact h.elim
def rInt2 (C : Int → Int → Prop) (g : Int → Int → D) : DR2 := fun x y M Q => match x, y with
  | .int i, .int j => C i j ∧ Q (g i j) M
  | _, _ => False
def rInt0 (g : Int → Int → D) : DR2 := fun x y M Q => match x, y with
  | .int i, .int j => Q (g i j) M
  | _, _ => False
theorem o2_int0 {g : Int → Int → D} {gv : Int → Int → V} (e : ∀ F i j, Rep K F (g i j) (gv i j)) : Op2 K (rInt0 g) (rI0 gv) := by
  intro R F H M x y vx vy Qd Q m rx ry h c
  unfold rInt0 at h
  split at h
  · cases rx; cases ry; exact ⟨_, _, rfl, rfl, c.now m (e _ _ _) h⟩
  · exact h.elim
theorem o2_int2 {C : Int → Int → Prop} {g : Int → Int → D} {gv : Int → Int → V} (e : ∀ F i j, Rep K F (g i j) (gv i j)) : Op2 K (rInt2 C g) (rI C gv) := by
  intro R F H M x y vx vy Qd Q m rx ry h c
  unfold rInt2 at h
  split at h
  · cases rx; cases ry; exact ⟨_, _, rfl, rfl, h.1, c.now m (e _ _ _) h.2⟩
  · exact h.elim
def rSub : DR2 := rInt0 fun i j => .int (i - j)
def CMulA (i j : Int) : Prop := CMul i j ∨ CMulX i j
def rMul : DR2 := rInt2 CMulA fun i j => .int (i * j)
theorem op_mulA : OpR X (binaryOp .Mult) (rI CMulA fun i j => .int (i * j)) := by
  intro pins s σ H x y v u Q I rx ry h
  obtain ⟨i, j, e1, e2, hc, q⟩ := h
  rcases hc with hc | hc
  · exact op_mul pins s σ H x y v u Q I rx ry ⟨i, j, e1, e2, hc, q⟩
  · exact op_mulX pins s σ H x y v u Q I rx ry ⟨i, j, e1, e2, hc, q⟩
def rFdv : DR2 := rInt2 CDivW fun i j => .int (i / j)
def rMod : DR2 := rInt2 (fun _ j => 0 < j) fun i j => .int (i % j)
def rPow : DR2 := rInt2 CPow fun i j => .int (i ^ j.toNat)
def rLt : DR2 := rInt0 fun i j => .bl (decide (i < j))
def rLe : DR2 := rInt0 fun i j => .bl (decide (i ≤ j))
def rGt : DR2 := rInt0 fun i j => .bl (decide (j < i))
def rGe : DR2 := rInt0 fun i j => .bl (decide (j ≤ i))
theorem o2_sub : Op2 K rSub (rI0 fun i j => .int (i - j)) := o2_int0 fun _ _ _ => .int _
theorem o2_mul : Op2 K rMul (rI CMulA fun i j => .int (i * j)) := o2_int2 fun _ _ _ => .int _
theorem o2_fdv : Op2 K rFdv (rI CDivW fun i j => .int (i / j)) := o2_int2 fun _ _ _ => .int _
theorem o2_mod : Op2 K rMod (rI (fun _ j => 0 < j) fun i j => .int (i % j)) := o2_int2 fun _ _ _ => .int _
theorem o2_pow : Op2 K rPow (rI CPow fun i j => .int (i ^ j.toNat)) := o2_int2 fun _ _ _ => .int _
theorem o2_lt : Op2 K rLt (rI0 fun i j => .bl (decide (i < j))) := o2_int0 fun _ _ _ => .bl _
theorem o2_le : Op2 K rLe (rI0 fun i j => .bl (decide (i ≤ j))) := o2_int0 fun _ _ _ => .bl _
theorem o2_gt : Op2 K rGt (rI0 fun i j => .bl (decide (j < i))) := o2_int0 fun _ _ _ => .bl _
theorem o2_ge : Op2 K rGe (rI0 fun i j => .bl (decide (j ≤ i))) := o2_int0 fun _ _ _ => .bl _
def rNeg : DR1 := fun x M Q => match x with
  | .int i => Q (.int (-i)) M
  | _ => False
theorem o1_neg : Op1 K rNeg (rU fun i => .int (-i)) := by
  intro R F H M x vx Qd Q m rx h c
  unfold rNeg at h
  split at h
  · cases rx; exact ⟨_, rfl, c.now m (.int _) h⟩
  · exact h.elim
mutual
theorem Rep.dp {F H : Hp} (ex : Ex F H) : ∀ {d : D} {v : V}, Rep K F d v → plain d = true → (pOf d).canLay0 = true → Dp K H v (pOf d)
  | _, _, .non, _, _ => .non
  | _, _, .bl b, _, _ => .bl b
  | _, _, .int i, _, _ => .int i
  | _, _, .str x, _, _ => .str x
  | _, _, .ty _, p, _ => nomatch p
  | _, _, .ref _, p, _ => nomatch p
  | _, _, .tup h r, p, q => .tup (ex.t h) (RepL.dp ex r p (by simpa only [pOf, PyData.canLay0] using q))
  | _, _, .lst h r, p, q => .lst (.inl (.inl (ex _ _ h))) (RepL.dp ex r p (by simpa only [pOf, PyData.canLay0] using q))
  | _, _, .dct h r, p, q => by simp only [pOf, PyData.canLay0] at q; cases q
  | _, _, .sl _ _, p, _ => nomatch p
  | _, _, .ins _ _, p, _ => nomatch p
  | _, _, .scr _, p, _ => nomatch p
theorem RepL.dp {F H : Hp} (ex : Ex F H) : ∀ {ds : List D} {vs : List V}, RepL K F ds vs → plainL ds = true → PyData.canLayAll0 (pOfL ds) = true → DpAll K H vs (pOfL ds)
  | _, _, .nil, _, _ => .nil
  | _, _, .cons (d := d) (ds := ds) h r, p, q => by
    have p2 := (Bool.and_eq_true _ _).mp p
    have q2 : (pOf d).canLay0 = true ∧ PyData.canLayAll0 (pOfL ds) = true := by simpa only [pOfL, PyData.canLayAll0, Bool.and_eq_true] using q
    exact .cons (Rep.dp ex h p2.1 q2.1) (RepL.dp ex r p2.2 q2.2)
end
structure Dt (d : D) : Prop where
  pl : plain d = true
  sh : SeqAt.shaped (pOf d) = true
def eqQ (x y : D) (Q : Bool → Prop) : Prop := match x, y with
  | .int i, .int j => Q (decide (i = j))
  | .bl i, .bl j => Q (decide (i = j))
  | .str i, .str j => Q (decide (i = j))
  | .non, .non => Q true
  | .non, .int _ => Q false
  | .int _, .non => Q false
  | .non, .bl _ => Q false
  | .bl _, .non => Q false
  | .non, .str _ => Q false
  | .str _, .non => Q false
  | .int _, .str _ => Q false
  | .str _, .int _ => Q false
  | .bl _, .str _ => Q false
  | .str _, .bl _ => Q false
  | x, y => Dt x ∧ Dt y ∧ Q (PyData.eqv (pOf x) (pOf y))
def rEq : DR2 := fun x y M Q => eqQ x y fun b => Q (.bl b) M
def rNe : DR2 := fun x y M Q => eqQ x y fun b => Q (.bl (!b)) M
def vEq (K : PySem.W.Frag) : R2 := fun x y H Q => L2.rEq x y H Q ∨ rEqD K x y H Q
def vNe (K : PySem.W.Frag) : R2 := fun x y H Q => L2.rNe x y H Q ∨ rNeD K x y H Q
theorem op_eqA (hu : X.A.units + 64 < cLine) : OpR X (compareOp .Eq) (vEq X.K) := OpR.or op_eq (op_eqD hu)
theorem op_neA (hu : X.A.units + 64 < cLine) : OpR X (compareOp .NotEq) (vNe X.K) := OpR.or op_ne (op_neD hu)
theorem o2_eq : Op2 K rEq (vEq K) := by
  intro R F H M x y vx vy Qd Q m rx ry h c
  unfold rEq eqQ at h
  split at h
  case h_15 =>
    obtain ⟨hx, hy, h⟩ := h
    exact .inr ⟨_, _, rx.dp m.ex hx.pl (SeqAt.canLay_of_shaped hx.sh), ry.dp m.ex hy.pl (SeqAt.canLay_of_shaped hy.sh), hx.sh, hy.sh, c.now m (.bl _) h⟩
  all_goals
    cases rx; cases ry
    refine .inl ⟨rfl, c.now m (.bl _) ?_⟩
    simpa using h
theorem o2_ne : Op2 K rNe (vNe K) := by
  intro R F H M x y vx vy Qd Q m rx ry h c
  unfold rNe eqQ at h
  split at h
  case h_15 =>
    obtain ⟨hx, hy, h⟩ := h
    exact .inr ⟨_, _, rx.dp m.ex hx.pl (SeqAt.canLay_of_shaped hx.sh), ry.dp m.ex hy.pl (SeqAt.canLay_of_shaped hy.sh), hx.sh, hy.sh, c.now m (.bl _) h⟩
  all_goals
    cases rx; cases ry
    refine .inl ⟨rfl, c.now m (.bl _) ?_⟩
    simpa using h
def isNon : D → Bool
  | .non => true
  | _ => false
def rIsN (neg : Bool) : DR2 := fun x y M Q => match y with
  | .non => Q (.bl (if neg then !isNon x else isNon x)) M
  | _ => False
theorem isNon_rep {F : Hp} {d : D} {v : V} (r : Rep K F d v) : decide (v = V.non) = isNon d := by
  cases r <;> simp [isNon]
theorem o2_isN : Op2 K (rIsN false) (fun x y H Q => y = .non ∧ Q (.bl (decide (x = .non))) H) := by
  intro R F H M x y vx vy Qd Q m rx ry h c
  unfold rIsN at h
  split at h
  · cases ry
    refine ⟨rfl, ?_⟩
    rw [isNon_rep rx]
    exact c.now m (.bl _) h
  · exact h.elim
theorem o2_notN : Op2 K (rIsN true) (fun x y H Q => y = .non ∧ Q (.bl (!decide (x = .non))) H) := by
  intro R F H M x y vx vy Qd Q m rx ry h c
  unfold rIsN at h
  split at h
  · cases ry
    refine ⟨rfl, ?_⟩
    rw [isNon_rep rx]
    exact c.now m (.bl _) h
  · exact h.elim
def flatD : D → Bool
  | .non | .bl _ | .int _ | .str _ => true
  | _ => false
def eqD : D → D → Bool
  | .non, .non => true
  | .bl a, .bl b => a == b
  | .bl a, .int b => (if a then 1 else 0) == b
  | .int a, .bl b => a == (if b then 1 else 0)
  | .int a, .int b => a == b
  | .str a, .str b => a == b
  | _, _ => false
theorem flatD_rep {F : Hp} {d : D} {v : V} (r : Rep K F d v) (f : flatD d = true) : flatV v = true := by
  cases r <;> first | rfl | (cases f; done)
theorem eqD_rep {F : Hp} {d e : D} {v w : V} (r : Rep K F d v) (q : Rep K F e w) (f : flatD d = true) (g : flatD e = true) : eqV v w = eqD d e := by
  cases r <;> first | (cases f; done) | (cases q <;> first | rfl | (cases g; done))
theorem flatL_rep {F : Hp} : ∀ {ds : List D} {vs : List V}, RepL K F ds vs → ds.all flatD = true → vs.all flatV = true
  | _, _, .nil, _ => rfl
  | _, _, .cons r rs, f => by
    rw [List.all_cons, Bool.and_eq_true] at f ⊢
    exact ⟨flatD_rep r f.1, flatL_rep rs f.2⟩
theorem inD_rep {F : Hp} {e : D} {w : V} (q : Rep K F e w) (g : flatD e = true) : ∀ {ds : List D} {vs : List V}, RepL K F ds vs → ds.all flatD = true → inV w vs = ds.any fun d => eqD d e
  | _, _, .nil, _ => rfl
  | _, _, .cons r rs, f => by
    rw [List.all_cons, Bool.and_eq_true] at f
    have h := inD_rep q g rs f.2
    unfold inV at h ⊢
    rw [List.any_cons, List.any_cons, h, eqD_rep r q f.1 g]
def inQ (x y : D) (Q : Bool → Prop) : Prop := match y with
  | .lst ys => flatD x = true ∧ ys.all flatD = true ∧ Q (ys.any fun d => eqD d x)
  | .tup ys => flatD x = true ∧ ys.all flatD = true ∧ Q (ys.any fun d => eqD d x)
  | .str z => ∃ c : Nat, x = .str ⟨#[c]⟩ ∧ Q (decide (c ∈ z.cps.toList))
  | _ => False
def rInD (neg : Bool) : DR2 := fun x y M Q => inQ x y fun b => Q (.bl (if neg then !b else b)) M
def vIn (K : PySem.W.Frag) : R2 := fun x y H Q => rIn K false x y H Q ∨ (∃ (c : Nat) (z : Str), x = .str ⟨#[c]⟩ ∧ y = .str z ∧ Q (.bl (decide (c ∈ z.cps.toList))) H)
theorem op_inA : OpR X (compareOp .In) (vIn X.K) := OpR.or op_in_seq op_in_sign
theorem o2_in : Op2 K (rInD false) (vIn K) := by
  intro R F H M x y vx vy Qd Q m rx ry h c
  unfold rInD inQ at h
  split at h
  · cases ry with | lst hy ry =>
      refine .inl ⟨_, _, rfl, .inl (m.l hy), flatD_rep rx h.1, flatL_rep ry h.2.1, ?_⟩
      rw [inD_rep rx h.1 ry h.2.1]
      exact c.now m (.bl _) h.2.2
  · cases ry with | tup hy ry =>
      refine .inl ⟨_, _, rfl, .inr (m.t hy), flatD_rep rx h.1, flatL_rep ry h.2.1, ?_⟩
      rw [inD_rep rx h.1 ry h.2.1]
      exact c.now m (.bl _) h.2.2
  · cases ry
    obtain ⟨k, rfl, h⟩ := h
    cases rx
    exact .inr ⟨_, _, rfl, rfl, c.now m (.bl _) h⟩
  · exact h.elim
def rNotIn : DR2 := fun x y M Q => match y with
  | .lst ys => flatD x = true ∧ ys.all flatD = true ∧ Q (.bl (!ys.any fun d => eqD d x)) M
  | .tup ys => flatD x = true ∧ ys.all flatD = true ∧ Q (.bl (!ys.any fun d => eqD d x)) M
  | .str z => ∃ c : Nat, x = .str ⟨#[c]⟩ ∧ Q (.bl (!decide (c ∈ z.cps.toList))) M
  | _ => False
def vNotIn (K : PySem.W.Frag) : R2 := fun x y H Q => rIn K true x y H Q ∨ (∃ (c : Nat) (z : Str), x = .str ⟨#[c]⟩ ∧ y = .str z ∧ Q (.bl (!decide (c ∈ z.cps.toList))) H)
theorem op_notInA : OpR X (compareOp .NotIn) (vNotIn X.K) := OpR.or op_notIn_seq op_notIn_sign
theorem o2_notIn : Op2 K rNotIn (vNotIn K) := by
  intro R F H M x y vx vy Qd Q m rx ry h c
  unfold rNotIn at h
  split at h
  · cases ry with | lst hy ry =>
      refine .inl ⟨_, _, rfl, .inl (m.l hy), flatD_rep rx h.1, flatL_rep ry h.2.1, ?_⟩
      rw [inD_rep rx h.1 ry h.2.1]
      exact c.now m (.bl _) h.2.2
  · cases ry with | tup hy ry =>
      refine .inl ⟨_, _, rfl, .inr (m.t hy), flatD_rep rx h.1, flatL_rep ry h.2.1, ?_⟩
      rw [inD_rep rx h.1 ry h.2.1]
      exact c.now m (.bl _) h.2.2
  · cases ry
    obtain ⟨k, rfl, h⟩ := h
    cases rx
    exact .inr ⟨_, _, rfl, rfl, c.now m (.bl _) h⟩
  · exact h.elim
def ixQ (x : D) (i : Int) (M : MH) (Q : DQ) : Prop := match x with
  | .lst xs => ∃ d, atI xs i = some d ∧ Q d M
  | .tup xs => ∃ d, atI xs i = some d ∧ Q d M
  | .str z => ∃ c, atI z.cps.toList i = some c ∧ z.length ≤ sizeLine ∧ Q (.str ⟨#[c]⟩) M
  | .ref p => ∃ xs d, M p = some (.lst xs) ∧ atI xs i = some d ∧ Q d M
  | .scr ns => ∃ n, atI ns i = some n ∧ Q (.int n) M
  | _ => False
def rIxD : DR2 := fun x y M Q => match y with
  | .int i => ixQ x i M Q
  | _ => False
theorem atI_rep {F : Hp} {ds : List D} {vs : List V} {i : Int} {d : D} (r : RepL K F ds vs) (h : atI ds i = some d) : ∃ v, atI vs i = some v ∧ Rep K F d v := by
  unfold atI at h ⊢
  rw [← r.length]
  cases e : ixN ds.length i with
  | none => rw [e] at h; cases h
  | some j =>
    rw [e] at h
    exact r.get h
theorem HM.look {R F H : Hp} {M : MH} {p : Addr} {xs : List D} (m : HM K R F H M) (h : M p = some (.lst xs)) : ∃ vs, H p = some (.lst vs) ∧ RepL K F xs vs := m.ob p _ h
theorem o2_ix : Op2 K rIxD (rIx K) := by
  intro R F H M x y vx vy Qd Q m rx ry h c
  unfold rIxD at h
  split at h
  · cases ry
    unfold ixQ at h
    split at h
    · cases rx with | lst hx rx =>
        obtain ⟨d, e, q⟩ := h
        obtain ⟨v, e2, r⟩ := atI_rep rx e
        exact .inl ⟨_, _, _, _, rfl, rfl, m.l hx, e2, c.now m r q⟩
    · cases rx with | tup hx rx =>
        obtain ⟨d, e, q⟩ := h
        obtain ⟨v, e2, r⟩ := atI_rep rx e
        exact .inr (.inl ⟨_, _, _, _, rfl, rfl, m.t hx, e2, c.now m r q⟩)
    · cases rx
      obtain ⟨k, e, z, q⟩ := h
      exact .inr (.inr ⟨_, _, _, rfl, rfl, z, e, c.now m (.str _) q⟩)
    · cases rx
      obtain ⟨xs, d, e0, e, q⟩ := h
      obtain ⟨vs, hv, rl⟩ := m.look e0
      obtain ⟨v, e2, r⟩ := atI_rep rl e
      exact .inl ⟨_, _, _, _, rfl, rfl, .inl (.inl hv), e2, c.now m r q⟩
    · cases rx with | scr hx =>
        obtain ⟨n, e, q⟩ := h
        refine .inl ⟨_, _, _, _, rfl, rfl, m.ex.l hx, ?_, c.now m (.int n) q⟩
        unfold atI at e ⊢
        rw [List.length_map]
        cases ej : ixN _ _ with
        | none => rw [ej] at e; cases e
        | some j =>
          rw [ej] at e
          show (List.map V.int _)[j]? = _
          rw [List.getElem?_map]
          rw [show _[j]? = some n from e]
          rfl
    · exact h.elim
  · exact h.elim
def cutD (xs : List D) (lo hi : Option Int) : List D := (xs.drop (HT.sIx xs.length 0 lo)).take (HT.sIx xs.length xs.length hi - HT.sIx xs.length 0 lo)
def sSet : DSet := fun o i x M Q => match o, i with
  | .ref p, .int k => ∃ xs j, M p = some (.lst xs) ∧ ixN xs.length k = some j ∧ Q (mup M p (.lst (xs.set j x)))
  | _, _ => False
theorem s3_set : Set3 K sSet rSetL := by
  intro R F H M o i x vo vi vx Qd Q m ro ri rx h c
  unfold sSet at h
  split at h
  · cases ro; cases ri
    obtain ⟨xs, j, e, ei, q⟩ := h
    obtain ⟨vs, hv, rl⟩ := m.look e
    refine ⟨_, _, _, j, rfl, rfl, hv, by rw [← rl.length]; exact ei, ?_⟩
    exact c _ _ _ (Ex.refl _) (m.put (o := .lst (xs.set j x)) e ⟨_, upd_same, rl.set rx j⟩) q
  · exact h.elim
end
end Dv
namespace Dv
open PySem PySem.Spec L2
section
variable {X : Cx} {R F0 : Hp} {K : PySem.W.Frag} {e : Expr} {es : List Expr} {t : DA} {r : DRC} {x : Str} {p pos : Pos} {id T : String}
theorem CallD.of {f : Value} {rv : List V → Hp → VK → Prop} (hc : CallR X f rv) (o : OpC X.K r rv) : CallD R F0 X f r := by
  intro pins s σ H xs us Q I rl h
  obtain ⟨F, ds, M, Qd, e, m, rp, h, c⟩ := h
  exact hc pins s σ H xs us Q I rl (o R F H M ds xs Qd Q m rp h c)
theorem callD_up : ∀ σ H Q, up X.K R F0 (dB1 r t) σ H Q → tCB (fun vs H Q => ∃ F ds M Qd, Ex F0 F ∧ HM X.K R F H M ∧ RepL X.K F ds vs ∧ r ds M Qd ∧ Cont X.K R F Qd Q) (upA X.K R F0 t) σ H Q := by
  rintro σ H Q ⟨F, ds, M, Qd, a, h, c⟩
  exact ⟨F, ds, M, _, a, h, fun F1 H1 M1 xs vs e1 m1 r1 q1 => ⟨F1, xs, M1, Qd, a.ex.trans e1, m1, r1, q1, c.mono e1⟩⟩
theorem pd_callB (hc : CallD R F0 X (.builtin id) r) (hg : Gl X x) (hm : X.mg x = none) (hv : bootBuiltins x = some (.builtin id)) (ha : PDA R F0 X (e :: es) t) (hn : x ≠ "__name__" := by decide) (hdb : (x == ("__debug__" : Str)) = false := by decide)
    (he : starEach (e :: es) X.env = (false, eval e X.env) :: starEach es X.env := by rfl) (hpl : (backTo pos (starEach es X.env)).any (·.1) = false := by rfl) : PDE R F0 X (.Call (.Name x p) (e :: es) [] pos) (dB1 r t) :=
  PE.imp (pe_callB hc hg hm hv ha hn hdb he hpl) callD_up
theorem pd_callTy (hc : CallD R F0 X (.type T) r) (hg : Gl X x) (hm : X.mg x = none) (hv : bootBuiltins x = some (.type T)) (ha : PDA R F0 X (e :: es) t) (hn : x ≠ "__name__" := by decide) (hdb : (x == ("__debug__" : Str)) = false := by decide)
    (he : starEach (e :: es) X.env = (false, eval e X.env) :: starEach es X.env := by rfl) (hpl : (backTo pos (starEach es X.env)).any (·.1) = false := by rfl) : PDE R F0 X (.Call (.Name x p) (e :: es) [] pos) (dB1 r t) :=
  PE.imp (pe_callTy hc hg hm hv ha hn hdb he hpl) callD_up
def rLen : DRC := fun xs M Q => match xs with
  | [.lst ys] => Q (.int ys.length) M
  | [.tup ys] => Q (.int ys.length) M
  | [.str z] => z.length ≤ sizeLine ∧ Q (.int z.length) M
  | [.ref p] => ∃ ys, M p = some (.lst ys) ∧ Q (.int ys.length) M
  | [.scr ns] => Q (.int ns.length) M
  | _ => False
def vLen (K : PySem.W.Frag) : List V → Hp → VK → Prop := fun xs H Q => (∃ p ys, xs = [.ref p] ∧ (SqL K H p ys ∨ SqT K H p ys) ∧ Q (.int ys.length) H) ∨ (∃ z, xs = [.str z] ∧ z.length ≤ sizeLine ∧ Q (.int z.length) H)
theorem CallR.or {f : Value} {r r' : List V → Hp → VK → Prop} (h : CallR X f r) (h' : CallR X f r') : CallR X f (fun xs H Q => r xs H Q ∨ r' xs H Q) := fun pins s σ H xs us Q I rl q => q.elim (h pins s σ H xs us Q I rl) (h' pins s σ H xs us Q I rl)
theorem call_lenD : CallD R F0 X (.builtin "len") rLen := by
  refine CallD.of (CallR.or call_len_seq call_len_str) ?_
  intro R F H M xs vs Qd Q m rp h c
  unfold rLen at h
  split at h
  · obtain ⟨v, rfl, r⟩ := repl_one rp
    cases r with | lst hx rx => exact .inl ⟨_, _, rfl, .inl (m.l hx), by rw [← rx.length]; exact c.now m (.int _) h⟩
  · obtain ⟨v, rfl, r⟩ := repl_one rp
    cases r with | tup hx rx => exact .inl ⟨_, _, rfl, .inr (m.t hx), by rw [← rx.length]; exact c.now m (.int _) h⟩
  · obtain ⟨v, rfl, r⟩ := repl_one rp
    cases r
    exact .inr ⟨_, rfl, h.1, c.now m (.int _) h.2⟩
  · obtain ⟨v, rfl, r⟩ := repl_one rp
    cases r
    obtain ⟨ys, e, q⟩ := h
    obtain ⟨ws, hw, rl⟩ := m.look e
    exact .inl ⟨_, _, rfl, .inl (.inl (.inl hw)), by rw [← rl.length]; exact c.now m (.int _) q⟩
  · obtain ⟨v, rfl, r⟩ := repl_one rp
    cases r with | scr hx => exact .inl ⟨_, _, rfl, .inl (m.ex.l hx), by rw [List.length_map]; exact c.now m (.int _) h⟩
  · exact h.elim
def rInt : DRC := fun xs M Q => match xs with
  | [.int i] => Q (.int i) M
  | [.bl k] => Q (.int (if k then 1 else 0)) M
  | _ => False
theorem call_intD : CallD R F0 X (.type "int") rInt := by
  refine CallD.of call_int1 ?_
  intro R F H M xs vs Qd Q m rp h c
  unfold rInt at h
  split at h
  · obtain ⟨v, rfl, r⟩ := repl_one rp; cases r; exact .inl ⟨_, rfl, c.now m (.int _) h⟩
  · obtain ⟨v, rfl, r⟩ := repl_one rp; cases r; exact .inr ⟨_, rfl, c.now m (.int _) h⟩
  · exact h.elim
def rStr : DRC := fun xs M Q => match xs with
  | [.int i] => i.natAbs.log2 < 1920 ∧ Q (.str (toString i)) M
  | [.str a] => Q (.str a) M
  | _ => False
theorem call_strD : CallD R F0 X (.type "str") rStr := by
  refine CallD.of (CallR.or call_str_int SkE.call_str_str) ?_
  intro R F H M xs vs Qd Q m rp h c
  unfold rStr at h
  split at h
  · obtain ⟨v, rfl, r⟩ := repl_one rp; cases r; exact .inl ⟨_, rfl, h.1, c.now m (.str _) h.2⟩
  · obtain ⟨v, rfl, r⟩ := repl_one rp; cases r; exact .inr ⟨_, rfl, c.now m (.str _) h⟩
  · exact h.elim
def rAbs : DRC := fun xs M Q => match xs with
  | [.int i] => Q (.int (if i < 0 then -i else i)) M
  | _ => False
theorem call_absD : CallD R F0 X (.builtin "abs") rAbs := by
  refine CallD.of call_abs ?_
  intro R F H M xs vs Qd Q m rp h c
  unfold rAbs at h
  split at h
  · obtain ⟨v, rfl, r⟩ := repl_one rp; cases r; exact ⟨_, rfl, c.now m (.int _) h⟩
  · exact h.elim
def rMax : DRC := fun xs M Q => match xs with
  | [.int i, .int j] => Q (.int (if j > i then j else i)) M
  | _ => False
def rMin : DRC := fun xs M Q => match xs with
  | [.int i, .int j] => Q (.int (if j < i then j else i)) M
  | _ => False
theorem call_maxD (hc : X.calm = true) : CallD R F0 X (.builtin "max") rMax := by
  refine CallD.of (call_max2 hc) ?_
  intro R F H M xs vs Qd Q m rp h c
  unfold rMax at h
  split at h
  · obtain ⟨v, w, rfl, r1, r2⟩ := repl_two rp; cases r1; cases r2; exact ⟨_, _, rfl, c.now m (.int _) h⟩
  · exact h.elim
theorem call_minD (hc : X.calm = true) : CallD R F0 X (.builtin "min") rMin := by
  refine CallD.of (call_min2 hc) ?_
  intro R F H M xs vs Qd Q m rp h c
  unfold rMin at h
  split at h
  · obtain ⟨v, w, rfl, r1, r2⟩ := repl_two rp; cases r1; cases r2; exact ⟨_, _, rfl, c.now m (.int _) h⟩
  · exact h.elim
def rDivmod : DRC := fun xs M Q => match xs with
  | [.int i, .int j] => CDivP i j ∧ Q (.tup [.int (i / j), .int (i % j)]) M
  | _ => False
theorem call_divmodD : CallD R F0 X (.builtin "divmod") rDivmod := by
  refine CallD.of call_divmodW ?_
  intro R F H M xs vs Qd Q m rp h c
  unfold rDivmod at h
  split at h
  · obtain ⟨v, w, rfl, r1, r2⟩ := repl_two rp; cases r1; cases r2
    exact ⟨_, _, rfl, h.1, fun p n => c.cold m n (.tup (.of upd_same) (.cons (.int _) (.cons (.int _) .nil))) h.2⟩
  · exact h.elim
theorem bls_rep {F : Hp} : ∀ {bs : List Bool} {vs : List V}, RepL K F (bs.map .bl) vs → vs = bs.map V.bl
  | [], _, .nil => rfl
  | b :: bs, _, .cons r rs => by cases r; rw [bls_rep rs]; rfl
theorem ints_rep {F : Hp} : ∀ {bs : List Int} {vs : List V}, RepL K F (bs.map .int) vs → vs = bs.map V.int
  | [], _, .nil => rfl
  | b :: bs, _, .cons r rs => by cases r; rw [ints_rep rs]; rfl
theorem strs_rep {F : Hp} : ∀ {bs : List Str} {vs : List V}, RepL K F (bs.map .str) vs → vs = bs.map V.str
  | [], _, .nil => rfl
  | b :: bs, _, .cons r rs => by cases r; rw [strs_rep rs]; rfl
def rAll : DRC := fun xs M Q => ∃ bs : List Bool, xs = [.lst (bs.map .bl)] ∧ Q (.bl (bs.all fun b => b)) M
def rAny : DRC := fun xs M Q => ∃ bs : List Bool, xs = [.lst (bs.map .bl)] ∧ Q (.bl (bs.any fun b => b)) M
def rSum : DRC := fun xs M Q => ∃ ns : List Int, xs = [.lst (ns.map .int)] ∧ Q (.int ns.sum) M
theorem call_allD (hc : X.calm = true) : CallD R F0 X (.builtin "all") rAll := by
  refine CallD.of (cr_all hc) ?_
  rintro R F H M xs vs Qd Q m rp ⟨bs, rfl, h⟩ c
  obtain ⟨v, rfl, r⟩ := repl_one rp
  cases r with | lst hx rx => exact ⟨_, bs, rfl, (bls_rep rx) ▸ m.l hx, c.now m (.bl _) h⟩
theorem call_anyD (hc : X.calm = true) : CallD R F0 X (.builtin "any") rAny := by
  refine CallD.of (cr_any hc) ?_
  rintro R F H M xs vs Qd Q m rp ⟨bs, rfl, h⟩ c
  obtain ⟨v, rfl, r⟩ := repl_one rp
  cases r with | lst hx rx => exact ⟨_, bs, rfl, (bls_rep rx) ▸ m.l hx, c.now m (.bl _) h⟩
theorem call_sumD (hc : X.calm = true) : CallD R F0 X (.builtin "sum") rSum := by
  refine CallD.of (cr_sum hc) ?_
  rintro R F H M xs vs Qd Q m rp ⟨bs, rfl, h⟩ c
  obtain ⟨v, rfl, r⟩ := repl_one rp
  cases r with | lst hx rx => exact ⟨_, bs, rfl, (ints_rep rx) ▸ m.l hx, c.now m (.int _) h⟩
def rTupOf : DRC := fun xs M Q => match xs with
  | [.lst ys] => Q (.tup ys) M
  | [.tup ys] => Q (.tup ys) M
  | [.ref p] => ∃ ys, M p = some (.lst ys) ∧ Q (.tup ys) M
  | _ => False
theorem call_tupleD : CallD R F0 X (.type "tuple") rTupOf := by
  refine CallD.of call_tuple_of ?_
  intro R F H M xs vs Qd Q m rp h c
  unfold rTupOf at h
  split at h
  · obtain ⟨v, rfl, r⟩ := repl_one rp
    cases r with | lst hx rx => exact ⟨_, _, rfl, .inl ⟨m.l hx, fun p n => c.cold m n (.tup (.of upd_same) (rx.mono (.cold m n))) h⟩⟩
  · obtain ⟨v, rfl, r⟩ := repl_one rp
    cases r with | tup hx rx => exact ⟨_, _, rfl, .inr ⟨m.t hx, c.now m (.tup hx rx) h⟩⟩
  · obtain ⟨v, rfl, r⟩ := repl_one rp
    cases r
    obtain ⟨ys, e, q⟩ := h
    obtain ⟨ws, hw, rl⟩ := m.look e
    exact ⟨_, _, rfl, .inl ⟨.inl (.inl hw), fun p n => c.cold m n (.tup (.of upd_same) (rl.mono (.cold m n))) q⟩⟩
  · exact h.elim
def rLstOf : DRC := fun xs M Q => match xs with
  | [.lst ys] => Q (.lst ys) M
  | [.tup ys] => Q (.lst ys) M
  | _ => False
theorem call_listD : CallD R F0 X (.type "list") rLstOf := by
  refine CallD.of call_list_of ?_
  intro R F H M xs vs Qd Q m rp h c
  unfold rLstOf at h
  split at h
  · obtain ⟨v, rfl, r⟩ := repl_one rp
    cases r with | lst hx rx => exact ⟨_, _, rfl, .inl (m.l hx), fun p n => c.cold m n (.lst upd_same (rx.mono (.cold m n))) h⟩
  · obtain ⟨v, rfl, r⟩ := repl_one rp
    cases r with | tup hx rx => exact ⟨_, _, rfl, .inr (m.t hx), fun p n => c.cold m n (.lst upd_same (rx.mono (.cold m n))) h⟩
  · exact h.elim
def tyD : D → Option String
  | .non => some "NoneType"
  | .bl _ => some "bool"
  | .int _ => some "int"
  | .str _ => some "str"
  | .tup _ => some "tuple"
  | .lst _ => some "list"
  | .dct _ => some "dict"
  | _ => none
theorem tyD_rep {F H : Hp} {M : MH} (m : HM K R F H M) {d : D} {v : V} {n : String} (r : Rep K F d v) (e : tyD d = some n) : TyX K H v (.type n) := by
  cases r with
  | non => cases e; exact .base .non
  | bl b => cases e; exact .base (.bl b)
  | int i => cases e; exact .base (.int i)
  | str x => cases e; exact .base (.str x)
  | ty n => cases e
  | ref a => cases e
  | tup h r =>
    cases e
    rcases m.t h with (h | ⟨o, h⟩) | ⟨o, its, n, hk, hc, _⟩
    · exact .base (.tup h)
    · exact .fTuple h
    · exact .kTuple hk hc
  | lst h r => cases e; exact .base (.lst (m.ex _ _ h))
  | dct h r => cases e; exact .base (.dK (m.ex _ _ h))
  | sl h r => cases e
  | ins h r => cases e
  | scr h => cases e
def isQ (n : String) (x : D) (Q : Bool → Prop) : Prop := match x with
  | .non => ∃ b, kitB "NoneType" n = some b ∧ Q b
  | .bl _ => ∃ b, kitB "bool" n = some b ∧ Q b
  | .int _ => ∃ b, kitB "int" n = some b ∧ Q b
  | .str _ => ∃ b, kitB "str" n = some b ∧ Q b
  | .tup _ => ∃ b, kitB "tuple" n = some b ∧ Q b
  | .lst _ => ∃ b, kitB "list" n = some b ∧ Q b
  | .dct _ => ∃ b, kitB "dict" n = some b ∧ Q b
  | _ => False
def rIsi : DRC := fun xs M Q => match xs with
  | [x, .ty n] => isQ n x fun b => Q (.bl b) M
  | _ => False
theorem isQ_ty {n : String} {x : D} {Q : Bool → Prop} (h : isQ n x Q) : ∃ t b, tyD x = some t ∧ kitB t n = some b ∧ Q b := by
  unfold isQ at h
  split at h
  all_goals first | (obtain ⟨b, e, q⟩ := h; exact ⟨_, b, rfl, e, q⟩) | exact h.elim
theorem call_isiD : CallD R F0 X (.builtin "isinstance") rIsi := by
  refine CallD.of call_isi ?_
  intro R F H M xs vs Qd Q m rp h c
  unfold rIsi at h
  split at h
  · obtain ⟨v, w, rfl, r1, r2⟩ := repl_two rp
    cases r2
    obtain ⟨t, b, e1, e2, q⟩ := isQ_ty h
    exact ⟨_, _, _, _, b, rfl, .ty _, tyD_rep m r1 e1, kit_ty e2, c.now m (.bl _) q⟩
  · exact h.elim
abbrev DRM := D → List D → MH → DQ → Prop
def OpM (K : PySem.W.Frag) (r : DRM) (rv : V → List V → Hp → VK → Prop) : Prop := ∀ R F H M x xs vx vs Qd Q, HM K R F H M → Rep K F x vx → RepL K F xs vs → r x xs M Qd → Cont K R F Qd Q → rv vx vs H Q
def dM0 (r : DRM) (to : DE) : DE := fun ds M Q => to ds M fun x M1 => (∃ a, x = .str a) ∧ r x [] M1 Q
def dM1 (r : DRM) (to te : DE) : DE := fun ds M Q => to ds M fun x M1 => (∃ a, x = .str a) ∧ te ds M1 fun y M2 => r x [y] M2 Q
variable {name : Str} {apos : Pos} {o : Expr} {to te : DE} {rm : DRM} {rv : V → List V → Hp → VK → Prop}
theorem pd_m0 (slot : Slot "str" name id) (ty : typeOf (.builtin id) = pure (.type "method_descriptor")) (rule : MtR X id rv) (ok : OpM X.K rm rv) (ho : PDE R F0 X o to)
    (hbase : attributeBase o name X.env (eval o X.env) = eval o X.env := by rfl) (hline : (apos.endLine == pos.line) = true := by rfl) : PDE R F0 X (.Call (.Attribute o name apos) [] [] pos) (dM0 rm to) := by
  refine PE.imp (pe_m0 slot ty rule ho hbase hline) ?_
  rintro σ H Q ⟨F, ds, M, Qd, a, h, c⟩
  refine ⟨F, ds, M, _, a, h, fun F1 H1 M1 x vx e1 m1 r1 q1 => ?_⟩
  obtain ⟨⟨z, rfl⟩, q1⟩ := q1
  cases r1
  exact ⟨⟨_, rfl⟩, ok R F1 H1 M1 _ _ _ _ _ _ m1 (.str _) .nil q1 (c.mono e1)⟩
theorem pd_m1 (slot : Slot "str" name id) (ty : typeOf (.builtin id) = pure (.type "method_descriptor")) (rule : MtR X id rv) (ok : OpM X.K rm rv) (ho : PDE R F0 X o to) (he : PDE R F0 X e te)
    (hs : starEach [e] X.env = [(false, eval e X.env)] := by rfl) (hbase : attributeBase o name X.env (eval o X.env) = eval o X.env := by rfl) (hline : (apos.endLine == pos.line) = true := by rfl) : PDE R F0 X (.Call (.Attribute o name apos) [e] [] pos) (dM1 rm to te) := by
  refine PE.imp (pe_m1 slot ty rule ho he hs hbase hline) ?_
  rintro σ H Q ⟨F, ds, M, Qd, a, h, c⟩
  refine ⟨F, ds, M, _, a, h, fun F1 H1 M1 x vx e1 m1 r1 q1 => ?_⟩
  obtain ⟨⟨z, rfl⟩, q1⟩ := q1
  cases r1
  refine ⟨⟨_, rfl⟩, F1, ds, M1, _, a.go e1 m1, q1, fun F2 H2 M2 y vy e2 m2 r2 q2 => ?_⟩
  exact ok R F2 H2 M2 _ _ _ _ _ _ m2 (.str _) (.cons r2 .nil) q2 (c.mono (e1.trans e2))
def rJoin : DRM := fun x xs M Q => ∃ a, x = .str a ∧ ∃ ys : List Str, ((xs = [.lst (ys.map .str)] ∨ xs = [.tup (ys.map .str)]) ∨ ∃ p, xs = [.ref p] ∧ M p = some (.lst (ys.map .str))) ∧ (ys.map (·.length)).sum + ys.length * a.length ≤ 16777216 ∧ Q (.str (Txt.join a ys)) M
def rFind : DRM := fun x xs M Q => match x, xs with
  | .str a, [.str b] => Q (.int (Txt.find a b)) M
  | _, _ => False
theorem om_join : OpM K rJoin (fun x xs H Q => ∃ a p, ∃ ys : List Str, x = .str a ∧ xs = [.ref p] ∧ (SqL K H p (ys.map V.str) ∨ SqT K H p (ys.map V.str)) ∧ (ys.map (·.length)).sum + ys.length * a.length ≤ 16777216 ∧ Q (.str (Txt.join a ys)) H) := by
  rintro R F H M x xs vx vs Qd Q m rx rp ⟨a, rfl, ys, hx, hz, h⟩ c
  cases rx
  rcases hx with (rfl | rfl) | ⟨p, rfl, hp⟩
  · obtain ⟨v, rfl, r⟩ := repl_one rp
    cases r with | lst hx r => exact ⟨_, _, ys, rfl, rfl, .inl (strs_rep r ▸ m.l hx), hz, c.now m (.str _) h⟩
  · obtain ⟨v, rfl, r⟩ := repl_one rp
    cases r with | tup hx r => exact ⟨_, _, ys, rfl, rfl, .inr (strs_rep r ▸ m.t hx), hz, c.now m (.str _) h⟩
  · obtain ⟨v, rfl, r⟩ := repl_one rp
    cases r
    obtain ⟨vs, hv, rl⟩ := m.look hp
    exact ⟨_, _, ys, rfl, rfl, .inl (strs_rep rl ▸ .inl (.inl hv)), hz, c.now m (.str _) h⟩
theorem om_find : OpM K rFind (fun x xs H Q => ∃ a b, x = .str a ∧ xs = [.str b] ∧ Q (.int (Txt.find a b)) H) := by
  intro R F H M x xs vx vs Qd Q m rx rp h c
  unfold rFind at h
  split at h
  · cases rx
    obtain ⟨v, rfl, r⟩ := repl_one rp
    cases r
    exact ⟨_, _, rfl, rfl, c.now m (.int _) h⟩
  · exact h.elim
end
end Dv
namespace PySem
namespace ErD
open PySem.W PySem.Calls PyProof.Rows PySem.HandSPX
open Builtin Builtin.ObjectAttr
structure Bse (bm : List Value) (nid : String) : Prop where
  pass : ∀ self, refuseLoop self "__setattr__" bm = pure ()
  obj : bm.contains (.type "object") = true
  call : ∃ B iid bB, ExcBaseFacts B nid iid bB ∧ ∀ Y : String, bm.contains (.type Y) = bB.contains (.type Y)
theorem Bse.own {bm : List Value} {nid : String} {C : Addr} (h : Bse bm nid) : Bse (.ref C :: bm) nid :=
  ⟨fun self => by rw [refuseLoop_ref]; exact h.pass self, by rw [List.contains_cons, h.obj, Bool.or_true], let ⟨B, i, b, F, e⟩ := h.call; ⟨B, i, b, F, fun Y => by rw [List.contains_cons, e Y]; rfl⟩⟩
theorem Bse.ve : Bse [.type "ValueError", .type "Exception", .type "BaseException", .type "object"] "ValueError.__new__" :=
  ⟨fun self => F.store_ValueError.passes self, by decide +kernel, _, _, _, F.excBase_ValueError, fun Y => rfl⟩
theorem Bse.le : Bse [.type "LookupError", .type "Exception", .type "BaseException", .type "object"] "LookupError.__new__" :=
  ⟨fun self => F.store_LookupError.passes self, by decide +kernel, _, _, _, F.excBase_LookupError, fun Y => rfl⟩
theorem Bse.ae : Bse [.type "ArithmeticError", .type "Exception", .type "BaseException", .type "object"] "ArithmeticError.__new__" :=
  ⟨fun self => F.store_ArithmeticError.passes self, by decide +kernel, _, _, _, F.excBase_ArithmeticError, fun Y => rfl⟩
section
variable {prog : Program} {w : World} {A : Around} {R : Result → Shared → Prop} {g : Array GenState} {dr : Drawn} {tk0 : Nat} {os : OsState} {hp : Heap}
theorem set_new {K : W.Frag} {name nid : Str} {nd : String} {tk : Tok} {v : Value} {x C : Addr} {fv : Array Value} {cl : ClassData}
    (Y : K.In hp) (gx : hp.get? x = some { cls := .ref C, data := .fields fv }) (gc : W.clsIn K C = some cl) (hb : Bse cl.mro nd) (dict : cl.hasDict = true) (no : W.findIn K (.ref C) name = some none)
    (hq : ∀ h' tk' dx, (∀ b o, b ≠ x → hp.get? b = some o → h'.get? b = some o) → hp.objs.size ≤ dx → dx ≠ x → h'.get? x = some { cls := .ref C, dict := some dx, data := .fields fv } → h'.Ns1 dx (fun y => if y = name then some v else none) → R (.ok (.ret .none)) ⟨h', g, dr, tk', os⟩) :
    codeAny (model prog w) A (.call (.builtin "object.__setattr__") ⟨[.ref x, .str name tk, v], []⟩) R ⟨hp, g, dr, tk0, os⟩ := by
  have J : W.InstAt hp x { cls := .ref C, data := .fields fv } C none := ⟨gx, rfl, rfl, trivial⟩
  have so := F.store_object
  have full : cl.mro.isEmpty = false := by
    cases e : cl.mro with
    | nil => have z := hb.obj; rw [e] at z; cases z
    | cons _ _ => rfl
  have xs : x ≠ hp.objs.size := Nat.ne_of_lt (Heap.lt_size gx)
  have isO : W.Looks (model prog w) hp (isInstance (.ref x) (.type "object")) true := J.type.andThen (W.looks_mroIn Y (by unfold W.mroIn; rw [gc, Option.bind_some, if_neg (by rw [full]; decide), hb.obj]))
  refine codeAny_call_builtin so.slot.plain so.entry (@W.check_slot (model prog w) _ _ ⟨hp, g, dr, tk0, os⟩ "object.__setattr__" "object" "__setattr__" (.ref x) [.str name tk, v] [] _ so.kind so.split isO (so.args (.ref x) (.str name tk) v) ?_)
  have lm : W.Looks (model prog w) hp (mroOf (.ref C)) cl.mro := (W.looks_clsIn Y gc).andThen .now
  have lt : W.Looks (model prog w) hp (storeTaker? none) none := .now
  have lc : W.Looks (model prog w) hp (classData C) cl := W.looks_clsIn Y gc
  rw [W.osa_eq, refuse_eq]
  refine wpAny_bind (wpAny_bind (J.type.at (wpAny_bind (lm.at ?_))))
  rw [hb.pass]
  refine wpAny_pure (wpAny_bind (J.type.at (wpAny_bind ((W.looks_findIn Y no).at (wpAny_bind (lt.at ?_))))))
  show wpAny _ _ (storeInOwnDict (.ref x) (.ref C) (.str name tk) name v false) _ _ _
  obtain ⟨c1, c2, c3, c4, c5, c6, c7, c8, c9, c10, c11⟩ := cl
  dsimp only at dict
  subst dict
  unfold storeInOwnDict ownDictForStores
  repeat (first | with_reducible refine store_in_new ?_ ?_ | with_reducible refine wpAny_loadPart_at gx ?_ | with_reducible refine lc.at ?_ | wp_step)
  · exact ⟨_, #[], _, (Heap.get?_update_ne _ _ _ _ xs.symm).trans (Heap.get?_push_at rfl rfl), rfl, fun e he => absurd he (by simp), fun _ => rfl⟩
  · intro h' tk' hn' same
    have g2 : (hp.push { cls := .type "dict", data := .dict #[] }).get? x = some { cls := .ref C, data := .fields fv } := Heap.get?_push_of_some _ gx
    refine hq h' tk' hp.objs.size (fun b o nb eo => ?_) (Nat.le_refl _) xs.symm ?_ hn'
    · exact (same.2 b (Nat.ne_of_lt (Heap.lt_size eo))).trans ((Heap.get?_update_ne _ _ _ _ nb).trans (Heap.get?_push_of_some _ eo))
    · exact (same.2 x xs).trans (Heap.get?_update_self _ g2 rfl)
end
end ErD
end PySem
namespace PySem
namespace ErD
open PySem.W PySem.Calls PyProof.Rows PySem.HandSPX
def eArgs (fl : Str) (p1 p2 : Pos) : Arguments := { posonlyargs := [], args := [{ arg := "self", annotation := none, pos := p1 }, { arg := fl, annotation := none, pos := p2 }], vararg := none, kwonlyargs := [], kw_defaults := [], kwarg := none, defaults := [] }
def eBody (fl : Str) (q1 q2 q3 q4 : Pos) : List Stmt := [.Assign [.Attribute (.Name "self" q1) fl q2] (.Name fl q3) q4]
def eScope (fl : Str) : Scope := { kind := .function, names := [(PySem.Str.ofString "self", .local), (fl, .local)], isGenerator := false, isCoroutine := false, more := [] }
structure ErrT (K : Frag) (mg : Str → Option Value) (cn fl : Str) (C fI : Addr) : Prop where
  fd : fl = "given" ∨ fl = "index"
  gC : mg cn = some (.ref C)
  cls : ∃ nm q N bs bm sn sub ab col dd k0 k1 k2 k3 k5 nid, K.lookup C = some (excClassObj nm q C N bs bm true sn sub ab col dd k0 k1 k2 k3 k5 nid) ∧ Bse bm nid
  sa : findIn K (.ref C) "__setattr__" = some (some (.builtin "object.__setattr__"))
  ga : findIn K (.ref C) "__getattribute__" = some (some (.builtin "BaseException.__getattribute__"))
  gg : findIn K (.ref C) "__getattr__" = some none
  noN : findIn K (.ref C) fl = some none
  iC : findIn K (.ref C) "__init__" = some (some (.ref fI))
  tC : typeIn K (.ref fI) = some (.type "function")
  kC : keepIn K (.ref C) = true
  exC : subIn K (.ref C) (.type "BaseException") = some true
  tyC : typeIn K (.ref C) = some (.type "type")
  hdC : hasDictIn K C = true
  fn : ∃ (oc : Value) (od : Option Addr) (doc pm : Value) (an : Option Addr) (cdv ct : Value) (osl : Array (Option Value)) (qn : Str) (p1 p2 q1 q2 q3 q4 : Pos),
    K.lookup fI = some ⟨oc, od, .func (fnOf "__init__" qn (eArgs fl p1 p2) (eBody fl q1 q2 q3 q4) (eScope fl) .none .none doc pm an cdv ct), osl⟩ ∧ codeIn K cdv qn = true
theorem one_le_line (v : Value) : [v].length ≤ sizeLine := by
  rw [sizeLine_eq]
  exact (by decide : 1 ≤ 16777216)
theorem loc_ld {M : Model} {s : Shared} {qn : Str} {scope : Scope} {L a : Addr} {cd : Value} {m : Str → Option Value} {x : Str} {pos : Pos} {v : Value} {Q : Value → Shared → Prop} {A : Around} {E : Value → Shared → Prop} (hn : s.heap.Ns L m) (hv : m x = some v) (h : Q v s)
    (hk : scope.kind = .function := by rfl) (hl : (envOfC qn scope L a cd).kindOf x = some .local := by rfl) (hd : (x == ("__debug__" : Str)) = false := by decide) : wpAny M A (eval (.Name x pos) (envOfC qn scope L a cd)) Q E s := wpAny_Name (wpAny_loadName_local hk hl hn hv h) hd
structure EndI (h h' : Heap) (x C dx t1 : Addr) (fl : Str) (v : Value) : Prop where
  keep : ∀ b o, b ≠ x → h.get? b = some o → h'.get? b = some o
  obj : h'.get? x = some { cls := .ref C, dict := some dx, data := .fields #[.ref t1, .none, .none, .none, .bool false, .none] }
  dbig : h.objs.size ≤ dx
  dne : dx ≠ x
  ns : h'.Ns1 dx (fun y => if y = fl then some v else none)
structure Made (h h' : Heap) (e C d : Addr) (fl : Str) (v : Value) : Prop where
  keep : ∀ b o, h.get? b = some o → h'.get? b = some o
  new : h.objs.size ≤ e
  obj : ∃ oe vs, h'.get? e = some oe ∧ oe.cls = .ref C ∧ oe.dict = some d ∧ oe.data = .fields vs ∧ vs[1]? = some .none
  dbig : h.objs.size ≤ d
  dne : d ≠ e
  ns : h'.Ns1 d (fun y => if y = fl then some v else none)
section
variable {prog : Program} {w : World} {A : Around} {E : Value → Shared → Prop} {R : Result → Shared → Prop} {s : Shared} {K : Frag} {mg : Str → Option Value} {C fI : Addr} {cn fl : Str}
theorem err_init (T : ErrT K mg cn fl C fI) {x t0 : Addr} {v : Value} (Y : K.In s.heap) (lim : s.heap.NoLimit) (hx : s.heap.get? x = some (excO C t0)) (room : A.depth < recursionLimit)
    (hq : ∀ h' tk dx, EndI s.heap h' x C dx t0 fl v → R (.ok (.ret .none)) { s with heap := h', toks := tk }) :
    codeAny (model prog w) A (.call (.ref fI) ⟨[.ref x, v], []⟩) R s := by
  obtain ⟨oc, od, doc, pm, an, cdv, ct, osl, qn, p1, p2, q1, q2, q3, q4, ho, hcd⟩ := T.fn
  obtain ⟨nm, q, N, bs, bm, sn, sub, ab, col, dd, k0, k1, k2, k3, k5, nid, hC, hb⟩ := T.cls
  have hcl : clsIn K C = some { name := nm, bases := bs, mro := .ref C :: bm, ns := N, qualname := q, hasDict := true, slotNames := sn, subclasses := sub, abstract := ab, collection := col, hasDel := false } := by unfold clsIn; rw [hC] <;> rfl
  have noN := T.noN
  have fd := T.fd
  rcases fd with rfl | rfl
  all_goals
    refine Att.call_fn (binds := [("self", .ref x), (_, v)]) Y lim ho hcd room (BindsTo.of_eq (by first | rfl | with_unfolding_all rfl)) (by first | rfl | decide | with_unfolding_all rfl) (fun s₁ IC => ?_) rfl rfl rfl
    obtain ⟨h₁, tk₁, rfl⟩ := IC.toInCall.same
    have k : ∀ b o, s.heap.get? b = some o → h₁.get? b = some o := IC.toInCall.keep
    have hn := IC.toInCall.ns
    have Y₁ : K.In h₁ := Y.keeps k
    have hx₁ := k _ _ hx
    show wpAny _ _ (execs _ _) _ _ _
    refine wpAny_execs_cons (plainObj_wpAny_Assign_Attribute ?_)
    refine loc_ld (v := v) hn (by first | rfl | with_unfolding_all rfl | kernel_rfl) (loc_ld (v := .ref x) hn (by first | rfl | with_unfolding_all rfl | kernel_rfl) ?_)
    refine set_plain Y₁ (ox := excO C t0) (od := none) ⟨hx₁, rfl, rfl, trivial⟩ T.sa ?_
    refine set_new (nid := "") Y₁ hx₁ hcl hb.own rfl noN (fun h₃ tk₃ dx k₃ dn dne hx₃ hn₃ => ?_)
    show wpAny _ _ (execs _ _) _ _ _
    have z : s.heap.objs.size < h₁.objs.size := hn.lt
    exact wpAny_execs_nil (hq h₃ tk₃ dx ⟨fun b o nb e => k₃ b o nb (k b o e), hx₃, Nat.le_of_lt (Nat.lt_of_lt_of_le z dn), dne, hn₃⟩)
theorem err_made (T : ErrT K mg cn fl C fI) {v : Value} (Y : K.In s.heap) (lim : s.heap.NoLimit) (room : A.depth + 1 < recursionLimit)
    (hq : ∀ h' tk e d, Made s.heap h' e C d fl v → R (.ok (.ret (.ref e))) { s with heap := h', toks := tk }) :
    codeAny (model prog w) A (.call (.ref C) ⟨[v], []⟩) R s := by
  obtain ⟨nm, q, N, bs, bm, sn, sub, ab, col, dd, k0, k1, k2, k3, k5, nid, hC, hb⟩ := T.cls
  obtain ⟨B, iid, bB, BF, same⟩ := hb.call
  obtain ⟨hp, g, dr, tk, os⟩ := s
  have k : ∀ b o, hp.get? b = some o → ((hp.push (kdv_tup [v])).push (excO C hp.objs.size)).get? b = some o := fun b o e => Heap.get?_push_of_some _ (Heap.get?_push_of_some _ e)
  have there : ((hp.push (kdv_tup [v])).push (excO C hp.objs.size)).get? (hp.objs.size + 1) = some (excO C hp.objs.size) := by heap_get
  refine call_own BF same (Y _ _ hC) (looks_findIn Y T.iC) (fun self => bind_fn Y self T.tC) (one_le_line v) ?_
  refine err_init (s := ⟨(hp.push (kdv_tup [v])).push (excO C hp.objs.size), g, dr, tk, os⟩) T (Y.keeps k) (lim.keeps k) there room fun h' tk' dx ⟨k', hx, dn, dne, hns⟩ => ?_
  have old : ∀ b o, hp.get? b = some o → h'.get? b = some o := fun b o e => k' b o (Nat.ne_of_lt (Nat.lt_succ_of_lt (Heap.lt_size e))) (k b o e)
  have z : hp.objs.size + 1 + 1 ≤ dx := by
    have q := dn
    rw [Heap.size_push, Heap.size_push] at q
    exact q
  exact ⟨rfl, hq h' tk' (hp.objs.size + 1) dx ⟨old, Nat.le_succ _, ⟨_, _, hx, rfl, rfl, rfl, rfl⟩, Nat.le_trans (Nat.le_trans (Nat.le_succ _) (Nat.le_succ _)) z, dne, hns⟩⟩
end
end ErD
end PySem
namespace Dv
open PySem PySem.Spec L2
theorem relO_one {v : V} {v' : Value} {fl : Str} (r : RelV v v') (f : Str) : RelO (List.lookup f [(fl, v)]) (if f = fl then some v' else none) := by
  by_cases hw : f = fl
  · subst hw
    rw [if_pos rfl]
    have q : List.lookup f [(f, v)] = some v := by simp [List.lookup]
    rw [q]
    exact r
  · rw [if_neg hw]
    have qw : (f == fl) = false := by simpa using hw
    have q2 : List.lookup f [(fl, v)] = none := by simp [List.lookup, qw]
    rw [q2]
    trivial
section
variable {X : Cx} {C fI : Addr} {cn fl : Str} {R F0 : Hp}
def tMkErr (C : Addr) (fl : Str) (ta : TA) : St → Hp → XK → Prop := fun σ H Q => ta σ H fun vs H1 => ∃ v, vs = [v] ∧ ∀ d, H1 d = none → Q (.ref C) (some d) (upd H1 d (.xd [(fl, v)]))
theorem mk_err {pins : List (Addr × Obj)} {s : Shared} {σ : St} {H : Hp} {Q : XK} {v : V} {u : Value} {k : Nat} (T : PySem.ErD.ErrT X.K X.mg cn fl C fI) (hr : Room k X.A) (I : Inv X pins σ H s) (rv : RelV v u) (q : ∀ d, H d = none → Q (.ref C) (some d) (upd H d (.xd [(fl, v)]))) :
    wpAny (model X.prog X.w) X.A (call (.ref C) [u]) (MkP X pins σ Q) X.xe s := by
  have lim := I.nolimit
  obtain ⟨hp, g, dr, tk, os⟩ := s
  refine wpAny_call (PySem.ErD.err_made T I.kIn lim (by have := hr.dp; omega) fun h' tk' e d M => ?_)
  show MkP X pins σ Q (.ref e) ⟨h', g, dr, tk', os⟩
  obtain ⟨oe, fv, hoe, hc, hd, hdat, h1⟩ := M.obj
  have hns := M.ns
  obtain ⟨G', g1, g2⟩ := restrict h' fun b => decide (b ≠ e)
  have off : ∀ b, b ≠ e → G'.get? b = h'.get? b := fun b hb => g1 b (decide_eq_true hb)
  have gone : G'.get? e = none := g2 e (by simp)
  have old : ∀ b o, hp.get? b = some o → G'.get? b = some o := fun b o q => (off b (Nat.ne_of_lt (Nat.lt_of_lt_of_le (Heap.lt_size q) M.new))).trans (M.keep b o q)
  have ob : ObjOk X.prog X.w (upd H d (.xd [(fl, v)])) G' d (.xd [(fl, v)]) := ⟨_, hns.at (fun o q => (off d M.dne).trans q), fun f => relO_one rv f⟩
  have J : Inv X pins σ (upd H d (.xd [(fl, v)])) ⟨G', g, dr, tk', os⟩ := I.laid (t' := tk') old M.dbig ob
  refine ⟨e, oe, fv, ⟨G', g, dr, tk', os⟩, _, .ref C, some d, rfl, J, fun b o q => ?_, gone, hoe, ⟨hc, hd⟩, hdat, h1, ?_, rfl, I.bare, raises_own T.exC T.tyC, q d (I.hok.fresh M.dbig)⟩
  · by_cases hb : b = e
    · have q' : G'.get? b = some o := q
      rw [hb, gone] at q'; cases q'
    · exact (off b hb).symm.trans q
  · rw [upd_ne (Ne.symm M.dne)]
    exact I.hok.fresh M.new
theorem pmk_err {a : Expr} {ta : TA} {p pos : Pos} {k : Nat} (T : PySem.ErD.ErrT X.K X.mg cn fl C fI) (hr : Room k X.A) (ha : PA X [a] ta) (hg : Gl X cn := by rfl) (hdb : (cn == ("__debug__" : Str)) = false := by decide)
    (he : starEach (a :: []) X.env = (false, eval a X.env) :: starEach [] X.env := by rfl) (hpl : (backTo pos (starEach [] X.env)).any (·.1) = false := by rfl) : PMk X (.Call (.Name cn p) [a] [] pos) (tMkErr C fl ta) := by
  intro pins s σ H Q I h
  refine wpAny_Call_Name_kw (ld_glob I hg T.gC ?_ hdb)
  refine PySem.W.callWith_K (h₀ := X.base) I.ok.mod.kin T.kC (thn (ha.run pos pins s σ H _ I h) fun us s1 hh => ?_) he hpl
  obtain ⟨vs, H1, I1, r1, v, ev, q1⟩ := hh
  subst ev
  refine ⟨I1.kIn, ?_⟩
  cases r1 with
  | cons rv rn =>
    cases rn
    exact mk_err T hr I1 rv q1
def dRaise (C : Addr) (fl : Str) (W : DWX) (t : DA) : DS := fun _ ds M => t ds M fun xs M1 => match xs with
  | [x] => ∀ p, M1 p = none → W (.ref C) (some p) ds (mup M1 p (.xd [(fl, x)]))
  | _ => False
theorem pd_raise {a : Expr} {t : DA} {W : DWX} {p pos pos2 : Pos} {k : Nat} (hc : X.calm = true) (T : PySem.ErD.ErrT X.K X.mg cn fl C fI) (hr : Room k X.A) (tk : DTakes R F0 X W) (ha : PDA R F0 X [a] t) (hg : Gl X cn := by rfl) (hdb : (cn == ("__debug__" : Str)) = false := by decide)
    (he : starEach (a :: []) X.env = (false, eval a X.env) :: starEach [] X.env := by rfl) (hpl : (backTo pos (starEach [] X.env)).any (·.1) = false := by rfl) :
    PDS R F0 X (.Raise (some (.Call (.Name cn p) [a] [] pos)) none pos2) (dRaise C fl W t) := by
  refine PS.imp (ps_raise hc tk (pmk_err T hr ha hg hdb he hpl)) ?_
  rintro D σ H ⟨F, ds, M, Dd, a, h, c⟩
  refine ⟨F, ds, M, _, a, h, fun F1 H1 M1 xs vs e1 m1 r1 q1 => ?_⟩
  cases r1 with
  | nil => exact q1.elim
  | cons rx rn =>
    cases rn with
    | cons _ _ => exact q1.elim
    | nil => exact ⟨_, rfl, fun d hd => ⟨F1, ds, _, a.go e1 (m1.warm (o := .xd [(fl, _)]) hd ⟨_, upd_same, .cons rx .nil⟩), q1 d (m1.freeM hd)⟩⟩
def dXf (a : Addr) (cls : Value) (d : Option Addr) (C : Addr) (f : Str) (te : DE) : DE := fun ds M Q => te ds M fun x M1 => x = .ref a ∧ cls = .ref C ∧ ∃ (dd : Addr) (fs : List (Str × D)) (v : D), d = some dd ∧ M1 dd = some (.xd fs) ∧ fs.lookup f = some v ∧ Q v M1
theorem pd_xf {a : Addr} {oe : Obj} {cls : Value} {d : Option Addr} {pn : List (Addr × Obj)} {e : Expr} {te : DE} {pos : Pos} {n : Str} (T : PySem.ErD.ErrT X.K X.mg cn n C fI) (hz : Zc cls d oe) (hf : ∃ vs, oe.data = .fields vs) (he : PDE R F0 (X.suite a ((a, oe) :: pn)) e te) (hb : attributeBase e n X.env (eval e X.env) = eval e X.env := by rfl) :
    PDE R F0 (X.suite a ((a, oe) :: pn)) (.Attribute e n pos) (dXf a cls d C n te) := by
  refine PE.imp (pe_xf ⟨T.ga, T.gg, T.exC, T.hdC⟩ T.noN hz hf he hb) ?_
  rintro σ H Q ⟨F, ds, M, Qd, at_, h, c⟩
  refine ⟨F, ds, M, _, at_, h, fun F1 H1 M1 x vx e1 m1 r1 q1 => ?_⟩
  obtain ⟨rfl, ec, dd, fs, v, ed, em, l, q⟩ := q1
  cases r1
  obtain ⟨vs, hv, rf⟩ := m1.ob dd _ em
  obtain ⟨w, lw, rw'⟩ := rf.look l
  exact ⟨rfl, ec, dd, vs, w, ed, hv, lw, c _ _ _ _ _ e1 m1 rw' q⟩
def dWAs (K : PySem.W.Frag) (c : Value) (i : Nat) (ts : Addr → Value → Option Addr → DS) (Wout : DWX) (D : DEnds) : DWX := fun cls d ds M =>
  ∃ b, PySem.W.exmOne K cls c = some b ∧ (b = true → ∀ a, ts a cls d { nx := fun ds' M' => D.nx (ds'.set i none) M', rt := D.rt, bk := fun ds' M' => D.bk (ds'.set i none) M', ct := fun ds' M' => D.ct (ds'.set i none) M' } (ds.set i (some (.ref a))) M) ∧
    (b = false → Wout cls d ds M)
theorem ContS.unset {K : PySem.W.Frag} {F : Hp} {Qd : Sl → MH → Prop} {Q : St → Hp → Prop} {i : Nat} (c : ContS K R F Qd Q) : ContS K R F (fun ds M => Qd (ds.set i none) M) (fun σ H => Q (σ.set i none) H) :=
  fun F' H' M' ds σ e m r q => c F' H' M' _ _ e m (r.unset none i) q
theorem pd_try_as {x n : Str} {c : Value} {i : Nat} {body suite : List Stmt} {b₀ : Stmt} {np pos pos' : Pos} {tb : DWX → DS} {ts : Addr → Value → Option Addr → DS} {Wout : DWX} (hs : X.stack = X.env :: X.outer) (hf : X.env.frame = some X.env.locals) (hN : X.N.Nodup)
    (tk : DTakes R F0 X Wout) (hc : Names X x c) (hi : X.N[i]? = some n) (hln : X.env.kindOf n = some .local)
    (hb : ∀ (F1 : Hp) (W : DWX) (pn : List (Addr × Obj)) (xe : Value → Shared → Prop), DTakes R F1 (X.tr pn xe) W → PassesOwn (model X.prog X.w) X.A X.env xe → PDSs R F1 (X.tr pn xe) body (tb W))
    (hsu : ∀ (F1 : Hp) (a : Addr) (oe : Obj) (cls : Value) (d : Option Addr) (pn : List (Addr × Obj)), Zc cls d oe → (∃ vs, oe.data = .fields vs) → PDSs R F1 (X.suite a ((a, oe) :: pn)) (b₀ :: suite) (ts a cls d)) :
    PDS R F0 X (.Try body [.ExceptHandler (some (.Name x np)) (some n) (b₀ :: suite) pos'] [] [] pos) (fun D ds M => tb (dWAs X.K c i ts Wout D) D ds M) := by
  refine PS.imp (ps_try_as (Wout := upW X.K R F0 Wout) (ts := fun a cls d => fun D σ H => ∃ F1, upS X.K R F1 (ts a cls d) D σ H) (tb := fun W => fun D σ H => ∃ Wd F1, (∀ cls d σ' H', upW X.K R F1 Wd cls d σ' H' → W cls d σ' H') ∧ upS X.K R F1 (tb Wd) D σ H)
    hs hf hN hi hln hc tk (fun W pn xe tk2 ps => ⟨fun pins s σ H D I ⟨Wd, F1, im, h⟩ => (hb F1 Wd pn xe (Takes.imp tk2 im) ps).run pins s σ H D I h⟩)
    (fun a oe cls d pn hz hf => ⟨fun pins s σ H D I ⟨F1, h⟩ => (hsu F1 a oe cls d pn hz hf).run pins s σ H D I h⟩)) ?_
  rintro D σ H ⟨F, ds, M, Dd, a, h, c⟩
  refine ⟨_, F, ?_, F, ds, M, _, ⟨Ex.refl _, a.hm, a.rs⟩, h, c⟩
  rintro cls d σ' H' ⟨F', ds', M', a', b, eb, yes, no⟩
  refine ⟨b, eb, fun z a2 na => ?_, fun z => ?_⟩
  · have k := c.mono a'.ex
    refine ⟨F', F', _, M', _, ⟨Ex.refl _, a'.hm, a'.rs.set (.ref a2) i⟩, yes z a2, ⟨?_, k.rt, ?_, ?_⟩⟩
    · exact k.nx.unset
    · exact k.bk.unset
    · exact k.ct.unset
  · exact ⟨F', ds', M', ⟨a.ex.trans a'.ex, a'.hm, a'.rs⟩, no z⟩
end
end Dv
namespace Dv
open PySem PySem.Spec L2
def endSet (D : Ends) (i : Nat) : Ends := { nx := fun τ G => D.nx (τ.set i none) G, rt := D.rt, bk := fun τ G => D.bk (τ.set i none) G, ct := fun τ G => D.ct (τ.set i none) G }
abbrev Cl := Value × Nat × (Addr → Value → Option Addr → TS)
def wClauses (K : PySem.W.Frag) (Wout : WX) (D : Ends) : List Cl → WX
  | [] => Wout
  | (c, i, ts) :: r => fun cls d τ G => ∃ b, PySem.W.exmOne K cls c = some b ∧ (b = true → ∀ a, G a = none → ts a cls d (endSet D i) (τ.set i (some (.ref a))) G) ∧ (b = false → wClauses K Wout D r cls d τ G)
inductive Clauses (X : Cx) : List ExceptHandler → List Cl → Prop
  | nil : Clauses X [] []
  | cons {x n : Str} {c : Value} {i : Nat} {ts : Addr → Value → Option Addr → TS} {b₀ : Stmt} {suite : List Stmt} {np pos' : Pos} {hds : List ExceptHandler} {l : List Cl} (names : Names X x c) (hi : X.N[i]? = some n) (hln : X.env.kindOf n = some .local)
      (su : ∀ (a : Addr) (oe : Obj) (cls : Value) (d : Option Addr) (pn : List (Addr × Obj)), Zc cls d oe → (∃ vs, oe.data = .fields vs) → PSs (X.suite a ((a, oe) :: pn)) (b₀ :: suite) (ts a cls d)) (rest : Clauses X hds l) :
      Clauses X (.ExceptHandler (some (.Name x np)) (some n) (b₀ :: suite) pos' :: hds) ((c, i, ts) :: l)
section
variable {X : Cx} {body : List Stmt} {h₀ : ExceptHandler} {hds : List ExceptHandler} {l : List Cl} {pos : Pos} {tb : WX → TS} {Wout : WX}
theorem ps_clauses (stk : X.stack = X.env :: X.outer) (frm : X.env.frame = some X.env.locals) (nod : X.N.Nodup) (out : Takes X Wout)
    (hb : ∀ (W : WX) (pn : List (Addr × Obj)) (xe : Value → Shared → Prop), Takes (X.tr pn xe) W → PassesOwn (model X.prog X.w) X.A X.env xe → PSs (X.tr pn xe) body (tb W)) (hh : Clauses X (h₀ :: hds) l) :
    PS X (.Try body (h₀ :: hds) [] [] pos) (fun D σ H => tb (wClauses X.K Wout D l) D σ H) := by
  refine ⟨fun pins s σ H D I h => ?_⟩
  have good := I.ok
  have frs0 : X.A.frames = some (X.env :: X.outer) := by rw [good.frames, stk]
  refine wpAny_Try_except ?_
  refine wpAny_mono ((hb (wClauses X.K Wout D l) (X.pn ++ pins) (fun ex q0 => wpAny (model X.prog X.w) X.A (noteFrame ex X.env) (fun _ q1 => wpAny (model X.prog X.w) X.A (setFlight ex none) (fun _ q2 =>
    wpAny (model X.prog X.w) X.A (handleBy ex X.env (h₀ :: hds)) (SP X pins D) X.xe q2) X.xe q1) X.xe q0) (fun u t' caught => ?_) PassesOwn.looking).run [] s σ H D (I.toTry _) h) (fun f t1 done => ?_) (fun ex q0 he => he)
  · obtain ⟨a, B, t0, pins1, τ, G, cls, d, rfl, It, nb, grows, sky0, fresh, os, bare, wish⟩ := caught
    have J : Inv X pins τ G t0 := It.ofTry good
    have sky1 : Sky B (X.env :: X.outer) a (Zc cls d) X.env.locals t'.heap := by rw [← stk]; exact sky0
    show wpAny (model X.prog X.w) X.A (noteFrame (.ref a) X.env) _ _ _
    refine Sky.land Zc.steady frs0 frm sky1 fun g3 fly3 grows3 => ?_
    have J3 : Inv X pins τ G { t' with heap := g3 } := J.landed nb fly3.1 (grows.trans grows3) os bare
    obtain ⟨ob3, fv3, get3, zc3, dat3⟩ := fly3.there
    have away : a ∉ frs (X.env :: X.outer) := fun hm => by
      obtain ⟨_, o', e', hnf⟩ := fly3.2.2.1.mem hm
      rw [get3] at e'; cases e'
      exact hnf _ dat3
    have awayL : a ≠ X.env.locals := fun z => away (List.mem_filterMap.mpr ⟨X.env, List.mem_cons_self, by rw [frm, z]⟩)
    have awayF : a ∉ X.fs := fun hm => by
      obtain ⟨en, hen, q⟩ := List.mem_filterMap.mp hm
      exact away (List.mem_filterMap.mpr ⟨en, List.mem_cons_of_mem _ hen, q⟩)
    have S3 := J3.suite get3 dat3 fresh awayL awayF
    have walk : ∀ {hs2 : List ExceptHandler} {l2 : List Cl}, Clauses X hs2 l2 → wClauses X.K Wout D l2 cls d τ G → wpAny (model X.prog X.w) X.A (handleBy (.ref a) X.env hs2) (SP X pins D) X.xe { t' with heap := g3 } := by
      intro hs2 l2 hk
      induction hk with
      | nil =>
        intro wish2
        refine wpAny_handleBy_nil ?_
        obtain ⟨k1, k2, k3, oe, vs, T, oT, ts', he, hz, hd, h1, hr⟩ := id fly3
        unfold PySem.passOn
        refine wpAny_bind (wpAny_field he hd h1 ?_)
        rw [if_neg (show ¬ ((Value.ref T == Value.none) = true) from by simp)]
        have leave : wpAny (model X.prog X.w) X.A (setFlight (.ref a) X.env.frame) (fun _ t4 => wpAny (model X.prog X.w) X.A (throw (.ref a) : Sem Flow) (SP X pins D) X.xe t4) X.xe { t' with heap := g3 } := by
          rw [frm]
          refine HandSPX.setFlight_upZ fly3 fun g4 sky4 grows4 => wpAny_throw (out _ _ ?_)
          exact ⟨a, B, t0, pins, τ, G, cls, d, rfl, J, nb, (grows.trans grows3).trans grows4, .inr (.inr (by rw [stk]; exact sky4)), fresh, os, bare, wish2⟩
        first
          | exact wpAny_bind (wpAny_pure (wpAny_bind leave))
          | exact wpAny_bind leave
      | @cons x n c i ts b₀ suite np pos' hds3 l3 names hi hln su rest ih =>
        intro wish2
        obtain ⟨b, eb, yes, no⟩ := wish2
        have loc : Loc X.env.scope n := .inl hln
        refine wpAny_handleBy_cons (codeAny_handlers_test ?_) (by intro q; cases q)
        have itsT : PySem.W.Looks (model X.prog X.w) g3 (typeOf (.ref a)) cls := fun A Q E s k q => wpAny_typeOf_ref (k _ _ get3) (by rw [zc3.1]; exact q)
        have its := PySem.W.exm_one (M := model X.prog X.w) (J3.kIn) itsT eb
        have named : ∀ {Q : Value → Shared → Prop} {E : Value → Shared → Prop}, Q c { t' with heap := g3 } → wpAny (model X.prog X.w) (X.A.mark (some (.ref a))) (eval (.Name x np) X.env) Q E { t' with heap := g3 } := fun {Q E} q => by
          obtain ⟨hg, hdbg, hm | ⟨hm, hv, hnn⟩⟩ := names
          · exact ld_glob (X := X.suite a ((a, ob3) :: (X.pn ++ pins))) S3 hg hm q hdbg
          · exact ld_blt (X := X.suite a ((a, ob3) :: (X.pn ++ pins))) S3 hg hm hv q hnn hdbg
        refine named (its.here ?_)
        cases b with
        | true =>
          refine codeAny_handlers_suite_as ?_
          refine HandSPX.lands_againZ fly3 fun g4 fly4 grows4 => ?_
          have J4 : Inv X pins τ G { t' with heap := g4 } := J.landed nb fly4.1 ((grows.trans grows3).trans grows4) os bare
          obtain ⟨ob4, fv4, get4, zc4, dat4⟩ := fly4.there
          have S4 := J4.suite get4 dat4 fresh awayL awayF
          refine store_ok (X := X.suite a ((a, ob4) :: (X.pn ++ pins))) (v := .ref a) S4 nod hi loc rfl (fun t5 S5 => ?_) (.inr hln)
          refine wpAny_mono ((su a ob4 cls d (X.pn ++ pins) zc4 ⟨_, dat4⟩).run [] t5 _ G _ S5 (yes rfl a fresh)) (fun f t6 done => ?_) (fun _ _ z => False.elim z)
          have fin : ∀ {τ6 : St} {G6 : Hp} {Q : Shared → Prop}, Inv (X.suite a ((a, ob4) :: (X.pn ++ pins))) [] τ6 G6 t6 → (∀ t7, Inv X pins (τ6.set i none) G6 t7 → Q t7) →
              wpAny (model X.prog X.w) X.A (do bindName X.env n .none; unbindBehindTheSuite X.env n pos') (fun _ t7 => Q t7) X.xe t6 := fun {τ6 G6 Q} S6 hq => gone_ok (S6.unsuite good) nod hi hln hq
          cases f with
          | next =>
            obtain ⟨τ6, G6, S6, q6⟩ := done
            exact fin S6 fun t7 J7 => ⟨_, _, J7, q6⟩
          | brk =>
            obtain ⟨τ6, G6, S6, q6⟩ := done
            exact fin S6 fun t7 J7 => ⟨_, _, J7, q6⟩
          | cont =>
            obtain ⟨τ6, G6, S6, q6⟩ := done
            exact fin S6 fun t7 J7 => ⟨_, _, J7, q6⟩
          | ret u =>
            obtain ⟨v6, τ6, G6, S6, r6, q6⟩ := done
            exact fin S6 fun t7 J7 => ⟨_, _, _, J7, r6, q6⟩
        | false =>
          show wpAny _ X.A (handleBy (.ref a) X.env hds3) _ _ _
          exact ih (no rfl)
    exact walk hh wish
  · cases f with
    | next =>
      obtain ⟨τ, G, It, q⟩ := done
      exact wpAny_execs_nil ⟨τ, G, It.ofTry good, q⟩
    | brk =>
      obtain ⟨τ, G, It, q⟩ := done
      exact ⟨τ, G, It.ofTry good, q⟩
    | cont =>
      obtain ⟨τ, G, It, q⟩ := done
      exact ⟨τ, G, It.ofTry good, q⟩
    | ret u =>
      obtain ⟨v, τ, G, It, r, q⟩ := done
      exact ⟨v, τ, G, It.ofTry good, r, q⟩
end
abbrev DCl := Value × Nat × (Addr → Value → Option Addr → DS)
def dEndSet (D : DEnds) (i : Nat) : DEnds := { nx := fun ds M => D.nx (ds.set i none) M, rt := D.rt, bk := fun ds M => D.bk (ds.set i none) M, ct := fun ds M => D.ct (ds.set i none) M }
def dWCl (K : PySem.W.Frag) (Wout : DWX) (D : DEnds) : List DCl → DWX
  | [] => Wout
  | (c, i, ts) :: r => fun cls d ds M => ∃ b, PySem.W.exmOne K cls c = some b ∧ (b = true → ∀ a, ts a cls d (dEndSet D i) (ds.set i (some (.ref a))) M) ∧ (b = false → dWCl K Wout D r cls d ds M)
section
variable {X : Cx} {R F0 : Hp}
inductive DClauses (R : Hp) (X : Cx) : List ExceptHandler → List DCl → Prop
  | nil : DClauses R X [] []
  | cons {x n : Str} {c : Value} {i : Nat} {ts : Addr → Value → Option Addr → DS} {b₀ : Stmt} {suite : List Stmt} {np pos' : Pos} {hds : List ExceptHandler} {l : List DCl} (names : Names X x c) (hi : X.N[i]? = some n) (hln : X.env.kindOf n = some .local)
      (su : ∀ (F1 : Hp) (a : Addr) (oe : Obj) (cls : Value) (d : Option Addr) (pn : List (Addr × Obj)), Zc cls d oe → (∃ vs, oe.data = .fields vs) → PDSs R F1 (X.suite a ((a, oe) :: pn)) (b₀ :: suite) (ts a cls d)) (rest : DClauses R X hds l) :
      DClauses R X (.ExceptHandler (some (.Name x np)) (some n) (b₀ :: suite) pos' :: hds) ((c, i, ts) :: l)
def clUp (K : PySem.W.Frag) (R : Hp) : List DCl → List Cl := List.map fun p => (p.1, p.2.1, fun a cls d => fun D σ H => ∃ F1, upS K R F1 (p.2.2 a cls d) D σ H)
theorem DClauses.up {hds : List ExceptHandler} {l : List DCl} (h : DClauses R X hds l) : Clauses X hds (clUp X.K R l) := by
  induction h with
  | nil => exact .nil
  | cons names hi hln su rest ih => exact .cons names hi hln (fun a oe cls d pn hz hf => ⟨fun pins s σ H D I ⟨F1, h⟩ => (su F1 a oe cls d pn hz hf).run pins s σ H D I h⟩) ih
theorem wcl_up {K : PySem.W.Frag} {F : Hp} {Wout : DWX} {Dd : DEnds} {D : Ends} (ex : Ex F0 F) (c : ContE K R F Dd D) : ∀ (l : List DCl) (cls : Value) (d : Option Addr) (σ : St) (H : Hp), upW K R F (dWCl K Wout Dd l) cls d σ H → wClauses K (upW K R F0 Wout) D (clUp K R l) cls d σ H
  | [], cls, d, σ, H, ⟨F', ds, M, a, h⟩ => ⟨F', ds, M, ⟨ex.trans a.ex, a.hm, a.rs⟩, h⟩
  | (cc, i, ts) :: r, cls, d, σ, H, ⟨F', ds, M, a, b, eb, yes, no⟩ => by
    refine ⟨b, eb, fun z a2 na => ?_, fun z => wcl_up ex c r cls d σ H ⟨F', ds, M, a, no z⟩⟩
    have k := c.mono a.ex
    exact ⟨F', F', _, M, _, ⟨Ex.refl _, a.hm, a.rs.set (.ref a2) i⟩, yes z a2, ⟨k.nx.unset, k.rt, k.bk.unset, k.ct.unset⟩⟩
theorem pd_try {body : List Stmt} {h₀ : ExceptHandler} {hds : List ExceptHandler} {l : List DCl} {pos : Pos} {tb : DWX → DS} {Wout : DWX} (stk : X.stack = X.env :: X.outer) (frm : X.env.frame = some X.env.locals) (nod : X.N.Nodup) (tk : DTakes R F0 X Wout)
    (hb : ∀ (F1 : Hp) (W : DWX) (pn : List (Addr × Obj)) (xe : Value → Shared → Prop), DTakes R F1 (X.tr pn xe) W → PassesOwn (model X.prog X.w) X.A X.env xe → PDSs R F1 (X.tr pn xe) body (tb W)) (hh : DClauses R X (h₀ :: hds) l) :
    PDS R F0 X (.Try body (h₀ :: hds) [] [] pos) (fun D ds M => tb (dWCl X.K Wout D l) D ds M) := by
  refine PS.imp (ps_clauses (Wout := upW X.K R F0 Wout) (tb := fun W => fun D σ H => ∃ Wd F1, (∀ cls d σ' H', upW X.K R F1 Wd cls d σ' H' → W cls d σ' H') ∧ upS X.K R F1 (tb Wd) D σ H)
    stk frm nod tk (fun W pn xe tk2 ps => ⟨fun pins s σ H D I ⟨Wd, F1, im, h⟩ => (hb F1 Wd pn xe (Takes.imp tk2 im) ps).run pins s σ H D I h⟩) hh.up) ?_
  rintro D σ H ⟨F, ds, M, Dd, a, h, c⟩
  exact ⟨_, F, fun cls d σ' H' => wcl_up a.ex c l cls d σ' H', F, ds, M, _, ⟨Ex.refl _, a.hm, a.rs⟩, h, c⟩
end
end Dv
namespace Dv
open PySem PySem.Spec L2
abbrev DO := Sl → MH → (Option Int → MH → Prop) → Prop
def upO (K : PySem.W.Frag) (R F0 : Hp) (t : DO) : TO := fun σ H Q => ∃ F ds M Qd, At K R F0 F H σ ds M ∧ t ds M Qd ∧ ∀ F' H' M' o, Ex F F' → HM K R F' H' M' → Qd o M' → Q o H'
abbrev PDO (R F0 : Hp) (X : Cx) (e : Option Expr) (t : DO) : Prop := PO X e (upO X.K R F0 t)
theorem PO.imp {X : Cx} {e : Option Expr} {t t' : TO} (h : PO X e t) (k : ∀ σ H Q, t' σ H Q → t σ H Q) : PO X e t' := ⟨fun pins s σ H Q I q => h.run pins s σ H Q I (k σ H Q q)⟩
section
variable {X : Cx} {R F0 : Hp} {K : PySem.W.Frag} {e : Expr} {te : DE} {lo hi : Option Expr} {tl th : DO} {p2 pos : Pos}
def dNoPart : DO := fun _ M Q => Q none M
def dPart (t : DE) : DO := fun ds M Q => t ds M fun x M1 => match x with
  | .int i => Q (some i) M1
  | _ => False
theorem pdo_none : PDO R F0 X none dNoPart := by
  refine PO.imp po_none ?_
  rintro σ H Q ⟨F, ds, M, Qd, a, h, c⟩
  exact c _ _ _ _ (Ex.refl _) a.hm h
theorem pdo_some (h : PDE R F0 X e te) : PDO R F0 X (some e) (dPart te) := by
  refine PO.imp (po_some h) ?_
  rintro σ H Q ⟨F, ds, M, Qd, a, h, c⟩
  refine ⟨F, ds, M, _, a, h, fun F1 H1 M1 x vx e1 m1 r1 q1 => ?_⟩
  cases r1 with
  | int i => exact ⟨i, rfl, c _ _ _ _ e1 m1 q1⟩
  | _ => exact q1.elim
def rSl : D → Option Int → Option Int → MH → DQ → Prop := fun x lo hi M Q => match x with
  | .lst xs => Q (.lst (cutD xs lo hi)) M
  | .tup xs => Q (.tup (cutD xs lo hi)) M
  | .scr ns => Q (.lst (cutD (ns.map .int) lo hi)) M
  | .str z => z.length ≤ sizeLine ∧ Q (.str (cutS z lo hi)) M
  | .ref p => ∃ xs, M p = some (.lst xs) ∧ Q (.lst (cutD xs lo hi)) M
  | _ => False
def vSl (K : PySem.W.Frag) : V → Option Int → Option Int → Hp → VK → Prop := fun x lo hi H Q => (rSlL K x lo hi H Q ∨ rSlA K x lo hi H Q) ∨ rSlS x lo hi H Q
theorem sl_all : SlR X (vSl X.K) := SlR.or (SlR.or sl_list sl_tupA) sl_str
theorem cut_rep {F : Hp} {ds : List D} {vs : List V} (r : RepL K F ds vs) (lo hi : Option Int) : RepL K F (cutD ds lo hi) (cutV vs lo hi) := by
  unfold cutD cutV
  rw [r.length]
  exact (r.drop _).take _
theorem RepL.ints {F : Hp} : ∀ ns : List Int, RepL K F (ns.map .int) (ns.map V.int)
  | [] => .nil
  | n :: ns => .cons (.int n) (RepL.ints ns)
def dSl (te : DE) (tl th : DO) : DE := fun ds M Q => te ds M fun x M1 => tl ds M1 fun l M2 => th ds M2 fun u M3 => rSl x l u M3 Q
theorem cut_whole {α : Type} (xs : List α) {i j : Nat} (h : i = 0 ∧ j = xs.length) : (xs.drop i).take (j - i) = xs := by
  obtain ⟨rfl, rfl⟩ := h
  simp
theorem pd_slice (he : PDE R F0 X e te) (hl : PDO R F0 X lo tl) (hu : PDO R F0 X hi th) : PDE R F0 X (.Subscript e (.Slice lo hi none p2) pos) (dSl te tl th) := by
  refine PE.imp (pe_slice sl_all he hl hu) ?_
  rintro σ H Q ⟨F, ds, M, Qd, a, h, c⟩
  refine ⟨F, ds, M, _, a, h, fun F1 H1 M1 x vx e1 m1 r1 q1 => ?_⟩
  refine ⟨F1, ds, M1, _, a.go e1 m1, q1, fun F2 H2 M2 l e2 m2 q2 => ?_⟩
  refine ⟨F2, ds, M2, _, a.go (e1.trans e2) m2, q2, fun F3 H3 M3 u e3 m3 q3 => ?_⟩
  have r3 := r1.mono (e2.trans e3)
  have c3 := c.mono ((e1.trans e2).trans e3)
  have m := m3
  unfold rSl at q3
  split at q3
  · cases r3 with | lst hx rx => exact .inl (.inl ⟨_, _, rfl, m.l hx, fun p n => c3.cold m n (.lst upd_same ((cut_rep rx _ _).mono (.cold m n))) q3⟩)
  · cases r3 with | tup hx rx =>
      refine .inl (.inr ⟨_, _, rfl, m.t hx, fun z => ?_, fun z p n => c3.cold m n (.tup (.of upd_same) ((cut_rep rx _ _).mono (.cold m n))) q3⟩)
      refine c3.now m (.tup hx rx) ?_
      have e : cutD _ l u = _ := cut_whole _ (by rw [rx.length]; exact z)
      rw [e] at q3
      exact q3
  · cases r3 with | scr hx => exact .inl (.inl ⟨_, _, rfl, m.ex.l hx, fun p n => c3.cold m n (.lst upd_same (cut_rep (RepL.ints _) _ _)) q3⟩)
  · cases r3; exact .inr ⟨_, rfl, q3.1, c3.now m (.str _) q3.2⟩
  · cases r3
    obtain ⟨xs, ex, q⟩ := q3
    obtain ⟨vs, hv, rl⟩ := m.look ex
    exact .inl (.inl ⟨_, _, rfl, .inl (.inl hv), fun p n => c3.cold m n (.lst upd_same ((cut_rep rl _ _).mono (.cold m n))) q⟩)
  · exact q3.elim
end
def M0 : MH := fun _ => none
def R0 : Hp := fun _ => none
theorem HM.start {K : PySem.W.Frag} {H : Hp} : HM K R0 H H M0 := ⟨Ex.refl _, (fun _ _ e => by cases e), (fun _ _ e => by cases e), (fun _ _ e => by cases e)⟩
section
open PyProof.Rows
theorem law_goes {P : Program} {w : World} {K : PySem.W.Frag} {mg mb : Str → Option Value} {k : Nat} {fa a : Addr} {fd : FuncData} {x : Str} {sp : DSp} {s₁ : Shared} {vs : List Value} {ns : List Int}
    (KX : K.In s₁.heap) (glob : s₁.heap.Ns mainGlobals mg) (blt : s₁.heap.Ns builtinsNs mb) (boot : ∀ x : Str, x ≠ "__name__" → mb x = bootBuiltins x) (lim : s₁.heap.NoLimit) (gens : s₁.gens = #[])
    (ha : s₁.heap.get? a = some { cls := .type "list", data := .seq vs.toArray }) (hi : IntsAre vs ns) (hl : ns.length ≤ sizeLine) (room : Room k callerA)
    (F : ∀ base : Heap, K.In base → base.Ns mainGlobals mg → FnG P w K mg base k fa fd [x] (upSp K sp)) (binds : ∀ (s : Shared) (u : Value), BindsTo s fd ⟨[u], []⟩ [(x, u)])
    (keeps : sp [.scr ns] M0 (fun d _ => d = .bl true) fun _ _ _ => False) :
    codeAny (model P w) callerA (.call (.ref fa) ⟨[.ref a], []⟩) (fun r s' => r = .ok (.ret (.bool true)) ∧ OldK s₁.heap s'.heap ∧ s'.os = s₁.os ∧ AllBare s'.gens) s₁ := by
  have rv := vals_ints hi
  have len := hi.length
  have core : ∀ H : Hp, Only H → SqL K H a (ns.map V.int) → HOk P w H s₁.heap → (∀ b, H b ≠ none → b = a) → (H a ≠ none → K.lookup a = none) →
      codeAny (model P w) callerA (.call (.ref fa) ⟨[.ref a], []⟩) (fun r s' => r = .ok (.ret (.bool true)) ∧ OldK s₁.heap s'.heap ∧ s'.os = s₁.os ∧ AllBare s'.gens) s₁ := by
    intro H only sq good one out
    have inB : ∀ {b : Addr} {o : Obj}, s₁.heap.get? b = some o → H b = none → (hidT s₁.heap H).get? b = some o := fun e n => hidT_get e n
    have dicts : ∀ {b : Addr} {o : Obj} {es : Array DictEntry} {ep : Nat}, s₁.heap.get? b = some o → o.data = .dict es ep → H b = none := fun {b o es ep} e d => by
      cases q : H b with
      | none => rfl
      | some u =>
        have e' : b = a := one b (by rw [q]; simp)
        subst e'
        rw [ha] at e; cases e
        have d' : Data.seq vs.toArray _ = Data.dict es ep := d
        cases d'
    have nsB : ∀ {b : Addr} {m : Str → Option Value}, s₁.heap.Ns b m → (hidT s₁.heap H).Ns b m := fun {b m} ⟨o, es, ep, e, d, r⟩ => ⟨o, es, ep, inB e (dicts e d), d, r⟩
    have kB : K.In (hidT s₁.heap H) := fun b o e => inB (KX b o e) (by
      cases q : H b with
      | none => rfl
      | some u =>
        have e' : b = a := one b (by rw [q]; simp)
        subst e'
        rw [out (by rw [q]; simp)] at e; cases e)
    have mods : Mod K mg (hidT s₁.heap H) := ⟨kB, nsB glob, ⟨mb, nsB blt, boot⟩, let ⟨mc, h1, h2⟩ := lim; ⟨mc, nsB h1, h2⟩⟩
    have e0 : Env0 P w K mg (hidT s₁.heap H) callerA [] s₁ H := ⟨rfl, mods, fun b o e => of_hidT e, Nat.le_of_eq (hidT_size _ _), trivial, fun b hb => absurd (show b ∈ ([] : List Addr) from hb) (by simp), good, .of_eq gens⟩
    refine codeAny_mono ((F _ kB (nsB glob)).run callerA [] s₁ H ⟨[.ref a], []⟩ [.ref a] [.ref a] (fun v _ => v = .bl true) (fun _ _ _ => False) room rfl e0 (binds s₁ (.ref a)) (.cons rfl .nil)
      ⟨R0, H, [.scr ns], M0, _, _, .start, .cons (.scr sq) .nil, keeps, fun F' H' M' d v ex m r q => (by have q' : d = .bl true := q; subst q'; cases r; rfl), fun _ _ _ _ _ _ _ z => z⟩) fun r s' h => ?_
    cases r with
    | error e =>
      obtain ⟨_, _, _, _, _, _, _, _, _, _, _, _, z⟩ := h
      exact z.elim
    | ok fl =>
      cases fl with
      | next => exact False.elim h
      | brk => exact False.elim h
      | cont => exact False.elim h
      | ret u =>
        obtain ⟨v, H', os, bare, un, good', r', q⟩ := h
        have q' : v = .bl true := q
        subst q'
        obtain rfl : u = Value.bool true := r'
        refine ⟨rfl, OldK.of_keep fun b o e => ?_, os, bare⟩
        cases q : H b with
        | none => exact un.keep b o e q (by intro z; exact absurd (show b ∈ ([] : List Addr) from z) (by simp)) (by simp)
        | some u =>
          rcases only b with z | ⟨ob, xs, z⟩
          · rw [q] at z; cases z
          · have z2 := un.frzs b ob _ z
            obtain ⟨e1, _⟩ := good b _ z
            obtain ⟨e2, _⟩ := good' b _ z2
            rw [e] at e1; cases e1
            exact e2
  cases hk : K.lookup a with
  | some o =>
    have e := KX a o hk
    rw [ha] at e
    cases e
    refine core (fun _ => none) (fun _ => .inl rfl) (.inr ⟨_, vs.toArray, _, hk, rfl, rfl, rfl, by rw [List.size_toArray, len]; exact hl, by simpa using rv⟩) (fun b u z => by have z' : (none : Option HO) = some u := z; cases z') (fun b z => absurd rfl z) fun z => absurd rfl z
  | none =>
    refine core (fun b => if b = a then some (.frz { cls := .type "list", data := .seq vs.toArray } (.lst (ns.map V.int))) else none) (fun b => ?_) (.inl (.inr ⟨{ cls := .type "list", data := .seq vs.toArray }, if_pos rfl⟩)) (fun b u z => ?_) (fun b z => ?_) fun _ => hk
    · by_cases hb : b = a
      · exact .inr ⟨_, _, if_pos hb⟩
      · exact .inl (if_neg hb)
    · by_cases hb : b = a
      · have z' := (if_pos hb).symm.trans z
        cases z'
        subst hb
        exact ⟨ha, by rw [List.length_map]; exact hl, vs, _, rv, ha⟩
      · have z' := (if_neg hb).symm.trans z
        cases z'
    · by_cases hb : b = a
      · exact hb
      · exact absurd (if_neg hb) z
theorem walk_ofD {l : PySem.W.OpenLaw} {n k : Nat} {q : Program} {loose : List Str} {XP : (Str → Option Value) → Heap → Prop} {YP : World → Heap → Prop} {d : DefRec} {K : Params → PySem.W.Frag} {sp : DSp} {x : Str}
    (hn : l.most = some n) (hn2 : n ≤ sizeLine) (hdf : d.params.defaults = []) (hr : Room k callerA) (hY : ∀ (w : World) (h : Heap), YP w h → (K w.params).In h)
    (F : ∀ (w : World) (mg : Str → Option Value) (fa : Addr) (h : Heap), (K w.params).In h → h.Ns mainGlobals mg → mg d.name = some (.ref fa) →
      ∃ fd : FuncData, (∀ (s : Shared) (u : Value), BindsTo s fd ⟨[u], []⟩ [(x, u)]) ∧ ∀ base : Heap, (K w.params).In base → base.Ns mainGlobals mg → FnG l.prog w (K w.params) mg base k fa fd [x] (upSp (K w.params) sp))
    (hsp : ∀ ns : List Int, ns.length ≤ n → (∀ z ∈ ns, Builtin.Int.intBits z ≤ 1048576) → sp [.scr ns] M0 (fun d _ => d = .bl true) fun _ _ _ => False) :
    PySem.W.WalkO q loose XP YP l.row.toRowW d [] (fun f vs => PySem.call f vs) := by
  refine Att.attach_callB hn hdf fun w s₀ s₁ mg mb fa o pm cd doc a vs ns G Y ho hd hcd hmg hobj hints hlen hbits hg => ?_
  have KX := hY w _ Y
  obtain ⟨fd, hb, hF⟩ := F w mg fa _ KX G.T.g hmg
  exact law_goes KX G.T.g G.T.b G.T.builtins G.T.nolimit hg hobj hints (Nat.le_trans hlen hn2) hr hF hb (hsp ns hlen hbits)
end
end Dv
namespace Dv
open PySem PySem.Spec L2
section
variable {X : Cx} {R F0 : Hp} {K : PySem.W.Frag} {a b c : Expr} {ta tb tc : DE} {pos : Pos}
def dChain (r r' : DR2) (ta tb tc : DE) : DE := fun ds M Q => ta ds M fun x M1 => tb ds M1 fun y M2 => r x y M2 fun z M3 => match z with
  | .bl k => Br k (tc ds M3 fun w M4 => r' y w M4 Q) (Q (.bl false) M3)
  | _ => False
theorem chain_up {r r' : DR2} {rv rv' : R2} (o : Op2 X.K r rv) (o' : Op2 X.K r' rv') : ∀ σ H Q, up X.K R F0 (dChain r r' ta tb tc) σ H Q → tChain rv rv' (up X.K R F0 ta) (up X.K R F0 tb) (up X.K R F0 tc) σ H Q := by
  rintro σ H Q ⟨F, ds, M, Qd, a, h, c⟩
  refine ⟨F, ds, M, _, a, h, fun F1 H1 M1 x vx e1 m1 r1 q1 => ?_⟩
  refine ⟨F1, ds, M1, _, a.go e1 m1, q1, fun F2 H2 M2 y vy e2 m2 r2 q2 => ?_⟩
  refine o R F2 H2 M2 x y vx vy _ _ m2 (r1.mono e2) r2 q2 fun F3 H3 M3 z vz e3 m3 r3 q3 => ?_
  cases r3 with
  | bl k =>
    refine ⟨k, rfl, ite_of_br ⟨fun e => ?_, fun e => ?_⟩⟩
    · refine ⟨F3, ds, M3, _, a.go ((e1.trans e2).trans e3) m3, q3.yes e, fun F4 H4 M4 w vw e4 m4 r4 q4 => ?_⟩
      exact o' R F4 H4 M4 y w vy vw _ _ m4 (r2.mono (e3.trans e4)) r4 q4 (c.mono (((e1.trans e2).trans e3).trans e4))
    · exact c _ _ _ _ _ ((e1.trans e2).trans e3) m3 (.bl false) (q3.no e)
  | _ => exact q3.elim
theorem pd_chain {op op' : CmpOp} {r r' : DR2} {rv rv' : R2} (ho : OpR X (compareOp op) rv) (o : Op2 X.K r rv) (ho' : OpR X (compareOp op') rv') (o' : Op2 X.K r' rv') (ha : PDE R F0 X a ta) (hb : PDE R F0 X b tb) (hc : PDE R F0 X c tc)
    (hm : lastMarks [op, op'] [b, c] = false := by with_unfolding_all rfl) : PDE R F0 X (.Compare a [op, op'] [b, c] pos) (dChain r r' ta tb tc) := PE.imp (pe_chain ho ho' ha hb hc hm) (chain_up o o')
theorem pdt_chain {op op' : CmpOp} {r r' : DR2} {rv rv' : R2} (ho : OpR X (compareOp op) rv) (o : Op2 X.K r rv) (ho' : OpR X (compareOp op') rv') (o' : Op2 X.K r' rv') (ha : PDE R F0 X a ta) (hb : PDE R F0 X b tb) (hc : PDE R F0 X c tc)
    (hm : lastMarks [op, op'] [b, c] = false := by with_unfolding_all rfl) : PDT R F0 X (.Compare a [op, op'] [b, c] pos) (dB (dChain r r' ta tb tc)) := by
  refine PT.imp (pt_chain ho ho' ha hb hc hm) ?_
  rintro σ H Q ⟨F, ds, M, Qd, a, h, c⟩
  refine chain_up o o' σ H _ ⟨F, ds, M, _, a, h, fun F1 H1 M1 x vx e1 m1 r1 q1 => ?_⟩
  cases r1 with
  | bl k => exact ⟨k, rfl, c _ _ _ _ e1 m1 q1⟩
  | _ => exact q1.elim
end
structure Dn (K : PySem.W.Frag) (mg : Str → Option Value) (x qual : Str) (st : Stmt) (ps : List Str) (f : Addr) (fd : FuncData) : Prop where
  g : mg x = some (.ref f)
  d : FunD K x qual (defArgs st) (defBody st) (defScope st) [] [] f fd
  b : Binds K fd ps []
structure Cal (P : Program) (w : World) (K : PySem.W.Frag) (mg : Str → Option Value) (base : Heap) (k : Nat) (x : Str) (f : Addr) (fd : FuncData) (ps : List Str) (sp : DSp) : Prop where
  G : FnG P w K mg base k f fd ps (upSp K sp)
  g : mg x = some (.ref f)
  kp : PySem.W.keepIn K (.ref f) = true
  b : Binds K fd ps []
theorem Cal.imp {P : Program} {w : World} {K : PySem.W.Frag} {mg : Str → Option Value} {base : Heap} {k : Nat} {x : Str} {f : Addr} {fd : FuncData} {ps : List Str} {sp sp' : DSp} (C : Cal P w K mg base k x f fd ps sp) (h : ∀ ds M Q E, sp' ds M Q E → sp ds M Q E) : Cal P w K mg base k x f fd ps sp' :=
  ⟨⟨fun vs H Q E ⟨R, F, ds, M, Qd, Ed, m, r, q, c, cx⟩ => C.G.len vs H Q E ⟨R, F, ds, M, Qd, Ed, m, r, h _ _ _ _ q, c, cx⟩,
    fun A outer s H args us vs Q E hr hG e0 hb rv ⟨R, F, ds, M, Qd, Ed, m, r, q, c, cx⟩ => C.G.run A outer s H args us vs Q E hr hG e0 hb rv ⟨R, F, ds, M, Qd, Ed, m, r, h _ _ _ _ q, c, cx⟩⟩, C.g, C.kp, C.b⟩
section
variable {P : Program} {w : World} {K : PySem.W.Frag} {mg : Str → Option Value} {base : Heap}
theorem cal_of {x qual : Str} {st : Stmt} {f : Addr} {fd : FuncData} {N ps : List Str} (k : Nat) {sp : DSp} (DD : Dn K mg x qual st ps f fd) (S : FnScope N ps (defScope st)) (len : ∀ ds M Q E, sp ds M Q E → ds.length = ps.length)
    (hb : ∀ (cdv : Value) (A : Around) (outer : List Env) (s : Shared) (H : Hp) (E0 : XK) (R F : Hp) (ds : List D) (M : MH) (Q : DQ) (E : DX),
      Room k (cxOf (L2.CX P w) P w K mg base N qual (defScope st) f cdv A outer s H E0).A → (cxOf (L2.CX P w) P w K mg base N qual (defScope st) f cdv A outer s H E0).A.guards = some [] →
      DTakes R F (cxOf (L2.CX P w) P w K mg base N qual (defScope st) f cdv A outer s H E0) (fun cls d _ M => E cls d M) → sp ds M Q E →
      ∃ t, PDSs R F (cxOf (L2.CX P w) P w K mg base N qual (defScope st) f cdv A outer s H E0) (defBody st) t ∧ t { nx := fun _ M' => Q .non M', rt := Q } (dstart N ds) M) : Cal P w K mg base (k + 1) x f fd ps sp :=
  ⟨fnD_of DD.d S len hb, DD.g, DD.d.kp, DD.b⟩
theorem funD_mk {x qual : Str} {st : Stmt} {f : Addr} {oc : Value} {od an : Option Addr} {osl : Array (Option Value)} {kV doc pm cdv ct : Value} (l : K.lookup f = some ⟨oc, od, .func (PySem.W.fnOf x qual (defArgs st) (defBody st) (defScope st) .none kV doc pm an cdv ct), osl⟩)
    (c : PySem.W.codeIn K cdv qual = true) (k : PySem.W.keepIn K (.ref f) = true) : FunD K x qual (defArgs st) (defBody st) (defScope st) [] [] f (PySem.W.fnOf x qual (defArgs st) (defBody st) (defScope st) .none kV doc pm an cdv ct) :=
  ⟨⟨oc, od, .none, kV, doc, pm, an, cdv, ct, osl, rfl, l, c, .inl ⟨rfl, rfl⟩, .inl rfl⟩, k⟩
end
section
variable {X : Cx} {R F0 : Hp} {k j : Nat} {f : Addr} {fd : FuncData} {ps : List Str} {sp : DSp} {W : DWX} {x : Str} {p pos : Pos} {e : Expr} {es : List Expr}
theorem pd_cal {t : DA} (C : Cal X.prog X.w X.K X.mg X.base k x f fd ps sp) (hr : Room j X.A) (hk : k ≤ j) (hG : X.A.guards = some []) (tk : DTakes R F0 X W) (ha : PDA R F0 X (e :: es) t) (hg : Gl X x := by rfl) (hdb : (x == ("__debug__" : Str)) = false := by decide)
    (he : starEach (e :: es) X.env = (false, eval e X.env) :: starEach es X.env := by rfl) (hpl : (backTo pos (starEach es X.env)).any (·.1) = false := by rfl) : PDE R F0 X (.Call (.Name x p) (e :: es) [] pos) (dCall sp [] W t) :=
  pd_call C.G (hr.mono hk) hG hg C.g C.kp C.b Dfl.nil tk ha hdb he hpl
theorem pd_cal0 (C : Cal X.prog X.w X.K X.mg X.base k x f fd ps sp) (hr : Room j X.A) (hk : k ≤ j) (hG : X.A.guards = some []) (tk : DTakes R F0 X W) (hg : Gl X x := by rfl) (hdb : (x == ("__debug__" : Str)) = false := by decide) :
    PDE R F0 X (.Call (.Name x p) [] [] pos) (dCall sp [] W dNil) := pd_call0 C.G (hr.mono hk) hG hg C.g C.kp C.b Dfl.nil tk hdb
end
end Dv
namespace Dv
open PySem PySem.Spec L2
section
variable {X : Cx} {R F0 : Hp} {K : PySem.W.Frag} {a b c : Expr} {ta tb tc : DE} {pos : Pos}
def dPar (i j : Nat) (t : DA) : DS := fun D ds M => t ds M fun xs M1 => match xs with
  | [x, y] => D.nx ((ds.set i (some x)).set j (some y)) M1
  | _ => False
theorem pd_par (i j : Nat) {x y : Str} {a b : Expr} {t : DA} {px py pt : Pos} {kt k2 pt2} (hc : X.calm = true) (hN : X.N.Nodup) (ha : PDA R F0 X [a, b] t) (hi : X.N[i]? = some x := by rfl) (hj : X.N[j]? = some y := by rfl) (hij : i ≠ j := by decide)
    (hx : X.env.scope.names.lookup x = some .local := by rfl) (hy : X.env.scope.names.lookup y = some .local := by rfl)
    (hw : swappedStores [.Tuple [.Name x px, .Name y py] kt pt] (.Tuple [a, b] k2 pt2) X.env = pure (some [x, y]) := by rfl)
    (hs : swapsWithSole [.Tuple [.Name x px, .Name y py] kt pt] (.Tuple [a, b] k2 pt2) pos.line X.env = pure false := by rfl) : PDS R F0 X (.Assign [.Tuple [.Name x px, .Name y py] kt pt] (.Tuple [a, b] k2 pt2) pos) (dPar i j t) := by
  refine PS.imp (ps_par hc hN hi hj hij hx hy ha hw hs) ?_
  rintro D σ H ⟨F, ds, M, Dd, a, h, c⟩
  refine ⟨F, ds, M, _, a, h, fun F1 H1 M1 xs vs e1 m1 r1 q1 => ?_⟩
  split at q1
  · obtain ⟨v, w, rfl, r2, r3⟩ := repl_two r1
    exact ⟨v, w, rfl, c.nx _ _ _ _ _ e1 m1 (((a.rs.mono e1).set r2 i).set r3 j) q1⟩
  · exact q1.elim
theorem pd_dct0 : PDE R F0 X (.Dict [] [] pos) (dC (.dct [])) := by
  refine PE.imp pe_dnewK ?_
  rintro σ H Q ⟨F, ds, M, Qd, a, h, c⟩
  exact fun p n => c.cold a.hm n (.dct upd_same .nil) h
def dDct1 (tk tv : DE) : DE := fun ds M Q => tk ds M fun x M1 => tv ds M1 fun y M2 => match x with
  | .int i => Q (.dct [(.inl i, y)]) M2
  | .str s => Q (.dct [(.inr s, y)]) M2
  | _ => False
theorem pd_dct1 {k v : Expr} {tk tv : DE} (hk : ∀ R, PDE R F0 X k tk) (hv : ∀ R, PDE R F0 X v tv) : PDE R F0 X (.Dict [some k] [v] pos) (dDct1 tk tv) := by
  refine PE.imp (pe_disp (pps_cons (PE.ex hk) (PE.ex hv) pps_nil) rfl rfl (by simp) (by simp)) ?_
  rintro σ H Q ⟨F, ds, M, Qd, a, h, c⟩
  intro p hp
  have nR := a.hm.freeR hp
  refine ⟨upd R p (.dK []), F, ds, M, _, ⟨a.ex, a.hm.lend hp, a.rs⟩, h, fun F1 H1 M1 x vx e1 m1 r1 q1 => ⟨upd R p (.dK []), F1, ds, M1, _, ⟨a.ex.trans e1, m1, a.rs.mono e1⟩, q1, fun F2 H2 M2 y vy e2 m2 r2 q2 => ?_⟩⟩
  refine ⟨(m2.rr p _ upd_same).1, ?_⟩
  have fin : ∀ key : Key, vx = kV key → Qd (.dct [(key, y)]) M2 → ∃ kvs : List (Key × V), [(vx, vy)] = kvs.map (fun kv => (kV kv.1, kv.2)) ∧ kvs.length ≤ 15 ∧ Q (.ref p) (upd H2 p (.dK (mergeK [] kvs))) := fun key ek q => by
    refine ⟨[(key, vy)], by rw [ek]; rfl, by simp, ?_⟩
    obtain ⟨e3, m3⟩ := (m2.lent (v := .dK [(key, vy)]) nR).back nR
    have z : mergeK [] [(key, vy)] = [(key, vy)] := rfl
    rw [z]
    exact c _ _ _ _ _ ((e1.trans e2).trans e3) m3 (.dct upd_same (.cons (r2.mono e3) .nil)) q
  split at q2
  · cases r1; exact fin (.inl _) rfl q2
  · cases r1; exact fin (.inr _) rfl q2
  · exact q2.elim
end
theorem hu_room {X : Cx} {k : Nat} (r : Room k X.A) : X.A.units + 64 < cLine := by
  have := r.un
  omega
def Pool (M : MH) (p : Addr) : Prop := ∃ a b c : Int, M p = some (.lst [.int a, .int b, .int c]) ∧ 0 ≤ a ∧ a < 2147483648 ∧ 0 ≤ b
structure Go (p : Addr) (M M' : MH) : Prop where
  pool : Pool M' p
  old : ∀ q o, q ≠ p → M q = some o → M' q = some o
theorem Go.trans {p : Addr} {M M1 M2 : MH} (g : Go p M M1) (h : Go p M1 M2) : Go p M M2 := ⟨h.pool, fun q o n e => h.old q o n (g.old q o n e)⟩
theorem Go.refl {p : Addr} {M : MH} (h : Pool M p) : Go p M M := ⟨h, fun _ _ _ e => e⟩
theorem Pool.set {M : MH} {p : Addr} {a b c : Int} (ha : 0 ≤ a) (hb : a < 2147483648) (hc : 0 ≤ b) : Go p M (mup M p (.lst [.int a, .int b, .int c])) := ⟨⟨a, b, c, mup_same, ha, hb, hc⟩, fun q o n e => by rw [mup_ne n]; exact e⟩
theorem Go.new {p q : Addr} {M : MH} {o : MO} (h : Pool M p) (n : M q = none) : Go p M (mup M q o) := by
  have hq : ∀ r o', M r = some o' → mup M q o r = some o' := fun r o' e => by
    rw [mup_ne (fun z => by rw [z, n] at e; cases e)]
    exact e
  obtain ⟨a, b, c, e, z⟩ := h
  exact ⟨⟨a, b, c, hq _ _ e, z⟩, fun r o' _ e' => hq r o' e'⟩
end Dv
namespace Dv
open PySem PySem.Spec L2
theorem loop_inv {g : DG} {body : DS} {W : DEnds} (Iv : List D → Sl → MH → Prop) (hend : ∀ ds M, Iv [] ds M → W.nx ds M)
    (step : ∀ x rest ds M, Iv (x :: rest) ds M → (∀ ds M, Iv rest ds M → dLoop g body W rest ds M) → g x ds M fun ds1 M1 => body { nx := dLoop g body W rest, rt := W.rt, bk := W.nx, ct := dLoop g body W rest } ds1 M1) :
    ∀ (xs : List D) (ds : Sl) (M : MH), Iv xs ds M → dLoop g body W xs ds M
  | [], ds, M, h => hend ds M h
  | x :: xs, ds, M, h => step x xs ds M h fun ds M h => loop_inv Iv hend step xs ds M h
theorem lc_inv {g : DG} {tt : DT} {te : DE} {vs : List Nat} {ds : Sl} {Q : List D → MH → Prop} (Iv : List D → List D → MH → Prop) (hend : ∀ acc M, Iv [] acc M → Q acc M)
    (step : ∀ x rest acc M, Iv (x :: rest) acc M → (∀ acc M, Iv rest acc M → dLcL g tt te vs ds Q rest acc M) →
      g x (dwipe ds vs) M fun ds1 M1 => tt ds1 M1 fun b M2 => Br b (te ds1 M2 fun y M3 => acc.length < sizeLine ∧ dLcL g tt te vs ds Q rest (acc ++ [y]) M3) (dLcL g tt te vs ds Q rest acc M2)) :
    ∀ (xs acc : List D) (M : MH), Iv xs acc M → dLcL g tt te vs ds Q xs acc M
  | [], acc, M, h => hend acc M h
  | x :: xs, acc, M, h => step x xs acc M h fun acc M h => lc_inv Iv hend step xs acc M h
theorem small_line {n : Nat} (h : n < 1000000) : n < sizeLine := by
  rw [sizeLine_eq]
  omega
theorem small_le {n : Nat} (h : n < 1000000) : n ≤ sizeLine := Nat.le_of_lt (small_line h)
theorem Sh.non {n k : Nat} : Sh n k .non := ⟨rfl, rfl, rfl, Nat.zero_le _, Nat.zero_le _⟩
theorem Sh.bl {n k : Nat} (b : Bool) : Sh n k (.bl b) := ⟨rfl, rfl, rfl, Nat.zero_le _, Nat.zero_le _⟩
theorem log2_small {n : Nat} (h : n < 10 ^ 50) : n.log2 < 170 := by
  by_cases z : n = 0
  · subst z; decide
  · have e := (Nat.log2_lt z (k := 170)).mpr (Nat.lt_trans h (by decide +kernel))
    exact e
theorem Sh.int {n k : Nat} {i : Int} (h : i.natAbs < 10 ^ 50) (hk : 200 ≤ k) : Sh n k (.int i) := by
  have l := log2_small h
  have e := int_text_length_le10 (k := 50) (by decide) h
  refine ⟨rfl, ?_, ?_, Nat.zero_le _, ?_⟩
  · show PyData.showable (.int i) = true
    simp only [PyData.showable, decide_eq_true_eq]
    omega
  · show PyData.leavesShort 64 (.int i) = true
    simp only [PyData.leavesShort, decide_eq_true_eq]
    show (Str.ofString (toString i)).length ≤ 64
    rw [ofString_length]
    omega
  · show PyData.weight (.int i) ≤ k
    simp only [PyData.weight]
    split <;> omega
def Sg (x : Str) : Prop := ∀ c ∈ x.cps.toList, c < 1114112
theorem Sh.str {n k : Nat} {x : Str} (h : Sg x) (hk : x.length ≤ k) : Sh n k (.str x) := by
  refine ⟨rfl, rfl, ?_, Nat.zero_le _, hk⟩
  show PyData.leavesShort 64 (.str x) = true
  simp only [PyData.leavesShort, List.all_eq_true, decide_eq_true_eq]
  intro c hc
  have := h c hc
  exact Nat.lt_trans this (by decide)
theorem sg_ofString (s : String) : Sg (Str.ofString s) := by
  intro c hc
  rw [Str.ofString_eq_toList] at hc
  simp only [List.mem_map] at hc
  obtain ⟨d, _, rfl⟩ := hc
  have := d.valid
  show d.val.toNat < 1114112
  rcases this with h | h
  · have : d.val.toNat < 0xd800 := h
    omega
  · exact h.2
theorem Sh.txt {n k : Nat} (s : String) (h : s.length ≤ k) : Sh n k (.str (Str.ofString s)) := .str (sg_ofString s) (by rw [ofString_length]; exact h)
theorem Sh.listAll {n k : Nat} : ∀ {xs : List D}, (∀ d ∈ xs, Sh n k d) → plainL xs = true ∧ PyData.showableAll (pOfL xs) = true ∧ PyData.leavesShortAll 64 (pOfL xs) = true ∧ PyData.depthAll (pOfL xs) ≤ n ∧ PyData.weightAll (pOfL xs) ≤ xs.length * (k + 1)
  | [], _ => ⟨rfl, rfl, rfl, Nat.zero_le _, Nat.zero_le _⟩
  | x :: xs, h => by
    have a := h x List.mem_cons_self
    obtain ⟨b1, b2, b3, b4, b5⟩ := Sh.listAll (xs := xs) fun d m => h d (List.mem_cons_of_mem _ m)
    refine ⟨?_, ?_, ?_, ?_, ?_⟩
    · simp only [plainL, a.pl, b1, Bool.and_self]
    · simp only [pOfL, PyData.showableAll, a.sw, b2, Bool.and_self]
    · simp only [pOfL, PyData.leavesShortAll, a.lv, b3, Bool.and_self]
    · simp only [pOfL, PyData.depthAll]
      exact Nat.max_le.mpr ⟨a.dp, b4⟩
    · simp only [pOfL, PyData.weightAll, List.length_cons]
      have := a.wt
      have e : (xs.length + 1) * (k + 1) = xs.length * (k + 1) + (k + 1) := Nat.succ_mul _ _
      omega
theorem Sh.lst {n k : Nat} {xs : List D} (h : ∀ d ∈ xs, Sh n k d) : Sh (n + 1) (xs.length * (k + 1)) (.lst xs) := by
  obtain ⟨b1, b2, b3, b4, b5⟩ := Sh.listAll h
  refine ⟨b1, ?_, ?_, ?_, ?_⟩
  · simpa only [pOf, PyData.showable] using b2
  · simpa only [pOf, PyData.leavesShort] using b3
  · simp only [pOf, PyData.depth]
    omega
  · simpa only [pOf, PyData.weight] using b5
theorem Sh.tup {n k : Nat} {xs : List D} (h : ∀ d ∈ xs, Sh n k d) : Sh (n + 1) (xs.length * (k + 1)) (.tup xs) := by
  obtain ⟨b1, b2, b3, b4, b5⟩ := Sh.listAll h
  refine ⟨b1, ?_, ?_, ?_, ?_⟩
  · simpa only [pOf, PyData.showable] using b2
  · simpa only [pOf, PyData.leavesShort] using b3
  · simp only [pOf, PyData.depth]
    omega
  · simpa only [pOf, PyData.weight] using b5
theorem all_nil {p : D → Prop} : ∀ d ∈ ([] : List D), p d := fun d h => by cases h
theorem all_cons {p : D → Prop} {x : D} {xs : List D} (h : p x) (r : ∀ d ∈ xs, p d) : ∀ d ∈ x :: xs, p d := fun d m => by
  rcases List.mem_cons.mp m with rfl | m
  · exact h
  · exact r d m
theorem kind_of {d : D} {n k : Nat} (h : Sh n k d) : (d = .non ∨ (∃ b, d = .bl b) ∨ (∃ i, d = .int i) ∨ (∃ x, d = .str x)) ∨ (∃ xs, d = .tup xs) ∨ (∃ xs, d = .lst xs) ∨ ∃ ks, d = .dct ks := by
  have p := h.pl
  cases d with
  | non => exact .inl (.inl rfl)
  | bl b => exact .inl (.inr (.inl ⟨b, rfl⟩))
  | int i => exact .inl (.inr (.inr (.inl ⟨i, rfl⟩)))
  | str x => exact .inl (.inr (.inr (.inr ⟨x, rfl⟩)))
  | tup xs => exact .inr (.inl ⟨xs, rfl⟩)
  | lst xs => exact .inr (.inr (.inl ⟨xs, rfl⟩))
  | dct ks => exact .inr (.inr (.inr ⟨ks, rfl⟩))
  | ty n => cases p
  | ref a => cases p
  | sl C xs => cases p
  | ins C fs => cases p
  | scr ns => cases p
end Dv
namespace Dv
open PySem PySem.Spec L2
theorem cmL {i j : Int} (a : -(2 ^ 64) < i) (b : i < 2 ^ 64) : CMulA i j := .inl (.inl ⟨a, b⟩)
theorem cmR {i j : Int} (a : -(2 ^ 64) < j) (b : j < 2 ^ 64) : CMulA i j := .inl (.inr ⟨a, b⟩)
theorem cdw {i j : Int} (a : 0 < j) (b : j < 2 ^ 64) : CDivW i j := by
  refine ⟨a, ?_⟩
  have h : j.natAbs < 10 ^ 50 := by omega
  have := log2_small h
  omega
theorem cdp {i j : Int} (a : 0 < j) (b : j < 2 ^ 64) : CDivP i j := by
  refine ⟨a, ?_⟩
  have h : j.natAbs < 10 ^ 50 := by omega
  have l := log2_small h
  unfold Builtin.divisionGoesByPylong
  have z : (j == 0) = false := by
    have : j ≠ 0 := by omega
    simpa using this
  simp only [z]
  have : ¬ (j.natAbs.log2 / 30 + 1 > 300) := by omega
  simp [this]
theorem cp10 {j : Int} (a : 0 ≤ j) (b : j ≤ 1000000) : CPow 10 j := ⟨a, b, by decide⟩
theorem ints_all {ns : List Int} : ∀ d ∈ ns.map D.int, ∃ n, d = .int n := fun d h => by
  obtain ⟨n, _, rfl⟩ := List.mem_map.mp h
  exact ⟨n, rfl⟩
theorem cut_all {p : D → Prop} {xs : List D} {lo hi : Option Int} (h : ∀ d ∈ xs, p d) : ∀ d ∈ cutD xs lo hi, p d := fun d m => h d (List.mem_of_mem_drop (List.mem_of_mem_take m))
theorem atI_in {α : Type} {xs : List α} {i : Int} (h0 : 0 ≤ i) (h1 : i < xs.length) : ∃ d, atI xs i = some d ∧ d ∈ xs := by
  have l : i.toNat < xs.length := by omega
  refine ⟨xs[i.toNat], ?_, List.getElem_mem l⟩
  unfold atI ixN
  rw [if_pos h0, if_pos h1]
  exact List.getElem?_eq_getElem l
theorem Pool.ne {M : MH} {p : Addr} {o : MO} (h : Pool M p) : ∃ a b c : Int, M p = some (.lst [.int a, .int b, .int c]) := let ⟨a, b, c, e, _⟩ := h; ⟨a, b, c, e⟩
structure Odd (d : D) : Prop where
  sh : Sh 10 2000 d
  sm : ∀ i, d = .int i → i.natAbs < 10 ^ 41
  sg : ∀ x, d = .str x → Sg x
theorem Odd.of {d : D} (h : Sh 10 2000 d) (n : ∀ i, d ≠ .int i) (s : ∀ x, d ≠ .str x := by intro x z; cases z) : Odd d := ⟨h, fun i e => absurd e (n i), fun x e => absurd e (s x)⟩
theorem Odd.str {x : Str} (h : Sg x) (l : x.length ≤ 2000) : Odd (.str x) := ⟨.str h l, fun i e => (by cases e), fun y e => by cases e; exact h⟩
theorem Odd.int {i : Int} (h : i.natAbs < 10 ^ 41) : Odd (.int i) := ⟨.int (Nat.lt_trans h (by decide +kernel)) (by decide), (fun j e => by cases e; exact h), fun x e => by cases e⟩
theorem Odd.txt (s : String) (h : s.length ≤ 2000) : Odd (.str (Str.ofString s)) := .str (sg_ofString s) (by rw [ofString_length]; exact h)
theorem Odd.tup {n k : Nat} {xs : List D} (h : ∀ d ∈ xs, Sh n k d) (a : n < 10) (b : xs.length * (k + 1) ≤ 2000) : Odd (.tup xs) := .of ((Sh.tup h).mono a b) fun i e => by cases e
theorem Odd.lst {n k : Nat} {xs : List D} (h : ∀ d ∈ xs, Sh n k d) (a : n < 10) (b : xs.length * (k + 1) ≤ 2000) : Odd (.lst xs) := .of ((Sh.lst h).mono a b) fun i e => by cases e
theorem e41 : (10 : Nat) ^ 41 = 100000000000000000000000000000000000000000 := by decide
theorem e50 : (10 : Nat) ^ 50 = 100000000000000000000000000000000000000000000000000 := by decide
theorem Odd.num {i : Int} (a : -1000000 ≤ i) (b : i ≤ 1000000) : Odd (.int i) := .int (by rw [e41]; omega)
theorem sh_num {n k : Nat} {i : Int} (a : -1000000 ≤ i) (b : i ≤ 1000000) (hk : 200 ≤ k) : Sh n k (.int i) := .int (by rw [e50]; omega) hk
theorem odd_str_num {i : Int} (a : -1000000 ≤ i) (b : i ≤ 1000000) : Odd (.str (toString i)) := by
  have e := int_text_length_le10 (k := 12) (a := i) (by decide) (by omega)
  exact Odd.txt (toString i) (by omega)
theorem sl (n : Nat) (h : n < 1000000 := by decide) : n ≤ sizeLine := small_le h
theorem odd_menu {m : Int} (a : -1000000 ≤ m) (b : m ≤ 1000000) : ∀ d ∈ ([.non, .int 0, .int 1, .bl true, .bl false, .str (Str.ofString ""), .str (Str.ofString "a b"), .str (Str.ofString "down"), .tup [], .tup [.str (Str.ofString "a"), .int 0], .lst [.int 1], .lst [], .dct [],
    .dct [(.inr (Str.ofString "a"), .tup [.int 1])], .int (-1), .int (10 ^ 39)] ++ [.tup [.str (Str.ofString "a"), .non, .lst [.int 2]], .int m, .str (Str.ofString (toString m)), .tup [.int m], .tup [.tup [.str (Str.ofString "x")], .tup []], .lst [.lst [], .lst [.non]], .int 24, .str (Str.ofString "near"),
    .tup [.tup [], .lst [], .dct []]] : List D), Odd d := by
  have c1 : Sh 3 300 (.str (Str.ofString "a")) := .txt "a" (by decide)
  have c2 : ∀ i : Int, -1000000 ≤ i → i ≤ 1000000 → Sh 3 300 (.int i) := fun i a b => sh_num a b (by decide)
  have c3 : Sh 3 300 (.dct []) := ⟨rfl, rfl, rfl, by decide, by decide⟩
  have c4 : Sh 3 300 (.lst []) := ⟨rfl, rfl, rfl, by decide, by decide⟩
  have c5 : Sh 3 300 (.tup []) := ⟨rfl, rfl, rfl, by decide, by decide⟩
  show ∀ d ∈ ([_, _, _, _, _, _, _, _, _, _, _, _, _, _, _, _, _, _, _, _, _, _, _, _, _] : List D), Odd d
  refine all_cons (.of .non nofun) <| all_cons (.num (by decide) (by decide)) <| all_cons (.num (by decide) (by decide)) <| all_cons (.of (.bl _) nofun) <| all_cons (.of (.bl _) nofun) <| all_cons (.txt "" (by decide)) <| all_cons (.txt "a b" (by decide)) <| all_cons (.txt "down" (by decide)) <| ?_
  refine all_cons (.of (c5.mono (by decide) (by decide)) nofun) <| all_cons (.tup (all_cons c1 <| all_cons (c2 0 (by decide) (by decide)) all_nil) (by decide) (by decide)) <| all_cons (.lst (all_cons (c2 1 (by decide) (by decide)) all_nil) (by decide) (by decide)) <| all_cons (.of (c4.mono (by decide) (by decide)) nofun) <| all_cons (.of (c3.mono (by decide) (by decide)) nofun) <| ?_
  refine all_cons (.of ⟨rfl, by decide +kernel, by decide +kernel, by decide +kernel, by decide +kernel⟩ nofun) <| all_cons (.num (by decide) (by decide)) <| all_cons (.int (by decide +kernel)) <| ?_
  refine all_cons (.tup (k := 600) (n := 4) (all_cons (c1.mono (by decide) (by decide)) <| all_cons .non <| all_cons ((Sh.lst (all_cons (c2 2 (by decide) (by decide)) all_nil)).mono (by decide) (by decide)) all_nil) (by decide) (by decide)) <| all_cons (.num a b) <| all_cons (odd_str_num a b) <| all_cons (.tup (all_cons (c2 m a b) all_nil) (by decide) (show 1 * 301 ≤ 2000 by decide)) <| ?_
  refine all_cons (.tup (k := 600) (n := 4) (all_cons ((Sh.tup (all_cons (Sh.txt (n := 3) (k := 300) "x" (by decide)) all_nil)).mono (by decide) (by decide)) <| all_cons (c5.mono (by decide) (by decide)) all_nil) (by decide) (by decide)) <| ?_
  refine all_cons (.lst (k := 600) (n := 4) (all_cons (c4.mono (by decide) (by decide)) <| all_cons ((Sh.lst (all_cons (Sh.non (n := 3) (k := 300)) all_nil)).mono (by decide) (by decide)) all_nil) (by decide) (by decide)) <| ?_
  exact all_cons (.num (by decide) (by decide)) <| all_cons (.txt "near" (by decide)) <| all_cons (.tup (all_cons c5 <| all_cons c4 <| all_cons c3 all_nil) (by decide) (by decide)) all_nil
end Dv
namespace Dv
open PySem PySem.Spec L2
section
variable {X : Cx} {R F0 : Hp} {k j : Nat} {f : Addr} {fd : FuncData} {ps : List Str} {sp : DSp} {W : DWX} {x : Str} {p pos : Pos} {e : Expr} {es : List Expr}
theorem pd_callK0 {tk : DA} {ks : List Str} {gD : List D → List D → List D} {kws : List Keyword} (G : FnG X.prog X.w X.K X.mg X.base k f fd ps (upSp X.K sp)) (hr : Room k X.A) (hG : X.A.guards = some []) (hg : Gl X x) (hm : X.mg x = some (.ref f)) (hk : PySem.W.keepIn X.K (.ref f) = true)
    (hb : KB X.K fd ps 0 ks gD) (tx : DTakes R F0 X W) (hkw : PDK R F0 X kws tk) (hall : (backToKw pos (keywordEach kws X.env)).all (·.1.isSome) = true := by rfl) (hks : (backToKw pos (keywordEach kws X.env)).filterMap (·.1) = ks := by rfl)
    (hdb : (x == ("__debug__" : Str)) = false := by decide)
    (hpl : ((backTo pos (starEach [] X.env)).any (·.1) || (backToKw pos (keywordEach kws X.env)).any (·.1.isNone)) = false := by rfl) :
    PDE R F0 X (.Call (.Name x p) [] kws pos) (dCallK 0 ks.length sp gD W dNil tk) := by
  obtain ⟨g, gV, kb, rel⟩ := hb.ex
  refine ⟨fun pins s σ H Q I h => ?_⟩
  obtain ⟨F, ds, M, Qd, a, h, c⟩ := h
  refine wpAny_Call_Name_kw (ld_glob I hg hm ?_ hdb)
  refine PySem.W.callWith_KW0 (h₀ := X.base) I.ok.mod.kin hk hall (thn (hkw.run pos pins s σ H (fun zs H2 => zs.length = ks.length ∧ upSp X.K sp (gV [] zs) H2 Q (fun cls d H' => upW X.K R F0 W cls d σ H')) I ⟨F, ds, M, _, a, h, fun F2 H2 M2 ys zs e2 m2 r2 q2 => ?_⟩) ?_) hpl
  · exact ⟨r2.length.symm.trans q2.1.2, sp_up (F1 := F2) (a.go e2 m2) (rel F2 _ _ _ _ .nil r2) q2.2 (c.mono e2)⟩
  · rintro us s2 ⟨zs, H2, I2, rz, l2, q2⟩
    rw [hks]
    exact ⟨I2.kIn, wpAny_call (at_call tx I2 (G.run X.A X.stack s2 H2 ⟨[], ks.zip us⟩ (g [] us) (gV [] zs) Q _ hr hG I2.env0 (kb.to s2 [] us I2.kIn rfl (rz.length.symm.trans l2)) (kb.rel .nil rz) q2))⟩
theorem pd_calK0 {tk : DA} {ks : List Str} {gD : List D → List D → List D} {kws : List Keyword} (C : Cal X.prog X.w X.K X.mg X.base k x f fd ps sp) (hb : KB X.K fd ps 0 ks gD) (hr : Room j X.A) (hk : k ≤ j) (hG : X.A.guards = some []) (tx : DTakes R F0 X W) (hkw : PDK R F0 X kws tk) (hg : Gl X x := by rfl)
    (hall : (backToKw pos (keywordEach kws X.env)).all (·.1.isSome) = true := by rfl) (hks : (backToKw pos (keywordEach kws X.env)).filterMap (·.1) = ks := by rfl) (hdb : (x == ("__debug__" : Str)) = false := by decide)
    (hpl : ((backTo pos (starEach [] X.env)).any (·.1) || (backToKw pos (keywordEach kws X.env)).any (·.1.isNone)) = false := by rfl) : PDE R F0 X (.Call (.Name x p) [] kws pos) (dCallK 0 ks.length sp gD W dNil tk) :=
  pd_callK0 C.G (hr.mono hk) hG hg C.g C.kp hb tx hkw hall hks hdb hpl
theorem pd_calKn {t tk : DA} {n : Nat} {ks : List Str} {gD : List D → List D → List D} {kws : List Keyword} (C : Cal X.prog X.w X.K X.mg X.base k x f fd ps sp) (hb : KB X.K fd ps n ks gD) (hr : Room j X.A) (hk : k ≤ j) (hG : X.A.guards = some []) (tx : DTakes R F0 X W) (ha : PDA R F0 X (e :: es) t) (hkw : PDK R F0 X kws tk) (hg : Gl X x := by rfl)
    (hall : (backToKw pos (keywordEach kws X.env)).all (·.1.isSome) = true := by rfl) (hks : (backToKw pos (keywordEach kws X.env)).filterMap (·.1) = ks := by rfl) (hdb : (x == ("__debug__" : Str)) = false := by decide) (he : starEach (e :: es) X.env = (false, eval e X.env) :: starEach es X.env := by rfl)
    (hpl : ((backTo pos (starEach (e :: es) X.env)).any (·.1) || (backToKw pos (keywordEach kws X.env)).any (·.1.isNone)) = false := by rfl) : PDE R F0 X (.Call (.Name x p) (e :: es) kws pos) (dCallK n ks.length sp gD W t tk) :=
  pd_callK C.G (hr.mono hk) hG hg C.g C.kp hb tx ha hkw hall hks hdb he hpl
end
def pick {α : Type} (z : α) (ix : List Nat) (xs : List α) : List α := ix.map fun i => xs.getD i z
theorem vals_getD : ∀ {vs : List V} {us : List Value}, Vals vs us → ∀ i, RelV (vs.getD i .non) (us.getD i .none)
  | _, _, .nil, i => by simp [RelV]
  | _, _, .cons r _, 0 => r
  | _, _, .cons _ rs, i + 1 => by simpa using vals_getD rs i
theorem repl_getD {K : PySem.W.Frag} {F : Hp} : ∀ {ds : List D} {vs : List V}, RepL K F ds vs → ∀ i, Rep K F (ds.getD i .non) (vs.getD i .non)
  | _, _, .nil, i => by simp; exact .non
  | _, _, .cons r _, 0 => r
  | _, _, .cons _ rs, i + 1 => by simpa using repl_getD rs i
theorem kb_of {K : PySem.W.Frag} {fd : FuncData} {ps : List Str} {n : Nat} {ks : List Str} (ix : List Nat) (h : ∀ (s : Shared) (us ws : List Value), K.In s.heap → us.length = n → ws.length = ks.length → BindsTo s fd ⟨us, ks.zip ws⟩ (ps.zip (pick .none ix (us ++ ws)))) :
    KB K fd ps n ks (fun xs ys => pick .non ix (xs ++ ys)) := by
  refine ⟨fun us ws => pick .none ix (us ++ ws), fun vs zs => pick .non ix (vs ++ zs), ⟨h, fun r1 r2 => ?_⟩, fun F ds vs es ws r1 r2 => ?_⟩
  · have r := r1.append r2
    unfold pick
    induction ix with
    | nil => exact .nil
    | cons i ix ih =>
      refine .cons (vals_getD r i) ?_
      clear h
      clear ih
      induction ix with
      | nil => exact .nil
      | cons j ix ih => exact .cons (vals_getD r j) ih
  · have r := r1.append r2
    unfold pick
    clear h
    induction ix with
    | nil => exact .nil
    | cons i ix ih => exact .cons (repl_getD r i) ih
def Gv (K : PySem.W.Frag) (mg : Str → Option Value) (x : Str) (d : D) : Prop := ∃ (v : V) (u : Value), mg x = some u ∧ RelV v u ∧ ∀ F, Rep K F d v
theorem pd_gv {X : Cx} {R F0 : Hp} {x : Str} {d : D} {pos : Pos} (g : Gv X.K X.mg x d) (hg : Gl X x) (hd : (x == ("__debug__" : Str)) = false := by decide) : PDE R F0 X (.Name x pos) (dC d) := by
  obtain ⟨v, u, hm, r, rd⟩ := g
  exact pd_glob hg hm r rd hd
def isInt : D → Bool
  | .int _ => true
  | _ => false
def isBl : D → Bool
  | .bl _ => true
  | _ => false
def isStr : D → Bool
  | .str _ => true
  | _ => false
def isTup : D → Bool
  | .tup _ => true
  | _ => false
def isLst : D → Bool
  | .lst _ => true
  | _ => false
def isDct : D → Bool
  | .dct _ => true
  | _ => false
def Kd (d : D) : Prop := (tyD d).isSome = true
theorem Sh.kd {n k : Nat} {d : D} (h : Sh n k d) : Kd d := by
  have p := h.pl
  cases d <;> first | rfl | (cases p)
theorem Odd.kd {d : D} (h : Odd d) : Kd d := h.sh.kd
theorem kd_int {d : D} {Q : Bool → Prop} (h : Kd d) (q : Q (isInt d || isBl d)) : isQ "int" d Q := by
  cases d with
  | non  => exact ⟨false, by decide +kernel, q⟩
  | bl b => exact ⟨true, by decide +kernel, q⟩
  | int b => exact ⟨true, by decide +kernel, q⟩
  | str b => exact ⟨false, by decide +kernel, q⟩
  | tup b => exact ⟨false, by decide +kernel, q⟩
  | lst b => exact ⟨false, by decide +kernel, q⟩
  | dct b => exact ⟨false, by decide +kernel, q⟩
  | _ => cases h
theorem kd_bool {d : D} {Q : Bool → Prop} (h : Kd d) (q : Q (isBl d)) : isQ "bool" d Q := by
  cases d with
  | non  => exact ⟨false, by decide +kernel, q⟩
  | bl b => exact ⟨true, by decide +kernel, q⟩
  | int b => exact ⟨false, by decide +kernel, q⟩
  | str b => exact ⟨false, by decide +kernel, q⟩
  | tup b => exact ⟨false, by decide +kernel, q⟩
  | lst b => exact ⟨false, by decide +kernel, q⟩
  | dct b => exact ⟨false, by decide +kernel, q⟩
  | _ => cases h
theorem kd_str {d : D} {Q : Bool → Prop} (h : Kd d) (q : Q (isStr d)) : isQ "str" d Q := by
  cases d with
  | non  => exact ⟨false, by decide +kernel, q⟩
  | bl b => exact ⟨false, by decide +kernel, q⟩
  | int b => exact ⟨false, by decide +kernel, q⟩
  | str b => exact ⟨true, by decide +kernel, q⟩
  | tup b => exact ⟨false, by decide +kernel, q⟩
  | lst b => exact ⟨false, by decide +kernel, q⟩
  | dct b => exact ⟨false, by decide +kernel, q⟩
  | _ => cases h
theorem kd_tuple {d : D} {Q : Bool → Prop} (h : Kd d) (q : Q (isTup d)) : isQ "tuple" d Q := by
  cases d with
  | non  => exact ⟨false, by decide +kernel, q⟩
  | bl b => exact ⟨false, by decide +kernel, q⟩
  | int b => exact ⟨false, by decide +kernel, q⟩
  | str b => exact ⟨false, by decide +kernel, q⟩
  | tup b => exact ⟨true, by decide +kernel, q⟩
  | lst b => exact ⟨false, by decide +kernel, q⟩
  | dct b => exact ⟨false, by decide +kernel, q⟩
  | _ => cases h
theorem kd_list {d : D} {Q : Bool → Prop} (h : Kd d) (q : Q (isLst d)) : isQ "list" d Q := by
  cases d with
  | non  => exact ⟨false, by decide +kernel, q⟩
  | bl b => exact ⟨false, by decide +kernel, q⟩
  | int b => exact ⟨false, by decide +kernel, q⟩
  | str b => exact ⟨false, by decide +kernel, q⟩
  | tup b => exact ⟨false, by decide +kernel, q⟩
  | lst b => exact ⟨true, by decide +kernel, q⟩
  | dct b => exact ⟨false, by decide +kernel, q⟩
  | _ => cases h
theorem kd_dict {d : D} {Q : Bool → Prop} (h : Kd d) (q : Q (isDct d)) : isQ "dict" d Q := by
  cases d with
  | non  => exact ⟨false, by decide +kernel, q⟩
  | bl b => exact ⟨false, by decide +kernel, q⟩
  | int b => exact ⟨false, by decide +kernel, q⟩
  | str b => exact ⟨false, by decide +kernel, q⟩
  | tup b => exact ⟨false, by decide +kernel, q⟩
  | lst b => exact ⟨false, by decide +kernel, q⟩
  | dct b => exact ⟨true, by decide +kernel, q⟩
  | _ => cases h
theorem asg_join {te : DE} {g : DG} {W : DEnds} {ds : Sl} {M : MH} (Pj : D → MH → Prop) (h : ∀ Q' : DQ, (∀ x M', Pj x M' → Q' x M') → te ds M Q') (tail : ∀ x M', Pj x M' → g x ds M' W.nx) : dAsg te g W ds M := h _ tail
theorem seq_join {t u : DS} {W : DEnds} {ds : Sl} {M : MH} (Pj : Sl → MH → Prop) (h : ∀ N : Sl → MH → Prop, (∀ ds M, Pj ds M → N ds M) → t { W with nx := N } ds M) (tail : ∀ ds M, Pj ds M → u W ds M) : dSeq t u W ds M := h _ tail
def Old (M M' : MH) : Prop := ∀ q o, M q = some o → M' q = some o
theorem Old.refl {M : MH} : Old M M := fun _ _ e => e
theorem Old.trans {M M1 M2 : MH} (g : Old M M1) (h : Old M1 M2) : Old M M2 := fun q o e => h q o (g q o e)
theorem Old.new {M : MH} {p : Addr} {o : MO} (n : M p = none) : Old M (mup M p o) := fun q o' e => by
  rw [mup_ne (fun z => by rw [z, n] at e; cases e)]
  exact e
theorem Old.go {M M' : MH} {p : Addr} (h : Old M M') (g : Pool M p) : Go p M M' := by
  obtain ⟨a, b, c, e, z⟩ := g
  exact ⟨⟨a, b, c, h _ _ e, z⟩, fun q o _ e => h q o e⟩
theorem Go.old' {p q : Addr} {M M' : MH} {o : MO} (g : Go p M M') (n : q ≠ p) (e : M q = some o) : M' q = some o := g.old q o n e
theorem Go.to_old {p : Addr} {M M' M2 : MH} (g : Go p M M') (h : Old M' M2) : Go p M M2 := g.trans (h.go g.pool)
theorem cmB {i j : Int} (a : i.natAbs < 10 ^ 50) (b : j.natAbs < 10 ^ 50) : CMulA i j := by
  have h1 := log2_small a
  have h2 := log2_small b
  refine .inr ?_
  show (Builtin.Int.intBits i : Int) + (Builtin.Int.intBits j : Int) ≤ 134217728
  have z : ∀ n : Int, n.natAbs.log2 < 170 → Builtin.Int.intBits n ≤ 171 := fun n h => by
    unfold Builtin.Int.intBits
    split <;> omega
  have := z i h1
  have := z j h2
  omega
theorem cdB {i j : Int} (a : 0 < j) (b : j.natAbs < 10 ^ 50) : CDivW i j := ⟨a, by have := log2_small b; omega⟩
end Dv
namespace Dv
open PySem PySem.Spec L2
section
variable {K : PySem.W.Frag} {R F F' H H' : Hp} {M M' : MH} {p q x dx : Addr} {o : MO} {u : HO}
theorem HM.side (h : HM K R F H M) (n : H p = none) : HM K R F (upd H p u) M := by
  refine ⟨h.ex.trans (Ex.new n), h.fr, fun q o e => ?_, fun q o e => ?_⟩
  · refine (h.ob q o e).to (Ex.refl F) (fun b _ v z => (Ex.new n) b v z) fun C dx vs z => ?_
    subst z
    obtain ⟨f1, f2, _⟩ := h.slotted e
    exact ⟨f1, f2⟩
  · obtain ⟨a, b, c⟩ := h.rr q o e
    exact ⟨by rw [upd_ne (ne_of_none a n)]; exact a, b, c⟩
theorem HM.newS {C : Addr} (h : HM K R F H M) (n : H x = none) (nd : H dx = none) (ne : dx ≠ x) : HM K R F (upd (upd H dx (.own x)) x (.ins C dx [])) (mup M x (.sl C dx [])) := by
  have h1 : HM K R F (upd H dx (.own x)) M := h.side nd
  have n1 : upd H dx (.own x) x = none := by rw [upd_ne (Ne.symm ne)]; exact n
  refine h1.warm (o := .sl C dx []) n1 ⟨.of (h.freeF nd), by rw [mup_ne ne]; exact h.freeM nd, h.freeR nd, ne, ⟨_, by rw [upd_ne ne]; exact upd_same⟩, [], .inl ⟨upd_same, rfl⟩, .nil⟩
theorem HM.slot {C : Addr} {vs vs' : List (Option D)} {ws' : List (Option V)} (h : HM K R F H M) (e : M p = some (.sl C dx vs)) (r : RepS K F vs' ws') : HM K R F (SlX.slH H p C dx ws') (mup M p (.sl C dx vs')) := by
  obtain ⟨fd, md, rd, ne, ⟨ud, hd⟩, ws, _, _⟩ := h.ob p _ e
  have fp := h.fr p _ e
  refine ⟨fun a v z => ?_, fun q o' e' => ?_, fun q o2 e2 => ?_, fun q o2 e2 => ?_⟩
  · have a1 : a ≠ p := ne_of_none z fp
    by_cases a2 : a = dx
    · subst a2
      rw [fd v z]
      unfold SlX.slH
      rw [upd_ne a1, upd_same]
    · rw [SlX.slH_ne a1 a2]
      exact h.ex _ _ z
  · by_cases z : q = p
    · rw [z]; exact fp
    · rw [mup_ne z] at e'; exact h.fr q o' e'
  · by_cases z : q = p
    · rw [z, mup_same] at e2
      cases e2
      rw [z]
      exact ⟨fd, by rw [mup_ne ne]; exact md, rd, ne, ⟨_, by unfold SlX.slH; rw [upd_ne ne, upd_same]⟩, ws', SlX.slH_slt ne, r⟩
    · rw [mup_ne z] at e2
      have z2 : q ≠ dx := fun z2 => by rw [z2, md] at e2; cases e2
      have old := h.ob q o2 e2
      have hq : ∀ v, H q = some v → SlX.slH H p C dx ws' q = some v := fun v e => by rw [SlX.slH_ne z z2]; exact e
      cases o2 with
      | lst ds => obtain ⟨vs, r, y⟩ := old; exact ⟨vs, hq _ r, y⟩
      | dK ds => obtain ⟨vs, r, y⟩ := old; exact ⟨vs, hq _ r, y⟩
      | dT ds => obtain ⟨vs, r, y⟩ := old; exact ⟨vs, hq _ r, y⟩
      | ins C fs => obtain ⟨dx, vs, r, y⟩ := old; exact ⟨dx, vs, hq _ r, y⟩
      | xd fs => obtain ⟨vs, r, y⟩ := old; exact ⟨vs, hq _ r, y⟩
      | sl C2 dx2 vs2 =>
        obtain ⟨g1, g2, g3, g4, ⟨u2, g5⟩, ws2, r2, y⟩ := old
        have m2 : dx2 ≠ p := fun z3 => by rw [z3, e] at g2; cases g2
        have g6 : ∃ u, SlX.slH H p C dx ws' dx2 = some u := by
          by_cases z4 : dx2 = dx
          · exact ⟨_, by rw [z4]; unfold SlX.slH; rw [upd_ne ne, upd_same]⟩
          · exact ⟨_, by rw [SlX.slH_ne m2 z4]; exact g5⟩
        refine ⟨g1, by rw [mup_ne m2]; exact g2, g3, g4, g6, ws2, ?_, y⟩
        rcases r2 with r2 | r2
        · exact .inl ⟨hq _ r2.1, r2.2⟩
        · refine .inr ⟨hq _ r2.1, ?_⟩
          by_cases z4 : dx2 = dx
          · rw [z4]; unfold SlX.slH; rw [upd_ne ne, upd_same]
          · rw [SlX.slH_ne m2 z4]; exact r2.2
  · obtain ⟨a, b, c⟩ := h.rr q o2 e2
    have z : q ≠ p := fun z => by rw [z, e] at c; cases c
    have z2 : q ≠ dx := fun z => by rw [z, rd] at e2; cases e2
    exact ⟨by rw [SlX.slH_ne z z2]; exact a, b, by rw [mup_ne z]; exact c⟩
theorem reps_all : ∀ {ds : List D} {ws : List (Option V)}, RepS K F (ds.map some) ws → ∃ vs : List V, ws = vs.map some ∧ RepL K F ds vs
  | [], _, .nil => ⟨[], rfl, .nil⟩
  | d :: ds, _, .yes h r => let ⟨vs, e, q⟩ := reps_all r; ⟨_ :: vs, by rw [e]; rfl, .cons h q⟩
theorem HM.stopS {C : Addr} {ds : List D} (h : HM K R F H M) (e : M p = some (.sl C dx (ds.map some))) : ∃ F', Ex F F' ∧ HM K R F' H (mdel M p) ∧ Rep K F' (.sl C ds) (.ref p) := by
  obtain ⟨fd, md, rd, ne, ⟨ud, hd⟩, ws, sl, rs⟩ := h.ob p _ e
  obtain ⟨vs, rfl, rl⟩ := reps_all rs
  have fp := h.fr p _ e
  rcases sl with ⟨h1, h2⟩ | ⟨h1, h2⟩
  · obtain ⟨ex, hm⟩ := h.stop e h1
    exact ⟨_, ex, hm, .sl (.inl ⟨upd_same, h2⟩) (rl.mono ex)⟩
  · obtain ⟨ex, hm⟩ := h.stop e h1
    obtain ⟨F1, e1⟩ : ∃ F1, F1 = upd F p (SlX.SlO p C dx (vs.map some)) := ⟨_, rfl⟩
    rw [← e1] at ex hm
    have d1 : Dx F1 dx := by rw [e1]; exact fd.upd ne
    have ex2 : Ex F1 (upd F1 dx (.xd [])) := fun a v z => by
      by_cases q : a = dx
      · subst q; rw [upd_same, d1 v z]
      · rw [upd_ne q]; exact z
    have eF : upd F1 dx (.xd []) p = some (SlX.SlO p C dx (vs.map some)) := by rw [upd_ne (Ne.symm ne), e1, upd_same]
    refine ⟨upd F1 dx (.xd []), ex.trans ex2, ?_, .sl (.inr ⟨eF, upd_same⟩) (rl.mono (ex.trans ex2))⟩
    refine ⟨fun a v z => ?_, fun q o e' => ?_, fun q o e' => ?_, fun q o e' => ?_⟩
    · by_cases q : a = dx
      · rw [q, upd_same] at z; cases z; rw [q]; exact h2
      · rw [upd_ne q] at z; exact hm.ex _ _ z
    · have n : q ≠ dx := fun z => by
        rw [z] at e'
        unfold mdel at e'
        split at e'
        · cases e'
        · rw [md] at e'; cases e'
      rw [upd_ne n]; exact hm.fr q o e'
    · refine (hm.ob q o e').to ex2 (fun b _ v z => z) fun C2 dx2 vs2 z => ?_
      subst z
      obtain ⟨f1, f2, _⟩ := hm.slotted e'
      refine ⟨fun v z => ?_, f2⟩
      by_cases q : dx2 = dx
      · rw [q, upd_same] at z; cases z; rfl
      · rw [upd_ne q] at z; exact f1 v z
    · obtain ⟨a, b, c⟩ := hm.rr q o e'
      have n : q ≠ dx := fun z => by rw [z, rd] at e'; cases e'
      exact ⟨a, by rw [upd_ne n]; exact b, c⟩
end
def putD (i : Nat) (y : D) (vs : List (Option D)) : List (Option D) := (vs ++ List.replicate (i + 1 - vs.length) none).set i (some y)
theorem reps_put {K : PySem.W.Frag} {F : Hp} {vs : List (Option D)} {ws : List (Option V)} {y : D} {v : V} (r : RepS K F vs ws) (ry : Rep K F y v) (i : Nat) : RepS K F (putD i y vs) (SlX.putS i v ws) := by
  unfold putD SlX.putS
  rw [r.length]
  exact (r.append (.nones _)).set ry i
section
variable {X : Cx} {R F0 : Hp} {K : PySem.W.Frag} {e o value : Expr} {te to : DE} {C pd : Addr} {f : Str} {i : Nat} {pos pos' : Pos}
def dSlot (C : Addr) (i : Nat) (te : DE) : DE := fun ds M Q => te ds M fun x M1 => match x with
  | .sl C' xs => C' = C ∧ ∃ d, xs[i]? = some d ∧ Q d M1
  | .ref p => ∃ dx vs d, M1 p = some (.sl C dx vs) ∧ vs[i]? = some (some d) ∧ Q d M1
  | _ => False
theorem pd_slot (c : SlX.SCls X.K C) (t : SlX.Slot1 X.K C f pd i) (he : PDE R F0 X e te) (hb : attributeBase e f X.env (eval e X.env) = eval e X.env := by rfl) : PDE R F0 X (.Attribute e f pos) (dSlot C i te) := by
  refine PE.imp (SlX.pe_sl he hb) ?_
  rintro σ H Q ⟨F, ds, M, Qd, a, h, k⟩
  refine ⟨F, ds, M, _, a, h, fun F1 H1 M1 x vx e1 m1 r1 q1 => ?_⟩
  cases r1 with
  | sl hs rs =>
    obtain ⟨rfl, d, ed, q⟩ := q1
    obtain ⟨v, ev, rv⟩ := rs.get ed
    refine ⟨_, _, _, _, _, _, _, rfl, m1.ex.slt hs, c, t, ?_, k _ _ _ _ _ e1 m1 rv q⟩
    rw [List.getElem?_map, ev]
    rfl
  | ref p =>
    obtain ⟨dx, vs, d, em, ed, q⟩ := q1
    obtain ⟨_, _, _, _, _, ws, sl, rs⟩ := m1.ob p _ em
    obtain ⟨v, ev, rv⟩ := rs.get ed
    exact ⟨_, _, _, _, _, _, _, rfl, sl, c, t, ev, k _ _ _ _ _ e1 m1 rv q⟩
  | _ => exact q1.elim
def dSsl (C : Addr) (i : Nat) (to tv : DE) : DS := fun D ds M => tv ds M fun y M1 => to ds M1 fun x M2 => match x with
  | .ref p => ∃ dx vs, M2 p = some (.sl C dx vs) ∧ D.nx ds (mup M2 p (.sl C dx (putD i y vs)))
  | _ => False
theorem pd_ssl {tv : DE} (c : SlX.SCls X.K C) (t : SlX.Slot1 X.K C f pd i) (ho : PDE R F0 X o to) (hv : PDE R F0 X value tv) (hs : swapsWith value (some (.Attribute o f pos')) pos.line X.env = pure false := by rfl) : PDS R F0 X (.Assign [.Attribute o f pos'] value pos) (dSsl C i to tv) := by
  refine PS.imp (SlX.ps_sl ho hv hs) ?_
  rintro D σ H ⟨F, ds, M, Dd, a, h, k⟩
  refine ⟨F, ds, M, _, a, h, fun F1 H1 M1 y vy e1 m1 r1 q1 => ⟨F1, ds, M1, _, a.go e1 m1, q1, fun F2 H2 M2 x vx e2 m2 r2 q2 => ?_⟩⟩
  cases r2 with
  | ref p =>
    obtain ⟨dx, vs, em, q⟩ := q2
    obtain ⟨_, _, _, _, _, ws, sl, rs⟩ := m2.ob p _ em
    exact ⟨_, _, _, _, _, _, rfl, sl, c, t, k.nx _ _ _ _ _ (e1.trans e2) (m2.slot em (reps_put rs (r1.mono e2) i)) (a.rs.mono (e1.trans e2)) q⟩
  | _ => exact q2.elim
structure Prp (K : PySem.W.Frag) (C : Addr) (f : Str) (p g : Addr) : Prop where
  at_ : PySem.W.findIn K (.ref C) f = some (some (.ref p))
  get : PySem.W.specialIn K (.ref p) "__get__" = some (some (.builtin "property.__get__"))
  tk : PySem.W.takesIn K (.ref p) = some true
  rc : ∃ rest, PySem.W.recIn K p "property" = some (.ref g :: rest)
def dProp (C : Addr) (sp : DSp) (te : DE) : DE := fun ds M Q => te ds M fun x M1 => (match x with
  | .sl C' _ => C' = C
  | .ref p => ∃ dx vs, M1 p = some (.sl C dx vs)
  | _ => False) ∧ sp [x] M1 Q fun _ _ _ => False
theorem pd_prop {n j : Nat} {g : Addr} {fd : FuncData} {x : Str} {sp : DSp} (c : SlX.SCls X.K C) (pr : Prp X.K C f pd g) (G : FnG X.prog X.w X.K X.mg X.base n g fd [x] (upSp X.K sp)) (hb : Binds X.K fd [x] []) (hr : Room j X.A) (hk : n + 1 ≤ j) (hG : X.A.guards = some [])
    (he : PDE R F0 X e te) (hbase : attributeBase e f X.env (eval e X.env) = eval e X.env := by rfl) : PDE R F0 X (.Attribute e f pos) (dProp C sp te) := by
  refine ⟨fun pins s σ H Q I h => ?_⟩
  obtain ⟨F, ds, M, Qd, a, h, k⟩ := h
  refine attr_of hbase (thn (he.run pins s σ H (fun vx H1 => (∃ b dx ws, vx = .ref b ∧ SlX.Slt H1 b C dx ws) ∧ upSp X.K sp [vx] H1 Q (fun _ _ _ => False)) I ⟨F, ds, M, _, a, h, fun F1 H1 M1 x vx e1 m1 r1 q1 => ?_⟩) ?_)
  · refine ⟨?_, ⟨R, F1, _, _, _, _, m1, .cons r1 .nil, q1.2, k.mono e1, fun _ _ _ _ _ _ _ z => z⟩⟩
    have q0 := q1.1
    cases r1 with
    | sl hs rs => subst q0; exact ⟨_, _, _, rfl, m1.ex.slt hs⟩
    | ref p =>
      obtain ⟨dx, vs, em⟩ := q0
      obtain ⟨_, _, _, _, _, ws, sl, rs⟩ := m1.ob p _ em
      exact ⟨_, _, _, rfl, sl⟩
    | _ => exact q0.elim
  · rintro u s1 ⟨vx, H1, I1, ru, ⟨b, dx, ws, rfl, hs⟩, q⟩
    obtain rfl : u = Value.ref b := ru
    obtain ⟨sl, od, _, J, _⟩ := SlX.slt_inst I1 hs
    obtain ⟨rest, hrec⟩ := pr.rc
    have I2 : Inv X pins σ H1 { s1 with toks := s1.toks + 1 } := I1.tok (s1.toks + 1)
    refine PySem.W.get_bind I1.kIn J (PySem.W.plainGet_of (c.get f)).1 (PySem.W.findObj_data c.ic pr.at_ pr.get pr.tk) (PySem.W.plainGet_of (c.get f)).2 (wpAny_call (PySem.W.prop_get (s := { s1 with toks := s1.toks + 1 }) I1.kIn hrec ?_))
    have hl : ([Value.ref b] ++ []).length = [x].length := rfl
    refine codeAny_mono (G.run X.A.in1 X.stack { s1 with toks := s1.toks + 1 } H1 ⟨[.ref b], []⟩ [.ref b] [.ref b] Q _ (hr.mono hk).in1 hG I2.env0.in1 (hb _ [.ref b] I2.kIn hl) (.cons rfl .nil) q) fun r s' hq => ?_
    cases r with
    | error e =>
      obtain ⟨_, _, _, _, _, _, _, _, _, _, _, _, z⟩ := hq
      exact z.elim
    | ok fl =>
      cases fl with
      | ret u =>
        obtain ⟨v, H', I3, rv, q⟩ := I2.after hq
        exact wpAny_of_eq (PySem.W.handedOut_of (handed_of rv)) ⟨v, H', I3, rv, q⟩
      | next => exact False.elim hq
      | brk => exact False.elim hq
      | cont => exact False.elim hq
end
theorem make_guards {A : Around} {C : Addr} {us : List Value} {kw : List (Str × Value)} : (A.under (.builtin "type.__call__" ⟨.ref C :: us, kw⟩)).guards = A.guards := by
  have e : Code.guards (.builtin "type.__call__" ⟨.ref C :: us, kw⟩) = [] := by
    unfold Code.guards
    rw [show Code.isGuard (.builtin "type.__call__" ⟨.ref C :: us, kw⟩) = false by first | rfl | simp [Code.isGuard, guardIds]]
    rfl
  simp only [Around.under, e]
  cases A.guards <;> rfl
section
variable {X : Cx} {R F0 : Hp} {k n j : Nat} {C f : Addr} {fd : FuncData} {ps ks : List Str} {sp : DSp} {W : DWX} {x : Str} {p pos : Pos} {e : Expr} {es : List Expr} {kws : List Keyword}
def mkQ (x dx C : Addr) (Q : DQ) : DQ := fun d M2 => d = .non ∧ ∃ zs : List D, M2 x = some (.sl C dx (zs.map some)) ∧ Q (.sl C zs) (mdel M2 x)
def mkQM (x dx C : Addr) (Q : DQ) : DQ := fun d M2 => d = .non ∧ (∃ zs, M2 x = some (.sl C dx zs)) ∧ Q (.ref x) M2
theorem mkQ_up {K : PySem.W.Frag} {F : Hp} {a dx C : Addr} {Qd : DQ} {Q : VK} (c : Cont K R F Qd Q) : Cont K R F (mkQ a dx C Qd) (fun v H => v = .non ∧ Q (.ref a) H) := by
  rintro F' H' M' d v ex m r ⟨rfl, zs, e, q⟩
  cases r
  obtain ⟨F2, e2, m2, r2⟩ := m.stopS e
  exact ⟨rfl, c _ _ _ _ _ (ex.trans e2) m2 r2 q⟩
theorem mkQM_up {K : PySem.W.Frag} {F : Hp} {a dx C : Addr} {Qd : DQ} {Q : VK} (c : Cont K R F Qd Q) : Cont K R F (mkQM a dx C Qd) (fun v H => v = .non ∧ Q (.ref a) H) := by
  rintro F' H' M' d v ex m r ⟨rfl, _, q⟩
  cases r
  exact ⟨rfl, c _ _ _ _ _ ex m (.ref a) q⟩
theorem run_mk {pins : List (Addr × Obj)} {σ : St} {H : Hp} {s : Shared} {Q : VK} {Wv : WX} {us vs' : List Value} {kw : List (Str × Value)} {ws : List V} {spv : Sp} (Mk' : Mk X.K C f) (G : FnG X.prog X.w X.K X.mg X.base k f fd ps spv) (hr : Room (k + 1) X.A) (hG : X.A.guards = some []) (tk : Takes X Wv) (I : Inv X pins σ H s)
    (hb : ∀ s', X.K.In s'.heap → BindsTo s' fd ⟨.ref (s.heap.objs.size + 1) :: us, kw⟩ (ps.zip vs')) (rv : Vals ws vs')
    (h : spv ws (upd (upd H s.heap.objs.size (.own (s.heap.objs.size + 1))) (s.heap.objs.size + 1) (.ins C s.heap.objs.size [])) (fun v H2 => v = .non ∧ Q (.ref (s.heap.objs.size + 1)) H2) (fun cls d H' => Wv cls d σ H')) :
    wpAny (model X.prog X.w) X.A (call (.ref C) us kw) (EP X pins σ Q) X.xe s := by
  have I2 := Inv.made (C := C) I
  refine wpAny_call (make_map (f := f) I.kIn Mk'.makes Mk'.init (beq_iff_eq.mp Mk'.fn) (codeAny_mono (at_call tk I2 (G.run _ X.stack _ _ ⟨Value.ref (s.heap.objs.size + 1) :: us, kw⟩ vs' ws _ _ (hr.make C us kw) (by rw [make_guards]; exact hG)
    (I2.env0.make C us kw) (hb _ I2.kIn) rv h)) fun r s' hq' => ?_))
  cases r with
  | error e => exact hq'
  | ok fl =>
    cases fl with
    | ret u =>
      obtain ⟨v, H', I3, rv, ev, q3⟩ := hq'
      subst ev
      exact ⟨rv, ⟨V.ref (s.heap.objs.size + 1), H', I3, rfl, q3⟩⟩
    | next => exact False.elim hq'
    | brk => exact False.elim hq'
    | cont => exact False.elim hq'
def dMake (C : Addr) (sp : DSp) (W : DWX) (mq : Addr → Addr → Addr → DQ → DQ) (t : DA) : DE := fun ds M Q => t ds M fun xs M1 => ∀ x dx, M1 x = none → M1 dx = none → dx ≠ x → sp (.ref x :: xs) (mup M1 x (.sl C dx [])) (mq x dx C Q) fun cls d M2 => W cls d ds M2
def dMakeK (C : Addr) (n m : Nat) (sp : DSp) (gD : List D → List D → List D) (W : DWX) (mq : Addr → Addr → Addr → DQ → DQ) (t tk : DA) : DE := fun ds M Q => t ds M fun xs M1 => tk ds M1 fun ys M2 => (xs.length = n ∧ ys.length = m) ∧ ∀ x dx, M2 x = none → M2 dx = none → dx ≠ x →
  sp (gD (.ref x :: xs) ys) (mup M2 x (.sl C dx [])) (mq x dx C Q) fun cls d M2 => W cls d ds M2
def MqOk (mq : Addr → Addr → Addr → DQ → DQ) : Prop := ∀ (K : PySem.W.Frag) (R F : Hp) (a dx C : Addr) (Qd : DQ) (Q : VK), Cont K R F Qd Q → Cont K R F (mq a dx C Qd) (fun v H => v = .non ∧ Q (.ref a) H)
theorem mq_cold : MqOk mkQ := fun _ _ _ _ _ _ _ _ c => mkQ_up c
theorem mq_warm : MqOk mkQM := fun _ _ _ _ _ _ _ _ c => mkQM_up c
theorem pd_make {mq : Addr → Addr → Addr → DQ → DQ} {t : DA} (ok : MqOk mq) (Mk' : Mk X.K C f) (G : FnG X.prog X.w X.K X.mg X.base k f fd ps (upSp X.K sp)) (hb : Binds X.K fd ps []) (hr : Room j X.A) (hk : k + 1 ≤ j) (hG : X.A.guards = some []) (tk : DTakes R F0 X W) (hm : X.mg x = some (.ref C)) (ha : PDA R F0 X (e :: es) t)
    (hg : Gl X x := by rfl) (hdb : (x == ("__debug__" : Str)) = false := by decide) (he : starEach (e :: es) X.env = (false, eval e X.env) :: starEach es X.env := by rfl) (hpl : (backTo pos (starEach es X.env)).any (·.1) = false := by rfl) :
    PDE R F0 X (.Call (.Name x p) (e :: es) [] pos) (dMake C sp W mq t) := by
  refine ⟨fun pins s σ H Q I h => ?_⟩
  obtain ⟨F, ds, M, Qd, a, h, c⟩ := h
  refine wpAny_Call_Name_kw (ld_glob I hg hm ?_ hdb)
  refine PySem.W.callWith_K (h₀ := X.base) I.ok.mod.kin Mk'.kp (thn (ha.run pos pins s σ H (fun vs H1 => ∀ x dx, H1 x = none → H1 dx = none → dx ≠ x → upSp X.K sp (.ref x :: vs) (upd (upd H1 dx (.own x)) x (.ins C dx [])) (fun v H2 => v = .non ∧ Q (.ref x) H2) (fun cls d H' => upW X.K R F0 W cls d σ H')) I
    ⟨F, ds, M, _, a, h, fun F1 H1 M1 xs vs e1 m1 r1 q1 => fun x dx nx nd ne => ?_⟩) ?_) he hpl
  · have m2 := m1.newS (C := C) nx nd ne
    exact sp_up (F1 := F1) (a.go e1 m2) (.cons (.ref x) r1) (q1 x dx (m1.freeM nx) (m1.freeM nd) ne) (ok _ _ _ _ _ _ _ _ (c.mono e1))
  · rintro us s1 ⟨vs, H1, I1, r, q⟩
    refine ⟨I1.kIn, ?_⟩
    have q' := q (s1.heap.objs.size + 1) s1.heap.objs.size (I1.hok.fresh (Nat.le_succ _)) (I1.hok.fresh (Nat.le_refl _)) (Nat.ne_of_lt (Nat.lt_succ_self _))
    have r2 : Vals (V.ref (s1.heap.objs.size + 1) :: vs) (Value.ref (s1.heap.objs.size + 1) :: us) := .cons rfl r
    have hl : ((Value.ref (s1.heap.objs.size + 1) :: us) ++ []).length = ps.length := by rw [List.append_nil, ← r2.length]; exact G.len _ _ _ _ q'
    have hb' : ∀ s' : Shared, X.K.In s'.heap → BindsTo s' fd ⟨.ref (s1.heap.objs.size + 1) :: us, []⟩ (ps.zip (Value.ref (s1.heap.objs.size + 1) :: us)) := fun s' z => by
      have z2 := hb s' (Value.ref (s1.heap.objs.size + 1) :: us) z hl
      rw [List.append_nil] at z2
      exact z2
    exact run_mk Mk' G (hr.mono hk) hG tk I1 hb' r2 q'
theorem pd_makeK0 {mq : Addr → Addr → Addr → DQ → DQ} {tks : DA} {gD : List D → List D → List D} (ok : MqOk mq) (Mk' : Mk X.K C f) (G : FnG X.prog X.w X.K X.mg X.base k f fd ps (upSp X.K sp)) (hb : KB X.K fd ps 1 ks gD) (hr : Room j X.A) (hk : k + 1 ≤ j) (hG : X.A.guards = some []) (tk : DTakes R F0 X W) (hm : X.mg x = some (.ref C)) (hkw : PDK R F0 X kws tks)
    (hg : Gl X x := by rfl) (hdb : (x == ("__debug__" : Str)) = false := by decide) (hall : (backToKw pos (keywordEach kws X.env)).all (·.1.isSome) = true := by rfl) (hks : (backToKw pos (keywordEach kws X.env)).filterMap (·.1) = ks := by rfl)
    (hpl : ((backTo pos (starEach [] X.env)).any (·.1) || (backToKw pos (keywordEach kws X.env)).any (·.1.isNone)) = false := by rfl) :
    PDE R F0 X (.Call (.Name x p) [] kws pos) (dMakeK C 0 ks.length sp gD W mq dNil tks) := by
  obtain ⟨g, gV, kb, rel⟩ := hb.ex
  refine ⟨fun pins s σ H Q I h => ?_⟩
  obtain ⟨F, ds, M, Qd, a, h, c⟩ := h
  refine wpAny_Call_Name_kw (ld_glob I hg hm ?_ hdb)
  refine PySem.W.callWith_KW0 (h₀ := X.base) I.ok.mod.kin Mk'.kp hall (thn (hkw.run pos pins s σ H (fun zs H2 => zs.length = ks.length ∧ ∀ x dx, H2 x = none → H2 dx = none → dx ≠ x → upSp X.K sp (gV [.ref x] zs) (upd (upd H2 dx (.own x)) x (.ins C dx [])) (fun v H3 => v = .non ∧ Q (.ref x) H3) (fun cls d H' => upW X.K R F0 W cls d σ H')) I
    ⟨F, ds, M, _, a, h, fun F2 H2 M2 ys zs e2 m2 r2 q2 => ⟨r2.length.symm.trans q2.1.2, fun x dx nx nd ne => ?_⟩⟩) ?_) hpl
  · have m3 := m2.newS (C := C) nx nd ne
    exact sp_up (F1 := F2) (a.go e2 m3) (rel F2 _ _ _ _ (.cons (.ref x) .nil) r2) (q2.2 x dx (m2.freeM nx) (m2.freeM nd) ne) (ok _ _ _ _ _ _ _ _ (c.mono e2))
  · rintro us s2 ⟨zs, H2, I2, rz, l2, q⟩
    refine ⟨I2.kIn, ?_⟩
    rw [hks]
    have q' := q (s2.heap.objs.size + 1) s2.heap.objs.size (I2.hok.fresh (Nat.le_succ _)) (I2.hok.fresh (Nat.le_refl _)) (Nat.ne_of_lt (Nat.lt_succ_self _))
    exact run_mk Mk' G (hr.mono hk) hG tk I2 (fun s' z => kb.to s' [.ref (s2.heap.objs.size + 1)] us z rfl (rz.length.symm.trans l2)) (kb.rel (.cons (a := V.ref _) rfl .nil) rz) q'
theorem pd_makeK {mq : Addr → Addr → Addr → DQ → DQ} {t tks : DA} {gD : List D → List D → List D} (ok : MqOk mq) (Mk' : Mk X.K C f) (G : FnG X.prog X.w X.K X.mg X.base k f fd ps (upSp X.K sp)) (hb : KB X.K fd ps (n + 1) ks gD) (hr : Room j X.A) (hk : k + 1 ≤ j) (hG : X.A.guards = some []) (tk : DTakes R F0 X W) (hm : X.mg x = some (.ref C)) (ha : PDA R F0 X (e :: es) t) (hkw : PDK R F0 X kws tks)
    (hg : Gl X x := by rfl) (hdb : (x == ("__debug__" : Str)) = false := by decide) (hall : (backToKw pos (keywordEach kws X.env)).all (·.1.isSome) = true := by rfl) (hks : (backToKw pos (keywordEach kws X.env)).filterMap (·.1) = ks := by rfl) (he : starEach (e :: es) X.env = (false, eval e X.env) :: starEach es X.env := by rfl)
    (hpl : ((backTo pos (starEach (e :: es) X.env)).any (·.1) || (backToKw pos (keywordEach kws X.env)).any (·.1.isNone)) = false := by rfl) :
    PDE R F0 X (.Call (.Name x p) (e :: es) kws pos) (dMakeK C n ks.length sp gD W mq t tks) := by
  obtain ⟨g, gV, kb, rel⟩ := hb.ex
  refine ⟨fun pins s σ H Q I h => ?_⟩
  obtain ⟨F, ds, M, Qd, a, h, c⟩ := h
  refine wpAny_Call_Name_kw (ld_glob I hg hm ?_ hdb)
  refine PySem.W.callWith_KW (h₀ := X.base) I.ok.mod.kin Mk'.kp hall (thn (ha.run pos pins s σ H (fun vs H1 => upA X.K R F0 tks σ H1 fun zs H2 => (vs.length = n ∧ zs.length = ks.length) ∧ ∀ x dx, H2 x = none → H2 dx = none → dx ≠ x →
      upSp X.K sp (gV (.ref x :: vs) zs) (upd (upd H2 dx (.own x)) x (.ins C dx [])) (fun v H3 => v = .non ∧ Q (.ref x) H3) (fun cls d H' => upW X.K R F0 W cls d σ H')) I ⟨F, ds, M, _, a, h, fun F1 H1 M1 xs vs e1 m1 r1 q1 => ?_⟩) ?_) hpl he
  · refine ⟨F1, ds, M1, _, a.go e1 m1, q1, fun F2 H2 M2 ys zs e2 m2 r2 q2 => ⟨⟨r1.length.symm.trans q2.1.1, r2.length.symm.trans q2.1.2⟩, fun x dx nx nd ne => ?_⟩⟩
    have m3 := m2.newS (C := C) nx nd ne
    exact sp_up (F1 := F2) (a.go (e1.trans e2) m3) (rel F2 _ _ _ _ (.cons (.ref x) (r1.mono e2)) r2) (q2.2 x dx (m2.freeM nx) (m2.freeM nd) ne) (ok _ _ _ _ _ _ _ _ (c.mono (e1.trans e2)))
  · rintro ws s1 ⟨vs, H1, I1, r, q⟩
    refine thn (hkw.run pos pins s1 σ H1 _ I1 q) ?_
    rintro us s2 ⟨zs, H2, I2, rz, ⟨l1, l2⟩, q2⟩
    rw [hks]
    refine ⟨I2.kIn, ?_⟩
    have q' := q2 (s2.heap.objs.size + 1) s2.heap.objs.size (I2.hok.fresh (Nat.le_succ _)) (I2.hok.fresh (Nat.le_refl _)) (Nat.ne_of_lt (Nat.lt_succ_self _))
    have n1 : (Value.ref (s2.heap.objs.size + 1) :: ws).length = n + 1 := by rw [List.length_cons, ← r.length, l1]
    exact run_mk Mk' G (hr.mono hk) hG tk I2 (fun s' z => kb.to s' (.ref (s2.heap.objs.size + 1) :: ws) us z n1 (rz.length.symm.trans l2)) (kb.rel (.cons (a := V.ref _) rfl r) rz) q'
end
end Dv
namespace Dv
open PySem PySem.Spec L2
theorem lc_pure {α : Type} {g : DG} {tt : DT} {te : DE} {vs : List Nat} {ds : Sl} {Q : List D → MH → Prop} {M : MH} (it f : α → D) (p : α → Bool)
    (step : ∀ a (Ky : D → MH → Prop) (Kn : MH → Prop), (p a = true → Ky (f a) M) → (p a = false → Kn M) → g (it a) (dwipe ds vs) M fun ds1 M1 => tt ds1 M1 fun b M2 => Br b (te ds1 M2 Ky) (Kn M2)) :
    ∀ (l : List α) (acc : List D), acc.length + l.length ≤ 1000000 → Q (acc ++ (l.filter p).map f) M → dLcL g tt te vs ds Q (l.map it) acc M
  | [], acc, _, q => by
    rw [List.filter_nil, List.map_nil, List.append_nil] at q
    exact q
  | a :: l, acc, hl, q => by
    simp only [List.length_cons] at hl
    refine step a _ _ (fun h => ⟨small_line' (by omega), ?_⟩) (fun h => ?_)
    · refine lc_pure it f p step l _ (by rw [List.length_append, List.length_singleton]; omega) ?_
      rw [List.filter_cons_of_pos h, List.map_cons] at q
      rw [List.append_assoc]
      exact q
    · refine lc_pure it f p step l _ (by omega) ?_
      rw [List.filter_cons_of_neg (by rw [h]; exact Bool.false_ne_true)] at q
      exact q
where small_line' {n : Nat} (h : n < 1000000) : n < sizeLine := small_line h
theorem lc_map {α : Type} {g : DG} {tt : DT} {te : DE} {vs : List Nat} {ds : Sl} {Q : List D → MH → Prop} {M : MH} (it f : α → D)
    (step : ∀ a (Ky : D → MH → Prop) (Kn : MH → Prop), Ky (f a) M → g (it a) (dwipe ds vs) M fun ds1 M1 => tt ds1 M1 fun b M2 => Br b (te ds1 M2 Ky) (Kn M2)) (l : List α) (hl : l.length ≤ 1000000) (q : Q (l.map f) M) : dLcL g tt te vs ds Q (l.map it) [] M := by
  refine lc_pure it f (fun _ => true) (fun a Ky Kn h _ => step a Ky Kn (h rfl)) l [] (by simpa using hl) ?_
  rw [show l.filter (fun _ => true) = l by simp, List.nil_append]
  exact q
theorem find_neg (z : Str) (c : Nat) : decide (Txt.find z ⟨#[c]⟩ < 0) = !decide (c ∈ z.cps.toList) := by
  have h := PySem.StrLaws.found_one z c
  rw [← h]
  unfold Txt.find
  cases Builtin.Str.occurrences z ⟨#[c]⟩ 0 z.length 1 with
  | nil => rfl
  | cons i r =>
    show decide ((i : Int) < 0) = !(!false)
    simp
structure Kl (P : Program) (w : World) (K : PySem.W.Frag) (mg : Str → Option Value) (base : Heap) (k : Nat) (x : Str) (C f : Addr) (fd : FuncData) (ps : List Str) (ds : List Value) (dvs : List D) (sp : DSp) : Prop where
  g : mg x = some (.ref C)
  mm : Mk K C f
  G : FnG P w K mg base k f fd ps (upSp K sp)
  b : Binds K fd ps ds
  d : Dfl K dvs ds
structure Pr (P : Program) (w : World) (K : PySem.W.Frag) (mg : Str → Option Value) (base : Heap) (k : Nat) (C : Addr) (x : Str) (sp : DSp) : Prop where
  ex : ∃ (pd g : Addr) (fd : FuncData) (y : Str), SlX.SCls K C ∧ Prp K C x pd g ∧ FnG P w K mg base k g fd [y] (upSp K sp) ∧ Binds K fd [y] []
section
variable {X : Cx} {R F0 : Hp} {k n j : Nat} {C f : Addr} {fd : FuncData} {ps ks : List Str} {us : List Value} {dvs : List D} {sp : DSp} {W : DWX} {x : Str} {p pos : Pos} {e : Expr} {es : List Expr} {kws : List Keyword}
def dMakeD (C : Addr) (sp : DSp) (dvs : List D) (W : DWX) (mq : Addr → Addr → Addr → DQ → DQ) (t : DA) : DE := fun ds M Q => t ds M fun xs M1 => ∀ x dx, M1 x = none → M1 dx = none → dx ≠ x → sp (.ref x :: (xs ++ dvs)) (mup M1 x (.sl C dx [])) (mq x dx C Q) fun cls d M2 => W cls d ds M2
theorem pd_cl {mq : Addr → Addr → Addr → DQ → DQ} {t : DA} (ok : MqOk mq) (Q : Kl X.prog X.w X.K X.mg X.base k x C f fd ps us dvs sp) (hr : Room j X.A) (hk : k + 1 ≤ j) (hG : X.A.guards = some []) (tk : DTakes R F0 X W) (ha : PDA R F0 X (e :: es) t)
    (hg : Gl X x := by rfl) (hdb : (x == ("__debug__" : Str)) = false := by decide) (he : starEach (e :: es) X.env = (false, eval e X.env) :: starEach es X.env := by rfl) (hpl : (backTo pos (starEach es X.env)).any (·.1) = false := by rfl) :
    PDE R F0 X (.Call (.Name x p) (e :: es) [] pos) (dMakeD C sp dvs W mq t) := by
  obtain ⟨hm, Mk', G, hb, dv, rd, rp⟩ := Q
  refine ⟨fun pins s σ H Q I h => ?_⟩
  obtain ⟨F, ds, M, Qd, a, h, c⟩ := h
  refine wpAny_Call_Name_kw (ld_glob I hg hm ?_ hdb)
  refine PySem.W.callWith_K (h₀ := X.base) I.ok.mod.kin Mk'.kp (thn (ha.run pos pins s σ H (fun vs H1 => ∀ x dx, H1 x = none → H1 dx = none → dx ≠ x → upSp X.K sp (.ref x :: (vs ++ dv)) (upd (upd H1 dx (.own x)) x (.ins C dx [])) (fun v H2 => v = .non ∧ Q (.ref x) H2) (fun cls d H' => upW X.K R F0 W cls d σ H')) I
    ⟨F, ds, M, _, a, h, fun F1 H1 M1 xs vs e1 m1 r1 q1 => fun x dx nx nd ne => ?_⟩) ?_) he hpl
  · have m2 := m1.newS (C := C) nx nd ne
    exact sp_up (F1 := F1) (a.go e1 m2) (.cons (.ref x) (r1.append (rp F1))) (q1 x dx (m1.freeM nx) (m1.freeM nd) ne) (ok _ _ _ _ _ _ _ _ (c.mono e1))
  · rintro ws s1 ⟨vs, H1, I1, r, q⟩
    refine ⟨I1.kIn, ?_⟩
    have q' := q (s1.heap.objs.size + 1) s1.heap.objs.size (I1.hok.fresh (Nat.le_succ _)) (I1.hok.fresh (Nat.le_refl _)) (Nat.ne_of_lt (Nat.lt_succ_self _))
    have r2 : Vals (V.ref (s1.heap.objs.size + 1) :: (vs ++ dv)) (Value.ref (s1.heap.objs.size + 1) :: (ws ++ us)) := .cons rfl (r.append rd)
    have hl : ((Value.ref (s1.heap.objs.size + 1) :: ws) ++ us).length = ps.length := by rw [List.cons_append, ← r2.length]; exact G.len _ _ _ _ q'
    exact run_mk Mk' G (hr.mono hk) hG tk I1 (fun s' z => hb s' (Value.ref (s1.heap.objs.size + 1) :: ws) z hl) r2 q'
theorem pd_clK0 {mq : Addr → Addr → Addr → DQ → DQ} {tks : DA} {gD : List D → List D → List D} (ok : MqOk mq) (Q : Kl X.prog X.w X.K X.mg X.base k x C f fd ps us dvs sp) (hb : KB X.K fd ps 1 ks gD) (hr : Room j X.A) (hk : k + 1 ≤ j) (hG : X.A.guards = some []) (tk : DTakes R F0 X W) (hkw : PDK R F0 X kws tks)
    (hg : Gl X x := by rfl) (hdb : (x == ("__debug__" : Str)) = false := by decide) (hall : (backToKw pos (keywordEach kws X.env)).all (·.1.isSome) = true := by rfl) (hks : (backToKw pos (keywordEach kws X.env)).filterMap (·.1) = ks := by rfl)
    (hpl : ((backTo pos (starEach [] X.env)).any (·.1) || (backToKw pos (keywordEach kws X.env)).any (·.1.isNone)) = false := by rfl) : PDE R F0 X (.Call (.Name x p) [] kws pos) (dMakeK C 0 ks.length sp gD W mq dNil tks) :=
  pd_makeK0 ok Q.mm Q.G hb hr hk hG tk Q.g hkw hg hdb hall hks hpl
theorem pd_clKn {mq : Addr → Addr → Addr → DQ → DQ} {t tks : DA} {gD : List D → List D → List D} (ok : MqOk mq) (Q : Kl X.prog X.w X.K X.mg X.base k x C f fd ps us dvs sp) (hb : KB X.K fd ps (n + 1) ks gD) (hr : Room j X.A) (hk : k + 1 ≤ j) (hG : X.A.guards = some []) (tk : DTakes R F0 X W) (ha : PDA R F0 X (e :: es) t) (hkw : PDK R F0 X kws tks)
    (hg : Gl X x := by rfl) (hdb : (x == ("__debug__" : Str)) = false := by decide) (hall : (backToKw pos (keywordEach kws X.env)).all (·.1.isSome) = true := by rfl) (hks : (backToKw pos (keywordEach kws X.env)).filterMap (·.1) = ks := by rfl) (he : starEach (e :: es) X.env = (false, eval e X.env) :: starEach es X.env := by rfl)
    (hpl : ((backTo pos (starEach (e :: es) X.env)).any (·.1) || (backToKw pos (keywordEach kws X.env)).any (·.1.isNone)) = false := by rfl) : PDE R F0 X (.Call (.Name x p) (e :: es) kws pos) (dMakeK C n ks.length sp gD W mq t tks) :=
  pd_makeK ok Q.mm Q.G hb hr hk hG tk Q.g ha hkw hg hdb hall hks he hpl
theorem pd_pr {te : DE} (Q : Pr X.prog X.w X.K X.mg X.base k C x sp) (hr : Room j X.A) (hk : k + 1 ≤ j) (hG : X.A.guards = some []) (he : PDE R F0 X e te) (hbase : attributeBase e x X.env (eval e X.env) = eval e X.env := by rfl) : PDE R F0 X (.Attribute e x pos) (dProp C sp te) := by
  obtain ⟨pd, g, fd, y, sc, pr, G, b⟩ := Q.ex
  exact pd_prop sc pr G b hr hk hG he hbase
end
theorem kwd_nil {K : PySem.W.Frag} {Dd : Addr} : ∀ q ∈ ([] : List (Str × V)), ∃ u, PySem.W.nsIn K Dd q.1 = some (some u) ∧ RelV q.2 u := fun q h => by cases h
theorem kwd_cons {K : PySem.W.Frag} {Dd : Addr} {x : Str} {v : V} {u : Value} {r : List (Str × V)} (a : PySem.W.nsIn K Dd x = some (some u)) (b : RelV v u) (t : ∀ q ∈ r, ∃ u, PySem.W.nsIn K Dd q.1 = some (some u) ∧ RelV q.2 u) : ∀ q ∈ (x, v) :: r, ∃ u, PySem.W.nsIn K Dd q.1 = some (some u) ∧ RelV q.2 u := fun q h => by
  rcases List.mem_cons.mp h with rfl | h
  · exact ⟨u, a, b⟩
  · exact t q h
theorem dfl_of {K : PySem.W.Frag} {dvs : List D} {vs : List V} {us : List Value} (r : Vals vs us) (h : ∀ F, RepL K F dvs vs) : Dfl K dvs us := ⟨vs, r, h⟩
theorem kb_dfl {K : PySem.W.Frag} {fd : FuncData} {ps : List Str} {n : Nat} {ks : List Str} {mv : List Value} {dvs : List D} {vs : List V} (ix : List Nat) (h : KBn K fd ps n ks (fun us ws => pick .none ix (us ++ ws ++ mv)) (fun xs zs => pick .non ix (xs ++ zs ++ vs))) (rd : ∀ F, RepL K F dvs vs) :
    KB K fd ps n ks (fun xs ys => pick .non ix (xs ++ ys ++ dvs)) := by
  refine ⟨_, _, h, fun F ds vs es ws r1 r2 => ?_⟩
  have r := (r1.append r2).append (rd F)
  unfold pick
  clear h
  induction ix with
  | nil => exact .nil
  | cons i ix ih => exact .cons (repl_getD r i) ih
theorem vals_pick {vs : List V} {us : List Value} (r : Vals vs us) (ix : List Nat) : Vals (pick .non ix vs) (pick .none ix us) := by
  unfold pick
  induction ix with
  | nil => exact .nil
  | cons i ix ih => exact .cons (vals_getD r i) ih
theorem kb_dfl0 {K : PySem.W.Frag} {x qual : Str} {params : Arguments} {body : List Stmt} {scope : Scope} {kws : List (Str × V)} {f : Addr} {fd : FuncData} {ps : List Str} (F : FunD K x qual params body scope [] kws f fd) (n : Nat) (ks : List Str) (ms : List (Str × V)) (dvs : List D) (ix : List Nat) (hk : kws ≠ []) (hms : ∀ q ∈ ms, q ∈ kws) (rd : ∀ F, RepL K F dvs (ms.map (·.2)))
    (h : ∀ (Dd : Addr) (doc pm : Value) (an : Option Addr) (cdv ct : Value) (us mv ws : List Value), us.length = n → mv.length = ms.length → ws.length = ks.length →
      KwChain Dd ((ms.map (·.1)).zip mv) (bindArgs (PySem.W.fnOf x qual params body scope .none (.ref Dd) doc pm an cdv ct) ⟨us, ks.zip ws⟩) (ps.zip (pick .none ix (us ++ ws ++ mv)))) : KB K fd ps n ks (fun xs ys => pick .non ix (xs ++ ys ++ dvs)) := by
  obtain ⟨oc, od, dV, kV, doc, pm, an, cdv, ct, osl, rfl, lk, hcd, hD, hK⟩ := F.ex
  rcases hD with ⟨_, rfl⟩ | ⟨e, _⟩
  · rcases hK with e | ⟨Dd, rfl, hq⟩
    · exact absurd e hk
    · obtain ⟨mv, hl, rk, hks⟩ := kwd_vals (ms := ms) fun q hm => hq q (hms q hm)
      refine kb_dfl (mv := mv) ix ⟨fun s us ws X l1 l2 => BindsTo.of_looks fun M => KwChain.looks X hks (h Dd doc pm an cdv ct us mv ws l1 hl l2), fun r1 r2 => ?_⟩ rd
      exact vals_pick ((r1.append r2).append rk) ix
  · exact absurd rfl e
def dgLst (n : Nat) (gs : DGs) : DG := fun x ds M Q => match x with
  | .lst xs => xs.length = n ∧ gs xs ds M Q
  | _ => False
theorem pdg_lst {X : Cx} {R F0 : Hp} {pos : Pos} {es : List Expr} {k : Nat} {gs : DGs} {n : Nat} (hc : X.calm = true) (h : PDGs R F0 X es gs) (hn : (assignEach es X.env).length = n := by rfl) (hst : (assignEach es X.env).findIdx? (·.1) = none := by rfl) : PDG R F0 X (.Tuple es k pos) (dgLst n gs) := by
  refine PG.imp (pg_lst hc h hn hst) ?_
  rintro v σ H Q ⟨F, ds, M, d, Qd, a, r, h, c⟩
  cases r with
  | lst hx rx => exact ⟨_, _, rfl, .inl (.inl (a.hm.ex _ _ hx)), rx.length.symm.trans h.1, F, ds, M, _, _, a, rx, h.2, c⟩
  | _ => exact h.elim
end Dv
-- LAW law_k04_ledgers_and_rules_refused wholedrift_k04_ledgers_and_rules_refused
-- ITER is_name str value
-- ITER _law_is_name str _law_thing
-- ITER Rule.__init__ tup (source, target)
namespace Dv
open PySem PySem.Spec L2
abbrev top (i : Nat) : Stmt := PySem.Challenge.pw_wholedrift_k04_ledgers_and_rules_refused.main.body.getD i (.Pass ⟨0, 0, 0, 0⟩)
abbrev st_law_seed : Stmt := top 19
abbrev N_law_seed : List Str := ["_law_script", "_law_spot", "_law_state", "_law_cell"]
abbrev ps_law_seed : List Str := ["_law_script", "_law_spot"]
theorem fs_law_seed : FnScope N_law_seed ps_law_seed (defScope st_law_seed) := ⟨rfl, rfl, rfl, by decide +kernel, rfl, by decide +kernel, by decide +kernel⟩
abbrev st_law_pool : Stmt := top 20
abbrev N_law_pool : List Str := ["_law_cell"]
abbrev ps_law_pool : List Str := ["_law_cell"]
theorem fs_law_pool : FnScope N_law_pool ps_law_pool (defScope st_law_pool) := ⟨rfl, rfl, rfl, by decide +kernel, rfl, by decide +kernel, by decide +kernel⟩
abbrev st_law_draw : Stmt := top 21
abbrev N_law_draw : List Str := ["_law_pool_here", "_law_many", "_law_digit", "_law_state"]
abbrev ps_law_draw : List Str := ["_law_pool_here", "_law_many"]
theorem fs_law_draw : FnScope N_law_draw ps_law_draw (defScope st_law_draw) := ⟨rfl, rfl, rfl, by decide +kernel, rfl, by decide +kernel, by decide +kernel⟩
abbrev st_law_pick : Stmt := top 22
abbrev N_law_pick : List Str := ["_law_pool_here", "_law_things"]
abbrev ps_law_pick : List Str := ["_law_pool_here", "_law_things"]
theorem fs_law_pick : FnScope N_law_pick ps_law_pick (defScope st_law_pick) := ⟨rfl, rfl, rfl, by decide +kernel, rfl, by decide +kernel, by decide +kernel⟩
abbrev st_law_odd : Stmt := top 23
abbrev N_law_odd : List Str := ["_law_pool_here", "_law_many", "_law_menu"]
abbrev ps_law_odd : List Str := ["_law_pool_here"]
theorem fs_law_odd : FnScope N_law_odd ps_law_odd (defScope st_law_odd) := ⟨rfl, rfl, rfl, by decide +kernel, rfl, by decide +kernel, by decide +kernel⟩
section
variable {P : Program} {w : World} {K : PySem.W.Frag} {mg : Str → Option Value} {base : Heap}
def sp_seed : DSp := fun ds M Q _ => ∃ ns i, ds = [.scr ns, .int i] ∧ 0 ≤ i ∧ ∀ n : Int, Q (.int n) M
theorem ok_seed {f : Addr} {fd : FuncData} (DD : Dn K mg "_law_seed" "_law_seed" st_law_seed ps_law_seed f fd) (n_len : mg "len" = none) (n_int : mg "int" = none) : Cal P w K mg base 1 "_law_seed" f fd ps_law_seed sp_seed := by
  refine cal_of 0 DD fs_law_seed (fun ds M Q E h => ?_) fun cdv A outer s H E0 R F ds M Q E rm hG tk h => ?_
  · obtain ⟨ns, i, rfl, _⟩ := h; rfl
  · have hu := hu_room rm
    have nd := fs_law_seed.nd
    refine ⟨_, (pds_cons (pd_ifS (pdt_cmp op_lt o2_lt (pd_var 1) (pd_callB call_lenD rfl n_len (by rfl) (pda_cons (pd_var 0) pda_nil)) (nomark _)) (pds_one (pd_ret (pd_ix ix_seq o2_ix (pd_var 0) (pd_var 1) (fun _ _ => rfl)))) pds_nil)
      (pds_cons (pd_set 2 nd (pd_op op_addD o2_add (pd_op op_mulA o2_mul pd_int (pd_op op_addD o2_add (pd_var 1) pd_int)) pd_int))
      (pds_cons (pd_for (passes_of rfl) rfl (pdi_list (pd_slice (pd_var 0) pdo_none (pdo_some pd_int))) (pdg_name 3 nd) (pds_one (pd_set 2 nd (pd_op op_mod o2_mod (pd_callTy call_intD rfl n_int (by rfl) (pda_cons (pd_op op_addD o2_add (pd_op op_mulA o2_mul (pd_var 2) pd_int) (pd_var 3)) pda_nil)) pd_int))))
      (pds_one (pd_ret (pd_var 2)))))), ?_⟩
    obtain ⟨ns, i, rfl, h0, q⟩ := h
    refine ⟨fun hlt => ?_, fun hge => ?_⟩
    · obtain ⟨n, hn, _⟩ := atI_in (xs := ns) h0 (of_decide_eq_true hlt)
      exact ⟨n, hn, q n⟩
    · refine ⟨cmL (by decide) (by decide), ?_⟩
      refine loop_inv (fun rest ds M' => M' = M ∧ (∀ d ∈ rest, ∃ n, d = .int n) ∧ ∃ (st : Int) (c : Option D), ds = [some (.scr ns), some (.int i), some (.int st), c]) ?_ ?_ _ _ _ ?_
      · rintro ds M' ⟨rfl, _, st, c, rfl⟩
        exact q st
      · rintro x rest ds M' ⟨rfl, hx, st, c, rfl⟩ go
        obtain ⟨n, rfl⟩ := hx x List.mem_cons_self
        exact ⟨cmR (by decide) (by decide), (by decide : (0 : Int) < 2147483629), go _ _ ⟨rfl, fun d m => hx d (List.mem_cons_of_mem _ m), _, _, rfl⟩⟩
      · exact ⟨rfl, cut_all ints_all, _, _, rfl⟩
def sp_pool : DSp := fun ds M Q _ => ∃ c : Int, ds = [.int c] ∧ ∀ p M', M p = none → Go p M M' → Q (.ref p) M'
theorem ok_pool {f : Addr} {fd : FuncData} (DD : Dn K mg "_law_pool" "_law_pool" st_law_pool ps_law_pool f fd) (n_int : mg "int" = none) (n_abs : mg "abs" = none) : Cal P w K mg base 1 "_law_pool" f fd ps_law_pool sp_pool := by
  refine cal_of 0 DD fs_law_pool (fun ds M Q E h => ?_) fun cdv A outer s H E0 R F ds M Q E rm hG tk h => ?_
  · obtain ⟨c, rfl, _⟩ := h; rfl
  · have hu := hu_room rm
    have nd := fs_law_pool.nd
    refine ⟨_, (pds_one (pd_ret (pd_lstM (pda_cons (pd_op op_mod o2_mod (pd_callTy call_intD rfl n_int (by rfl) (pda_cons (pd_var 0) pda_nil)) pd_int) (pda_cons (pd_if (pdt_cmp op_ge o2_ge (pd_callB call_absD rfl n_abs (by rfl) (pda_cons (pd_var 0) pda_nil)) (pd_op op_pow o2_pow pd_int pd_int) (nomark _)) (pd_callB call_absD rfl n_abs (by rfl) (pda_cons (pd_var 0) pda_nil)) pd_int) (pda_cons pd_int pda_nil)))))), ?_⟩
    obtain ⟨c, rfl, q⟩ := h
    have m1 : 0 ≤ c % 2147483629 := Int.emod_nonneg _ (by decide)
    have m2 : c % 2147483629 < 2147483648 := Int.lt_trans (Int.emod_lt_of_pos _ (by decide)) (by decide)
    refine ⟨(by decide : (0 : Int) < 2147483629), cp10 (by decide) (by decide), fun hlt => ?_, fun hge => ?_⟩
    · refine ⟨small_le (n := 3) (by decide), fun p n => q p _ n ⟨⟨_, _, _, mup_same, m1, m2, ?_⟩, fun r o z e => by rw [mup_ne z]; exact e⟩⟩
      split <;> omega
    · exact ⟨small_le (n := 3) (by decide), fun p n => q p _ n ⟨⟨_, _, _, mup_same, m1, m2, Int.le_refl _⟩, fun r o z e => by rw [mup_ne z]; exact e⟩⟩
def sp_draw : DSp := fun ds M Q _ => ∃ p m, ds = [.ref p, .int m] ∧ Pool M p ∧ 0 < m ∧ m < 2 ^ 64 ∧ ∀ (r : Int) M', 0 ≤ r → r < m → Go p M M' → Q (.int r) M'
theorem ok_draw {f : Addr} {fd : FuncData} (DD : Dn K mg "_law_draw" "_law_draw" st_law_draw ps_law_draw f fd) (n_int : mg "int" = none) (n_divmod : mg "divmod" = none) : Cal P w K mg base 1 "_law_draw" f fd ps_law_draw sp_draw := by
  refine cal_of 0 DD fs_law_draw (fun ds M Q E h => ?_) fun cdv A outer s H E0 R F ds M Q E rm hG tk h => ?_
  · obtain ⟨p, m, rfl, _⟩ := h; rfl
  · have hu := hu_room rm
    have nd := fs_law_draw.nd
    refine ⟨_, (pds_cons (pd_asg (pd_op op_addD o2_add (pd_ix ix_seq o2_ix (pd_var 0) pd_int (fun _ _ => rfl)) pd_int) (pdg_sub (pd_var 0) pd_int set_list s3_set))
      (pds_cons (pd_ifS (pdt_cmp op_gt o2_gt (pd_ix ix_seq o2_ix (pd_var 0) pd_int (fun _ _ => rfl)) pd_int (nomark _)) (pds_cons (pd_asg (pd_callB call_divmodD rfl n_divmod (by rfl) (pda_cons (pd_ix ix_seq o2_ix (pd_var 0) pd_int (fun _ _ => rfl)) (pda_cons (pd_var 1) pda_nil))) (pdg_tup rfl (pdgs_cons (pdg_sub (pd_var 0) pd_int set_list s3_set) (pdgs_cons (pdg_name 2 nd) pdgs_nil))))
      (pds_one (pd_ret (pd_var 2)))) pds_nil)
      (pds_cons (pd_set 3 nd (pd_callTy call_intD rfl n_int (by rfl) (pda_cons (pd_ix ix_seq o2_ix (pd_var 0) pd_int (fun _ _ => rfl)) pda_nil)))
      (pds_cons (pd_set 3 nd (pd_op op_mod o2_mod (pd_callTy call_intD rfl n_int (by rfl) (pda_cons (pd_op op_addD o2_add (pd_op op_addD o2_add (pd_op op_mulA o2_mul (pd_var 3) (pd_op op_addD o2_add (pd_op op_mod o2_mod (pd_callTy call_intD rfl n_int (by rfl) (pda_cons (pd_var 3) pda_nil)) pd_int) pd_int)) (pd_op op_mulA o2_mul pd_int (pd_ix ix_seq o2_ix (pd_var 0) pd_int (fun _ _ => rfl)))) pd_int) pda_nil)) pd_int))
      (pds_cons (pd_asg (pd_op op_mod o2_mod (pd_callTy call_intD rfl n_int (by rfl) (pda_cons (pd_op op_addD o2_add (pd_op op_mulA o2_mul (pd_var 3) pd_int) (pd_op op_mulA o2_mul pd_int (pd_ix ix_seq o2_ix (pd_var 0) pd_int (fun _ _ => rfl)))) pda_nil)) pd_int) (pdg_sub (pd_var 0) pd_int set_list s3_set))
      (pds_one (pd_ret (pd_op op_mod o2_mod (pd_callTy call_intD rfl n_int (by rfl) (pda_cons (pd_op op_fdivW o2_fdv (pd_ix ix_seq o2_ix (pd_var 0) pd_int (fun _ _ => rfl)) pd_int) pda_nil)) (pd_var 1))))))))), ?_⟩
    obtain ⟨p, m, rfl, ⟨a, b, c, e, ha, hb, hc⟩, m0, m64, q⟩ := h
    have ix0 : ∀ x y z : D, atI [x, y, z] 0 = some x := fun _ _ _ => rfl
    have ix1 : ∀ x y z : D, atI [x, y, z] 1 = some y := fun _ _ _ => rfl
    have ix2 : ∀ x y z : D, atI [x, y, z] 2 = some z := fun _ _ _ => rfl
    refine ⟨_, _, e, rfl, _, 2, e, rfl, ?_⟩
    refine ⟨_, _, mup_same, rfl, fun hpos => ?_, fun hneg => ?_⟩
    · refine ⟨_, _, mup_same, rfl, cdp m0 m64, rfl, _, 1, mup_same, rfl, ?_⟩
      refine q _ _ (Int.emod_nonneg _ (by omega)) (Int.emod_lt_of_pos _ m0) ?_
      rw [mup_mup]
      exact Pool.set ha hb (Int.ediv_nonneg hc (by omega))
    · refine ⟨_, _, mup_same, rfl, ?_⟩
      refine ⟨(by decide : (0 : Int) < 7919), cmL (by omega) (by omega), _, _, mup_same, rfl, cmL (by decide) (by decide), (by decide : (0 : Int) < 2147483629), ?_⟩
      refine ⟨cmR (by decide) (by decide), _, _, mup_same, rfl, cmL (by decide) (by decide), (by decide : (0 : Int) < 2147483587), _, 0, mup_same, rfl, ?_⟩
      refine ⟨_, _, mup_same, rfl, cdw (by decide) (by decide), m0, ?_⟩
      refine q _ _ (Int.emod_nonneg _ (by omega)) (Int.emod_lt_of_pos _ m0) ?_
      rw [mup_mup]
      exact Pool.set (Int.emod_nonneg _ (by decide)) (Int.lt_trans (Int.emod_lt_of_pos _ (by decide)) (by decide)) hc
def sp_pick : DSp := fun ds M Q _ => ∃ p xs, ds = [.ref p, .lst xs] ∧ Pool M p ∧ xs ≠ [] ∧ xs.length < 1000000 ∧ ∀ d ∈ xs, ∀ M', Go p M M' → Q d M'
theorem ok_pick {f fdr : Addr} {fd fdd : FuncData} (DD : Dn K mg "_law_pick" "_law_pick" st_law_pick ps_law_pick f fd) (n_len : mg "len" = none) (c_law_draw : Cal P w K mg base 1 "_law_draw" fdr fdd ps_law_draw sp_draw) : Cal P w K mg base 2 "_law_pick" f fd ps_law_pick sp_pick := by
  refine cal_of 1 DD fs_law_pick (fun ds M Q E h => ?_) fun cdv A outer s H E0 R F ds M Q E rm hG tk h => ?_
  · obtain ⟨p, xs, rfl, _⟩ := h; rfl
  · have hu := hu_room rm
    have nd := fs_law_pick.nd
    refine ⟨_, (pds_one (pd_ret (pd_ix ix_seq o2_ix (pd_var 1) (pd_cal c_law_draw rm (by decide) hG takes_no (pda_cons (pd_var 0) (pda_cons (pd_callB call_lenD rfl n_len (by rfl) (pda_cons (pd_var 1) pda_nil)) pda_nil))) (fun _ _ => rfl)))), ?_⟩
    obtain ⟨p, xs, rfl, hp, ne, sm, q⟩ := h
    have l : 0 < xs.length := List.length_pos_iff.mpr ne
    refine ⟨_, _, rfl, hp, by omega, by omega, fun r M' h0 h1 g => ?_⟩
    obtain ⟨d, ed, md⟩ := atI_in (xs := xs) h0 h1
    exact ⟨d, ed, q d md M' g⟩
def sp_odd : DSp := fun ds M Q _ => ∃ p, ds = [.ref p] ∧ Pool M p ∧ ∀ d M', Odd d → Go p M M' → Q d M'
theorem ok_odd {f fdr fpi : Addr} {fd fdd fdp : FuncData} (DD : Dn K mg "_law_odd" "_law_odd" st_law_odd ps_law_odd f fd) (n_str : mg "str" = none) (c_law_draw : Cal P w K mg base 1 "_law_draw" fdr fdd ps_law_draw sp_draw)
    (c_law_pick : Cal P w K mg base 2 "_law_pick" fpi fdp ps_law_pick sp_pick) : Cal P w K mg base 3 "_law_odd" f fd ps_law_odd sp_odd := by
  refine cal_of 2 DD fs_law_odd (fun ds M Q E h => ?_) fun cdv A outer s H E0 R F ds M Q E rm hG tk h => ?_
  · obtain ⟨p, rfl, _⟩ := h; rfl
  · have hu := hu_room rm
    have nd := fs_law_odd.nd
    refine ⟨_, (pds_cons (pd_set 1 nd (pd_op op_sub o2_sub (pd_cal c_law_draw rm (by decide) hG takes_no (pda_cons (pd_var 0) (pda_cons (pd_op op_pow o2_pow pd_int pd_int) pda_nil))) pd_int))
      (pds_cons (pd_set 2 nd (pd_lst (pda_cons pd_non (pda_cons pd_int (pda_cons pd_int (pda_cons pd_bl (pda_cons pd_bl (pda_cons pd_str (pda_cons pd_str (pda_cons pd_str (pda_cons (pd_tup pda_nil) (pda_cons (pd_tup (pda_cons pd_str (pda_cons pd_int pda_nil))) (pda_cons (pd_lst (pda_cons pd_int pda_nil)) (pda_cons (pd_lst pda_nil) (pda_cons pd_dct0 (pda_cons (pd_dct1 (fun _ => pd_str) (fun _ => (pd_tup (pda_cons pd_int pda_nil)))) (pda_cons (pd_un un_neg o1_neg pd_int) (pda_cons (pd_op op_pow o2_pow pd_int pd_int) pda_nil))))))))))))))))))
      (pds_cons (pd_set 2 nd (pd_op op_addD o2_add (pd_var 2) (pd_lst (pda_cons (pd_tup (pda_cons pd_str (pda_cons pd_non (pda_cons (pd_lst (pda_cons pd_int pda_nil)) pda_nil)))) (pda_cons (pd_var 1) (pda_cons (pd_callTy call_strD rfl n_str (by rfl) (pda_cons (pd_var 1) pda_nil)) (pda_cons (pd_tup (pda_cons (pd_var 1) pda_nil)) (pda_cons (pd_tup (pda_cons (pd_tup (pda_cons pd_str pda_nil)) (pda_cons (pd_tup pda_nil) pda_nil))) (pda_cons (pd_lst (pda_cons (pd_lst pda_nil) (pda_cons (pd_lst (pda_cons pd_non pda_nil)) pda_nil))) (pda_cons pd_int (pda_cons pd_str (pda_cons (pd_tup (pda_cons (pd_tup pda_nil) (pda_cons (pd_lst pda_nil) (pda_cons pd_dct0 pda_nil)))) pda_nil))))))))))))
      (pds_one (pd_ret (pd_cal c_law_pick rm (by decide) hG takes_no (pda_cons (pd_var 0) (pda_cons (pd_var 2) pda_nil)))))))), ?_⟩
    obtain ⟨p, rfl, hp, q⟩ := h
    refine ⟨cp10 (by decide) (by decide), _, _, rfl, hp, by decide, by decide, fun r M' h0 h1 g => ?_⟩
    have b1 : (-1000000 : Int) ≤ r - 400000 := by omega
    have b2 : r - 400000 ≤ 1000000 := by have : r < 1000000 := h1; omega
    have l1 : (r - 400000).natAbs.log2 < 1920 := by
      have z : (r - 400000).natAbs < 10 ^ 50 := by rw [e50]; omega
      have := log2_small z
      omega
    refine ⟨sl 0, sl 2, sl 1, sl 0, sl 1, cp10 (by decide) (by decide), sl 16, ?_⟩
    refine ⟨sl 1, sl 3, l1, sl 1, sl 1, sl 0, sl 2, sl 0, sl 1, sl 2, sl 0, sl 0, sl 3, sl 9, sl 25, ?_⟩
    refine ⟨_, _, rfl, g.pool, by simp, by show 25 < 1000000; decide, fun d md M2 g2 => q d M2 (odd_menu b1 b2 d md) (g.trans g2)⟩
end

abbrev st_is_integer : Stmt := top 11
abbrev N_is_integer : List Str := ["value"]
abbrev ps_is_integer : List Str := ["value"]
theorem fs_is_integer : FnScope N_is_integer ps_is_integer (defScope st_is_integer) := ⟨rfl, rfl, rfl, by decide +kernel, rfl, by decide +kernel, by decide +kernel⟩
abbrev st_is_name : Stmt := top 12
abbrev N_is_name : List Str := ["value", "sign"]
abbrev ps_is_name : List Str := ["value"]
theorem fs_is_name : FnScope N_is_name ps_is_name (defScope st_is_name) := ⟨rfl, rfl, rfl, by decide +kernel, rfl, by decide +kernel, by decide +kernel⟩
abbrev st_is_rounding : Stmt := top 15
abbrev N_is_rounding : List Str := ["value"]
abbrev ps_is_rounding : List Str := ["value"]
theorem fs_is_rounding : FnScope N_is_rounding ps_is_rounding (defScope st_is_rounding) := ⟨rfl, rfl, rfl, by decide +kernel, rfl, by decide +kernel, by decide +kernel⟩
abbrev st_Ledger___init : Stmt := inClass (top 16) 1
abbrev N_Ledger___init : List Str := ["self", "name", "worth"]
abbrev ps_Ledger___init : List Str := ["self", "name", "worth"]
theorem fs_Ledger___init : FnScope N_Ledger___init ps_Ledger___init (defScope st_Ledger___init) := ⟨rfl, rfl, rfl, by decide +kernel, rfl, by decide +kernel, by decide +kernel⟩
abbrev st_Ledger_name : Stmt := inClass (top 16) 2
abbrev N_Ledger_name : List Str := ["self"]
abbrev ps_Ledger_name : List Str := ["self"]
theorem fs_Ledger_name : FnScope N_Ledger_name ps_Ledger_name (defScope st_Ledger_name) := ⟨rfl, rfl, rfl, by decide +kernel, rfl, by decide +kernel, by decide +kernel⟩
abbrev st_Ledger_worth : Stmt := inClass (top 16) 3
abbrev N_Ledger_worth : List Str := ["self"]
abbrev ps_Ledger_worth : List Str := ["self"]
theorem fs_Ledger_worth : FnScope N_Ledger_worth ps_Ledger_worth (defScope st_Ledger_worth) := ⟨rfl, rfl, rfl, by decide +kernel, rfl, by decide +kernel, by decide +kernel⟩
abbrev st_Rule___init : Stmt := inClass (top 17) 1
abbrev N_Rule___init : List Str := ["self", "source", "target", "rounding", "charge", "least", "name"]
abbrev ps_Rule___init : List Str := ["self", "source", "target", "rounding", "charge", "least"]
theorem fs_Rule___init : FnScope N_Rule___init ps_Rule___init (defScope st_Rule___init) := ⟨rfl, rfl, rfl, by decide +kernel, rfl, by decide +kernel, by decide +kernel⟩
abbrev st_Rule_source : Stmt := inClass (top 17) 2
abbrev N_Rule_source : List Str := ["self"]
abbrev ps_Rule_source : List Str := ["self"]
theorem fs_Rule_source : FnScope N_Rule_source ps_Rule_source (defScope st_Rule_source) := ⟨rfl, rfl, rfl, by decide +kernel, rfl, by decide +kernel, by decide +kernel⟩
abbrev st_Rule_target : Stmt := inClass (top 17) 3
abbrev N_Rule_target : List Str := ["self"]
abbrev ps_Rule_target : List Str := ["self"]
theorem fs_Rule_target : FnScope N_Rule_target ps_Rule_target (defScope st_Rule_target) := ⟨rfl, rfl, rfl, by decide +kernel, rfl, by decide +kernel, by decide +kernel⟩
abbrev st_Rule_rounding : Stmt := inClass (top 17) 4
abbrev N_Rule_rounding : List Str := ["self"]
abbrev ps_Rule_rounding : List Str := ["self"]
theorem fs_Rule_rounding : FnScope N_Rule_rounding ps_Rule_rounding (defScope st_Rule_rounding) := ⟨rfl, rfl, rfl, by decide +kernel, rfl, by decide +kernel, by decide +kernel⟩
abbrev st_Rule_charge : Stmt := inClass (top 17) 5
abbrev N_Rule_charge : List Str := ["self"]
abbrev ps_Rule_charge : List Str := ["self"]
theorem fs_Rule_charge : FnScope N_Rule_charge ps_Rule_charge (defScope st_Rule_charge) := ⟨rfl, rfl, rfl, by decide +kernel, rfl, by decide +kernel, by decide +kernel⟩
abbrev st_Rule_least : Stmt := inClass (top 17) 6
abbrev N_Rule_least : List Str := ["self"]
abbrev ps_Rule_least : List Str := ["self"]
theorem fs_Rule_least : FnScope N_Rule_least ps_Rule_least (defScope st_Rule_least) := ⟨rfl, rfl, rfl, by decide +kernel, rfl, by decide +kernel, by decide +kernel⟩
abbrev st_law_tag : Stmt := top 24
abbrev N_law_tag : List Str := ["_law_pool_here", "_law_signs", "_law_found", "_law_turn"]
abbrev ps_law_tag : List Str := ["_law_pool_here"]
theorem fs_law_tag : FnScope N_law_tag ps_law_tag (defScope st_law_tag) := ⟨rfl, rfl, rfl, by decide +kernel, rfl, by decide +kernel, by decide +kernel⟩
abbrev st_law_styles : Stmt := top 25
abbrev N_law_styles : List Str := []
abbrev ps_law_styles : List Str := []
theorem fs_law_styles : FnScope N_law_styles ps_law_styles (defScope st_law_styles) := ⟨rfl, rfl, rfl, by decide +kernel, rfl, by decide +kernel, by decide +kernel⟩
abbrev st_law_number : Stmt := top 26
abbrev N_law_number : List Str := ["_law_pool_here", "_law_kind_here", "_law_size"]
abbrev ps_law_number : List Str := ["_law_pool_here"]
theorem fs_law_number : FnScope N_law_number ps_law_number (defScope st_law_number) := ⟨rfl, rfl, rfl, by decide +kernel, rfl, by decide +kernel, by decide +kernel⟩
abbrev st_law_fee : Stmt := top 27
abbrev N_law_fee : List Str := ["_law_pool_here", "_law_kind_here"]
abbrev ps_law_fee : List Str := ["_law_pool_here"]
theorem fs_law_fee : FnScope N_law_fee ps_law_fee (defScope st_law_fee) := ⟨rfl, rfl, rfl, by decide +kernel, rfl, by decide +kernel, by decide +kernel⟩
abbrev st_law_string : Stmt := top 28
abbrev N_law_string : List Str := ["_law_pool_here", "_law_signs", "_law_odd_signs", "_law_size", "_law_found", "_law_k"]
abbrev ps_law_string : List Str := ["_law_pool_here"]
theorem fs_law_string : FnScope N_law_string ps_law_string (defScope st_law_string) := ⟨rfl, rfl, rfl, by decide +kernel, rfl, by decide +kernel, by decide +kernel⟩
abbrev st_law_is_name : Stmt := top 29
abbrev N_law_is_name : List Str := ["_law_thing", "_law_letters", "_law_sign"]
abbrev ps_law_is_name : List Str := ["_law_thing"]
theorem fs_law_is_name : FnScope N_law_is_name ps_law_is_name (defScope st_law_is_name) := ⟨rfl, rfl, rfl, by decide +kernel, rfl, by decide +kernel, by decide +kernel⟩
abbrev st_law_whole : Stmt := top 30
abbrev N_law_whole : List Str := ["_law_thing"]
abbrev ps_law_whole : List Str := ["_law_thing"]
theorem fs_law_whole : FnScope N_law_whole ps_law_whole (defScope st_law_whole) := ⟨rfl, rfl, rfl, by decide +kernel, rfl, by decide +kernel, by decide +kernel⟩
abbrev st_law_some_tag : Stmt := top 31
abbrev N_law_some_tag : List Str := ["_law_pool_here"]
abbrev ps_law_some_tag : List Str := ["_law_pool_here"]
theorem fs_law_some_tag : FnScope N_law_some_tag ps_law_some_tag (defScope st_law_some_tag) := ⟨rfl, rfl, rfl, by decide +kernel, rfl, by decide +kernel, by decide +kernel⟩
abbrev st_law_some_unit : Stmt := top 32
abbrev N_law_some_unit : List Str := ["_law_pool_here"]
abbrev ps_law_some_unit : List Str := ["_law_pool_here"]
theorem fs_law_some_unit : FnScope N_law_some_unit ps_law_some_unit (defScope st_law_some_unit) := ⟨rfl, rfl, rfl, by decide +kernel, rfl, by decide +kernel, by decide +kernel⟩
abbrev st_law_some_style : Stmt := top 33
abbrev N_law_some_style : List Str := ["_law_pool_here", "_law_menu"]
abbrev ps_law_some_style : List Str := ["_law_pool_here"]
theorem fs_law_some_style : FnScope N_law_some_style ps_law_some_style (defScope st_law_some_style) := ⟨rfl, rfl, rfl, by decide +kernel, rfl, by decide +kernel, by decide +kernel⟩
abbrev st_law_some_fee : Stmt := top 34
abbrev N_law_some_fee : List Str := ["_law_pool_here"]
abbrev ps_law_some_fee : List Str := ["_law_pool_here"]
theorem fs_law_some_fee : FnScope N_law_some_fee ps_law_some_fee (defScope st_law_some_fee) := ⟨rfl, rfl, rfl, by decide +kernel, rfl, by decide +kernel, by decide +kernel⟩
abbrev st_law_some_door : Stmt := top 35
abbrev N_law_some_door : List Str := ["_law_pool_here"]
abbrev ps_law_some_door : List Str := ["_law_pool_here"]
theorem fs_law_some_door : FnScope N_law_some_door ps_law_some_door (defScope st_law_some_door) := ⟨rfl, rfl, rfl, by decide +kernel, rfl, by decide +kernel, by decide +kernel⟩
abbrev st_law_ledger_told : Stmt := top 36
abbrev N_law_ledger_told : List Str := ["_law_tag_here", "_law_unit", "_law_by_position", "_law_made", "e"]
abbrev ps_law_ledger_told : List Str := ["_law_tag_here", "_law_unit", "_law_by_position"]
theorem fs_law_ledger_told : FnScope N_law_ledger_told ps_law_ledger_told (defScope st_law_ledger_told) := ⟨rfl, rfl, rfl, by decide +kernel, rfl, by decide +kernel, by decide +kernel⟩
abbrev st_law_ledger_due : Stmt := top 37
abbrev N_law_ledger_due : List Str := ["_law_tag_here", "_law_unit"]
abbrev ps_law_ledger_due : List Str := ["_law_tag_here", "_law_unit"]
theorem fs_law_ledger_due : FnScope N_law_ledger_due ps_law_ledger_due (defScope st_law_ledger_due) := ⟨rfl, rfl, rfl, by decide +kernel, rfl, by decide +kernel, by decide +kernel⟩
abbrev st_law_rule_told : Stmt := top 38
abbrev N_law_rule_told : List Str := ["_law_begin", "_law_end", "_law_style", "_law_fee_here", "_law_door", "_law_made", "e"]
abbrev ps_law_rule_told : List Str := ["_law_begin", "_law_end", "_law_style", "_law_fee_here", "_law_door"]
theorem fs_law_rule_told : FnScope N_law_rule_told ps_law_rule_told (defScope st_law_rule_told) := ⟨rfl, rfl, rfl, by decide +kernel, rfl, by decide +kernel, by decide +kernel⟩
abbrev st_law_rule_due : Stmt := top 39
abbrev N_law_rule_due : List Str := ["_law_begin", "_law_end", "_law_style", "_law_fee_here", "_law_door"]
abbrev ps_law_rule_due : List Str := ["_law_begin", "_law_end", "_law_style", "_law_fee_here", "_law_door"]
theorem fs_law_rule_due : FnScope N_law_rule_due ps_law_rule_due (defScope st_law_rule_due) := ⟨rfl, rfl, rfl, by decide +kernel, rfl, by decide +kernel, by decide +kernel⟩
abbrev st_law_right : Stmt := top 40
abbrev N_law_right : List Str := ["_law_pool_here", "_law_turn", "_law_tag_here", "_law_unit", "_law_by_position", "_law_begin", "_law_end", "_law_style", "_law_fee_here", "_law_door", "_law_rows", "_law_first", "_law_second", "_law_third", "_law_told"]
abbrev ps_law_right : List Str := ["_law_pool_here"]
theorem fs_law_right : FnScope N_law_right ps_law_right (defScope st_law_right) := ⟨rfl, rfl, rfl, by decide +kernel, rfl, by decide +kernel, by decide +kernel⟩
abbrev st_law : Stmt := top 41
abbrev N_law : List Str := ["_law_script", "_law_spot"]
abbrev ps_law : List Str := ["_law_script"]
theorem fs_law : FnScope N_law ps_law (defScope st_law) := ⟨rfl, rfl, rfl, by decide +kernel, rfl, by decide +kernel, by decide +kernel⟩
section
variable {P : Program} {w : World} {K : PySem.W.Frag} {mg : Str → Option Value} {base : Heap}
def sp_isint : DSp := fun ds M Q _ => ∃ d, ds = [d] ∧ Kd d ∧ Q (.bl (isInt d)) M
theorem int_only (d : D) : ((isInt d || isBl d) && !isBl d) = isInt d := by cases d <;> rfl
theorem ok_isint {f : Addr} {fd : FuncData} (DD : Dn K mg "is_integer" "is_integer" st_is_integer ps_is_integer f fd) (n_isinstance : mg "isinstance" = none) (n_int : mg "int" = none) (n_bool : mg "bool" = none) : Cal P w K mg base 1 "is_integer" f fd ps_is_integer sp_isint := by
  refine cal_of 0 DD fs_is_integer (fun ds M Q E h => ?_) fun cdv A outer s H E0 R F ds M Q E rm hG tk h => ?_
  · obtain ⟨d, rfl, _⟩ := h; rfl
  · refine ⟨_, (pds_one (pd_ret (pd_and (pd_callB call_isiD rfl n_isinstance (by rfl) (pda_cons (pd_var 0) (pda_cons (pd_bltn rfl n_int (by rfl)) pda_nil))) (pd_one (pd_not (pd_callB call_isiD rfl n_isinstance (by rfl) (pda_cons (pd_var 0) (pda_cons (pd_bltn rfl n_bool (by rfl)) pda_nil)))))))), ?_⟩
    obtain ⟨d, rfl, hd, q⟩ := h
    refine kd_int hd ⟨fun h1 => kd_bool hd ?_, fun h1 => ?_⟩
    · rw [← int_only, h1, Bool.true_and] at q
      exact q
    · rw [← int_only, h1, Bool.false_and] at q
      exact q
abbrev lettersS : Str := "abcdefghijklmnopqrstuvwxyz"
abbrev digitsS : Str := "0123456789"
def isL (c : Nat) : Bool := decide (c ∈ lettersS.cps.toList)
def isLD (c : Nat) : Bool := decide (c ∈ lettersS.cps.toList) || decide (c ∈ digitsS.cps.toList)
def nmL (l : List Nat) : Bool := decide ((1 : Int) ≤ l.length) && decide ((l.length : Int) ≤ 8) && (match l with | [] => false | c :: _ => isL c) && l.all isLD
def isNm : D → Bool
  | .str x => nmL x.cps.toList
  | _ => false
theorem atI_head {α : Type} (c : α) (r : List α) : atI (c :: r) 0 = some c := by
  unfold atI ixN
  rw [if_pos (by decide), if_pos (by simp only [List.length_cons]; omega)]
  rfl
theorem str_len (x : Str) : x.length = x.cps.toList.length := by
  show x.cps.size = _
  rw [Array.length_toList]
theorem strD_eq (x : Str) : strD x = x.cps.toList.map (fun c => D.str ⟨#[c]⟩) := rfl
def sp_isname : DSp := fun ds M Q _ => ∃ d, ds = [d] ∧ Odd d ∧ Q (.bl (isNm d)) M
theorem odd_len {x : Str} (h : Odd (.str x)) : x.length ≤ 2000 := h.sh.wt
theorem ok_isname {f : Addr} {fd : FuncData} (DD : Dn K mg "is_name" "is_name" st_is_name ps_is_name f fd) (n_isinstance : mg "isinstance" = none) (n_str : mg "str" = none) (n_len : mg "len" = none) (n_all : mg "all" = none) (v_LETTERS : Gv K mg "LETTERS" (.str lettersS)) (v_DIGITS : Gv K mg "DIGITS" (.str digitsS)) : Cal P w K mg base 1 "is_name" f fd ps_is_name sp_isname := by
  refine cal_of 0 DD fs_is_name (fun ds M Q E h => ?_) fun cdv A outer s H E0 R F ds M Q E rm hG tk h => ?_
  · obtain ⟨d, rfl, _⟩ := h; rfl
  · have hu := hu_room rm
    have nd := fs_is_name.nd
    refine ⟨_, (pds_cons (pd_ifS (pdt_w (pdw_or (pdt_not (pdt_val (pd_callB call_isiD rfl n_isinstance (by rfl) (pda_cons (pd_var 0) (pda_cons (pd_bltn rfl n_str (by rfl)) pda_nil))))) (pdw_or (pdt_not (pdt_chain op_le o2_le op_le o2_le pd_int (pd_callB call_lenD rfl n_len (by rfl) (pda_cons (pd_var 0) pda_nil)) pd_int)) (pdw_or1 (pdt_cmp op_notInA o2_notIn (pd_ix ix_seq o2_ix (pd_var 0) pd_int (fun _ _ => rfl)) (pd_gv v_LETTERS rfl) (by rfl)))))) (pds_one (pd_ret pd_bl)) pds_nil)
      (pds_one (pd_ret (pd_callB (call_allD rfl) rfl n_all (by rfl) (pda_cons (pd_lc (own := [("sign", 1)]) rfl nd (pdi_str (pd_var 0)) (blkOk_by (own := [("sign", 1)]) (N := N_is_name) (sc := defScope st_is_name) (by decide +kernel)) (fun _ => tgok_name (by decide)) (fun _ _ _ _ _ => pg_name (i := 1) nd rfl (Or.inl rfl)) (fun _ _ _ _ _ _ => pdts_nil) (fun _ _ _ _ _ _ => (pd_or (pd_cmp op_inA o2_in (pd_var 1) (pd_gv v_LETTERS rfl) (by rfl)) (pd_one (pd_cmp op_inA o2_in (pd_var 1) (pd_gv v_DIGITS rfl) (by rfl)))))) pda_nil))))), ?_⟩
    obtain ⟨d, rfl, od, q⟩ := h
    refine kd_str od.kd ⟨fun h1 => Br.t ?_, fun h1 => ?_⟩
    · cases d <;> first | (cases h1; done) | exact q
    · cases d <;> first | (cases h1; done) | skip
      rename_i x
      have hl := odd_len od
      have sl' : x.length ≤ sizeLine := small_le (by omega)
      have q' : Q (.bl (nmL x.cps.toList)) M := q
      obtain ⟨l, el⟩ : ∃ l, l = x.cps.toList := ⟨_, rfl⟩
      have lx : (x.length : Int) = l.length := by rw [str_len, el]
      rw [← el] at q'
      have tail : ∀ (b : Bool), nmL l = false → b = true → Q (.bl false) M := fun b e _ => by rw [e] at q'; exact q'
      refine ⟨sl', ⟨fun h2 => ⟨fun h3 => Br.t ?_, fun h3 => ?_⟩, fun h2 => Br.t (Br.t ?_)⟩⟩
      · refine tail true ?_ rfl
        have z : ¬ ((x.length : Int) ≤ 8) := by
          have z : (!decide ((x.length : Int) ≤ 8)) = true := h3
          simpa using z
        unfold nmL
        rw [show decide ((l.length : Int) ≤ 8) = false by simp; omega]
        simp
      · have z1 : (1 : Int) ≤ l.length := by have := of_decide_eq_true h2; omega
        have z2 : (l.length : Int) ≤ 8 := by
          have z : (!decide ((x.length : Int) ≤ 8)) = false := h3
          have z' : (x.length : Int) ≤ 8 := by simpa using z
          omega
        cases l with
        | nil => simp at z1
        | cons c r =>
          have first_ : atI x.cps.toList 0 = some c := by rw [← el]; exact atI_head c r
          refine ⟨c, first_, sl', c, rfl, ⟨fun h4 => ?_, fun h4 => ?_⟩⟩
          · refine tail true ?_ rfl
            have z : isL c = false := by
              have z : (!isL c) = true := h4
              simpa using z
            unfold nmL
            simp only [z, Bool.and_false, Bool.false_and]
          · have z : isL c = true := by
              have z : (!isL c) = false := h4
              simpa using z
            have goal : Q (.bl ((x.cps.toList.map isLD).all fun b => b)) M := by
              rw [List.all_map, ← el]
              have e : nmL (c :: r) = (c :: r).all isLD := by
                unfold nmL
                rw [decide_eq_true z1, decide_eq_true z2]
                simp only [z, Bool.true_and]
              rw [e] at q'
              exact q'
            show dLcL _ _ _ _ _ _ (strD x) [] M
            rw [strD_eq]
            refine lc_map (fun c => D.str ⟨#[c]⟩) (fun c => D.bl (isLD c)) (fun a Ky Kn k => Br.t ?_) x.cps.toList (by rw [← str_len]; omega) ⟨x.cps.toList.map isLD, by rw [List.map_map]; rfl, goal⟩
            refine ⟨a, rfl, ⟨fun h5 => ?_, fun h5 => ⟨a, rfl, ?_⟩⟩⟩
            · have e : isLD a = true := by unfold isLD; rw [show decide (a ∈ lettersS.cps.toList) = true from h5]; rfl
              rw [e] at k; exact k
            · have e : isLD a = decide (a ∈ digitsS.cps.toList) := by unfold isLD; rw [show decide (a ∈ lettersS.cps.toList) = false from h5]; rfl
              rw [e] at k; exact k
      · refine tail true ?_ rfl
        have z : ¬ ((1 : Int) ≤ x.length) := of_decide_eq_false h2
        unfold nmL
        rw [show decide ((1 : Int) ≤ l.length) = false by simp; omega]
        simp
abbrev stylesD : List D := [.str "down", .str "up", .str "near down", .str "near up", .str "near even"]
def inSt (x : Str) : Bool := stylesD.any fun d => eqD d (.str x)
def isRnd : D → Bool
  | .str x => inSt x
  | _ => false
def sp_isrnd : DSp := fun ds M Q _ => ∃ d, ds = [d] ∧ Kd d ∧ Q (.bl (isRnd d)) M
theorem ok_isrnd {f : Addr} {fd : FuncData} (DD : Dn K mg "is_rounding" "is_rounding" st_is_rounding ps_is_rounding f fd) (n_isinstance : mg "isinstance" = none) (n_str : mg "str" = none) (v_ROUNDINGS : Gv K mg "ROUNDINGS" (.tup stylesD)) : Cal P w K mg base 1 "is_rounding" f fd ps_is_rounding sp_isrnd := by
  refine cal_of 0 DD fs_is_rounding (fun ds M Q E h => ?_) fun cdv A outer s H E0 R F ds M Q E rm hG tk h => ?_
  · obtain ⟨d, rfl, _⟩ := h; rfl
  · refine ⟨_, (pds_one (pd_ret (pd_and (pd_callB call_isiD rfl n_isinstance (by rfl) (pda_cons (pd_var 0) (pda_cons (pd_bltn rfl n_str (by rfl)) pda_nil))) (pd_one (pd_cmp op_inA o2_in (pd_var 0) (pd_gv v_ROUNDINGS rfl) (by rfl)))))), ?_⟩
    obtain ⟨d, rfl, hd, q⟩ := h
    refine kd_str hd ⟨fun h1 => ?_, fun h1 => ?_⟩
    · cases d <;> first | (cases h1; done) | exact ⟨rfl, rfl, q⟩
    · cases d <;> first | (cases h1; done) | exact q

def okW : D → Bool
  | .int i => decide (1 ≤ i) && decide (i ≤ 24)
  | _ => false
def ledR (a b : D) : Option (Bool × D) := if isNm a = true then (if okW b = true then none else some (false, b)) else some (true, a)
def sp_ledI (CN CW C : Addr) : DSp := fun ds M Q E => ∃ p dx a b, ds = [.ref p, a, b] ∧ M p = some (.sl C dx []) ∧ Odd a ∧ Odd b ∧ match ledR a b with
  | none => Q .non (mup M p (.sl C dx [some (.tup [a, b])]))
  | some (k, d) => ∀ q, M q = none → E (.ref (if k = true then CN else CW)) (some q) (mup M q (.xd [("given", d)]))
theorem ok_ledI {f f1 f2 CN CW i1 i2 C pd : Addr} {fd d1 d2 : FuncData} (FD : FunD K "__init__" "Ledger.__init__" (defArgs st_Ledger___init) (defBody st_Ledger___init) (defScope st_Ledger___init) [] [] f fd) (c_is_integer : Cal P w K mg base 1 "is_integer" f1 d1 ps_is_integer sp_isint) (c_is_name : Cal P w K mg base 1 "is_name" f2 d2 ps_is_name sp_isname)
    (e_InvalidName : PySem.ErD.ErrT K mg "InvalidName" "given" CN i1) (e_InvalidWorth : PySem.ErD.ErrT K mg "InvalidWorth" "given" CW i2) (v_MOST_WORTH : Gv K mg "MOST_WORTH" (.int 24)) (sc_Ledger : SlX.SCls K C) (sl_Ledger_parts : SlX.Slot1 K C "parts" pd 0) : FnG P w K mg base 2 f fd ps_Ledger___init (upSp K (sp_ledI CN CW C)) := by
  refine fnD_of (k := 1) FD fs_Ledger___init (fun ds M Q E h => ?_) fun cdv A outer s H E0 R F ds M Q E rm hG tk h => ?_
  · obtain ⟨p, dx, a, b, rfl, _⟩ := h; rfl
  · have hu := hu_room rm
    have nd := fs_Ledger___init.nd
    refine ⟨_, (pds_cons (pd_ifS (pdt_not (pdt_val (pd_cal c_is_name rm (by decide) hG takes_no (pda_cons (pd_var 1) pda_nil)))) (pds_one (pd_raise rfl e_InvalidName rm tk (pda_cons (pd_var 1) pda_nil))) pds_nil)
      (pds_cons (pd_ifS (pdt_w (pdw_or (pdt_not (pdt_val (pd_cal c_is_integer rm (by decide) hG takes_no (pda_cons (pd_var 2) pda_nil)))) (pdw_or1 (pdt_not (pdt_chain op_le o2_le op_le o2_le pd_int (pd_var 2) (pd_gv v_MOST_WORTH rfl)))))) (pds_one (pd_raise rfl e_InvalidWorth rm tk (pda_cons (pd_var 2) pda_nil))) pds_nil)
      (pds_one (pd_ssl sc_Ledger sl_Ledger_parts (pd_var 0) (pd_tup (pda_cons (pd_var 1) (pda_cons (pd_var 2) pda_nil))))))), ?_⟩
    obtain ⟨p, dx, a, b, rfl, hp, oa, ob, q⟩ := h
    unfold ledR at q
    refine ⟨_, rfl, oa, ⟨fun h1 => ?_, fun h1 => ⟨_, rfl, ob.kd, ⟨fun h2 => Br.t ?_, fun h2 => ?_⟩⟩⟩⟩
    · have z : isNm a = false := by
        have z : (!isNm a) = true := h1
        simpa using z
      rw [z] at q
      exact q
    · have z : isNm a = true := by
        have z : (!isNm a) = false := h1
        simpa using z
      have z2 : okW b = false := by
        have y : (!isInt b) = true := h2
        cases b <;> first | rfl | (cases y; done)
      rw [z, z2] at q
      exact q
    · have z : isNm a = true := by
        have z : (!isNm a) = false := h1
        simpa using z
      rw [z, if_pos rfl] at q
      cases b <;> first | (cases h2; done) | skip
      rename_i i
      have bad : okW (.int i) = false → ∀ q, M q = none → E (.ref CW) (some q) (mup M q (.xd [("given", .int i)])) := fun e => by
        rw [e] at q
        exact q
      refine ⟨fun h3 => ⟨fun h4 => ?_, fun h4 => ⟨sl 2, dx, _, hp, ?_⟩⟩, fun h3 => ?_⟩
      · refine bad ?_
        have z : (!decide (i ≤ 24)) = true := h4
        show (decide (1 ≤ i) && decide (i ≤ 24)) = false
        rw [show decide (i ≤ 24) = false by simpa using z, Bool.and_false]
      · have z3 : (!decide (i ≤ 24)) = false := h4
        have z4 : decide (i ≤ 24) = true := by simpa using z3
        have e : okW (.int i) = true := by
          show (decide (1 ≤ i) && decide (i ≤ 24)) = true
          rw [z4, show decide ((1 : Int) ≤ i) = true from h3]
          rfl
        rw [e] at q
        exact q
      · refine Br.t (bad ?_)
        show (decide (1 ≤ i) && decide (i ≤ 24)) = false
        rw [show decide ((1 : Int) ≤ i) = false from h3, Bool.false_and]
def ruleR (s t r c l : D) : Option (Nat × D) := if (!isNm s) = true then some (0, s) else if (!isNm t) = true then some (0, t) else if (!isRnd r) = true then some (1, r) else if (!isInt c) = true then some (2, c) else if (!isNon l && !isInt l) = true then some (3, l) else none
def sp_rulI (CE : Nat → Addr) (C : Addr) : DSp := fun ds M Q E => ∃ p dx a b r c l, ds = [.ref p, a, b, r, c, l] ∧ M p = some (.sl C dx []) ∧ (Odd a ∧ Odd b ∧ Odd r ∧ Odd c ∧ Odd l) ∧ match ruleR a b r c l with
  | none => Q .non (mup M p (.sl C dx [some (.tup [a, b, r, c, l])]))
  | some (k, d) => ∀ q, M q = none → E (.ref (CE k)) (some q) (mup M q (.xd [("given", d)]))
abbrev rkw : List (Str × V) := [("charge", .int 0), ("least", .non)]
theorem ok_rulI {f f1 f2 f3 C pd i0 i1 i2 i3 : Addr} {CE : Nat → Addr} {fd d1 d2 d3 : FuncData} (FD : FunD K "__init__" "Rule.__init__" (defArgs st_Rule___init) (defBody st_Rule___init) (defScope st_Rule___init) [] rkw f fd) (c_is_integer : Cal P w K mg base 1 "is_integer" f1 d1 ps_is_integer sp_isint) (c_is_name : Cal P w K mg base 1 "is_name" f2 d2 ps_is_name sp_isname)
    (c_is_rounding : Cal P w K mg base 1 "is_rounding" f3 d3 ps_is_rounding sp_isrnd) (e_InvalidName : PySem.ErD.ErrT K mg "InvalidName" "given" (CE 0) i0) (e_InvalidRounding : PySem.ErD.ErrT K mg "InvalidRounding" "given" (CE 1) i1) (e_InvalidCharge : PySem.ErD.ErrT K mg "InvalidCharge" "given" (CE 2) i2)
    (e_InvalidLeast : PySem.ErD.ErrT K mg "InvalidLeast" "given" (CE 3) i3) (sc_Rule : SlX.SCls K C) (sl_Rule_parts : SlX.Slot1 K C "parts" pd 0) : FnG P w K mg base 2 f fd ps_Rule___init (upSp K (sp_rulI CE C)) := by
  refine fnD_of (k := 1) FD fs_Rule___init (fun ds M Q E h => ?_) fun cdv A outer s H E0 R F ds M Q E rm hG tk h => ?_
  · obtain ⟨p, dx, a, b, r, c, l, rfl, _⟩ := h; rfl
  · have hu := hu_room rm
    have nd := fs_Rule___init.nd
    refine ⟨_, (pds_cons (pd_for (passes_of rfl) rfl (pdi_tup (pd_tup (pda_cons (pd_var 1) (pda_cons (pd_var 2) pda_nil)))) (pdg_name 6 nd) (pds_one (pd_ifS (pdt_not (pdt_val (pd_cal c_is_name rm (by decide) hG takes_no (pda_cons (pd_var 6) pda_nil)))) (pds_one (pd_raise rfl e_InvalidName rm tk (pda_cons (pd_var 6) pda_nil))) pds_nil)))
      (pds_cons (pd_ifS (pdt_not (pdt_val (pd_cal c_is_rounding rm (by decide) hG takes_no (pda_cons (pd_var 3) pda_nil)))) (pds_one (pd_raise rfl e_InvalidRounding rm tk (pda_cons (pd_var 3) pda_nil))) pds_nil)
      (pds_cons (pd_ifS (pdt_not (pdt_val (pd_cal c_is_integer rm (by decide) hG takes_no (pda_cons (pd_var 4) pda_nil)))) (pds_one (pd_raise rfl e_InvalidCharge rm tk (pda_cons (pd_var 4) pda_nil))) pds_nil)
      (pds_cons (pd_ifS (pdt_w (pdw_and (pdt_cmp op_notN o2_notN (pd_var 5) pd_non (nomark _)) (pdw_and1 (pdt_not (pdt_val (pd_cal c_is_integer rm (by decide) hG takes_no (pda_cons (pd_var 5) pda_nil))))))) (pds_one (pd_raise rfl e_InvalidLeast rm tk (pda_cons (pd_var 5) pda_nil))) pds_nil)
      (pds_one (pd_ssl sc_Rule sl_Rule_parts (pd_var 0) (pd_tup (pda_cons (pd_var 1) (pda_cons (pd_var 2) (pda_cons (pd_var 3) (pda_cons (pd_var 4) (pda_cons (pd_var 5) pda_nil)))))))))))), ?_⟩
    obtain ⟨p, dx, a, b, r, c, l, rfl, hp, ⟨oa, ob, or, oc, ol⟩, q⟩ := h
    unfold ruleR at q
    refine ⟨sl 2, _, rfl, oa, ⟨fun h1 => ?_, fun h1 => ⟨_, rfl, ob, ⟨fun h2 => ?_, fun h2 => ⟨_, rfl, or.kd, ⟨fun h3 => ?_, fun h3 => ⟨_, rfl, oc.kd, ⟨fun h4 => ?_, fun h4 => ?_⟩⟩⟩⟩⟩⟩⟩⟩
    · rw [if_pos h1] at q; exact q
    · rw [h1, if_neg Bool.false_ne_true, if_pos h2] at q; exact q
    · rw [h1, if_neg Bool.false_ne_true, h2, if_neg Bool.false_ne_true, if_pos h3] at q; exact q
    · rw [h1, if_neg Bool.false_ne_true, h2, if_neg Bool.false_ne_true, h3, if_neg Bool.false_ne_true, if_pos h4] at q; exact q
    · rw [h1, if_neg Bool.false_ne_true, h2, if_neg Bool.false_ne_true, h3, if_neg Bool.false_ne_true, h4, if_neg Bool.false_ne_true] at q
      refine ⟨fun h5 => ⟨_, rfl, ol.kd, ⟨fun h6 => ?_, fun h6 => ⟨sl 5, dx, _, hp, ?_⟩⟩⟩, fun h5 => Br.f ⟨sl 5, dx, _, hp, ?_⟩⟩
      · rw [show (!isNon l) = true from h5, show (!isInt l) = true from h6, Bool.and_self, if_pos rfl] at q; exact q
      · rw [show (!isInt l) = false from h6, Bool.and_false, if_neg Bool.false_ne_true] at q; exact q
      · rw [show (!isNon l) = false from h5, Bool.false_and, if_neg Bool.false_ne_true] at q; exact q
def sp_get (C : Addr) (i : Int) : DSp := fun ds M Q _ => ∃ xs d, ds = [.sl C [.tup xs]] ∧ atI xs i = some d ∧ Q d M

theorem ok_whole {f : Addr} {fd : FuncData} (DD : Dn K mg "_law_whole" "_law_whole" st_law_whole ps_law_whole f fd) (n_isinstance : mg "isinstance" = none) (n_int : mg "int" = none) (n_bool : mg "bool" = none) : Cal P w K mg base 1 "_law_whole" f fd ps_law_whole sp_isint := by
  refine cal_of 0 DD fs_law_whole (fun ds M Q E h => ?_) fun cdv A outer s H E0 R F ds M Q E rm hG tk h => ?_
  · obtain ⟨d, rfl, _⟩ := h; rfl
  · refine ⟨_, (pds_one (pd_ret (pd_and (pd_callB call_isiD rfl n_isinstance (by rfl) (pda_cons (pd_var 0) (pda_cons (pd_bltn rfl n_int (by rfl)) pda_nil))) (pd_one (pd_not (pd_callB call_isiD rfl n_isinstance (by rfl) (pda_cons (pd_var 0) (pda_cons (pd_bltn rfl n_bool (by rfl)) pda_nil)))))))), ?_⟩
    obtain ⟨d, rfl, hd, q⟩ := h
    refine kd_int hd ⟨fun h1 => kd_bool hd ?_, fun h1 => ?_⟩
    · rw [← int_only, h1, Bool.true_and] at q
      exact q
    · rw [← int_only, h1, Bool.false_and] at q
      exact q

def sp_styles : DSp := fun ds M Q _ => ds = [] ∧ Q (.lst stylesD) M
theorem ok_styles {f : Addr} {fd : FuncData} (DD : Dn K mg "_law_styles" "_law_styles" st_law_styles ps_law_styles f fd) : Cal P w K mg base 1 "_law_styles" f fd ps_law_styles sp_styles := by
  refine cal_of 0 DD fs_law_styles (fun ds M Q E h => ?_) fun cdv A outer s H E0 R F ds M Q E rm hG tk h => ?_
  · obtain ⟨rfl, _⟩ := h; rfl
  · refine ⟨_, (pds_one (pd_ret (pd_lst (pda_cons pd_str (pda_cons pd_str (pda_cons pd_str (pda_cons pd_str (pda_cons pd_str pda_nil)))))))), ?_⟩
    obtain ⟨rfl, q⟩ := h
    exact ⟨sl 5, q⟩
def sp_number : DSp := fun ds M Q _ => ∃ p, ds = [.ref p] ∧ Pool M p ∧ ∀ (n : Int) M', n.natAbs < 10 ^ 32 → Go p M M' → Q (.int n) M'
theorem e32 : (10 : Nat) ^ 32 = 100000000000000000000000000000000 := by decide
theorem at8 {a b c d e f g h : D} {r : Int} (h0 : 0 ≤ r) (h1 : r < 8) : ∃ x, atI [a, b, c, d, e, f, g, h] r = some x ∧ x ∈ [a, b, c, d, e, f, g, h] := atI_in h0 h1
theorem ok_number {f f1 : Addr} {fd d1 : FuncData} (DD : Dn K mg "_law_number" "_law_number" st_law_number ps_law_number f fd) (c_law_draw : Cal P w K mg base 1 "_law_draw" f1 d1 ps_law_draw sp_draw) : Cal P w K mg base 2 "_law_number" f fd ps_law_number sp_number := by
  refine cal_of 1 DD fs_law_number (fun ds M Q E h => ?_) fun cdv A outer s H E0 R F ds M Q E rm hG tk h => ?_
  · obtain ⟨p, rfl, _⟩ := h; rfl
  · have hu := hu_room rm
    have nd := fs_law_number.nd
    refine ⟨_, (pds_cons (pd_set 1 nd (pd_cal c_law_draw rm (by decide) hG takes_no (pda_cons (pd_var 0) (pda_cons pd_int pda_nil))))
      (pds_cons (pd_ifS (pdt_cmp op_lt o2_lt (pd_var 1) pd_int (nomark _)) (pds_one (pd_ret (pd_op op_sub o2_sub (pd_cal c_law_draw rm (by decide) hG takes_no (pda_cons (pd_var 0) (pda_cons pd_int pda_nil))) pd_int))) pds_nil)
      (pds_cons (pd_ifS (pdt_cmp (op_eqA hu) o2_eq (pd_var 1) pd_int (nomark _)) (pds_one (pd_ret (pd_ix ix_seq o2_ix (pd_lst (pda_cons pd_int (pda_cons pd_int (pda_cons (pd_un un_neg o1_neg pd_int) (pda_cons pd_int (pda_cons (pd_un un_neg o1_neg pd_int) (pda_cons pd_int (pda_cons (pd_op op_pow o2_pow pd_int pd_int) (pda_cons (pd_un un_neg o1_neg (pd_op op_pow o2_pow pd_int pd_int)) pda_nil))))))))) (pd_cal c_law_draw rm (by decide) hG takes_no (pda_cons (pd_var 0) (pda_cons pd_int pda_nil))) (fun _ _ => rfl)))) pds_nil)
      (pds_cons (pd_set 2 nd (pd_ix ix_seq o2_ix (pd_lst (pda_cons (pd_op op_pow o2_pow pd_int pd_int) (pda_cons (pd_op op_pow o2_pow pd_int pd_int) (pda_cons (pd_op op_pow o2_pow pd_int pd_int) (pda_cons (pd_op op_pow o2_pow pd_int pd_int) pda_nil))))) (pd_cal c_law_draw rm (by decide) hG takes_no (pda_cons (pd_var 0) (pda_cons pd_int pda_nil))) (fun _ _ => rfl)))
      (pds_one (pd_ret (pd_op op_mulA o2_mul (pd_ix ix_seq o2_ix (pd_lst (pda_cons pd_int (pda_cons (pd_un un_neg o1_neg pd_int) pda_nil))) (pd_cal c_law_draw rm (by decide) hG takes_no (pda_cons (pd_var 0) (pda_cons pd_int pda_nil))) (fun _ _ => rfl)) (pd_op op_addD o2_add (pd_var 2) (pd_cal c_law_draw rm (by decide) hG takes_no (pda_cons (pd_var 0) (pda_cons pd_int pda_nil))))))))))), ?_⟩
    obtain ⟨p, rfl, hp, q⟩ := h
    refine ⟨_, _, rfl, hp, by decide, by decide, fun r M1 h0 h1 g => ?_⟩
    refine ⟨fun k1 => ?_, fun k1 => ⟨fun k2 => ?_, fun k2 => ?_⟩⟩
    · exact ⟨_, _, rfl, g.pool, by decide, by decide, fun r2 M2 a0 a1 g2 => q _ _ (by rw [e32]; omega) (g.trans g2)⟩
    · refine ⟨cp10 (by decide) (by decide), cp10 (by decide) (by decide), sl 8, _, _, rfl, g.pool, by decide, by decide, fun r2 M2 a0 a1 g2 => ?_⟩
      obtain ⟨x, ex, mx⟩ := at8 (a := .int 0) (b := .int 1) (c := .int (-1)) (d := .int 100) (e := .int (-100)) (f := .int 999) (g := .int (10 ^ 6)) (h := .int (-(10 ^ 6))) a0 a1
      refine ⟨x, ex, ?_⟩
      have z : ∀ d ∈ ([.int 0, .int 1, .int (-1), .int 100, .int (-100), .int 999, .int (10 ^ 6), .int (-(10 ^ 6))] : List D), Q d M2 := by
        refine all_cons ?_ <| all_cons ?_ <| all_cons ?_ <| all_cons ?_ <| all_cons ?_ <| all_cons ?_ <| all_cons ?_ <| all_cons ?_ all_nil
        all_goals exact q _ _ (by decide +kernel) (g.trans g2)
      exact z x mx
    · refine ⟨cp10 (by decide) (by decide), cp10 (by decide) (by decide), cp10 (by decide) (by decide), cp10 (by decide) (by decide), sl 4, _, _, rfl, g.pool, by decide, by decide, fun r2 M2 a0 a1 g2 => ?_⟩
      obtain ⟨x, ex, mx⟩ := atI_in (xs := ([.int (10 ^ 9), .int (10 ^ 12), .int (10 ^ 20), .int (10 ^ 30)] : List D)) a0 a1
      refine ⟨x, ex, ?_⟩
      have hx : ∃ n : Int, x = .int n ∧ 0 ≤ n ∧ n ≤ 10 ^ 30 := by
        have z : ∀ d ∈ ([.int (10 ^ 9), .int (10 ^ 12), .int (10 ^ 20), .int (10 ^ 30)] : List D), ∃ n : Int, d = .int n ∧ 0 ≤ n ∧ n ≤ 10 ^ 30 := by
          refine all_cons ?_ <| all_cons ?_ <| all_cons ?_ <| all_cons ?_ all_nil
          all_goals exact ⟨_, rfl, by decide +kernel, by decide +kernel⟩
        exact z x mx
      obtain ⟨n, rfl, n0, n1⟩ := hx
      refine ⟨sl 2, _, _, rfl, (g.trans g2).pool, by decide, by decide, fun r3 M3 b0 b1 g3 => ?_⟩
      obtain ⟨y, ey, my⟩ := atI_in (xs := ([.int 1, .int (-1)] : List D)) b0 b1
      refine ⟨y, ey, ?_⟩
      have g4 := (g.trans g2).trans g3
      have e30 : (10 : Int) ^ 30 = 1000000000000000000000000000000 := by decide
      rw [e30] at n1
      have z : ∀ d ∈ ([.int 1, .int (-1)] : List D), ∃ m : Int, d = .int m ∧ (m = 1 ∨ m = -1) := all_cons ⟨_, rfl, .inl rfl⟩ <| all_cons ⟨_, rfl, .inr rfl⟩ all_nil
      obtain ⟨m, rfl, hm⟩ := z y my
      refine ⟨_, _, rfl, g4.pool, by decide, by decide, fun r5 M5 c0 c1 g5 => ⟨cmL ?_ ?_, q _ _ ?_ (g4.trans g5)⟩⟩
      · rcases hm with rfl | rfl <;> decide
      · rcases hm with rfl | rfl <;> decide
      · rw [e32]
        rcases hm with rfl | rfl
        · rw [Int.one_mul]; omega
        · rw [Int.neg_mul, Int.one_mul]; omega

theorem ok_get_Ledger_name {f C pd : Addr} {fd : FuncData} (FD : FunD K "name" "Ledger.name" (defArgs st_Ledger_name) (defBody st_Ledger_name) (defScope st_Ledger_name) [] [] f fd) (sc_Ledger : SlX.SCls K C) (sl_Ledger_parts : SlX.Slot1 K C "parts" pd 0) : FnG P w K mg base 1 f fd ps_Ledger_name (upSp K (sp_get C 0)) := by
  refine fnD_of (k := 0) FD fs_Ledger_name (fun ds M Q E h => ?_) fun cdv A outer s H E0 R F ds M Q E rm hG tk h => ?_
  · obtain ⟨xs, d, rfl, _⟩ := h; rfl
  · have nd := fs_Ledger_name.nd
    refine ⟨_, (pds_one (pd_ret (pd_ix ix_seq o2_ix (pd_slot sc_Ledger sl_Ledger_parts (pd_var 0)) pd_int (fun _ _ => rfl)))), ?_⟩
    obtain ⟨xs, d, rfl, e, q⟩ := h
    exact ⟨rfl, _, rfl, d, e, q⟩
theorem ok_get_Ledger_worth {f C pd : Addr} {fd : FuncData} (FD : FunD K "worth" "Ledger.worth" (defArgs st_Ledger_worth) (defBody st_Ledger_worth) (defScope st_Ledger_worth) [] [] f fd) (sc_Ledger : SlX.SCls K C) (sl_Ledger_parts : SlX.Slot1 K C "parts" pd 0) : FnG P w K mg base 1 f fd ps_Ledger_worth (upSp K (sp_get C 1)) := by
  refine fnD_of (k := 0) FD fs_Ledger_worth (fun ds M Q E h => ?_) fun cdv A outer s H E0 R F ds M Q E rm hG tk h => ?_
  · obtain ⟨xs, d, rfl, _⟩ := h; rfl
  · have nd := fs_Ledger_worth.nd
    refine ⟨_, (pds_one (pd_ret (pd_ix ix_seq o2_ix (pd_slot sc_Ledger sl_Ledger_parts (pd_var 0)) pd_int (fun _ _ => rfl)))), ?_⟩
    obtain ⟨xs, d, rfl, e, q⟩ := h
    exact ⟨rfl, _, rfl, d, e, q⟩
theorem ok_get_Rule_source {f C pd : Addr} {fd : FuncData} (FD : FunD K "source" "Rule.source" (defArgs st_Rule_source) (defBody st_Rule_source) (defScope st_Rule_source) [] [] f fd) (sc_Rule : SlX.SCls K C) (sl_Rule_parts : SlX.Slot1 K C "parts" pd 0) : FnG P w K mg base 1 f fd ps_Rule_source (upSp K (sp_get C 0)) := by
  refine fnD_of (k := 0) FD fs_Rule_source (fun ds M Q E h => ?_) fun cdv A outer s H E0 R F ds M Q E rm hG tk h => ?_
  · obtain ⟨xs, d, rfl, _⟩ := h; rfl
  · have nd := fs_Rule_source.nd
    refine ⟨_, (pds_one (pd_ret (pd_ix ix_seq o2_ix (pd_slot sc_Rule sl_Rule_parts (pd_var 0)) pd_int (fun _ _ => rfl)))), ?_⟩
    obtain ⟨xs, d, rfl, e, q⟩ := h
    exact ⟨rfl, _, rfl, d, e, q⟩
theorem ok_get_Rule_target {f C pd : Addr} {fd : FuncData} (FD : FunD K "target" "Rule.target" (defArgs st_Rule_target) (defBody st_Rule_target) (defScope st_Rule_target) [] [] f fd) (sc_Rule : SlX.SCls K C) (sl_Rule_parts : SlX.Slot1 K C "parts" pd 0) : FnG P w K mg base 1 f fd ps_Rule_target (upSp K (sp_get C 1)) := by
  refine fnD_of (k := 0) FD fs_Rule_target (fun ds M Q E h => ?_) fun cdv A outer s H E0 R F ds M Q E rm hG tk h => ?_
  · obtain ⟨xs, d, rfl, _⟩ := h; rfl
  · have nd := fs_Rule_target.nd
    refine ⟨_, (pds_one (pd_ret (pd_ix ix_seq o2_ix (pd_slot sc_Rule sl_Rule_parts (pd_var 0)) pd_int (fun _ _ => rfl)))), ?_⟩
    obtain ⟨xs, d, rfl, e, q⟩ := h
    exact ⟨rfl, _, rfl, d, e, q⟩
theorem ok_get_Rule_rounding {f C pd : Addr} {fd : FuncData} (FD : FunD K "rounding" "Rule.rounding" (defArgs st_Rule_rounding) (defBody st_Rule_rounding) (defScope st_Rule_rounding) [] [] f fd) (sc_Rule : SlX.SCls K C) (sl_Rule_parts : SlX.Slot1 K C "parts" pd 0) : FnG P w K mg base 1 f fd ps_Rule_rounding (upSp K (sp_get C 2)) := by
  refine fnD_of (k := 0) FD fs_Rule_rounding (fun ds M Q E h => ?_) fun cdv A outer s H E0 R F ds M Q E rm hG tk h => ?_
  · obtain ⟨xs, d, rfl, _⟩ := h; rfl
  · have nd := fs_Rule_rounding.nd
    refine ⟨_, (pds_one (pd_ret (pd_ix ix_seq o2_ix (pd_slot sc_Rule sl_Rule_parts (pd_var 0)) pd_int (fun _ _ => rfl)))), ?_⟩
    obtain ⟨xs, d, rfl, e, q⟩ := h
    exact ⟨rfl, _, rfl, d, e, q⟩
theorem ok_get_Rule_charge {f C pd : Addr} {fd : FuncData} (FD : FunD K "charge" "Rule.charge" (defArgs st_Rule_charge) (defBody st_Rule_charge) (defScope st_Rule_charge) [] [] f fd) (sc_Rule : SlX.SCls K C) (sl_Rule_parts : SlX.Slot1 K C "parts" pd 0) : FnG P w K mg base 1 f fd ps_Rule_charge (upSp K (sp_get C 3)) := by
  refine fnD_of (k := 0) FD fs_Rule_charge (fun ds M Q E h => ?_) fun cdv A outer s H E0 R F ds M Q E rm hG tk h => ?_
  · obtain ⟨xs, d, rfl, _⟩ := h; rfl
  · have nd := fs_Rule_charge.nd
    refine ⟨_, (pds_one (pd_ret (pd_ix ix_seq o2_ix (pd_slot sc_Rule sl_Rule_parts (pd_var 0)) pd_int (fun _ _ => rfl)))), ?_⟩
    obtain ⟨xs, d, rfl, e, q⟩ := h
    exact ⟨rfl, _, rfl, d, e, q⟩
theorem ok_get_Rule_least {f C pd : Addr} {fd : FuncData} (FD : FunD K "least" "Rule.least" (defArgs st_Rule_least) (defBody st_Rule_least) (defScope st_Rule_least) [] [] f fd) (sc_Rule : SlX.SCls K C) (sl_Rule_parts : SlX.Slot1 K C "parts" pd 0) : FnG P w K mg base 1 f fd ps_Rule_least (upSp K (sp_get C 4)) := by
  refine fnD_of (k := 0) FD fs_Rule_least (fun ds M Q E h => ?_) fun cdv A outer s H E0 R F ds M Q E rm hG tk h => ?_
  · obtain ⟨xs, d, rfl, _⟩ := h; rfl
  · have nd := fs_Rule_least.nd
    refine ⟨_, (pds_one (pd_ret (pd_ix ix_seq o2_ix (pd_slot sc_Rule sl_Rule_parts (pd_var 0)) pd_int (fun _ _ => rfl)))), ?_⟩
    obtain ⟨xs, d, rfl, e, q⟩ := h
    exact ⟨rfl, _, rfl, d, e, q⟩
theorem Go.put {p q : Addr} {M M' : MH} {o : MO} (g : Go p M M') (n : M q = none) (h : q ≠ p) : Go p M (mup M' q o) := by
  obtain ⟨⟨a, b, c, e, z⟩, old⟩ := g
  refine ⟨⟨a, b, c, by rw [mup_ne (Ne.symm h)]; exact e, z⟩, fun r o' hr e' => ?_⟩
  rw [mup_ne (fun w => by rw [w, n] at e'; cases e')]
  exact old r o' hr e'
theorem rangeD_len {n : Nat} : (rangeD 0 n).length = n := by simp [rangeD]
theorem sg_app {x y : Str} (a : Sg x) (b : Sg y) : Sg (x ++ y) := fun c h => by
  have e : (x ++ y).cps.toList = x.cps.toList ++ y.cps.toList := by
    show (x.cps ++ y.cps).toList = _
    rw [Array.toList_append]
  rw [e] at h
  rcases List.mem_append.mp h with h | h
  · exact a c h
  · exact b c h
theorem join_ok : ∀ ys : List Str, (∀ y ∈ ys, y.length = 1 ∧ Sg y) → Sg (Str.join "" ys) ∧ (Str.join "" ys).length = ys.length
  | [], _ => ⟨fun c h => (by cases h), rfl⟩
  | [x], h => ⟨(h x List.mem_cons_self).2, (h x List.mem_cons_self).1⟩
  | x :: y :: r, h => by
    obtain ⟨a, b⟩ := join_ok (y :: r) fun z m => h z (List.mem_cons_of_mem _ m)
    have hx := h x List.mem_cons_self
    refine ⟨sg_app (sg_app hx.2 (fun c h => (by cases h))) a, ?_⟩
    show (x ++ "" ++ Str.join "" (y :: r)).length = _
    rw [strLen_append, strLen_append, b, hx.1]
    simp only [List.length_cons]
    show 1 + 0 + (r.length + 1) = r.length + 1 + 1
    omega
theorem ones_sum : ∀ ys : List Str, (∀ y ∈ ys, y.length = 1 ∧ Sg y) → (ys.map (·.length)).sum = ys.length
  | [], _ => rfl
  | x :: r, h => by
    rw [List.map_cons, List.sum_cons, (h x List.mem_cons_self).1, ones_sum r fun z m => h z (List.mem_cons_of_mem _ m), List.length_cons]
    omega
theorem set_strs {ys : List Str} {y : Str} (j : Nat) : (ys.map D.str).set j (.str y) = (ys.set j y).map D.str := by
  rw [List.map_set]
def One (ys : List Str) : Prop := ∀ y ∈ ys, y.length = 1 ∧ Sg y
theorem One.set {ys : List Str} {y : Str} (h : One ys) (hy : y.length = 1 ∧ Sg y) (j : Nat) : One (ys.set j y) := fun x m => by
  rcases List.mem_or_eq_of_mem_set m with m | rfl
  · exact h x m
  · exact hy
theorem lit_sign {s : String} {n : Nat} {r : Int} (hn : s.toList.length = n) (h0 : 0 ≤ r) (h1 : r < n) : ∃ c, atI (Str.ofString s).cps.toList r = some c ∧ ((⟨#[c]⟩ : Str).length = 1 ∧ Sg ⟨#[c]⟩) := by
  have l : (Str.ofString s).cps.toList.length = n := by
    rw [Str.ofString_eq_toList]
    simpa using hn
  obtain ⟨c, e, m⟩ := atI_in (xs := (Str.ofString s).cps.toList) h0 (by rw [l]; exact h1)
  refine ⟨c, e, rfl, fun k hk => ?_⟩
  have : k = c := by simpa using hk
  subst this
  exact sg_ofString s _ m
def sp_string : DSp := fun ds M Q _ => ∃ p, ds = [.ref p] ∧ Pool M p ∧ ∀ x M', Sg x → x.length ≤ 20 → Go p M M' → Q (.str x) M'
theorem ok_string {f f1 : Addr} {fd d1 : FuncData} (DD : Dn K mg "_law_string" "_law_string" st_law_string ps_law_string f fd) (n_range : mg "range" = none) (n_len : mg "len" = none) (c_law_draw : Cal P w K mg base 1 "_law_draw" f1 d1 ps_law_draw sp_draw) : Cal P w K mg base 2 "_law_string" f fd ps_law_string sp_string := by
  refine cal_of 1 DD fs_law_string (fun ds M Q E h => ?_) fun cdv A outer s H E0 R F ds M Q E rm hG tk h => ?_
  · obtain ⟨p, rfl, _⟩ := h; rfl
  · have hu := hu_room rm
    have nd := fs_law_string.nd
    refine ⟨_, (pds_cons (pd_set 1 nd pd_str)
      (pds_cons (pd_set 2 nd pd_str)
      (pds_cons (pd_set 3 nd (pd_ix ix_seq o2_ix (pd_lst (pda_cons pd_int (pda_cons pd_int (pda_cons pd_int (pda_cons pd_int (pda_cons pd_int (pda_cons pd_int (pda_cons pd_int (pda_cons pd_int pda_nil))))))))) (pd_cal c_law_draw rm (by decide) hG takes_no (pda_cons (pd_var 0) (pda_cons pd_int pda_nil))) (fun _ _ => rfl)))
      (pds_cons (pd_setLcM 4 (own := [("_law_k", 5)]) rfl nd (pdi_range1 rfl n_range (pda_cons (pd_var 3) pda_nil)) (blkOk_by (own := [("_law_k", 5)]) (N := N_law_string) (sc := defScope st_law_string) (by decide +kernel)) (fun _ => tgok_name (by decide)) (fun _ _ _ _ _ => pg_name (i := 5) nd rfl (Or.inl rfl)) (fun _ _ _ _ _ _ => pdts_nil) (fun _ _ _ _ _ _ => (pd_ix ix_seq o2_ix (pd_var 1) (pd_cal c_law_draw rm (by decide) hG takes_no (pda_cons (pd_var 0) (pda_cons pd_int pda_nil))) (fun _ _ => rfl))) (sw_true rfl rfl rfl (by decide +kernel)))
      (pds_cons (pd_ifS (pdt_w (pdw_and (pdt_cmp op_gt o2_gt (pd_var 3) pd_int (nomark _)) (pdw_and1 (pdt_cmp op_gt o2_gt (pd_cal c_law_draw rm (by decide) hG takes_no (pda_cons (pd_var 0) (pda_cons pd_int pda_nil))) pd_int (nomark _))))) (pds_one (pd_asg (pd_ix ix_seq o2_ix (pd_var 1) (pd_cal c_law_draw rm (by decide) hG takes_no (pda_cons (pd_var 0) (pda_cons pd_int pda_nil))) (fun _ _ => rfl)) (pdg_sub (pd_var 4) pd_int set_list s3_set))) pds_nil)
      (pds_cons (pd_ifS (pdt_w (pdw_and (pdt_cmp op_gt o2_gt (pd_var 3) pd_int (nomark _)) (pdw_and1 (pdt_cmp (op_eqA hu) o2_eq (pd_cal c_law_draw rm (by decide) hG takes_no (pda_cons (pd_var 0) (pda_cons pd_int pda_nil))) pd_int (nomark _))))) (pds_one (pd_asg (pd_ix ix_seq o2_ix (pd_var 2) (pd_cal c_law_draw rm (by decide) hG takes_no (pda_cons (pd_var 0) (pda_cons (pd_callB call_lenD rfl n_len (by rfl) (pda_cons (pd_var 2) pda_nil)) pda_nil))) (fun _ _ => rfl)) (pdg_sub (pd_var 4) (pd_cal c_law_draw rm (by decide) hG takes_no (pda_cons (pd_var 0) (pda_cons (pd_var 3) pda_nil))) set_list s3_set))) pds_nil)
      (pds_one (pd_ret (pd_m1 (by exact PySem.F.slot_str_join) (by rfl) mt_join om_join pd_str (pd_var 4)))))))))), ?_⟩
    obtain ⟨p, rfl, hp, q⟩ := h
    refine ⟨sl 8, _, _, rfl, hp, by decide, by decide, fun r M1 h0 h1 g1 => ?_⟩
    obtain ⟨x, ex, mx⟩ := atI_in (xs := ([.int 1, .int 8, .int 9, .int 0, .int 2, .int 7, .int 3, .int 10] : List D)) h0 h1
    have hx : ∃ n : Nat, x = .int n ∧ n ≤ 10 := by
      have z : ∀ d ∈ ([.int 1, .int 8, .int 9, .int 0, .int 2, .int 7, .int 3, .int 10] : List D), ∃ n : Nat, d = .int n ∧ n ≤ 10 :=
        all_cons ⟨1, rfl, by decide⟩ <| all_cons ⟨8, rfl, by decide⟩ <| all_cons ⟨9, rfl, by decide⟩ <| all_cons ⟨0, rfl, by decide⟩ <| all_cons ⟨2, rfl, by decide⟩ <| all_cons ⟨7, rfl, by decide⟩ <| all_cons ⟨3, rfl, by decide⟩ <| all_cons ⟨10, rfl, by decide⟩ all_nil
      exact z x mx
    obtain ⟨n, rfl, hn⟩ := hx
    refine ⟨_, ex, ⟨by omega, by omega⟩, ?_⟩
    have ss : ∀ s : String, s.toList.length < 1000 → (Str.ofString s).length ≤ sizeLine := fun s h => by
      rw [ofString_length]
      exact small_le (by rw [← String.length_toList]; omega)
    refine lc_inv (fun rest acc M' => Go p M M' ∧ (∃ ys : List Str, acc = ys.map .str ∧ One ys) ∧ acc.length + rest.length = n) ?_ ?_ _ _ _ ?_
    · rintro acc M2 ⟨g2, ⟨ys, rfl, oy⟩, hl⟩ mq nq
      rw [List.length_map, List.length_nil, Nat.add_zero] at hl
      have npq : p ≠ mq := fun z => by
        obtain ⟨a, b, c, e, _⟩ := g2.pool
        rw [z, nq] at e
        cases e
      have g3 := g2.trans (Go.new (o := .lst (ys.map .str)) g2.pool nq)
      have nqM : M mq = none := by
        cases e : M mq with
        | none => rfl
        | some o => have z := g2.old mq o npq.symm e; rw [nq] at z; cases z
      let St : Sl → MH → Prop := fun ds M' => ∃ (zs : List Str) (c : Option D), ds = [some (.ref p), some (.str "abcdefghijklmnopqrstuvwxyz0123456789"), some (.str "ABCDEFGHIJKLMNOPQRSTUVWXYZ_- .:/!~\n"), some (.int n), some (.ref mq), c] ∧ M' mq = some (.lst (zs.map .str)) ∧ zs.length = n ∧ One zs ∧ Go p M M'
      dsimp only [dName]
      refine seq_join (t := dIfS _ _ _) St (fun N k => ?_) ?_
      · refine ⟨fun b1 => ?_, fun b1 => Br.f (k _ _ ⟨ys, _, rfl, mup_same, hl, oy, g3⟩)⟩
        refine ⟨_, _, rfl, g3.pool, by decide, by decide, fun r M4 a0 a1 g4 => ⟨fun b2 => ?_, fun b2 => k _ _ ⟨ys, _, rfl, g4.old _ _ npq.symm mup_same, hl, oy, g3.trans g4⟩⟩⟩
        have hpos : 0 < n := by have := of_decide_eq_true b1; omega
        refine ⟨_, _, rfl, g4.pool, by decide, by decide, fun r2 M5 c0 c1 g5 => ?_⟩
        obtain ⟨c, ec, oc⟩ := lit_sign (s := "abcdefghijklmnopqrstuvwxyz0123456789") (n := 36) (by decide) c0 (by omega)
        have em := g5.old _ _ npq.symm (g4.old _ _ npq.symm (mup_same (M := M2) (p := mq) (o := .lst (ys.map .str))))
        refine ⟨c, ec, ss _ (by decide), _, 0, em, ?_, k _ _ ⟨ys.set 0 ⟨#[c]⟩, _, rfl, ?_, by rw [List.length_set]; exact hl, oy.set oc 0, ?_⟩⟩
        · unfold ixN
          rw [List.length_map, hl, if_pos (by decide), if_pos (by omega)]
          rfl
        · rw [← set_strs]; exact mup_same
        · exact (g3.trans (g4.trans g5)).put nqM npq.symm
      · rintro ds M6 ⟨zs, c6, rfl, em, lz, oz, g6⟩
        refine seq_join (t := dIfS _ _ _) St (fun N k => ?_) ?_
        · refine ⟨fun b1 => ?_, fun b1 => Br.f (k _ _ ⟨zs, _, rfl, em, lz, oz, g6⟩)⟩
          have hpos : 0 < n := by have := of_decide_eq_true b1; omega
          refine ⟨_, _, rfl, g6.pool, by decide, by decide, fun r M7 a0 a1 g7 => ⟨fun b2 => ?_, fun b2 => k _ _ ⟨zs, _, rfl, g7.old _ _ npq.symm em, lz, oz, g6.trans g7⟩⟩⟩
          refine ⟨ss _ (by decide), _, _, rfl, g7.pool, by decide, by decide, fun r2 M8 c0 c1 g8 => ?_⟩
          obtain ⟨c, ec, oc⟩ := lit_sign (s := "ABCDEFGHIJKLMNOPQRSTUVWXYZ_- .:/!~\n") (n := 35) (by decide) c0 c1
          refine ⟨c, ec, ss _ (by decide), _, _, rfl, g8.pool, by omega, by omega, fun r3 M9 e0 e1 g9 => ?_⟩
          have em9 := g9.old _ _ npq.symm (g8.old _ _ npq.symm (g7.old _ _ npq.symm em))
          refine ⟨_, r3.toNat, em9, ?_, k _ _ ⟨zs.set r3.toNat ⟨#[c]⟩, _, rfl, ?_, by rw [List.length_set]; exact lz, oz.set oc _, ?_⟩⟩
          · unfold ixN
            rw [List.length_map, lz, if_pos e0, if_pos e1]
          · rw [← set_strs]; exact mup_same
          · exact (g6.trans (g7.trans (g8.trans g9))).put nqM npq.symm
        · rintro ds M10 ⟨ws, c10, rfl, em10, lw, ow, g10⟩
          obtain ⟨j1, j2⟩ := join_ok ws ow
          have je : Txt.join "" ws = Str.join "" ws := PySem.StrLaws.glued_eq_join "" ws
          refine ⟨⟨_, rfl⟩, _, rfl, ws, .inr ⟨_, rfl, em10⟩, ?_, ?_⟩
          · rw [ones_sum ws ow, lw]
            show n + n * 0 ≤ 16777216
            omega
          · rw [je]
            exact q _ _ j1 (by rw [j2, lw]; omega) g10
    · rintro x rest acc M2 ⟨g2, ⟨ys, rfl, oy⟩, hl⟩ next
      refine Br.t ⟨_, _, rfl, g2.pool, by decide, by decide, fun r2 M3 c0 c1 g3 => ?_⟩
      obtain ⟨c, ec, oc⟩ := lit_sign (s := "abcdefghijklmnopqrstuvwxyz0123456789") (n := 36) (by decide) c0 c1
      refine ⟨c, ec, ss _ (by decide), ?_, next _ _ ⟨g2.trans g3, ⟨ys ++ [⟨#[c]⟩], by rw [List.map_append]; rfl, fun y m => ?_⟩, ?_⟩⟩
      · simp only [List.length_cons, List.length_map] at hl ⊢
        exact small_line (by omega)
      · rcases List.mem_append.mp m with m | m
        · exact oy y m
        · have : y = ⟨#[c]⟩ := by simpa using m
          rw [this]; exact oc
      · simp only [List.length_cons, List.length_append, List.length_map, List.length_nil] at hl ⊢
        omega
    · refine ⟨g1, ⟨[], rfl, fun y m => by cases m⟩, ?_⟩
      rw [rangeD_len]
      simp

theorem plainL_map {α : Type} {f : α → D} (h : ∀ a, plain (f a) = true) : ∀ l : List α, plainL (l.map f) = true
  | [] => rfl
  | a :: l => by simp only [List.map_cons, plainL, h a, plainL_map h l, Bool.and_self]
theorem sgs_dt : ∀ l : List Nat, (∀ c ∈ l, c < 1114112) → PyData.canLayAll0 (pOfL (l.map fun c => D.str ⟨#[c]⟩)) = true ∧ PyData.depthAll (pOfL (l.map fun c => D.str ⟨#[c]⟩)) = 0
  | [], _ => ⟨rfl, rfl⟩
  | c :: l, h => by
    obtain ⟨a, b⟩ := sgs_dt l fun x m => h x (List.mem_cons_of_mem _ m)
    have hc := h c List.mem_cons_self
    have e : PyData.canLay0 (.str ⟨#[c]⟩) = true := by
      simp only [PyData.canLay0, PyData.strOk]
      simp [hc]
    refine ⟨?_, ?_⟩
    · simp only [List.map_cons, pOfL, pOf, PyData.canLayAll0, e, a, Bool.and_self]
    · simp only [List.map_cons, pOfL, pOf, PyData.depthAll, PyData.depth, b, Nat.max_self]
theorem sgs_Dt {l : List Nat} (h : ∀ c ∈ l, c < 1114112) : Dt (.lst (l.map fun c => D.str ⟨#[c]⟩)) := by
  obtain ⟨a, b⟩ := sgs_dt l h
  refine ⟨plainL_map (fun _ => rfl) l, ?_⟩
  unfold SeqAt.shaped
  simp only [pOf, PyData.canLay0, PyData.depth, a, b, Bool.true_and]
  decide
theorem eqv_nil (l : List D) : PyData.eqv (pOf (.lst l)) (pOf (.lst [])) = l.isEmpty := by
  cases l <;> simp [pOf, pOfL, PyData.eqv, PyData.eqvAll]
theorem ok_lawname {f : Addr} {fd : FuncData} (DD : Dn K mg "_law_is_name" "_law_is_name" st_law_is_name ps_law_is_name f fd) (n_isinstance : mg "isinstance" = none) (n_str : mg "str" = none) (n_len : mg "len" = none) : Cal P w K mg base 1 "_law_is_name" f fd ps_law_is_name sp_isname := by
  refine cal_of 0 DD fs_law_is_name (fun ds M Q E h => ?_) fun cdv A outer s H E0 R F ds M Q E rm hG tk h => ?_
  · obtain ⟨d, rfl, _⟩ := h; rfl
  · have hu := hu_room rm
    have nd := fs_law_is_name.nd
    refine ⟨_, (pds_cons (pd_ifS (pdt_w (pdw_or (pdt_not (pdt_val (pd_callB call_isiD rfl n_isinstance (by rfl) (pda_cons (pd_var 0) (pda_cons (pd_bltn rfl n_str (by rfl)) pda_nil))))) (pdw_or (pdt_cmp op_lt o2_lt (pd_callB call_lenD rfl n_len (by rfl) (pda_cons (pd_var 0) pda_nil)) pd_int (nomark _)) (pdw_or1 (pdt_cmp op_gt o2_gt (pd_callB call_lenD rfl n_len (by rfl) (pda_cons (pd_var 0) pda_nil)) pd_int (nomark _)))))) (pds_one (pd_ret pd_bl)) pds_nil)
      (pds_cons (pd_set 1 nd pd_str)
      (pds_cons (pd_ifS (pdt_cmp op_lt o2_lt (pd_m1 (by exact PySem.F.slot_str_find) (by rfl) mt_find om_find (pd_var 1) (pd_ix ix_seq o2_ix (pd_var 0) pd_int (fun _ _ => rfl))) pd_int (nomark _)) (pds_one (pd_ret pd_bl)) pds_nil)
      (pds_one (pd_ret (pd_cmp (op_eqA hu) o2_eq (pd_lc (own := [("_law_sign", 2)]) rfl nd (pdi_str (pd_var 0)) (blkOk_by (own := [("_law_sign", 2)]) (N := N_law_is_name) (sc := defScope st_law_is_name) (by decide +kernel)) (fun _ => tgok_name (by decide)) (fun _ _ _ _ _ => pg_name (i := 2) nd rfl (Or.inl rfl)) (fun _ _ _ _ _ _ => pdts_one (pdt_cmp op_lt o2_lt (pd_m1 (by exact PySem.F.slot_str_find) (by rfl) mt_find om_find (pd_op op_addD o2_add (pd_var 1) pd_str) (pd_var 2)) pd_int (nomark _))) (fun _ _ _ _ _ _ => (pd_var 2))) (pd_lst pda_nil) (nomark _))))))), ?_⟩
    obtain ⟨d, rfl, od, q⟩ := h
    refine kd_str od.kd ⟨fun h1 => Br.t ?_, fun h1 => ?_⟩
    · cases d <;> first | (cases h1; done) | exact q
    · cases d <;> first | (cases h1; done) | skip
      rename_i x
      have hl := odd_len od
      have sx := od.sg x rfl
      have sl' : x.length ≤ sizeLine := small_le (by omega)
      have q' : Q (.bl (nmL x.cps.toList)) M := q
      obtain ⟨l, el⟩ : ∃ l, l = x.cps.toList := ⟨_, rfl⟩
      have lx : (x.length : Int) = l.length := by rw [str_len, el]
      rw [← el] at q'
      have tail : nmL l = false → Q (.bl false) M := fun e => by rw [e] at q'; exact q'
      refine ⟨sl', ⟨fun h2 => Br.t (tail ?_), fun h2 => ⟨sl', ⟨fun h3 => tail ?_, fun h3 => ?_⟩⟩⟩⟩
      · have z : (x.length : Int) < 1 := of_decide_eq_true h2
        unfold nmL
        rw [show decide ((1 : Int) ≤ l.length) = false by simp; omega]
        simp
      · have z : (8 : Int) < x.length := of_decide_eq_true h3
        unfold nmL
        rw [show decide ((l.length : Int) ≤ 8) = false by simp; omega]
        simp
      · have z1 : (1 : Int) ≤ l.length := by have : ¬ (x.length : Int) < 1 := of_decide_eq_false h2; omega
        have z2 : (l.length : Int) ≤ 8 := by have : ¬ (8 : Int) < x.length := of_decide_eq_false h3; omega
        cases l with
        | nil => simp at z1
        | cons c r =>
          have first_ : atI x.cps.toList 0 = some c := by rw [← el]; exact atI_head c r
          refine ⟨⟨_, rfl⟩, c, first_, sl', ?_⟩
          have fn := find_neg lettersS c
          refine ⟨fun h4 => tail ?_, fun h4 => ?_⟩
          · have z : isL c = false := by
              have z : decide (Txt.find lettersS ⟨#[c]⟩ < 0) = true := h4
              rw [fn] at z
              have z' : (!isL c) = true := z
              simpa using z'
            unfold nmL
            simp only [z, Bool.and_false, Bool.false_and]
          · have z : isL c = true := by
              have z : decide (Txt.find lettersS ⟨#[c]⟩ < 0) = false := h4
              rw [fn] at z
              have z' : (!isL c) = false := z
              simpa using z'
            show dLcL _ _ _ _ _ _ (strD x) [] M
            rw [strD_eq]
            refine lc_pure (fun c => D.str ⟨#[c]⟩) (fun c => D.str ⟨#[c]⟩) (fun c => !isLD c) (fun a Ky Kn k1 k2 => ?_) x.cps.toList [] (by rw [← str_len]; simp; omega) ?_
            · have sm : lettersS.length + ("0123456789" : Str).length ≤ sizeLine := by
                have e : lettersS.length + ("0123456789" : Str).length = 36 := by decide
                rw [e]
                exact sl 36
              refine ⟨sm, ⟨_, rfl⟩, ?_⟩
              have e2 : decide (Txt.find (lettersS ++ "0123456789") ⟨#[a]⟩ < 0) = !isLD a := by
                rw [find_neg]
                have e3 : (lettersS ++ ("0123456789" : Str)).cps.toList = lettersS.cps.toList ++ digitsS.cps.toList := by
                  show (lettersS.cps ++ digitsS.cps).toList = _
                  rw [Array.toList_append]
                rw [e3]
                unfold isLD
                rw [← Bool.decide_or]
                simp only [List.mem_append]
              refine ⟨fun h5 => k1 (e2.symm.trans h5), fun h5 => k2 (e2.symm.trans h5)⟩
            · rw [List.nil_append]
              refine ⟨sl 0, sgs_Dt fun k m => sx k (List.mem_filter.mp m).1, ⟨rfl, rfl⟩, ?_⟩
              rw [eqv_nil]
              have e : (((x.cps.toList.filter fun c => !isLD c).map fun c => D.str ⟨#[c]⟩).isEmpty) = nmL (c :: r) := by
                unfold nmL
                rw [decide_eq_true z1, decide_eq_true z2]
                simp only [z, Bool.true_and]
                rw [← el, List.isEmpty_map]
                rw [Bool.eq_iff_iff, List.isEmpty_iff, List.filter_eq_nil_iff, List.all_eq_true]
                simp
              rw [e]
              exact q'

theorem old_gone {M : MH} {x : Addr} {o o' : MO} (n : M x = none) : Old M (mdel (mup (mup M x o) x o') x) := fun q u e => by
  have h : q ≠ x := fun z => by rw [z, n] at e; cases e
  rw [mdel_ne h, mup_ne h, mup_ne h]
  exact e
theorem old_err {M : MH} {x p : Addr} {o o' : MO} (n : M x = none) (n2 : mup M x o p = none) : Old M (mup (mup M x o) p o') := (Old.new n).trans (Old.new n2)

end
end Dv
-- LAW law_k04_ledgers_and_rules_refused wholedrift_k04_ledgers_and_rules_refused
namespace Dv
open PySem PySem.Spec L2
section
variable {P : Program} {w : World} {K : PySem.W.Frag} {mg : Str → Option Value} {base : Heap}
theorem lit_chr {s : String} {n : Nat} {r : Int} (hn : s.toList.length = n) (h0 : 0 ≤ r) (h1 : r < n) : ∃ c, atI (Str.ofString s).cps.toList r = some c ∧ ((⟨#[c]⟩ : Str).length = 1 ∧ Sg ⟨#[c]⟩) ∧ (Str.ofString s).length = n := by
  obtain ⟨c, a, b⟩ := lit_sign hn h0 h1
  refine ⟨c, a, b, ?_⟩
  rw [ofString_length, ← String.length_toList]
  exact hn
theorem pick_odd {xs : List D} {r : Int} (h : ∀ d ∈ xs, Odd d) (h0 : 0 ≤ r) (h1 : r < xs.length) : ∃ d, atI xs r = some d ∧ Odd d := by
  obtain ⟨d, e, m⟩ := atI_in h0 h1
  exact ⟨d, e, h d m⟩
theorem ok_tag {f f1 f2 : Addr} {fd d1 d2 : FuncData} (DD : Dn K mg "_law_tag" "_law_tag" st_law_tag ps_law_tag f fd) (n_range : mg "range" = none) (c_law_draw : Cal P w K mg base 1 "_law_draw" f1 d1 ps_law_draw sp_draw) (c_law_pick : Cal P w K mg base 2 "_law_pick" f2 d2 ps_law_pick sp_pick) : Cal P w K mg base 3 "_law_tag" f fd ps_law_tag sp_odd := by
  refine cal_of 2 DD fs_law_tag (fun ds M Q E h => ?_) fun cdv A outer s H E0 R F ds M Q E rm hG tk h => ?_
  · obtain ⟨p, rfl, _⟩ := h; rfl
  · have hu := hu_room rm
    have nd := fs_law_tag.nd
    refine ⟨_, (pds_cons (pd_ifS (pdt_cmp (op_eqA hu) o2_eq (pd_cal c_law_draw rm (by decide) hG takes_no (pda_cons (pd_var 0) (pda_cons pd_int pda_nil))) pd_int (nomark _)) (pds_one (pd_ret (pd_cal c_law_pick rm (by decide) hG takes_no (pda_cons (pd_var 0) (pda_cons (pd_lst (pda_cons pd_str (pda_cons pd_str (pda_cons pd_str (pda_cons pd_str (pda_cons pd_str (pda_cons pd_str (pda_cons pd_str (pda_cons pd_str (pda_cons pd_str (pda_cons pd_str (pda_cons pd_str pda_nil)))))))))))) pda_nil))))) pds_nil)
      (pds_cons (pd_set 1 nd pd_str)
      (pds_cons (pd_set 2 nd (pd_ix ix_seq o2_ix (pd_var 1) (pd_cal c_law_draw rm (by decide) hG takes_no (pda_cons (pd_var 0) (pda_cons pd_int pda_nil))) (fun _ _ => rfl)))
      (pds_cons (pd_for (passes_of rfl) rfl (pdi_range1 rfl n_range (pda_cons (pd_ix ix_seq o2_ix (pd_lst (pda_cons pd_int (pda_cons pd_int (pda_cons pd_int (pda_cons pd_int (pda_cons pd_int (pda_cons pd_int (pda_cons pd_int pda_nil)))))))) (pd_cal c_law_draw rm (by decide) hG takes_no (pda_cons (pd_var 0) (pda_cons pd_int pda_nil))) (fun _ _ => rfl)) pda_nil)) (pdg_name 3 nd) (pds_one (pd_set 2 nd (pd_op op_addD o2_add (pd_var 2) (pd_ix ix_seq o2_ix (pd_var 1) (pd_cal c_law_draw rm (by decide) hG takes_no (pda_cons (pd_var 0) (pda_cons pd_int pda_nil))) (fun _ _ => rfl))))))
      (pds_one (pd_ret (pd_var 2))))))), ?_⟩
    obtain ⟨p, rfl, hp, q⟩ := h
    refine ⟨_, _, rfl, hp, by decide, by decide, fun r M1 h0 h1 g1 => ⟨fun _ => ?_, fun _ => ?_⟩⟩
    · refine ⟨sl 11, _, _, rfl, g1.pool, by simp, show 11 < 1000000 by decide, fun d md M2 g2 => q d M2 ?_ (g1.trans g2)⟩
      have z : ∀ d ∈ ([.str "to", .str "from", .str "plus", .str "minus", .str "worth", .str "ledger", .str "rule", .str "down", .str "up", .str "near", .str "even"] : List D), Odd d := by
        refine all_cons (.txt _ (by decide)) <| all_cons (.txt _ (by decide)) <| all_cons (.txt _ (by decide)) <| all_cons (.txt _ (by decide)) <| all_cons (.txt _ (by decide)) <| all_cons (.txt _ (by decide)) <| ?_
        exact all_cons (.txt _ (by decide)) <| all_cons (.txt _ (by decide)) <| all_cons (.txt _ (by decide)) <| all_cons (.txt _ (by decide)) <| all_cons (.txt _ (by decide)) all_nil
      exact z d md
    · refine ⟨_, _, rfl, g1.pool, by decide, by decide, fun r2 M2 a0 a1 g2 => ?_⟩
      obtain ⟨c, ec, oc, lc⟩ := lit_chr (s := "abcdefghijklmnopqrstuvwxyz0123456789") (n := 36) (by decide) a0 (by omega)
      have s36 : (Str.ofString "abcdefghijklmnopqrstuvwxyz0123456789").length ≤ sizeLine := by rw [lc]; exact sl 36
      refine ⟨c, ec, s36, sl 7, _, _, rfl, g2.pool, by decide, by decide, fun r3 M3 b0 b1 g3 => ?_⟩
      obtain ⟨x, ex, mx⟩ := atI_in (xs := ([.int 0, .int 0, .int 1, .int 2, .int 3, .int 5, .int 7] : List D)) b0 b1
      have hx : ∃ n : Nat, x = .int n ∧ n ≤ 7 := by
        have z : ∀ d ∈ ([.int 0, .int 0, .int 1, .int 2, .int 3, .int 5, .int 7] : List D), ∃ n : Nat, d = .int n ∧ n ≤ 7 :=
          all_cons ⟨0, rfl, by decide⟩ <| all_cons ⟨0, rfl, by decide⟩ <| all_cons ⟨1, rfl, by decide⟩ <| all_cons ⟨2, rfl, by decide⟩ <| all_cons ⟨3, rfl, by decide⟩ <| all_cons ⟨5, rfl, by decide⟩ <| all_cons ⟨7, rfl, by decide⟩ all_nil
        exact z x mx
      obtain ⟨n, rfl, hn⟩ := hx
      refine ⟨_, ex, ⟨by omega, by omega⟩, ?_⟩
      refine loop_inv (fun rest ds M' => Go p M M' ∧ ∃ (x : Str) (c : Option D), ds = [some (.ref p), some (.str "abcdefghijklmnopqrstuvwxyz0123456789"), some (.str x), c] ∧ Sg x ∧ x.length + rest.length ≤ 8) ?_ ?_ _ _ _ ?_
      · rintro ds M4 ⟨g4, x, c', rfl, sx, lx⟩
        exact q _ _ (.str sx (by simp only [List.length_nil] at lx; omega)) g4
      · rintro y rest ds M4 ⟨g4, x, c', rfl, sx, lx⟩ next
        simp only [List.length_cons] at lx
        refine ⟨_, _, rfl, g4.pool, by decide, by decide, fun r5 M5 e0 e1 g5 => ?_⟩
        obtain ⟨c5, ec5, oc5, _⟩ := lit_chr (s := "abcdefghijklmnopqrstuvwxyz0123456789") (n := 36) (by decide) e0 e1
        refine ⟨c5, ec5, s36, small_le (by rw [oc5.1]; omega), next _ _ ⟨g4.trans g5, _, _, rfl, sg_app sx oc5.2, ?_⟩⟩
        rw [strLen_append, oc5.1]
        omega
      · refine ⟨g1.trans (g2.trans g3), _, _, rfl, oc.2, ?_⟩
        rw [oc.1, rangeD_len]
        simp
        omega
theorem e12 : (10 : Nat) ^ 12 = 1000000000000 := by decide
theorem ok_fee {f f1 : Addr} {fd d1 : FuncData} (DD : Dn K mg "_law_fee" "_law_fee" st_law_fee ps_law_fee f fd) (c_law_draw : Cal P w K mg base 1 "_law_draw" f1 d1 ps_law_draw sp_draw) : Cal P w K mg base 2 "_law_fee" f fd ps_law_fee sp_odd := by
  refine cal_of 1 DD fs_law_fee (fun ds M Q E h => ?_) fun cdv A outer s H E0 R F ds M Q E rm hG tk h => ?_
  · obtain ⟨p, rfl, _⟩ := h; rfl
  · have hu := hu_room rm
    have nd := fs_law_fee.nd
    refine ⟨_, (pds_cons (pd_set 1 nd (pd_cal c_law_draw rm (by decide) hG takes_no (pda_cons (pd_var 0) (pda_cons pd_int pda_nil))))
      (pds_cons (pd_ifS (pdt_cmp op_lt o2_lt (pd_var 1) pd_int (nomark _)) (pds_one (pd_ret pd_int)) pds_nil)
      (pds_cons (pd_ifS (pdt_cmp op_lt o2_lt (pd_var 1) pd_int (nomark _)) (pds_one (pd_ret (pd_op op_sub o2_sub (pd_cal c_law_draw rm (by decide) hG takes_no (pda_cons (pd_var 0) (pda_cons pd_int pda_nil))) pd_int))) pds_nil)
      (pds_one (pd_ret (pd_ix ix_seq o2_ix (pd_lst (pda_cons pd_int (pda_cons (pd_un un_neg o1_neg pd_int) (pda_cons (pd_op op_pow o2_pow pd_int pd_int) (pda_cons (pd_un un_neg o1_neg (pd_op op_pow o2_pow pd_int pd_int)) (pda_cons (pd_op op_pow o2_pow pd_int pd_int) (pda_cons (pd_op op_sub o2_sub (pd_un un_neg o1_neg (pd_op op_pow o2_pow pd_int pd_int)) pd_int) pda_nil))))))) (pd_cal c_law_draw rm (by decide) hG takes_no (pda_cons (pd_var 0) (pda_cons pd_int pda_nil))) (fun _ _ => rfl))))))), ?_⟩
    obtain ⟨p, rfl, hp, q⟩ := h
    refine ⟨_, _, rfl, hp, by decide, by decide, fun r M1 h0 h1 g1 => ⟨fun _ => q _ _ (.num (by decide) (by decide)) g1, fun _ => ⟨fun _ => ?_, fun _ => ?_⟩⟩⟩
    · exact ⟨_, _, rfl, g1.pool, by decide, by decide, fun r2 M2 a0 a1 g2 => q _ _ (.num (by omega) (by omega)) (g1.trans g2)⟩
    · refine ⟨cp10 (by decide) (by decide), cp10 (by decide) (by decide), cp10 (by decide) (by decide), cp10 (by decide) (by decide), sl 6, _, _, rfl, g1.pool, by decide, by decide, fun r2 M2 a0 a1 g2 => ?_⟩
      obtain ⟨d, e, od⟩ := pick_odd (xs := [.int 30, .int (-30), .int (10 ^ 6), .int (-(10 ^ 6)), .int (10 ^ 12), .int (-(10 ^ 12) - 7)]) (all_cons (.int (by decide +kernel)) <| all_cons (.int (by decide +kernel)) <| all_cons (.int (by decide +kernel)) <| all_cons (.int (by decide +kernel)) <| all_cons (.int (by decide +kernel)) <| all_cons (.int (by decide +kernel)) all_nil) a0 a1
      exact ⟨d, e, q d M2 od (g1.trans g2)⟩
theorem ok_sometag {f f1 f2 f3 f4 : Addr} {fd d1 d2 d3 d4 : FuncData} (DD : Dn K mg "_law_some_tag" "_law_some_tag" st_law_some_tag ps_law_some_tag f fd) (c_law_draw : Cal P w K mg base 1 "_law_draw" f1 d1 ps_law_draw sp_draw) (c_law_tag : Cal P w K mg base 3 "_law_tag" f2 d2 ps_law_tag sp_odd)
    (c_law_odd : Cal P w K mg base 3 "_law_odd" f3 d3 ps_law_odd sp_odd) (c_law_string : Cal P w K mg base 2 "_law_string" f4 d4 ps_law_string sp_string) : Cal P w K mg base 4 "_law_some_tag" f fd ps_law_some_tag sp_odd := by
  refine cal_of 3 DD fs_law_some_tag (fun ds M Q E h => ?_) fun cdv A outer s H E0 R F ds M Q E rm hG tk h => ?_
  · obtain ⟨p, rfl, _⟩ := h; rfl
  · have hu := hu_room rm
    have nd := fs_law_some_tag.nd
    refine ⟨_, (pds_cons (pd_ifS (pdt_cmp op_gt o2_gt (pd_cal c_law_draw rm (by decide) hG takes_no (pda_cons (pd_var 0) (pda_cons pd_int pda_nil))) pd_int (nomark _)) (pds_one (pd_ret (pd_cal c_law_tag rm (by decide) hG takes_no (pda_cons (pd_var 0) pda_nil)))) pds_nil)
      (pds_one (pd_ret (pd_if (pdt_cmp (op_eqA hu) o2_eq (pd_cal c_law_draw rm (by decide) hG takes_no (pda_cons (pd_var 0) (pda_cons pd_int pda_nil))) pd_int (nomark _)) (pd_cal c_law_odd rm (by decide) hG takes_no (pda_cons (pd_var 0) pda_nil)) (pd_cal c_law_string rm (by decide) hG takes_no (pda_cons (pd_var 0) pda_nil)))))), ?_⟩
    obtain ⟨p, rfl, hp, q⟩ := h
    refine ⟨_, _, rfl, hp, by decide, by decide, fun r M1 h0 h1 g1 => ⟨fun _ => ?_, fun _ => ?_⟩⟩
    · exact ⟨_, rfl, g1.pool, fun d M2 od g2 => q d M2 od (g1.trans g2)⟩
    · refine ⟨_, _, rfl, g1.pool, by decide, by decide, fun r2 M2 a0 a1 g2 => ⟨fun _ => ?_, fun _ => ?_⟩⟩
      · exact ⟨_, rfl, g2.pool, fun d M3 od g3 => q d M3 od (g1.trans (g2.trans g3))⟩
      · exact ⟨_, rfl, g2.pool, fun x M3 sx lx g3 => q _ M3 (.str sx (by omega)) (g1.trans (g2.trans g3))⟩
theorem ok_someunit {f f1 f2 : Addr} {fd d1 d2 : FuncData} (DD : Dn K mg "_law_some_unit" "_law_some_unit" st_law_some_unit ps_law_some_unit f fd) (c_law_draw : Cal P w K mg base 1 "_law_draw" f1 d1 ps_law_draw sp_draw) (c_law_pick : Cal P w K mg base 2 "_law_pick" f2 d2 ps_law_pick sp_pick) : Cal P w K mg base 3 "_law_some_unit" f fd ps_law_some_unit sp_odd := by
  refine cal_of 2 DD fs_law_some_unit (fun ds M Q E h => ?_) fun cdv A outer s H E0 R F ds M Q E rm hG tk h => ?_
  · obtain ⟨p, rfl, _⟩ := h; rfl
  · have hu := hu_room rm
    have nd := fs_law_some_unit.nd
    refine ⟨_, (pds_cons (pd_ifS (pdt_cmp op_gt o2_gt (pd_cal c_law_draw rm (by decide) hG takes_no (pda_cons (pd_var 0) (pda_cons pd_int pda_nil))) pd_int (nomark _)) (pds_one (pd_ret (pd_op op_addD o2_add pd_int (pd_cal c_law_draw rm (by decide) hG takes_no (pda_cons (pd_var 0) (pda_cons pd_int pda_nil)))))) pds_nil)
      (pds_one (pd_ret (pd_cal c_law_pick rm (by decide) hG takes_no (pda_cons (pd_var 0) (pda_cons (pd_lst (pda_cons pd_int (pda_cons pd_int (pda_cons (pd_un un_neg o1_neg pd_int) (pda_cons pd_bl (pda_cons pd_bl (pda_cons pd_non (pda_cons pd_str (pda_cons (pd_tup (pda_cons pd_int pda_nil)) (pda_cons (pd_lst (pda_cons pd_int pda_nil)) (pda_cons pd_dct0 (pda_cons (pd_op op_pow o2_pow pd_int pd_int) (pda_cons pd_int (pda_cons pd_int (pda_cons pd_int (pda_cons (pd_un un_neg o1_neg pd_int) (pda_cons pd_str (pda_cons pd_int pda_nil)))))))))))))))))) pda_nil)))))), ?_⟩
    obtain ⟨p, rfl, hp, q⟩ := h
    refine ⟨_, _, rfl, hp, by decide, by decide, fun r M1 h0 h1 g1 => ⟨fun _ => ?_, fun _ => ?_⟩⟩
    · exact ⟨_, _, rfl, g1.pool, by decide, by decide, fun r2 M2 a0 a1 g2 => q _ _ (.num (by omega) (by omega)) (g1.trans g2)⟩
    · refine ⟨sl 1, sl 1, cp10 (by decide) (by decide), sl 17, _, _, rfl, g1.pool, by simp, show 17 < 1000000 by decide, fun d md M2 g2 => q d M2 ?_ (g1.trans g2)⟩
      have n3 : Sh 3 300 (.int 3) := sh_num (by decide) (by decide) (by decide)
      have z : ∀ d ∈ ([.int 0, .int 25, .int (-1), .bl true, .bl false, .non, .str "3", .tup [.int 3], .lst [.int 3], .dct [], .int (10 ^ 30), .int 1, .int 24, .int 26, .int (-24), .str "down", .int 48] : List D), Odd d := by
        refine all_cons (.num (by decide) (by decide)) <| all_cons (.num (by decide) (by decide)) <| all_cons (.num (by decide) (by decide)) <| all_cons (.of (.bl _) nofun) <| all_cons (.of (.bl _) nofun) <| all_cons (.of .non nofun) <| all_cons (.txt _ (by decide)) <| ?_
        refine all_cons (.tup (all_cons n3 all_nil) (by decide) (by decide)) <| all_cons (.lst (all_cons n3 all_nil) (by decide) (by decide)) <| all_cons (.of ⟨rfl, rfl, rfl, by decide, by decide⟩ nofun) <| all_cons (.int (by decide +kernel)) <| ?_
        exact all_cons (.num (by decide) (by decide)) <| all_cons (.num (by decide) (by decide)) <| all_cons (.num (by decide) (by decide)) <| all_cons (.num (by decide) (by decide)) <| all_cons (.txt _ (by decide)) <| all_cons (.num (by decide) (by decide)) all_nil
      exact z d md
theorem odd_styles : ∀ d ∈ stylesD, Odd d := all_cons (.txt "down" (by decide)) <| all_cons (.txt "up" (by decide)) <| all_cons (.txt "near down" (by decide)) <| all_cons (.txt "near up" (by decide)) <| all_cons (.txt "near even" (by decide)) all_nil
theorem ok_somestyle {f f1 f2 f3 : Addr} {fd d1 d2 d3 : FuncData} (DD : Dn K mg "_law_some_style" "_law_some_style" st_law_some_style ps_law_some_style f fd) (c_law_draw : Cal P w K mg base 1 "_law_draw" f1 d1 ps_law_draw sp_draw) (c_law_pick : Cal P w K mg base 2 "_law_pick" f2 d2 ps_law_pick sp_pick)
    (c_law_styles : Cal P w K mg base 1 "_law_styles" f3 d3 ps_law_styles sp_styles) : Cal P w K mg base 3 "_law_some_style" f fd ps_law_some_style sp_odd := by
  refine cal_of 2 DD fs_law_some_style (fun ds M Q E h => ?_) fun cdv A outer s H E0 R F ds M Q E rm hG tk h => ?_
  · obtain ⟨p, rfl, _⟩ := h; rfl
  · have hu := hu_room rm
    have nd := fs_law_some_style.nd
    refine ⟨_, (pds_cons (pd_ifS (pdt_cmp op_gt o2_gt (pd_cal c_law_draw rm (by decide) hG takes_no (pda_cons (pd_var 0) (pda_cons pd_int pda_nil))) pd_int (nomark _)) (pds_one (pd_ret (pd_cal c_law_pick rm (by decide) hG takes_no (pda_cons (pd_var 0) (pda_cons (pd_cal0 c_law_styles rm (by decide) hG takes_no) pda_nil))))) pds_nil)
      (pds_cons (pd_set 1 nd (pd_lst (pda_cons pd_str (pda_cons pd_str (pda_cons pd_str (pda_cons pd_str (pda_cons pd_str (pda_cons pd_str (pda_cons pd_str (pda_cons pd_str (pda_cons pd_str (pda_cons pd_non (pda_cons pd_int (pda_cons (pd_tup (pda_cons pd_str pda_nil)) (pda_cons (pd_lst (pda_cons pd_str pda_nil)) pda_nil)))))))))))))))
      (pds_one (pd_ret (pd_cal c_law_pick rm (by decide) hG takes_no (pda_cons (pd_var 0) (pda_cons (pd_op op_addD o2_add (pd_var 1) (pd_lst (pda_cons pd_dct0 (pda_cons pd_bl (pda_cons pd_str (pda_cons pd_str (pda_cons pd_str (pda_cons pd_str (pda_cons pd_str (pda_cons pd_str (pda_cons pd_int (pda_cons (pd_dct1 (fun _ => pd_str) (fun _ => pd_str)) pda_nil)))))))))))) pda_nil))))))), ?_⟩
    obtain ⟨p, rfl, hp, q⟩ := h
    refine ⟨_, _, rfl, hp, by decide, by decide, fun r M1 h0 h1 g1 => ⟨fun _ => ?_, fun _ => ?_⟩⟩
    · exact ⟨rfl, _, _, rfl, g1.pool, by simp, show 5 < 1000000 by decide, fun d md M2 g2 => q d M2 (odd_styles d md) (g1.trans g2)⟩
    · refine ⟨sl 1, sl 1, sl 13, sl 10, sl 23, _, _, rfl, g1.pool, by simp, show 23 < 1000000 by decide, fun d md M2 g2 => q d M2 ?_ (g1.trans g2)⟩
      have up : Sh 3 300 (.str "up") := .txt "up" (by decide)
      have z : ∀ d ∈ ([.str "near", .str "even", .str "Down", .str "down ", .str " up", .str "", .str "near  up", .str "nearup", .str "near down up", .non, .int 1, .tup [.str "up"], .lst [.str "up"], .dct [], .bl true, .str "upp", .str "near even ", .str "dow", .str "UP", .str "to", .str "near to", .int 0, .dct [(.inr "up", .str "up")]] : List D), Odd d := by
        refine all_cons (.txt _ (by decide)) <| all_cons (.txt _ (by decide)) <| all_cons (.txt _ (by decide)) <| all_cons (.txt _ (by decide)) <| all_cons (.txt _ (by decide)) <| all_cons (.txt _ (by decide)) <| all_cons (.txt _ (by decide)) <| all_cons (.txt _ (by decide)) <| all_cons (.txt _ (by decide)) <| ?_
        refine all_cons (.of .non nofun) <| all_cons (.num (by decide) (by decide)) <| all_cons (.tup (all_cons up all_nil) (by decide) (by decide)) <| all_cons (.lst (all_cons up all_nil) (by decide) (by decide)) <| all_cons (.of ⟨rfl, rfl, rfl, by decide, by decide⟩ nofun) <| all_cons (.of (.bl _) nofun) <| ?_
        refine all_cons (.txt _ (by decide)) <| all_cons (.txt _ (by decide)) <| all_cons (.txt _ (by decide)) <| all_cons (.txt _ (by decide)) <| all_cons (.txt _ (by decide)) <| all_cons (.txt _ (by decide)) <| all_cons (.num (by decide) (by decide)) <| ?_
        exact all_cons (.of ⟨rfl, by decide +kernel, by decide +kernel, by decide +kernel, by decide +kernel⟩ nofun) all_nil
      exact z d md
theorem ok_somefee {f f1 f2 f3 : Addr} {fd d1 d2 d3 : FuncData} (DD : Dn K mg "_law_some_fee" "_law_some_fee" st_law_some_fee ps_law_some_fee f fd) (c_law_draw : Cal P w K mg base 1 "_law_draw" f1 d1 ps_law_draw sp_draw) (c_law_pick : Cal P w K mg base 2 "_law_pick" f2 d2 ps_law_pick sp_pick)
    (c_law_fee : Cal P w K mg base 2 "_law_fee" f3 d3 ps_law_fee sp_odd) : Cal P w K mg base 3 "_law_some_fee" f fd ps_law_some_fee sp_odd := by
  refine cal_of 2 DD fs_law_some_fee (fun ds M Q E h => ?_) fun cdv A outer s H E0 R F ds M Q E rm hG tk h => ?_
  · obtain ⟨p, rfl, _⟩ := h; rfl
  · have hu := hu_room rm
    have nd := fs_law_some_fee.nd
    refine ⟨_, (pds_cons (pd_ifS (pdt_cmp op_gt o2_gt (pd_cal c_law_draw rm (by decide) hG takes_no (pda_cons (pd_var 0) (pda_cons pd_int pda_nil))) pd_int (nomark _)) (pds_one (pd_ret (pd_cal c_law_fee rm (by decide) hG takes_no (pda_cons (pd_var 0) pda_nil)))) pds_nil)
      (pds_one (pd_ret (pd_cal c_law_pick rm (by decide) hG takes_no (pda_cons (pd_var 0) (pda_cons (pd_lst (pda_cons pd_non (pda_cons pd_bl (pda_cons pd_bl (pda_cons pd_str (pda_cons pd_str (pda_cons (pd_lst pda_nil) (pda_cons (pd_tup (pda_cons pd_int pda_nil)) (pda_cons pd_dct0 (pda_cons pd_int (pda_cons (pd_un un_neg o1_neg (pd_op op_pow o2_pow pd_int pd_int)) (pda_cons (pd_lst (pda_cons pd_int pda_nil)) (pda_cons pd_str pda_nil))))))))))))) pda_nil)))))), ?_⟩
    obtain ⟨p, rfl, hp, q⟩ := h
    refine ⟨_, _, rfl, hp, by decide, by decide, fun r M1 h0 h1 g1 => ⟨fun _ => ?_, fun _ => ?_⟩⟩
    · exact ⟨_, rfl, g1.pool, fun d M2 od g2 => q d M2 od (g1.trans g2)⟩
    · refine ⟨sl 0, sl 1, cp10 (by decide) (by decide), sl 1, sl 12, _, _, rfl, g1.pool, by simp, show 12 < 1000000 by decide, fun d md M2 g2 => q d M2 ?_ (g1.trans g2)⟩
      have n0 : Sh 3 300 (.int 0) := sh_num (by decide) (by decide) (by decide)
      have n1 : Sh 3 300 (.int 1) := sh_num (by decide) (by decide) (by decide)
      have z : ∀ d ∈ ([.non, .bl true, .bl false, .str "1", .str "", .lst [], .tup [.int 0], .dct [], .int 0, .int (-(10 ^ 38)), .lst [.int 1], .str "none"] : List D), Odd d := by
        refine all_cons (.of .non nofun) <| all_cons (.of (.bl _) nofun) <| all_cons (.of (.bl _) nofun) <| all_cons (.txt _ (by decide)) <| all_cons (.txt _ (by decide)) <| all_cons (.of ⟨rfl, rfl, rfl, by decide, by decide⟩ nofun) <| all_cons (.tup (all_cons n0 all_nil) (by decide) (by decide)) <| ?_
        exact all_cons (.of ⟨rfl, rfl, rfl, by decide, by decide⟩ nofun) <| all_cons (.num (by decide) (by decide)) <| all_cons (.int (by decide +kernel)) <| all_cons (.lst (all_cons n1 all_nil) (by decide) (by decide)) <| all_cons (.txt _ (by decide)) all_nil
      exact z d md
theorem odd_of32 {n : Int} (h : n.natAbs < 10 ^ 32) : Odd (.int n) := .int (by rw [e32] at h; rw [e41]; omega)
theorem ok_somedoor {f f1 f2 f3 : Addr} {fd d1 d2 d3 : FuncData} (DD : Dn K mg "_law_some_door" "_law_some_door" st_law_some_door ps_law_some_door f fd) (c_law_draw : Cal P w K mg base 1 "_law_draw" f1 d1 ps_law_draw sp_draw) (c_law_pick : Cal P w K mg base 2 "_law_pick" f2 d2 ps_law_pick sp_pick)
    (c_law_number : Cal P w K mg base 2 "_law_number" f3 d3 ps_law_number sp_number) : Cal P w K mg base 3 "_law_some_door" f fd ps_law_some_door sp_odd := by
  refine cal_of 2 DD fs_law_some_door (fun ds M Q E h => ?_) fun cdv A outer s H E0 R F ds M Q E rm hG tk h => ?_
  · obtain ⟨p, rfl, _⟩ := h; rfl
  · have hu := hu_room rm
    have nd := fs_law_some_door.nd
    refine ⟨_, (pds_cons (pd_ifS (pdt_cmp op_gt o2_gt (pd_cal c_law_draw rm (by decide) hG takes_no (pda_cons (pd_var 0) (pda_cons pd_int pda_nil))) pd_int (nomark _)) (pds_one (pd_ret (pd_if (pdt_cmp (op_eqA hu) o2_eq (pd_cal c_law_draw rm (by decide) hG takes_no (pda_cons (pd_var 0) (pda_cons pd_int pda_nil))) pd_int (nomark _)) pd_non (pd_cal c_law_number rm (by decide) hG takes_no (pda_cons (pd_var 0) pda_nil))))) pds_nil)
      (pds_one (pd_ret (pd_cal c_law_pick rm (by decide) hG takes_no (pda_cons (pd_var 0) (pda_cons (pd_lst (pda_cons pd_non (pda_cons pd_bl (pda_cons pd_bl (pda_cons pd_str (pda_cons pd_str (pda_cons (pd_tup pda_nil) (pda_cons (pd_lst pda_nil) (pda_cons pd_dct0 (pda_cons pd_int (pda_cons (pd_tup (pda_cons pd_non pda_nil)) (pda_cons (pd_op op_pow o2_pow pd_int pd_int) (pda_cons pd_str pda_nil))))))))))))) pda_nil)))))), ?_⟩
    obtain ⟨p, rfl, hp, q⟩ := h
    refine ⟨_, _, rfl, hp, by decide, by decide, fun r M1 h0 h1 g1 => ⟨fun _ => ?_, fun _ => ?_⟩⟩
    · refine ⟨_, _, rfl, g1.pool, by decide, by decide, fun r2 M2 a0 a1 g2 => ⟨fun _ => q _ _ (.of .non nofun) (g1.trans g2), fun _ => ?_⟩⟩
      exact ⟨_, rfl, g2.pool, fun n M3 hn g3 => q _ _ (odd_of32 hn) (g1.trans (g2.trans g3))⟩
    · refine ⟨sl 0, sl 0, sl 1, cp10 (by decide) (by decide), sl 12, _, _, rfl, g1.pool, by simp, show 12 < 1000000 by decide, fun d md M2 g2 => q d M2 ?_ (g1.trans g2)⟩
      have z : ∀ d ∈ ([.non, .bl true, .bl false, .str "", .str "none", .tup [], .lst [], .dct [], .int 0, .tup [.non], .int (10 ^ 38), .str "0"] : List D), Odd d := by
        refine all_cons (.of .non nofun) <| all_cons (.of (.bl _) nofun) <| all_cons (.of (.bl _) nofun) <| all_cons (.txt _ (by decide)) <| all_cons (.txt _ (by decide)) <| all_cons (.of ⟨rfl, rfl, rfl, by decide, by decide⟩ nofun) <| all_cons (.of ⟨rfl, rfl, rfl, by decide, by decide⟩ nofun) <| ?_
        exact all_cons (.of ⟨rfl, rfl, rfl, by decide, by decide⟩ nofun) <| all_cons (.num (by decide) (by decide)) <| all_cons (.of ⟨rfl, rfl, rfl, by decide, by decide⟩ nofun) <| all_cons (.int (by decide +kernel)) <| all_cons (.txt _ (by decide)) all_nil
      exact z d md

end
end Dv
-- LAW law_k04_ledgers_and_rules_refused wholedrift_k04_ledgers_and_rules_refused
namespace Dv
open PySem PySem.Spec L2
section
variable {P : Program} {w : World} {K : PySem.W.Frag} {mg : Str → Option Value} {base : Heap}
theorem k_Ledger_0_worth_name {x qual : Str} {f : Addr} {fd : FuncData} (FD : FunD K x qual (defArgs st_Ledger___init) (defBody st_Ledger___init) (defScope st_Ledger___init) [] [] f fd) : KB K fd ps_Ledger___init 1 ["worth", "name"] (fun xs ys => pick .non [0, 2, 1] (xs ++ ys)) := by
  obtain ⟨oc, od, dV, kV, doc, pm, an, cdv, ct, osl, rfl, lk, hcd, hD, _⟩ := FD.ex
  rcases hD with ⟨_, rfl⟩ | ⟨e, _⟩
  · exact kb_of [0, 2, 1] fun s us ws _ hu hw => match us, hu, ws, hw with | [_], _, [_, _], _ => .of_eq rfl
  · exact absurd rfl e
theorem k_Rule_3_charge_least {x qual : Str} {f : Addr} {fd : FuncData} (FD : FunD K x qual (defArgs st_Rule___init) (defBody st_Rule___init) (defScope st_Rule___init) [] [("charge", .int 0), ("least", .non)] f fd) : KB K fd ps_Rule___init 4 ["charge", "least"] (fun xs ys => pick .non [0, 1, 2, 3, 4, 5] (xs ++ ys ++ [])) :=
  kb_dfl0 FD 4 ["charge", "least"] [] [] [0, 1, 2, 3, 4, 5] (by simp) (by simp) (fun F => .nil) fun Dd doc pm an cdv ct us mv ws hu hm hw => match us, hu, ws, hw, mv, hm with | [_, _, _, _], _, [_, _], _, [], _ => rfl
def ltD (a b : D) : D := match ledR a b with
  | none => .lst [.str "made", a, b]
  | some (k, d) => .lst [.str (if k = true then "name" else "worth"), d]
def sp_lt4 : DSp := fun ds M Q _ => ∃ a b bp, ds = [a, b, .bl bp] ∧ Odd a ∧ Odd b ∧ ∀ M', Old M M' → Q (ltD a b) M'
theorem ok_lt4 {f f1 C CN CW i1 i2 : Addr} {fd d1 : FuncData} (DD : Dn K mg "_law_ledger_told" "_law_ledger_told" st_law_ledger_told ps_law_ledger_told f fd) (FD : FunD K "__init__" "Ledger.__init__" (defArgs st_Ledger___init) (defBody st_Ledger___init) (defScope st_Ledger___init) [] [] f1 d1)
    (c_Ledger : Kl P w K mg base 2 "Ledger" C f1 d1 ps_Ledger___init [] [] (sp_ledI CN CW C)) (p_Ledger_name : Pr P w K mg base 1 C "name" (sp_get C 0)) (p_Ledger_worth : Pr P w K mg base 1 C "worth" (sp_get C 1)) (e_InvalidName : PySem.ErD.ErrT K mg "InvalidName" "given" CN i1) (e_InvalidWorth : PySem.ErD.ErrT K mg "InvalidWorth" "given" CW i2)
    (xNN : PySem.W.exmOne K (.ref CN) (.ref CN) = some true) (xWN : PySem.W.exmOne K (.ref CW) (.ref CN) = some false) (xWW : PySem.W.exmOne K (.ref CW) (.ref CW) = some true) : Cal P w K mg base 4 "_law_ledger_told" f fd ps_law_ledger_told sp_lt4 := by
  refine cal_of 3 DD fs_law_ledger_told (fun ds M Q E h => ?_) fun cdv A outer s H E0 R F ds M Q E rm hG tk h => ?_
  · obtain ⟨a, b, bp, rfl, _⟩ := h; rfl
  · have hu := hu_room rm
    have nd := fs_law_ledger_told.nd
    have k_Ledger_0_worth_name := k_Ledger_0_worth_name FD
    refine ⟨_, (pds_cons (pd_try (Wout := W0) rfl rfl nd takes_no (fun _ _ _ _ tk2 ps => (pds_one (pd_set 3 nd (pd_if (pdt_val (pd_var 2)) (pd_cl mq_cold c_Ledger rm (by decide) hG tk2 (pda_cons (pd_var 0) (pda_cons (pd_var 1) pda_nil))) (pd_clK0 mq_cold c_Ledger k_Ledger_0_worth_name rm (by decide) hG tk2 (pdk_cons (pd_var 1) (pdk_cons (pd_var 0) pdk_nil))))))) (.cons ⟨rfl, by decide, .inl e_InvalidName.gC⟩ (i := 4) rfl rfl (fun _ a oe cls d pn hz hf => (pds_one (pd_ret (pd_lst (pda_cons pd_str (pda_cons (pd_xf e_InvalidName hz hf (pd_var 4)) pda_nil)))))) (.cons ⟨rfl, by decide, .inl e_InvalidWorth.gC⟩ (i := 4) rfl rfl (fun _ a oe cls d pn hz hf => (pds_one (pd_ret (pd_lst (pda_cons pd_str (pda_cons (pd_xf e_InvalidWorth hz hf (pd_var 4)) pda_nil)))))) .nil)))
      (pds_one (pd_ret (pd_lst (pda_cons pd_str (pda_cons (pd_pr p_Ledger_name rm (by decide) hG (pd_var 3)) (pda_cons (pd_pr p_Ledger_worth rm (by decide) hG (pd_var 3)) pda_nil))))))), ?_⟩
    obtain ⟨a, b, bp, rfl, oa, ob, q⟩ := h
    unfold ltD at q
    refine ⟨fun hb x dx nx ndx ne => ⟨x, dx, a, b, rfl, mup_same, oa, ob, ?_⟩, fun hb => ⟨⟨rfl, rfl⟩, fun x dx nx ndx ne => ⟨x, dx, a, b, rfl, mup_same, oa, ob, ?_⟩⟩⟩
    all_goals
      cases hl : ledR a b with
      | none =>
        rw [hl] at q
        exact ⟨rfl, [.tup [a, b]], mup_same, rfl, _, _, rfl, rfl, rfl, _, _, rfl, rfl, sl 3, q _ (old_gone nx)⟩
      | some kd =>
        obtain ⟨k, d⟩ := kd
        rw [hl] at q
        intro p n
        cases k with
        | true => exact ⟨true, xNN, fun _ a => ⟨rfl, rfl, _, _, _, rfl, mup_same, rfl, sl 2, q _ (old_err nx n)⟩, fun z => nomatch z⟩
        | false => exact ⟨false, xWN, fun z => (nomatch z), fun _ => ⟨true, xWW, fun _ a => ⟨rfl, rfl, _, _, _, rfl, mup_same, rfl, sl 2, q _ (old_err nx n)⟩, fun z => nomatch z⟩⟩
def sp_ld4 : DSp := fun ds M Q _ => ∃ a b, ds = [a, b] ∧ Odd a ∧ Odd b ∧ Q (ltD a b) M
theorem ok_ld4 {f f1 f2 : Addr} {fd d1 d2 : FuncData} (DD : Dn K mg "_law_ledger_due" "_law_ledger_due" st_law_ledger_due ps_law_ledger_due f fd) (c_law_is_name : Cal P w K mg base 1 "_law_is_name" f1 d1 ps_law_is_name sp_isname) (c_law_whole : Cal P w K mg base 1 "_law_whole" f2 d2 ps_law_whole sp_isint) : Cal P w K mg base 2 "_law_ledger_due" f fd ps_law_ledger_due sp_ld4 := by
  refine cal_of 1 DD fs_law_ledger_due (fun ds M Q E h => ?_) fun cdv A outer s H E0 R F ds M Q E rm hG tk h => ?_
  · obtain ⟨a, b, rfl, _⟩ := h; rfl
  · have hu := hu_room rm
    have nd := fs_law_ledger_due.nd
    refine ⟨_, (pds_cons (pd_ifS (pdt_not (pdt_val (pd_cal c_law_is_name rm (by decide) hG takes_no (pda_cons (pd_var 0) pda_nil)))) (pds_one (pd_ret (pd_lst (pda_cons pd_str (pda_cons (pd_var 0) pda_nil))))) pds_nil)
      (pds_cons (pd_ifS (pdt_w (pdw_or (pdt_not (pdt_val (pd_cal c_law_whole rm (by decide) hG takes_no (pda_cons (pd_var 1) pda_nil)))) (pdw_or (pdt_cmp op_lt o2_lt (pd_var 1) pd_int (nomark _)) (pdw_or1 (pdt_cmp op_gt o2_gt (pd_var 1) pd_int (nomark _)))))) (pds_one (pd_ret (pd_lst (pda_cons pd_str (pda_cons (pd_var 1) pda_nil))))) pds_nil)
      (pds_one (pd_ret (pd_lst (pda_cons pd_str (pda_cons (pd_var 0) (pda_cons (pd_var 1) pda_nil)))))))), ?_⟩
    obtain ⟨a, b, rfl, oa, ob, q⟩ := h
    unfold ltD ledR at q
    refine ⟨_, rfl, oa, ⟨fun h1 => ⟨sl 2, ?_⟩, fun h1 => ⟨_, rfl, ob.kd, ⟨fun h2 => Br.t ⟨sl 2, ?_⟩, fun h2 => ?_⟩⟩⟩⟩
    · rw [show isNm a = false by have z : (!isNm a) = true := h1; simpa using z] at q
      exact q
    · have z : isNm a = true := by have z : (!isNm a) = false := h1; simpa using z
      have z2 : okW b = false := by
        have y : (!isInt b) = true := h2
        cases b <;> first | rfl | (cases y; done)
      rw [z, z2] at q
      exact q
    · rw [show isNm a = true by have z : (!isNm a) = false := h1; simpa using z] at q
      cases b <;> first | (cases h2; done) | skip
      rename_i i
      have bad : okW (.int i) = false → Q (.lst [.str "worth", .int i]) M := fun e => by
        rw [e] at q
        exact q
      refine ⟨fun h3 => Br.t ⟨sl 2, bad ?_⟩, fun h3 => ⟨fun h4 => ⟨sl 2, bad ?_⟩, fun h4 => ⟨sl 3, ?_⟩⟩⟩
      · have z : i < 1 := of_decide_eq_true h3
        show (decide (1 ≤ i) && decide (i ≤ 24)) = false
        rw [show decide (1 ≤ i) = false by simp; omega, Bool.false_and]
      · have z : 24 < i := of_decide_eq_true h4
        show (decide (1 ≤ i) && decide (i ≤ 24)) = false
        rw [show decide (i ≤ 24) = false by simp; omega, Bool.and_false]
      · have z : ¬ i < 1 := of_decide_eq_false h3
        have z' : ¬ 24 < i := of_decide_eq_false h4
        have e : okW (.int i) = true := by
          show (decide (1 ≤ i) && decide (i ≤ 24)) = true
          rw [show decide (1 ≤ i) = true by simp; omega, show decide (i ≤ 24) = true by simp; omega]
          rfl
        rw [e] at q
        exact q
def word4 (k : Nat) : Str := if k = 0 then "name" else if k = 1 then "rounding" else if k = 2 then "charge" else "least"
def rtD (a b r c l : D) : D := match ruleR a b r c l with
  | none => .lst [.str "made", a, b, r, c, l]
  | some (k, d) => .lst [.str (word4 k), d]
theorem ruleR_lt {a b r c l d : D} {k : Nat} (h : ruleR a b r c l = some (k, d)) : k < 4 := by
  unfold ruleR at h
  repeat' split at h
  all_goals first | (cases h; decide) | (cases h; done)
def sp_rt4 : DSp := fun ds M Q _ => ∃ a b r c l, ds = [a, b, r, c, l] ∧ (Odd a ∧ Odd b ∧ Odd r ∧ Odd c ∧ Odd l) ∧ ∀ M', Old M M' → Q (rtD a b r c l) M'
theorem ok_rt4 {f f1 C i0 i1 i2 i3 : Addr} {CE : Nat → Addr} {us : List Value} {fd d1 : FuncData} (DD : Dn K mg "_law_rule_told" "_law_rule_told" st_law_rule_told ps_law_rule_told f fd) (FD : FunD K "__init__" "Rule.__init__" (defArgs st_Rule___init) (defBody st_Rule___init) (defScope st_Rule___init) [] rkw f1 d1)
    (c_Rule : Kl P w K mg base 2 "Rule" C f1 d1 ps_Rule___init us [.int 0, .non] (sp_rulI CE C)) (p_Rule_source : Pr P w K mg base 1 C "source" (sp_get C 0)) (p_Rule_target : Pr P w K mg base 1 C "target" (sp_get C 1)) (p_Rule_rounding : Pr P w K mg base 1 C "rounding" (sp_get C 2)) (p_Rule_charge : Pr P w K mg base 1 C "charge" (sp_get C 3)) (p_Rule_least : Pr P w K mg base 1 C "least" (sp_get C 4))
    (e_InvalidName : PySem.ErD.ErrT K mg "InvalidName" "given" (CE 0) i0) (e_InvalidRounding : PySem.ErD.ErrT K mg "InvalidRounding" "given" (CE 1) i1) (e_InvalidCharge : PySem.ErD.ErrT K mg "InvalidCharge" "given" (CE 2) i2) (e_InvalidLeast : PySem.ErD.ErrT K mg "InvalidLeast" "given" (CE 3) i3)
    (xs : ∀ i j, j ≤ i → i < 4 → PySem.W.exmOne K (.ref (CE i)) (.ref (CE j)) = some (decide (i = j))) : Cal P w K mg base 4 "_law_rule_told" f fd ps_law_rule_told sp_rt4 := by
  refine cal_of 3 DD fs_law_rule_told (fun ds M Q E h => ?_) fun cdv A outer s H E0 R F ds M Q E rm hG tk h => ?_
  · obtain ⟨a, b, r, c, l, rfl, _⟩ := h; rfl
  · have hu := hu_room rm
    have nd := fs_law_rule_told.nd
    have k_Rule_3_charge_least := k_Rule_3_charge_least FD
    refine ⟨_, (pds_cons (pd_try (Wout := W0) rfl rfl nd takes_no (fun _ _ _ _ tk2 ps => (pds_one (pd_set 5 nd (pd_clKn mq_cold c_Rule k_Rule_3_charge_least rm (by decide) hG tk2 (pda_cons (pd_var 0) (pda_cons (pd_var 1) (pda_cons (pd_var 2) pda_nil))) (pdk_cons (pd_var 3) (pdk_cons (pd_var 4) pdk_nil)))))) (.cons ⟨rfl, by decide, .inl e_InvalidName.gC⟩ (i := 6) rfl rfl (fun _ a oe cls d pn hz hf => (pds_one (pd_ret (pd_lst (pda_cons pd_str (pda_cons (pd_xf e_InvalidName hz hf (pd_var 6)) pda_nil)))))) (.cons ⟨rfl, by decide, .inl e_InvalidRounding.gC⟩ (i := 6) rfl rfl (fun _ a oe cls d pn hz hf => (pds_one (pd_ret (pd_lst (pda_cons pd_str (pda_cons (pd_xf e_InvalidRounding hz hf (pd_var 6)) pda_nil)))))) (.cons ⟨rfl, by decide, .inl e_InvalidCharge.gC⟩ (i := 6) rfl rfl (fun _ a oe cls d pn hz hf => (pds_one (pd_ret (pd_lst (pda_cons pd_str (pda_cons (pd_xf e_InvalidCharge hz hf (pd_var 6)) pda_nil)))))) (.cons ⟨rfl, by decide, .inl e_InvalidLeast.gC⟩ (i := 6) rfl rfl (fun _ a oe cls d pn hz hf => (pds_one (pd_ret (pd_lst (pda_cons pd_str (pda_cons (pd_xf e_InvalidLeast hz hf (pd_var 6)) pda_nil)))))) .nil)))))
      (pds_one (pd_ret (pd_lst (pda_cons pd_str (pda_cons (pd_pr p_Rule_source rm (by decide) hG (pd_var 5)) (pda_cons (pd_pr p_Rule_target rm (by decide) hG (pd_var 5)) (pda_cons (pd_pr p_Rule_rounding rm (by decide) hG (pd_var 5)) (pda_cons (pd_pr p_Rule_charge rm (by decide) hG (pd_var 5)) (pda_cons (pd_pr p_Rule_least rm (by decide) hG (pd_var 5)) pda_nil)))))))))), ?_⟩
    obtain ⟨a, b, r, c, l, rfl, ⟨oa, ob, or, oc, ol⟩, q⟩ := h
    unfold rtD at q
    refine ⟨⟨rfl, rfl⟩, fun x dx nx ndx ne => ⟨x, dx, a, b, r, c, l, rfl, mup_same, ⟨oa, ob, or, oc, ol⟩, ?_⟩⟩
    cases hl : ruleR a b r c l with
    | none =>
      rw [hl] at q
      exact ⟨rfl, [.tup [a, b, r, c, l]], mup_same, rfl, _, _, rfl, rfl, rfl, _, _, rfl, rfl, rfl, _, _, rfl, rfl, rfl, _, _, rfl, rfl, rfl, _, _, rfl, rfl, sl 6, q _ (old_gone nx)⟩
    | some kd =>
      obtain ⟨k, d⟩ := kd
      rw [hl] at q
      have k4 := ruleR_lt hl
      intro p n
      match k, k4, q with
      | 0, _, q => exact ⟨true, xs 0 0 (by decide) (by decide), fun _ a => ⟨rfl, rfl, _, _, _, rfl, mup_same, rfl, sl 2, q _ (old_err nx n)⟩, fun z => nomatch z⟩
      | 1, _, q => exact ⟨false, xs 1 0 (by decide) (by decide), fun z => (nomatch z), fun _ => ⟨true, xs 1 1 (by decide) (by decide), fun _ a => ⟨rfl, rfl, _, _, _, rfl, mup_same, rfl, sl 2, q _ (old_err nx n)⟩, fun z => nomatch z⟩⟩
      | 2, _, q => exact ⟨false, xs 2 0 (by decide) (by decide), fun z => (nomatch z), fun _ => ⟨false, xs 2 1 (by decide) (by decide), fun z => (nomatch z), fun _ => ⟨true, xs 2 2 (by decide) (by decide), fun _ a => ⟨rfl, rfl, _, _, _, rfl, mup_same, rfl, sl 2, q _ (old_err nx n)⟩, fun z => nomatch z⟩⟩⟩
      | 3, _, q => exact ⟨false, xs 3 0 (by decide) (by decide), fun z => (nomatch z), fun _ => ⟨false, xs 3 1 (by decide) (by decide), fun z => (nomatch z), fun _ => ⟨false, xs 3 2 (by decide) (by decide), fun z => (nomatch z), fun _ => ⟨true, xs 3 3 (by decide) (by decide), fun _ a => ⟨rfl, rfl, _, _, _, rfl, mup_same, rfl, sl 2, q _ (old_err nx n)⟩, fun z => nomatch z⟩⟩⟩⟩
def sp_rd4 : DSp := fun ds M Q _ => ∃ a b r c l, ds = [a, b, r, c, l] ∧ (Odd a ∧ Odd b ∧ Odd r ∧ Odd c ∧ Odd l) ∧ Q (rtD a b r c l) M
theorem ok_rd4 {f f1 f2 f3 : Addr} {fd d1 d2 d3 : FuncData} (DD : Dn K mg "_law_rule_due" "_law_rule_due" st_law_rule_due ps_law_rule_due f fd) (n_isinstance : mg "isinstance" = none) (n_str : mg "str" = none) (c_law_is_name : Cal P w K mg base 1 "_law_is_name" f1 d1 ps_law_is_name sp_isname) (c_law_whole : Cal P w K mg base 1 "_law_whole" f2 d2 ps_law_whole sp_isint)
    (c_law_styles : Cal P w K mg base 1 "_law_styles" f3 d3 ps_law_styles sp_styles) : Cal P w K mg base 2 "_law_rule_due" f fd ps_law_rule_due sp_rd4 := by
  refine cal_of 1 DD fs_law_rule_due (fun ds M Q E h => ?_) fun cdv A outer s H E0 R F ds M Q E rm hG tk h => ?_
  · obtain ⟨a, b, r, c, l, rfl, _⟩ := h; rfl
  · have hu := hu_room rm
    have nd := fs_law_rule_due.nd
    refine ⟨_, (pds_cons (pd_ifS (pdt_not (pdt_val (pd_cal c_law_is_name rm (by decide) hG takes_no (pda_cons (pd_var 0) pda_nil)))) (pds_one (pd_ret (pd_lst (pda_cons pd_str (pda_cons (pd_var 0) pda_nil))))) pds_nil)
      (pds_cons (pd_ifS (pdt_not (pdt_val (pd_cal c_law_is_name rm (by decide) hG takes_no (pda_cons (pd_var 1) pda_nil)))) (pds_one (pd_ret (pd_lst (pda_cons pd_str (pda_cons (pd_var 1) pda_nil))))) pds_nil)
      (pds_cons (pd_ifS (pdt_w (pdw_or (pdt_not (pdt_val (pd_callB call_isiD rfl n_isinstance (by rfl) (pda_cons (pd_var 2) (pda_cons (pd_bltn rfl n_str (by rfl)) pda_nil))))) (pdw_or1 (pdt_cmp op_notInA o2_notIn (pd_var 2) (pd_cal0 c_law_styles rm (by decide) hG takes_no) (by rfl))))) (pds_one (pd_ret (pd_lst (pda_cons pd_str (pda_cons (pd_var 2) pda_nil))))) pds_nil)
      (pds_cons (pd_ifS (pdt_not (pdt_val (pd_cal c_law_whole rm (by decide) hG takes_no (pda_cons (pd_var 3) pda_nil)))) (pds_one (pd_ret (pd_lst (pda_cons pd_str (pda_cons (pd_var 3) pda_nil))))) pds_nil)
      (pds_cons (pd_ifS (pdt_w (pdw_and (pdt_cmp op_notN o2_notN (pd_var 4) pd_non (nomark _)) (pdw_and1 (pdt_not (pdt_val (pd_cal c_law_whole rm (by decide) hG takes_no (pda_cons (pd_var 4) pda_nil))))))) (pds_one (pd_ret (pd_lst (pda_cons pd_str (pda_cons (pd_var 4) pda_nil))))) pds_nil)
      (pds_one (pd_ret (pd_lst (pda_cons pd_str (pda_cons (pd_var 0) (pda_cons (pd_var 1) (pda_cons (pd_var 2) (pda_cons (pd_var 3) (pda_cons (pd_var 4) pda_nil)))))))))))))), ?_⟩
    obtain ⟨a, b, r, c, l, rfl, ⟨oa, ob, or, oc, ol⟩, q⟩ := h
    unfold rtD ruleR at q
    refine ⟨_, rfl, oa, ⟨fun h1 => ⟨sl 2, ?_⟩, fun h1 => ⟨_, rfl, ob, ⟨fun h2 => ⟨sl 2, ?_⟩, fun h2 => ?_⟩⟩⟩⟩
    · rw [if_pos h1] at q; exact q
    · rw [h1, if_neg Bool.false_ne_true, if_pos h2] at q; exact q
    · rw [h1, if_neg Bool.false_ne_true, h2, if_neg Bool.false_ne_true] at q
      have tailR : (!isRnd r) = true → Q (.lst [.str "rounding", r]) M := fun e => by rw [if_pos e] at q; exact q
      refine kd_str or.kd ⟨fun h3 => Br.t ⟨sl 2, tailR ?_⟩, fun h3 => ?_⟩
      · cases r <;> first | rfl | (cases h3; done)
      · cases r <;> first | (cases h3; done) | skip
        rename_i x
        refine ⟨rfl, rfl, rfl, ⟨fun h4 => ⟨sl 2, tailR h4⟩, fun h4 => ⟨_, rfl, oc.kd, ⟨fun h5 => ⟨sl 2, ?_⟩, fun h5 => ?_⟩⟩⟩⟩
        · rw [if_neg (by rw [show (!isRnd (.str x)) = false from h4]; exact Bool.false_ne_true), if_pos h5] at q; exact q
        · rw [if_neg (by rw [show (!isRnd (.str x)) = false from h4]; exact Bool.false_ne_true), h5, if_neg Bool.false_ne_true] at q
          refine ⟨fun h6 => ⟨_, rfl, ol.kd, ⟨fun h7 => ⟨sl 2, ?_⟩, fun h7 => ⟨sl 6, ?_⟩⟩⟩, fun h6 => Br.f ⟨sl 6, ?_⟩⟩
          · rw [show (!isNon l) = true from h6, show (!isInt l) = true from h7, Bool.and_self, if_pos rfl] at q; exact q
          · rw [show (!isInt l) = false from h7, Bool.and_false, if_neg Bool.false_ne_true] at q; exact q
          · rw [show (!isNon l) = false from h6, Bool.false_and, if_neg Bool.false_ne_true] at q; exact q

end
end Dv
-- LAW law_k04_ledgers_and_rules_refused wholedrift_k04_ledgers_and_rules_refused
-- UNL _law_right _law_first
namespace Dv
open PySem PySem.Spec L2
section
variable {P : Program} {w : World} {K : PySem.W.Frag} {mg : Str → Option Value} {base : Heap}
theorem ltD_sh {a b : D} (oa : Odd a) (ob : Odd b) : Sh 60 60000 (ltD a b) := by
  have wd : ∀ s : String, s.length ≤ 2000 → Sh 10 2000 (.str (Str.ofString s)) := fun s h => .txt s h
  unfold ltD ledR
  cases isNm a <;> cases okW b
  · exact (Sh.lst (all_cons (wd "name" (by decide)) (all_cons oa.sh all_nil))).mono (by decide) (show 2 * 2001 ≤ 60000 by decide)
  · exact (Sh.lst (all_cons (wd "name" (by decide)) (all_cons oa.sh all_nil))).mono (by decide) (show 2 * 2001 ≤ 60000 by decide)
  · exact (Sh.lst (all_cons (wd "worth" (by decide)) (all_cons ob.sh all_nil))).mono (by decide) (show 2 * 2001 ≤ 60000 by decide)
  · exact (Sh.lst (all_cons (wd "made" (by decide)) (all_cons oa.sh (all_cons ob.sh all_nil)))).mono (by decide) (show 3 * 2001 ≤ 60000 by decide)
theorem ruleR_odd {a b r c l d : D} {k : Nat} (o : Odd a ∧ Odd b ∧ Odd r ∧ Odd c ∧ Odd l) (h : ruleR a b r c l = some (k, d)) : Odd d := by
  obtain ⟨oa, ob, or, oc, ol⟩ := o
  unfold ruleR at h
  repeat' split at h
  all_goals first | (cases h; done) | (cases h; assumption)
theorem word4_sh (k : Nat) : Sh 10 2000 (.str (word4 k)) := by
  unfold word4
  repeat' split
  all_goals exact .txt _ (by decide)
theorem rtD_sh {a b r c l : D} (o : Odd a ∧ Odd b ∧ Odd r ∧ Odd c ∧ Odd l) : Sh 60 60000 (rtD a b r c l) := by
  have o2 := o
  obtain ⟨oa, ob, or, oc, ol⟩ := o
  unfold rtD
  cases h : ruleR a b r c l with
  | none => exact (Sh.lst (all_cons (Sh.txt "made" (by decide)) (all_cons oa.sh (all_cons ob.sh (all_cons or.sh (all_cons oc.sh (all_cons ol.sh all_nil))))))).mono (by decide) (show 6 * 2001 ≤ 60000 by decide)
  | some kd => exact (Sh.lst (all_cons (word4_sh kd.1) (all_cons (ruleR_odd o2 h).sh all_nil))).mono (by decide) (show 2 * 2001 ≤ 60000 by decide)
theorem ne_same {x : Str} {Q : Bool → Prop} (q : Q false) : Q (!decide (x = x)) := by
  rw [decide_eq_true rfl]
  exact q
def sp_right : DSp := fun ds M Q _ => ∃ p, ds = [.ref p] ∧ Pool M p ∧ ∀ M', Q (.bl true) M'
theorem ok_right {f f1 f2 f3 f4 f5 f6 f7 f8 f9 : Addr} {fd d1 d2 d3 d4 d5 d6 d7 d8 d9 : FuncData} (DD : Dn K mg "_law_right" "_law_right" st_law_right ps_law_right f fd) (n_repr : mg "repr" = none) (n_range : mg "range" = none) (c_law_some_tag : Cal P w K mg base 4 "_law_some_tag" f1 d1 ps_law_some_tag sp_odd)
    (c_law_some_unit : Cal P w K mg base 3 "_law_some_unit" f2 d2 ps_law_some_unit sp_odd) (c_law_some_style : Cal P w K mg base 3 "_law_some_style" f3 d3 ps_law_some_style sp_odd) (c_law_some_fee : Cal P w K mg base 3 "_law_some_fee" f4 d4 ps_law_some_fee sp_odd) (c_law_some_door : Cal P w K mg base 3 "_law_some_door" f5 d5 ps_law_some_door sp_odd)
    (c_law_ledger_told : Cal P w K mg base 4 "_law_ledger_told" f6 d6 ps_law_ledger_told sp_lt4) (c_law_ledger_due : Cal P w K mg base 2 "_law_ledger_due" f7 d7 ps_law_ledger_due sp_ld4) (c_law_rule_told : Cal P w K mg base 4 "_law_rule_told" f8 d8 ps_law_rule_told sp_rt4) (c_law_rule_due : Cal P w K mg base 2 "_law_rule_due" f9 d9 ps_law_rule_due sp_rd4) :
    Cal P w K mg base 5 "_law_right" f fd ps_law_right sp_right := by
  refine cal_of 4 DD fs_law_right (fun ds M Q E h => ?_) fun cdv A outer s H E0 R F ds M Q E rm hG tk h => ?_
  · obtain ⟨p, rfl, _⟩ := h; rfl
  · have hu := hu_room rm
    have nd := fs_law_right.nd
    refine ⟨_, (pds_cons (pd_for (passes_of rfl) rfl (pdi_range1 rfl n_range (pda_cons pd_int pda_nil)) (pdg_name 1 nd) (pds_cons (pd_par 2 3 rfl nd (pda_cons (pd_cal c_law_some_tag rm (by decide) hG takes_no (pda_cons (pd_var 0) pda_nil)) (pda_cons (pd_cal c_law_some_unit rm (by decide) hG takes_no (pda_cons (pd_var 0) pda_nil)) pda_nil)))
      (pds_cons (pd_for (passes_of rfl) rfl (pdi_list (pd_lst (pda_cons pd_bl (pda_cons pd_bl pda_nil)))) (pdg_name 4 nd) (pds_one (pd_ifS (pdt_cmp (op_neA hu) o2_ne (pd_callB (call_reprD hG hu) rfl n_repr (by rfl) (pda_cons (pd_cal c_law_ledger_told rm (by decide) hG takes_no (pda_cons (pd_var 2) (pda_cons (pd_var 3) (pda_cons (pd_var 4) pda_nil)))) pda_nil)) (pd_callB (call_reprD hG hu) rfl n_repr (by rfl) (pda_cons (pd_cal c_law_ledger_due rm (by decide) hG takes_no (pda_cons (pd_var 2) (pda_cons (pd_var 3) pda_nil))) pda_nil)) (nomark _)) (pds_one (pd_ret pd_bl)) pds_nil)))
      (pds_cons (pd_par 5 6 rfl nd (pda_cons (pd_cal c_law_some_tag rm (by decide) hG takes_no (pda_cons (pd_var 0) pda_nil)) (pda_cons (pd_cal c_law_some_tag rm (by decide) hG takes_no (pda_cons (pd_var 0) pda_nil)) pda_nil)))
      (pds_cons (pd_set 7 nd (pd_cal c_law_some_style rm (by decide) hG takes_no (pda_cons (pd_var 0) pda_nil)))
      (pds_cons (pd_par 8 9 rfl nd (pda_cons (pd_cal c_law_some_fee rm (by decide) hG takes_no (pda_cons (pd_var 0) pda_nil)) (pda_cons (pd_cal c_law_some_door rm (by decide) hG takes_no (pda_cons (pd_var 0) pda_nil)) pda_nil)))
      (pds_cons (pd_set 10 nd (pd_lst (pda_cons (pd_lst (pda_cons (pd_var 5) (pda_cons (pd_var 6) (pda_cons (pd_var 7) pda_nil)))) (pda_cons (pd_lst (pda_cons pd_str (pda_cons (pd_var 6) (pda_cons (pd_var 7) pda_nil)))) (pda_cons (pd_lst (pda_cons pd_str (pda_cons pd_str (pda_cons (pd_var 7) pda_nil)))) (pda_cons (pd_lst (pda_cons pd_str (pda_cons pd_str (pda_cons pd_str pda_nil)))) pda_nil))))))
      (pds_one (pd_for (passes_of rfl) rfl (pdi_list (pd_var 10)) (pdg_lst rfl (pdgs_cons (pdg_name 11 nd) (pdgs_cons (pdg_name 12 nd) (pdgs_cons (pdg_name 13 nd) pdgs_nil)))) (pds_cons (pd_set 14 nd (pd_cal c_law_rule_told rm (by decide) hG takes_no (pda_cons (pd_var 11) (pda_cons (pd_var 12) (pda_cons (pd_var 13) (pda_cons (pd_var 8) (pda_cons (pd_var 9) pda_nil)))))))
      (pds_one (pd_ifS (pdt_cmp (op_neA hu) o2_ne (pd_callB (call_reprD hG hu) rfl n_repr (by rfl) (pda_cons (pd_var 14) pda_nil)) (pd_callB (call_reprD hG hu) rfl n_repr (by rfl) (pda_cons (pd_cal c_law_rule_due rm (by decide) hG takes_no (pda_cons (pd_var 11) (pda_cons (pd_var 12) (pda_cons (pd_var 13) (pda_cons (pd_var 8) (pda_cons (pd_var 9) pda_nil)))))) pda_nil)) (nomark _)) (pds_one (pd_ret pd_bl)) pds_nil))))))))))))
      (pds_one (pd_ret pd_bl))), ?_⟩
    obtain ⟨p, rfl, hp, q⟩ := h
    refine ⟨⟨by decide, by decide⟩, ?_⟩
    refine loop_inv (fun _ ds M' => Pool M' p ∧ ∃ c1 c2 c3 c4 c5 c6 c7 c8 c9 c10 c11 c12 c13 c14, ds = [some (.ref p), c1, c2, c3, c4, c5, c6, c7, c8, c9, c10, c11, c12, c13, c14]) ?_ ?_ _ _ _ ?_
    · rintro ds M' ⟨_, c1, c2, c3, c4, c5, c6, c7, c8, c9, c10, c11, c12, c13, c14, rfl⟩
      exact q M'
    · rintro x rest ds M1 ⟨hp1, c1, c2, c3, c4, c5, c6, c7, c8, c9, c10, c11, c12, c13, c14, rfl⟩ next
      refine ⟨_, rfl, hp1, fun a M2 oa g2 => ⟨_, rfl, g2.pool, fun u M3 ou g3 => ⟨sl 2, ?_⟩⟩⟩
      refine loop_inv (fun rest ds M' => Pool M' p ∧ (∀ d ∈ rest, ∃ c, d = .bl c) ∧ ∃ c4, ds = [some (.ref p), some x, some a, some u, c4, c5, c6, c7, c8, c9, c10, c11, c12, c13, c14]) ?_ ?_ _ _ _ ?_
      · rintro ds M4 ⟨hp4, _, c4', rfl⟩
        refine ⟨_, rfl, hp4, fun b M5 ob g5 => ⟨_, rfl, g5.pool, fun e M6 oe g6 => ⟨_, rfl, g6.pool, fun y M7 oy g7 => ⟨_, rfl, g7.pool, fun z M8 oz g8 => ⟨_, rfl, g8.pool, fun v M9 ov g9 => ?_⟩⟩⟩⟩⟩
        refine ⟨sl 3, sl 3, sl 3, sl 3, sl 4, ?_⟩
        have wa : Odd (.str "a") := .txt "a" (by decide)
        have wb : Odd (.str "b") := .txt "b" (by decide)
        have wu : Odd (.str "up") := .txt "up" (by decide)
        refine loop_inv (fun rest ds M' => Pool M' p ∧ (∀ d ∈ rest, ∃ f g h, d = .lst [f, g, h] ∧ Odd f ∧ Odd g ∧ Odd h) ∧ ∃ cR k1 k2 k3 k4, ds = [some (.ref p), some x, some a, some u, c4', some b, some e, some y, some z, some v, cR, k1, k2, k3, k4]) ?_ ?_ _ _ _ ?_
        · rintro ds M10 ⟨hp10, _, cR, k1, k2, k3, k4, rfl⟩
          exact next _ _ ⟨hp10, _, _, _, _, _, _, _, _, _, _, _, _, _, _, rfl⟩
        · rintro t rest3 ds M10 ⟨hp10, hr, cR, k1, k2, k3, k4, rfl⟩ next3
          obtain ⟨i, j, k, rfl, oi, oj, ok⟩ := hr t List.mem_cons_self
          have oo : Odd i ∧ Odd j ∧ Odd k ∧ Odd z ∧ Odd v := ⟨oi, oj, ok, oz, ov⟩
          refine ⟨rfl, _, _, _, _, _, rfl, oo, fun M11 o11 => ⟨rtD_sh oo, _, _, _, _, _, rfl, oo, rtD_sh oo, ne_same (Q := fun b => Br b _ _) (Br.f (next3 _ _ ⟨(o11.go hp10).pool, fun d m => hr d (List.mem_cons_of_mem _ m), _, _, _, _, _, rfl⟩))⟩⟩
        · exact ⟨g9.pool, all_cons ⟨_, _, _, rfl, ob, oe, oy⟩ <| all_cons ⟨_, _, _, rfl, wa, oe, oy⟩ <| all_cons ⟨_, _, _, rfl, wa, wb, oy⟩ <| all_cons ⟨_, _, _, rfl, wa, wb, wu⟩ all_nil, _, _, _, _, _, rfl⟩
      · rintro y rest2 ds M4 ⟨hp4, hr, c4', rfl⟩ next2
        obtain ⟨bp, rfl⟩ := hr y List.mem_cons_self
        refine ⟨_, _, _, rfl, oa, ou, fun M5 o5 => ⟨ltD_sh oa ou, _, _, rfl, oa, ou, ltD_sh oa ou, ne_same (Q := fun b => Br b _ _) (Br.f (next2 _ _ ⟨(o5.go hp4).pool, fun d m => hr d (List.mem_cons_of_mem _ m), _, rfl⟩))⟩⟩
      · exact ⟨g3.pool, all_cons ⟨_, rfl⟩ <| all_cons ⟨_, rfl⟩ all_nil, _, rfl⟩
    · exact ⟨hp, _, _, _, _, _, _, _, _, _, _, _, _, _, _, rfl⟩
def sp_law : DSp := fun ds M Q _ => ∃ ns, ds = [.scr ns] ∧ ns.length ≤ 63 ∧ ∀ M', Q (.bl true) M'
theorem range_all {n : Nat} : ∀ d ∈ rangeD 0 n, ∃ i : Int, d = .int i ∧ 0 ≤ i := fun d h => by
  obtain ⟨i, _, rfl⟩ := List.mem_map.mp h
  exact ⟨_, rfl, by omega⟩
theorem range_len {n : Nat} : (rangeD 0 n).length = n := by simp [rangeD]
theorem ok_law {f f1 f2 f3 : Addr} {fd d1 d2 d3 : FuncData} (DD : Dn K mg "law" "law" st_law ps_law f fd) (n_range : mg "range" = none) (n_len : mg "len" = none) (n_max : mg "max" = none) (n_min : mg "min" = none) (n_all : mg "all" = none) (c_law_seed : Cal P w K mg base 1 "_law_seed" f1 d1 ps_law_seed sp_seed)
    (c_law_pool : Cal P w K mg base 1 "_law_pool" f2 d2 ps_law_pool sp_pool) (c_law_right : Cal P w K mg base 5 "_law_right" f3 d3 ps_law_right sp_right) : Cal P w K mg base 6 "law" f fd ps_law sp_law := by
  refine cal_of 5 DD fs_law (fun ds M Q E h => ?_) fun cdv A outer s H E0 R F ds M Q E rm hG tk h => ?_
  · obtain ⟨ns, rfl, _⟩ := h; rfl
  · have hu := hu_room rm
    have nd := fs_law.nd
    refine ⟨_, (pds_one (pd_ret (pd_callB (call_allD rfl) rfl n_all (by rfl) (pda_cons (pd_lc (own := [("_law_spot", 1)]) rfl nd (pdi_range1 rfl n_range (pda_cons (pd_callB (call_maxD rfl) rfl n_max (by rfl) (pda_cons pd_int (pda_cons (pd_callB (call_minD rfl) rfl n_min (by rfl) (pda_cons (pd_callB call_lenD rfl n_len (by rfl) (pda_cons (pd_var 0) pda_nil)) (pda_cons pd_int pda_nil))) pda_nil))) pda_nil)) (blkOk_by (own := [("_law_spot", 1)]) (N := N_law) (sc := defScope st_law) (by decide +kernel)) (fun _ => tgok_name (by decide)) (fun _ _ _ _ _ => pg_name (i := 1) nd rfl (Or.inl rfl)) (fun _ _ _ _ _ _ => pdts_nil) (fun _ _ _ _ _ _ => (pd_cal c_law_right rm (by decide) hG takes_no (pda_cons (pd_cal c_law_pool rm (by decide) hG takes_no (pda_cons (pd_cal c_law_seed rm (by decide) hG takes_no (pda_cons (pd_var 0) (pda_cons (pd_var 1) pda_nil))) pda_nil)) pda_nil)))) pda_nil)))), ?_⟩
    obtain ⟨ns, rfl, l63, q⟩ := h
    refine ⟨⟨?_, ?_⟩, ?_⟩
    · (repeat' split) <;> omega
    · (repeat' split) <;> omega
    · refine lc_inv (fun rest acc M' => (∀ d ∈ rest, ∃ i : Int, d = .int i ∧ 0 ≤ i) ∧ (∃ k, acc = List.replicate k (.bl true)) ∧ acc.length + rest.length ≤ 100) ?_ ?_ _ _ _ ?_
      · rintro acc M' ⟨_, ⟨k, rfl⟩, _⟩
        refine ⟨List.replicate k true, by rw [List.map_replicate], ?_⟩
        rw [show (List.replicate k true).all (fun b => b) = true by simp]
        exact q M'
      · rintro x rest acc M' ⟨hr, ⟨k, rfl⟩, hl⟩ next
        obtain ⟨i, rfl, i0⟩ := hr x List.mem_cons_self
        refine Br.t ⟨_, _, rfl, i0, fun n => ⟨_, rfl, fun p M2 np g => ⟨_, rfl, g.pool, fun M3 => ⟨?_, next _ _ ⟨fun d m => hr d (List.mem_cons_of_mem _ m), ⟨k + 1, ?_⟩, ?_⟩⟩⟩⟩⟩
        · simp only [List.length_cons] at hl
          exact small_line (by omega)
        · rw [List.replicate_succ']
        · simp only [List.length_cons, List.length_append, List.length_nil] at hl ⊢
          omega
      · refine ⟨range_all, ⟨0, rfl⟩, ?_⟩
        rw [range_len]
        simp only [List.length_nil]
        (repeat' split) <;> omega
theorem rel_s {x : Str} {t : Tok} : RelV (.str x) (.str x t) := ⟨t, rfl⟩
theorem exm_of {S T : Addr} {b : Bool} (h1 : PySem.W.subIn K (.ref T) (.type "BaseException") = some true) (h2 : PySem.W.isClsIn K T = true) (h3 : PySem.W.typeIn K (.ref T) = some (.type "type")) (h4 : PySem.W.subIn K (.ref S) (.ref T) = some b) (n : (Value.ref S == Value.ref T) = true → b = true) : PySem.W.exmOne K (.ref S) (.ref T) = some b := by
  have e1 : (PySem.W.subIn K (.ref T) (.type "BaseException") == some true) = true := by rw [h1] <;> rfl
  have e2 : ((PySem.W.clsIn K T).isSome && PySem.W.typeIn K (.ref T) == some (.type "type")) = true := by
    have h2' : (PySem.W.clsIn K T).isSome = true := h2
    rw [h2', h3] <;> rfl
  unfold PySem.W.exmOne
  rw [if_pos e1]
  show (if ((PySem.W.clsIn K T).isSome && PySem.W.typeIn K (.ref T) == some (.type "type")) = true then PySem.W.subIn K (.ref S) (.ref T) else none) = some b
  rw [if_pos e2]
  exact h4


end
end Dv
-- LAW law_k04_ledgers_and_rules_refused wholedrift_k04_ledgers_and_rules_refused
namespace Dv
open PySem PySem.Spec L2
section
variable {P : Program} {w : World} {K : PySem.W.Frag} {mg : Str → Option Value} {base : Heap}
theorem exm_ofB {S T : Addr} {b : Bool} (h1 : PySem.W.subIn K (.ref T) (.type "BaseException") = some true) (h2 : PySem.W.isClsIn K T = true) (h3 : PySem.W.typeIn K (.ref T) = some (.type "type")) (h4 : PySem.W.subIn K (.ref S) (.ref T) = some b) : PySem.W.exmOne K (.ref S) (.ref T) = some b := by
  have e1 : (PySem.W.subIn K (.ref T) (.type "BaseException") == some true) = true := by rw [h1] <;> rfl
  have e2 : ((PySem.W.clsIn K T).isSome && PySem.W.typeIn K (.ref T) == some (.type "type")) = true := by
    have h2' : (PySem.W.clsIn K T).isSome = true := h2
    rw [h2', h3] <;> rfl
  unfold PySem.W.exmOne
  rw [if_pos e1]
  show (if ((PySem.W.clsIn K T).isSome && PySem.W.typeIn K (.ref T) == some (.type "type")) = true then PySem.W.subIn K (.ref S) (.ref T) else none) = some b
  rw [if_pos e2]
  exact h4
theorem all_mk {P : Program} {w : World} {K : PySem.W.Frag} {h : Heap} {mg : Str → Option Value} {fa : Addr} (X : K.In h) (G : h.Ns mainGlobals mg) (hfa : mg "law" = some (.ref fa))
    {f_is_integer : Addr} {oc_is_integer kV_is_integer dc_is_integer pm_is_integer cd_is_integer ct_is_integer : Value} {od_is_integer an_is_integer : Option Addr} {sl_is_integer : Array (Option Value)} {f_is_name : Addr} {oc_is_name kV_is_name dc_is_name pm_is_name cd_is_name ct_is_name : Value} {od_is_name an_is_name : Option Addr} {sl_is_name : Array (Option Value)} {f_is_rounding : Addr} {oc_is_rounding kV_is_rounding dc_is_rounding pm_is_rounding cd_is_rounding ct_is_rounding : Value} {od_is_rounding an_is_rounding : Option Addr} {sl_is_rounding : Array (Option Value)} {f_law_seed : Addr} {oc_law_seed kV_law_seed dc_law_seed pm_law_seed cd_law_seed ct_law_seed : Value} {od_law_seed an_law_seed : Option Addr} {sl_law_seed : Array (Option Value)} {f_law_pool : Addr} {oc_law_pool kV_law_pool dc_law_pool pm_law_pool cd_law_pool ct_law_pool : Value} {od_law_pool an_law_pool : Option Addr} {sl_law_pool : Array (Option Value)} {f_law_draw : Addr} {oc_law_draw kV_law_draw dc_law_draw pm_law_draw cd_law_draw ct_law_draw : Value} {od_law_draw an_law_draw : Option Addr} {sl_law_draw : Array (Option Value)} {f_law_pick : Addr} {oc_law_pick kV_law_pick dc_law_pick pm_law_pick cd_law_pick ct_law_pick : Value} {od_law_pick an_law_pick : Option Addr} {sl_law_pick : Array (Option Value)} {f_law_odd : Addr} {oc_law_odd kV_law_odd dc_law_odd pm_law_odd cd_law_odd ct_law_odd : Value} {od_law_odd an_law_odd : Option Addr} {sl_law_odd : Array (Option Value)} {f_law_tag : Addr} {oc_law_tag kV_law_tag dc_law_tag pm_law_tag cd_law_tag ct_law_tag : Value} {od_law_tag an_law_tag : Option Addr} {sl_law_tag : Array (Option Value)} {f_law_styles : Addr} {oc_law_styles kV_law_styles dc_law_styles pm_law_styles cd_law_styles ct_law_styles : Value} {od_law_styles an_law_styles : Option Addr} {sl_law_styles : Array (Option Value)} {f_law_number : Addr} {oc_law_number kV_law_number dc_law_number pm_law_number cd_law_number ct_law_number : Value} {od_law_number an_law_number : Option Addr} {sl_law_number : Array (Option Value)} {f_law_fee : Addr} {oc_law_fee kV_law_fee dc_law_fee pm_law_fee cd_law_fee ct_law_fee : Value} {od_law_fee an_law_fee : Option Addr} {sl_law_fee : Array (Option Value)} {f_law_string : Addr} {oc_law_string kV_law_string dc_law_string pm_law_string cd_law_string ct_law_string : Value} {od_law_string an_law_string : Option Addr} {sl_law_string : Array (Option Value)} {f_law_is_name : Addr} {oc_law_is_name kV_law_is_name dc_law_is_name pm_law_is_name cd_law_is_name ct_law_is_name : Value} {od_law_is_name an_law_is_name : Option Addr} {sl_law_is_name : Array (Option Value)} {f_law_whole : Addr} {oc_law_whole kV_law_whole dc_law_whole pm_law_whole cd_law_whole ct_law_whole : Value} {od_law_whole an_law_whole : Option Addr} {sl_law_whole : Array (Option Value)} {f_law_some_tag : Addr} {oc_law_some_tag kV_law_some_tag dc_law_some_tag pm_law_some_tag cd_law_some_tag ct_law_some_tag : Value} {od_law_some_tag an_law_some_tag : Option Addr} {sl_law_some_tag : Array (Option Value)} {f_law_some_unit : Addr} {oc_law_some_unit kV_law_some_unit dc_law_some_unit pm_law_some_unit cd_law_some_unit ct_law_some_unit : Value} {od_law_some_unit an_law_some_unit : Option Addr} {sl_law_some_unit : Array (Option Value)} {f_law_some_style : Addr} {oc_law_some_style kV_law_some_style dc_law_some_style pm_law_some_style cd_law_some_style ct_law_some_style : Value} {od_law_some_style an_law_some_style : Option Addr} {sl_law_some_style : Array (Option Value)} {f_law_some_fee : Addr} {oc_law_some_fee kV_law_some_fee dc_law_some_fee pm_law_some_fee cd_law_some_fee ct_law_some_fee : Value} {od_law_some_fee an_law_some_fee : Option Addr} {sl_law_some_fee : Array (Option Value)} {f_law_some_door : Addr} {oc_law_some_door kV_law_some_door dc_law_some_door pm_law_some_door cd_law_some_door ct_law_some_door : Value} {od_law_some_door an_law_some_door : Option Addr} {sl_law_some_door : Array (Option Value)} {f_law_ledger_told : Addr} {oc_law_ledger_told kV_law_ledger_told dc_law_ledger_told pm_law_ledger_told cd_law_ledger_told ct_law_ledger_told : Value} {od_law_ledger_told an_law_ledger_told : Option Addr} {sl_law_ledger_told : Array (Option Value)} {f_law_ledger_due : Addr} {oc_law_ledger_due kV_law_ledger_due dc_law_ledger_due pm_law_ledger_due cd_law_ledger_due ct_law_ledger_due : Value} {od_law_ledger_due an_law_ledger_due : Option Addr} {sl_law_ledger_due : Array (Option Value)} {f_law_rule_told : Addr} {oc_law_rule_told kV_law_rule_told dc_law_rule_told pm_law_rule_told cd_law_rule_told ct_law_rule_told : Value} {od_law_rule_told an_law_rule_told : Option Addr} {sl_law_rule_told : Array (Option Value)} {f_law_rule_due : Addr} {oc_law_rule_due kV_law_rule_due dc_law_rule_due pm_law_rule_due cd_law_rule_due ct_law_rule_due : Value} {od_law_rule_due an_law_rule_due : Option Addr} {sl_law_rule_due : Array (Option Value)} {f_law_right : Addr} {oc_law_right kV_law_right dc_law_right pm_law_right cd_law_right ct_law_right : Value} {od_law_right an_law_right : Option Addr} {sl_law_right : Array (Option Value)} {f_law : Addr} {oc_law kV_law dc_law pm_law cd_law ct_law : Value} {od_law an_law : Option Addr} {sl_law : Array (Option Value)} {C_InvalidName i_InvalidName N_InvalidName w0_InvalidName : Addr} {nm_InvalidName q_InvalidName : Str} {bs_InvalidName sub_InvalidName : List Value} {sn_InvalidName : List Str} {ab_InvalidName : Bool} {col_InvalidName : Option Bool} {dd_InvalidName : Option Addr} {m0_InvalidName m1_InvalidName m2_InvalidName m3_InvalidName m5_InvalidName : Option Value} {oc_InvalidName dc_InvalidName pm_InvalidName cd_InvalidName ct_InvalidName : Value} {od_InvalidName an_InvalidName : Option Addr} {sl_InvalidName : Array (Option Value)} {C_InvalidWorth i_InvalidWorth N_InvalidWorth w0_InvalidWorth : Addr} {nm_InvalidWorth q_InvalidWorth : Str} {bs_InvalidWorth sub_InvalidWorth : List Value} {sn_InvalidWorth : List Str} {ab_InvalidWorth : Bool} {col_InvalidWorth : Option Bool} {dd_InvalidWorth : Option Addr} {m0_InvalidWorth m1_InvalidWorth m2_InvalidWorth m3_InvalidWorth m5_InvalidWorth : Option Value} {oc_InvalidWorth dc_InvalidWorth pm_InvalidWorth cd_InvalidWorth ct_InvalidWorth : Value} {od_InvalidWorth an_InvalidWorth : Option Addr} {sl_InvalidWorth : Array (Option Value)} {C_InvalidRounding i_InvalidRounding N_InvalidRounding w0_InvalidRounding : Addr} {nm_InvalidRounding q_InvalidRounding : Str} {bs_InvalidRounding sub_InvalidRounding : List Value} {sn_InvalidRounding : List Str} {ab_InvalidRounding : Bool} {col_InvalidRounding : Option Bool} {dd_InvalidRounding : Option Addr} {m0_InvalidRounding m1_InvalidRounding m2_InvalidRounding m3_InvalidRounding m5_InvalidRounding : Option Value} {oc_InvalidRounding dc_InvalidRounding pm_InvalidRounding cd_InvalidRounding ct_InvalidRounding : Value} {od_InvalidRounding an_InvalidRounding : Option Addr} {sl_InvalidRounding : Array (Option Value)} {C_InvalidCharge i_InvalidCharge N_InvalidCharge w0_InvalidCharge : Addr} {nm_InvalidCharge q_InvalidCharge : Str} {bs_InvalidCharge sub_InvalidCharge : List Value} {sn_InvalidCharge : List Str} {ab_InvalidCharge : Bool} {col_InvalidCharge : Option Bool} {dd_InvalidCharge : Option Addr} {m0_InvalidCharge m1_InvalidCharge m2_InvalidCharge m3_InvalidCharge m5_InvalidCharge : Option Value} {oc_InvalidCharge dc_InvalidCharge pm_InvalidCharge cd_InvalidCharge ct_InvalidCharge : Value} {od_InvalidCharge an_InvalidCharge : Option Addr} {sl_InvalidCharge : Array (Option Value)} {C_InvalidLeast i_InvalidLeast N_InvalidLeast w0_InvalidLeast : Addr} {nm_InvalidLeast q_InvalidLeast : Str} {bs_InvalidLeast sub_InvalidLeast : List Value} {sn_InvalidLeast : List Str} {ab_InvalidLeast : Bool} {col_InvalidLeast : Option Bool} {dd_InvalidLeast : Option Addr} {m0_InvalidLeast m1_InvalidLeast m2_InvalidLeast m3_InvalidLeast m5_InvalidLeast : Option Value} {oc_InvalidLeast dc_InvalidLeast pm_InvalidLeast cd_InvalidLeast ct_InvalidLeast : Value} {od_InvalidLeast an_InvalidLeast : Option Addr} {sl_InvalidLeast : Array (Option Value)} {C_Ledger f_Ledger pd_Ledger : Addr} {oc_Ledger kV_Ledger dc_Ledger pm_Ledger cd_Ledger ct_Ledger : Value} {od_Ledger an_Ledger : Option Addr} {sl_Ledger : Array (Option Value)} {q_Ledger_name g_Ledger_name : Addr} {r_Ledger_name : List Value} {oc_Ledger_name kV_Ledger_name dc_Ledger_name pm_Ledger_name cd_Ledger_name ct_Ledger_name : Value} {od_Ledger_name an_Ledger_name : Option Addr} {sl_Ledger_name : Array (Option Value)} {q_Ledger_worth g_Ledger_worth : Addr} {r_Ledger_worth : List Value} {oc_Ledger_worth kV_Ledger_worth dc_Ledger_worth pm_Ledger_worth cd_Ledger_worth ct_Ledger_worth : Value} {od_Ledger_worth an_Ledger_worth : Option Addr} {sl_Ledger_worth : Array (Option Value)} {C_Rule f_Rule pd_Rule : Addr} {oc_Rule dc_Rule pm_Rule cd_Rule ct_Rule : Value} {od_Rule an_Rule : Option Addr} {sl_Rule : Array (Option Value)} {kd_Rule : Addr} {tk_Rule_charge : Tok} {q_Rule_source g_Rule_source : Addr} {r_Rule_source : List Value} {oc_Rule_source kV_Rule_source dc_Rule_source pm_Rule_source cd_Rule_source ct_Rule_source : Value} {od_Rule_source an_Rule_source : Option Addr} {sl_Rule_source : Array (Option Value)} {q_Rule_target g_Rule_target : Addr} {r_Rule_target : List Value} {oc_Rule_target kV_Rule_target dc_Rule_target pm_Rule_target cd_Rule_target ct_Rule_target : Value} {od_Rule_target an_Rule_target : Option Addr} {sl_Rule_target : Array (Option Value)} {q_Rule_rounding g_Rule_rounding : Addr} {r_Rule_rounding : List Value} {oc_Rule_rounding kV_Rule_rounding dc_Rule_rounding pm_Rule_rounding cd_Rule_rounding ct_Rule_rounding : Value} {od_Rule_rounding an_Rule_rounding : Option Addr} {sl_Rule_rounding : Array (Option Value)} {q_Rule_charge g_Rule_charge : Addr} {r_Rule_charge : List Value} {oc_Rule_charge kV_Rule_charge dc_Rule_charge pm_Rule_charge cd_Rule_charge ct_Rule_charge : Value} {od_Rule_charge an_Rule_charge : Option Addr} {sl_Rule_charge : Array (Option Value)} {q_Rule_least g_Rule_least : Addr} {r_Rule_least : List Value} {oc_Rule_least kV_Rule_least dc_Rule_least pm_Rule_least cd_Rule_least ct_Rule_least : Value} {od_Rule_least an_Rule_least : Option Addr} {sl_Rule_least : Array (Option Value)}
    (a_is_integer : PySem.W.nsIn K mainGlobals "is_integer" = some (some (.ref f_is_integer)))
    (l_is_integer : K.lookup f_is_integer = some ⟨oc_is_integer, od_is_integer, .func (PySem.W.fnOf "is_integer" "is_integer" (defArgs st_is_integer) (defBody st_is_integer) (defScope st_is_integer) .none kV_is_integer dc_is_integer pm_is_integer an_is_integer cd_is_integer ct_is_integer), sl_is_integer⟩)
    (c_is_integer : PySem.W.codeIn K cd_is_integer "is_integer" = true)
    (k_is_integer : PySem.W.keepIn K (.ref f_is_integer) = true)
    (a_is_name : PySem.W.nsIn K mainGlobals "is_name" = some (some (.ref f_is_name)))
    (l_is_name : K.lookup f_is_name = some ⟨oc_is_name, od_is_name, .func (PySem.W.fnOf "is_name" "is_name" (defArgs st_is_name) (defBody st_is_name) (defScope st_is_name) .none kV_is_name dc_is_name pm_is_name an_is_name cd_is_name ct_is_name), sl_is_name⟩)
    (c_is_name : PySem.W.codeIn K cd_is_name "is_name" = true)
    (k_is_name : PySem.W.keepIn K (.ref f_is_name) = true)
    (a_is_rounding : PySem.W.nsIn K mainGlobals "is_rounding" = some (some (.ref f_is_rounding)))
    (l_is_rounding : K.lookup f_is_rounding = some ⟨oc_is_rounding, od_is_rounding, .func (PySem.W.fnOf "is_rounding" "is_rounding" (defArgs st_is_rounding) (defBody st_is_rounding) (defScope st_is_rounding) .none kV_is_rounding dc_is_rounding pm_is_rounding an_is_rounding cd_is_rounding ct_is_rounding), sl_is_rounding⟩)
    (c_is_rounding : PySem.W.codeIn K cd_is_rounding "is_rounding" = true)
    (k_is_rounding : PySem.W.keepIn K (.ref f_is_rounding) = true)
    (a_law_seed : PySem.W.nsIn K mainGlobals "_law_seed" = some (some (.ref f_law_seed)))
    (l_law_seed : K.lookup f_law_seed = some ⟨oc_law_seed, od_law_seed, .func (PySem.W.fnOf "_law_seed" "_law_seed" (defArgs st_law_seed) (defBody st_law_seed) (defScope st_law_seed) .none kV_law_seed dc_law_seed pm_law_seed an_law_seed cd_law_seed ct_law_seed), sl_law_seed⟩)
    (c_law_seed : PySem.W.codeIn K cd_law_seed "_law_seed" = true)
    (k_law_seed : PySem.W.keepIn K (.ref f_law_seed) = true)
    (a_law_pool : PySem.W.nsIn K mainGlobals "_law_pool" = some (some (.ref f_law_pool)))
    (l_law_pool : K.lookup f_law_pool = some ⟨oc_law_pool, od_law_pool, .func (PySem.W.fnOf "_law_pool" "_law_pool" (defArgs st_law_pool) (defBody st_law_pool) (defScope st_law_pool) .none kV_law_pool dc_law_pool pm_law_pool an_law_pool cd_law_pool ct_law_pool), sl_law_pool⟩)
    (c_law_pool : PySem.W.codeIn K cd_law_pool "_law_pool" = true)
    (k_law_pool : PySem.W.keepIn K (.ref f_law_pool) = true)
    (a_law_draw : PySem.W.nsIn K mainGlobals "_law_draw" = some (some (.ref f_law_draw)))
    (l_law_draw : K.lookup f_law_draw = some ⟨oc_law_draw, od_law_draw, .func (PySem.W.fnOf "_law_draw" "_law_draw" (defArgs st_law_draw) (defBody st_law_draw) (defScope st_law_draw) .none kV_law_draw dc_law_draw pm_law_draw an_law_draw cd_law_draw ct_law_draw), sl_law_draw⟩)
    (c_law_draw : PySem.W.codeIn K cd_law_draw "_law_draw" = true)
    (k_law_draw : PySem.W.keepIn K (.ref f_law_draw) = true)
    (a_law_pick : PySem.W.nsIn K mainGlobals "_law_pick" = some (some (.ref f_law_pick)))
    (l_law_pick : K.lookup f_law_pick = some ⟨oc_law_pick, od_law_pick, .func (PySem.W.fnOf "_law_pick" "_law_pick" (defArgs st_law_pick) (defBody st_law_pick) (defScope st_law_pick) .none kV_law_pick dc_law_pick pm_law_pick an_law_pick cd_law_pick ct_law_pick), sl_law_pick⟩)
    (c_law_pick : PySem.W.codeIn K cd_law_pick "_law_pick" = true)
    (k_law_pick : PySem.W.keepIn K (.ref f_law_pick) = true)
    (a_law_odd : PySem.W.nsIn K mainGlobals "_law_odd" = some (some (.ref f_law_odd)))
    (l_law_odd : K.lookup f_law_odd = some ⟨oc_law_odd, od_law_odd, .func (PySem.W.fnOf "_law_odd" "_law_odd" (defArgs st_law_odd) (defBody st_law_odd) (defScope st_law_odd) .none kV_law_odd dc_law_odd pm_law_odd an_law_odd cd_law_odd ct_law_odd), sl_law_odd⟩)
    (c_law_odd : PySem.W.codeIn K cd_law_odd "_law_odd" = true)
    (k_law_odd : PySem.W.keepIn K (.ref f_law_odd) = true)
    (a_law_tag : PySem.W.nsIn K mainGlobals "_law_tag" = some (some (.ref f_law_tag)))
    (l_law_tag : K.lookup f_law_tag = some ⟨oc_law_tag, od_law_tag, .func (PySem.W.fnOf "_law_tag" "_law_tag" (defArgs st_law_tag) (defBody st_law_tag) (defScope st_law_tag) .none kV_law_tag dc_law_tag pm_law_tag an_law_tag cd_law_tag ct_law_tag), sl_law_tag⟩)
    (c_law_tag : PySem.W.codeIn K cd_law_tag "_law_tag" = true)
    (k_law_tag : PySem.W.keepIn K (.ref f_law_tag) = true)
    (a_law_styles : PySem.W.nsIn K mainGlobals "_law_styles" = some (some (.ref f_law_styles)))
    (l_law_styles : K.lookup f_law_styles = some ⟨oc_law_styles, od_law_styles, .func (PySem.W.fnOf "_law_styles" "_law_styles" (defArgs st_law_styles) (defBody st_law_styles) (defScope st_law_styles) .none kV_law_styles dc_law_styles pm_law_styles an_law_styles cd_law_styles ct_law_styles), sl_law_styles⟩)
    (c_law_styles : PySem.W.codeIn K cd_law_styles "_law_styles" = true)
    (k_law_styles : PySem.W.keepIn K (.ref f_law_styles) = true)
    (a_law_number : PySem.W.nsIn K mainGlobals "_law_number" = some (some (.ref f_law_number)))
    (l_law_number : K.lookup f_law_number = some ⟨oc_law_number, od_law_number, .func (PySem.W.fnOf "_law_number" "_law_number" (defArgs st_law_number) (defBody st_law_number) (defScope st_law_number) .none kV_law_number dc_law_number pm_law_number an_law_number cd_law_number ct_law_number), sl_law_number⟩)
    (c_law_number : PySem.W.codeIn K cd_law_number "_law_number" = true)
    (k_law_number : PySem.W.keepIn K (.ref f_law_number) = true)
    (a_law_fee : PySem.W.nsIn K mainGlobals "_law_fee" = some (some (.ref f_law_fee)))
    (l_law_fee : K.lookup f_law_fee = some ⟨oc_law_fee, od_law_fee, .func (PySem.W.fnOf "_law_fee" "_law_fee" (defArgs st_law_fee) (defBody st_law_fee) (defScope st_law_fee) .none kV_law_fee dc_law_fee pm_law_fee an_law_fee cd_law_fee ct_law_fee), sl_law_fee⟩)
    (c_law_fee : PySem.W.codeIn K cd_law_fee "_law_fee" = true)
    (k_law_fee : PySem.W.keepIn K (.ref f_law_fee) = true)
    (a_law_string : PySem.W.nsIn K mainGlobals "_law_string" = some (some (.ref f_law_string)))
    (l_law_string : K.lookup f_law_string = some ⟨oc_law_string, od_law_string, .func (PySem.W.fnOf "_law_string" "_law_string" (defArgs st_law_string) (defBody st_law_string) (defScope st_law_string) .none kV_law_string dc_law_string pm_law_string an_law_string cd_law_string ct_law_string), sl_law_string⟩)
    (c_law_string : PySem.W.codeIn K cd_law_string "_law_string" = true)
    (k_law_string : PySem.W.keepIn K (.ref f_law_string) = true)
    (a_law_is_name : PySem.W.nsIn K mainGlobals "_law_is_name" = some (some (.ref f_law_is_name)))
    (l_law_is_name : K.lookup f_law_is_name = some ⟨oc_law_is_name, od_law_is_name, .func (PySem.W.fnOf "_law_is_name" "_law_is_name" (defArgs st_law_is_name) (defBody st_law_is_name) (defScope st_law_is_name) .none kV_law_is_name dc_law_is_name pm_law_is_name an_law_is_name cd_law_is_name ct_law_is_name), sl_law_is_name⟩)
    (c_law_is_name : PySem.W.codeIn K cd_law_is_name "_law_is_name" = true)
    (k_law_is_name : PySem.W.keepIn K (.ref f_law_is_name) = true)
    (a_law_whole : PySem.W.nsIn K mainGlobals "_law_whole" = some (some (.ref f_law_whole)))
    (l_law_whole : K.lookup f_law_whole = some ⟨oc_law_whole, od_law_whole, .func (PySem.W.fnOf "_law_whole" "_law_whole" (defArgs st_law_whole) (defBody st_law_whole) (defScope st_law_whole) .none kV_law_whole dc_law_whole pm_law_whole an_law_whole cd_law_whole ct_law_whole), sl_law_whole⟩)
    (c_law_whole : PySem.W.codeIn K cd_law_whole "_law_whole" = true)
    (k_law_whole : PySem.W.keepIn K (.ref f_law_whole) = true)
    (a_law_some_tag : PySem.W.nsIn K mainGlobals "_law_some_tag" = some (some (.ref f_law_some_tag)))
    (l_law_some_tag : K.lookup f_law_some_tag = some ⟨oc_law_some_tag, od_law_some_tag, .func (PySem.W.fnOf "_law_some_tag" "_law_some_tag" (defArgs st_law_some_tag) (defBody st_law_some_tag) (defScope st_law_some_tag) .none kV_law_some_tag dc_law_some_tag pm_law_some_tag an_law_some_tag cd_law_some_tag ct_law_some_tag), sl_law_some_tag⟩)
    (c_law_some_tag : PySem.W.codeIn K cd_law_some_tag "_law_some_tag" = true)
    (k_law_some_tag : PySem.W.keepIn K (.ref f_law_some_tag) = true)
    (a_law_some_unit : PySem.W.nsIn K mainGlobals "_law_some_unit" = some (some (.ref f_law_some_unit)))
    (l_law_some_unit : K.lookup f_law_some_unit = some ⟨oc_law_some_unit, od_law_some_unit, .func (PySem.W.fnOf "_law_some_unit" "_law_some_unit" (defArgs st_law_some_unit) (defBody st_law_some_unit) (defScope st_law_some_unit) .none kV_law_some_unit dc_law_some_unit pm_law_some_unit an_law_some_unit cd_law_some_unit ct_law_some_unit), sl_law_some_unit⟩)
    (c_law_some_unit : PySem.W.codeIn K cd_law_some_unit "_law_some_unit" = true)
    (k_law_some_unit : PySem.W.keepIn K (.ref f_law_some_unit) = true)
    (a_law_some_style : PySem.W.nsIn K mainGlobals "_law_some_style" = some (some (.ref f_law_some_style)))
    (l_law_some_style : K.lookup f_law_some_style = some ⟨oc_law_some_style, od_law_some_style, .func (PySem.W.fnOf "_law_some_style" "_law_some_style" (defArgs st_law_some_style) (defBody st_law_some_style) (defScope st_law_some_style) .none kV_law_some_style dc_law_some_style pm_law_some_style an_law_some_style cd_law_some_style ct_law_some_style), sl_law_some_style⟩)
    (c_law_some_style : PySem.W.codeIn K cd_law_some_style "_law_some_style" = true)
    (k_law_some_style : PySem.W.keepIn K (.ref f_law_some_style) = true)
    (a_law_some_fee : PySem.W.nsIn K mainGlobals "_law_some_fee" = some (some (.ref f_law_some_fee)))
    (l_law_some_fee : K.lookup f_law_some_fee = some ⟨oc_law_some_fee, od_law_some_fee, .func (PySem.W.fnOf "_law_some_fee" "_law_some_fee" (defArgs st_law_some_fee) (defBody st_law_some_fee) (defScope st_law_some_fee) .none kV_law_some_fee dc_law_some_fee pm_law_some_fee an_law_some_fee cd_law_some_fee ct_law_some_fee), sl_law_some_fee⟩)
    (c_law_some_fee : PySem.W.codeIn K cd_law_some_fee "_law_some_fee" = true)
    (k_law_some_fee : PySem.W.keepIn K (.ref f_law_some_fee) = true)
    (a_law_some_door : PySem.W.nsIn K mainGlobals "_law_some_door" = some (some (.ref f_law_some_door)))
    (l_law_some_door : K.lookup f_law_some_door = some ⟨oc_law_some_door, od_law_some_door, .func (PySem.W.fnOf "_law_some_door" "_law_some_door" (defArgs st_law_some_door) (defBody st_law_some_door) (defScope st_law_some_door) .none kV_law_some_door dc_law_some_door pm_law_some_door an_law_some_door cd_law_some_door ct_law_some_door), sl_law_some_door⟩)
    (c_law_some_door : PySem.W.codeIn K cd_law_some_door "_law_some_door" = true)
    (k_law_some_door : PySem.W.keepIn K (.ref f_law_some_door) = true)
    (a_law_ledger_told : PySem.W.nsIn K mainGlobals "_law_ledger_told" = some (some (.ref f_law_ledger_told)))
    (l_law_ledger_told : K.lookup f_law_ledger_told = some ⟨oc_law_ledger_told, od_law_ledger_told, .func (PySem.W.fnOf "_law_ledger_told" "_law_ledger_told" (defArgs st_law_ledger_told) (defBody st_law_ledger_told) (defScope st_law_ledger_told) .none kV_law_ledger_told dc_law_ledger_told pm_law_ledger_told an_law_ledger_told cd_law_ledger_told ct_law_ledger_told), sl_law_ledger_told⟩)
    (c_law_ledger_told : PySem.W.codeIn K cd_law_ledger_told "_law_ledger_told" = true)
    (k_law_ledger_told : PySem.W.keepIn K (.ref f_law_ledger_told) = true)
    (a_law_ledger_due : PySem.W.nsIn K mainGlobals "_law_ledger_due" = some (some (.ref f_law_ledger_due)))
    (l_law_ledger_due : K.lookup f_law_ledger_due = some ⟨oc_law_ledger_due, od_law_ledger_due, .func (PySem.W.fnOf "_law_ledger_due" "_law_ledger_due" (defArgs st_law_ledger_due) (defBody st_law_ledger_due) (defScope st_law_ledger_due) .none kV_law_ledger_due dc_law_ledger_due pm_law_ledger_due an_law_ledger_due cd_law_ledger_due ct_law_ledger_due), sl_law_ledger_due⟩)
    (c_law_ledger_due : PySem.W.codeIn K cd_law_ledger_due "_law_ledger_due" = true)
    (k_law_ledger_due : PySem.W.keepIn K (.ref f_law_ledger_due) = true)
    (a_law_rule_told : PySem.W.nsIn K mainGlobals "_law_rule_told" = some (some (.ref f_law_rule_told)))
    (l_law_rule_told : K.lookup f_law_rule_told = some ⟨oc_law_rule_told, od_law_rule_told, .func (PySem.W.fnOf "_law_rule_told" "_law_rule_told" (defArgs st_law_rule_told) (defBody st_law_rule_told) (defScope st_law_rule_told) .none kV_law_rule_told dc_law_rule_told pm_law_rule_told an_law_rule_told cd_law_rule_told ct_law_rule_told), sl_law_rule_told⟩)
    (c_law_rule_told : PySem.W.codeIn K cd_law_rule_told "_law_rule_told" = true)
    (k_law_rule_told : PySem.W.keepIn K (.ref f_law_rule_told) = true)
    (a_law_rule_due : PySem.W.nsIn K mainGlobals "_law_rule_due" = some (some (.ref f_law_rule_due)))
    (l_law_rule_due : K.lookup f_law_rule_due = some ⟨oc_law_rule_due, od_law_rule_due, .func (PySem.W.fnOf "_law_rule_due" "_law_rule_due" (defArgs st_law_rule_due) (defBody st_law_rule_due) (defScope st_law_rule_due) .none kV_law_rule_due dc_law_rule_due pm_law_rule_due an_law_rule_due cd_law_rule_due ct_law_rule_due), sl_law_rule_due⟩)
    (c_law_rule_due : PySem.W.codeIn K cd_law_rule_due "_law_rule_due" = true)
    (k_law_rule_due : PySem.W.keepIn K (.ref f_law_rule_due) = true)
    (a_law_right : PySem.W.nsIn K mainGlobals "_law_right" = some (some (.ref f_law_right)))
    (l_law_right : K.lookup f_law_right = some ⟨oc_law_right, od_law_right, .func (PySem.W.fnOf "_law_right" "_law_right" (defArgs st_law_right) (defBody st_law_right) (defScope st_law_right) .none kV_law_right dc_law_right pm_law_right an_law_right cd_law_right ct_law_right), sl_law_right⟩)
    (c_law_right : PySem.W.codeIn K cd_law_right "_law_right" = true)
    (k_law_right : PySem.W.keepIn K (.ref f_law_right) = true)
    (a_law : PySem.W.nsIn K mainGlobals "law" = some (some (.ref f_law)))
    (l_law : K.lookup f_law = some ⟨oc_law, od_law, .func (PySem.W.fnOf "law" "law" (defArgs st_law) (defBody st_law) (defScope st_law) .none kV_law dc_law pm_law an_law cd_law ct_law), sl_law⟩)
    (c_law : PySem.W.codeIn K cd_law "law" = true)
    (k_law : PySem.W.keepIn K (.ref f_law) = true)
    (b_len : PySem.W.nsIn K mainGlobals "len" = some none)
    (b_int : PySem.W.nsIn K mainGlobals "int" = some none)
    (b_abs : PySem.W.nsIn K mainGlobals "abs" = some none)
    (b_divmod : PySem.W.nsIn K mainGlobals "divmod" = some none)
    (b_str : PySem.W.nsIn K mainGlobals "str" = some none)
    (b_isinstance : PySem.W.nsIn K mainGlobals "isinstance" = some none)
    (b_bool : PySem.W.nsIn K mainGlobals "bool" = some none)
    (b_range : PySem.W.nsIn K mainGlobals "range" = some none)
    (b_max : PySem.W.nsIn K mainGlobals "max" = some none)
    (b_min : PySem.W.nsIn K mainGlobals "min" = some none)
    (b_all : PySem.W.nsIn K mainGlobals "all" = some none)
    (b_repr : PySem.W.nsIn K mainGlobals "repr" = some none)
    (a_InvalidName : PySem.W.nsIn K mainGlobals "InvalidName" = some (some (.ref C_InvalidName)))
    (x_InvalidName : K.lookup C_InvalidName = some (excClassObj nm_InvalidName q_InvalidName C_InvalidName N_InvalidName bs_InvalidName (.ref w0_InvalidName :: [.type "ValueError", .type "Exception", .type "BaseException", .type "object"]) true sn_InvalidName sub_InvalidName ab_InvalidName col_InvalidName dd_InvalidName m0_InvalidName m1_InvalidName m2_InvalidName m3_InvalidName m5_InvalidName "ValueError.__new__"))
    (sa_InvalidName : PySem.W.findIn K (.ref C_InvalidName) "__setattr__" = some (some (.builtin "object.__setattr__")))
    (ga_InvalidName : PySem.W.findIn K (.ref C_InvalidName) "__getattribute__" = some (some (.builtin "BaseException.__getattribute__")))
    (gg_InvalidName : PySem.W.findIn K (.ref C_InvalidName) "__getattr__" = some none)
    (nf_InvalidName : PySem.W.findIn K (.ref C_InvalidName) "given" = some none)
    (ii_InvalidName : PySem.W.findIn K (.ref C_InvalidName) "__init__" = some (some (.ref i_InvalidName)))
    (ti_InvalidName : PySem.W.typeIn K (.ref i_InvalidName) = some (.type "function"))
    (l_InvalidName : K.lookup i_InvalidName = some ⟨oc_InvalidName, od_InvalidName, .func (PySem.W.fnOf "__init__" "InvalidName.__init__" (defArgs (inClass (top 2) 0)) (defBody (inClass (top 2) 0)) (defScope (inClass (top 2) 0)) .none .none dc_InvalidName pm_InvalidName an_InvalidName cd_InvalidName ct_InvalidName), sl_InvalidName⟩)
    (c_InvalidName : PySem.W.codeIn K cd_InvalidName "InvalidName.__init__" = true)
    (k_InvalidName : PySem.W.keepIn K (.ref C_InvalidName) = true)
    (e_InvalidName : PySem.W.subIn K (.ref C_InvalidName) (.type "BaseException") = some true)
    (t_InvalidName : PySem.W.typeIn K (.ref C_InvalidName) = some (.type "type"))
    (h_InvalidName : PySem.W.hasDictIn K C_InvalidName = true)
    (y_InvalidName : PySem.W.isClsIn K C_InvalidName = true)
    (a_InvalidWorth : PySem.W.nsIn K mainGlobals "InvalidWorth" = some (some (.ref C_InvalidWorth)))
    (x_InvalidWorth : K.lookup C_InvalidWorth = some (excClassObj nm_InvalidWorth q_InvalidWorth C_InvalidWorth N_InvalidWorth bs_InvalidWorth (.ref w0_InvalidWorth :: [.type "ValueError", .type "Exception", .type "BaseException", .type "object"]) true sn_InvalidWorth sub_InvalidWorth ab_InvalidWorth col_InvalidWorth dd_InvalidWorth m0_InvalidWorth m1_InvalidWorth m2_InvalidWorth m3_InvalidWorth m5_InvalidWorth "ValueError.__new__"))
    (sa_InvalidWorth : PySem.W.findIn K (.ref C_InvalidWorth) "__setattr__" = some (some (.builtin "object.__setattr__")))
    (ga_InvalidWorth : PySem.W.findIn K (.ref C_InvalidWorth) "__getattribute__" = some (some (.builtin "BaseException.__getattribute__")))
    (gg_InvalidWorth : PySem.W.findIn K (.ref C_InvalidWorth) "__getattr__" = some none)
    (nf_InvalidWorth : PySem.W.findIn K (.ref C_InvalidWorth) "given" = some none)
    (ii_InvalidWorth : PySem.W.findIn K (.ref C_InvalidWorth) "__init__" = some (some (.ref i_InvalidWorth)))
    (ti_InvalidWorth : PySem.W.typeIn K (.ref i_InvalidWorth) = some (.type "function"))
    (l_InvalidWorth : K.lookup i_InvalidWorth = some ⟨oc_InvalidWorth, od_InvalidWorth, .func (PySem.W.fnOf "__init__" "InvalidWorth.__init__" (defArgs (inClass (top 3) 0)) (defBody (inClass (top 3) 0)) (defScope (inClass (top 3) 0)) .none .none dc_InvalidWorth pm_InvalidWorth an_InvalidWorth cd_InvalidWorth ct_InvalidWorth), sl_InvalidWorth⟩)
    (c_InvalidWorth : PySem.W.codeIn K cd_InvalidWorth "InvalidWorth.__init__" = true)
    (k_InvalidWorth : PySem.W.keepIn K (.ref C_InvalidWorth) = true)
    (e_InvalidWorth : PySem.W.subIn K (.ref C_InvalidWorth) (.type "BaseException") = some true)
    (t_InvalidWorth : PySem.W.typeIn K (.ref C_InvalidWorth) = some (.type "type"))
    (h_InvalidWorth : PySem.W.hasDictIn K C_InvalidWorth = true)
    (y_InvalidWorth : PySem.W.isClsIn K C_InvalidWorth = true)
    (a_InvalidRounding : PySem.W.nsIn K mainGlobals "InvalidRounding" = some (some (.ref C_InvalidRounding)))
    (x_InvalidRounding : K.lookup C_InvalidRounding = some (excClassObj nm_InvalidRounding q_InvalidRounding C_InvalidRounding N_InvalidRounding bs_InvalidRounding (.ref w0_InvalidRounding :: [.type "ValueError", .type "Exception", .type "BaseException", .type "object"]) true sn_InvalidRounding sub_InvalidRounding ab_InvalidRounding col_InvalidRounding dd_InvalidRounding m0_InvalidRounding m1_InvalidRounding m2_InvalidRounding m3_InvalidRounding m5_InvalidRounding "ValueError.__new__"))
    (sa_InvalidRounding : PySem.W.findIn K (.ref C_InvalidRounding) "__setattr__" = some (some (.builtin "object.__setattr__")))
    (ga_InvalidRounding : PySem.W.findIn K (.ref C_InvalidRounding) "__getattribute__" = some (some (.builtin "BaseException.__getattribute__")))
    (gg_InvalidRounding : PySem.W.findIn K (.ref C_InvalidRounding) "__getattr__" = some none)
    (nf_InvalidRounding : PySem.W.findIn K (.ref C_InvalidRounding) "given" = some none)
    (ii_InvalidRounding : PySem.W.findIn K (.ref C_InvalidRounding) "__init__" = some (some (.ref i_InvalidRounding)))
    (ti_InvalidRounding : PySem.W.typeIn K (.ref i_InvalidRounding) = some (.type "function"))
    (l_InvalidRounding : K.lookup i_InvalidRounding = some ⟨oc_InvalidRounding, od_InvalidRounding, .func (PySem.W.fnOf "__init__" "InvalidRounding.__init__" (defArgs (inClass (top 4) 0)) (defBody (inClass (top 4) 0)) (defScope (inClass (top 4) 0)) .none .none dc_InvalidRounding pm_InvalidRounding an_InvalidRounding cd_InvalidRounding ct_InvalidRounding), sl_InvalidRounding⟩)
    (c_InvalidRounding : PySem.W.codeIn K cd_InvalidRounding "InvalidRounding.__init__" = true)
    (k_InvalidRounding : PySem.W.keepIn K (.ref C_InvalidRounding) = true)
    (e_InvalidRounding : PySem.W.subIn K (.ref C_InvalidRounding) (.type "BaseException") = some true)
    (t_InvalidRounding : PySem.W.typeIn K (.ref C_InvalidRounding) = some (.type "type"))
    (h_InvalidRounding : PySem.W.hasDictIn K C_InvalidRounding = true)
    (y_InvalidRounding : PySem.W.isClsIn K C_InvalidRounding = true)
    (a_InvalidCharge : PySem.W.nsIn K mainGlobals "InvalidCharge" = some (some (.ref C_InvalidCharge)))
    (x_InvalidCharge : K.lookup C_InvalidCharge = some (excClassObj nm_InvalidCharge q_InvalidCharge C_InvalidCharge N_InvalidCharge bs_InvalidCharge (.ref w0_InvalidCharge :: [.type "ValueError", .type "Exception", .type "BaseException", .type "object"]) true sn_InvalidCharge sub_InvalidCharge ab_InvalidCharge col_InvalidCharge dd_InvalidCharge m0_InvalidCharge m1_InvalidCharge m2_InvalidCharge m3_InvalidCharge m5_InvalidCharge "ValueError.__new__"))
    (sa_InvalidCharge : PySem.W.findIn K (.ref C_InvalidCharge) "__setattr__" = some (some (.builtin "object.__setattr__")))
    (ga_InvalidCharge : PySem.W.findIn K (.ref C_InvalidCharge) "__getattribute__" = some (some (.builtin "BaseException.__getattribute__")))
    (gg_InvalidCharge : PySem.W.findIn K (.ref C_InvalidCharge) "__getattr__" = some none)
    (nf_InvalidCharge : PySem.W.findIn K (.ref C_InvalidCharge) "given" = some none)
    (ii_InvalidCharge : PySem.W.findIn K (.ref C_InvalidCharge) "__init__" = some (some (.ref i_InvalidCharge)))
    (ti_InvalidCharge : PySem.W.typeIn K (.ref i_InvalidCharge) = some (.type "function"))
    (l_InvalidCharge : K.lookup i_InvalidCharge = some ⟨oc_InvalidCharge, od_InvalidCharge, .func (PySem.W.fnOf "__init__" "InvalidCharge.__init__" (defArgs (inClass (top 5) 0)) (defBody (inClass (top 5) 0)) (defScope (inClass (top 5) 0)) .none .none dc_InvalidCharge pm_InvalidCharge an_InvalidCharge cd_InvalidCharge ct_InvalidCharge), sl_InvalidCharge⟩)
    (c_InvalidCharge : PySem.W.codeIn K cd_InvalidCharge "InvalidCharge.__init__" = true)
    (k_InvalidCharge : PySem.W.keepIn K (.ref C_InvalidCharge) = true)
    (e_InvalidCharge : PySem.W.subIn K (.ref C_InvalidCharge) (.type "BaseException") = some true)
    (t_InvalidCharge : PySem.W.typeIn K (.ref C_InvalidCharge) = some (.type "type"))
    (h_InvalidCharge : PySem.W.hasDictIn K C_InvalidCharge = true)
    (y_InvalidCharge : PySem.W.isClsIn K C_InvalidCharge = true)
    (a_InvalidLeast : PySem.W.nsIn K mainGlobals "InvalidLeast" = some (some (.ref C_InvalidLeast)))
    (x_InvalidLeast : K.lookup C_InvalidLeast = some (excClassObj nm_InvalidLeast q_InvalidLeast C_InvalidLeast N_InvalidLeast bs_InvalidLeast (.ref w0_InvalidLeast :: [.type "ValueError", .type "Exception", .type "BaseException", .type "object"]) true sn_InvalidLeast sub_InvalidLeast ab_InvalidLeast col_InvalidLeast dd_InvalidLeast m0_InvalidLeast m1_InvalidLeast m2_InvalidLeast m3_InvalidLeast m5_InvalidLeast "ValueError.__new__"))
    (sa_InvalidLeast : PySem.W.findIn K (.ref C_InvalidLeast) "__setattr__" = some (some (.builtin "object.__setattr__")))
    (ga_InvalidLeast : PySem.W.findIn K (.ref C_InvalidLeast) "__getattribute__" = some (some (.builtin "BaseException.__getattribute__")))
    (gg_InvalidLeast : PySem.W.findIn K (.ref C_InvalidLeast) "__getattr__" = some none)
    (nf_InvalidLeast : PySem.W.findIn K (.ref C_InvalidLeast) "given" = some none)
    (ii_InvalidLeast : PySem.W.findIn K (.ref C_InvalidLeast) "__init__" = some (some (.ref i_InvalidLeast)))
    (ti_InvalidLeast : PySem.W.typeIn K (.ref i_InvalidLeast) = some (.type "function"))
    (l_InvalidLeast : K.lookup i_InvalidLeast = some ⟨oc_InvalidLeast, od_InvalidLeast, .func (PySem.W.fnOf "__init__" "InvalidLeast.__init__" (defArgs (inClass (top 6) 0)) (defBody (inClass (top 6) 0)) (defScope (inClass (top 6) 0)) .none .none dc_InvalidLeast pm_InvalidLeast an_InvalidLeast cd_InvalidLeast ct_InvalidLeast), sl_InvalidLeast⟩)
    (c_InvalidLeast : PySem.W.codeIn K cd_InvalidLeast "InvalidLeast.__init__" = true)
    (k_InvalidLeast : PySem.W.keepIn K (.ref C_InvalidLeast) = true)
    (e_InvalidLeast : PySem.W.subIn K (.ref C_InvalidLeast) (.type "BaseException") = some true)
    (t_InvalidLeast : PySem.W.typeIn K (.ref C_InvalidLeast) = some (.type "type"))
    (h_InvalidLeast : PySem.W.hasDictIn K C_InvalidLeast = true)
    (y_InvalidLeast : PySem.W.isClsIn K C_InvalidLeast = true)
    (a_Ledger : PySem.W.nsIn K mainGlobals "Ledger" = some (some (.ref C_Ledger)))
    (mm_Ledger : PySem.W.makesIn K C_Ledger = true)
    (ii_Ledger : PySem.W.findIn K (.ref C_Ledger) "__init__" = some (some (.ref f_Ledger)))
    (if_Ledger : PySem.W.isFn K (.ref f_Ledger) = true)
    (kk_Ledger : PySem.W.keepIn K (.ref C_Ledger) = true)
    (l_Ledger : K.lookup f_Ledger = some ⟨oc_Ledger, od_Ledger, .func (PySem.W.fnOf "__init__" "Ledger.__init__" (defArgs st_Ledger___init) (defBody st_Ledger___init) (defScope st_Ledger___init) .none kV_Ledger dc_Ledger pm_Ledger an_Ledger cd_Ledger ct_Ledger), sl_Ledger⟩)
    (c_Ledger : PySem.W.codeIn K cd_Ledger "Ledger.__init__" = true)
    (k_Ledger : PySem.W.keepIn K (.ref f_Ledger) = true)
    (pg_Ledger : PySem.W.plainGet K C_Ledger Str.empty = true)
    (ic_Ledger : PySem.W.isClsIn K C_Ledger = true)
    (po_Ledger : PySem.W.plainOver K C_Ledger = true)
    (sa_Ledger : PySem.W.findIn K (.ref C_Ledger) "__setattr__" = some (some (.builtin "object.__setattr__")))
    (at_Ledger : PySem.W.findIn K (.ref C_Ledger) "parts" = some (some (.ref pd_Ledger)))
    (gt_Ledger : PySem.W.specialIn K (.ref pd_Ledger) "__get__" = some (some (.builtin "member_descriptor.__get__")))
    (tk_Ledger : PySem.W.takesIn K (.ref pd_Ledger) = some true)
    (ty_Ledger : PySem.W.typeIn K (.ref pd_Ledger) = some (.type "member_descriptor"))
    (ix_Ledger : PySem.W.slotIn K pd_Ledger C_Ledger = some 0)
    (qa_Ledger_name : PySem.W.findIn K (.ref C_Ledger) "name" = some (some (.ref q_Ledger_name)))
    (qg_Ledger_name : PySem.W.specialIn K (.ref q_Ledger_name) "__get__" = some (some (.builtin "property.__get__")))
    (qt_Ledger_name : PySem.W.takesIn K (.ref q_Ledger_name) = some true)
    (qr_Ledger_name : PySem.W.recIn K q_Ledger_name "property" = some (.ref g_Ledger_name :: r_Ledger_name))
    (l_Ledger_name : K.lookup g_Ledger_name = some ⟨oc_Ledger_name, od_Ledger_name, .func (PySem.W.fnOf "name" "Ledger.name" (defArgs st_Ledger_name) (defBody st_Ledger_name) (defScope st_Ledger_name) .none kV_Ledger_name dc_Ledger_name pm_Ledger_name an_Ledger_name cd_Ledger_name ct_Ledger_name), sl_Ledger_name⟩)
    (c_Ledger_name : PySem.W.codeIn K cd_Ledger_name "Ledger.name" = true)
    (k_Ledger_name : PySem.W.keepIn K (.ref g_Ledger_name) = true)
    (qa_Ledger_worth : PySem.W.findIn K (.ref C_Ledger) "worth" = some (some (.ref q_Ledger_worth)))
    (qg_Ledger_worth : PySem.W.specialIn K (.ref q_Ledger_worth) "__get__" = some (some (.builtin "property.__get__")))
    (qt_Ledger_worth : PySem.W.takesIn K (.ref q_Ledger_worth) = some true)
    (qr_Ledger_worth : PySem.W.recIn K q_Ledger_worth "property" = some (.ref g_Ledger_worth :: r_Ledger_worth))
    (l_Ledger_worth : K.lookup g_Ledger_worth = some ⟨oc_Ledger_worth, od_Ledger_worth, .func (PySem.W.fnOf "worth" "Ledger.worth" (defArgs st_Ledger_worth) (defBody st_Ledger_worth) (defScope st_Ledger_worth) .none kV_Ledger_worth dc_Ledger_worth pm_Ledger_worth an_Ledger_worth cd_Ledger_worth ct_Ledger_worth), sl_Ledger_worth⟩)
    (c_Ledger_worth : PySem.W.codeIn K cd_Ledger_worth "Ledger.worth" = true)
    (k_Ledger_worth : PySem.W.keepIn K (.ref g_Ledger_worth) = true)
    (a_Rule : PySem.W.nsIn K mainGlobals "Rule" = some (some (.ref C_Rule)))
    (mm_Rule : PySem.W.makesIn K C_Rule = true)
    (ii_Rule : PySem.W.findIn K (.ref C_Rule) "__init__" = some (some (.ref f_Rule)))
    (if_Rule : PySem.W.isFn K (.ref f_Rule) = true)
    (kk_Rule : PySem.W.keepIn K (.ref C_Rule) = true)
    (l_Rule : K.lookup f_Rule = some ⟨oc_Rule, od_Rule, .func (PySem.W.fnOf "__init__" "Rule.__init__" (defArgs st_Rule___init) (defBody st_Rule___init) (defScope st_Rule___init) .none (.ref kd_Rule) dc_Rule pm_Rule an_Rule cd_Rule ct_Rule), sl_Rule⟩)
    (c_Rule : PySem.W.codeIn K cd_Rule "Rule.__init__" = true)
    (k_Rule : PySem.W.keepIn K (.ref f_Rule) = true)
    (kw_Rule_charge : PySem.W.nsIn K kd_Rule "charge" = some (some (.int 0 tk_Rule_charge)))
    (kw_Rule_least : PySem.W.nsIn K kd_Rule "least" = some (some .none))
    (pg_Rule : PySem.W.plainGet K C_Rule Str.empty = true)
    (ic_Rule : PySem.W.isClsIn K C_Rule = true)
    (po_Rule : PySem.W.plainOver K C_Rule = true)
    (sa_Rule : PySem.W.findIn K (.ref C_Rule) "__setattr__" = some (some (.builtin "object.__setattr__")))
    (at_Rule : PySem.W.findIn K (.ref C_Rule) "parts" = some (some (.ref pd_Rule)))
    (gt_Rule : PySem.W.specialIn K (.ref pd_Rule) "__get__" = some (some (.builtin "member_descriptor.__get__")))
    (tk_Rule : PySem.W.takesIn K (.ref pd_Rule) = some true)
    (ty_Rule : PySem.W.typeIn K (.ref pd_Rule) = some (.type "member_descriptor"))
    (ix_Rule : PySem.W.slotIn K pd_Rule C_Rule = some 0)
    (qa_Rule_source : PySem.W.findIn K (.ref C_Rule) "source" = some (some (.ref q_Rule_source)))
    (qg_Rule_source : PySem.W.specialIn K (.ref q_Rule_source) "__get__" = some (some (.builtin "property.__get__")))
    (qt_Rule_source : PySem.W.takesIn K (.ref q_Rule_source) = some true)
    (qr_Rule_source : PySem.W.recIn K q_Rule_source "property" = some (.ref g_Rule_source :: r_Rule_source))
    (l_Rule_source : K.lookup g_Rule_source = some ⟨oc_Rule_source, od_Rule_source, .func (PySem.W.fnOf "source" "Rule.source" (defArgs st_Rule_source) (defBody st_Rule_source) (defScope st_Rule_source) .none kV_Rule_source dc_Rule_source pm_Rule_source an_Rule_source cd_Rule_source ct_Rule_source), sl_Rule_source⟩)
    (c_Rule_source : PySem.W.codeIn K cd_Rule_source "Rule.source" = true)
    (k_Rule_source : PySem.W.keepIn K (.ref g_Rule_source) = true)
    (qa_Rule_target : PySem.W.findIn K (.ref C_Rule) "target" = some (some (.ref q_Rule_target)))
    (qg_Rule_target : PySem.W.specialIn K (.ref q_Rule_target) "__get__" = some (some (.builtin "property.__get__")))
    (qt_Rule_target : PySem.W.takesIn K (.ref q_Rule_target) = some true)
    (qr_Rule_target : PySem.W.recIn K q_Rule_target "property" = some (.ref g_Rule_target :: r_Rule_target))
    (l_Rule_target : K.lookup g_Rule_target = some ⟨oc_Rule_target, od_Rule_target, .func (PySem.W.fnOf "target" "Rule.target" (defArgs st_Rule_target) (defBody st_Rule_target) (defScope st_Rule_target) .none kV_Rule_target dc_Rule_target pm_Rule_target an_Rule_target cd_Rule_target ct_Rule_target), sl_Rule_target⟩)
    (c_Rule_target : PySem.W.codeIn K cd_Rule_target "Rule.target" = true)
    (k_Rule_target : PySem.W.keepIn K (.ref g_Rule_target) = true)
    (qa_Rule_rounding : PySem.W.findIn K (.ref C_Rule) "rounding" = some (some (.ref q_Rule_rounding)))
    (qg_Rule_rounding : PySem.W.specialIn K (.ref q_Rule_rounding) "__get__" = some (some (.builtin "property.__get__")))
    (qt_Rule_rounding : PySem.W.takesIn K (.ref q_Rule_rounding) = some true)
    (qr_Rule_rounding : PySem.W.recIn K q_Rule_rounding "property" = some (.ref g_Rule_rounding :: r_Rule_rounding))
    (l_Rule_rounding : K.lookup g_Rule_rounding = some ⟨oc_Rule_rounding, od_Rule_rounding, .func (PySem.W.fnOf "rounding" "Rule.rounding" (defArgs st_Rule_rounding) (defBody st_Rule_rounding) (defScope st_Rule_rounding) .none kV_Rule_rounding dc_Rule_rounding pm_Rule_rounding an_Rule_rounding cd_Rule_rounding ct_Rule_rounding), sl_Rule_rounding⟩)
    (c_Rule_rounding : PySem.W.codeIn K cd_Rule_rounding "Rule.rounding" = true)
    (k_Rule_rounding : PySem.W.keepIn K (.ref g_Rule_rounding) = true)
    (qa_Rule_charge : PySem.W.findIn K (.ref C_Rule) "charge" = some (some (.ref q_Rule_charge)))
    (qg_Rule_charge : PySem.W.specialIn K (.ref q_Rule_charge) "__get__" = some (some (.builtin "property.__get__")))
    (qt_Rule_charge : PySem.W.takesIn K (.ref q_Rule_charge) = some true)
    (qr_Rule_charge : PySem.W.recIn K q_Rule_charge "property" = some (.ref g_Rule_charge :: r_Rule_charge))
    (l_Rule_charge : K.lookup g_Rule_charge = some ⟨oc_Rule_charge, od_Rule_charge, .func (PySem.W.fnOf "charge" "Rule.charge" (defArgs st_Rule_charge) (defBody st_Rule_charge) (defScope st_Rule_charge) .none kV_Rule_charge dc_Rule_charge pm_Rule_charge an_Rule_charge cd_Rule_charge ct_Rule_charge), sl_Rule_charge⟩)
    (c_Rule_charge : PySem.W.codeIn K cd_Rule_charge "Rule.charge" = true)
    (k_Rule_charge : PySem.W.keepIn K (.ref g_Rule_charge) = true)
    (qa_Rule_least : PySem.W.findIn K (.ref C_Rule) "least" = some (some (.ref q_Rule_least)))
    (qg_Rule_least : PySem.W.specialIn K (.ref q_Rule_least) "__get__" = some (some (.builtin "property.__get__")))
    (qt_Rule_least : PySem.W.takesIn K (.ref q_Rule_least) = some true)
    (qr_Rule_least : PySem.W.recIn K q_Rule_least "property" = some (.ref g_Rule_least :: r_Rule_least))
    (l_Rule_least : K.lookup g_Rule_least = some ⟨oc_Rule_least, od_Rule_least, .func (PySem.W.fnOf "least" "Rule.least" (defArgs st_Rule_least) (defBody st_Rule_least) (defScope st_Rule_least) .none kV_Rule_least dc_Rule_least pm_Rule_least an_Rule_least cd_Rule_least ct_Rule_least), sl_Rule_least⟩)
    (c_Rule_least : PySem.W.codeIn K cd_Rule_least "Rule.least" = true)
    (k_Rule_least : PySem.W.keepIn K (.ref g_Rule_least) = true)
    {T_R : Addr} {dd_R : Option Addr} {n_R : Nat} {t_1 t_2 t_3 t_4 t_5 t_6 t_7 t_8 : Tok} {sl_R : Array (Option Value)}
    (a_R : PySem.W.nsIn K mainGlobals "ROUNDINGS" = some (some (.ref T_R)))
    (x_R : K.lookup T_R = some ⟨.type "tuple", dd_R, .seq #[.str "down" t_1, .str "up" t_2, .str "near down" t_3, .str "near up" t_4, .str "near even" t_5] n_R, sl_R⟩)
    (v_W : PySem.W.nsIn K mainGlobals "MOST_WORTH" = some (some (.int 24 t_6)))
    (v_L : PySem.W.nsIn K mainGlobals "LETTERS" = some (some (.str "abcdefghijklmnopqrstuvwxyz" t_7)))
    (v_D : PySem.W.nsIn K mainGlobals "DIGITS" = some (some (.str "0123456789" t_8)))
    (s_00 : PySem.W.subIn K (.ref C_InvalidName) (.ref C_InvalidName) = some true)
    (s_WN : PySem.W.subIn K (.ref C_InvalidWorth) (.ref C_InvalidName) = some false)
    (s_WW : PySem.W.subIn K (.ref C_InvalidWorth) (.ref C_InvalidWorth) = some true)
    (s_10 : PySem.W.subIn K (.ref C_InvalidRounding) (.ref C_InvalidName) = some false)
    (s_11 : PySem.W.subIn K (.ref C_InvalidRounding) (.ref C_InvalidRounding) = some true)
    (s_20 : PySem.W.subIn K (.ref C_InvalidCharge) (.ref C_InvalidName) = some false)
    (s_21 : PySem.W.subIn K (.ref C_InvalidCharge) (.ref C_InvalidRounding) = some false)
    (s_22 : PySem.W.subIn K (.ref C_InvalidCharge) (.ref C_InvalidCharge) = some true)
    (s_30 : PySem.W.subIn K (.ref C_InvalidLeast) (.ref C_InvalidName) = some false)
    (s_31 : PySem.W.subIn K (.ref C_InvalidLeast) (.ref C_InvalidRounding) = some false)
    (s_32 : PySem.W.subIn K (.ref C_InvalidLeast) (.ref C_InvalidCharge) = some false)
    (s_33 : PySem.W.subIn K (.ref C_InvalidLeast) (.ref C_InvalidLeast) = some true) :
    ∃ fd : FuncData, (∀ (s : Shared) (u : Value), BindsTo s fd ⟨[u], []⟩ [("_law_script", u)]) ∧ ∀ base : Heap, K.In base → base.Ns mainGlobals mg → FnG P w K mg base 6 fa fd ["_law_script"] (upSp K sp_law) := by
  have D_is_integer : Dn K mg "is_integer" "is_integer" st_is_integer ps_is_integer f_is_integer _ := ⟨PySem.W.mg_of X G a_is_integer, funD_mk l_is_integer c_is_integer k_is_integer, (funD_mk l_is_integer c_is_integer k_is_integer).bindsN fun _ _ _ _ _ _ us hl => match us, hl with | [_], _ => rfl⟩
  have D_is_name : Dn K mg "is_name" "is_name" st_is_name ps_is_name f_is_name _ := ⟨PySem.W.mg_of X G a_is_name, funD_mk l_is_name c_is_name k_is_name, (funD_mk l_is_name c_is_name k_is_name).bindsN fun _ _ _ _ _ _ us hl => match us, hl with | [_], _ => rfl⟩
  have D_is_rounding : Dn K mg "is_rounding" "is_rounding" st_is_rounding ps_is_rounding f_is_rounding _ := ⟨PySem.W.mg_of X G a_is_rounding, funD_mk l_is_rounding c_is_rounding k_is_rounding, (funD_mk l_is_rounding c_is_rounding k_is_rounding).bindsN fun _ _ _ _ _ _ us hl => match us, hl with | [_], _ => rfl⟩
  have D_law_seed : Dn K mg "_law_seed" "_law_seed" st_law_seed ps_law_seed f_law_seed _ := ⟨PySem.W.mg_of X G a_law_seed, funD_mk l_law_seed c_law_seed k_law_seed, (funD_mk l_law_seed c_law_seed k_law_seed).bindsN fun _ _ _ _ _ _ us hl => match us, hl with | [_, _], _ => rfl⟩
  have D_law_pool : Dn K mg "_law_pool" "_law_pool" st_law_pool ps_law_pool f_law_pool _ := ⟨PySem.W.mg_of X G a_law_pool, funD_mk l_law_pool c_law_pool k_law_pool, (funD_mk l_law_pool c_law_pool k_law_pool).bindsN fun _ _ _ _ _ _ us hl => match us, hl with | [_], _ => rfl⟩
  have D_law_draw : Dn K mg "_law_draw" "_law_draw" st_law_draw ps_law_draw f_law_draw _ := ⟨PySem.W.mg_of X G a_law_draw, funD_mk l_law_draw c_law_draw k_law_draw, (funD_mk l_law_draw c_law_draw k_law_draw).bindsN fun _ _ _ _ _ _ us hl => match us, hl with | [_, _], _ => rfl⟩
  have D_law_pick : Dn K mg "_law_pick" "_law_pick" st_law_pick ps_law_pick f_law_pick _ := ⟨PySem.W.mg_of X G a_law_pick, funD_mk l_law_pick c_law_pick k_law_pick, (funD_mk l_law_pick c_law_pick k_law_pick).bindsN fun _ _ _ _ _ _ us hl => match us, hl with | [_, _], _ => rfl⟩
  have D_law_odd : Dn K mg "_law_odd" "_law_odd" st_law_odd ps_law_odd f_law_odd _ := ⟨PySem.W.mg_of X G a_law_odd, funD_mk l_law_odd c_law_odd k_law_odd, (funD_mk l_law_odd c_law_odd k_law_odd).bindsN fun _ _ _ _ _ _ us hl => match us, hl with | [_], _ => rfl⟩
  have D_law_tag : Dn K mg "_law_tag" "_law_tag" st_law_tag ps_law_tag f_law_tag _ := ⟨PySem.W.mg_of X G a_law_tag, funD_mk l_law_tag c_law_tag k_law_tag, (funD_mk l_law_tag c_law_tag k_law_tag).bindsN fun _ _ _ _ _ _ us hl => match us, hl with | [_], _ => rfl⟩
  have D_law_styles : Dn K mg "_law_styles" "_law_styles" st_law_styles ps_law_styles f_law_styles _ := ⟨PySem.W.mg_of X G a_law_styles, funD_mk l_law_styles c_law_styles k_law_styles, (funD_mk l_law_styles c_law_styles k_law_styles).bindsN fun _ _ _ _ _ _ us hl => match us, hl with | [], _ => rfl⟩
  have D_law_number : Dn K mg "_law_number" "_law_number" st_law_number ps_law_number f_law_number _ := ⟨PySem.W.mg_of X G a_law_number, funD_mk l_law_number c_law_number k_law_number, (funD_mk l_law_number c_law_number k_law_number).bindsN fun _ _ _ _ _ _ us hl => match us, hl with | [_], _ => rfl⟩
  have D_law_fee : Dn K mg "_law_fee" "_law_fee" st_law_fee ps_law_fee f_law_fee _ := ⟨PySem.W.mg_of X G a_law_fee, funD_mk l_law_fee c_law_fee k_law_fee, (funD_mk l_law_fee c_law_fee k_law_fee).bindsN fun _ _ _ _ _ _ us hl => match us, hl with | [_], _ => rfl⟩
  have D_law_string : Dn K mg "_law_string" "_law_string" st_law_string ps_law_string f_law_string _ := ⟨PySem.W.mg_of X G a_law_string, funD_mk l_law_string c_law_string k_law_string, (funD_mk l_law_string c_law_string k_law_string).bindsN fun _ _ _ _ _ _ us hl => match us, hl with | [_], _ => rfl⟩
  have D_law_is_name : Dn K mg "_law_is_name" "_law_is_name" st_law_is_name ps_law_is_name f_law_is_name _ := ⟨PySem.W.mg_of X G a_law_is_name, funD_mk l_law_is_name c_law_is_name k_law_is_name, (funD_mk l_law_is_name c_law_is_name k_law_is_name).bindsN fun _ _ _ _ _ _ us hl => match us, hl with | [_], _ => rfl⟩
  have D_law_whole : Dn K mg "_law_whole" "_law_whole" st_law_whole ps_law_whole f_law_whole _ := ⟨PySem.W.mg_of X G a_law_whole, funD_mk l_law_whole c_law_whole k_law_whole, (funD_mk l_law_whole c_law_whole k_law_whole).bindsN fun _ _ _ _ _ _ us hl => match us, hl with | [_], _ => rfl⟩
  have D_law_some_tag : Dn K mg "_law_some_tag" "_law_some_tag" st_law_some_tag ps_law_some_tag f_law_some_tag _ := ⟨PySem.W.mg_of X G a_law_some_tag, funD_mk l_law_some_tag c_law_some_tag k_law_some_tag, (funD_mk l_law_some_tag c_law_some_tag k_law_some_tag).bindsN fun _ _ _ _ _ _ us hl => match us, hl with | [_], _ => rfl⟩
  have D_law_some_unit : Dn K mg "_law_some_unit" "_law_some_unit" st_law_some_unit ps_law_some_unit f_law_some_unit _ := ⟨PySem.W.mg_of X G a_law_some_unit, funD_mk l_law_some_unit c_law_some_unit k_law_some_unit, (funD_mk l_law_some_unit c_law_some_unit k_law_some_unit).bindsN fun _ _ _ _ _ _ us hl => match us, hl with | [_], _ => rfl⟩
  have D_law_some_style : Dn K mg "_law_some_style" "_law_some_style" st_law_some_style ps_law_some_style f_law_some_style _ := ⟨PySem.W.mg_of X G a_law_some_style, funD_mk l_law_some_style c_law_some_style k_law_some_style, (funD_mk l_law_some_style c_law_some_style k_law_some_style).bindsN fun _ _ _ _ _ _ us hl => match us, hl with | [_], _ => rfl⟩
  have D_law_some_fee : Dn K mg "_law_some_fee" "_law_some_fee" st_law_some_fee ps_law_some_fee f_law_some_fee _ := ⟨PySem.W.mg_of X G a_law_some_fee, funD_mk l_law_some_fee c_law_some_fee k_law_some_fee, (funD_mk l_law_some_fee c_law_some_fee k_law_some_fee).bindsN fun _ _ _ _ _ _ us hl => match us, hl with | [_], _ => rfl⟩
  have D_law_some_door : Dn K mg "_law_some_door" "_law_some_door" st_law_some_door ps_law_some_door f_law_some_door _ := ⟨PySem.W.mg_of X G a_law_some_door, funD_mk l_law_some_door c_law_some_door k_law_some_door, (funD_mk l_law_some_door c_law_some_door k_law_some_door).bindsN fun _ _ _ _ _ _ us hl => match us, hl with | [_], _ => rfl⟩
  have D_law_ledger_told : Dn K mg "_law_ledger_told" "_law_ledger_told" st_law_ledger_told ps_law_ledger_told f_law_ledger_told _ := ⟨PySem.W.mg_of X G a_law_ledger_told, funD_mk l_law_ledger_told c_law_ledger_told k_law_ledger_told, (funD_mk l_law_ledger_told c_law_ledger_told k_law_ledger_told).bindsN fun _ _ _ _ _ _ us hl => match us, hl with | [_, _, _], _ => rfl⟩
  have D_law_ledger_due : Dn K mg "_law_ledger_due" "_law_ledger_due" st_law_ledger_due ps_law_ledger_due f_law_ledger_due _ := ⟨PySem.W.mg_of X G a_law_ledger_due, funD_mk l_law_ledger_due c_law_ledger_due k_law_ledger_due, (funD_mk l_law_ledger_due c_law_ledger_due k_law_ledger_due).bindsN fun _ _ _ _ _ _ us hl => match us, hl with | [_, _], _ => rfl⟩
  have D_law_rule_told : Dn K mg "_law_rule_told" "_law_rule_told" st_law_rule_told ps_law_rule_told f_law_rule_told _ := ⟨PySem.W.mg_of X G a_law_rule_told, funD_mk l_law_rule_told c_law_rule_told k_law_rule_told, (funD_mk l_law_rule_told c_law_rule_told k_law_rule_told).bindsN fun _ _ _ _ _ _ us hl => match us, hl with | [_, _, _, _, _], _ => rfl⟩
  have D_law_rule_due : Dn K mg "_law_rule_due" "_law_rule_due" st_law_rule_due ps_law_rule_due f_law_rule_due _ := ⟨PySem.W.mg_of X G a_law_rule_due, funD_mk l_law_rule_due c_law_rule_due k_law_rule_due, (funD_mk l_law_rule_due c_law_rule_due k_law_rule_due).bindsN fun _ _ _ _ _ _ us hl => match us, hl with | [_, _, _, _, _], _ => rfl⟩
  have D_law_right : Dn K mg "_law_right" "_law_right" st_law_right ps_law_right f_law_right _ := ⟨PySem.W.mg_of X G a_law_right, funD_mk l_law_right c_law_right k_law_right, (funD_mk l_law_right c_law_right k_law_right).bindsN fun _ _ _ _ _ _ us hl => match us, hl with | [_], _ => rfl⟩
  have D_law : Dn K mg "law" "law" st_law ps_law f_law _ := ⟨PySem.W.mg_of X G a_law, funD_mk l_law c_law k_law, (funD_mk l_law c_law k_law).bindsN fun _ _ _ _ _ _ us hl => match us, hl with | [_], _ => rfl⟩
  have n_len : mg "len" = none := PySem.W.mg_none_of X G b_len
  have n_int : mg "int" = none := PySem.W.mg_none_of X G b_int
  have n_abs : mg "abs" = none := PySem.W.mg_none_of X G b_abs
  have n_divmod : mg "divmod" = none := PySem.W.mg_none_of X G b_divmod
  have n_str : mg "str" = none := PySem.W.mg_none_of X G b_str
  have n_isinstance : mg "isinstance" = none := PySem.W.mg_none_of X G b_isinstance
  have n_bool : mg "bool" = none := PySem.W.mg_none_of X G b_bool
  have n_range : mg "range" = none := PySem.W.mg_none_of X G b_range
  have n_max : mg "max" = none := PySem.W.mg_none_of X G b_max
  have n_min : mg "min" = none := PySem.W.mg_none_of X G b_min
  have n_all : mg "all" = none := PySem.W.mg_none_of X G b_all
  have n_repr : mg "repr" = none := PySem.W.mg_none_of X G b_repr
  have E_InvalidName : PySem.ErD.ErrT K mg "InvalidName" "given" C_InvalidName i_InvalidName := ⟨.inl rfl, PySem.W.mg_of X G a_InvalidName, ⟨_, _, _, _, _, _, _, _, _, _, _, _, _, _, _, _, x_InvalidName, PySem.ErD.Bse.ve.own⟩, sa_InvalidName, ga_InvalidName, gg_InvalidName, nf_InvalidName, ii_InvalidName, ti_InvalidName, k_InvalidName, e_InvalidName, t_InvalidName, h_InvalidName, ⟨_, _, _, _, _, _, _, _, _, _, _, _, _, _, _, l_InvalidName, c_InvalidName⟩⟩
  have E_InvalidWorth : PySem.ErD.ErrT K mg "InvalidWorth" "given" C_InvalidWorth i_InvalidWorth := ⟨.inl rfl, PySem.W.mg_of X G a_InvalidWorth, ⟨_, _, _, _, _, _, _, _, _, _, _, _, _, _, _, _, x_InvalidWorth, PySem.ErD.Bse.ve.own⟩, sa_InvalidWorth, ga_InvalidWorth, gg_InvalidWorth, nf_InvalidWorth, ii_InvalidWorth, ti_InvalidWorth, k_InvalidWorth, e_InvalidWorth, t_InvalidWorth, h_InvalidWorth, ⟨_, _, _, _, _, _, _, _, _, _, _, _, _, _, _, l_InvalidWorth, c_InvalidWorth⟩⟩
  have E_InvalidRounding : PySem.ErD.ErrT K mg "InvalidRounding" "given" C_InvalidRounding i_InvalidRounding := ⟨.inl rfl, PySem.W.mg_of X G a_InvalidRounding, ⟨_, _, _, _, _, _, _, _, _, _, _, _, _, _, _, _, x_InvalidRounding, PySem.ErD.Bse.ve.own⟩, sa_InvalidRounding, ga_InvalidRounding, gg_InvalidRounding, nf_InvalidRounding, ii_InvalidRounding, ti_InvalidRounding, k_InvalidRounding, e_InvalidRounding, t_InvalidRounding, h_InvalidRounding, ⟨_, _, _, _, _, _, _, _, _, _, _, _, _, _, _, l_InvalidRounding, c_InvalidRounding⟩⟩
  have E_InvalidCharge : PySem.ErD.ErrT K mg "InvalidCharge" "given" C_InvalidCharge i_InvalidCharge := ⟨.inl rfl, PySem.W.mg_of X G a_InvalidCharge, ⟨_, _, _, _, _, _, _, _, _, _, _, _, _, _, _, _, x_InvalidCharge, PySem.ErD.Bse.ve.own⟩, sa_InvalidCharge, ga_InvalidCharge, gg_InvalidCharge, nf_InvalidCharge, ii_InvalidCharge, ti_InvalidCharge, k_InvalidCharge, e_InvalidCharge, t_InvalidCharge, h_InvalidCharge, ⟨_, _, _, _, _, _, _, _, _, _, _, _, _, _, _, l_InvalidCharge, c_InvalidCharge⟩⟩
  have E_InvalidLeast : PySem.ErD.ErrT K mg "InvalidLeast" "given" C_InvalidLeast i_InvalidLeast := ⟨.inl rfl, PySem.W.mg_of X G a_InvalidLeast, ⟨_, _, _, _, _, _, _, _, _, _, _, _, _, _, _, _, x_InvalidLeast, PySem.ErD.Bse.ve.own⟩, sa_InvalidLeast, ga_InvalidLeast, gg_InvalidLeast, nf_InvalidLeast, ii_InvalidLeast, ti_InvalidLeast, k_InvalidLeast, e_InvalidLeast, t_InvalidLeast, h_InvalidLeast, ⟨_, _, _, _, _, _, _, _, _, _, _, _, _, _, _, l_InvalidLeast, c_InvalidLeast⟩⟩
  have FD_Ledger := funD_mk (x := "__init__") (qual := "Ledger.__init__") (st := st_Ledger___init) l_Ledger c_Ledger k_Ledger
  have B_Ledger : Binds K _ ps_Ledger___init [] := FD_Ledger.bindsN fun _ _ _ _ _ _ us hl => match us, hl with | [_, _, _], _ => rfl
  have M_Ledger : Mk K C_Ledger f_Ledger := ⟨mm_Ledger, ii_Ledger, if_Ledger, kk_Ledger⟩
  have S_Ledger : SlX.SCls K C_Ledger := ⟨pg_Ledger, ic_Ledger, po_Ledger, sa_Ledger⟩
  have L_Ledger : SlX.Slot1 K C_Ledger "parts" pd_Ledger 0 := ⟨at_Ledger, gt_Ledger, tk_Ledger, ty_Ledger, ix_Ledger, by decide⟩
  have FD_Ledger_name := funD_mk (x := "name") (qual := "Ledger.name") (st := st_Ledger_name) l_Ledger_name c_Ledger_name k_Ledger_name
  have P_Ledger_name : ∀ base : Heap, Pr P w K mg base 1 C_Ledger "name" (sp_get C_Ledger 0) := fun base => ⟨_, _, _, "self", S_Ledger, ⟨qa_Ledger_name, qg_Ledger_name, qt_Ledger_name, ⟨_, qr_Ledger_name⟩⟩, ok_get_Ledger_name FD_Ledger_name S_Ledger L_Ledger, FD_Ledger_name.bindsN fun _ _ _ _ _ _ us hl => match us, hl with | [_], _ => rfl⟩
  have FD_Ledger_worth := funD_mk (x := "worth") (qual := "Ledger.worth") (st := st_Ledger_worth) l_Ledger_worth c_Ledger_worth k_Ledger_worth
  have P_Ledger_worth : ∀ base : Heap, Pr P w K mg base 1 C_Ledger "worth" (sp_get C_Ledger 1) := fun base => ⟨_, _, _, "self", S_Ledger, ⟨qa_Ledger_worth, qg_Ledger_worth, qt_Ledger_worth, ⟨_, qr_Ledger_worth⟩⟩, ok_get_Ledger_worth FD_Ledger_worth S_Ledger L_Ledger, FD_Ledger_worth.bindsN fun _ _ _ _ _ _ us hl => match us, hl with | [_], _ => rfl⟩
  have FD_Rule : FunD K "__init__" "Rule.__init__" (defArgs st_Rule___init) (defBody st_Rule___init) (defScope st_Rule___init) [] [("charge", .int 0), ("least", .non)] f_Rule _ := ⟨⟨_, _, .none, .ref kd_Rule, _, _, _, _, _, _, rfl, l_Rule, c_Rule, .inl ⟨rfl, rfl⟩, .inr ⟨_, rfl, (kwd_cons kw_Rule_charge ⟨_, rfl⟩ (kwd_cons kw_Rule_least rfl kwd_nil))⟩⟩, k_Rule⟩
  obtain ⟨du_Rule, dr_Rule, B_Rule⟩ := FD_Rule.binds0 (ps := ps_Rule___init) 4 (by simp) rfl fun _ _ _ _ _ _ us ks hu hk => match us, hu, ks, hk with | [_, _, _, _], _, [_, _], _ => ⟨_, _, _, _, _, _, rfl, rfl, ⟨_, _, _, _, _, _, rfl, rfl, rfl⟩⟩
  have Df_Rule : Dfl K [.int 0, .non] du_Rule := dfl_of dr_Rule fun F => (.cons (.int _) (.cons .non .nil))
  have M_Rule : Mk K C_Rule f_Rule := ⟨mm_Rule, ii_Rule, if_Rule, kk_Rule⟩
  have S_Rule : SlX.SCls K C_Rule := ⟨pg_Rule, ic_Rule, po_Rule, sa_Rule⟩
  have L_Rule : SlX.Slot1 K C_Rule "parts" pd_Rule 0 := ⟨at_Rule, gt_Rule, tk_Rule, ty_Rule, ix_Rule, by decide⟩
  have FD_Rule_source := funD_mk (x := "source") (qual := "Rule.source") (st := st_Rule_source) l_Rule_source c_Rule_source k_Rule_source
  have P_Rule_source : ∀ base : Heap, Pr P w K mg base 1 C_Rule "source" (sp_get C_Rule 0) := fun base => ⟨_, _, _, "self", S_Rule, ⟨qa_Rule_source, qg_Rule_source, qt_Rule_source, ⟨_, qr_Rule_source⟩⟩, ok_get_Rule_source FD_Rule_source S_Rule L_Rule, FD_Rule_source.bindsN fun _ _ _ _ _ _ us hl => match us, hl with | [_], _ => rfl⟩
  have FD_Rule_target := funD_mk (x := "target") (qual := "Rule.target") (st := st_Rule_target) l_Rule_target c_Rule_target k_Rule_target
  have P_Rule_target : ∀ base : Heap, Pr P w K mg base 1 C_Rule "target" (sp_get C_Rule 1) := fun base => ⟨_, _, _, "self", S_Rule, ⟨qa_Rule_target, qg_Rule_target, qt_Rule_target, ⟨_, qr_Rule_target⟩⟩, ok_get_Rule_target FD_Rule_target S_Rule L_Rule, FD_Rule_target.bindsN fun _ _ _ _ _ _ us hl => match us, hl with | [_], _ => rfl⟩
  have FD_Rule_rounding := funD_mk (x := "rounding") (qual := "Rule.rounding") (st := st_Rule_rounding) l_Rule_rounding c_Rule_rounding k_Rule_rounding
  have P_Rule_rounding : ∀ base : Heap, Pr P w K mg base 1 C_Rule "rounding" (sp_get C_Rule 2) := fun base => ⟨_, _, _, "self", S_Rule, ⟨qa_Rule_rounding, qg_Rule_rounding, qt_Rule_rounding, ⟨_, qr_Rule_rounding⟩⟩, ok_get_Rule_rounding FD_Rule_rounding S_Rule L_Rule, FD_Rule_rounding.bindsN fun _ _ _ _ _ _ us hl => match us, hl with | [_], _ => rfl⟩
  have FD_Rule_charge := funD_mk (x := "charge") (qual := "Rule.charge") (st := st_Rule_charge) l_Rule_charge c_Rule_charge k_Rule_charge
  have P_Rule_charge : ∀ base : Heap, Pr P w K mg base 1 C_Rule "charge" (sp_get C_Rule 3) := fun base => ⟨_, _, _, "self", S_Rule, ⟨qa_Rule_charge, qg_Rule_charge, qt_Rule_charge, ⟨_, qr_Rule_charge⟩⟩, ok_get_Rule_charge FD_Rule_charge S_Rule L_Rule, FD_Rule_charge.bindsN fun _ _ _ _ _ _ us hl => match us, hl with | [_], _ => rfl⟩
  have FD_Rule_least := funD_mk (x := "least") (qual := "Rule.least") (st := st_Rule_least) l_Rule_least c_Rule_least k_Rule_least
  have P_Rule_least : ∀ base : Heap, Pr P w K mg base 1 C_Rule "least" (sp_get C_Rule 4) := fun base => ⟨_, _, _, "self", S_Rule, ⟨qa_Rule_least, qg_Rule_least, qt_Rule_least, ⟨_, qr_Rule_least⟩⟩, ok_get_Rule_least FD_Rule_least S_Rule L_Rule, FD_Rule_least.bindsN fun _ _ _ _ _ _ us hl => match us, hl with | [_], _ => rfl⟩
  have vR : Gv K mg "ROUNDINGS" (.tup stylesD) := ⟨.ref T_R, _, PySem.W.mg_of X G a_R, rfl, fun F => .tup (vs := [.str "down", .str "up", .str "near down", .str "near up", .str "near even"]) (.inr ⟨_, _, _, x_R, rfl, rfl, small_le (n := 5) (by decide), .cons rel_s (.cons rel_s (.cons rel_s (.cons rel_s (.cons rel_s .nil))))⟩) (.cons (.str _) (.cons (.str _) (.cons (.str _) (.cons (.str _) (.cons (.str _) .nil)))))⟩
  have vW : Gv K mg "MOST_WORTH" (.int 24) := ⟨.int 24, _, PySem.W.mg_of X G v_W, ⟨_, rfl⟩, fun F => .int _⟩
  have vL : Gv K mg "LETTERS" (.str lettersS) := ⟨.str _, _, PySem.W.mg_of X G v_L, ⟨_, rfl⟩, fun F => .str _⟩
  have vD : Gv K mg "DIGITS" (.str digitsS) := ⟨.str _, _, PySem.W.mg_of X G v_D, ⟨_, rfl⟩, fun F => .str _⟩
  have xN : ∀ {S : Addr} {b : Bool}, PySem.W.subIn K (.ref S) (.ref C_InvalidName) = some b → PySem.W.exmOne K (.ref S) (.ref C_InvalidName) = some b := fun e => exm_ofB e_InvalidName y_InvalidName t_InvalidName e
  have xR : ∀ {S : Addr} {b : Bool}, PySem.W.subIn K (.ref S) (.ref C_InvalidRounding) = some b → PySem.W.exmOne K (.ref S) (.ref C_InvalidRounding) = some b := fun e => exm_ofB e_InvalidRounding y_InvalidRounding t_InvalidRounding e
  have xC : ∀ {S : Addr} {b : Bool}, PySem.W.subIn K (.ref S) (.ref C_InvalidCharge) = some b → PySem.W.exmOne K (.ref S) (.ref C_InvalidCharge) = some b := fun e => exm_ofB e_InvalidCharge y_InvalidCharge t_InvalidCharge e
  have xL : ∀ {S : Addr} {b : Bool}, PySem.W.subIn K (.ref S) (.ref C_InvalidLeast) = some b → PySem.W.exmOne K (.ref S) (.ref C_InvalidLeast) = some b := fun e => exm_ofB e_InvalidLeast y_InvalidLeast t_InvalidLeast e
  have xWW := exm_ofB e_InvalidWorth y_InvalidWorth t_InvalidWorth s_WW
  have ef := hfa.symm.trans D_law.g
  cases ef
  refine ⟨_, fun s u => D_law.d.bindsA (ps := ["_law_script"]) (fun _ _ _ _ _ _ us hl => match us, hl with | [_], _ => rfl) s [u] rfl, fun base _ _ => ?_⟩
  let CE : Nat → Addr := fun k => if k = 0 then C_InvalidName else if k = 1 then C_InvalidRounding else if k = 2 then C_InvalidCharge else C_InvalidLeast
  have xs : ∀ i j, j ≤ i → i < 4 → PySem.W.exmOne K (.ref (CE i)) (.ref (CE j)) = some (decide (i = j)) := fun i j h1 h2 => by
    match i, j, h1, h2 with
    | 0, 0, _, _ => exact xN s_00
    | 1, 0, _, _ => exact xN s_10
    | 1, 1, _, _ => exact xR s_11
    | 2, 0, _, _ => exact xN s_20
    | 2, 1, _, _ => exact xR s_21
    | 2, 2, _, _ => exact xC s_22
    | 3, 0, _, _ => exact xN s_30
    | 3, 1, _, _ => exact xR s_31
    | 3, 2, _, _ => exact xC s_32
    | 3, 3, _, _ => exact xL s_33
  have cI : Cal P w K mg base _ _ _ _ _ _ := ok_isint D_is_integer n_isinstance n_int n_bool
  have cN : Cal P w K mg base _ _ _ _ _ _ := ok_isname D_is_name n_isinstance n_str n_len n_all vL vD
  have cR : Cal P w K mg base _ _ _ _ _ _ := ok_isrnd D_is_rounding n_isinstance n_str vR
  have kL : Kl P w K mg base 2 "Ledger" C_Ledger f_Ledger _ ps_Ledger___init [] [] (sp_ledI C_InvalidName C_InvalidWorth C_Ledger) := ⟨PySem.W.mg_of X G a_Ledger, M_Ledger, ok_ledI FD_Ledger cI cN E_InvalidName E_InvalidWorth vW S_Ledger L_Ledger, B_Ledger, .nil⟩
  have kR : Kl P w K mg base 2 "Rule" C_Rule f_Rule _ ps_Rule___init du_Rule [.int 0, .non] (sp_rulI CE C_Rule) := ⟨PySem.W.mg_of X G a_Rule, M_Rule, ok_rulI (CE := CE) FD_Rule cI cN cR E_InvalidName E_InvalidRounding E_InvalidCharge E_InvalidLeast S_Rule L_Rule, B_Rule, Df_Rule⟩
  have cS : Cal P w K mg base _ _ _ _ _ _ := ok_seed D_law_seed n_len n_int
  have cP : Cal P w K mg base _ _ _ _ _ _ := ok_pool D_law_pool n_int n_abs
  have cW : Cal P w K mg base _ _ _ _ _ _ := ok_draw D_law_draw n_int n_divmod
  have cK : Cal P w K mg base _ _ _ _ _ _ := ok_pick D_law_pick n_len cW
  have cO : Cal P w K mg base _ _ _ _ _ _ := ok_odd D_law_odd n_str cW cK
  have cT : Cal P w K mg base _ _ _ _ _ _ := ok_tag D_law_tag n_range cW cK
  have cY : Cal P w K mg base _ _ _ _ _ _ := ok_styles D_law_styles
  have cU : Cal P w K mg base _ _ _ _ _ _ := ok_number D_law_number cW
  have cF : Cal P w K mg base _ _ _ _ _ _ := ok_fee D_law_fee cW
  have cG : Cal P w K mg base _ _ _ _ _ _ := ok_string D_law_string n_range n_len cW
  have cH : Cal P w K mg base _ _ _ _ _ _ := ok_lawname D_law_is_name n_isinstance n_str n_len
  have cJ : Cal P w K mg base _ _ _ _ _ _ := ok_whole D_law_whole n_isinstance n_int n_bool
  have s1 : Cal P w K mg base _ _ _ _ _ _ := ok_sometag D_law_some_tag cW cT cO cG
  have s2 : Cal P w K mg base _ _ _ _ _ _ := ok_someunit D_law_some_unit cW cK
  have s3 : Cal P w K mg base _ _ _ _ _ _ := ok_somestyle D_law_some_style cW cK cY
  have s4 : Cal P w K mg base _ _ _ _ _ _ := ok_somefee D_law_some_fee cW cK cF
  have s5 : Cal P w K mg base _ _ _ _ _ _ := ok_somedoor D_law_some_door cW cK cU
  have r1 : Cal P w K mg base _ _ _ _ _ _ := ok_lt4 D_law_ledger_told FD_Ledger kL (P_Ledger_name base) (P_Ledger_worth base) E_InvalidName E_InvalidWorth (xN s_00) (xN s_WN) xWW
  have r2 : Cal P w K mg base _ _ _ _ _ _ := ok_ld4 D_law_ledger_due cH cJ
  have r3 : Cal P w K mg base _ _ _ _ _ _ := ok_rt4 (CE := CE) D_law_rule_told FD_Rule kR (P_Rule_source base) (P_Rule_target base) (P_Rule_rounding base) (P_Rule_charge base) (P_Rule_least base) E_InvalidName E_InvalidRounding E_InvalidCharge E_InvalidLeast xs
  have r4 : Cal P w K mg base _ _ _ _ _ _ := ok_rd4 D_law_rule_due n_isinstance n_str cH cJ cY
  have cZ : Cal P w K mg base _ _ _ _ _ _ := ok_right D_law_right n_repr n_range s1 s2 s3 s4 s5 r1 r2 r3 r4
  exact (ok_law D_law n_range n_len n_max n_min n_all cS cP cZ).G

end
end Dv
-- LAW law_k04_ledgers_and_rules_refused wholedrift_k04_ledgers_and_rules_refused
open PySem PySem.W PyProof.Rows
set_option maxRecDepth 100000 in
set_option maxHeartbeats 0 in
theorem PySem.Challenge.cw_wholedrift_k04_ledgers_and_rules_refused_holds : PySem.Challenge.rw_wholedrift_k04_ledgers_and_rules_refused.Holds := by
  refine hd04 ?_
  k_fill
  refine Dv.walk_ofD (l := PySem.Challenge.rw_wholedrift_k04_ledgers_and_rules_refused) (n := 63) (k := 6) (x := "_law_script") (sp := Dv.sp_law) rfl (by decide) rfl ⟨rfl, by decide, by decide⟩ (fun w h Y => PySem.W.kIn_of Y) ?F fun ns hl hb => ⟨ns, rfl, hl, fun _ => rfl⟩
  case F =>
    intro w mg fa h KX G hmg
    refine' Dv.all_mk KX G hmg ?a_is_integer ?l_is_integer ?c_is_integer ?k_is_integer ?a_is_name ?l_is_name ?c_is_name ?k_is_name ?a_is_rounding ?l_is_rounding ?c_is_rounding ?k_is_rounding ?a_law_seed ?l_law_seed ?c_law_seed ?k_law_seed ?a_law_pool ?l_law_pool ?c_law_pool ?k_law_pool ?a_law_draw ?l_law_draw ?c_law_draw ?k_law_draw ?a_law_pick ?l_law_pick ?c_law_pick ?k_law_pick ?a_law_odd ?l_law_odd ?c_law_odd ?k_law_odd ?a_law_tag ?l_law_tag ?c_law_tag ?k_law_tag ?a_law_styles ?l_law_styles ?c_law_styles ?k_law_styles ?a_law_number ?l_law_number ?c_law_number ?k_law_number ?a_law_fee ?l_law_fee ?c_law_fee ?k_law_fee ?a_law_string ?l_law_string ?c_law_string ?k_law_string ?a_law_is_name ?l_law_is_name ?c_law_is_name ?k_law_is_name ?a_law_whole ?l_law_whole ?c_law_whole ?k_law_whole ?a_law_some_tag ?l_law_some_tag ?c_law_some_tag ?k_law_some_tag ?a_law_some_unit ?l_law_some_unit ?c_law_some_unit ?k_law_some_unit ?a_law_some_style ?l_law_some_style ?c_law_some_style ?k_law_some_style ?a_law_some_fee ?l_law_some_fee ?c_law_some_fee ?k_law_some_fee ?a_law_some_door ?l_law_some_door ?c_law_some_door ?k_law_some_door ?a_law_ledger_told ?l_law_ledger_told ?c_law_ledger_told ?k_law_ledger_told ?a_law_ledger_due ?l_law_ledger_due ?c_law_ledger_due ?k_law_ledger_due ?a_law_rule_told ?l_law_rule_told ?c_law_rule_told ?k_law_rule_told ?a_law_rule_due ?l_law_rule_due ?c_law_rule_due ?k_law_rule_due ?a_law_right ?l_law_right ?c_law_right ?k_law_right ?a_law ?l_law ?c_law ?k_law ?b_len ?b_int ?b_abs ?b_divmod ?b_str ?b_isinstance ?b_bool ?b_range ?b_max ?b_min ?b_all ?b_repr ?a_InvalidName ?x_InvalidName ?sa_InvalidName ?ga_InvalidName ?gg_InvalidName ?nf_InvalidName ?ii_InvalidName ?ti_InvalidName ?l_InvalidName ?c_InvalidName ?k_InvalidName ?e_InvalidName ?t_InvalidName ?h_InvalidName ?y_InvalidName ?a_InvalidWorth ?x_InvalidWorth ?sa_InvalidWorth ?ga_InvalidWorth ?gg_InvalidWorth ?nf_InvalidWorth ?ii_InvalidWorth ?ti_InvalidWorth ?l_InvalidWorth ?c_InvalidWorth ?k_InvalidWorth ?e_InvalidWorth ?t_InvalidWorth ?h_InvalidWorth ?y_InvalidWorth ?a_InvalidRounding ?x_InvalidRounding ?sa_InvalidRounding ?ga_InvalidRounding ?gg_InvalidRounding ?nf_InvalidRounding ?ii_InvalidRounding ?ti_InvalidRounding ?l_InvalidRounding ?c_InvalidRounding ?k_InvalidRounding ?e_InvalidRounding ?t_InvalidRounding ?h_InvalidRounding ?y_InvalidRounding ?a_InvalidCharge ?x_InvalidCharge ?sa_InvalidCharge ?ga_InvalidCharge ?gg_InvalidCharge ?nf_InvalidCharge ?ii_InvalidCharge ?ti_InvalidCharge ?l_InvalidCharge ?c_InvalidCharge ?k_InvalidCharge ?e_InvalidCharge ?t_InvalidCharge ?h_InvalidCharge ?y_InvalidCharge ?a_InvalidLeast ?x_InvalidLeast ?sa_InvalidLeast ?ga_InvalidLeast ?gg_InvalidLeast ?nf_InvalidLeast ?ii_InvalidLeast ?ti_InvalidLeast ?l_InvalidLeast ?c_InvalidLeast ?k_InvalidLeast ?e_InvalidLeast ?t_InvalidLeast ?h_InvalidLeast ?y_InvalidLeast ?a_Ledger ?mm_Ledger ?ii_Ledger ?if_Ledger ?kk_Ledger ?l_Ledger ?c_Ledger ?k_Ledger ?pg_Ledger ?ic_Ledger ?po_Ledger ?sa_Ledger ?at_Ledger ?gt_Ledger ?tk_Ledger ?ty_Ledger ?ix_Ledger ?qa_Ledger_name ?qg_Ledger_name ?qt_Ledger_name ?qr_Ledger_name ?l_Ledger_name ?c_Ledger_name ?k_Ledger_name ?qa_Ledger_worth ?qg_Ledger_worth ?qt_Ledger_worth ?qr_Ledger_worth ?l_Ledger_worth ?c_Ledger_worth ?k_Ledger_worth ?a_Rule ?mm_Rule ?ii_Rule ?if_Rule ?kk_Rule ?l_Rule ?c_Rule ?k_Rule ?kw_Rule_charge ?kw_Rule_least ?pg_Rule ?ic_Rule ?po_Rule ?sa_Rule ?at_Rule ?gt_Rule ?tk_Rule ?ty_Rule ?ix_Rule ?qa_Rule_source ?qg_Rule_source ?qt_Rule_source ?qr_Rule_source ?l_Rule_source ?c_Rule_source ?k_Rule_source ?qa_Rule_target ?qg_Rule_target ?qt_Rule_target ?qr_Rule_target ?l_Rule_target ?c_Rule_target ?k_Rule_target ?qa_Rule_rounding ?qg_Rule_rounding ?qt_Rule_rounding ?qr_Rule_rounding ?l_Rule_rounding ?c_Rule_rounding ?k_Rule_rounding ?qa_Rule_charge ?qg_Rule_charge ?qt_Rule_charge ?qr_Rule_charge ?l_Rule_charge ?c_Rule_charge ?k_Rule_charge ?qa_Rule_least ?qg_Rule_least ?qt_Rule_least ?qr_Rule_least ?l_Rule_least ?c_Rule_least ?k_Rule_least ?a_R ?x_R ?v_W ?v_L ?v_D ?s_00 ?s_WN ?s_WW ?s_10 ?s_11 ?s_20 ?s_21 ?s_22 ?s_30 ?s_31 ?s_32 ?s_33
    (case a_is_integer => k_is)
    (case l_is_integer => k_is)
    (case c_is_integer => k_is)
    (case k_is_integer => k_is)
    (case a_is_name => k_is)
    (case l_is_name => k_is)
    (case c_is_name => k_is)
    (case k_is_name => k_is)
    (case a_is_rounding => k_is)
    (case l_is_rounding => k_is)
    (case c_is_rounding => k_is)
    (case k_is_rounding => k_is)
    (case a_law_seed => k_is)
    (case l_law_seed => k_is)
    (case c_law_seed => k_is)
    (case k_law_seed => k_is)
    (case a_law_pool => k_is)
    (case l_law_pool => k_is)
    (case c_law_pool => k_is)
    (case k_law_pool => k_is)
    (case a_law_draw => k_is)
    (case l_law_draw => k_is)
    (case c_law_draw => k_is)
    (case k_law_draw => k_is)
    (case a_law_pick => k_is)
    (case l_law_pick => k_is)
    (case c_law_pick => k_is)
    (case k_law_pick => k_is)
    (case a_law_odd => k_is)
    (case l_law_odd => k_is)
    (case c_law_odd => k_is)
    (case k_law_odd => k_is)
    (case a_law_tag => k_is)
    (case l_law_tag => k_is)
    (case c_law_tag => k_is)
    (case k_law_tag => k_is)
    (case a_law_styles => k_is)
    (case l_law_styles => k_is)
    (case c_law_styles => k_is)
    (case k_law_styles => k_is)
    (case a_law_number => k_is)
    (case l_law_number => k_is)
    (case c_law_number => k_is)
    (case k_law_number => k_is)
    (case a_law_fee => k_is)
    (case l_law_fee => k_is)
    (case c_law_fee => k_is)
    (case k_law_fee => k_is)
    (case a_law_string => k_is)
    (case l_law_string => k_is)
    (case c_law_string => k_is)
    (case k_law_string => k_is)
    (case a_law_is_name => k_is)
    (case l_law_is_name => k_is)
    (case c_law_is_name => k_is)
    (case k_law_is_name => k_is)
    (case a_law_whole => k_is)
    (case l_law_whole => k_is)
    (case c_law_whole => k_is)
    (case k_law_whole => k_is)
    (case a_law_some_tag => k_is)
    (case l_law_some_tag => k_is)
    (case c_law_some_tag => k_is)
    (case k_law_some_tag => k_is)
    (case a_law_some_unit => k_is)
    (case l_law_some_unit => k_is)
    (case c_law_some_unit => k_is)
    (case k_law_some_unit => k_is)
    (case a_law_some_style => k_is)
    (case l_law_some_style => k_is)
    (case c_law_some_style => k_is)
    (case k_law_some_style => k_is)
    (case a_law_some_fee => k_is)
    (case l_law_some_fee => k_is)
    (case c_law_some_fee => k_is)
    (case k_law_some_fee => k_is)
    (case a_law_some_door => k_is)
    (case l_law_some_door => k_is)
    (case c_law_some_door => k_is)
    (case k_law_some_door => k_is)
    (case a_law_ledger_told => k_is)
    (case l_law_ledger_told => k_is)
    (case c_law_ledger_told => k_is)
    (case k_law_ledger_told => k_is)
    (case a_law_ledger_due => k_is)
    (case l_law_ledger_due => k_is)
    (case c_law_ledger_due => k_is)
    (case k_law_ledger_due => k_is)
    (case a_law_rule_told => k_is)
    (case l_law_rule_told => k_is)
    (case c_law_rule_told => k_is)
    (case k_law_rule_told => k_is)
    (case a_law_rule_due => k_is)
    (case l_law_rule_due => k_is)
    (case c_law_rule_due => k_is)
    (case k_law_rule_due => k_is)
    (case a_law_right => k_is)
    (case l_law_right => k_is)
    (case c_law_right => k_is)
    (case k_law_right => k_is)
    (case a_law => k_is)
    (case l_law => k_is)
    (case c_law => k_is)
    (case k_law => k_is)
    (case b_len => k_is)
    (case b_int => k_is)
    (case b_abs => k_is)
    (case b_divmod => k_is)
    (case b_str => k_is)
    (case b_isinstance => k_is)
    (case b_bool => k_is)
    (case b_range => k_is)
    (case b_max => k_is)
    (case b_min => k_is)
    (case b_all => k_is)
    (case b_repr => k_is)
    (case a_InvalidName => k_is)
    (case x_InvalidName => k_is)
    (case sa_InvalidName => k_is)
    (case ga_InvalidName => k_is)
    (case gg_InvalidName => k_is)
    (case nf_InvalidName => k_is)
    (case ii_InvalidName => k_is)
    (case ti_InvalidName => k_is)
    (case l_InvalidName => k_is)
    (case c_InvalidName => k_is)
    (case k_InvalidName => k_is)
    (case e_InvalidName => k_is)
    (case t_InvalidName => k_is)
    (case h_InvalidName => k_is)
    (case y_InvalidName => k_is)
    (case a_InvalidWorth => k_is)
    (case x_InvalidWorth => k_is)
    (case sa_InvalidWorth => k_is)
    (case ga_InvalidWorth => k_is)
    (case gg_InvalidWorth => k_is)
    (case nf_InvalidWorth => k_is)
    (case ii_InvalidWorth => k_is)
    (case ti_InvalidWorth => k_is)
    (case l_InvalidWorth => k_is)
    (case c_InvalidWorth => k_is)
    (case k_InvalidWorth => k_is)
    (case e_InvalidWorth => k_is)
    (case t_InvalidWorth => k_is)
    (case h_InvalidWorth => k_is)
    (case y_InvalidWorth => k_is)
    (case a_InvalidRounding => k_is)
    (case x_InvalidRounding => k_is)
    (case sa_InvalidRounding => k_is)
    (case ga_InvalidRounding => k_is)
    (case gg_InvalidRounding => k_is)
    (case nf_InvalidRounding => k_is)
    (case ii_InvalidRounding => k_is)
    (case ti_InvalidRounding => k_is)
    (case l_InvalidRounding => k_is)
    (case c_InvalidRounding => k_is)
    (case k_InvalidRounding => k_is)
    (case e_InvalidRounding => k_is)
    (case t_InvalidRounding => k_is)
    (case h_InvalidRounding => k_is)
    (case y_InvalidRounding => k_is)
    (case a_InvalidCharge => k_is)
    (case x_InvalidCharge => k_is)
    (case sa_InvalidCharge => k_is)
    (case ga_InvalidCharge => k_is)
    (case gg_InvalidCharge => k_is)
    (case nf_InvalidCharge => k_is)
    (case ii_InvalidCharge => k_is)
    (case ti_InvalidCharge => k_is)
    (case l_InvalidCharge => k_is)
    (case c_InvalidCharge => k_is)
    (case k_InvalidCharge => k_is)
    (case e_InvalidCharge => k_is)
    (case t_InvalidCharge => k_is)
    (case h_InvalidCharge => k_is)
    (case y_InvalidCharge => k_is)
    (case a_InvalidLeast => k_is)
    (case x_InvalidLeast => k_is)
    (case sa_InvalidLeast => k_is)
    (case ga_InvalidLeast => k_is)
    (case gg_InvalidLeast => k_is)
    (case nf_InvalidLeast => k_is)
    (case ii_InvalidLeast => k_is)
    (case ti_InvalidLeast => k_is)
    (case l_InvalidLeast => k_is)
    (case c_InvalidLeast => k_is)
    (case k_InvalidLeast => k_is)
    (case e_InvalidLeast => k_is)
    (case t_InvalidLeast => k_is)
    (case h_InvalidLeast => k_is)
    (case y_InvalidLeast => k_is)
    (case a_Ledger => k_is)
    (case mm_Ledger => k_is)
    (case ii_Ledger => k_is)
    (case if_Ledger => k_is)
    (case kk_Ledger => k_is)
    (case l_Ledger => k_is)
    (case c_Ledger => k_is)
    (case k_Ledger => k_is)
    (case pg_Ledger => k_is)
    (case ic_Ledger => k_is)
    (case po_Ledger => k_is)
    (case sa_Ledger => k_is)
    (case at_Ledger => k_is)
    (case gt_Ledger => k_is)
    (case tk_Ledger => k_is)
    (case ty_Ledger => k_is)
    (case ix_Ledger => k_is)
    (case qa_Ledger_name => k_is)
    (case qg_Ledger_name => k_is)
    (case qt_Ledger_name => k_is)
    (case qr_Ledger_name => k_is)
    (case l_Ledger_name => k_is)
    (case c_Ledger_name => k_is)
    (case k_Ledger_name => k_is)
    (case qa_Ledger_worth => k_is)
    (case qg_Ledger_worth => k_is)
    (case qt_Ledger_worth => k_is)
    (case qr_Ledger_worth => k_is)
    (case l_Ledger_worth => k_is)
    (case c_Ledger_worth => k_is)
    (case k_Ledger_worth => k_is)
    (case a_Rule => k_is)
    (case mm_Rule => k_is)
    (case ii_Rule => k_is)
    (case if_Rule => k_is)
    (case kk_Rule => k_is)
    (case l_Rule => k_is)
    (case c_Rule => k_is)
    (case k_Rule => k_is)
    (case kw_Rule_charge => k_is)
    (case kw_Rule_least => k_is)
    (case pg_Rule => k_is)
    (case ic_Rule => k_is)
    (case po_Rule => k_is)
    (case sa_Rule => k_is)
    (case at_Rule => k_is)
    (case gt_Rule => k_is)
    (case tk_Rule => k_is)
    (case ty_Rule => k_is)
    (case ix_Rule => k_is)
    (case qa_Rule_source => k_is)
    (case qg_Rule_source => k_is)
    (case qt_Rule_source => k_is)
    (case qr_Rule_source => k_is)
    (case l_Rule_source => k_is)
    (case c_Rule_source => k_is)
    (case k_Rule_source => k_is)
    (case qa_Rule_target => k_is)
    (case qg_Rule_target => k_is)
    (case qt_Rule_target => k_is)
    (case qr_Rule_target => k_is)
    (case l_Rule_target => k_is)
    (case c_Rule_target => k_is)
    (case k_Rule_target => k_is)
    (case qa_Rule_rounding => k_is)
    (case qg_Rule_rounding => k_is)
    (case qt_Rule_rounding => k_is)
    (case qr_Rule_rounding => k_is)
    (case l_Rule_rounding => k_is)
    (case c_Rule_rounding => k_is)
    (case k_Rule_rounding => k_is)
    (case qa_Rule_charge => k_is)
    (case qg_Rule_charge => k_is)
    (case qt_Rule_charge => k_is)
    (case qr_Rule_charge => k_is)
    (case l_Rule_charge => k_is)
    (case c_Rule_charge => k_is)
    (case k_Rule_charge => k_is)
    (case qa_Rule_least => k_is)
    (case qg_Rule_least => k_is)
    (case qt_Rule_least => k_is)
    (case qr_Rule_least => k_is)
    (case l_Rule_least => k_is)
    (case c_Rule_least => k_is)
    (case k_Rule_least => k_is)
    (case a_R => k_is)
    (case x_R => k_is)
    (case v_W => k_is)
    (case v_L => k_is)
    (case v_D => k_is)
    (case s_00 => k_is)
    (case s_WN => k_is)
    (case s_WW => k_is)
    (case s_10 => k_is)
    (case s_11 => k_is)
    (case s_20 => k_is)
    (case s_21 => k_is)
    (case s_22 => k_is)
    (case s_30 => k_is)
    (case s_31 => k_is)
    (case s_32 => k_is)
    (case s_33 => k_is)

