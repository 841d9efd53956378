import PyProof.Rows.All
import HandS.ForMost
import HandS.Head2
import Wide.All
import OpenK.AllK
import Wide.FinOn
import HandS.ForExc
import HandS.Wide
import HandS.WideBits
import HandS.SlotsOwn
import HandS.Defaults
import HandS.TryMany
import HandS.ExcInit
import HandS.Lambda
import HandS.ExcField
import HandS.IsInst
import HandS.TupAny
import HandS.StrMore
import PyProof.ReprRoads
import HandS.Text
import HandS.RaiseMore
import KE.KExcInit
import HandS.EndBits
import HandS.MakeKwOnly
import HandS.TryOnly
import KE.GoesEnum
import HandS.FStr
import HandS.Star
import HandS.Style
import HandS.ClsMeth
import PyProof.CallStr
import HandS.Conv
import HandS.More
import HandS.Property
import HandS.TryElse
import PyProof.InstNe
import HandS.Small
import PyProof.EqKinds
import HandS.Deep
import HandS.DictComp
import HandS.Replace
import HandS.ReplaceLit
import HandS.ReplaceDef
import KE.KDictZip
import KE.KTurns
import HandS.DictTup
import HandS.Steps
import KE.DataCmp
import HandS.TupMul
import HandS.TupLen
import HandS.Set
import HandS.Strs
import HandS.SortInts
import HandS.OwnEq
import HandS.Zip
import KE.KTryMore
import KE.KExcIs
import KE.KIsAll
import HandS.ExcIs
import HandS.SetFor
import HandS.EndTab
import HandS.HotCalls
import HandS.WrittenGet
import HandS.TupLe
import KE.KDictWalk
import KE.KDictCopyH
import HandS.Dict
import PyProof.DictDisplay
import KE.KOpsOwn
import HandS.Iter
import PyProof.Rows.SortStr
import KE.KItemsList
import KE.KEqDict
import HandS.ExcValue
import PySem.Challenge.RW_wholedrift_k01_constants_and_errors
set_option Elab.async false
set_option linter.all false
set_option maxRecDepth 100000
set_option maxHeartbeats 4000000
namespace Hn
open PySem PySem.W PySem.Calls PyProof.Rows HandSHeadRun
theorem head_k {r : OpenRow} {q : Program} {K : Params → PySem.W.Frag} {as : List Addr} {e : ∀ P, as = (K P).map (·.1)} {M : Nat} {loose : List PySem.Str} {d : DefRec} {kwd : List (PySem.Str × PySem.Expr)}
    (e1 : opening r.prog = plainProg r.prog.main.scope.names) (f : ∀ s, fenceModules? r.prog s = some s) (run : ∀ w, RunEq r q (kHook K as e) (fun s => as.map (getT s)) M loose w)
    (hdef : defOf q r.name = some (d, kwd)) (hp : r.prog.theDef r.name = some (d.params, d.body, d.scope)) (hk : kwWritten? d.params.kwonlyargs d.params.kw_defaults = some kwd)
    (hwr : (!r.writes || r.records.isEmpty) = true) (k1 : r.wellSaid = true) (ok : (chainsOk q && opensWell r.prog && (frees r.toRowW && r.within.isEmpty)) = true) (hb : r.prog.bare) (hw : r.toRowW.promised)
    (call : WalkO q loose (XL q []) (kHook K as e).says r.toRowW d kwd fun f vs => PySem.call f vs) : r.Holds :=
  head_any (H := kHook K as e) (ob := fun s => as.map (getT s)) (fun s => congrArg (fun g => as.map g) (funext fun a => getT_eq s a)) e1 f run hdef hp hk hwr k1 ok hb hw call
def names01 : List PySem.Str := (["WrongValue", "InvalidName", "InvalidWorth", "InvalidRounding", "InvalidCharge", "InvalidLeast", "InvalidText", "InvalidAmount", "InvalidNumber", "InvalidWish", "InvalidIndex", "NotBook", "InvalidLedgers", "InvalidRules", "InvalidWay", "InvalidChanges", "InvalidWishes", "WrongName", "UnknownName", "InUse", "NotPossible", "OtherLedgers", "NotOpen", "NothingToUndo", "Broken", "MOST_LEDGERS", "MOST_RULES", "MOST_WORTH", "MOST_CHANGES", "_law_seed"] : List PySem.Str) ++ (["_law_pool", "_law_draw", "_law_pick", "_law_odd", "_law_valued", "_law_indexed", "_law_sorts", "_law_bases", "_law_is_right", "_law_right"] : List PySem.Str)
abbrev rr : OpenRow := PySem.W.OpenLaw.row PySem.Challenge.rw_wholedrift_k01_constants_and_errors
abbrev qq : Program := PySem.W.view rr.prog [42]
theorem x1 : opening rr.prog = plainProg rr.prog.main.scope.names := by kernel_rfl
theorem x2 : ∀ s, fenceModules? rr.prog s = some s := fun s => by kernel_rfl
theorem x3 : defOf qq rr.name = some (topDef rr.prog 42, []) := by kernel_rfl
theorem x4 : rr.prog.theDef rr.name = some ((topDef rr.prog 42).params, (topDef rr.prog 42).body, (topDef rr.prog 42).scope) := by kernel_rfl
theorem x5 : kwWritten? (topDef rr.prog 42).params.kwonlyargs (topDef rr.prog 42).params.kw_defaults = some [] := by kernel_rfl
theorem x6 : (!rr.writes || rr.records.isEmpty) = true := by rfl
theorem and5 {a b c d e : Bool} (ha : a = true) (hb : b = true) (hc : c = true) (hd : d = true) (he : e = true) : (a && b && c && d && e) = true := by rw [ha, hb, hc, hd, he]; rfl
theorem x7a : (sreFenced rr.prog.main && ((moduleNames rr.prog.main.body).isEmpty || lookedIntoSs (moduleNames rr.prog.main.body) rr.prog.main.body)) = true := by decide +kernel
theorem x7b : namesResolve rr.prog = true := by decide +kernel
theorem x7c : (rr.prog.boundNames.all (fun n => !worldNames.contains n)) = true := by decide +kernel
theorem x7d : noRoadLSs { strict := !(importedModules rr.prog.main.body).all cThrough.contains, foot := none, bare := (["vars", "dir", "locals"] : List PySem.Str).filter (readsOut rr.prog rr.prog.main.body) } rr.prog.main.body = true := by decide +kernel
theorem x7e : (namesMeet rr.prog rr.prog.main.body fun _ n => attrL n) = true := by decide +kernel
theorem x7l : looksOpen rr.prog = true := and5 x7a x7b x7c x7d x7e
theorem x7 : rr.wellSaid = true := by
  unfold OpenRow.wellSaid OpenRow.partSaid
  rw [x7l]
  decide +kernel
theorem x8 : (chainsOk qq && opensWell rr.prog && (frees rr.toRowW && rr.within.isEmpty)) = true := by decide +kernel
theorem x9 : rr.prog.bare := ⟨rfl, rfl, rfl, rfl, rfl, by decide +kernel⟩
end Hn
local macro_rules | `(tactic| o_head ($_f $K $A $E)) => do
  let hw := Lean.mkIdent `hw
  let hc := Lean.mkIdent `hc
  `(tactic| refine Hn.head_k (r := PySem.W.OpenLaw.row PySem.Challenge.rw_wholedrift_k01_constants_and_errors) (K := $K) (as := $A) (e := $E) (q := PySem.W.view (PySem.W.OpenLaw.row PySem.Challenge.rw_wholedrift_k01_constants_and_errors).prog [42]) (M := 20000) (loose := Hn.names01) (d := HandSHeadRun.topDef (PySem.W.OpenLaw.row PySem.Challenge.rw_wholedrift_k01_constants_and_errors).prog 42) (kwd := [])
    Hn.x1 Hn.x2 (by intro w os; kernel_rfl) Hn.x3 Hn.x4 Hn.x5 Hn.x6 Hn.x7 Hn.x8 Hn.x9 ?$hw ?$hc)
local macro_rules | `(tactic| o_head ($_f $K $A $E $_ts)) => do
  let hw := Lean.mkIdent `hw
  let hc := Lean.mkIdent `hc
  `(tactic| refine Hn.head_k (r := PySem.W.OpenLaw.row PySem.Challenge.rw_wholedrift_k01_constants_and_errors) (K := $K) (as := $A) (e := $E) (q := PySem.W.view (PySem.W.OpenLaw.row PySem.Challenge.rw_wholedrift_k01_constants_and_errors).prog [42]) (M := 20000) (loose := Hn.names01) (d := HandSHeadRun.topDef (PySem.W.OpenLaw.row PySem.Challenge.rw_wholedrift_k01_constants_and_errors).prog 42) (kwd := [])
    Hn.x1 Hn.x2 (by intro w os; kernel_rfl) Hn.x3 Hn.x4 Hn.x5 Hn.x6 Hn.x7 Hn.x8 Hn.x9 ?$hw ?$hc)
open PySem PySem.W PyProof.Rows in
set_option maxHeartbeats 0 in
open_top hd01 for PySem.Challenge.rw_wholedrift_k01_constants_and_errors
namespace Dv
open PySem PySem.Spec PyProof.Rows L2
inductive D where
  | non | bl (b : Bool) | int (i : Int) | str (x : Str) | ty (n : String) | ref (a : Addr)
  | tup (xs : List D) | lst (xs : List D) | dct (kvs : List (Key × D))
  | sl (C : Addr) (xs : List D)
  | ins (C : Addr) (fs : List (Str × D))
  | scr (ns : List Int)
    | dcT (kvs : List (List Key × D))
    | kt (xs : List D)
def Tp (K : PySem.W.Frag) (F : Hp) (a : Addr) (vs : List V) : Prop := F a = some (.tup vs) ∨ (vs = [] ∧ SqT K F a [])
mutual
inductive Rep (K : PySem.W.Frag) (F : Hp) : D → V → Prop
  | non : Rep K F .non .non
  | bl (b : Bool) : Rep K F (.bl b) (.bl b)
  | int (i : Int) : Rep K F (.int i) (.int i)
  | str (x : Str) : Rep K F (.str x) (.str x)
  | ty (n : String) : Rep K F (.ty n) (.ty n)
  | ref (a : Addr) : Rep K F (.ref a) (.ref a)
  | tupX {a : Addr} {vs : List V} {ds : List D} : Tp K F a vs → RepL K F ds vs → Rep K F (.tup ds) (.ref a)
  | kt {a : Addr} {vs : List V} {ds : List D} : SqT K F a vs → RepL K F ds vs → Rep K F (.kt ds) (.ref a)
  | lst {a : Addr} {vs : List V} {ds : List D} : F a = some (.lst vs) → RepL K F ds vs → Rep K F (.lst ds) (.ref a)
  | dct {a : Addr} {o : Obj} {kvs : List (Key × V)} {ks : List (Key × D)} : F a = some (.frz o (.dK kvs)) → RepK K F ks kvs → Rep K F (.dct ks) (.ref a)
  | sl {a C dx : Addr} {vs : List V} {ds : List D} : SlX.Slt F a C dx (vs.map some) → RepL K F ds vs → Rep K F (.sl C ds) (.ref a)
  | ins {a C dx : Addr} {vs : List (Str × V)} {fs : List (Str × D)} : F a = some (.ins C dx vs) → RepF K F fs vs → Rep K F (.ins C fs) (.ref a)
  | scr {a : Addr} {ns : List Int} : SqL K F a (ns.map V.int) → Rep K F (.scr ns) (.ref a)
  | dcT {a : Addr} {o : Obj} {kvs : List (List Key × V)} {ks : List (List Key × D)} : F a = some (.frz o (.dT kvs)) → RepT K F ks kvs → Rep K F (.dcT ks) (.ref a)
inductive RepL (K : PySem.W.Frag) (F : Hp) : List D → List V → Prop
  | nil : RepL K F [] []
  | cons {d : D} {ds : List D} {v : V} {vs : List V} : Rep K F d v → RepL K F ds vs → RepL K F (d :: ds) (v :: vs)
inductive RepK (K : PySem.W.Frag) (F : Hp) : List (Key × D) → List (Key × V) → Prop
  | nil : RepK K F [] []
  | cons {k : Key} {d : D} {ds : List (Key × D)} {v : V} {vs : List (Key × V)} : Rep K F d v → RepK K F ds vs → RepK K F ((k, d) :: ds) ((k, v) :: vs)
inductive RepF (K : PySem.W.Frag) (F : Hp) : List (Str × D) → List (Str × V) → Prop
  | nil : RepF K F [] []
  | cons {k : Str} {d : D} {ds : List (Str × D)} {v : V} {vs : List (Str × V)} : Rep K F d v → RepF K F ds vs → RepF K F ((k, d) :: ds) ((k, v) :: vs)
inductive RepT (K : PySem.W.Frag) (F : Hp) : List (List Key × D) → List (List Key × V) → Prop
  | nil : RepT K F [] []
  | cons {k : List Key} {d : D} {ds : List (List Key × D)} {v : V} {vs : List (List Key × V)} : Rep K F d v → RepT K F ds vs → RepT K F ((k, d) :: ds) ((k, v) :: vs)
end
def Ex (H H' : Hp) : Prop := ∀ a o, H a = some o → H' a = some o
theorem Ex.refl (H : Hp) : Ex H H := fun _ _ h => h
theorem Ex.trans {H H1 H2 : Hp} (a : Ex H H1) (b : Ex H1 H2) : Ex H H2 := fun x o h => b x o (a x o h)
theorem Ex.new {H : Hp} {p : Addr} {o : HO} (h : H p = none) : Ex H (upd H p o) := fun a u e => by
  rw [upd_ne (ne_of_none e h)]; exact e
theorem Ex.rd {H H' : Hp} {a : Addr} {u : HO} (e : Ex H H') (h : Rd H a u) : Rd H' a u := by
  rcases h with h | ⟨o, h⟩
  · exact .inl (e a _ h)
  · exact .inr ⟨o, e a _ h⟩
theorem Ex.l {K : PySem.W.Frag} {H H' : Hp} {a : Addr} {xs : List V} (e : Ex H H') (h : SqL K H a xs) : SqL K H' a xs := h.elim (fun h => .inl (e.rd h)) .inr
theorem Ex.t {K : PySem.W.Frag} {H H' : Hp} {a : Addr} {xs : List V} (e : Ex H H') (h : SqT K H a xs) : SqT K H' a xs := h.elim (fun h => .inl (e.rd h)) .inr
theorem Tp.t {K : PySem.W.Frag} {F : Hp} {a : Addr} {vs : List V} (h : Tp K F a vs) : SqT K F a vs := by
  rcases h with h | ⟨rfl, h⟩
  · exact .inl (.inl h)
  · exact h
theorem Tp.mono {K : PySem.W.Frag} {F F' : Hp} {a : Addr} {vs : List V} (h : Tp K F a vs) (e : Ex F F') : Tp K F' a vs := h.elim (fun h => .inl (e _ _ h)) fun h => .inr ⟨h.1, e.t h.2⟩
theorem Rep.tup {K : PySem.W.Frag} {F : Hp} {a : Addr} {vs : List V} {ds : List D} (h : F a = some (.tup vs)) (r : RepL K F ds vs) : Rep K F (.tup ds) (.ref a) := .tupX (.inl h) r
theorem RepL.len0 {K : PySem.W.Frag} {F : Hp} : ∀ {ds : List D}, RepL K F ds [] → ds = []
  | [], _ => rfl
theorem Ex.slt {H H' : Hp} {a C dx : Addr} {vs : List (Option V)} (e : Ex H H') (h : SlX.Slt H a C dx vs) : SlX.Slt H' a C dx vs :=
  h.elim (fun h => .inl ⟨e _ _ h.1, h.2⟩) fun h => .inr ⟨e _ _ h.1, e _ _ h.2⟩
theorem Ex.back {H H' : Hp} {p : Addr} (e : Ex H H') (h : H' p = none) : H p = none := by
  cases h1 : H p with
  | none => rfl
  | some o => rw [e p o h1] at h; cases h
mutual
theorem Rep.mono {K : PySem.W.Frag} {F F' : Hp} (e : Ex F F') : ∀ {d : D} {v : V}, Rep K F d v → Rep K F' d v
  | _, _, .non => .non
  | _, _, .bl b => .bl b
  | _, _, .int i => .int i
  | _, _, .str x => .str x
  | _, _, .ty n => .ty n
  | _, _, .ref a => .ref a
  | _, _, .tupX h r => .tupX (h.mono e) (RepL.mono e r)
  | _, _, .kt h r => .kt (e.t h) (RepL.mono e r)
  | _, _, .lst h r => .lst (e _ _ h) (RepL.mono e r)
  | _, _, .dct h r => .dct (e _ _ h) (RepK.mono e r)
  | _, _, .sl h r => .sl (e.slt h) (RepL.mono e r)
  | _, _, .ins h r => .ins (e _ _ h) (RepF.mono e r)
  | _, _, .scr h => .scr (e.l h)
  | _, _, .dcT h r => .dcT (e _ _ h) (RepT.mono e r)
theorem RepL.mono {K : PySem.W.Frag} {F F' : Hp} (e : Ex F F') : ∀ {d : List D} {v : List V}, RepL K F d v → RepL K F' d v
  | _, _, .nil => .nil
  | _, _, .cons h r => .cons (Rep.mono e h) (RepL.mono e r)
theorem RepK.mono {K : PySem.W.Frag} {F F' : Hp} (e : Ex F F') : ∀ {d : List (Key × D)} {v : List (Key × V)}, RepK K F d v → RepK K F' d v
  | _, _, .nil => .nil
  | _, _, .cons h r => .cons (Rep.mono e h) (RepK.mono e r)
theorem RepF.mono {K : PySem.W.Frag} {F F' : Hp} (e : Ex F F') : ∀ {d : List (Str × D)} {v : List (Str × V)}, RepF K F d v → RepF K F' d v
  | _, _, .nil => .nil
  | _, _, .cons h r => .cons (Rep.mono e h) (RepF.mono e r)
theorem RepT.mono {K : PySem.W.Frag} {F F' : Hp} (e : Ex F F') : ∀ {d : List (List Key × D)} {v : List (List Key × V)}, RepT K F d v → RepT K F' d v
  | _, _, .nil => .nil
  | _, _, .cons h r => .cons (Rep.mono e h) (RepT.mono e r)
end
end Dv
namespace Dv
open PySem PySem.Spec PyProof.Rows L2
inductive RepS (K : PySem.W.Frag) (F : Hp) : List (Option D) → List (Option V) → Prop
  | nil : RepS K F [] []
  | yes {d : D} {v : V} {ds : List (Option D)} {vs : List (Option V)} : Rep K F d v → RepS K F ds vs → RepS K F (some d :: ds) (some v :: vs)
  | no (o : Option V) {ds : List (Option D)} {vs : List (Option V)} : RepS K F ds vs → RepS K F (none :: ds) (o :: vs)
section
variable {K : PySem.W.Frag} {F F' : Hp}
theorem RepS.mono (e : Ex F F') : ∀ {d : List (Option D)} {v : List (Option V)}, RepS K F d v → RepS K F' d v
  | _, _, .nil => .nil
  | _, _, .yes h r => .yes (Rep.mono e h) (RepS.mono e r)
  | _, _, .no o r => .no o (RepS.mono e r)
theorem RepS.get : ∀ {ds : List (Option D)} {vs : List (Option V)} {i : Nat} {d : D}, RepS K F ds vs → ds[i]? = some (some d) → ∃ v, vs[i]? = some (some v) ∧ Rep K F d v
  | _, _, i, _, .nil, e => by simp at e
  | _, _, 0, _, .yes h r, e => by cases e; exact ⟨_, rfl, h⟩
  | _, _, 0, _, .no _ r, e => by cases e
  | _, _, i + 1, d, .yes (ds := ds) h r, e => RepS.get (ds := ds) (i := i) r (by simpa using e)
  | _, _, i + 1, d, .no (ds := ds) _ r, e => RepS.get (ds := ds) (i := i) r (by simpa using e)
theorem RepS.set {d : D} {v : V} (h : Rep K F d v) : ∀ {ds : List (Option D)} {vs : List (Option V)} (i : Nat), RepS K F ds vs → RepS K F (ds.set i (Option.some d)) (vs.set i (Option.some v))
  | _, _, _, .nil => .nil
  | _, _, 0, .yes _ r => .yes h r
  | _, _, 0, .no _ r => .yes h r
  | _, _, i + 1, .yes q r => .yes q (RepS.set h i r)
  | _, _, i + 1, .no o r => .no o (RepS.set h i r)
theorem RepS.unset (o : Option V) : ∀ {ds : List (Option D)} {vs : List (Option V)} (i : Nat), RepS K F ds vs → RepS K F (ds.set i Option.none) (vs.set i o)
  | _, _, _, .nil => .nil
  | _, _, 0, .yes _ r => .no o r
  | _, _, 0, .no _ r => .no o r
  | _, _, i + 1, .yes q r => .yes q (RepS.unset o i r)
  | _, _, i + 1, .no z r => .no z (RepS.unset o i r)
theorem RepS.length : ∀ {ds : List (Option D)} {vs : List (Option V)}, RepS K F ds vs → ds.length = vs.length
  | _, _, .nil => rfl
  | _, _, .yes _ r => congrArg Nat.succ r.length
  | _, _, .no _ r => congrArg Nat.succ r.length
theorem RepS.append : ∀ {ds : List (Option D)} {vs : List (Option V)} {es : List (Option D)} {ws : List (Option V)}, RepS K F ds vs → RepS K F es ws → RepS K F (ds ++ es) (vs ++ ws)
  | _, _, _, _, .nil, s => s
  | _, _, _, _, .yes h r, s => .yes h (r.append s)
  | _, _, _, _, .no o r, s => .no o (r.append s)
theorem RepS.nones : ∀ n : Nat, RepS K F (List.replicate n Option.none) (List.replicate n Option.none)
  | 0 => .nil
  | n + 1 => .no Option.none (RepS.nones n)
theorem RepL.length : ∀ {ds : List D} {vs : List V}, RepL K F ds vs → ds.length = vs.length
  | _, _, .nil => rfl
  | _, _, .cons _ r => congrArg Nat.succ r.length
theorem RepL.somes : ∀ {ds : List D} {vs : List V}, RepL K F ds vs → RepS K F (ds.map Option.some) (vs.map Option.some)
  | _, _, .nil => .nil
  | _, _, .cons h r => .yes h r.somes
theorem RepL.get : ∀ {ds : List D} {vs : List V} {i : Nat} {d : D}, RepL K F ds vs → ds[i]? = some d → ∃ v, vs[i]? = some v ∧ Rep K F d v
  | _, _, _, _, .nil, e => by simp at e
  | _, _, 0, _, .cons h r, e => by cases e; exact ⟨_, rfl, h⟩
  | _, _, i + 1, d, .cons (ds := ds) h r, e => RepL.get (ds := ds) (i := i) r (by simpa using e)
theorem RepL.getV : ∀ {ds : List D} {vs : List V} {i : Nat} {v : V}, RepL K F ds vs → vs[i]? = some v → ∃ d, ds[i]? = some d ∧ Rep K F d v
  | _, _, _, _, .nil, e => by simp at e
  | _, _, 0, _, .cons h r, e => by cases e; exact ⟨_, rfl, h⟩
  | _, _, i + 1, v, .cons (vs := vs) h r, e => RepL.getV (vs := vs) (i := i) r (by simpa using e)
theorem RepL.set {d : D} {v : V} (h : Rep K F d v) : ∀ {ds : List D} {vs : List V} (i : Nat), RepL K F ds vs → RepL K F (ds.set i d) (vs.set i v)
  | _, _, _, .nil => .nil
  | _, _, 0, .cons _ r => .cons h r
  | _, _, i + 1, .cons q r => .cons q (RepL.set h i r)
theorem RepL.append : ∀ {ds : List D} {vs : List V} {es : List D} {ws : List V}, RepL K F ds vs → RepL K F es ws → RepL K F (ds ++ es) (vs ++ ws)
  | _, _, _, _, .nil, s => s
  | _, _, _, _, .cons h r, s => .cons h (r.append s)
theorem RepL.take : ∀ {ds : List D} {vs : List V} (n : Nat), RepL K F ds vs → RepL K F (ds.take n) (vs.take n)
  | _, _, 0, _ => .nil
  | _, _, _ + 1, .nil => .nil
  | _, _, n + 1, .cons h r => .cons h (RepL.take n r)
theorem RepL.drop : ∀ {ds : List D} {vs : List V} (n : Nat), RepL K F ds vs → RepL K F (ds.drop n) (vs.drop n)
  | _, _, 0, r => r
  | _, _, _ + 1, .nil => .nil
  | _, _, n + 1, .cons h r => RepL.drop n r
theorem RepF.look : ∀ {fs : List (Str × D)} {vs : List (Str × V)} {f : Str} {d : D}, RepF K F fs vs → fs.lookup f = some d → ∃ v, vs.lookup f = some v ∧ Rep K F d v
  | _, _, f, d, .nil, e => by cases e
  | _, _, f, d, .cons (k := k) (d := d0) h r, e => by
    by_cases q : f = k
    · subst q
      simp only [List.lookup, beq_self_eq_true] at e ⊢
      cases e; exact ⟨_, rfl, h⟩
    · have z : (f == k) = false := by simpa using q
      simp only [List.lookup, z] at e ⊢
      exact RepF.look r e
theorem RepF.length : ∀ {ds : List (Str × D)} {vs : List (Str × V)}, RepF K F ds vs → ds.length = vs.length
  | _, _, .nil => rfl
  | _, _, .cons _ r => congrArg Nat.succ r.length
theorem RepK.length : ∀ {ds : List (Key × D)} {vs : List (Key × V)}, RepK K F ds vs → ds.length = vs.length
  | _, _, .nil => rfl
  | _, _, .cons _ r => congrArg Nat.succ r.length
end
def ErO (C : Addr) (d : Option Addr) (a : Addr) : HO := .ext fun h => ∃ (oe : Obj) (vs : Array Value), h.get? a = some oe ∧ oe.cls = .ref C ∧ oe.dict = d ∧ oe.data = .fields vs
inductive MO where
  | lst (xs : List D) | dK (ks : List (Key × D)) | dT (ks : List (List Key × D))
  | ins (C : Addr) (fs : List (Str × D)) | sl (C dx : Addr) (vs : List (Option D)) | xd (fs : List (Str × D)) | tb (q : Str) | er (C : Addr) (d : Option Addr)
abbrev MH := Addr → Option MO
def mup (M : MH) (p : Addr) (o : MO) : MH := fun q => if q = p then some o else M q
def mdel (M : MH) (p : Addr) : MH := fun q => if q = p then none else M q
theorem mup_same {M : MH} {p : Addr} {o : MO} : mup M p o p = some o := if_pos rfl
theorem mup_ne {M : MH} {p q : Addr} {o : MO} (h : q ≠ p) : mup M p o q = M q := if_neg h
theorem mup_mup {M : MH} {p : Addr} {o o' : MO} : mup (mup M p o) p o' = mup M p o' := by
  funext q; unfold mup; split <;> rfl
theorem mdel_same {M : MH} {p : Addr} : mdel M p p = none := if_pos rfl
theorem mdel_ne {M : MH} {p q : Addr} (h : q ≠ p) : mdel M p q = M q := if_neg h
def Dx (F : Hp) (dx : Addr) : Prop := ∀ u, F dx = some u → u = .xd []
theorem Dx.upd {F : Hp} {dx p : Addr} {o : HO} (h : Dx F dx) (n : dx ≠ p) : Dx (upd F p o) dx := fun u e => h u (by rw [upd_ne n] at e; exact e)
theorem Dx.of {F : Hp} {dx : Addr} (h : F dx = none) : Dx F dx := fun u e => by rw [h] at e; cases e
def RM (K : PySem.W.Frag) (R F H : Hp) (M : MH) (p : Addr) : MO → Prop
  | .lst ds => ∃ vs, H p = some (.lst vs) ∧ RepL K F ds vs
  | .dK ks => ∃ kvs, H p = some (.dK kvs) ∧ RepK K F ks kvs
  | .dT ks => ∃ kvs, H p = some (.dT kvs) ∧ RepT K F ks kvs
  | .ins C fs => ∃ dx vs, H p = some (.ins C dx vs) ∧ RepF K F fs vs
  | .sl C dx vs => Dx F dx ∧ M dx = none ∧ R dx = none ∧ dx ≠ p ∧ (∃ u, H dx = some u ∧ ∀ xs, u ≠ .tup xs) ∧ ∃ ws, SlX.Slt H p C dx ws ∧ RepS K F vs ws
  | .xd fs => ∃ vs, H p = some (.xd vs) ∧ RepF K F fs vs
  | .tb q => ∃ ps : Array Value, H p = some (.tbl ps) ∧ TriplesOk ps.toList ∧ ∀ (pos : Pos) (cv : Value), codeAmong pos ps.toList = some cv → ∃ c, cv = .ref c ∧ F c = some (LamX.CodeO c q)
  | .er C d => H p = some (ErO C d p)
structure HM (K : PySem.W.Frag) (R F H : Hp) (M : MH) : Prop where
  ex : Ex F H
  fr : ∀ p o, M p = some o → F p = none
  ob : ∀ p o, M p = some o → RM K R F H M p o
  rr : ∀ p o, R p = some o → H p = some o ∧ F p = none ∧ M p = none
  rt : ∀ p o, R p = some o → ∀ xs, o ≠ .tup xs
theorem rt_upd {R : Hp} {p : Addr} {u : HO} (h : ∀ q o, R q = some o → ∀ xs, o ≠ .tup xs) (n : ∀ xs, u ≠ .tup xs) : ∀ q o, upd R p u q = some o → ∀ xs, o ≠ .tup xs := fun q o e xs => by
  by_cases z : q = p
  · rw [z, upd_same] at e; cases e; exact n xs
  · rw [upd_ne z] at e; exact h q o e xs
theorem rt_back {R : Hp} {p : Addr} {u : HO} (h : ∀ q o, upd R p u q = some o → ∀ xs, o ≠ .tup xs) (n : R p = none) : ∀ q o, R q = some o → ∀ xs, o ≠ .tup xs := fun q o e xs => by
  have z : q ≠ p := fun z => by rw [z, n] at e; cases e
  exact h q o (by rw [upd_ne z]; exact e) xs
section
variable {K : PySem.W.Frag} {R F F' H H' : Hp} {M M' : MH} {p q : Addr} {o : MO} {u : HO}
theorem HM.there (h : HM K R F H M) (e : M p = some o) : ∃ u, H p = some u := by
  have r := h.ob p o e
  cases o with
  | lst ds => obtain ⟨vs, r, _⟩ := r; exact ⟨_, r⟩
  | dK ds => obtain ⟨vs, r, _⟩ := r; exact ⟨_, r⟩
  | dT ds => obtain ⟨vs, r, _⟩ := r; exact ⟨_, r⟩
  | ins C fs => obtain ⟨dx, vs, r, _⟩ := r; exact ⟨_, r⟩
  | sl C dx vs =>
    obtain ⟨_, _, _, _, _, ws, r, _⟩ := r
    rcases r with r | r
    · exact ⟨_, r.1⟩
    · exact ⟨_, r.1⟩
  | xd fs => obtain ⟨vs, r, _⟩ := r; exact ⟨_, r⟩
  | tb q => obtain ⟨ps, r, _⟩ := r; exact ⟨_, r⟩
  | er C d => exact ⟨_, r⟩
theorem HM.freeM (h : HM K R F H M) (e : H p = none) : M p = none := by
  cases q : M p with
  | none => rfl
  | some o => obtain ⟨u, z⟩ := h.there q; rw [e] at z; cases z
theorem HM.freeF (h : HM K R F H M) (e : H p = none) : F p = none := h.ex.back e
theorem HM.freeR (h : HM K R F H M) (e : H p = none) : R p = none := by
  cases q : R p with
  | none => rfl
  | some o => have z := (h.rr p o q).1; rw [e] at z; cases z
theorem RM.to {o : MO} (r : RM K R F H M p o) (e : Ex F F') (h : ∀ q, (q = p ∨ ∃ C vs, o = .sl C q vs) → ∀ u, H q = some u → H' q = some u) (hd : ∀ C dx vs, o = .sl C dx vs → Dx F' dx ∧ M' dx = none) : RM K R F' H' M' p o := by
  cases o with
  | lst ds => obtain ⟨vs, r, z⟩ := r; exact ⟨vs, h p (.inl rfl) _ r, z.mono e⟩
  | dK ds => obtain ⟨vs, r, z⟩ := r; exact ⟨vs, h p (.inl rfl) _ r, z.mono e⟩
  | dT ds => obtain ⟨vs, r, z⟩ := r; exact ⟨vs, h p (.inl rfl) _ r, z.mono e⟩
  | ins C fs => obtain ⟨dx, vs, r, z⟩ := r; exact ⟨dx, vs, h p (.inl rfl) _ r, z.mono e⟩
  | sl C dx vs =>
    obtain ⟨f1, f2, f0, f3, ⟨u, f4, f6⟩, ws, r, z⟩ := r
    obtain ⟨g1, g2⟩ := hd C dx vs rfl
    refine ⟨g1, g2, f0, f3, ⟨u, h dx (.inr ⟨C, vs, rfl⟩) _ f4, f6⟩, ws, ?_, z.mono e⟩
    rcases r with r | r
    · exact .inl ⟨h p (.inl rfl) _ r.1, r.2⟩
    · exact .inr ⟨h p (.inl rfl) _ r.1, h dx (.inr ⟨C, vs, rfl⟩) _ r.2⟩
  | xd fs => obtain ⟨vs, r, z⟩ := r; exact ⟨vs, h p (.inl rfl) _ r, z.mono e⟩
  | tb q => obtain ⟨ps, r, z, y⟩ := r; exact ⟨ps, h p (.inl rfl) _ r, z, fun pos cv hc => by obtain ⟨c, e1, e2⟩ := y pos cv hc; exact ⟨c, e1, e _ _ e2⟩⟩
  | er C d => exact h p (.inl rfl) _ r
theorem HM.slotted (h : HM K R F H M) {C dx : Addr} {vs : List (Option D)} (e : M p = some (.sl C dx vs)) : Dx F dx ∧ M dx = none ∧ R dx = none ∧ dx ≠ p ∧ ∃ u, H dx = some u := by
  obtain ⟨a, b, c, d, ⟨u, f, _⟩, _⟩ := h.ob p _ e
  exact ⟨a, b, c, d, u, f⟩
theorem HM.cold (h : HM K R F H M) (n : H p = none) : HM K R (upd F p u) (upd H p u) M := by
  refine ⟨fun a v e => ?_, fun q o e => ?_, fun q o e => ?_, fun q o e => ?_, h.rt⟩
  · by_cases z : a = p
    · subst z; rw [upd_same] at e ⊢; exact e
    · rw [upd_ne z] at e ⊢; exact h.ex _ _ e
  · have z : q ≠ p := fun z => by rw [z, h.freeM n] at e; cases e
    rw [upd_ne z]; exact h.fr q o e
  · refine (h.ob q o e).to (Ex.new (h.freeF n)) (fun b _ v z => (Ex.new n) b v z) fun C dx vs z => ?_
    subst z
    obtain ⟨f1, f2, _, _, w, f4⟩ := h.slotted e
    exact ⟨f1.upd (ne_of_none f4 n), f2⟩
  · obtain ⟨a, b, c⟩ := h.rr q o e
    have z := ne_of_none a n
    exact ⟨by rw [upd_ne z]; exact a, by rw [upd_ne z]; exact b, c⟩
theorem Ex.cold (h : HM K R F H M) (n : H p = none) : Ex F (upd F p u) := Ex.new (h.freeF n)
theorem HM.warm (h : HM K R F H M) (n : H p = none) (r : RM K R F (upd H p u) (mup M p o) p o) : HM K R F (upd H p u) (mup M p o) := by
  refine ⟨h.ex.trans (Ex.new n), fun q o' e => ?_, fun q o' e => ?_, fun q o e => ?_, h.rt⟩
  · by_cases z : q = p
    · rw [z]; exact h.freeF n
    · rw [mup_ne z] at e; exact h.fr q o' e
  · by_cases z : q = p
    · rw [z, mup_same] at e; cases e; rw [z]; exact r
    · rw [mup_ne z] at e
      refine (h.ob q o' e).to (Ex.refl F) (fun b _ v z => (Ex.new n) b v z) fun C dx vs z => ?_
      subst z
      obtain ⟨f1, f2, _, _, w, f4⟩ := h.slotted e
      exact ⟨f1, by rw [mup_ne (ne_of_none f4 n)]; exact f2⟩
  · obtain ⟨a, b, c⟩ := h.rr q o e
    have z := ne_of_none a n
    exact ⟨by rw [upd_ne z]; exact a, b, by rw [mup_ne z]; exact c⟩
theorem HM.put {o' : MO} (h : HM K R F H M) (e : M p = some o') (r : RM K R F (upd H p u) (mup M p o) p o) : HM K R F (upd H p u) (mup M p o) := by
  refine ⟨fun a v z => ?_, fun q o' e => ?_, fun q o2 e2 => ?_, fun q o2 e2 => ?_, h.rt⟩
  · rw [upd_ne (ne_of_none z (h.fr p _ e))]; exact h.ex _ _ z
  · by_cases z : q = p
    · rw [z]; exact h.fr p _ (by assumption)
    · rw [mup_ne z] at e; exact h.fr q o' e
  · by_cases z : q = p
    · rw [z, mup_same] at e2; cases e2; rw [z]; exact r
    · rw [mup_ne z] at e2
      have nd : ∀ C dx vs, o2 = .sl C dx vs → dx ≠ p := fun C dx vs z2 z3 => by
        subst z2
        have := (h.slotted e2).2.1
        rw [z3, e] at this; cases this
      refine (h.ob q o2 e2).to (Ex.refl F) (fun b hb v z4 => ?_) fun C dx vs z2 => ?_
      · have : b ≠ p := by
          rcases hb with hb | ⟨C, vs, hb⟩
          · rw [hb]; exact z
          · exact nd C b vs hb
        rw [upd_ne this]; exact z4
      · have n := nd C dx vs z2
        subst z2
        obtain ⟨f1, f2, _⟩ := h.slotted e2
        exact ⟨f1, by rw [mup_ne n]; exact f2⟩
  · obtain ⟨a, b, c⟩ := h.rr q o2 e2
    have z : q ≠ p := fun z => by rw [z, e] at c; cases c
    exact ⟨by rw [upd_ne z]; exact a, b, by rw [mup_ne z]; exact c⟩
theorem HM.stop (h : HM K R F H M) (e : M p = some o) (z : H p = some u) : Ex F (upd F p u) ∧ HM K R (upd F p u) H (mdel M p) := by
  have fp := h.fr p o e
  refine ⟨Ex.new fp, fun a v e => ?_, fun q o' e' => ?_, fun q o' e' => ?_, fun q o2 e2 => ?_, h.rt⟩
  · by_cases z2 : a = p
    · rw [z2, upd_same] at e; rw [z2, z]; exact e
    · rw [upd_ne z2] at e; exact h.ex _ _ e
  · have n : q ≠ p := fun z => by rw [z, mdel_same] at e'; cases e'
    rw [upd_ne n]; rw [mdel_ne n] at e'; exact h.fr q o' e'
  · have n : q ≠ p := fun z => by rw [z, mdel_same] at e'; cases e'
    rw [mdel_ne n] at e'
    refine (h.ob q o' e').to (Ex.new fp) (fun b _ v z => z) fun C dx vs z2 => ?_
    subst z2
    obtain ⟨f1, f2, _⟩ := h.slotted e'
    have nd : dx ≠ p := fun z3 => by rw [z3, e] at f2; cases f2
    exact ⟨f1.upd nd, by rw [mdel_ne nd]; exact f2⟩
  · obtain ⟨a, b, c⟩ := h.rr q o2 e2
    have z : q ≠ p := fun z => by rw [z, e] at c; cases c
    exact ⟨a, by rw [upd_ne z]; exact b, by rw [mdel_ne z]; exact c⟩
theorem HM.lend (h : HM K R F H M) (n : H p = none) (nt : ∀ xs, u ≠ .tup xs := by intro _ z; cases z) : HM K (upd R p u) F (upd H p u) M := by
  refine ⟨h.ex.trans (Ex.new n), h.fr, fun q o' e => ?_, fun q o2 e2 => ?_, rt_upd h.rt nt⟩
  · have r := (h.ob q o' e).to (H' := upd H p u) (M' := M) (Ex.refl F) (fun b _ v z => (Ex.new n) b v z) fun C dx vs z => by
      subst z
      obtain ⟨f1, f2, _⟩ := h.slotted e
      exact ⟨f1, f2⟩
    cases o' with
    | sl C dx vs =>
      obtain ⟨f1, f2, f0, f3, f4, f5⟩ := r
      obtain ⟨_, _, _, _, w, g⟩ := h.slotted e
      exact ⟨f1, f2, by rw [upd_ne (ne_of_none g n)]; exact f0, f3, f4, f5⟩
    | _ => exact r
  · by_cases z : q = p
    · rw [z, upd_same] at e2; cases e2; rw [z]; exact ⟨upd_same, h.freeF n, h.freeM n⟩
    · rw [upd_ne z] at e2
      obtain ⟨a, b, c⟩ := h.rr q o2 e2
      exact ⟨by rw [upd_ne z]; exact a, b, c⟩
theorem HM.lent {v : HO} (h : HM K (upd R p u) F H M) (n : R p = none) (nt : ∀ xs, v ≠ .tup xs := by intro _ z; cases z) : HM K (upd R p v) F (upd H p v) M := by
  obtain ⟨hp, fp, mp⟩ := h.rr p u upd_same
  refine ⟨fun a w e => ?_, h.fr, fun q o' e => ?_, fun q o2 e2 => ?_, rt_upd (rt_back h.rt n) nt⟩
  · rw [upd_ne (ne_of_none e fp)]; exact h.ex _ _ e
  · have nq : q ≠ p := fun z => by rw [z, mp] at e; cases e
    have nd : ∀ C dx vs, o' = .sl C dx vs → dx ≠ p := fun C dx vs z z2 => by
      subst z
      have := (h.slotted e).2.2.1
      rw [z2, upd_same] at this; cases this
    have r := (h.ob q o' e).to (H' := upd H p v) (M' := M) (Ex.refl F) (fun b hb w z => by
        have : b ≠ p := by
          rcases hb with hb | ⟨C, vs, hb⟩
          · rw [hb]; exact nq
          · exact nd C b vs hb
        rw [upd_ne this]; exact z) fun C dx vs z => by
      subst z
      obtain ⟨f1, f2, _⟩ := h.slotted e
      exact ⟨f1, f2⟩
    cases o' with
    | sl C dx vs =>
      obtain ⟨f1, f2, f0, f3, f4, f5⟩ := r
      have n2 := nd C dx vs rfl
      exact ⟨f1, f2, by rw [upd_ne n2] at f0 ⊢; exact f0, f3, f4, f5⟩
    | _ => exact r
  · by_cases z : q = p
    · rw [z, upd_same] at e2; cases e2; rw [z]; exact ⟨upd_same, fp, mp⟩
    · rw [upd_ne z] at e2
      obtain ⟨a, b, c⟩ := h.rr q o2 (by rw [upd_ne z]; exact e2)
      exact ⟨by rw [upd_ne z]; exact a, b, c⟩
theorem HM.back (h : HM K (upd R p u) F H M) (n : R p = none) : Ex F (upd F p u) ∧ HM K R (upd F p u) H M := by
  obtain ⟨hp, fp, mp⟩ := h.rr p u upd_same
  refine ⟨Ex.new fp, fun a v e => ?_, fun q o' e' => ?_, fun q o' e' => ?_, fun q o2 e2 => ?_, rt_back h.rt n⟩
  · by_cases z2 : a = p
    · rw [z2, upd_same] at e; rw [z2, hp]; exact e
    · rw [upd_ne z2] at e; exact h.ex _ _ e
  · have n : q ≠ p := fun z => by rw [z, mp] at e'; cases e'
    rw [upd_ne n]; exact h.fr q o' e'
  · have nd : ∀ C dx vs, o' = .sl C dx vs → dx ≠ p := fun C dx vs z z2 => by
      subst z
      have := (h.slotted e').2.2.1
      rw [z2, upd_same] at this; cases this
    have r := (h.ob q o' e').to (H' := H) (M' := M) (Ex.new (o := u) fp) (fun b _ w z => z) fun C dx vs z2 => by
      have n2 := nd C dx vs z2
      subst z2
      obtain ⟨f1, f2, _⟩ := h.slotted e'
      exact ⟨f1.upd n2, f2⟩
    cases o' with
    | sl C dx vs =>
      obtain ⟨f1, f2, f0, f3, f4, f5⟩ := r
      have n2 := nd C dx vs rfl
      exact ⟨f1, f2, by rw [upd_ne n2] at f0; exact f0, f3, f4, f5⟩
    | _ => exact r
  · have z : q ≠ p := fun z => by rw [z, n] at e2; cases e2
    obtain ⟨a, b, c⟩ := h.rr q o2 (by rw [upd_ne z]; exact e2)
    exact ⟨a, by rw [upd_ne z]; exact b, c⟩
end
end Dv
namespace Dv
open PySem PySem.Spec L2
abbrev Sl := List (Option D)
abbrev DQ := D → MH → Prop
abbrev DE := Sl → MH → DQ → Prop
abbrev DT := Sl → MH → (Bool → MH → Prop) → Prop
abbrev DA := Sl → MH → (List D → MH → Prop) → Prop
structure DEnds where
  nx : Sl → MH → Prop
  rt : DQ
  bk : Sl → MH → Prop := fun _ _ => False
  ct : Sl → MH → Prop := fun _ _ => False
abbrev DS := DEnds → Sl → MH → Prop
structure Br (b : Bool) (A B : Prop) : Prop where
  yes : b = true → A
  no : b = false → B
theorem Br.t {A B : Prop} (h : A) : Br true A B := ⟨fun _ => h, fun z => nomatch z⟩
theorem Br.f {A B : Prop} (h : B) : Br false A B := ⟨fun z => (nomatch z), fun _ => h⟩
theorem Br.of_t {b : Bool} {A B : Prop} (e : b = true) (h : A) : Br b A B := ⟨fun _ => h, fun z => by rw [e] at z; cases z⟩
theorem Br.of_f {b : Bool} {A B : Prop} (e : b = false) (h : B) : Br b A B := ⟨fun z => (by rw [e] at z; cases z), fun _ => h⟩

def Cont (K : PySem.W.Frag) (R F : Hp) (Qd : DQ) (Q : VK) : Prop := ∀ F' H' M' d v, Ex F F' → HM K R F' H' M' → Rep K F' d v → Qd d M' → Q v H'
def ContB (K : PySem.W.Frag) (R F : Hp) (Qd : Bool → MH → Prop) (Q : Bool → Hp → Prop) : Prop := ∀ F' H' M' b, Ex F F' → HM K R F' H' M' → Qd b M' → Q b H'
def ContL (K : PySem.W.Frag) (R F : Hp) (Qd : List D → MH → Prop) (Q : List V → Hp → Prop) : Prop := ∀ F' H' M' d v, Ex F F' → HM K R F' H' M' → RepL K F' d v → Qd d M' → Q v H'
def ContS (K : PySem.W.Frag) (R F : Hp) (Qd : Sl → MH → Prop) (Q : St → Hp → Prop) : Prop := ∀ F' H' M' ds σ, Ex F F' → HM K R F' H' M' → RepS K F' ds σ → Qd ds M' → Q σ H'
structure ContE (K : PySem.W.Frag) (R F : Hp) (Dd : DEnds) (D : Ends) : Prop where
  nx : ContS K R F Dd.nx D.nx
  rt : Cont K R F Dd.rt D.rt
  bk : ContS K R F Dd.bk D.bk
  ct : ContS K R F Dd.ct D.ct
section
variable {K : PySem.W.Frag} {R F F' : Hp}
theorem Cont.mono {Qd : DQ} {Q : VK} (c : Cont K R F Qd Q) (e : Ex F F') : Cont K R F' Qd Q := fun G H M d v g => c G H M d v (e.trans g)
theorem ContB.mono {Qd : Bool → MH → Prop} {Q : Bool → Hp → Prop} (c : ContB K R F Qd Q) (e : Ex F F') : ContB K R F' Qd Q := fun G H M d g => c G H M d (e.trans g)
theorem ContL.mono {Qd : List D → MH → Prop} {Q : List V → Hp → Prop} (c : ContL K R F Qd Q) (e : Ex F F') : ContL K R F' Qd Q := fun G H M d v g => c G H M d v (e.trans g)
theorem ContS.mono {Qd : Sl → MH → Prop} {Q : St → Hp → Prop} (c : ContS K R F Qd Q) (e : Ex F F') : ContS K R F' Qd Q := fun G H M d v g => c G H M d v (e.trans g)
theorem ContE.mono {Dd : DEnds} {D : Ends} (c : ContE K R F Dd D) (e : Ex F F') : ContE K R F' Dd D := ⟨c.nx.mono e, c.rt.mono e, c.bk.mono e, c.ct.mono e⟩
end
structure At (K : PySem.W.Frag) (R F0 F H : Hp) (σ : St) (ds : Sl) (M : MH) : Prop where
  ex : Ex F0 F
  hm : HM K R F H M
  rs : RepS K F ds σ
theorem At.go {K : PySem.W.Frag} {R F0 F H F' H' : Hp} {σ : St} {ds : Sl} {M M' : MH} (a : At K R F0 F H σ ds M) (e : Ex F F') (h : HM K R F' H' M') : At K R F0 F' H' σ ds M' := ⟨a.ex.trans e, h, a.rs.mono e⟩
def up (K : PySem.W.Frag) (R F0 : Hp) (t : DE) : TE := fun σ H Q => ∃ F ds M Qd, At K R F0 F H σ ds M ∧ t ds M Qd ∧ Cont K R F Qd Q
def upT (K : PySem.W.Frag) (R F0 : Hp) (t : DT) : TT := fun σ H Q => ∃ F ds M Qd, At K R F0 F H σ ds M ∧ t ds M Qd ∧ ContB K R F Qd Q
def upA (K : PySem.W.Frag) (R F0 : Hp) (t : DA) : TA := fun σ H Q => ∃ F ds M Qd, At K R F0 F H σ ds M ∧ t ds M Qd ∧ ContL K R F Qd Q
def upS (K : PySem.W.Frag) (R F0 : Hp) (t : DS) : TS := fun D σ H => ∃ F ds M Dd, At K R F0 F H σ ds M ∧ t Dd ds M ∧ ContE K R F Dd D
abbrev PDE (R F0 : Hp) (X : Cx) (e : Expr) (t : DE) : Prop := PE X e (up X.K R F0 t)
abbrev PDT (R F0 : Hp) (X : Cx) (e : Expr) (t : DT) : Prop := PT X e (upT X.K R F0 t)
abbrev PDW (R F0 : Hp) (X : Cx) (e : Expr) (t : DT) : Prop := PW X e (upT X.K R F0 t)
abbrev PDA (R F0 : Hp) (X : Cx) (es : List Expr) (t : DA) : Prop := PA X es (upA X.K R F0 t)
abbrev PDS (R F0 : Hp) (X : Cx) (st : Stmt) (t : DS) : Prop := PS X st (upS X.K R F0 t)
abbrev PDSs (R F0 : Hp) (X : Cx) (st : List Stmt) (t : DS) : Prop := PSs X st (upS X.K R F0 t)
section
variable {X : Cx} {R F0 : Hp}
theorem PE.imp {e : Expr} {t t' : TE} (h : PE X e t) (k : ∀ σ H Q, t' σ H Q → t σ H Q) : PE X e t' := ⟨fun pins s σ H Q I q => h.run pins s σ H Q I (k σ H Q q)⟩
theorem PT.imp {e : Expr} {t t' : TT} (h : PT X e t) (k : ∀ σ H Q, t' σ H Q → t σ H Q) : PT X e t' := ⟨fun pins s σ H Q I q => h.run pins s σ H Q I (k σ H Q q)⟩
theorem PW.imp {e : Expr} {t t' : TT} (h : PW X e t) (k : ∀ σ H Q, t' σ H Q → t σ H Q) : PW X e t' := ⟨fun wh pins s σ H Q I q => h.run wh pins s σ H Q I (k σ H Q q)⟩
theorem PA.imp {e : List Expr} {t t' : TA} (h : PA X e t) (k : ∀ σ H Q, t' σ H Q → t σ H Q) : PA X e t' := ⟨fun pos pins s σ H Q I q => h.run pos pins s σ H Q I (k σ H Q q)⟩
theorem PS.imp {e : Stmt} {t t' : TS} (h : PS X e t) (k : ∀ D σ H, t' D σ H → t D σ H) : PS X e t' := ⟨fun pins s σ H D I q => h.run pins s σ H D I (k D σ H q)⟩
theorem PSs.imp {e : List Stmt} {t t' : TS} (h : PSs X e t) (k : ∀ D σ H, t' D σ H → t D σ H) : PSs X e t' := ⟨fun pins s σ H D I q => h.run pins s σ H D I (k D σ H q)⟩

def dVar (i : Nat) : DE := fun ds M Q => match ds[i]? with
  | some (some d) => Q d M
  | _ => False
theorem pd_var (i : Nat) {x : Str} {pos : Pos} (hN : X.N[i]? = some x := by rfl) (hv : Vis X.env.scope x := by first | exact Or.inl rfl | exact Or.inr (Or.inl rfl) | exact Or.inr (Or.inr rfl)) (hd : (x == ("__debug__" : Str)) = false := by decide)
    (hcd : (x == ("__classdict__" : Str)) = false := by decide) : PDE R F0 X (.Name x pos) (dVar i) := by
  refine PE.imp (pv i hN hv hd hcd) ?_
  rintro σ H Q ⟨F, ds, M, Qd, a, h, c⟩
  unfold dVar at h
  split at h
  · rename_i d e
    obtain ⟨v, e2, r⟩ := a.rs.get e
    exact ⟨v, e2, c _ _ _ _ _ (Ex.refl _) a.hm r h⟩
  · exact h.elim
def dC (d : D) : DE := fun _ M Q => Q d M
theorem pd_of {e : Expr} {v : V} {d : D} (h : PE X e (tC v)) (r : ∀ F, Ex F0 F → Rep X.K F d v) : PDE R F0 X e (dC d) := by
  refine PE.imp h ?_
  rintro σ H Q ⟨F, ds, M, Qd, a, h, c⟩
  exact c _ _ _ _ _ (Ex.refl _) a.hm (r F a.ex) h
theorem pd_int {i j pos} : PDE R F0 X (.Constant (.int i) j pos) (dC (.int i)) := pd_of pe_int fun _ _ => .int i
theorem pd_bl {b j pos} : PDE R F0 X (.Constant (.bool b) j pos) (dC (.bl b)) := pd_of pe_bl fun _ _ => .bl b
theorem pd_non {j pos} : PDE R F0 X (.Constant .none j pos) (dC .non) := pd_of pe_non fun _ _ => .non
theorem pd_str {x j pos} : PDE R F0 X (.Constant (.str x) j pos) (dC (.str x)) := pd_of pe_str fun _ _ => .str x
theorem pd_glob {x : Str} {d : D} {v : V} {u : Value} {pos : Pos} (hg : Gl X x) (hm : X.mg x = some u) (r : RelV v u) (rd : ∀ F, Rep X.K F d v) (hd : (x == ("__debug__" : Str)) = false := by decide) : PDE R F0 X (.Name x pos) (dC d) :=
  pd_of (pe_glob hg hm r hd) fun F _ => rd F
theorem pd_bltn {x : Str} {n : String} {pos : Pos} (hg : Gl X x) (hm : X.mg x = none) (hv : bootBuiltins x = some (.type n)) (hn : x ≠ "__name__" := by decide) (hd : (x == ("__debug__" : Str)) = false := by decide) : PDE R F0 X (.Name x pos) (dC (.ty n)) :=
  pd_of (pe_bltn (v := .ty n) hg hm hv rfl hn hd) fun _ _ => .ty n

abbrev DR1 := D → MH → DQ → Prop
abbrev DR2 := D → D → MH → DQ → Prop
def Op1 (K : PySem.W.Frag) (r : DR1) (rv : V → Hp → VK → Prop) : Prop := ∀ R F H M x vx Qd Q, HM K R F H M → Rep K F x vx → r x M Qd → Cont K R F Qd Q → rv vx H Q
def Op2 (K : PySem.W.Frag) (r : DR2) (rv : R2) : Prop := ∀ R F H M x y vx vy Qd Q, HM K R F H M → Rep K F x vx → Rep K F y vy → r x y M Qd → Cont K R F Qd Q → rv vx vy H Q
def dOp (r : DR2) (ta tb : DE) : DE := fun ds M Q => ta ds M fun x M1 => tb ds M1 fun y M2 => r x y M2 Q
def dUn (r : DR1) (ta : DE) : DE := fun ds M Q => ta ds M fun x M1 => r x M1 Q
variable {a b : Expr} {ta tb : DE} {pos : Pos}
theorem op2_up {r : DR2} {rv : R2} (o : Op2 X.K r rv) : ∀ σ H Q, up X.K R F0 (dOp r ta tb) σ H Q → tOp rv (up X.K R F0 ta) (up X.K R F0 tb) σ H Q := by
  rintro σ H Q ⟨F, ds, M, Qd, a, h, c⟩
  refine ⟨F, ds, M, _, a, h, fun F1 H1 M1 x vx e1 m1 r1 q1 => ?_⟩
  refine ⟨F1, ds, M1, _, a.go e1 m1, q1, fun F2 H2 M2 y vy e2 m2 r2 q2 => ?_⟩
  exact o R F2 H2 M2 x y vx vy _ _ m2 (r1.mono e2) r2 q2 (c.mono (e1.trans e2))
theorem pd_op {op : Operator} {r : DR2} {rv : R2} (ho : OpR X (binaryOp op) rv) (o : Op2 X.K r rv) (ha : PDE R F0 X a ta) (hb : PDE R F0 X b tb) : PDE R F0 X (.BinOp a op b pos) (dOp r ta tb) := PE.imp (pe_op ho ha hb) (op2_up o)
theorem pd_cmp {op : CmpOp} {r : DR2} {rv : R2} (ho : OpR X (compareOp op) rv) (o : Op2 X.K r rv) (ha : PDE R F0 X a ta) (hb : PDE R F0 X b tb) (hm : behindInMarks op b = false) : PDE R F0 X (.Compare a [op] [b] pos) (dOp r ta tb) := PE.imp (pe_cmpR ho ha hb hm) (op2_up o)
theorem pd_un {op : UnaryOp} {r : DR1} {rv : V → Hp → VK → Prop} (ho : UnR X (unaryOp op) rv) (o : Op1 X.K r rv) (ha : PDE R F0 X a ta) : PDE R F0 X (.UnaryOp op a pos) (dUn r ta) := by
  refine PE.imp (pe_un ho ha) ?_
  rintro σ H Q ⟨F, ds, M, Qd, a, h, c⟩
  exact ⟨F, ds, M, _, a, h, fun F1 H1 M1 x vx e1 m1 r1 q1 => o R F1 H1 M1 x vx _ _ m1 r1 q1 (c.mono e1)⟩
theorem pd_ix {r : DR2} {rv : R2} (ho : IxR X rv) (o : Op2 X.K r rv) (ha : PDE R F0 X a ta) (hb : PDE R F0 X b tb) (hs : PlainIx b) : PDE R F0 X (.Subscript a b pos) (dOp r ta tb) := PE.imp (pe_ix ho ha hb hs) (op2_up o)

def dB (t : DE) : DT := fun ds M Q => t ds M fun x M1 => match x with
  | .bl b => Q b M1
  | _ => False
theorem pdt_cmp {op : CmpOp} {r : DR2} {rv : R2} (ho : OpR X (compareOp op) rv) (o : Op2 X.K r rv) (ha : PDE R F0 X a ta) (hb : PDE R F0 X b tb) (hm : behindInMarks op b = false) : PDT R F0 X (.Compare a [op] [b] pos) (dB (dOp r ta tb)) := by
  refine PT.imp (pt_cmpR ho ha hb hm) ?_
  rintro σ H Q ⟨F, ds, M, Qd, a, h, c⟩
  refine op2_up o σ H _ ⟨F, ds, M, _, a, h, fun F1 H1 M1 x vx e1 m1 r1 q1 => ?_⟩
  cases r1 with
  | bl k => exact ⟨k, rfl, c _ _ _ _ e1 m1 q1⟩
  | _ => exact q1.elim
theorem pdt_val {e : Expr} {t : DE} (h : PDE R F0 X e t) (he : ∀ whole, isTrue e X.env whole = (do let v ← whole; standAt e.pos; holding [v] (truthy v)) := by intro _; rfl) : PDT R F0 X e (dB t) := by
  refine PT.imp (pt_val h he) ?_
  rintro σ H Q ⟨F, ds, M, Qd, a, h, c⟩
  refine ⟨F, ds, M, _, a, h, fun F1 H1 M1 x vx e1 m1 r1 q1 => ?_⟩
  cases r1 with
  | bl k => exact ⟨k, rfl, c _ _ _ _ e1 m1 q1⟩
  | _ => exact q1.elim
def dOr (t u : DT) : DT := fun ds M Q => t ds M fun c M1 => Br c (Q true M1) (u ds M1 Q)
def dNot (t : DT) : DT := fun ds M Q => t ds M fun c M1 => Q (!c) M1
variable {t u : DT} {rest : List Expr}
theorem pdw_or1 (ha : PDT R F0 X a t) : PDW R F0 X (.BoolOp .Or [a] pos) t := pw_or1 ha
theorem ite_of_br {c : Bool} {A B : Prop} (h : Br c A B) : if c = true then A else B := by
  cases c with
  | true => exact h.yes rfl
  | false => exact h.no rfl
theorem pdw_or (ha : PDT R F0 X a t) (hb : PDW R F0 X (.BoolOp .Or (b :: rest) pos) u) : PDW R F0 X (.BoolOp .Or (a :: b :: rest) pos) (dOr t u) := by
  refine PW.imp (pw_or ha hb) ?_
  rintro σ H Q ⟨F, ds, M, Qd, a, h, c⟩
  refine ⟨F, ds, M, _, a, h, fun F1 H1 M1 k e1 m1 q1 => ite_of_br ⟨fun z => ?_, fun z => ?_⟩⟩
  · exact c _ _ _ _ e1 m1 (q1.yes z)
  · exact ⟨F1, ds, M1, _, a.go e1 m1, q1.no z, c.mono e1⟩
theorem pdt_w {e : Expr} (h : PDW R F0 X e t) : PDT R F0 X e t := h.pt
theorem pdt_not (ha : PDT R F0 X a t) : PDT R F0 X (.UnaryOp .Not a pos) (dNot t) := by
  refine PT.imp (pt_not ha) ?_
  rintro σ H Q ⟨F, ds, M, Qd, a, h, c⟩
  exact ⟨F, ds, M, _, a, h, fun F1 H1 M1 k e1 m1 q1 => c _ _ _ _ e1 m1 q1⟩
def dOrV (ta tb : DE) : DE := fun ds M Q => ta ds M fun x M1 => match x with
  | .bl c => Br c (Q (.bl true) M1) (tb ds M1 Q)
  | _ => False
theorem pd_one {op} (h : PDE R F0 X a ta) : PDE R F0 X (.BoolOp op [a] pos) ta := pe_one h
theorem pd_or (ha : PDE R F0 X a ta) (hb : PDE R F0 X (.BoolOp .Or (b :: rest) pos) tb) : PDE R F0 X (.BoolOp .Or (a :: b :: rest) pos) (dOrV ta tb) := by
  refine PE.imp (pe_or ha hb) ?_
  rintro σ H Q ⟨F, ds, M, Qd, a, h, c⟩
  refine ⟨F, ds, M, _, a, h, fun F1 H1 M1 x vx e1 m1 r1 q1 => ?_⟩
  cases r1 with
  | bl k =>
    refine ⟨k, rfl, ite_of_br ⟨fun z => ?_, fun z => ?_⟩⟩
    · exact c _ _ _ _ _ e1 m1 (.bl true) (q1.yes z)
    · exact ⟨F1, ds, M1, _, a.go e1 m1, q1.no z, c.mono e1⟩
  | _ => exact q1.elim
def dIf (t : DT) (ta tb : DE) : DE := fun ds M Q => t ds M fun c M1 => Br c (ta ds M1 Q) (tb ds M1 Q)
theorem pd_if {c : Expr} (hc : PDT R F0 X c t) (ha : PDE R F0 X a ta) (hb : PDE R F0 X b tb) : PDE R F0 X (.IfExp c a b pos) (dIf t ta tb) := by
  refine PE.imp (pe_ifExp hc ha hb) ?_
  rintro σ H Q ⟨F, ds, M, Qd, a, h, c⟩
  refine ⟨F, ds, M, _, a, h, fun F1 H1 M1 k e1 m1 q1 => ite_of_br ⟨fun z => ?_, fun z => ?_⟩⟩
  · exact ⟨F1, ds, M1, _, a.go e1 m1, q1.yes z, c.mono e1⟩
  · exact ⟨F1, ds, M1, _, a.go e1 m1, q1.no z, c.mono e1⟩
def dNil : DA := fun _ M Q => Q [] M
def dCons (ta : DE) (tr : DA) : DA := fun ds M Q => ta ds M fun x M1 => tr ds M1 fun xs M2 => Q (x :: xs) M2
theorem pda_nil : PDA R F0 X [] dNil := by
  refine PA.imp pa_nil ?_
  rintro σ H Q ⟨F, ds, M, Qd, a, h, c⟩
  exact c _ _ _ _ _ (Ex.refl _) a.hm .nil h
theorem pda_cons {e : Expr} {es : List Expr} {te : DE} {tr : DA} (ha : PDE R F0 X e te) (hr : PDA R F0 X es tr) (hs : starEach (e :: es) X.env = (false, eval e X.env) :: starEach es X.env := by rfl) : PDA R F0 X (e :: es) (dCons te tr) := by
  refine PA.imp (pa_cons ha hr hs) ?_
  rintro σ H Q ⟨F, ds, M, Qd, a, h, c⟩
  refine ⟨F, ds, M, _, a, h, fun F1 H1 M1 x vx e1 m1 r1 q1 => ?_⟩
  refine ⟨F1, ds, M1, _, a.go e1 m1, q1, fun F2 H2 M2 xs vs e2 m2 r2 q2 => ?_⟩
  exact c _ _ _ _ _ (e1.trans e2) m2 (.cons (r1.mono e2) r2) q2
def dTup (t : DA) : DE := fun ds M Q => t ds M fun xs M1 => xs.length ≤ sizeLine ∧ Q (.tup xs) M1
def dLst (t : DA) : DE := fun ds M Q => t ds M fun xs M1 => xs.length ≤ sizeLine ∧ Q (.lst xs) M1
def dLstM (t : DA) : DE := fun ds M Q => t ds M fun xs M1 => xs.length ≤ sizeLine ∧ ∀ p, M1 p = none → Q (.ref p) (mup M1 p (.lst xs))
theorem pd_tup {es : List Expr} {t : DA} {x1} (h : PDA R F0 X es t) : PDE R F0 X (.Tuple es x1 pos) (dTup t) := by
  refine PE.imp (pe_tup h) ?_
  rintro σ H Q ⟨F, ds, M, Qd, a, h, c⟩
  refine ⟨F, ds, M, _, a, h, fun F1 H1 M1 xs vs e1 m1 r1 q1 => ⟨r1.length ▸ q1.1, fun p hp => ?_⟩⟩
  exact c _ _ _ _ _ (e1.trans (.cold m1 hp)) (m1.cold hp) (.tup upd_same (r1.mono (.cold m1 hp))) q1.2
theorem pd_lst {es : List Expr} {t : DA} (h : PDA R F0 X es t) : PDE R F0 X (.List es pos) (dLst t) := by
  refine PE.imp (pe_lst h) ?_
  rintro σ H Q ⟨F, ds, M, Qd, a, h, c⟩
  refine ⟨F, ds, M, _, a, h, fun F1 H1 M1 xs vs e1 m1 r1 q1 => ⟨r1.length ▸ q1.1, fun p hp => ?_⟩⟩
  exact c _ _ _ _ _ (e1.trans (.cold m1 hp)) (m1.cold hp) (.lst upd_same (r1.mono (.cold m1 hp))) q1.2
theorem pd_lstM {es : List Expr} {t : DA} (h : PDA R F0 X es t) : PDE R F0 X (.List es pos) (dLstM t) := by
  refine PE.imp (pe_lst h) ?_
  rintro σ H Q ⟨F, ds, M, Qd, a, h, c⟩
  refine ⟨F, ds, M, _, a, h, fun F1 H1 M1 xs vs e1 m1 r1 q1 => ⟨r1.length ▸ q1.1, fun p hp => ?_⟩⟩
  exact c _ _ _ _ _ e1 (m1.warm (o := .lst xs) hp ⟨vs, upd_same, r1⟩) (.ref p) (q1.2 p (m1.freeM hp))

def dNext : DS := fun D ds M => D.nx ds M
def dSeq (t u : DS) : DS := fun D ds M => t { D with nx := u D } ds M
variable {st : Stmt} {sts : List Stmt} {ts us : DS} {e : Expr} {te : DE}
theorem pds_nil : PDSs R F0 X [] dNext := by
  refine PSs.imp pss_nil ?_
  rintro D σ H ⟨F, ds, M, Dd, a, h, c⟩
  exact c.nx _ _ _ _ _ (Ex.refl _) a.hm a.rs h
theorem pds_cons (h1 : PDS R F0 X st ts) (h2 : PDSs R F0 X sts us) : PDSs R F0 X (st :: sts) (dSeq ts us) := by
  refine PSs.imp (pss_cons h1 h2) ?_
  rintro D σ H ⟨F, ds, M, Dd, a, h, c⟩
  refine ⟨F, ds, M, _, a, h, ⟨fun F1 H1 M1 ds1 σ1 e1 m1 r1 q1 => ?_, c.rt, c.bk, c.ct⟩⟩
  exact ⟨F1, ds1, M1, Dd, ⟨a.ex.trans e1, m1, r1⟩, q1, c.mono e1⟩
theorem pds_one (h1 : PDS R F0 X st ts) : PDSs R F0 X [st] ts := by
  refine PSs.imp (pds_cons h1 pds_nil) ?_
  rintro D σ H ⟨F, ds, M, Dd, a, h, c⟩
  exact ⟨F, ds, M, Dd, a, h, c⟩
def dRet (te : DE) : DS := fun D ds M => te ds M D.rt
theorem pd_ret (he : PDE R F0 X e te) : PDS R F0 X (.Return (some e) pos) (dRet te) := by
  refine PS.imp (ps_ret he) ?_
  rintro D σ H ⟨F, ds, M, Dd, a, h, c⟩
  exact ⟨F, ds, M, _, a, h, c.rt⟩
def dIfS (c : DT) (t u : DS) : DS := fun D ds M => c ds M fun b M1 => Br b (t D ds M1) (u D ds M1)
theorem pd_ifS {c : Expr} {a b : List Stmt} {tc : DT} (hc : PDT R F0 X c tc) (ha : PDSs R F0 X a ts) (hb : PDSs R F0 X b us) : PDS R F0 X (.If c a b pos) (dIfS tc ts us) := by
  refine PS.imp (ps_if hc ha hb) ?_
  rintro D σ H ⟨F, ds, M, Dd, a, h, c⟩
  refine ⟨F, ds, M, _, a, h, fun F1 H1 M1 k e1 m1 q1 => ite_of_br ⟨fun z => ?_, fun z => ?_⟩⟩
  · exact ⟨F1, ds, M1, _, a.go e1 m1, q1.yes z, c.mono e1⟩
  · exact ⟨F1, ds, M1, _, a.go e1 m1, q1.no z, c.mono e1⟩
abbrev DG := D → Sl → MH → (Sl → MH → Prop) → Prop
abbrev DGs := List D → Sl → MH → (Sl → MH → Prop) → Prop
def upG (K : PySem.W.Frag) (R F0 : Hp) (g : DG) : TG := fun v σ H Q => ∃ F ds M d Qd, At K R F0 F H σ ds M ∧ Rep K F d v ∧ g d ds M Qd ∧ ContS K R F Qd Q
def upGs (K : PySem.W.Frag) (R F0 : Hp) (g : DGs) : TGs := fun v σ H Q => ∃ F ds M d Qd, At K R F0 F H σ ds M ∧ RepL K F d v ∧ g d ds M Qd ∧ ContS K R F Qd Q
abbrev PDG (R F0 : Hp) (X : Cx) (e : Expr) (g : DG) : Prop := PG X e (upG X.K R F0 g)
abbrev PDGs (R F0 : Hp) (X : Cx) (e : List Expr) (g : DGs) : Prop := PGs X e (upGs X.K R F0 g)
theorem PG.imp {e : Expr} {t t' : TG} (h : PG X e t) (k : ∀ v σ H Q, t' v σ H Q → t v σ H Q) : PG X e t' := ⟨fun pins s σ H v u Q I r q => h.run pins s σ H v u Q I r (k v σ H Q q)⟩
theorem PGs.imp {e : List Expr} {t t' : TGs} (h : PGs X e t) (k : ∀ v σ H Q, t' v σ H Q → t v σ H Q) : PGs X e t' := ⟨fun pins s σ H vs us Q I r q => h.run pins s σ H vs us Q I r (k vs σ H Q q)⟩
def dName (i : Nat) : DG := fun d ds M Q => Q (ds.set i (some d)) M
theorem pdg_name (i : Nat) {x : Str} (hN : X.N.Nodup) (hi : X.N[i]? = some x := by rfl) (hx : Loc X.env.scope x := by first | exact Or.inl rfl | exact Or.inr rfl) (hf : X.fn x = true ∨ X.env.scope.names.lookup x = some .local := by first | exact .inl rfl | exact .inr rfl | assumption) : PDG R F0 X (.Name x pos) (dName i) := by
  refine PG.imp (pg_name hN hi hx hf) ?_
  rintro v σ H Q ⟨F, ds, M, d, Qd, a, r, h, c⟩
  exact c _ _ _ _ _ (Ex.refl _) a.hm (a.rs.set r i) h
def dgNil : DGs := fun xs ds M Q => match xs with
  | [] => Q ds M
  | _ => False
def dgCons (g : DG) (gs : DGs) : DGs := fun xs ds M Q => match xs with
  | x :: xs => g x ds M fun ds1 M1 => gs xs ds1 M1 Q
  | _ => False
theorem pdgs_nil : PDGs R F0 X [] dgNil := by
  refine PGs.imp pgs_nil ?_
  rintro v σ H Q ⟨F, ds, M, d, Qd, a, r, h, c⟩
  cases r with
  | nil => exact ⟨rfl, c _ _ _ _ _ (Ex.refl _) a.hm a.rs h⟩
  | cons _ _ => exact h.elim
theorem pdgs_cons {e : Expr} {es : List Expr} {g : DG} {gs : DGs} (h1 : PDG R F0 X e g) (h2 : PDGs R F0 X es gs) (hs : (assignEach (e :: es) X.env).map (·.2) = assign e X.env :: (assignEach es X.env).map (·.2) := by rfl) : PDGs R F0 X (e :: es) (dgCons g gs) := by
  refine PGs.imp (pgs_cons h1 h2 hs) ?_
  rintro v σ H Q ⟨F, ds, M, d, Qd, a, r, h, c⟩
  cases r with
  | nil => exact h.elim
  | cons r rs =>
    refine ⟨_, _, rfl, F, ds, M, _, _, a, r, h, fun F1 H1 M1 ds1 σ1 e1 m1 r1 q1 => ?_⟩
    exact ⟨F1, ds1, M1, _, _, ⟨a.ex.trans e1, m1, r1⟩, rs.mono e1, q1, c.mono e1⟩
end
end Dv
namespace Dv
open PySem PySem.Spec L2
section
variable {X : Cx} {R F0 : Hp} {pos : Pos}
def dgTup (n : Nat) (gs : DGs) : DG := fun x ds M Q => match x with
  | .tup xs => xs.length = n ∧ gs xs ds M Q
  | _ => False
theorem pdg_tup {es : List Expr} {k : Nat} {gs : DGs} {n : Nat} (hc : X.calm = true) (h : PDGs R F0 X es gs) (hn : (assignEach es X.env).length = n := by rfl) (hst : (assignEach es X.env).findIdx? (·.1) = none := by rfl) : PDG R F0 X (.Tuple es k pos) (dgTup n gs) := by
  refine PG.imp (pg_tup hc h hn hst) ?_
  rintro v σ H Q ⟨F, ds, M, d, Qd, a, r, h, c⟩
  cases r with
  | tupX hs rs =>
    obtain ⟨h1, h2⟩ := h
    exact ⟨_, _, rfl, a.hm.ex.t hs.t, rs.length.symm.trans h1, F, ds, M, _, Qd, a, rs, h2, c⟩
  | _ => exact h.elim
abbrev DSet := D → D → D → MH → (MH → Prop) → Prop
def Set3 (K : PySem.W.Frag) (r : DSet) (rv : TSet) : Prop := ∀ R F H M o i x vo vi vx Qd Q, HM K R F H M → Rep K F o vo → Rep K F i vi → Rep K F x vx → r o i x M Qd → (∀ F' H' M', Ex F F' → HM K R F' H' M' → Qd M' → Q H') → rv vo vi vx H Q
def dgSub (to ti : DE) (r : DSet) : DG := fun x ds M Q => to ds M fun o M1 => ti ds M1 fun i M2 => r o i x M2 fun M3 => Q ds M3
theorem pdg_sub {o i : Expr} {to ti : DE} {r : DSet} {rv : TSet} (ho : PDE R F0 X o to) (hi : PDE R F0 X i ti) (hs : PSet X rv) (s3 : Set3 X.K r rv) (ha : ∀ v, assign (.Subscript o i pos) X.env v = (do
      let ov ← holding [v] (eval o X.env)
      let iv ← holding [v, ov] (eval i X.env)
      standAt pos
      holding [v, ov, iv] (setItem ov iv v)
      release [v, ov, iv] []) := by intro _; rfl) : PDG R F0 X (.Subscript o i pos) (dgSub to ti r) := by
  refine PG.imp (pg_sub ho hi hs ha) ?_
  rintro v σ H Q ⟨F, ds, M, d, Qd, a, r0, h, c⟩
  refine ⟨F, ds, M, _, a, h, fun F1 H1 M1 x vx e1 m1 r1 q1 => ?_⟩
  refine ⟨F1, ds, M1, _, a.go e1 m1, q1, fun F2 H2 M2 y vy e2 m2 r2 q2 => ?_⟩
  exact s3 R F2 H2 M2 _ _ _ _ _ _ _ _ m2 (r1.mono e2) r2 (r0.mono (e1.trans e2)) q2 fun F3 H3 M3 e3 m3 q3 => c _ _ _ _ _ ((e1.trans e2).trans e3) m3 (a.rs.mono ((e1.trans e2).trans e3)) q3
def dAsg (te : DE) (g : DG) : DS := fun D ds M => te ds M fun x M1 => g x ds M1 D.nx
theorem asg_up {te : DE} {g : DG} : ∀ D σ H, upS X.K R F0 (dAsg te g) D σ H → tAsg (up X.K R F0 te) (upG X.K R F0 g) D σ H := by
  rintro D σ H ⟨F, ds, M, Dd, a, h, c⟩
  exact ⟨F, ds, M, _, a, h, fun F1 H1 M1 x vx e1 m1 r1 q1 => ⟨F1, ds, M1, x, _, a.go e1 m1, r1, q1, c.nx.mono e1⟩⟩
theorem pd_asg {tg e : Expr} {te : DE} {g : DG} (he : PDE R F0 X e te) (hg : PDG R F0 X tg g) (hs : swapsWithSole [tg] e pos.line X.env = pure false := by rfl) (hw : swappedStores [tg] e X.env = pure none := by rfl) (h1 : (assignEach [tg] X.env).map (·.2) = [assign tg X.env] := by rfl) : PDS R F0 X (.Assign [tg] e pos) (dAsg te g) :=
  PS.imp (ps_asg he hg hs hw h1) asg_up
theorem pd_set (i : Nat) {x : Str} {e : Expr} {te : DE} {pos' : Pos} (hN : X.N.Nodup) (he : PDE R F0 X e te) (hi : X.N[i]? = some x := by rfl) (hx : Loc X.env.scope x := by first | exact Or.inl rfl | exact Or.inr rfl) (hs : swapsWith e (some (.Name x pos')) pos.line X.env = pure false := by rfl)
    (hf : X.fn x = true ∨ X.env.scope.names.lookup x = some .local := by first | exact .inl rfl | exact .inr rfl | assumption) : PDS R F0 X (.Assign [.Name x pos'] e pos) (dAsg te (dName i)) := by
  refine PS.imp (ps_set hN hi hx he hs hf) ?_
  rintro D σ H ⟨F, ds, M, Dd, a, h, c⟩
  exact ⟨F, ds, M, _, a, h, fun F1 H1 M1 x vx e1 m1 r1 q1 => c.nx _ _ _ _ _ e1 m1 ((a.rs.mono e1).set r1 i) q1⟩

def ItOk (K : PySem.W.Frag) (R F : Hp) (M : MH) (J : It) (xs : List D) : Prop := ∀ (i : Nat) F' H' M', Ex F F' → HM K R F' H' M' → M' = M →
  (xs.length ≤ i → J.stop i H') ∧ (i < xs.length → J.go i H') ∧ ∀ v H2, i < xs.length → J.yld i H' v H2 → ∃ d F2, xs[i]? = some d ∧ Ex F' F2 ∧ HM K R F2 H2 M' ∧ Rep K F2 d v
def ItOkA (K : PySem.W.Frag) (F : Hp) (J : It) (xs : List D) : Prop := ∀ R M, ItOk K R F M J xs
abbrev DI := Sl → MH → (List D → MH → Prop) → Prop
def upI (K : PySem.W.Frag) (R F0 : Hp) (t : DI) : TI := fun σ H Z => ∃ F ds M Rd, At K R F0 F H σ ds M ∧ t ds M Rd ∧ ∀ F' H' M' J xs, Ex F F' → HM K R F' H' M' → ItOkA K F' J xs → Rd xs M' → Z J H'
abbrev PDI (R F0 : Hp) (X : Cx) (tg it : Expr) (t : DI) : Prop := PI X tg it (upI X.K R F0 t)
theorem PI.imp {tg it : Expr} {t t' : TI} (h : PI X tg it t) (k : ∀ σ H R, t' σ H R → t σ H R) : PI X tg it t' := ⟨fun pins s σ H R I q => h.run pins s σ H R I (k σ H R q)⟩
def dLoop (g : DG) (body : DS) (W : DEnds) : List D → Sl → MH → Prop
  | [], ds, M => W.nx ds M
  | x :: xs, ds, M => g x ds M fun ds1 M1 => body { nx := dLoop g body W xs, rt := W.rt, bk := W.nx, ct := dLoop g body W xs } ds1 M1
def dFor (it : DI) (g : DG) (body : DS) : DS := fun D ds M => it ds M fun xs M1 => dLoop g body D xs ds M1
theorem pd_for {tg iter : Expr} {body : List Stmt} {it : DI} {g : DG} {tb : DS} (hp : PassesOwn (model X.prog X.w) X.A X.env X.xe) (hc : X.calm = true) (hi : PDI R F0 X tg iter it) (hg : PDG R F0 X tg g) (hb : PDSs R F0 X body tb)
    (hs : ∀ x, foldedSetIterable iter X.env x = pure x := by intro _; rfl) : PDS R F0 X (.For tg iter body [] pos) (dFor it g tb) := by
  refine PS.imp (ps_for hp hc hi hg hb hs) ?_
  rintro D σ H ⟨F, ds, M, Dd, a, h, c⟩
  refine ⟨F, ds, M, _, a, h, fun F1 H1 M1 J xs e1 m1 ok q1 => ?_⟩
  refine ⟨fun i m σ' H' => m = xs.length - i ∧ ∃ F' ds' M', Ex F1 F' ∧ At X.K R F0 F' H' σ' ds' M' ∧ dLoop g tb Dd (xs.drop i) ds' M', ⟨_, rfl, F1, ds, M1, Ex.refl _, a.go e1 m1, q1⟩, ?_⟩
  rintro i m σ' H' ⟨rfl, F', ds', M', e', a', q'⟩
  obtain ⟨k1, k2, k3⟩ := ok R M' i F' H' M' e' a'.hm rfl
  by_cases hlt : i < xs.length
  · refine .inr ⟨k2 hlt, fun σ2 H2 => ∃ F2 ds2 M2, Ex F1 F2 ∧ At X.K R F0 F2 H2 σ2 ds2 M2 ∧ dLoop g tb Dd (xs.drop (i + 1)) ds2 M2, fun σ2 H2 z => ⟨xs.length - (i + 1), by omega, rfl, z⟩, fun v H2 y => ?_⟩
    obtain ⟨d, F2, ed, e2, m2, r2⟩ := k3 v H2 hlt y
    rw [List.drop_eq_getElem_cons hlt] at q'
    have e3 : xs[i] = d := by rw [List.getElem?_eq_getElem hlt] at ed; exact Option.some.inj ed
    rw [e3] at q'
    refine ⟨F2, ds', M', d, _, a'.go e2 m2, r2, q', fun F3 H3 M3 ds3 σ3 e4 m3 r3 q3 => ?_⟩
    have a3 : At X.K R F0 F3 H3 σ3 ds3 M3 := ⟨(a'.ex.trans e2).trans e4, m3, r3⟩
    refine ⟨F3, ds3, M3, _, a3, q3, ?_⟩
    have cc := c.mono (e1.trans (e'.trans (e2.trans e4)))
    have nx : ContS X.K R F3 (dLoop g tb Dd (xs.drop (i + 1))) (fun σ2 H2 => ∃ F2 ds2 M2, Ex F1 F2 ∧ At X.K R F0 F2 H2 σ2 ds2 M2 ∧ dLoop g tb Dd (xs.drop (i + 1)) ds2 M2) :=
      fun F5 H5 M5 ds5 σ5 e5 m5 r5 q5 => ⟨F5, ds5, M5, ((e'.trans e2).trans e4).trans e5, ⟨a3.ex.trans e5, m5, r5⟩, q5⟩
    exact ⟨nx, cc.rt, cc.nx, nx⟩
  · refine .inl ⟨k1 (by omega), ?_⟩
    rw [List.drop_eq_nil_of_le (by omega)] at q'
    exact c.nx _ _ _ _ _ (e1.trans e') a'.hm a'.rs q'

def dSeqI (te : DE) : DI := fun ds M R => te ds M fun x M1 => match x with
  | .lst xs => R xs M1
  | _ => False
theorem itok_list {K : PySem.W.Frag} {F : Hp} {a : Addr} {vs : List V} {xs : List D} (h : SqL K F a vs) (r : RepL K F xs vs) : ItOkA K F (Itl K a) xs := by
  intro R M i F' H' M' e m _
  have hq : SqL K H' a vs := (e.trans m.ex).l h
  refine ⟨fun z => ⟨vs, hq, by rw [← r.length]; exact z⟩, fun z => ?_, ?_⟩
  · have z2 : i < vs.length := by rw [← r.length]; exact z
    exact ⟨vs, vs[i], hq, List.getElem?_eq_getElem z2⟩
  · rintro v H2 _ ⟨rfl, z⟩
    obtain ⟨d, e1, e2⟩ := r.getV (z vs hq)
    exact ⟨d, F', e1, Ex.refl _, m, e2.mono e⟩
theorem pdi_list {tg e : Expr} {te : DE} (he : PDE R F0 X e te) : PDI R F0 X tg e (dSeqI te) := by
  refine PI.imp (pi_list he) ?_
  rintro σ H Z ⟨F, ds, M, Rd, a, h, c⟩
  refine ⟨F, ds, M, _, a, h, fun F1 H1 M1 x vx e1 m1 r1 q1 => ?_⟩
  cases r1 with
  | lst hs rs => exact ⟨_, rfl, ⟨_, m1.ex.l (.inl (.inl hs))⟩, c _ _ _ _ _ e1 m1 (itok_list (.inl (.inl hs)) rs) q1⟩
  | _ => exact q1.elim
def rangeD (lo : Int) (n : Nat) : List D := (List.range n).map fun (i : Nat) => .int (lo + i)
theorem itok_range {K : PySem.W.Frag} {F : Hp} {lo : Int} {n : Nat} : ItOkA K F (Itr lo n) (rangeD lo n) := by
  intro R M i F' H' M' e m _
  have hl : (rangeD lo n).length = n := by simp [rangeD]
  rw [hl]
  refine ⟨fun z => z, fun z => z, ?_⟩
  rintro v H2 hi ⟨rfl, rfl⟩
  exact ⟨.int (lo + i), F', by simp [rangeD, List.getElem?_range hi], Ex.refl _, m, .int _⟩
def dRange1 (ta : DA) : DI := fun ds M R => ta ds M fun xs M1 => match xs with
  | [.int j] => (-(2 ^ 62) ≤ j ∧ j < 2 ^ 62) ∧ R (rangeD 0 j.toNat) M1
  | _ => False
theorem repl_one {K : PySem.W.Frag} {F : Hp} {d : D} {vs : List V} (r : RepL K F [d] vs) : ∃ v, vs = [v] ∧ Rep K F d v := by
  cases r with
  | cons h r => cases r; exact ⟨_, rfl, h⟩
theorem repl_two {K : PySem.W.Frag} {F : Hp} {d e : D} {vs : List V} (r : RepL K F [d, e] vs) : ∃ v w, vs = [v, w] ∧ Rep K F d v ∧ Rep K F e w := by
  cases r with
  | cons h r => obtain ⟨w, rfl, h2⟩ := repl_one r; exact ⟨_, _, rfl, h, h2⟩
theorem pdi_range1 {tg a : Expr} {ta : DA} {p : Pos} (hg : Gl X "range") (hm : X.mg "range" = none) (ha : PDA R F0 X [a] ta) (hs : starEach [a] X.env = [(false, eval a X.env)] := by rfl) : PDI R F0 X tg (.Call (.Name "range" p) [a] [] pos) (dRange1 ta) := by
  refine PI.imp (pi_range1 hg hm ha hs) ?_
  rintro σ H Z ⟨F, ds, M, Rd, a, h, c⟩
  refine ⟨F, ds, M, _, a, h, fun F1 H1 M1 xs vs e1 m1 r1 q1 => ?_⟩
  split at q1
  · obtain ⟨v, rfl, r⟩ := repl_one r1
    cases r
    exact ⟨_, rfl, q1.1.1, q1.1.2, c _ _ _ _ _ e1 m1 itok_range q1.2⟩
  · exact q1.elim
def dwipe (ds : Sl) : List Nat → Sl
  | [] => ds
  | v :: vs => (dwipe ds vs).set v none
theorem rep_wipe {K : PySem.W.Frag} {F : Hp} {ds : Sl} {σ : St} (r : RepS K F ds σ) : ∀ vs, RepS K F (dwipe ds vs) (wipe σ vs)
  | [] => r
  | v :: vs => RepS.unset none v (rep_wipe r vs)
def dLcL (g : DG) (tt : DT) (te : DE) (vs : List Nat) (ds : Sl) (Q : List D → MH → Prop) : List D → List D → MH → Prop
  | [], acc, M => Q acc M
  | x :: xs, acc, M => g x (dwipe ds vs) M fun ds1 M1 => tt ds1 M1 fun b M2 => Br b (te ds1 M2 fun y M3 => acc.length < sizeLine ∧ dLcL g tt te vs ds Q xs (acc ++ [y]) M3) (dLcL g tt te vs ds Q xs acc M2)
def dLc (it : DI) (g : DG) (tt : DT) (te : DE) (vs : List Nat) : DE := fun ds M Q => it ds M fun xs M1 => dLcL g tt te vs ds (fun ys M2 => Q (.lst ys) M2) xs [] M1
def dYes : DT := fun _ M Q => Q true M
theorem wipe_set {σ : St} {o : Option V} {i : Nat} : ∀ {vs : List Nat}, i ∈ vs → wipe (σ.set i o) vs = wipe σ vs
  | v :: vs, h => by
    show (wipe (σ.set i o) vs).set v none = (wipe σ vs).set v none
    by_cases e : i ∈ vs
    · rw [wipe_set e]
    · have e2 : i = v := (List.mem_cons.mp h).resolve_right e
      subst e2
      have key : ∀ vs : List Nat, i ∉ vs → wipe (σ.set i o) vs = (wipe σ vs).set i o := by
        intro vs
        induction vs with
        | nil => intro _; rfl
        | cons w ws ih =>
          intro hn
          show (wipe (σ.set i o) ws).set w none = ((wipe σ ws).set w none).set i o
          rw [ih fun z => hn (List.mem_cons_of_mem _ z)]
          exact List.set_comm _ _ fun z => hn (by rw [← z]; exact List.mem_cons_self)
      rw [key vs e, List.set_set]
theorem wipe_wipe {σ : St} : ∀ (ws vs : List Nat), (∀ i ∈ ws, i ∈ vs) → wipe (wipe σ ws) vs = wipe σ vs
  | [], vs, _ => rfl
  | w :: ws, vs, h => by
    show wipe ((wipe σ ws).set w none) vs = wipe σ vs
    rw [wipe_set (h w List.mem_cons_self)]
    exact wipe_wipe ws vs fun i z => h i (List.mem_cons_of_mem _ z)
def TgOk (K : PySem.W.Frag) (R F0 : Hp) (gV : TG) (g : DG) (vs : List Nat) : Prop := ∀ v σ σ0 H Q, wipe σ vs = σ0 → upG K R F0 g v σ H Q → gV v σ H fun σ2 H2 => wipe σ2 vs = σ0 ∧ Q σ2 H2
theorem tgok_name {K : PySem.W.Frag} {i : Nat} {vs : List Nat} (h : i ∈ vs) : TgOk K R F0 (gName i) (dName i) vs := by
  rintro v σ σ0 H Q e ⟨F, ds, M, d, Qd, a, r, h1, c⟩
  exact ⟨by rw [wipe_set h]; exact e, c _ _ _ _ _ (Ex.refl _) a.hm (a.rs.set r i) h1⟩
theorem lc_up {wi : TI} {it : DI} {gV : TG} {g : DG} {ttV : TT} {tt : DT} {teV : TE} {te : DE} {vs : List Nat} {K : PySem.W.Frag} {σ : St} {F H : Hp} (hw : ∀ σ H Z, upI K R F0 it σ H Z → wi σ H Z) (hg : ∀ R, TgOk K R F0 gV g vs) (ht : ∀ R σ H Q, upT K R F0 tt σ H Q → ttV σ H Q) (he : ∀ R σ H Q, up K R F0 te σ H Q → teV σ H Q)
    {ds : Sl} {M : MH} {Qs : List D → MH → Prop} {Q : VK} (a : At K R F0 F H σ ds M) (h : it ds M fun xs M1 => dLcL g tt te vs ds Qs xs [] M1)
    (c : ∀ L F' H' M' ys, Ex F F' → R L = none → (∃ ws, H' L = some (.lst ws) ∧ RepL K F' ys ws ∧ HM K (upd R L (.lst ws)) F' H' M') → Qs ys M' → Q (.ref L) H') : tLc wi gV ttV teV vs σ H Q := by
  refine hw σ H _ ⟨F, ds, M, _, a, h, fun F1 H1 M1 J xs e1 m1 ok q1 => ?_⟩
  intro L hL
  have nR : R L = none := m1.freeR hL
  refine ⟨fun i m H' => m = xs.length - i ∧ ∃ F' M' ys ws, Ex F1 F' ∧ RepL K F' ys ws ∧ HM K (upd R L (.lst ws)) F' H' M' ∧ dLcL g tt te vs ds Qs (xs.drop i) ys M', ⟨_, rfl, F1, M1, [], [], Ex.refl _, .nil, m1.lend hL, q1⟩, ?_⟩
  rintro i m H' ⟨rfl, F', M', ys, ws, e', ry, m', q'⟩
  obtain ⟨k1, k2, k3⟩ := ok _ M' i F' H' M' e' m' rfl
  have hLH : H' L = some (.lst ws) := (m'.rr L _ upd_same).1
  by_cases hlt : i < xs.length
  · refine .inr ⟨k2 hlt, fun H2 => ∃ F2 M2 ys2 ws2, Ex F1 F2 ∧ RepL K F2 ys2 ws2 ∧ HM K (upd R L (.lst ws2)) F2 H2 M2 ∧ dLcL g tt te vs ds Qs (xs.drop (i + 1)) ys2 M2, fun H2 z => ⟨xs.length - (i + 1), by omega, rfl, z⟩, fun v H2 y => ?_⟩
    obtain ⟨d, F2, ed, e2, m2, r2⟩ := k3 v H2 hlt y
    rw [List.drop_eq_getElem_cons hlt] at q'
    have e3 : xs[i] = d := by rw [List.getElem?_eq_getElem hlt] at ed; exact Option.some.inj ed
    rw [e3] at q'
    have ex2 : Ex F0 F2 := (a.ex.trans e1).trans (e'.trans e2)
    refine hg (upd R L (.lst ws)) v (wipe σ vs) (wipe σ vs) H2 _ (wipe_wipe vs vs fun _ z => z) ⟨F2, dwipe ds vs, M', d, _, ⟨ex2, m2, rep_wipe (a.rs.mono (e1.trans (e'.trans e2))) vs⟩, r2, q', fun F3 H3 M3 ds3 σ3 e4 m3 r3 q3 => ?_⟩
    refine ht (upd R L (.lst ws)) σ3 H3 _ ⟨F3, ds3, M3, _, ⟨ex2.trans e4, m3, r3⟩, q3, fun F5 H5 M5 b e5 m5 q5 => ite_of_br ⟨fun zb => ?_, fun zb => ?_⟩⟩
    · refine he (upd R L (.lst ws)) σ3 H5 _ ⟨F5, ds3, M5, _, ⟨(ex2.trans e4).trans e5, m5, r3.mono e5⟩, q5.yes zb, fun F6 H6 M6 y vy e6 m6 r6 q6 => ?_⟩
      have hL6 : H6 L = some (.lst ws) := (m6.rr L _ upd_same).1
      have e16 : Ex F' F6 := ((e2.trans e4).trans e5).trans e6
      have rl : RepL K F6 (ys ++ [y]) (ws ++ [vy]) := (ry.mono e16).append (.cons r6 .nil)
      refine ⟨ws, hL6, by rw [← ry.length]; exact q6.1, F6, M6, ys ++ [y], ws ++ [vy], e'.trans e16, rl, ?_, q6.2⟩
      exact HM.lent m6 nR
    · exact ⟨F5, M5, ys, ws, e'.trans ((e2.trans e4).trans e5), ry.mono ((e2.trans e4).trans e5), m5, q5.no zb⟩
  · refine .inl ⟨k1 (by omega), ?_⟩
    rw [List.drop_eq_nil_of_le (by omega)] at q'
    exact c L F' H' M' ys (e1.trans e') nR ⟨ws, hLH, ry, m'⟩ q'
theorem lc_cold {K : PySem.W.Frag} {R F F' H' : Hp} {M' : MH} {L : Addr} {ys : List D} {Qd : DQ} {Q : VK} (c : Cont K R F Qd Q) (e : Ex F F') (n : R L = none) (h : ∃ ws, H' L = some (.lst ws) ∧ RepL K F' ys ws ∧ HM K (upd R L (.lst ws)) F' H' M') (q : Qd (.lst ys) M') : Q (.ref L) H' := by
  obtain ⟨ws, hL, rl, m⟩ := h
  obtain ⟨e2, m2⟩ := m.back n
  exact c _ _ _ _ _ (e.trans e2) m2 (.lst upd_same (rl.mono e2)) q
section
variable {elt tg iter : Expr} {ifs : List Expr} {scope : Scope} {own : List (Str × Nat)} {it : DI} {gV : TG} {g : DG} {tt : DT} {te : DE}
abbrev PDTs (R F0 : Hp) (X : Cx) (ifs : List Expr) (t : DT) : Prop := PTs X ifs (upT X.K R F0 t)
theorem PTs.imp {ifs : List Expr} {t t' : TT} (h : PTs X ifs t) (k : ∀ σ H Q, t' σ H Q → t σ H Q) : PTs X ifs t' := ⟨fun pins s σ H Q I q => h.run pins s σ H Q I (k σ H Q q)⟩
theorem PTs.ex {ifs : List Expr} {t : Hp → TT} (h : ∀ r, PTs X ifs (t r)) : PTs X ifs (fun σ H Q => ∃ r, t r σ H Q) := ⟨fun pins s σ H Q I ⟨r, q⟩ => (h r).run pins s σ H Q I q⟩
theorem PE.ex {e : Expr} {t : Hp → TE} (h : ∀ r, PE X e (t r)) : PE X e (fun σ H Q => ∃ r, t r σ H Q) := ⟨fun pins s σ H Q I ⟨r, q⟩ => (h r).run pins s σ H Q I q⟩
theorem pdts_nil : PDTs R F0 X [] dYes := by
  refine PTs.imp pts_nil ?_
  rintro σ H Q ⟨F, ds, M, Qd, a, h, c⟩
  exact c _ _ _ _ (Ex.refl _) a.hm h
theorem pd_lc (hc : X.calm = true) (hN : X.N.Nodup) (hi : PDI R F0 X tg iter it) (ok : BlkOk X.N X.env.scope scope own) (hT : ∀ R, TgOk X.K R F0 gV g (own.map (·.2)))
    (hg : ∀ (s : Shared) (H : Hp) (C : Addr) (cl : List (Str × Addr)) (fp : List Addr), PG (X.blk s H scope (compEnvC scope cl C X.env) fp) tg gV) (ht : ∀ (R : Hp) (s : Shared) (H : Hp) (C : Addr) (cl : List (Str × Addr)) (fp : List Addr), PDTs R F0 (X.blk s H scope (compEnvC scope cl C X.env) fp) ifs tt)
    (he : ∀ (R : Hp) (s : Shared) (H : Hp) (C : Addr) (cl : List (Str × Addr)) (fp : List Addr), PDE R F0 (X.blk s H scope (compEnvC scope cl C X.env) fp) elt te) (hs : ∀ x, foldedSetIterable iter X.env x = pure x := by intro _; rfl) :
    PDE R F0 X (.ListComp elt [⟨tg, iter, ifs, 0⟩] scope pos) (dLc it g tt te (own.map (·.2))) := by
  refine PE.imp (pe_lc (tt := fun σ H Q => ∃ R, upT X.K R F0 tt σ H Q) (te := fun σ H Q => ∃ R, up X.K R F0 te σ H Q) hc hN hi ok hg (fun s H C cl fp => PTs.ex fun R => ht R s H C cl fp) (fun s H C cl fp => PE.ex fun R => he R s H C cl fp) hs) ?_
  rintro σ H Q ⟨F, ds, M, Qd, a, h, c⟩
  exact lc_up (fun _ _ _ z => z) hT (fun R _ _ _ z => ⟨R, z⟩) (fun R _ _ _ z => ⟨R, z⟩) a h fun L F' H' M' ys e n hh q => lc_cold c e n hh q
end
end
end Dv
namespace Dv
open PySem PySem.Spec L2
structure FnG (P : Program) (w : World) (K : PySem.W.Frag) (mg : Str → Option Value) (base : Heap) (k : Nat) (f : Addr) (fd : FuncData) (ps : List Str) (sp : Sp) : Prop where
  len : ∀ vs H Q E, sp vs H Q E → vs.length = ps.length
  run : ∀ (A : Around) (outer : List Env) (s : Shared) (H : Hp) (args : Args) (us : List Value) (vs : List V) (Q : VK) (E : XK), Room k A → A.guards = some [] → Env0 P w K mg base A outer s H →
    BindsTo s fd args (ps.zip us) → Vals vs us → sp vs H Q E → codeAny (model P w) A (.call (.ref f) args) (CR (L2.CX P w) outer P w H s Q E) s
theorem FnG.mono {P : Program} {w : World} {K : PySem.W.Frag} {mg : Str → Option Value} {base : Heap} {j k : Nat} {f : Addr} {fd : FuncData} {ps : List Str} {sp : Sp} (F : FnG P w K mg base j f fd ps sp) (h : j ≤ k) : FnG P w K mg base k f fd ps sp :=
  ⟨F.len, fun A outer s H args us vs Q E hr => F.run A outer s H args us vs Q E (hr.mono h)⟩
section
variable {P : Program} {w : World} {K : PySem.W.Frag} {mg : Str → Option Value} {base : Heap}
theorem fnG_of {x qual : Str} {params : Arguments} {body : List Stmt} {scope : Scope} {dvs : List V} {kws : List (Str × V)} {f : Addr} {fd : FuncData} {N ps : List Str} {k : Nat} {sp : Sp} (FD : FunD K x qual params body scope dvs kws f fd) (S : FnScope N ps scope)
    (len : ∀ vs H Q E, sp vs H Q E → vs.length = ps.length)
    (hb : ∀ (cdv : Value) (A : Around) (outer : List Env) (s : Shared) (H : Hp) (vs : List V) (Q : VK) (E : XK), Room k (A.deeper (PyProof.Rows.envOfC qual scope s.heap.objs.size f cdv)) → A.guards = some [] → sp vs H Q E →
      ∃ t, PSs (cxOf (L2.CX P w) P w K mg base N qual scope f cdv A outer s H E) body t ∧ t { nx := fun _ H' => Q .non H', rt := Q } (L2.start N vs) H) : FnG P w K mg base (k + 1) f fd ps sp := by
  obtain ⟨oc, od, dV, kV, doc, pm, an, cdv, ct, osl, rfl, lk, hcd, _, _⟩ := FD.ex
  refine ⟨len, ?_⟩
  intro A outer s H args us vs Q E room guards e0 binds rel prom
  have same : ∀ b o, base.get? b = some o → s.heap.get? b = some o := fun b o e => (e0.bs b o e).1
  have KX := e0.mod.kin.keeps same
  refine codeAny_call_function room.depth (KX _ _ lk) rfl S.co S.gen rfl (PySem.W.codeRec_of KX hcd) (binds _ _ _ _ ?_)
  have kinds : ∀ y ∈ ps.zip us, scope.names.lookup y.1 = some .local ∨ (scope.names.lookup y.1 = some .cell ∧ ((cellsFrom (s.heap.objs.size + 1) scope.names []).lookup y.1).isSome = true) := by
    rintro ⟨n, v⟩ hy
    exact (S.par n (List.of_mem_zip hy).1).imp id fun q => ⟨q, PySem.W.cellsFrom_some _ _ _ (.inl q)⟩
  refine wpAny_newFunctionEnv_cells S.kind kinds fun env he s1 x => ?_
  subst he
  refine ⟨(e0.mod.nolimit.keeps same).keeps x.toInCall.keep, codeAny_func ?_⟩
  obtain ⟨t, ht, hq⟩ := hb cdv A outer s H vs Q E (room.deeper _) guards prom
  have I := inv_start (CX := L2.CX P w) (E := E) (cd := cdv) S room.hd e0 (len _ _ _ _ prom) rel x
  refine wpAny_mono (ht.run [] s1 (L2.start N vs) H _ I hq) (fun fl s' hs => ?_) fun e s' hs => hs
  cases fl with
  | ret u =>
    obtain ⟨v, σ', H', J, rv, q⟩ := hs
    exact ⟨v, H', J.os, J.bare, J.base, J.hok, rv, q⟩
  | next =>
    obtain ⟨σ', H', J, q⟩ := hs
    exact ⟨V.non, H', J.os, J.bare, J.base, J.hok, rfl, q⟩
  | brk => exact hs.elim fun _ z => z.elim fun _ z => z.2.elim
  | cont => exact hs.elim fun _ z => z.elim fun _ z => z.2.elim
end
abbrev DX := Value → Option Addr → MH → Prop
abbrev DWX := Value → Option Addr → Sl → MH → Prop
abbrev DSp := List D → MH → DQ → DX → Prop
def ContX (K : PySem.W.Frag) (R F : Hp) (Ed : DX) (E : XK) : Prop := ∀ F' H' M' cls d, Ex F F' → HM K R F' H' M' → Ed cls d M' → E cls d H'
def upSp (K : PySem.W.Frag) (sp : DSp) : Sp := fun vs H Q E => ∃ R F ds M Qd Ed, HM K R F H M ∧ RepL K F ds vs ∧ sp ds M Qd Ed ∧ Cont K R F Qd Q ∧ ContX K R F Ed E
def upW (K : PySem.W.Frag) (R F0 : Hp) (W : DWX) : WX := fun cls d σ H => ∃ F ds M, At K R F0 F H σ ds M ∧ W cls d ds M
abbrev DTakes (R F0 : Hp) (X : Cx) (W : DWX) : Prop := Takes X (upW X.K R F0 W)
abbrev W0 : DWX := fun _ _ _ _ => False
theorem takes_no {X : Cx} {R F0 : Hp} : DTakes R F0 X W0 := fun u s' x => by
  obtain ⟨_, _, _, _, _, _, _, _, _, _, _, _, _, _, _, _, _, _, _, _, z⟩ := x
  exact z.elim
def dstart (N : List Str) (ds : List D) : Sl := ds.map some ++ List.replicate (N.length - ds.length) none
theorem rep_start {K : PySem.W.Frag} {F : Hp} {N : List Str} {ds : List D} {vs : List V} (r : RepL K F ds vs) : RepS K F (dstart N ds) (L2.start N vs) := by
  unfold dstart L2.start
  rw [r.length]
  exact r.somes.append (.nones _)
section
variable {P : Program} {w : World} {K : PySem.W.Frag} {mg : Str → Option Value} {base : Heap}
theorem fnD_of {x qual : Str} {params : Arguments} {body : List Stmt} {scope : Scope} {dvs : List V} {kws : List (Str × V)} {f : Addr} {fd : FuncData} {N ps : List Str} {k : Nat} {sp : DSp} (FD : FunD K x qual params body scope dvs kws f fd) (S : FnScope N ps scope)
    (len : ∀ ds M Q E, sp ds M Q E → ds.length = ps.length)
    (hb : ∀ (cdv : Value) (A : Around) (outer : List Env) (s : Shared) (H : Hp) (E0 : XK) (R F : Hp) (ds : List D) (M : MH) (Q : DQ) (E : DX),
      Room k (cxOf (L2.CX P w) P w K mg base N qual scope f cdv A outer s H E0).A → (cxOf (L2.CX P w) P w K mg base N qual scope f cdv A outer s H E0).A.guards = some [] → DTakes R F (cxOf (L2.CX P w) P w K mg base N qual scope f cdv A outer s H E0) (fun cls d _ M => E cls d M) → sp ds M Q E →
      ∃ t, PDSs R F (cxOf (L2.CX P w) P w K mg base N qual scope f cdv A outer s H E0) body t ∧ t { nx := fun _ M' => Q .non M', rt := Q } (dstart N ds) M) : FnG P w K mg base (k + 1) f fd ps (upSp K sp) := by
  refine fnG_of FD S (fun vs H Q E h => ?_) fun cdv A outer s H vs Q E room guards h => ?_
  · obtain ⟨R, F, ds, M, Qd, Ed, _, r, h, _⟩ := h
    exact r.length.symm.trans (len _ _ _ _ h)
  · obtain ⟨R, F, ds, M, Qd, Ed, m, r, h, c, cx⟩ := h
    have tk0 : Takes (cxOf (L2.CX P w) P w K mg base N qual scope f cdv A outer s H E) (fun cls d _ H => E cls d H) := takes_of rfl rfl rfl rfl
    have tk := Takes.imp tk0 (W' := upW K R F (fun cls d _ M => Ed cls d M)) (fun cls d σ H ⟨F', ds', M', a, z⟩ => cx F' H M' cls d a.ex a.hm z)
    obtain ⟨t, ht, hq⟩ := hb cdv A outer s H E R F ds M Qd Ed room guards tk h
    refine ⟨_, ht, F, _, M, _, ⟨Ex.refl _, m, rep_start r⟩, hq, ⟨?_, c, fun _ _ _ _ _ _ _ _ z => z, fun _ _ _ _ _ _ _ _ z => z⟩⟩
    exact fun F' H' M' ds' σ' e m' _ q => c F' H' M' .non .non e m' .non q
end
section
variable {X : Cx} {R F0 : Hp} {k : Nat} {f C : Addr} {fd : FuncData} {ps : List Str} {sp : DSp} {W : DWX} {x m : Str} {p pos apos : Pos} {e o : Expr} {es : List Expr}
theorem at_call {pins : List (Addr × Obj)} {σ : St} {H : Hp} {s : Shared} {Q : VK} {Wv : WX} {A : Around} {c : Code} (tk : Takes X Wv) (I : Inv X pins σ H s) (h : codeAny (model X.prog X.w) A c (CR (L2.CX X.prog X.w) X.stack X.prog X.w H s Q (fun cls d H' => Wv cls d σ H')) s) :
    codeAny (model X.prog X.w) A c (fun r s' => match r with | .ok (.ret u) => EP X pins σ Q u s' | .ok _ => False | .error e => X.xe e s') s := by
  refine codeAny_mono h fun r s' hq => ?_
  cases r with
  | error e => exact tk e s' (XE.of_call I (fun _ _ _ z => z) hq)
  | ok fl =>
    cases fl with
    | ret u => exact I.after hq
    | next => exact False.elim hq
    | brk => exact False.elim hq
    | cont => exact False.elim hq
theorem sp_up {σ : St} {ds : Sl} {F1 F H : Hp} {M : MH} {args : List D} {vs : List V} {Qd : DQ} {Q : VK} (a : At X.K R F0 F H σ ds M) (r : RepL X.K F args vs) (h : sp args M Qd fun cls d M2 => W cls d ds M2) (c : Cont X.K R F Qd Q) :
    upSp X.K sp vs H Q (fun cls d H' => upW X.K R F0 W cls d σ H') :=
  ⟨R, F, args, M, Qd, _, a.hm, r, h, c, fun F' H' M' cls d e m z => ⟨F', ds, M', a.go e m, z⟩⟩
def dCall (sp : DSp) (dvs : List D) (W : DWX) (t : DA) : DE := fun ds M Q => t ds M fun xs M1 => sp (xs ++ dvs) M1 Q fun cls d M2 => W cls d ds M2
def Dfl (K : PySem.W.Frag) (dvs : List D) (us : List Value) : Prop := ∃ vs, Vals vs us ∧ ∀ F, RepL K F dvs vs
theorem Dfl.nil {K : PySem.W.Frag} : Dfl K [] [] := ⟨[], .nil, fun _ => .nil⟩
theorem pd_call {t : DA} {dvs : List D} {us : List Value} (G : FnG X.prog X.w X.K X.mg X.base k f fd ps (upSp X.K sp)) (hr : Room k X.A) (hG : X.A.guards = some []) (hg : Gl X x) (hm : X.mg x = some (.ref f)) (hk : PySem.W.keepIn X.K (.ref f) = true) (hb : Binds X.K fd ps us) (hd : Dfl X.K dvs us)
    (tk : DTakes R F0 X W) (ha : PDA R F0 X (e :: es) t) (hdb : (x == ("__debug__" : Str)) = false := by decide) (he : starEach (e :: es) X.env = (false, eval e X.env) :: starEach es X.env := by rfl) (hpl : (backTo pos (starEach es X.env)).any (·.1) = false := by rfl) :
    PDE R F0 X (.Call (.Name x p) (e :: es) [] pos) (dCall sp dvs W t) := by
  refine ⟨fun pins s σ H Q I h => ?_⟩
  obtain ⟨F, ds, M, Qd, a, h, c⟩ := h
  obtain ⟨dv, rd, rp⟩ := hd
  refine wpAny_Call_Name_kw (ld_glob I hg hm ?_ hdb)
  refine PySem.W.callWith_K (h₀ := X.base) I.ok.mod.kin hk (thn (ha.run pos pins s σ H (fun vs H1 => upSp X.K sp (vs ++ dv) H1 Q (fun cls d H' => upW X.K R F0 W cls d σ H')) I ⟨F, ds, M, _, a, h, fun F1 H1 M1 xs vs e1 m1 r1 q1 => ?_⟩) ?_) he hpl
  · exact sp_up (F1 := F1) (a.go e1 m1) (r1.append (rp F1)) q1 (c.mono e1)
  · rintro ws s1 ⟨vs, H1, I1, r, q⟩
    refine ⟨I1.kIn, wpAny_call (at_call tk I1 ?_)⟩
    have r2 : Vals (vs ++ dv) (ws ++ us) := r.append rd
    have hl : (ws ++ us).length = ps.length := by rw [← r2.length]; exact G.len _ _ _ _ q
    exact G.run X.A X.stack s1 H1 ⟨ws, []⟩ (ws ++ us) (vs ++ dv) Q _ hr hG I1.env0 (hb s1 ws I1.kIn hl) r2 q
abbrev PDK (R F0 : Hp) (X : Cx) (kws : List Keyword) (t : DA) : Prop := PK X kws (upA X.K R F0 t)
theorem PK.imp {kws : List Keyword} {t t' : TA} (h : PK X kws t) (k : ∀ σ H Q, t' σ H Q → t σ H Q) : PK X kws t' := ⟨fun pos pins s σ H Q I q => h.run pos pins s σ H Q I (k σ H Q q)⟩
theorem pdk_nil : PDK R F0 X [] dNil := by
  refine PK.imp pk_nil ?_
  rintro σ H Q ⟨F, ds, M, Qd, a, h, c⟩
  exact c _ _ _ _ _ (Ex.refl _) a.hm .nil h
theorem pdk_cons {te : DE} {t : DA} {nm : Option Str} {kpos : Pos} {kws : List Keyword} (ha : PDE R F0 X e te) (hr : PDK R F0 X kws t) : PDK R F0 X (⟨nm, e, kpos⟩ :: kws) (dCons te t) := by
  refine PK.imp (pk_cons ha hr) ?_
  rintro σ H Q ⟨F, ds, M, Qd, a, h, c⟩
  refine ⟨F, ds, M, _, a, h, fun F1 H1 M1 x vx e1 m1 r1 q1 => ?_⟩
  refine ⟨F1, ds, M1, _, a.go e1 m1, q1, fun F2 H2 M2 xs vs e2 m2 r2 q2 => ?_⟩
  exact c _ _ _ _ _ (e1.trans e2) m2 (.cons (r1.mono e2) r2) q2
end
end Dv
namespace Dv
open PySem PySem.Spec L2
def keyP : Key → PyData
  | .inl i => .int i
  | .inr x => .str x
mutual
def pOf : D → PyData
  | .non => .none
  | .bl b => .bool b
  | .int i => .int i
  | .str x => .str x
  | .tup xs => .tuple (pOfL xs)
  | .lst xs => .list (pOfL xs)
  | .dct ks => .dict (pOfK ks)
  | .ty _ | .ref _ | .sl _ _ | .ins _ _ | .scr _ | .dcT _ | .kt _ => .none
def pOfL : List D → List PyData
  | [] => []
  | x :: xs => pOf x :: pOfL xs
def pOfK : List (Key × D) → List (PyData × PyData)
  | [] => []
  | (k, x) :: xs => (keyP k, pOf x) :: pOfK xs
end
mutual
def plain : D → Bool
  | .non | .bl _ | .int _ | .str _ => true
  | .tup xs | .lst xs => plainL xs
  | .dct ks => plainK ks
  | .ty _ | .ref _ | .sl _ _ | .ins _ _ | .scr _ | .dcT _ | .kt _ => false
def plainL : List D → Bool
  | [] => true
  | x :: xs => plain x && plainL xs
def plainK : List (Key × D) → Bool
  | [] => true
  | (_, x) :: xs => plain x && plainK xs
end
mutual
inductive Rds (h : Heap) : Value → PyData → Prop
  | non : Rds h .none .none
  | bl (b : Bool) : Rds h (.bool b) (.bool b)
  | int (i : Int) (t : Tok) : Rds h (.int i t) (.int i)
  | str (x : Str) (t : Tok) : Rds h (.str x t) (.str x)
  | lst {a : Addr} {o : Obj} {us : Array Value} {n : Nat} {ps : List PyData} : h.get? a = some o → o.cls = .type "list" → o.data = .seq us n → RdsL h us.toList ps → Rds h (.ref a) (.list ps)
  | tup {a : Addr} {o : Obj} {us : Array Value} {n : Nat} {ps : List PyData} : h.get? a = some o → o.cls = .type "tuple" → o.data = .seq us n → RdsL h us.toList ps → Rds h (.ref a) (.tuple ps)
  | dct {a : Addr} {o : Obj} {es : Array DictEntry} {n : Nat} {ps : List (PyData × PyData)} : h.get? a = some o → o.cls = .type "dict" → o.data = .dict es n → (a == sysModules) = false →
      RdsL h (es.toList.map (·.key)) (ps.map (·.1)) → RdsL h (es.toList.map (·.val)) (ps.map (·.2)) → Rds h (.ref a) (.dict ps)
inductive RdsL (h : Heap) : List Value → List PyData → Prop
  | nil : RdsL h [] []
  | cons {u : Value} {us : List Value} {p : PyData} {ps : List PyData} : Rds h u p → RdsL h us ps → RdsL h (u :: us) (p :: ps)
end
mutual
theorem Rds.to {h : Heap} : ∀ {u : Value} {p : PyData}, Rds h u p → ∃ as, Reads h u p as
  | _, _, .non => ⟨_, .none⟩
  | _, _, .bl b => ⟨_, .bool b⟩
  | _, _, .int i t => ⟨_, .int i t⟩
  | _, _, .str x t => ⟨_, .str x t⟩
  | _, _, .lst e1 e2 e3 r => let ⟨_, q⟩ := RdsL.to r; ⟨_, .list e1 e2 e3 q⟩
  | _, _, .tup e1 e2 e3 r => let ⟨_, q⟩ := RdsL.to r; ⟨_, .tuple e1 e2 e3 q⟩
  | _, _, .dct e1 e2 e3 _ r1 r2 => let ⟨_, q1⟩ := RdsL.to r1; let ⟨_, q2⟩ := RdsL.to r2; ⟨_, .dict e1 e2 e3 q1 q2⟩
theorem RdsL.to {h : Heap} : ∀ {us : List Value} {ps : List PyData}, RdsL h us ps → ∃ as, ReadsAll h us ps as
  | _, _, .nil => ⟨_, .nil⟩
  | _, _, .cons r rs => let ⟨_, q⟩ := Rds.to r; let ⟨_, qs⟩ := RdsL.to rs; ⟨_, .cons q qs⟩
end
section
variable {prog : Program} {w : World} {h : Heap}
mutual
theorem Rds.shows : ∀ {u : Value} {p : PyData}, Rds h u p → p.showable = true → p.shown.length ≤ sizeLine → ∃ bs, ReadAtMost h p.depth bs ∧ ReprK prog w bs h p.depth u p.shown
  | _, _, .non, _, _ => ⟨[], (fun _ z => nomatch z), by simp only [PyData.shown]; exact .of_is ReprIs.none _ _ _⟩
  | _, _, .bl b, _, _ => ⟨[], (fun _ z => nomatch z), by simp only [PyData.shown]; exact .of_is (ReprIs.bool b) _ _ _⟩
  | _, _, .int i t, hs, _ => ⟨[], (fun _ z => nomatch z), by simp only [PyData.shown]; exact .of_is (ReprIs.int t (by simpa [PyData.showable] using hs)) _ _ _⟩
  | _, _, .str x t, _, hz => ⟨[], (fun _ z => nomatch z), by simp only [PyData.shown]; exact .of_is (ReprIs.str x t (by simpa only [PyData.shown] using hz)) _ _ _⟩
  | _, _, .lst (a := a) (us := us) (ps := ps) e1 e2 e3 r, hs, hz => by
    have z1 : (listText (PyData.shownAll ps)).length ≤ sizeLine := by simpa only [PyData.shown] using hz
    obtain ⟨bs, hb, hk⟩ := RdsL.shows r (by simpa [PyData.showable] using hs) (fun t m => Nat.le_trans (listText_mem_le m) z1)
    obtain ⟨as, q⟩ := Rds.to (.lst e1 e2 e3 r)
    have off : a ∉ bs := not_mem_of_deeper q (by simp only [PyData.depth]; omega) hb
    refine ⟨a :: bs, ReadAtMost.cons q (by simp only [PyData.depth]; omega) hb, ?_⟩
    simp only [PyData.depth, PyData.shown]
    obtain ⟨l⟩ := us
    cases l with
    | nil =>
      have r0 : RdsL h [] ps := r
      cases r0
      simp only [PyData.shownAll, listText_nil]
      exact ReprK.listEmpty e1 e2 e3
    | cons x l => exact ReprK.list e1 e2 e3 off (by simpa using hk.length_eq) (fun i y e => hk.item i y (by simpa using e))
  | _, _, .tup (a := a) (ps := ps) e1 e2 e3 r, hs, hz => by
    have z1 : (tupleText (PyData.shownAll ps)).length ≤ sizeLine := by simpa only [PyData.shown] using hz
    obtain ⟨bs, hb, hk⟩ := RdsL.shows r (by simpa [PyData.showable] using hs) (fun t m => Nat.le_trans (tupleText_mem_le m) z1)
    obtain ⟨as, q⟩ := Rds.to (.tup e1 e2 e3 r)
    have off : a ∉ bs := not_mem_of_deeper q (by simp only [PyData.depth]; omega) hb
    refine ⟨a :: bs, ReadAtMost.cons q (by simp only [PyData.depth]; omega) hb, ?_⟩
    simp only [PyData.depth, PyData.shown]
    exact ReprK.tuple e1 e2 e3 off hk
  | _, _, .dct (a := a) (es := es) (ps := ps) e1 e2 e3 ns r1 r2, hs, hz => by
    have z1 : (dictText (PyData.shownKv ps)).length ≤ sizeLine := by simpa only [PyData.shown] using hz
    obtain ⟨hs1, hs2⟩ := PyData.showableKv_split ps (by simpa [PyData.showable] using hs)
    obtain ⟨b1, hb1, k1⟩ := RdsL.shows r1 hs1 (fun t m => let ⟨p, hp, hl⟩ := PyData.shownKv_key_le ps t m; Nat.le_trans hl (Nat.le_trans (dictText_mem_le hp) z1))
    obtain ⟨b2, hb2, k2⟩ := RdsL.shows r2 hs2 (fun t m => let ⟨p, hp, hl⟩ := PyData.shownKv_val_le ps t m; Nat.le_trans hl (Nat.le_trans (dictText_mem_le hp) z1))
    obtain ⟨as, q⟩ := Rds.to (.dct e1 e2 e3 ns r1 r2)
    have both : ReadAtMost h (PyData.depthKv ps) (b1 ++ b2) := (hb1.mono (PyData.depthAll_keys_le ps)).append (hb2.mono (PyData.depthAll_vals_le ps))
    have off : a ∉ b1 ++ b2 := not_mem_of_deeper q (by simp only [PyData.depth]; omega) both
    refine ⟨a :: (b1 ++ b2), ReadAtMost.cons q (by simp only [PyData.depth]; omega) both, ?_⟩
    simp only [PyData.depth, PyData.shown, PyData.shownKv_eq]
    exact ReprK.dict e1 e2 e3 ns off (ReprEntriesK.of_two es.toList _ _ (k1.more_le (fun b z => List.mem_append_left _ z) (PyData.depthAll_keys_le ps)) (k2.more_le (fun b z => List.mem_append_right _ z) (PyData.depthAll_vals_le ps)))
theorem RdsL.shows : ∀ {us : List Value} {ps : List PyData}, RdsL h us ps → PyData.showableAll ps = true → (∀ t ∈ PyData.shownAll ps, t.length ≤ sizeLine) → ∃ bs, ReadAtMost h (PyData.depthAll ps) bs ∧ ReprAllK prog w bs h (PyData.depthAll ps) us (PyData.shownAll ps)
  | _, _, .nil, _, _ => ⟨[], (fun _ z => nomatch z), by simp only [PyData.shownAll]; exact .nil⟩
  | _, _, .cons (p := p) (ps := ps) r rs, hs, hz => by
    have s2 : p.showable = true ∧ PyData.showableAll ps = true := by simpa [PyData.showableAll] using hs
    obtain ⟨b1, hb1, k1⟩ := Rds.shows r s2.1 (hz _ (by simp only [PyData.shownAll]; exact List.mem_cons_self ..))
    obtain ⟨b2, hb2, k2⟩ := RdsL.shows rs s2.2 (fun t m => hz t (by simp only [PyData.shownAll]; exact List.mem_cons_of_mem _ m))
    refine ⟨b1 ++ b2, ?_, ?_⟩
    · exact (hb1.mono (by simp only [PyData.depthAll]; exact Nat.le_max_left _ _)).append (hb2.mono (by simp only [PyData.depthAll]; exact Nat.le_max_right _ _))
    · simp only [PyData.depthAll, PyData.shownAll]
      exact .cons ((k1.more fun b z => List.mem_append_left _ z).level_le (Nat.le_max_left _ _)) (k2.more_le (fun b z => List.mem_append_right _ z) (Nat.le_max_right _ _))
end
theorem Rds.call {u : Value} {p : PyData} {A : Around} {E : Value → Shared → Prop} {s : Shared} {Q : Value → Shared → Prop} (r : Rds s.heap u p) (hs : p.showable = true) (hz : p.shown.length ≤ sizeLine) (hg : A.guards = some []) (hu : A.units + (p.depth + 2) < cLine)
    (hQ : ∀ h' u tk, (∀ b o, s.heap.get? b = some o → h'.get? b = some o) → Q (.str p.shown u) { s with heap := h', toks := tk }) : wpAny (model prog w) A (call (.builtin "repr") [u]) Q E s := by
  cases r with
  | non => simp only [PyData.shown] at hQ; exact P.repr_of_none (hQ s.heap _ _ fun _ _ e => e)
  | bl b => simp only [PyData.shown] at hQ; exact P.repr_of_bool (hQ s.heap _ _ fun _ _ e => e)
  | int i t => simp only [PyData.shown] at hQ; exact P.repr_of_int (by simpa [PyData.showable] using hs) (hQ s.heap _ _ fun _ _ e => e)
  | str x t => simp only [PyData.shown] at hQ hz; exact P.repr_of_str (hQ s.heap _ _ fun _ _ e => e) hz
  | @lst a o us n ps e1 e2 e3 r =>
    have z1 : (listText (PyData.shownAll ps)).length ≤ sizeLine := by simpa only [PyData.shown] using hz
    obtain ⟨bs, hb, hk⟩ := RdsL.shows (prog := prog) (w := w) r (by simpa [PyData.showable] using hs) (fun t m => Nat.le_trans (listText_mem_le m) z1)
    obtain ⟨as, q⟩ := Rds.to (.lst e1 e2 e3 r)
    have off : a ∉ bs := not_mem_of_deeper q (by simp only [PyData.depth]; omega) hb
    simp only [PyData.depth] at hu
    simp only [PyData.shown] at hQ
    refine call_repr_slot (by omega) ⟨o, e1, e2⟩ F.slot_list_repr.toG ?_
    obtain ⟨l⟩ := us
    cases l with
    | nil =>
      have r0 : RdsL s.heap [] ps := r
      cases r0
      simp only [PyData.shownAll, listText_nil] at hQ
      exact call_list_repr_empty ⟨o, e1, e2⟩ e1 e3 ⟨_, _, rfl, hQ s.heap _ _ fun _ _ e => e⟩
    | cons x l =>
      exact call_list_reprK e1 e2 e3 off (by simpa using hk.length_eq) (fun i y e => hk.item i y (by simpa using e)) (g := []) hg (fun b _ => Clear.nil b) (by show A.units + 1 + _ < cLine; omega) (fun _ _ e => e) (fun h' u tk hk => ⟨_, _, rfl, hQ h' u tk hk⟩) z1
  | @tup a o us n ps e1 e2 e3 r =>
    have z1 : (tupleText (PyData.shownAll ps)).length ≤ sizeLine := by simpa only [PyData.shown] using hz
    obtain ⟨bs, hb, hk⟩ := RdsL.shows (prog := prog) (w := w) r (by simpa [PyData.showable] using hs) (fun t m => Nat.le_trans (tupleText_mem_le m) z1)
    obtain ⟨as, q⟩ := Rds.to (.tup e1 e2 e3 r)
    have off : a ∉ bs := not_mem_of_deeper q (by simp only [PyData.depth]; omega) hb
    simp only [PyData.depth] at hu
    simp only [PyData.shown] at hQ
    refine call_repr_slot (by omega) ⟨o, e1, e2⟩ F.slot_tuple_repr ?_
    exact call_tuple_reprK e1 e2 e3 off hk (g := []) hg (fun b _ => Clear.nil b) (by show A.units + 1 + _ < cLine; omega) (fun _ _ e => e) (fun h' u tk hk => ⟨_, _, rfl, hQ h' u tk hk⟩) z1
  | @dct a o es n ps e1 e2 e3 ns r1 r2 =>
    have z1 : (dictText (PyData.shownKv ps)).length ≤ sizeLine := by simpa only [PyData.shown] using hz
    obtain ⟨hs1, hs2⟩ := PyData.showableKv_split ps (by simpa [PyData.showable] using hs)
    obtain ⟨b1, hb1, k1⟩ := RdsL.shows (prog := prog) (w := w) r1 hs1 (fun t m => let ⟨p, hp, hl⟩ := PyData.shownKv_key_le ps t m; Nat.le_trans hl (Nat.le_trans (dictText_mem_le hp) z1))
    obtain ⟨b2, hb2, k2⟩ := RdsL.shows (prog := prog) (w := w) r2 hs2 (fun t m => let ⟨p, hp, hl⟩ := PyData.shownKv_val_le ps t m; Nat.le_trans hl (Nat.le_trans (dictText_mem_le hp) z1))
    obtain ⟨as, q⟩ := Rds.to (.dct e1 e2 e3 ns r1 r2)
    have both : ReadAtMost s.heap (PyData.depthKv ps) (b1 ++ b2) := (hb1.mono (PyData.depthAll_keys_le ps)).append (hb2.mono (PyData.depthAll_vals_le ps))
    have off : a ∉ b1 ++ b2 := not_mem_of_deeper q (by simp only [PyData.depth]; omega) both
    simp only [PyData.depth] at hu
    simp only [PyData.shown, PyData.shownKv_eq] at hQ
    refine call_repr_slot (by omega) ⟨o, e1, e2⟩ F.slot_dict_repr ?_
    exact call_dict_reprK e1 e2 e3 ns off (ReprEntriesK.of_two es.toList _ _ (k1.more_le (fun b z => List.mem_append_left _ z) (PyData.depthAll_keys_le ps)) (k2.more_le (fun b z => List.mem_append_right _ z) (PyData.depthAll_vals_le ps))) (g := []) hg (fun b _ => Clear.nil b) (by show A.units + 1 + _ < cLine; omega) (fun _ _ e => e) (fun h' u tk hk => ⟨_, _, rfl, hQ h' u tk hk⟩) (by rw [← PyData.shownKv_eq]; exact z1)
end
section
variable {X : Cx} {pins : List (Addr × Obj)} {σ : St} {H F : Hp} {s : Shared}
theorem rds_keys {w : World} {P : Program} {h : Heap} : ∀ {es : List DictEntry} {xs : List (Key × Value)} {ks : List (Key × D)} {kvs : List (Key × V)}, Pairs (mixKind P w) es xs → KV kvs xs → RepK X.K F ks kvs → RdsL h (es.map (·.key)) ((pOfK ks).map (·.1))
  | _, _, _, _, .nil, .nil, .nil => .nil
  | _, _, _, _, .cons e1 _ es, .cons r rs, .cons q qs => by
    obtain ⟨rk, _⟩ := r
    refine .cons ?_ (rds_keys es rs qs)
    simp only at rk
    rw [← rk] at e1
    rcases keyIs_shape e1 with ⟨i, t, e, e'⟩ | ⟨x, t, e, e'⟩
    · rw [e]; show Rds h (DictEntry.key _) _; rw [e']; exact .int i t
    · rw [e]; show Rds h (DictEntry.key _) _; rw [e']; exact .str x t
theorem entries_vals {w : World} {P : Program} : ∀ {es : List DictEntry} {xs : List (Key × Value)}, Pairs (mixKind P w) es xs → es.map (·.val) = xs.map (·.2)
  | _, _, .nil => rfl
  | _, _, .cons _ e r => by rw [List.map_cons, List.map_cons, e, entries_vals r]
mutual
theorem Rep.rds (I : Inv X pins σ H s) (ex : Ex F H) : ∀ {d : D} {v : V} {u : Value}, Rep X.K F d v → RelV v u → plain d = true → Rds s.heap u (pOf d)
  | _, _, _, .non, r, _ => by cases r; exact .non
  | _, _, _, .bl b, r, _ => by cases r; exact .bl b
  | _, _, _, .int i, r, _ => by obtain ⟨t, rfl⟩ := r; exact .int i t
  | _, _, _, .str x, r, _ => by obtain ⟨t, rfl⟩ := r; exact .str x t
  | _, _, _, .ty _, _, hp => nomatch hp
  | _, _, _, .ref _, _, hp => nomatch hp
  | _, _, _, .tupX h rs, r, hp => by
    cases r
    obtain ⟨its, rv, ⟨o, ho, hc, n, hd⟩, _⟩ := I.tuple (ex.t h.t)
    exact .tup ho hc hd (RepL.rds I ex rs rv hp)
  | _, _, _, .lst h rs, r, hp => by
    cases r
    obtain ⟨_, its, n, rv, e⟩ := (show ObjOk X.prog X.w H s.heap _ (.lst _) from I.hok _ _ (ex _ _ h))
    exact .lst e rfl rfl (RepL.rds I ex rs rv hp)
  | _, _, _, .dct h rs, r, hp => by
    cases r
    obtain ⟨_, ns, xs, kv, o, es, ep, e1, e2, e3, _, pr, _⟩ := (show ObjOk X.prog X.w H s.heap _ (.dK _) from (I.hok _ _ (ex _ _ h)).2)
    refine .dct e1 e2.1 e3 ns (rds_keys pr kv rs) ?_
    rw [entries_vals pr]
    exact RepK.rds I ex rs kv hp
  | _, _, _, .sl _ _, _, hp => nomatch hp
  | _, _, _, .ins _ _, _, hp => nomatch hp
  | _, _, _, .scr _, _, hp => nomatch hp
  | _, _, _, .dcT _ _, _, hp => nomatch hp
  | _, _, _, .kt _ _, _, hp => nomatch hp
theorem RepL.rds (I : Inv X pins σ H s) (ex : Ex F H) : ∀ {ds : List D} {vs : List V} {us : List Value}, RepL X.K F ds vs → Vals vs us → plainL ds = true → RdsL s.heap us (pOfL ds)
  | _, _, _, .nil, r, _ => by cases r; exact .nil
  | _, _, _, .cons h rs, .cons r rr, hp => by
    have hq := (Bool.and_eq_true _ _).mp hp
    exact .cons (Rep.rds I ex h r hq.1) (RepL.rds I ex rs rr hq.2)
theorem RepK.rds (I : Inv X pins σ H s) (ex : Ex F H) : ∀ {ds : List (Key × D)} {vs : List (Key × V)} {us : List (Key × Value)}, RepK X.K F ds vs → KV vs us → plainK ds = true → RdsL s.heap (us.map (·.2)) ((pOfK ds).map (·.2))
  | _, _, _, .nil, r, _ => by cases r; exact .nil
  | _, _, _, .cons h rs, .cons r rr, hp => by
    have hq := (Bool.and_eq_true _ _).mp hp
    exact .cons (Rep.rds I ex h r.2 hq.1) (RepK.rds I ex rs rr hq.2)
end
structure Sh (n k : Nat) (d : D) : Prop where
  pl : plain d = true
  sw : (pOf d).showable = true
  lv : (pOf d).leavesShort 200 = true
  dp : (pOf d).depth ≤ n
  wt : (pOf d).weight ≤ k
theorem Sh.mono {n m k l : Nat} {d : D} (h : Sh n k d) (a : n ≤ m) (b : k ≤ l) : Sh m l d := ⟨h.pl, h.sw, h.lv, Nat.le_trans h.dp a, Nat.le_trans h.wt b⟩
theorem Sh.fits {d : D} (h : Sh 60 60000 d) : (pOf d).shown.length ≤ sizeLine := by
  have e := PyData.shown_le 200 (by decide) _ h.lv
  have w := h.wt
  rw [sizeLine_eq]
  omega
abbrev DRC := List D → MH → DQ → Prop
def OpC (K : PySem.W.Frag) (r : DRC) (rv : List V → Hp → VK → Prop) : Prop := ∀ R F H M xs vs Qd Q, HM K R F H M → RepL K F xs vs → r xs M Qd → Cont K R F Qd Q → rv vs H Q
def CallD (R F0 : Hp) (X : Cx) (f : Value) (r : DRC) : Prop := CallR X f fun vs H Q => ∃ F ds M Qd, Ex F0 F ∧ HM X.K R F H M ∧ RepL X.K F ds vs ∧ r ds M Qd ∧ Cont X.K R F Qd Q
def dB1 (r : DRC) (t : DA) : DE := fun ds M Q => t ds M fun xs M1 => r xs M1 Q
def rRepr : DRC := fun xs M Q => match xs with
  | [d] => Sh 60 60000 d ∧ Q (.str (pOf d).shown) M
  | _ => False
theorem call_reprD {R F0 : Hp} (hg : X.A.guards = some []) (hu : X.A.units + 64 < cLine) : CallD R F0 X (.builtin "repr") rRepr := by
  intro pins s σ H xs us Q I r h
  obtain ⟨F, ds, M, Qd, e, m, rp, h, c⟩ := h
  unfold rRepr at h
  split at h
  · rename_i d
    obtain ⟨sh, q⟩ := h
    obtain ⟨v, rfl, rv⟩ := repl_one rp
    obtain ⟨u, rfl, ru⟩ := vals1 r
    refine Rds.call (rv.rds I m.ex ru sh.pl) sh.sw sh.fits hg (by have := sh.dp; omega) fun h' u tk hk => ?_
    exact ⟨.str _, H, I.kept hk, ⟨_, rfl⟩, c _ _ _ _ _ (Ex.refl _) m (.str _) q⟩
  · exact h.elim
end
end Dv
namespace Dv
open PySem PySem.Spec L2
theorem Cont.now {K : PySem.W.Frag} {R F H : Hp} {M : MH} {Qd : DQ} {Q : VK} {d : D} {v : V} (c : Cont K R F Qd Q) (m : HM K R F H M) (r : Rep K F d v) (h : Qd d M) : Q v H := c _ _ _ _ _ (Ex.refl _) m r h
theorem Cont.cold {K : PySem.W.Frag} {R F H : Hp} {M : MH} {Qd : DQ} {Q : VK} {d : D} {p : Addr} {u : HO} (c : Cont K R F Qd Q) (m : HM K R F H M) (n : H p = none) (r : Rep K (upd F p u) d (.ref p)) (h : Qd d M) : Q (.ref p) (upd H p u) := c _ _ _ _ _ (.cold m n) (m.cold n) r h
theorem HM.l {K : PySem.W.Frag} {R F H : Hp} {M : MH} {a : Addr} {vs : List V} (m : HM K R F H M) (h : F a = some (.lst vs)) : SqL K H a vs := .inl (.inl (m.ex _ _ h))
theorem HM.t {K : PySem.W.Frag} {R F H : Hp} {M : MH} {a : Addr} {vs : List V} (m : HM K R F H M) (h : Tp K F a vs) : SqT K H a vs := m.ex.t h.t
section
variable {X : Cx} {K : PySem.W.Frag}
def rAdd : DR2 := fun x y M Q => match x, y with
  | .int i, .int j => Q (.int (i + j)) M
  | .str a, .str b => a.length + b.length ≤ sizeLine ∧ Q (.str (a ++ b)) M
  | .lst xs, .lst ys => xs.length + ys.length ≤ sizeLine ∧ Q (.lst (xs ++ ys)) M
  | .tup xs, .tup ys => xs ≠ [] ∧ xs.length + ys.length ≤ sizeLine ∧ Q (.tup (xs ++ ys)) M
  | _, _ => False
def vAdd (K : PySem.W.Frag) : R2 := fun x y H Q => ((rI0 (fun i j => .int (i + j)) x y H Q ∨ (∃ i j, x = .str i ∧ y = .str j ∧ i.length + j.length ≤ sizeLine ∧ Q (.str (i ++ j)) H)) ∨ rCat x y H Q) ∨ rCatT K x y H Q
theorem op_addD : OpR X (binaryOp .Add) (vAdd X.K) := OpR.or (OpR.or (OpR.or op_add op_add_str) op_cat) op_catT
theorem o2_add : Op2 K rAdd (vAdd K) := by
  intro R F H M x y vx vy Qd Q m rx ry h c
  unfold rAdd at h
  split at h
  · cases rx; cases ry; exact .inl (.inl (.inl ⟨_, _, rfl, rfl, c.now m (.int _) h⟩))
  · cases rx; cases ry; exact .inl (.inl (.inr ⟨_, _, rfl, rfl, h.1, c.now m (.str _) h.2⟩))
  · cases rx with | lst hx rx => cases ry with | lst hy ry => exact .inl (.inr ⟨_, _, _, _, rfl, rfl, m.ex _ _ hx, m.ex _ _ hy, by rw [← rx.length, ← ry.length]; exact h.1, fun p n => c.cold m n (.lst upd_same ((rx.append ry).mono (.cold m n))) h.2⟩)
  · cases rx with | tupX hx rx => cases ry with | tupX hy ry =>
      refine .inr ⟨_, _, _, _, rfl, rfl, m.t hx, m.t hy, ?_, by rw [← rx.length, ← ry.length]; exact h.2.1, fun z => ?_, fun z p n => c.cold m n (.tup upd_same ((rx.append ry).mono (.cold m n))) h.2.2⟩
      · intro z
        subst z
        cases rx
        exact h.1 rfl
      · subst z
        cases ry
        have q := h.2.2
        rw [List.append_nil] at q
        exact c.now m (.tupX hx rx) q
  · exact h.elim
def rInt2 (C : Int → Int → Prop) (g : Int → Int → D) : DR2 := fun x y M Q => match x, y with
  | .int i, .int j => C i j ∧ Q (g i j) M
  | _, _ => False
def rInt0 (g : Int → Int → D) : DR2 := fun x y M Q => match x, y with
  | .int i, .int j => Q (g i j) M
  | _, _ => False
theorem o2_int0 {g : Int → Int → D} {gv : Int → Int → V} (e : ∀ F i j, Rep K F (g i j) (gv i j)) : Op2 K (rInt0 g) (rI0 gv) := by
  intro R F H M x y vx vy Qd Q m rx ry h c
  unfold rInt0 at h
  split at h
  · cases rx; cases ry; exact ⟨_, _, rfl, rfl, c.now m (e _ _ _) h⟩
  · exact h.elim
theorem o2_int2 {C : Int → Int → Prop} {g : Int → Int → D} {gv : Int → Int → V} (e : ∀ F i j, Rep K F (g i j) (gv i j)) : Op2 K (rInt2 C g) (rI C gv) := by
  intro R F H M x y vx vy Qd Q m rx ry h c
  unfold rInt2 at h
  split at h
  · cases rx; cases ry; exact ⟨_, _, rfl, rfl, h.1, c.now m (e _ _ _) h.2⟩
  · exact h.elim
def rSub : DR2 := rInt0 fun i j => .int (i - j)
def CMulA (i j : Int) : Prop := CMul i j ∨ CMulX i j
def rMul : DR2 := rInt2 CMulA fun i j => .int (i * j)
theorem op_mulA : OpR X (binaryOp .Mult) (rI CMulA fun i j => .int (i * j)) := by
  intro pins s σ H x y v u Q I rx ry h
  obtain ⟨i, j, e1, e2, hc, q⟩ := h
  rcases hc with hc | hc
  · exact op_mul pins s σ H x y v u Q I rx ry ⟨i, j, e1, e2, hc, q⟩
  · exact op_mulX pins s σ H x y v u Q I rx ry ⟨i, j, e1, e2, hc, q⟩
def rFdv : DR2 := rInt2 CDivW fun i j => .int (i / j)
def rMod : DR2 := rInt2 (fun _ j => 0 < j) fun i j => .int (i % j)
def rPow : DR2 := rInt2 CPow fun i j => .int (i ^ j.toNat)
def rLt : DR2 := rInt0 fun i j => .bl (decide (i < j))
def rGt : DR2 := rInt0 fun i j => .bl (decide (j < i))
def rGe : DR2 := rInt0 fun i j => .bl (decide (j ≤ i))
theorem o2_sub : Op2 K rSub (rI0 fun i j => .int (i - j)) := o2_int0 fun _ _ _ => .int _
theorem o2_mul : Op2 K rMul (rI CMulA fun i j => .int (i * j)) := o2_int2 fun _ _ _ => .int _
theorem o2_fdv : Op2 K rFdv (rI CDivW fun i j => .int (i / j)) := o2_int2 fun _ _ _ => .int _
theorem o2_mod : Op2 K rMod (rI (fun _ j => 0 < j) fun i j => .int (i % j)) := o2_int2 fun _ _ _ => .int _
theorem o2_pow : Op2 K rPow (rI CPow fun i j => .int (i ^ j.toNat)) := o2_int2 fun _ _ _ => .int _
theorem o2_lt : Op2 K rLt (rI0 fun i j => .bl (decide (i < j))) := o2_int0 fun _ _ _ => .bl _
theorem o2_gt : Op2 K rGt (rI0 fun i j => .bl (decide (j < i))) := o2_int0 fun _ _ _ => .bl _
theorem o2_ge : Op2 K rGe (rI0 fun i j => .bl (decide (j ≤ i))) := o2_int0 fun _ _ _ => .bl _
def rNeg : DR1 := fun x M Q => match x with
  | .int i => Q (.int (-i)) M
  | _ => False
theorem o1_neg : Op1 K rNeg (rU fun i => .int (-i)) := by
  intro R F H M x vx Qd Q m rx h c
  unfold rNeg at h
  split at h
  · cases rx; exact ⟨_, rfl, c.now m (.int _) h⟩
  · exact h.elim
mutual
theorem Rep.dp {F H : Hp} (ex : Ex F H) : ∀ {d : D} {v : V}, Rep K F d v → plain d = true → (pOf d).canLay0 = true → Dp K H v (pOf d)
  | _, _, .non, _, _ => .non
  | _, _, .bl b, _, _ => .bl b
  | _, _, .int i, _, _ => .int i
  | _, _, .str x, _, _ => .str x
  | _, _, .ty _, p, _ => nomatch p
  | _, _, .ref _, p, _ => nomatch p
  | _, _, .tupX h r, p, q => .tup (ex.t h.t) (RepL.dp ex r p (by simpa only [pOf, PyData.canLay0] using q))
  | _, _, .lst h r, p, q => .lst (.inl (.inl (ex _ _ h))) (RepL.dp ex r p (by simpa only [pOf, PyData.canLay0] using q))
  | _, _, .dct h r, p, q => by simp only [pOf, PyData.canLay0] at q; cases q
  | _, _, .sl _ _, p, _ => nomatch p
  | _, _, .ins _ _, p, _ => nomatch p
  | _, _, .scr _, p, _ => nomatch p
  | _, _, .dcT _ _, p, _ => nomatch p
  | _, _, .kt _ _, p, _ => nomatch p
theorem RepL.dp {F H : Hp} (ex : Ex F H) : ∀ {ds : List D} {vs : List V}, RepL K F ds vs → plainL ds = true → PyData.canLayAll0 (pOfL ds) = true → DpAll K H vs (pOfL ds)
  | _, _, .nil, _, _ => .nil
  | _, _, .cons (d := d) (ds := ds) h r, p, q => by
    have p2 := (Bool.and_eq_true _ _).mp p
    have q2 : (pOf d).canLay0 = true ∧ PyData.canLayAll0 (pOfL ds) = true := by simpa only [pOfL, PyData.canLayAll0, Bool.and_eq_true] using q
    exact .cons (Rep.dp ex h p2.1 q2.1) (RepL.dp ex r p2.2 q2.2)
end
structure Dt (d : D) : Prop where
  pl : plain d = true
  sh : SeqAt.shaped (pOf d) = true
def eqQ (x y : D) (Q : Bool → Prop) : Prop := match x, y with
  | .int i, .int j => Q (decide (i = j))
  | .bl i, .bl j => Q (decide (i = j))
  | .str i, .str j => Q (decide (i = j))
  | .non, .non => Q true
  | .non, .int _ => Q false
  | .int _, .non => Q false
  | .non, .bl _ => Q false
  | .bl _, .non => Q false
  | .non, .str _ => Q false
  | .str _, .non => Q false
  | .int _, .str _ => Q false
  | .str _, .int _ => Q false
  | .bl _, .str _ => Q false
  | .str _, .bl _ => Q false
  | x, y => Dt x ∧ Dt y ∧ Q (PyData.eqv (pOf x) (pOf y))
def rEq : DR2 := fun x y M Q => eqQ x y fun b => Q (.bl b) M
def rNe : DR2 := fun x y M Q => eqQ x y fun b => Q (.bl (!b)) M
def vEq (K : PySem.W.Frag) : R2 := fun x y H Q => L2.rEq x y H Q ∨ rEqD K x y H Q
def vNe (K : PySem.W.Frag) : R2 := fun x y H Q => L2.rNe x y H Q ∨ rNeD K x y H Q
theorem op_eqA (hu : X.A.units + 64 < cLine) : OpR X (compareOp .Eq) (vEq X.K) := OpR.or op_eq (op_eqD hu)
theorem op_neA (hu : X.A.units + 64 < cLine) : OpR X (compareOp .NotEq) (vNe X.K) := OpR.or op_ne (op_neD hu)
theorem o2_eq : Op2 K rEq (vEq K) := by
  intro R F H M x y vx vy Qd Q m rx ry h c
  unfold rEq eqQ at h
  split at h
  case h_15 =>
    obtain ⟨hx, hy, h⟩ := h
    exact .inr ⟨_, _, rx.dp m.ex hx.pl (SeqAt.canLay_of_shaped hx.sh), ry.dp m.ex hy.pl (SeqAt.canLay_of_shaped hy.sh), hx.sh, hy.sh, c.now m (.bl _) h⟩
  all_goals
    cases rx; cases ry
    refine .inl ⟨rfl, c.now m (.bl _) ?_⟩
    simpa using h
theorem o2_ne : Op2 K rNe (vNe K) := by
  intro R F H M x y vx vy Qd Q m rx ry h c
  unfold rNe eqQ at h
  split at h
  case h_15 =>
    obtain ⟨hx, hy, h⟩ := h
    exact .inr ⟨_, _, rx.dp m.ex hx.pl (SeqAt.canLay_of_shaped hx.sh), ry.dp m.ex hy.pl (SeqAt.canLay_of_shaped hy.sh), hx.sh, hy.sh, c.now m (.bl _) h⟩
  all_goals
    cases rx; cases ry
    refine .inl ⟨rfl, c.now m (.bl _) ?_⟩
    simpa using h
def flatD : D → Bool
  | .non | .bl _ | .int _ | .str _ => true
  | _ => false
def eqD : D → D → Bool
  | .non, .non => true
  | .bl a, .bl b => a == b
  | .bl a, .int b => (if a then 1 else 0) == b
  | .int a, .bl b => a == (if b then 1 else 0)
  | .int a, .int b => a == b
  | .str a, .str b => a == b
  | _, _ => false
theorem flatD_rep {F : Hp} {d : D} {v : V} (r : Rep K F d v) (f : flatD d = true) : flatV v = true := by
  cases r <;> first | rfl | (cases f; done)
theorem eqD_rep {F : Hp} {d e : D} {v w : V} (r : Rep K F d v) (q : Rep K F e w) (f : flatD d = true) (g : flatD e = true) : eqV v w = eqD d e := by
  cases r <;> first | (cases f; done) | (cases q <;> first | rfl | (cases g; done))
theorem flatL_rep {F : Hp} : ∀ {ds : List D} {vs : List V}, RepL K F ds vs → ds.all flatD = true → vs.all flatV = true
  | _, _, .nil, _ => rfl
  | _, _, .cons r rs, f => by
    rw [List.all_cons, Bool.and_eq_true] at f ⊢
    exact ⟨flatD_rep r f.1, flatL_rep rs f.2⟩
theorem inD_rep {F : Hp} {e : D} {w : V} (q : Rep K F e w) (g : flatD e = true) : ∀ {ds : List D} {vs : List V}, RepL K F ds vs → ds.all flatD = true → inV w vs = ds.any fun d => eqD d e
  | _, _, .nil, _ => rfl
  | _, _, .cons r rs, f => by
    rw [List.all_cons, Bool.and_eq_true] at f
    have h := inD_rep q g rs f.2
    unfold inV at h ⊢
    rw [List.any_cons, List.any_cons, h, eqD_rep r q f.1 g]
def inQ (x y : D) (Q : Bool → Prop) : Prop := match y with
  | .lst ys => flatD x = true ∧ ys.all flatD = true ∧ Q (ys.any fun d => eqD d x)
  | .tup ys => flatD x = true ∧ ys.all flatD = true ∧ Q (ys.any fun d => eqD d x)
  | .kt ys => flatD x = true ∧ ys.all flatD = true ∧ Q (ys.any fun d => eqD d x)
  | .str z => ∃ c : Nat, x = .str ⟨#[c]⟩ ∧ Q (decide (c ∈ z.cps.toList))
  | _ => False
def rInD (neg : Bool) : DR2 := fun x y M Q => inQ x y fun b => Q (.bl (if neg then !b else b)) M
def vIn (K : PySem.W.Frag) : R2 := fun x y H Q => rIn K false x y H Q ∨ (∃ (c : Nat) (z : Str), x = .str ⟨#[c]⟩ ∧ y = .str z ∧ Q (.bl (decide (c ∈ z.cps.toList))) H)
theorem op_inA : OpR X (compareOp .In) (vIn X.K) := OpR.or op_in_seq op_in_sign
theorem o2_in : Op2 K (rInD false) (vIn K) := by
  intro R F H M x y vx vy Qd Q m rx ry h c
  unfold rInD inQ at h
  split at h
  · cases ry with | lst hy ry =>
      refine .inl ⟨_, _, rfl, .inl (m.l hy), flatD_rep rx h.1, flatL_rep ry h.2.1, ?_⟩
      rw [inD_rep rx h.1 ry h.2.1]
      exact c.now m (.bl _) h.2.2
  · cases ry with | tupX hy ry =>
      refine .inl ⟨_, _, rfl, .inr (m.t hy), flatD_rep rx h.1, flatL_rep ry h.2.1, ?_⟩
      rw [inD_rep rx h.1 ry h.2.1]
      exact c.now m (.bl _) h.2.2
  · cases ry with | kt hy ry =>
      refine .inl ⟨_, _, rfl, .inr (m.ex.t hy), flatD_rep rx h.1, flatL_rep ry h.2.1, ?_⟩
      rw [inD_rep rx h.1 ry h.2.1]
      exact c.now m (.bl _) h.2.2
  · cases ry
    obtain ⟨k, rfl, h⟩ := h
    cases rx
    exact .inr ⟨_, _, rfl, rfl, c.now m (.bl _) h⟩
  · exact h.elim
def ixQ (x : D) (i : Int) (M : MH) (Q : DQ) : Prop := match x with
  | .lst xs => ∃ d, atI xs i = some d ∧ Q d M
  | .tup xs => ∃ d, atI xs i = some d ∧ Q d M
  | .str z => ∃ c, atI z.cps.toList i = some c ∧ z.length ≤ sizeLine ∧ Q (.str ⟨#[c]⟩) M
  | .ref p => ∃ xs d, M p = some (.lst xs) ∧ atI xs i = some d ∧ Q d M
  | .scr ns => ∃ n, atI ns i = some n ∧ Q (.int n) M
  | _ => False
def rIxD : DR2 := fun x y M Q => match y with
  | .int i => ixQ x i M Q
  | _ => False
theorem atI_rep {F : Hp} {ds : List D} {vs : List V} {i : Int} {d : D} (r : RepL K F ds vs) (h : atI ds i = some d) : ∃ v, atI vs i = some v ∧ Rep K F d v := by
  unfold atI at h ⊢
  rw [← r.length]
  cases e : ixN ds.length i with
  | none => rw [e] at h; cases h
  | some j =>
    rw [e] at h
    exact r.get h
theorem HM.look {R F H : Hp} {M : MH} {p : Addr} {xs : List D} (m : HM K R F H M) (h : M p = some (.lst xs)) : ∃ vs, H p = some (.lst vs) ∧ RepL K F xs vs := m.ob p _ h
theorem o2_ix : Op2 K rIxD (rIx K) := by
  intro R F H M x y vx vy Qd Q m rx ry h c
  unfold rIxD at h
  split at h
  · cases ry
    unfold ixQ at h
    split at h
    · cases rx with | lst hx rx =>
        obtain ⟨d, e, q⟩ := h
        obtain ⟨v, e2, r⟩ := atI_rep rx e
        exact .inl ⟨_, _, _, _, rfl, rfl, m.l hx, e2, c.now m r q⟩
    · cases rx with | tupX hx rx =>
        obtain ⟨d, e, q⟩ := h
        obtain ⟨v, e2, r⟩ := atI_rep rx e
        exact .inr (.inl ⟨_, _, _, _, rfl, rfl, m.t hx, e2, c.now m r q⟩)
    · cases rx
      obtain ⟨k, e, z, q⟩ := h
      exact .inr (.inr ⟨_, _, _, rfl, rfl, z, e, c.now m (.str _) q⟩)
    · cases rx
      obtain ⟨xs, d, e0, e, q⟩ := h
      obtain ⟨vs, hv, rl⟩ := m.look e0
      obtain ⟨v, e2, r⟩ := atI_rep rl e
      exact .inl ⟨_, _, _, _, rfl, rfl, .inl (.inl hv), e2, c.now m r q⟩
    · cases rx with | scr hx =>
        obtain ⟨n, e, q⟩ := h
        refine .inl ⟨_, _, _, _, rfl, rfl, m.ex.l hx, ?_, c.now m (.int n) q⟩
        unfold atI at e ⊢
        rw [List.length_map]
        cases ej : ixN _ _ with
        | none => rw [ej] at e; cases e
        | some j =>
          rw [ej] at e
          show (List.map V.int _)[j]? = _
          rw [List.getElem?_map]
          rw [show _[j]? = some n from e]
          rfl
    · exact h.elim
  · exact h.elim
def cutD (xs : List D) (lo hi : Option Int) : List D := (xs.drop (HT.sIx xs.length 0 lo)).take (HT.sIx xs.length xs.length hi - HT.sIx xs.length 0 lo)
def sSet : DSet := fun o i x M Q => match o, i with
  | .ref p, .int k => ∃ xs j, M p = some (.lst xs) ∧ ixN xs.length k = some j ∧ Q (mup M p (.lst (xs.set j x)))
  | _, _ => False
theorem s3_set : Set3 K sSet rSetL := by
  intro R F H M o i x vo vi vx Qd Q m ro ri rx h c
  unfold sSet at h
  split at h
  · cases ro; cases ri
    obtain ⟨xs, j, e, ei, q⟩ := h
    obtain ⟨vs, hv, rl⟩ := m.look e
    refine ⟨_, _, _, j, rfl, rfl, hv, by rw [← rl.length]; exact ei, ?_⟩
    exact c _ _ _ (Ex.refl _) (m.put (o := .lst (xs.set j x)) e ⟨_, upd_same, rl.set rx j⟩) q
  · exact h.elim
end
end Dv
namespace Dv
open PySem PySem.Spec L2
section
variable {X : Cx} {R F0 : Hp} {K : PySem.W.Frag} {e : Expr} {es : List Expr} {t : DA} {r : DRC} {x : Str} {p pos : Pos} {id T : String}
theorem CallD.of {f : Value} {rv : List V → Hp → VK → Prop} (hc : CallR X f rv) (o : OpC X.K r rv) : CallD R F0 X f r := by
  intro pins s σ H xs us Q I rl h
  obtain ⟨F, ds, M, Qd, e, m, rp, h, c⟩ := h
  exact hc pins s σ H xs us Q I rl (o R F H M ds xs Qd Q m rp h c)
theorem callD_up : ∀ σ H Q, up X.K R F0 (dB1 r t) σ H Q → tCB (fun vs H Q => ∃ F ds M Qd, Ex F0 F ∧ HM X.K R F H M ∧ RepL X.K F ds vs ∧ r ds M Qd ∧ Cont X.K R F Qd Q) (upA X.K R F0 t) σ H Q := by
  rintro σ H Q ⟨F, ds, M, Qd, a, h, c⟩
  exact ⟨F, ds, M, _, a, h, fun F1 H1 M1 xs vs e1 m1 r1 q1 => ⟨F1, xs, M1, Qd, a.ex.trans e1, m1, r1, q1, c.mono e1⟩⟩
theorem pd_callB (hc : CallD R F0 X (.builtin id) r) (hg : Gl X x) (hm : X.mg x = none) (hv : bootBuiltins x = some (.builtin id)) (ha : PDA R F0 X (e :: es) t) (hn : x ≠ "__name__" := by decide) (hdb : (x == ("__debug__" : Str)) = false := by decide)
    (he : starEach (e :: es) X.env = (false, eval e X.env) :: starEach es X.env := by rfl) (hpl : (backTo pos (starEach es X.env)).any (·.1) = false := by rfl) : PDE R F0 X (.Call (.Name x p) (e :: es) [] pos) (dB1 r t) :=
  PE.imp (pe_callB hc hg hm hv ha hn hdb he hpl) callD_up
theorem pd_callTy (hc : CallD R F0 X (.type T) r) (hg : Gl X x) (hm : X.mg x = none) (hv : bootBuiltins x = some (.type T)) (ha : PDA R F0 X (e :: es) t) (hn : x ≠ "__name__" := by decide) (hdb : (x == ("__debug__" : Str)) = false := by decide)
    (he : starEach (e :: es) X.env = (false, eval e X.env) :: starEach es X.env := by rfl) (hpl : (backTo pos (starEach es X.env)).any (·.1) = false := by rfl) : PDE R F0 X (.Call (.Name x p) (e :: es) [] pos) (dB1 r t) :=
  PE.imp (pe_callTy hc hg hm hv ha hn hdb he hpl) callD_up
def rLen : DRC := fun xs M Q => match xs with
  | [.lst ys] => Q (.int ys.length) M
  | [.tup ys] => Q (.int ys.length) M
  | [.str z] => z.length ≤ sizeLine ∧ Q (.int z.length) M
  | [.ref p] => ∃ ys, M p = some (.lst ys) ∧ Q (.int ys.length) M
  | [.scr ns] => Q (.int ns.length) M
  | _ => False
theorem CallR.or {f : Value} {r r' : List V → Hp → VK → Prop} (h : CallR X f r) (h' : CallR X f r') : CallR X f (fun xs H Q => r xs H Q ∨ r' xs H Q) := fun pins s σ H xs us Q I rl q => q.elim (h pins s σ H xs us Q I rl) (h' pins s σ H xs us Q I rl)
theorem call_lenD : CallD R F0 X (.builtin "len") rLen := by
  refine CallD.of (CallR.or call_len_seq call_len_str) ?_
  intro R F H M xs vs Qd Q m rp h c
  unfold rLen at h
  split at h
  · obtain ⟨v, rfl, r⟩ := repl_one rp
    cases r with | lst hx rx => exact .inl ⟨_, _, rfl, .inl (m.l hx), by rw [← rx.length]; exact c.now m (.int _) h⟩
  · obtain ⟨v, rfl, r⟩ := repl_one rp
    cases r with | tupX hx rx => exact .inl ⟨_, _, rfl, .inr (m.t hx), by rw [← rx.length]; exact c.now m (.int _) h⟩
  · obtain ⟨v, rfl, r⟩ := repl_one rp
    cases r
    exact .inr ⟨_, rfl, h.1, c.now m (.int _) h.2⟩
  · obtain ⟨v, rfl, r⟩ := repl_one rp
    cases r
    obtain ⟨ys, e, q⟩ := h
    obtain ⟨ws, hw, rl⟩ := m.look e
    exact .inl ⟨_, _, rfl, .inl (.inl (.inl hw)), by rw [← rl.length]; exact c.now m (.int _) q⟩
  · obtain ⟨v, rfl, r⟩ := repl_one rp
    cases r with | scr hx => exact .inl ⟨_, _, rfl, .inl (m.ex.l hx), by rw [List.length_map]; exact c.now m (.int _) h⟩
  · exact h.elim
def rInt : DRC := fun xs M Q => match xs with
  | [.int i] => Q (.int i) M
  | [.bl k] => Q (.int (if k then 1 else 0)) M
  | _ => False
theorem call_intD : CallD R F0 X (.type "int") rInt := by
  refine CallD.of call_int1 ?_
  intro R F H M xs vs Qd Q m rp h c
  unfold rInt at h
  split at h
  · obtain ⟨v, rfl, r⟩ := repl_one rp; cases r; exact .inl ⟨_, rfl, c.now m (.int _) h⟩
  · obtain ⟨v, rfl, r⟩ := repl_one rp; cases r; exact .inr ⟨_, rfl, c.now m (.int _) h⟩
  · exact h.elim
def rStr : DRC := fun xs M Q => match xs with
  | [.int i] => i.natAbs.log2 < 1920 ∧ Q (.str (toString i)) M
  | [.str a] => Q (.str a) M
  | _ => False
theorem call_strD : CallD R F0 X (.type "str") rStr := by
  refine CallD.of (CallR.or call_str_int SkE.call_str_str) ?_
  intro R F H M xs vs Qd Q m rp h c
  unfold rStr at h
  split at h
  · obtain ⟨v, rfl, r⟩ := repl_one rp; cases r; exact .inl ⟨_, rfl, h.1, c.now m (.str _) h.2⟩
  · obtain ⟨v, rfl, r⟩ := repl_one rp; cases r; exact .inr ⟨_, rfl, c.now m (.str _) h⟩
  · exact h.elim
def rAbs : DRC := fun xs M Q => match xs with
  | [.int i] => Q (.int (if i < 0 then -i else i)) M
  | _ => False
theorem call_absD : CallD R F0 X (.builtin "abs") rAbs := by
  refine CallD.of call_abs ?_
  intro R F H M xs vs Qd Q m rp h c
  unfold rAbs at h
  split at h
  · obtain ⟨v, rfl, r⟩ := repl_one rp; cases r; exact ⟨_, rfl, c.now m (.int _) h⟩
  · exact h.elim
def rMax : DRC := fun xs M Q => match xs with
  | [.int i, .int j] => Q (.int (if j > i then j else i)) M
  | _ => False
def rMin : DRC := fun xs M Q => match xs with
  | [.int i, .int j] => Q (.int (if j < i then j else i)) M
  | _ => False
theorem call_maxD (hc : X.calm = true) : CallD R F0 X (.builtin "max") rMax := by
  refine CallD.of (call_max2 hc) ?_
  intro R F H M xs vs Qd Q m rp h c
  unfold rMax at h
  split at h
  · obtain ⟨v, w, rfl, r1, r2⟩ := repl_two rp; cases r1; cases r2; exact ⟨_, _, rfl, c.now m (.int _) h⟩
  · exact h.elim
theorem call_minD (hc : X.calm = true) : CallD R F0 X (.builtin "min") rMin := by
  refine CallD.of (call_min2 hc) ?_
  intro R F H M xs vs Qd Q m rp h c
  unfold rMin at h
  split at h
  · obtain ⟨v, w, rfl, r1, r2⟩ := repl_two rp; cases r1; cases r2; exact ⟨_, _, rfl, c.now m (.int _) h⟩
  · exact h.elim
def rDivmod : DRC := fun xs M Q => match xs with
  | [.int i, .int j] => CDivP i j ∧ Q (.tup [.int (i / j), .int (i % j)]) M
  | _ => False
theorem call_divmodD : CallD R F0 X (.builtin "divmod") rDivmod := by
  refine CallD.of call_divmodW ?_
  intro R F H M xs vs Qd Q m rp h c
  unfold rDivmod at h
  split at h
  · obtain ⟨v, w, rfl, r1, r2⟩ := repl_two rp; cases r1; cases r2
    exact ⟨_, _, rfl, h.1, fun p n => c.cold m n (.tup upd_same (.cons (.int _) (.cons (.int _) .nil))) h.2⟩
  · exact h.elim
theorem bls_rep {F : Hp} : ∀ {bs : List Bool} {vs : List V}, RepL K F (bs.map .bl) vs → vs = bs.map V.bl
  | [], _, .nil => rfl
  | b :: bs, _, .cons r rs => by cases r; rw [bls_rep rs]; rfl
def rAll : DRC := fun xs M Q => ∃ bs : List Bool, xs = [.lst (bs.map .bl)] ∧ Q (.bl (bs.all fun b => b)) M
theorem call_allD (hc : X.calm = true) : CallD R F0 X (.builtin "all") rAll := by
  refine CallD.of (cr_all hc) ?_
  rintro R F H M xs vs Qd Q m rp ⟨bs, rfl, h⟩ c
  obtain ⟨v, rfl, r⟩ := repl_one rp
  cases r with | lst hx rx => exact ⟨_, bs, rfl, (bls_rep rx) ▸ m.l hx, c.now m (.bl _) h⟩
abbrev DRM := D → List D → MH → DQ → Prop
variable {name : Str} {apos : Pos} {o : Expr} {to te : DE} {rm : DRM} {rv : V → List V → Hp → VK → Prop}
end
end Dv
namespace PySem
namespace ErD
open PySem.W PySem.Calls PyProof.Rows PySem.HandSPX
open Builtin Builtin.ObjectAttr
structure Bse (bm : List Value) (nid : String) : Prop where
  pass : ∀ self, refuseLoop self "__setattr__" bm = pure ()
  obj : bm.contains (.type "object") = true
  call : ∃ B iid bB, ExcBaseFacts B nid iid bB ∧ ∀ Y : String, bm.contains (.type Y) = bB.contains (.type Y)
theorem Bse.own {bm : List Value} {nid : String} {C : Addr} (h : Bse bm nid) : Bse (.ref C :: bm) nid :=
  ⟨fun self => by rw [refuseLoop_ref]; exact h.pass self, by rw [List.contains_cons, h.obj, Bool.or_true], let ⟨B, i, b, F, e⟩ := h.call; ⟨B, i, b, F, fun Y => by rw [List.contains_cons, e Y]; rfl⟩⟩
theorem Bse.ve : Bse [.type "ValueError", .type "Exception", .type "BaseException", .type "object"] "ValueError.__new__" :=
  ⟨fun self => F.store_ValueError.passes self, by decide +kernel, _, _, _, F.excBase_ValueError, fun Y => rfl⟩
theorem Bse.le : Bse [.type "LookupError", .type "Exception", .type "BaseException", .type "object"] "LookupError.__new__" :=
  ⟨fun self => F.store_LookupError.passes self, by decide +kernel, _, _, _, F.excBase_LookupError, fun Y => rfl⟩
theorem Bse.ae : Bse [.type "ArithmeticError", .type "Exception", .type "BaseException", .type "object"] "ArithmeticError.__new__" :=
  ⟨fun self => F.store_ArithmeticError.passes self, by decide +kernel, _, _, _, F.excBase_ArithmeticError, fun Y => rfl⟩
section
variable {prog : Program} {w : World} {A : Around} {R : Result → Shared → Prop} {g : Array GenState} {dr : Drawn} {tk0 : Nat} {os : OsState} {hp : Heap}
theorem set_new {K : W.Frag} {name nid : Str} {nd : String} {tk : Tok} {v : Value} {x C : Addr} {fv : Array Value} {cl : ClassData}
    (Y : K.In hp) (gx : hp.get? x = some { cls := .ref C, data := .fields fv }) (gc : W.clsIn K C = some cl) (hb : Bse cl.mro nd) (dict : cl.hasDict = true) (no : W.findIn K (.ref C) name = some none)
    (hq : ∀ h' tk' dx, (∀ b o, b ≠ x → hp.get? b = some o → h'.get? b = some o) → hp.objs.size ≤ dx → dx ≠ x → h'.get? x = some { cls := .ref C, dict := some dx, data := .fields fv } → h'.Ns1 dx (fun y => if y = name then some v else none) → R (.ok (.ret .none)) ⟨h', g, dr, tk', os⟩) :
    codeAny (model prog w) A (.call (.builtin "object.__setattr__") ⟨[.ref x, .str name tk, v], []⟩) R ⟨hp, g, dr, tk0, os⟩ := by
  have J : W.InstAt hp x { cls := .ref C, data := .fields fv } C none := ⟨gx, rfl, rfl, trivial⟩
  have so := F.store_object
  have full : cl.mro.isEmpty = false := by
    cases e : cl.mro with
    | nil => have z := hb.obj; rw [e] at z; cases z
    | cons _ _ => rfl
  have xs : x ≠ hp.objs.size := Nat.ne_of_lt (Heap.lt_size gx)
  have isO : W.Looks (model prog w) hp (isInstance (.ref x) (.type "object")) true := J.type.andThen (W.looks_mroIn Y (by unfold W.mroIn; rw [gc, Option.bind_some, if_neg (by rw [full]; decide), hb.obj]))
  refine codeAny_call_builtin so.slot.plain so.entry (@W.check_slot (model prog w) _ _ ⟨hp, g, dr, tk0, os⟩ "object.__setattr__" "object" "__setattr__" (.ref x) [.str name tk, v] [] _ so.kind so.split isO (so.args (.ref x) (.str name tk) v) ?_)
  have lm : W.Looks (model prog w) hp (mroOf (.ref C)) cl.mro := (W.looks_clsIn Y gc).andThen .now
  have lt : W.Looks (model prog w) hp (storeTaker? none) none := .now
  have lc : W.Looks (model prog w) hp (classData C) cl := W.looks_clsIn Y gc
  rw [W.osa_eq, refuse_eq]
  refine wpAny_bind (wpAny_bind (J.type.at (wpAny_bind (lm.at ?_))))
  rw [hb.pass]
  refine wpAny_pure (wpAny_bind (J.type.at (wpAny_bind ((W.looks_findIn Y no).at (wpAny_bind (lt.at ?_))))))
  show wpAny _ _ (storeInOwnDict (.ref x) (.ref C) (.str name tk) name v false) _ _ _
  obtain ⟨c1, c2, c3, c4, c5, c6, c7, c8, c9, c10, c11⟩ := cl
  dsimp only at dict
  subst dict
  unfold storeInOwnDict ownDictForStores
  repeat (first | with_reducible refine store_in_new ?_ ?_ | with_reducible refine wpAny_loadPart_at gx ?_ | with_reducible refine lc.at ?_ | wp_step)
  · exact ⟨_, #[], _, (Heap.get?_update_ne _ _ _ _ xs.symm).trans (Heap.get?_push_at rfl rfl), rfl, fun e he => absurd he (by simp), fun _ => rfl⟩
  · intro h' tk' hn' same
    have g2 : (hp.push { cls := .type "dict", data := .dict #[] }).get? x = some { cls := .ref C, data := .fields fv } := Heap.get?_push_of_some _ gx
    refine hq h' tk' hp.objs.size (fun b o nb eo => ?_) (Nat.le_refl _) xs.symm ?_ hn'
    · exact (same.2 b (Nat.ne_of_lt (Heap.lt_size eo))).trans ((Heap.get?_update_ne _ _ _ _ nb).trans (Heap.get?_push_of_some _ eo))
    · exact (same.2 x xs).trans (Heap.get?_update_self _ g2 rfl)
end
end ErD
end PySem
namespace PySem
namespace ErD
open PySem.W PySem.Calls PyProof.Rows PySem.HandSPX
def eArgs (fl : Str) (p1 p2 : Pos) : Arguments := { posonlyargs := [], args := [{ arg := "self", annotation := none, pos := p1 }, { arg := fl, annotation := none, pos := p2 }], vararg := none, kwonlyargs := [], kw_defaults := [], kwarg := none, defaults := [] }
def eBody (fl : Str) (q1 q2 q3 q4 : Pos) : List Stmt := [.Assign [.Attribute (.Name "self" q1) fl q2] (.Name fl q3) q4]
def eScope (fl : Str) : Scope := { kind := .function, names := [(PySem.Str.ofString "self", .local), (fl, .local)], isGenerator := false, isCoroutine := false, more := [] }
structure ErrT (K : Frag) (mg : Str → Option Value) (cn fl : Str) (C fI : Addr) : Prop where
  fd : fl = "given" ∨ fl = "index"
  gC : mg cn = some (.ref C)
  cls : ∃ nm q N bs bm sn sub ab col dd k0 k1 k2 k3 k5 nid, K.lookup C = some (excClassObj nm q C N bs bm true sn sub ab col dd k0 k1 k2 k3 k5 nid) ∧ Bse bm nid
  sa : findIn K (.ref C) "__setattr__" = some (some (.builtin "object.__setattr__"))
  ga : findIn K (.ref C) "__getattribute__" = some (some (.builtin "BaseException.__getattribute__"))
  gg : findIn K (.ref C) "__getattr__" = some none
  noN : findIn K (.ref C) fl = some none
  iC : findIn K (.ref C) "__init__" = some (some (.ref fI))
  tC : typeIn K (.ref fI) = some (.type "function")
  kC : keepIn K (.ref C) = true
  exC : subIn K (.ref C) (.type "BaseException") = some true
  tyC : typeIn K (.ref C) = some (.type "type")
  hdC : hasDictIn K C = true
  fn : ∃ (oc : Value) (od : Option Addr) (doc pm : Value) (an : Option Addr) (cdv ct : Value) (osl : Array (Option Value)) (qn : Str) (p1 p2 q1 q2 q3 q4 : Pos),
    K.lookup fI = some ⟨oc, od, .func (fnOf "__init__" qn (eArgs fl p1 p2) (eBody fl q1 q2 q3 q4) (eScope fl) .none .none doc pm an cdv ct), osl⟩ ∧ codeIn K cdv qn = true
theorem one_le_line (v : Value) : [v].length ≤ sizeLine := by
  rw [sizeLine_eq]
  exact (by decide : 1 ≤ 16777216)
theorem loc_ld {M : Model} {s : Shared} {qn : Str} {scope : Scope} {L a : Addr} {cd : Value} {m : Str → Option Value} {x : Str} {pos : Pos} {v : Value} {Q : Value → Shared → Prop} {A : Around} {E : Value → Shared → Prop} (hn : s.heap.Ns L m) (hv : m x = some v) (h : Q v s)
    (hk : scope.kind = .function := by rfl) (hl : (envOfC qn scope L a cd).kindOf x = some .local := by rfl) (hd : (x == ("__debug__" : Str)) = false := by decide) : wpAny M A (eval (.Name x pos) (envOfC qn scope L a cd)) Q E s := wpAny_Name (wpAny_loadName_local hk hl hn hv h) hd
structure EndI (h h' : Heap) (x C dx t1 : Addr) (fl : Str) (v : Value) : Prop where
  keep : ∀ b o, b ≠ x → h.get? b = some o → h'.get? b = some o
  obj : h'.get? x = some { cls := .ref C, dict := some dx, data := .fields #[.ref t1, .none, .none, .none, .bool false, .none] }
  dbig : h.objs.size ≤ dx
  dne : dx ≠ x
  ns : h'.Ns1 dx (fun y => if y = fl then some v else none)
structure Made (h h' : Heap) (e C d : Addr) (fl : Str) (v : Value) : Prop where
  keep : ∀ b o, h.get? b = some o → h'.get? b = some o
  new : h.objs.size ≤ e
  obj : ∃ oe vs, h'.get? e = some oe ∧ oe.cls = .ref C ∧ oe.dict = some d ∧ oe.data = .fields vs ∧ vs[1]? = some .none
  dbig : h.objs.size ≤ d
  dne : d ≠ e
  ns : h'.Ns1 d (fun y => if y = fl then some v else none)
section
variable {prog : Program} {w : World} {A : Around} {E : Value → Shared → Prop} {R : Result → Shared → Prop} {s : Shared} {K : Frag} {mg : Str → Option Value} {C fI : Addr} {cn fl : Str}
theorem err_init (T : ErrT K mg cn fl C fI) {x t0 : Addr} {v : Value} (Y : K.In s.heap) (lim : s.heap.NoLimit) (hx : s.heap.get? x = some (excO C t0)) (room : A.depth < recursionLimit)
    (hq : ∀ h' tk dx, EndI s.heap h' x C dx t0 fl v → R (.ok (.ret .none)) { s with heap := h', toks := tk }) :
    codeAny (model prog w) A (.call (.ref fI) ⟨[.ref x, v], []⟩) R s := by
  obtain ⟨oc, od, doc, pm, an, cdv, ct, osl, qn, p1, p2, q1, q2, q3, q4, ho, hcd⟩ := T.fn
  obtain ⟨nm, q, N, bs, bm, sn, sub, ab, col, dd, k0, k1, k2, k3, k5, nid, hC, hb⟩ := T.cls
  have hcl : clsIn K C = some { name := nm, bases := bs, mro := .ref C :: bm, ns := N, qualname := q, hasDict := true, slotNames := sn, subclasses := sub, abstract := ab, collection := col, hasDel := false } := by unfold clsIn; rw [hC] <;> rfl
  have noN := T.noN
  have fd := T.fd
  rcases fd with rfl | rfl
  all_goals
    refine Att.call_fn (binds := [("self", .ref x), (_, v)]) Y lim ho hcd room (BindsTo.of_eq (by first | rfl | with_unfolding_all rfl)) (by first | rfl | decide | with_unfolding_all rfl) (fun s₁ IC => ?_) rfl rfl rfl
    obtain ⟨h₁, tk₁, rfl⟩ := IC.toInCall.same
    have k : ∀ b o, s.heap.get? b = some o → h₁.get? b = some o := IC.toInCall.keep
    have hn := IC.toInCall.ns
    have Y₁ : K.In h₁ := Y.keeps k
    have hx₁ := k _ _ hx
    show wpAny _ _ (execs _ _) _ _ _
    refine wpAny_execs_cons (plainObj_wpAny_Assign_Attribute ?_)
    refine loc_ld (v := v) hn (by first | rfl | with_unfolding_all rfl | kernel_rfl) (loc_ld (v := .ref x) hn (by first | rfl | with_unfolding_all rfl | kernel_rfl) ?_)
    refine set_plain Y₁ (ox := excO C t0) (od := none) ⟨hx₁, rfl, rfl, trivial⟩ T.sa ?_
    refine set_new (nid := "") Y₁ hx₁ hcl hb.own rfl noN (fun h₃ tk₃ dx k₃ dn dne hx₃ hn₃ => ?_)
    show wpAny _ _ (execs _ _) _ _ _
    have z : s.heap.objs.size < h₁.objs.size := hn.lt
    exact wpAny_execs_nil (hq h₃ tk₃ dx ⟨fun b o nb e => k₃ b o nb (k b o e), hx₃, Nat.le_of_lt (Nat.lt_of_lt_of_le z dn), dne, hn₃⟩)
theorem err_made (T : ErrT K mg cn fl C fI) {v : Value} (Y : K.In s.heap) (lim : s.heap.NoLimit) (room : A.depth + 1 < recursionLimit)
    (hq : ∀ h' tk e d, Made s.heap h' e C d fl v → R (.ok (.ret (.ref e))) { s with heap := h', toks := tk }) :
    codeAny (model prog w) A (.call (.ref C) ⟨[v], []⟩) R s := by
  obtain ⟨nm, q, N, bs, bm, sn, sub, ab, col, dd, k0, k1, k2, k3, k5, nid, hC, hb⟩ := T.cls
  obtain ⟨B, iid, bB, BF, same⟩ := hb.call
  obtain ⟨hp, g, dr, tk, os⟩ := s
  have k : ∀ b o, hp.get? b = some o → ((hp.push (kdv_tup [v])).push (excO C hp.objs.size)).get? b = some o := fun b o e => Heap.get?_push_of_some _ (Heap.get?_push_of_some _ e)
  have there : ((hp.push (kdv_tup [v])).push (excO C hp.objs.size)).get? (hp.objs.size + 1) = some (excO C hp.objs.size) := by heap_get
  refine call_own BF same (Y _ _ hC) (looks_findIn Y T.iC) (fun self => bind_fn Y self T.tC) (one_le_line v) ?_
  refine err_init (s := ⟨(hp.push (kdv_tup [v])).push (excO C hp.objs.size), g, dr, tk, os⟩) T (Y.keeps k) (lim.keeps k) there room fun h' tk' dx ⟨k', hx, dn, dne, hns⟩ => ?_
  have old : ∀ b o, hp.get? b = some o → h'.get? b = some o := fun b o e => k' b o (Nat.ne_of_lt (Nat.lt_succ_of_lt (Heap.lt_size e))) (k b o e)
  have z : hp.objs.size + 1 + 1 ≤ dx := by
    have q := dn
    rw [Heap.size_push, Heap.size_push] at q
    exact q
  exact ⟨rfl, hq h' tk' (hp.objs.size + 1) dx ⟨old, Nat.le_succ _, ⟨_, _, hx, rfl, rfl, rfl, rfl⟩, Nat.le_trans (Nat.le_trans (Nat.le_succ _) (Nat.le_succ _)) z, dne, hns⟩⟩
end
end ErD
end PySem
namespace Dv
open PySem PySem.Spec L2
theorem relO_one {v : V} {v' : Value} {fl : Str} (r : RelV v v') (f : Str) : RelO (List.lookup f [(fl, v)]) (if f = fl then some v' else none) := by
  by_cases hw : f = fl
  · subst hw
    rw [if_pos rfl]
    have q : List.lookup f [(f, v)] = some v := by simp [List.lookup]
    rw [q]
    exact r
  · rw [if_neg hw]
    have qw : (f == fl) = false := by simpa using hw
    have q2 : List.lookup f [(fl, v)] = none := by simp [List.lookup, qw]
    rw [q2]
    trivial
section
variable {X : Cx} {C fI : Addr} {cn fl : Str} {R F0 : Hp}
end
end Dv
namespace Dv
open PySem PySem.Spec L2
abbrev Cl := Value × Nat × (Addr → Value → Option Addr → TS)
inductive Clauses (X : Cx) : List ExceptHandler → List Cl → Prop
  | nil : Clauses X [] []
  | cons {x n : Str} {c : Value} {i : Nat} {ts : Addr → Value → Option Addr → TS} {b₀ : Stmt} {suite : List Stmt} {np pos' : Pos} {hds : List ExceptHandler} {l : List Cl} (names : Names X x c) (hi : X.N[i]? = some n) (hln : X.env.kindOf n = some .local)
      (su : ∀ (a : Addr) (oe : Obj) (cls : Value) (d : Option Addr) (pn : List (Addr × Obj)), Zc cls d oe → (∃ vs, oe.data = .fields vs) → PSs (X.suite a ((a, oe) :: pn)) (b₀ :: suite) (ts a cls d)) (rest : Clauses X hds l) :
      Clauses X (.ExceptHandler (some (.Name x np)) (some n) (b₀ :: suite) pos' :: hds) ((c, i, ts) :: l)
section
variable {X : Cx} {body : List Stmt} {h₀ : ExceptHandler} {hds : List ExceptHandler} {l : List Cl} {pos : Pos} {tb : WX → TS} {Wout : WX}
end
abbrev DCl := Value × Nat × (Addr → Value → Option Addr → DS)
section
variable {X : Cx} {R F0 : Hp}
inductive DClauses (R : Hp) (X : Cx) : List ExceptHandler → List DCl → Prop
  | nil : DClauses R X [] []
  | cons {x n : Str} {c : Value} {i : Nat} {ts : Addr → Value → Option Addr → DS} {b₀ : Stmt} {suite : List Stmt} {np pos' : Pos} {hds : List ExceptHandler} {l : List DCl} (names : Names X x c) (hi : X.N[i]? = some n) (hln : X.env.kindOf n = some .local)
      (su : ∀ (F1 : Hp) (a : Addr) (oe : Obj) (cls : Value) (d : Option Addr) (pn : List (Addr × Obj)), Zc cls d oe → (∃ vs, oe.data = .fields vs) → PDSs R F1 (X.suite a ((a, oe) :: pn)) (b₀ :: suite) (ts a cls d)) (rest : DClauses R X hds l) :
      DClauses R X (.ExceptHandler (some (.Name x np)) (some n) (b₀ :: suite) pos' :: hds) ((c, i, ts) :: l)
end
end Dv
namespace Dv
open PySem PySem.Spec L2
abbrev DO := Sl → MH → (Option Int → MH → Prop) → Prop
def upO (K : PySem.W.Frag) (R F0 : Hp) (t : DO) : TO := fun σ H Q => ∃ F ds M Qd, At K R F0 F H σ ds M ∧ t ds M Qd ∧ ∀ F' H' M' o, Ex F F' → HM K R F' H' M' → Qd o M' → Q o H'
abbrev PDO (R F0 : Hp) (X : Cx) (e : Option Expr) (t : DO) : Prop := PO X e (upO X.K R F0 t)
theorem PO.imp {X : Cx} {e : Option Expr} {t t' : TO} (h : PO X e t) (k : ∀ σ H Q, t' σ H Q → t σ H Q) : PO X e t' := ⟨fun pins s σ H Q I q => h.run pins s σ H Q I (k σ H Q q)⟩
section
variable {X : Cx} {R F0 : Hp} {K : PySem.W.Frag} {e : Expr} {te : DE} {lo hi : Option Expr} {tl th : DO} {p2 pos : Pos}
def dNoPart : DO := fun _ M Q => Q none M
def dPart (t : DE) : DO := fun ds M Q => t ds M fun x M1 => match x with
  | .int i => Q (some i) M1
  | _ => False
theorem pdo_none : PDO R F0 X none dNoPart := by
  refine PO.imp po_none ?_
  rintro σ H Q ⟨F, ds, M, Qd, a, h, c⟩
  exact c _ _ _ _ (Ex.refl _) a.hm h
theorem pdo_some (h : PDE R F0 X e te) : PDO R F0 X (some e) (dPart te) := by
  refine PO.imp (po_some h) ?_
  rintro σ H Q ⟨F, ds, M, Qd, a, h, c⟩
  refine ⟨F, ds, M, _, a, h, fun F1 H1 M1 x vx e1 m1 r1 q1 => ?_⟩
  cases r1 with
  | int i => exact ⟨i, rfl, c _ _ _ _ e1 m1 q1⟩
  | _ => exact q1.elim
def rSl : D → Option Int → Option Int → MH → DQ → Prop := fun x lo hi M Q => match x with
  | .lst xs => Q (.lst (cutD xs lo hi)) M
  | .tup xs => Q (.tup (cutD xs lo hi)) M
  | .scr ns => Q (.lst (cutD (ns.map .int) lo hi)) M
  | .str z => z.length ≤ sizeLine ∧ Q (.str (cutS z lo hi)) M
  | .ref p => ∃ xs, M p = some (.lst xs) ∧ Q (.lst (cutD xs lo hi)) M
  | _ => False
def vSl (K : PySem.W.Frag) : V → Option Int → Option Int → Hp → VK → Prop := fun x lo hi H Q => (rSlL K x lo hi H Q ∨ rSlA K x lo hi H Q) ∨ rSlS x lo hi H Q
theorem sl_all : SlR X (vSl X.K) := SlR.or (SlR.or sl_list sl_tupA) sl_str
theorem cut_rep {F : Hp} {ds : List D} {vs : List V} (r : RepL K F ds vs) (lo hi : Option Int) : RepL K F (cutD ds lo hi) (cutV vs lo hi) := by
  unfold cutD cutV
  rw [r.length]
  exact (r.drop _).take _
theorem RepL.ints {F : Hp} : ∀ ns : List Int, RepL K F (ns.map .int) (ns.map V.int)
  | [] => .nil
  | n :: ns => .cons (.int n) (RepL.ints ns)
def dSl (te : DE) (tl th : DO) : DE := fun ds M Q => te ds M fun x M1 => tl ds M1 fun l M2 => th ds M2 fun u M3 => rSl x l u M3 Q
theorem cut_whole {α : Type} (xs : List α) {i j : Nat} (h : i = 0 ∧ j = xs.length) : (xs.drop i).take (j - i) = xs := by
  obtain ⟨rfl, rfl⟩ := h
  simp
theorem pd_slice (he : PDE R F0 X e te) (hl : PDO R F0 X lo tl) (hu : PDO R F0 X hi th) : PDE R F0 X (.Subscript e (.Slice lo hi none p2) pos) (dSl te tl th) := by
  refine PE.imp (pe_slice sl_all he hl hu) ?_
  rintro σ H Q ⟨F, ds, M, Qd, a, h, c⟩
  refine ⟨F, ds, M, _, a, h, fun F1 H1 M1 x vx e1 m1 r1 q1 => ?_⟩
  refine ⟨F1, ds, M1, _, a.go e1 m1, q1, fun F2 H2 M2 l e2 m2 q2 => ?_⟩
  refine ⟨F2, ds, M2, _, a.go (e1.trans e2) m2, q2, fun F3 H3 M3 u e3 m3 q3 => ?_⟩
  have r3 := r1.mono (e2.trans e3)
  have c3 := c.mono ((e1.trans e2).trans e3)
  have m := m3
  unfold rSl at q3
  split at q3
  · cases r3 with | lst hx rx => exact .inl (.inl ⟨_, _, rfl, m.l hx, fun p n => c3.cold m n (.lst upd_same ((cut_rep rx _ _).mono (.cold m n))) q3⟩)
  · cases r3 with | tupX hx rx =>
      refine .inl (.inr ⟨_, _, rfl, m.t hx, fun z => ?_, fun z p n => c3.cold m n (.tup upd_same ((cut_rep rx _ _).mono (.cold m n))) q3⟩)
      refine c3.now m (.tupX hx rx) ?_
      have e : cutD _ l u = _ := cut_whole _ (by rw [rx.length]; exact z)
      rw [e] at q3
      exact q3
  · cases r3 with | scr hx => exact .inl (.inl ⟨_, _, rfl, m.ex.l hx, fun p n => c3.cold m n (.lst upd_same (cut_rep (RepL.ints _) _ _)) q3⟩)
  · cases r3; exact .inr ⟨_, rfl, q3.1, c3.now m (.str _) q3.2⟩
  · cases r3
    obtain ⟨xs, ex, q⟩ := q3
    obtain ⟨vs, hv, rl⟩ := m.look ex
    exact .inl (.inl ⟨_, _, rfl, .inl (.inl hv), fun p n => c3.cold m n (.lst upd_same ((cut_rep rl _ _).mono (.cold m n))) q⟩)
  · exact q3.elim
end
def M0 : MH := fun _ => none
def R0 : Hp := fun _ => none
theorem HM.start {K : PySem.W.Frag} {H : Hp} : HM K R0 H H M0 := ⟨Ex.refl _, (fun _ _ e => by cases e), (fun _ _ e => by cases e), (fun _ _ e => by cases e), (fun _ _ e => by cases e)⟩
section
open PyProof.Rows
theorem law_goes {P : Program} {w : World} {K : PySem.W.Frag} {mg mb : Str → Option Value} {k : Nat} {fa a : Addr} {fd : FuncData} {x : Str} {sp : DSp} {s₁ : Shared} {vs : List Value} {ns : List Int}
    (KX : K.In s₁.heap) (glob : s₁.heap.Ns mainGlobals mg) (blt : s₁.heap.Ns builtinsNs mb) (boot : ∀ x : Str, x ≠ "__name__" → mb x = bootBuiltins x) (lim : s₁.heap.NoLimit) (gens : s₁.gens = #[])
    (ha : s₁.heap.get? a = some { cls := .type "list", data := .seq vs.toArray }) (hi : IntsAre vs ns) (hl : ns.length ≤ sizeLine) (room : Room k callerA)
    (F : ∀ base : Heap, K.In base → base.Ns mainGlobals mg → FnG P w K mg base k fa fd [x] (upSp K sp)) (binds : ∀ (s : Shared) (u : Value), BindsTo s fd ⟨[u], []⟩ [(x, u)])
    (keeps : sp [.scr ns] M0 (fun d _ => d = .bl true) fun _ _ _ => False) :
    codeAny (model P w) callerA (.call (.ref fa) ⟨[.ref a], []⟩) (fun r s' => r = .ok (.ret (.bool true)) ∧ OldK s₁.heap s'.heap ∧ s'.os = s₁.os ∧ AllBare s'.gens) s₁ := by
  have rv := vals_ints hi
  have len := hi.length
  have core : ∀ H : Hp, Only H → SqL K H a (ns.map V.int) → HOk P w H s₁.heap → (∀ b, H b ≠ none → b = a) → (H a ≠ none → K.lookup a = none) →
      codeAny (model P w) callerA (.call (.ref fa) ⟨[.ref a], []⟩) (fun r s' => r = .ok (.ret (.bool true)) ∧ OldK s₁.heap s'.heap ∧ s'.os = s₁.os ∧ AllBare s'.gens) s₁ := by
    intro H only sq good one out
    have inB : ∀ {b : Addr} {o : Obj}, s₁.heap.get? b = some o → H b = none → (hidT s₁.heap H).get? b = some o := fun e n => hidT_get e n
    have dicts : ∀ {b : Addr} {o : Obj} {es : Array DictEntry} {ep : Nat}, s₁.heap.get? b = some o → o.data = .dict es ep → H b = none := fun {b o es ep} e d => by
      cases q : H b with
      | none => rfl
      | some u =>
        have e' : b = a := one b (by rw [q]; simp)
        subst e'
        rw [ha] at e; cases e
        have d' : Data.seq vs.toArray _ = Data.dict es ep := d
        cases d'
    have nsB : ∀ {b : Addr} {m : Str → Option Value}, s₁.heap.Ns b m → (hidT s₁.heap H).Ns b m := fun {b m} ⟨o, es, ep, e, d, r⟩ => ⟨o, es, ep, inB e (dicts e d), d, r⟩
    have kB : K.In (hidT s₁.heap H) := fun b o e => inB (KX b o e) (by
      cases q : H b with
      | none => rfl
      | some u =>
        have e' : b = a := one b (by rw [q]; simp)
        subst e'
        rw [out (by rw [q]; simp)] at e; cases e)
    have mods : Mod K mg (hidT s₁.heap H) := ⟨kB, nsB glob, ⟨mb, nsB blt, boot⟩, let ⟨mc, h1, h2⟩ := lim; ⟨mc, nsB h1, h2⟩⟩
    have e0 : Env0 P w K mg (hidT s₁.heap H) callerA [] s₁ H := ⟨rfl, mods, fun b o e => of_hidT e, Nat.le_of_eq (hidT_size _ _), trivial, fun b hb => absurd (show b ∈ ([] : List Addr) from hb) (by simp), good, .of_eq gens⟩
    refine codeAny_mono ((F _ kB (nsB glob)).run callerA [] s₁ H ⟨[.ref a], []⟩ [.ref a] [.ref a] (fun v _ => v = .bl true) (fun _ _ _ => False) room rfl e0 (binds s₁ (.ref a)) (.cons rfl .nil)
      ⟨R0, H, [.scr ns], M0, _, _, .start, .cons (.scr sq) .nil, keeps, fun F' H' M' d v ex m r q => (by have q' : d = .bl true := q; subst q'; cases r; rfl), fun _ _ _ _ _ _ _ z => z⟩) fun r s' h => ?_
    cases r with
    | error e =>
      obtain ⟨_, _, _, _, _, _, _, _, _, _, _, _, z⟩ := h
      exact z.elim
    | ok fl =>
      cases fl with
      | next => exact False.elim h
      | brk => exact False.elim h
      | cont => exact False.elim h
      | ret u =>
        obtain ⟨v, H', os, bare, un, good', r', q⟩ := h
        have q' : v = .bl true := q
        subst q'
        obtain rfl : u = Value.bool true := r'
        refine ⟨rfl, OldK.of_keep fun b o e => ?_, os, bare⟩
        cases q : H b with
        | none => exact un.keep b o e q (by intro z; exact absurd (show b ∈ ([] : List Addr) from z) (by simp)) (by simp)
        | some u =>
          rcases only b with z | ⟨ob, xs, z⟩
          · rw [q] at z; cases z
          · have z2 := un.frzs b ob _ z
            obtain ⟨e1, _⟩ := good b _ z
            obtain ⟨e2, _⟩ := good' b _ z2
            rw [e] at e1; cases e1
            exact e2
  cases hk : K.lookup a with
  | some o =>
    have e := KX a o hk
    rw [ha] at e
    cases e
    refine core (fun _ => none) (fun _ => .inl rfl) (.inr ⟨_, vs.toArray, _, hk, rfl, rfl, rfl, by rw [List.size_toArray, len]; exact hl, by simpa using rv⟩) (fun b u z => by have z' : (none : Option HO) = some u := z; cases z') (fun b z => absurd rfl z) fun z => absurd rfl z
  | none =>
    refine core (fun b => if b = a then some (.frz { cls := .type "list", data := .seq vs.toArray } (.lst (ns.map V.int))) else none) (fun b => ?_) (.inl (.inr ⟨{ cls := .type "list", data := .seq vs.toArray }, if_pos rfl⟩)) (fun b u z => ?_) (fun b z => ?_) fun _ => hk
    · by_cases hb : b = a
      · exact .inr ⟨_, _, if_pos hb⟩
      · exact .inl (if_neg hb)
    · by_cases hb : b = a
      · have z' := (if_pos hb).symm.trans z
        cases z'
        subst hb
        exact ⟨ha, by rw [List.length_map]; exact hl, vs, _, rv, ha⟩
      · have z' := (if_neg hb).symm.trans z
        cases z'
    · by_cases hb : b = a
      · exact hb
      · exact absurd (if_neg hb) z
theorem walk_ofD {l : PySem.W.OpenLaw} {n k : Nat} {q : Program} {loose : List Str} {XP : (Str → Option Value) → Heap → Prop} {YP : World → Heap → Prop} {d : DefRec} {K : Params → PySem.W.Frag} {sp : DSp} {x : Str}
    (hn : l.most = some n) (hn2 : n ≤ sizeLine) (hdf : d.params.defaults = []) (hr : Room k callerA) (hY : ∀ (w : World) (h : Heap), YP w h → (K w.params).In h)
    (F : ∀ (w : World) (mg : Str → Option Value) (fa : Addr) (h : Heap), (K w.params).In h → h.Ns mainGlobals mg → mg d.name = some (.ref fa) →
      ∃ fd : FuncData, (∀ (s : Shared) (u : Value), BindsTo s fd ⟨[u], []⟩ [(x, u)]) ∧ ∀ base : Heap, (K w.params).In base → base.Ns mainGlobals mg → FnG l.prog w (K w.params) mg base k fa fd [x] (upSp (K w.params) sp))
    (hsp : ∀ ns : List Int, ns.length ≤ n → (∀ z ∈ ns, Builtin.Int.intBits z ≤ 1048576) → sp [.scr ns] M0 (fun d _ => d = .bl true) fun _ _ _ => False) :
    PySem.W.WalkO q loose XP YP l.row.toRowW d [] (fun f vs => PySem.call f vs) := by
  refine Att.attach_callB hn hdf fun w s₀ s₁ mg mb fa o pm cd doc a vs ns G Y ho hd hcd hmg hobj hints hlen hbits hg => ?_
  have KX := hY w _ Y
  obtain ⟨fd, hb, hF⟩ := F w mg fa _ KX G.T.g hmg
  exact law_goes KX G.T.g G.T.b G.T.builtins G.T.nolimit hg hobj hints (Nat.le_trans hlen hn2) hr hF hb (hsp ns hlen hbits)
end
end Dv
namespace Dv
open PySem PySem.Spec L2
section
variable {X : Cx} {R F0 : Hp} {K : PySem.W.Frag} {a b c : Expr} {ta tb tc : DE} {pos : Pos}
end
structure Dn (K : PySem.W.Frag) (mg : Str → Option Value) (x qual : Str) (st : Stmt) (ps : List Str) (f : Addr) (fd : FuncData) : Prop where
  g : mg x = some (.ref f)
  d : FunD K x qual (defArgs st) (defBody st) (defScope st) [] [] f fd
  b : Binds K fd ps []
structure Cal (P : Program) (w : World) (K : PySem.W.Frag) (mg : Str → Option Value) (base : Heap) (k : Nat) (x : Str) (f : Addr) (fd : FuncData) (ps : List Str) (sp : DSp) : Prop where
  G : FnG P w K mg base k f fd ps (upSp K sp)
  g : mg x = some (.ref f)
  kp : PySem.W.keepIn K (.ref f) = true
  b : Binds K fd ps []
theorem Cal.imp {P : Program} {w : World} {K : PySem.W.Frag} {mg : Str → Option Value} {base : Heap} {k : Nat} {x : Str} {f : Addr} {fd : FuncData} {ps : List Str} {sp sp' : DSp} (C : Cal P w K mg base k x f fd ps sp) (h : ∀ ds M Q E, sp' ds M Q E → sp ds M Q E) : Cal P w K mg base k x f fd ps sp' :=
  ⟨⟨fun vs H Q E ⟨R, F, ds, M, Qd, Ed, m, r, q, c, cx⟩ => C.G.len vs H Q E ⟨R, F, ds, M, Qd, Ed, m, r, h _ _ _ _ q, c, cx⟩,
    fun A outer s H args us vs Q E hr hG e0 hb rv ⟨R, F, ds, M, Qd, Ed, m, r, q, c, cx⟩ => C.G.run A outer s H args us vs Q E hr hG e0 hb rv ⟨R, F, ds, M, Qd, Ed, m, r, h _ _ _ _ q, c, cx⟩⟩, C.g, C.kp, C.b⟩
section
variable {P : Program} {w : World} {K : PySem.W.Frag} {mg : Str → Option Value} {base : Heap}
theorem cal_of {x qual : Str} {st : Stmt} {f : Addr} {fd : FuncData} {N ps : List Str} (k : Nat) {sp : DSp} (DD : Dn K mg x qual st ps f fd) (S : FnScope N ps (defScope st)) (len : ∀ ds M Q E, sp ds M Q E → ds.length = ps.length)
    (hb : ∀ (cdv : Value) (A : Around) (outer : List Env) (s : Shared) (H : Hp) (E0 : XK) (R F : Hp) (ds : List D) (M : MH) (Q : DQ) (E : DX),
      Room k (cxOf (L2.CX P w) P w K mg base N qual (defScope st) f cdv A outer s H E0).A → (cxOf (L2.CX P w) P w K mg base N qual (defScope st) f cdv A outer s H E0).A.guards = some [] →
      DTakes R F (cxOf (L2.CX P w) P w K mg base N qual (defScope st) f cdv A outer s H E0) (fun cls d _ M => E cls d M) → sp ds M Q E →
      ∃ t, PDSs R F (cxOf (L2.CX P w) P w K mg base N qual (defScope st) f cdv A outer s H E0) (defBody st) t ∧ t { nx := fun _ M' => Q .non M', rt := Q } (dstart N ds) M) : Cal P w K mg base (k + 1) x f fd ps sp :=
  ⟨fnD_of DD.d S len hb, DD.g, DD.d.kp, DD.b⟩
theorem funD_mk {x qual : Str} {st : Stmt} {f : Addr} {oc : Value} {od an : Option Addr} {osl : Array (Option Value)} {kV doc pm cdv ct : Value} (l : K.lookup f = some ⟨oc, od, .func (PySem.W.fnOf x qual (defArgs st) (defBody st) (defScope st) .none kV doc pm an cdv ct), osl⟩)
    (c : PySem.W.codeIn K cdv qual = true) (k : PySem.W.keepIn K (.ref f) = true) : FunD K x qual (defArgs st) (defBody st) (defScope st) [] [] f (PySem.W.fnOf x qual (defArgs st) (defBody st) (defScope st) .none kV doc pm an cdv ct) :=
  ⟨⟨oc, od, .none, kV, doc, pm, an, cdv, ct, osl, rfl, l, c, .inl ⟨rfl, rfl⟩, .inl rfl⟩, k⟩
end
section
variable {X : Cx} {R F0 : Hp} {k j : Nat} {f : Addr} {fd : FuncData} {ps : List Str} {sp : DSp} {W : DWX} {x : Str} {p pos : Pos} {e : Expr} {es : List Expr}
theorem pd_cal {t : DA} (C : Cal X.prog X.w X.K X.mg X.base k x f fd ps sp) (hr : Room j X.A) (hk : k ≤ j) (hG : X.A.guards = some []) (tk : DTakes R F0 X W) (ha : PDA R F0 X (e :: es) t) (hg : Gl X x := by rfl) (hdb : (x == ("__debug__" : Str)) = false := by decide)
    (he : starEach (e :: es) X.env = (false, eval e X.env) :: starEach es X.env := by rfl) (hpl : (backTo pos (starEach es X.env)).any (·.1) = false := by rfl) : PDE R F0 X (.Call (.Name x p) (e :: es) [] pos) (dCall sp [] W t) :=
  pd_call C.G (hr.mono hk) hG hg C.g C.kp C.b Dfl.nil tk ha hdb he hpl
end
end Dv
namespace Dv
open PySem PySem.Spec L2
section
variable {X : Cx} {R F0 : Hp} {K : PySem.W.Frag} {a b c : Expr} {ta tb tc : DE} {pos : Pos}
def Lk (Q : VK) : VK := fun v H => ∃ p u, v = .ref p ∧ H p = some u ∧ Mut (some u) ∧ ∀ od, Q v (upd H p (.frz od u))
theorem pe_lk {e : Expr} {t : TE} (h : PE X e t) : PE X e (fun σ H Q => t σ H (Lk Q)) :=
  ⟨fun pins s σ H Q I q => thn (h.run pins s σ H _ I q) fun u s1 ⟨x, H1, I1, rx, p, w, e, hp, mu, q⟩ => let ⟨od, I2⟩ := I1.lock hp mu; ⟨x, _, I2, rx, q od⟩⟩
theorem pd_dct0 : PDE R F0 X (.Dict [] [] pos) (dC (.dct [])) := by
  refine PE.imp (pe_lk pe_dnewK) ?_
  rintro σ H Q ⟨F, ds, M, Qd, a, h, c⟩
  exact fun p n => ⟨p, _, rfl, upd_same, trivial, fun od => by rw [L2.upd_upd]; exact c.cold a.hm n (.dct upd_same .nil) h⟩
def dDct1 (tk tv : DE) : DE := fun ds M Q => tk ds M fun x M1 => tv ds M1 fun y M2 => match x with
  | .int i => Q (.dct [(.inl i, y)]) M2
  | .str s => Q (.dct [(.inr s, y)]) M2
  | _ => False
theorem pd_dct1 {k v : Expr} {tk tv : DE} (hk : ∀ R, PDE R F0 X k tk) (hv : ∀ R, PDE R F0 X v tv) : PDE R F0 X (.Dict [some k] [v] pos) (dDct1 tk tv) := by
  refine PE.imp (pe_lk (pe_disp (pps_cons (PE.ex hk) (PE.ex hv) pps_nil) rfl rfl (by simp) (by simp))) ?_
  rintro σ H Q ⟨F, ds, M, Qd, a, h, c⟩
  intro p hp
  have nR := a.hm.freeR hp
  refine ⟨upd R p (.dK []), F, ds, M, _, ⟨a.ex, a.hm.lend hp, a.rs⟩, h, fun F1 H1 M1 x vx e1 m1 r1 q1 => ⟨upd R p (.dK []), F1, ds, M1, _, ⟨a.ex.trans e1, m1, a.rs.mono e1⟩, q1, fun F2 H2 M2 y vy e2 m2 r2 q2 => ?_⟩⟩
  refine ⟨(m2.rr p _ upd_same).1, ?_⟩
  have fin : ∀ key : Key, vx = kV key → Qd (.dct [(key, y)]) M2 → ∃ kvs : List (Key × V), [(vx, vy)] = kvs.map (fun kv => (kV kv.1, kv.2)) ∧ kvs.length ≤ 15 ∧ Lk Q (.ref p) (upd H2 p (.dK (mergeK [] kvs))) := fun key ek q => by
    refine ⟨[(key, vy)], by rw [ek]; rfl, by simp, p, _, rfl, upd_same, trivial, fun od => ?_⟩
    rw [L2.upd_upd]
    obtain ⟨e3, m3⟩ := (m2.lent (v := .frz od (.dK [(key, vy)])) nR).back nR
    exact c _ _ _ _ _ ((e1.trans e2).trans e3) m3 (.dct upd_same (.cons (r2.mono e3) .nil)) q
  split at q2
  · cases r1; exact fin (.inl _) rfl q2
  · cases r1; exact fin (.inr _) rfl q2
  · exact q2.elim
end
theorem hu_room {X : Cx} {k : Nat} (r : Room k X.A) : X.A.units + 64 < cLine := by
  have := r.un
  omega
def Pool (M : MH) (p : Addr) : Prop := ∃ a b c : Int, M p = some (.lst [.int a, .int b, .int c]) ∧ 0 ≤ a ∧ a < 2147483648 ∧ 0 ≤ b
structure Go (p : Addr) (M M' : MH) : Prop where
  pool : Pool M' p
  old : ∀ q o, q ≠ p → M q = some o → M' q = some o
theorem Go.trans {p : Addr} {M M1 M2 : MH} (g : Go p M M1) (h : Go p M1 M2) : Go p M M2 := ⟨h.pool, fun q o n e => h.old q o n (g.old q o n e)⟩
theorem Go.refl {p : Addr} {M : MH} (h : Pool M p) : Go p M M := ⟨h, fun _ _ _ e => e⟩
theorem Pool.set {M : MH} {p : Addr} {a b c : Int} (ha : 0 ≤ a) (hb : a < 2147483648) (hc : 0 ≤ b) : Go p M (mup M p (.lst [.int a, .int b, .int c])) := ⟨⟨a, b, c, mup_same, ha, hb, hc⟩, fun q o n e => by rw [mup_ne n]; exact e⟩
theorem Go.new {p q : Addr} {M : MH} {o : MO} (h : Pool M p) (n : M q = none) : Go p M (mup M q o) := by
  have hq : ∀ r o', M r = some o' → mup M q o r = some o' := fun r o' e => by
    rw [mup_ne (fun z => by rw [z, n] at e; cases e)]
    exact e
  obtain ⟨a, b, c, e, z⟩ := h
  exact ⟨⟨a, b, c, hq _ _ e, z⟩, fun r o' _ e' => hq r o' e'⟩
end Dv
namespace Dv
open PySem PySem.Spec L2
theorem loop_inv {g : DG} {body : DS} {W : DEnds} (Iv : List D → Sl → MH → Prop) (hend : ∀ ds M, Iv [] ds M → W.nx ds M)
    (step : ∀ x rest ds M, Iv (x :: rest) ds M → (∀ ds M, Iv rest ds M → dLoop g body W rest ds M) → g x ds M fun ds1 M1 => body { nx := dLoop g body W rest, rt := W.rt, bk := W.nx, ct := dLoop g body W rest } ds1 M1) :
    ∀ (xs : List D) (ds : Sl) (M : MH), Iv xs ds M → dLoop g body W xs ds M
  | [], ds, M, h => hend ds M h
  | x :: xs, ds, M, h => step x xs ds M h fun ds M h => loop_inv Iv hend step xs ds M h
theorem lc_inv {g : DG} {tt : DT} {te : DE} {vs : List Nat} {ds : Sl} {Q : List D → MH → Prop} (Iv : List D → List D → MH → Prop) (hend : ∀ acc M, Iv [] acc M → Q acc M)
    (step : ∀ x rest acc M, Iv (x :: rest) acc M → (∀ acc M, Iv rest acc M → dLcL g tt te vs ds Q rest acc M) →
      g x (dwipe ds vs) M fun ds1 M1 => tt ds1 M1 fun b M2 => Br b (te ds1 M2 fun y M3 => acc.length < sizeLine ∧ dLcL g tt te vs ds Q rest (acc ++ [y]) M3) (dLcL g tt te vs ds Q rest acc M2)) :
    ∀ (xs acc : List D) (M : MH), Iv xs acc M → dLcL g tt te vs ds Q xs acc M
  | [], acc, M, h => hend acc M h
  | x :: xs, acc, M, h => step x xs acc M h fun acc M h => lc_inv Iv hend step xs acc M h
theorem small_line {n : Nat} (h : n < 1000000) : n < sizeLine := by
  rw [sizeLine_eq]
  omega
theorem small_le {n : Nat} (h : n < 1000000) : n ≤ sizeLine := Nat.le_of_lt (small_line h)
theorem Sh.non {n k : Nat} : Sh n k .non := ⟨rfl, rfl, rfl, Nat.zero_le _, Nat.zero_le _⟩
theorem Sh.bl {n k : Nat} (b : Bool) : Sh n k (.bl b) := ⟨rfl, rfl, rfl, Nat.zero_le _, Nat.zero_le _⟩
theorem log2_small {n : Nat} (h : n < 10 ^ 50) : n.log2 < 170 := by
  by_cases z : n = 0
  · subst z; decide
  · have e := (Nat.log2_lt z (k := 170)).mpr (Nat.lt_trans h (by decide +kernel))
    exact e
theorem Sh.int {n k : Nat} {i : Int} (h : i.natAbs < 10 ^ 50) (hk : 200 ≤ k) : Sh n k (.int i) := by
  have l := log2_small h
  have e := int_text_length_le10 (k := 50) (by decide) h
  refine ⟨rfl, ?_, ?_, Nat.zero_le _, ?_⟩
  · show PyData.showable (.int i) = true
    simp only [PyData.showable, decide_eq_true_eq]
    omega
  · show PyData.leavesShort 200 (.int i) = true
    simp only [PyData.leavesShort, decide_eq_true_eq]
    show (Str.ofString (toString i)).length ≤ 200
    rw [ofString_length]
    omega
  · show PyData.weight (.int i) ≤ k
    simp only [PyData.weight]
    split <;> omega
def Sg (x : Str) : Prop := ∀ c ∈ x.cps.toList, c < 1114112
theorem Sh.str {n k : Nat} {x : Str} (h : Sg x) (hk : x.length ≤ k) : Sh n k (.str x) := by
  refine ⟨rfl, rfl, ?_, Nat.zero_le _, hk⟩
  show PyData.leavesShort 200 (.str x) = true
  simp only [PyData.leavesShort, List.all_eq_true, decide_eq_true_eq]
  intro c hc
  have := h c hc
  exact Nat.lt_trans this (by decide)
theorem sg_ofString (s : String) : Sg (Str.ofString s) := by
  intro c hc
  rw [Str.ofString_eq_toList] at hc
  simp only [List.mem_map] at hc
  obtain ⟨d, _, rfl⟩ := hc
  have := d.valid
  show d.val.toNat < 1114112
  rcases this with h | h
  · have : d.val.toNat < 0xd800 := h
    omega
  · exact h.2
theorem Sh.txt {n k : Nat} (s : String) (h : s.length ≤ k) : Sh n k (.str (Str.ofString s)) := .str (sg_ofString s) (by rw [ofString_length]; exact h)
theorem Sh.listAll {n k : Nat} : ∀ {xs : List D}, (∀ d ∈ xs, Sh n k d) → plainL xs = true ∧ PyData.showableAll (pOfL xs) = true ∧ PyData.leavesShortAll 200 (pOfL xs) = true ∧ PyData.depthAll (pOfL xs) ≤ n ∧ PyData.weightAll (pOfL xs) ≤ xs.length * (k + 1)
  | [], _ => ⟨rfl, rfl, rfl, Nat.zero_le _, Nat.zero_le _⟩
  | x :: xs, h => by
    have a := h x List.mem_cons_self
    obtain ⟨b1, b2, b3, b4, b5⟩ := Sh.listAll (xs := xs) fun d m => h d (List.mem_cons_of_mem _ m)
    refine ⟨?_, ?_, ?_, ?_, ?_⟩
    · simp only [plainL, a.pl, b1, Bool.and_self]
    · simp only [pOfL, PyData.showableAll, a.sw, b2, Bool.and_self]
    · simp only [pOfL, PyData.leavesShortAll, a.lv, b3, Bool.and_self]
    · simp only [pOfL, PyData.depthAll]
      exact Nat.max_le.mpr ⟨a.dp, b4⟩
    · simp only [pOfL, PyData.weightAll, List.length_cons]
      have := a.wt
      have e : (xs.length + 1) * (k + 1) = xs.length * (k + 1) + (k + 1) := Nat.succ_mul _ _
      omega
theorem Sh.lst {n k : Nat} {xs : List D} (h : ∀ d ∈ xs, Sh n k d) : Sh (n + 1) (xs.length * (k + 1)) (.lst xs) := by
  obtain ⟨b1, b2, b3, b4, b5⟩ := Sh.listAll h
  refine ⟨b1, ?_, ?_, ?_, ?_⟩
  · simpa only [pOf, PyData.showable] using b2
  · simpa only [pOf, PyData.leavesShort] using b3
  · simp only [pOf, PyData.depth]
    omega
  · simpa only [pOf, PyData.weight] using b5
theorem Sh.tup {n k : Nat} {xs : List D} (h : ∀ d ∈ xs, Sh n k d) : Sh (n + 1) (xs.length * (k + 1)) (.tup xs) := by
  obtain ⟨b1, b2, b3, b4, b5⟩ := Sh.listAll h
  refine ⟨b1, ?_, ?_, ?_, ?_⟩
  · simpa only [pOf, PyData.showable] using b2
  · simpa only [pOf, PyData.leavesShort] using b3
  · simp only [pOf, PyData.depth]
    omega
  · simpa only [pOf, PyData.weight] using b5
theorem all_nil {p : D → Prop} : ∀ d ∈ ([] : List D), p d := fun d h => by cases h
theorem all_cons {p : D → Prop} {x : D} {xs : List D} (h : p x) (r : ∀ d ∈ xs, p d) : ∀ d ∈ x :: xs, p d := fun d m => by
  rcases List.mem_cons.mp m with rfl | m
  · exact h
  · exact r d m
end Dv
namespace Dv
open PySem PySem.Spec L2
theorem cmL {i j : Int} (a : -(2 ^ 64) < i) (b : i < 2 ^ 64) : CMulA i j := .inl (.inl ⟨a, b⟩)
theorem cmR {i j : Int} (a : -(2 ^ 64) < j) (b : j < 2 ^ 64) : CMulA i j := .inl (.inr ⟨a, b⟩)
theorem cdw {i j : Int} (a : 0 < j) (b : j < 2 ^ 64) : CDivW i j := by
  refine ⟨a, ?_⟩
  have h : j.natAbs < 10 ^ 50 := by omega
  have := log2_small h
  omega
theorem cdp {i j : Int} (a : 0 < j) (b : j < 2 ^ 64) : CDivP i j := by
  refine ⟨a, ?_⟩
  have h : j.natAbs < 10 ^ 50 := by omega
  have l := log2_small h
  unfold Builtin.divisionGoesByPylong
  have z : (j == 0) = false := by
    have : j ≠ 0 := by omega
    simpa using this
  simp only [z]
  have : ¬ (j.natAbs.log2 / 30 + 1 > 300) := by omega
  simp [this]
theorem cp10 {j : Int} (a : 0 ≤ j) (b : j ≤ 1000000) : CPow 10 j := ⟨a, b, by decide⟩
theorem ints_all {ns : List Int} : ∀ d ∈ ns.map D.int, ∃ n, d = .int n := fun d h => by
  obtain ⟨n, _, rfl⟩ := List.mem_map.mp h
  exact ⟨n, rfl⟩
theorem cut_all {p : D → Prop} {xs : List D} {lo hi : Option Int} (h : ∀ d ∈ xs, p d) : ∀ d ∈ cutD xs lo hi, p d := fun d m => h d (List.mem_of_mem_drop (List.mem_of_mem_take m))
theorem atI_in {α : Type} {xs : List α} {i : Int} (h0 : 0 ≤ i) (h1 : i < xs.length) : ∃ d, atI xs i = some d ∧ d ∈ xs := by
  have l : i.toNat < xs.length := by omega
  refine ⟨xs[i.toNat], ?_, List.getElem_mem l⟩
  unfold atI ixN
  rw [if_pos h0, if_pos h1]
  exact List.getElem?_eq_getElem l
theorem Pool.ne {M : MH} {p : Addr} {o : MO} (h : Pool M p) : ∃ a b c : Int, M p = some (.lst [.int a, .int b, .int c]) := let ⟨a, b, c, e, _⟩ := h; ⟨a, b, c, e⟩
structure Odd (d : D) : Prop where
  sh : Sh 10 2000 d
  sm : ∀ i, d = .int i → i.natAbs < 10 ^ 41
  sg : ∀ x, d = .str x → Sg x
theorem Odd.of {d : D} (h : Sh 10 2000 d) (n : ∀ i, d ≠ .int i) (s : ∀ x, d ≠ .str x := by intro x z; cases z) : Odd d := ⟨h, fun i e => absurd e (n i), fun x e => absurd e (s x)⟩
theorem Odd.str {x : Str} (h : Sg x) (l : x.length ≤ 2000) : Odd (.str x) := ⟨.str h l, fun i e => (by cases e), fun y e => by cases e; exact h⟩
theorem Odd.int {i : Int} (h : i.natAbs < 10 ^ 41) : Odd (.int i) := ⟨.int (Nat.lt_trans h (by decide +kernel)) (by decide), (fun j e => by cases e; exact h), fun x e => by cases e⟩
theorem Odd.txt (s : String) (h : s.length ≤ 2000) : Odd (.str (Str.ofString s)) := .str (sg_ofString s) (by rw [ofString_length]; exact h)
theorem Odd.tup {n k : Nat} {xs : List D} (h : ∀ d ∈ xs, Sh n k d) (a : n < 10) (b : xs.length * (k + 1) ≤ 2000) : Odd (.tup xs) := .of ((Sh.tup h).mono a b) fun i e => by cases e
theorem Odd.lst {n k : Nat} {xs : List D} (h : ∀ d ∈ xs, Sh n k d) (a : n < 10) (b : xs.length * (k + 1) ≤ 2000) : Odd (.lst xs) := .of ((Sh.lst h).mono a b) fun i e => by cases e
theorem e41 : (10 : Nat) ^ 41 = 100000000000000000000000000000000000000000 := by decide
theorem e50 : (10 : Nat) ^ 50 = 100000000000000000000000000000000000000000000000000 := by decide
theorem Odd.num {i : Int} (a : -1000000 ≤ i) (b : i ≤ 1000000) : Odd (.int i) := .int (by rw [e41]; omega)
theorem sh_num {n k : Nat} {i : Int} (a : -1000000 ≤ i) (b : i ≤ 1000000) (hk : 200 ≤ k) : Sh n k (.int i) := .int (by rw [e50]; omega) hk
theorem odd_str_num {i : Int} (a : -1000000 ≤ i) (b : i ≤ 1000000) : Odd (.str (toString i)) := by
  have e := int_text_length_le10 (k := 12) (a := i) (by decide) (by omega)
  exact Odd.txt (toString i) (by omega)
theorem sl (n : Nat) (h : n < 1000000 := by decide) : n ≤ sizeLine := small_le h
theorem odd_menu {m : Int} (a : -1000000 ≤ m) (b : m ≤ 1000000) : ∀ d ∈ ([.non, .int 0, .int 1, .bl true, .bl false, .str (Str.ofString ""), .str (Str.ofString "a b"), .str (Str.ofString "down"), .tup [], .tup [.str (Str.ofString "a"), .int 0], .lst [.int 1], .lst [], .dct [],
    .dct [(.inr (Str.ofString "a"), .tup [.int 1])], .int (-1), .int (10 ^ 39)] ++ [.tup [.str (Str.ofString "a"), .non, .lst [.int 2]], .int m, .str (Str.ofString (toString m)), .tup [.int m], .tup [.tup [.str (Str.ofString "x")], .tup []], .lst [.lst [], .lst [.non]], .int 24, .str (Str.ofString "near"),
    .tup [.tup [], .lst [], .dct []]] : List D), Odd d := by
  have c1 : Sh 3 300 (.str (Str.ofString "a")) := .txt "a" (by decide)
  have c2 : ∀ i : Int, -1000000 ≤ i → i ≤ 1000000 → Sh 3 300 (.int i) := fun i a b => sh_num a b (by decide)
  have c3 : Sh 3 300 (.dct []) := ⟨rfl, rfl, rfl, by decide, by decide⟩
  have c4 : Sh 3 300 (.lst []) := ⟨rfl, rfl, rfl, by decide, by decide⟩
  have c5 : Sh 3 300 (.tup []) := ⟨rfl, rfl, rfl, by decide, by decide⟩
  show ∀ d ∈ ([_, _, _, _, _, _, _, _, _, _, _, _, _, _, _, _, _, _, _, _, _, _, _, _, _] : List D), Odd d
  refine all_cons (.of .non nofun) <| all_cons (.num (by decide) (by decide)) <| all_cons (.num (by decide) (by decide)) <| all_cons (.of (.bl _) nofun) <| all_cons (.of (.bl _) nofun) <| all_cons (.txt "" (by decide)) <| all_cons (.txt "a b" (by decide)) <| all_cons (.txt "down" (by decide)) <| ?_
  refine all_cons (.of (c5.mono (by decide) (by decide)) nofun) <| all_cons (.tup (all_cons c1 <| all_cons (c2 0 (by decide) (by decide)) all_nil) (by decide) (by decide)) <| all_cons (.lst (all_cons (c2 1 (by decide) (by decide)) all_nil) (by decide) (by decide)) <| all_cons (.of (c4.mono (by decide) (by decide)) nofun) <| all_cons (.of (c3.mono (by decide) (by decide)) nofun) <| ?_
  refine all_cons (.of ⟨rfl, by decide +kernel, by decide +kernel, by decide +kernel, by decide +kernel⟩ nofun) <| all_cons (.num (by decide) (by decide)) <| all_cons (.int (by decide +kernel)) <| ?_
  refine all_cons (.tup (k := 600) (n := 4) (all_cons (c1.mono (by decide) (by decide)) <| all_cons .non <| all_cons ((Sh.lst (all_cons (c2 2 (by decide) (by decide)) all_nil)).mono (by decide) (by decide)) all_nil) (by decide) (by decide)) <| all_cons (.num a b) <| all_cons (odd_str_num a b) <| all_cons (.tup (all_cons (c2 m a b) all_nil) (by decide) (show 1 * 301 ≤ 2000 by decide)) <| ?_
  refine all_cons (.tup (k := 600) (n := 4) (all_cons ((Sh.tup (all_cons (Sh.txt (n := 3) (k := 300) "x" (by decide)) all_nil)).mono (by decide) (by decide)) <| all_cons (c5.mono (by decide) (by decide)) all_nil) (by decide) (by decide)) <| ?_
  refine all_cons (.lst (k := 600) (n := 4) (all_cons (c4.mono (by decide) (by decide)) <| all_cons ((Sh.lst (all_cons (Sh.non (n := 3) (k := 300)) all_nil)).mono (by decide) (by decide)) all_nil) (by decide) (by decide)) <| ?_
  exact all_cons (.num (by decide) (by decide)) <| all_cons (.txt "near" (by decide)) <| all_cons (.tup (all_cons c5 <| all_cons c4 <| all_cons c3 all_nil) (by decide) (by decide)) all_nil
end Dv
namespace Dv
open PySem PySem.Spec L2
section
variable {X : Cx} {R F0 : Hp} {k j : Nat} {f : Addr} {fd : FuncData} {ps : List Str} {sp : DSp} {W : DWX} {x : Str} {p pos : Pos} {e : Expr} {es : List Expr}
end
def Gv (K : PySem.W.Frag) (mg : Str → Option Value) (x : Str) (d : D) : Prop := ∃ (v : V) (u : Value), mg x = some u ∧ RelV v u ∧ ∀ F, Rep K F d v
theorem pd_gv {X : Cx} {R F0 : Hp} {x : Str} {d : D} {pos : Pos} (g : Gv X.K X.mg x d) (hg : Gl X x) (hd : (x == ("__debug__" : Str)) = false := by decide) : PDE R F0 X (.Name x pos) (dC d) := by
  obtain ⟨v, u, hm, r, rd⟩ := g
  exact pd_glob hg hm r rd hd
theorem asg_join {te : DE} {g : DG} {W : DEnds} {ds : Sl} {M : MH} (Pj : D → MH → Prop) (h : ∀ Q' : DQ, (∀ x M', Pj x M' → Q' x M') → te ds M Q') (tail : ∀ x M', Pj x M' → g x ds M' W.nx) : dAsg te g W ds M := h _ tail
def Old (M M' : MH) : Prop := ∀ q o, M q = some o → M' q = some o
theorem Old.refl {M : MH} : Old M M := fun _ _ e => e
theorem Old.trans {M M1 M2 : MH} (g : Old M M1) (h : Old M1 M2) : Old M M2 := fun q o e => h q o (g q o e)
theorem Old.new {M : MH} {p : Addr} {o : MO} (n : M p = none) : Old M (mup M p o) := fun q o' e => by
  rw [mup_ne (fun z => by rw [z, n] at e; cases e)]
  exact e
theorem Old.go {M M' : MH} {p : Addr} (h : Old M M') (g : Pool M p) : Go p M M' := by
  obtain ⟨a, b, c, e, z⟩ := g
  exact ⟨⟨a, b, c, h _ _ e, z⟩, fun q o _ e => h q o e⟩
end Dv
namespace Dv
open PySem PySem.Spec L2
section
variable {K : PySem.W.Frag} {R F F' H H' : Hp} {M M' : MH} {p q x dx : Addr} {o : MO} {u : HO}
end
section
variable {X : Cx} {R F0 : Hp} {K : PySem.W.Frag} {e o value : Expr} {te to : DE} {C pd : Addr} {f : Str} {i : Nat} {pos pos' : Pos}
end
section
variable {X : Cx} {R F0 : Hp} {k n j : Nat} {C f : Addr} {fd : FuncData} {ps ks : List Str} {sp : DSp} {W : DWX} {x : Str} {p pos : Pos} {e : Expr} {es : List Expr} {kws : List Keyword}
end
end Dv
namespace Dv
open PySem PySem.Spec L2
theorem lc_pure {α : Type} {g : DG} {tt : DT} {te : DE} {vs : List Nat} {ds : Sl} {Q : List D → MH → Prop} {M : MH} (it f : α → D) (p : α → Bool)
    (step : ∀ a (Ky : D → MH → Prop) (Kn : MH → Prop), (p a = true → Ky (f a) M) → (p a = false → Kn M) → g (it a) (dwipe ds vs) M fun ds1 M1 => tt ds1 M1 fun b M2 => Br b (te ds1 M2 Ky) (Kn M2)) :
    ∀ (l : List α) (acc : List D), acc.length + l.length ≤ 1000000 → Q (acc ++ (l.filter p).map f) M → dLcL g tt te vs ds Q (l.map it) acc M
  | [], acc, _, q => by
    rw [List.filter_nil, List.map_nil, List.append_nil] at q
    exact q
  | a :: l, acc, hl, q => by
    simp only [List.length_cons] at hl
    refine step a _ _ (fun h => ⟨small_line' (by omega), ?_⟩) (fun h => ?_)
    · refine lc_pure it f p step l _ (by rw [List.length_append, List.length_singleton]; omega) ?_
      rw [List.filter_cons_of_pos h, List.map_cons] at q
      rw [List.append_assoc]
      exact q
    · refine lc_pure it f p step l _ (by omega) ?_
      rw [List.filter_cons_of_neg (by rw [h]; exact Bool.false_ne_true)] at q
      exact q
where small_line' {n : Nat} (h : n < 1000000) : n < sizeLine := small_line h
theorem lc_map {α : Type} {g : DG} {tt : DT} {te : DE} {vs : List Nat} {ds : Sl} {Q : List D → MH → Prop} {M : MH} (it f : α → D)
    (step : ∀ a (Ky : D → MH → Prop) (Kn : MH → Prop), Ky (f a) M → g (it a) (dwipe ds vs) M fun ds1 M1 => tt ds1 M1 fun b M2 => Br b (te ds1 M2 Ky) (Kn M2)) (l : List α) (hl : l.length ≤ 1000000) (q : Q (l.map f) M) : dLcL g tt te vs ds Q (l.map it) [] M := by
  refine lc_pure it f (fun _ => true) (fun a Ky Kn h _ => step a Ky Kn (h rfl)) l [] (by simpa using hl) ?_
  rw [show l.filter (fun _ => true) = l by simp, List.nil_append]
  exact q
section
variable {X : Cx} {R F0 : Hp} {k n j : Nat} {C f : Addr} {fd : FuncData} {ps ks : List Str} {us : List Value} {dvs : List D} {sp : DSp} {W : DWX} {x : Str} {p pos : Pos} {e : Expr} {es : List Expr} {kws : List Keyword}
end
end Dv
namespace Dv
open PySem PySem.Spec PyProof.Rows L2
section
variable {prog : Program} {w : World} {A : Around} {E : Value → Shared → Prop} {s : Shared}
end
section
variable {X : Cx} {R F0 : Hp}
inductive PDJ (R F0 : Hp) (X : Cx) : List Expr → List DE → Prop where
  | nil : PDJ R F0 X [] []
  | cons {e : Expr} {t : DE} {es : List Expr} {ts : List DE} (h : PDE R F0 X e t) (r : PDJ R F0 X es ts) : PDJ R F0 X (e :: es) (t :: ts)
end
section
variable {X : Cx} {R F0 : Hp}
end
end Dv
namespace Dv
open PySem PySem.Spec PyProof.Rows L2
section
variable {X : Cx} {R F0 : Hp} {K : PySem.W.Frag} {pos : Pos}
end
end Dv
namespace Dv
open PySem PySem.Spec PyProof.Rows L2
section
variable {K : PySem.W.Frag}
end
end Dv
namespace Dv
open PySem PySem.Spec PyProof.Rows L2
theorem Pool.nq {p q : Addr} {M : MH} (h : Pool M p) (n : M q = none) : q ≠ p := fun z => by
  obtain ⟨a, b, c, e, _⟩ := h
  rw [z, e] at n
  cases n
theorem Go.mup {p q : Addr} {M M1 : MH} {o : MO} (g : Go p M M1) (n : M1 q = none) : Go p M (mup M1 q o) := g.trans (.new g.pool n)
structure Gw (p q : Addr) (M M' : MH) : Prop where
  nq : M q = none
  ne : q ≠ p
  pool : Pool M' p
  old : ∀ r o, r ≠ q → r ≠ p → M r = some o → M' r = some o
theorem Gw.go {p q : Addr} {M M1 M2 : MH} (w : Gw p q M M1) (g : Go p M1 M2) : Gw p q M M2 := ⟨w.nq, w.ne, g.pool, fun r o h1 h2 e => g.old r o h2 (w.old r o h1 h2 e)⟩
theorem Gw.keep {p q : Addr} {M M1 M2 : MH} {o : MO} (w : Gw p q M M1) (g : Go p M1 M2) (e : M1 q = some o) : M2 q = some o := g.old q o w.ne e
end Dv
namespace Dv
open PySem PySem.Spec PyProof.Rows Builtin Builtin.Str
section
variable {prog : Program} {w : World} {A : Around} {E : Value → Shared → Prop} {s : Shared} {K : PySem.W.Frag} {x C f : Addr} {ox : Obj} {odd : Option Obj}
end
end Dv
namespace Dv
open PySem PySem.Spec PyProof.Rows L2 ClX
section
variable {X : Cx} {R F0 : Hp} {K : PySem.W.Frag} {j k : Nat} {C : Addr} {m : Str} {sp : DSp} {W : DWX} {o e : Expr} {es : List Expr} {to : DE} {t : DA} {apos pos : Pos} {pl : Sem Bool}
end
end Dv
namespace Dv
open PySem PySem.Spec PyProof.Rows L2
section
variable {X : Cx} {R F0 : Hp} {K : PySem.W.Frag}
end
end Dv
namespace Dv
open PySem PySem.Spec PyProof.Rows L2
section
variable {X : Cx} {R F0 : Hp}
end
theorem Sh.int60 {n k : Nat} {i : Int} (h : i.natAbs < 10 ^ 60) (hk : 210 ≤ k) : Sh n k (.int i) := by
  have l : i.natAbs.log2 < 200 := by
    by_cases z : i.natAbs = 0
    · rw [z]; decide
    · exact (Nat.log2_lt z (k := 200)).mpr (Nat.lt_trans h (by decide +kernel))
  have e := int_text_length_le10 (k := 60) (by decide) h
  refine ⟨rfl, ?_, ?_, Nat.zero_le _, ?_⟩
  · show PyData.showable (.int i) = true
    simp only [PyData.showable, decide_eq_true_eq]
    omega
  · show PyData.leavesShort 200 (.int i) = true
    simp only [PyData.leavesShort, decide_eq_true_eq]
    show (Str.ofString (toString i)).length ≤ 200
    rw [PySem.ofString_length]
    omega
  · show PyData.weight (.int i) ≤ k
    simp only [PyData.weight]
    split <;> omega
end Dv
namespace Dv
open PySem PySem.Spec PyProof.Rows L2 PySem.Builtin PySem.Builtin.Str
section
variable {X : Cx} {R F0 : Hp}
end
end Dv
namespace Dv
open PySem PySem.Spec PyProof.Rows L2
section
variable {X : Cx} {R F0 : Hp}
end
end Dv
namespace HN
open PySem PySem.Spec PyProof.Rows PySem.SeqAt
section
variable {M : Model} {prog : Program} {w : World} {A : Around} {E : Value → Shared → Prop} {s : Shared} {K : PySem.W.Frag} {x y C : Addr} {ox oy : Obj} {od od' : Option Obj}
end
end HN

namespace BoO
open PySem PySem.Spec PyProof.Rows
end BoO
namespace Dv
open PySem PySem.Spec PyProof.Rows L2
section
variable {K : PySem.W.Frag} {R F F' H H' : Hp} {M M' : MH} {p q x dx : Addr} {o : MO} {u : HO}
end
section
variable {X : Cx} {R F0 : Hp} {K : PySem.W.Frag} {e o value : Expr} {te to : DE} {C pd : Addr} {f : Str} {i : Nat} {pos pos' : Pos}
def isInp (C : Addr) (x : D) (M : MH) : Prop := match x with
  | .ref p => ∃ fs, M p = some (.ins C fs)
  | .ins C' _ => C' = C
  | _ => False
end
section
variable {X : Cx} {R F0 : Hp} {K : PySem.W.Frag} {j k : Nat} {C : Addr} {m : Str} {sp : DSp} {W : DWX} {o e : Expr} {es : List Expr} {kws : List Keyword} {ks : List Str} {to : DE} {t tks : DA} {apos pos : Pos} {pl : Sem Bool}
end
end Dv
namespace Dv
open PySem PySem.Spec PyProof.Rows L2
section
variable {K : PySem.W.Frag} {R F F' H H' : Hp} {M M' : MH}
end
section
variable {X : Cx} {R F0 : Hp} {k n j : Nat} {C f : Addr} {fd : FuncData} {ps ks : List Str} {sp : DSp} {W : DWX} {x : Str} {p pos : Pos} {e : Expr} {es : List Expr} {kws : List Keyword} {us : List Value} {dvs : List D}
end
section
variable {X : Cx} {R F0 : Hp} {j k : Nat} {C : Addr} {sp : DSp}
def isInR (C : Addr) (x : D) (M : MH) : Prop := match x with
  | .ref p => ∃ fs, M p = some (.ins C fs)
  | _ => False
theorem isInR.p {C : Addr} {x : D} {M : MH} (h : isInR C x M) : isInp C x M := by
  cases x <;> first | exact h | exact h.elim
end
end Dv
namespace Dv
open PySem PySem.Spec PyProof.Rows L2
structure Er0 (K : PySem.W.Frag) (mg : Str → Option Value) (cn : Str) (C : Addr) : Prop where
  gC : mg cn = some (.ref C)
  q : (PySem.W.excIn K C [.type "ValueError", .type "Exception", .type "BaseException", .type "object"] "ValueError.__new__" || PySem.W.excIn K C [.type "LookupError", .type "Exception", .type "BaseException", .type "object"] "LookupError.__new__" || PySem.W.excIn K C [.type "ArithmeticError", .type "Exception", .type "BaseException", .type "object"] "ArithmeticError.__new__") = true
  kC : PySem.W.keepIn K (.ref C) = true
  exC : PySem.W.subIn K (.ref C) (.type "BaseException") = some true
  tyC : PySem.W.typeIn K (.ref C) = some (.type "type")
section
variable {X : Cx} {C : Addr} {cn : Str} {R F0 : Hp}
end
end Dv
namespace Dv
open PySem PySem.Spec PyProof.Rows L2
section
variable {K : PySem.W.Frag}
end
end Dv
namespace HN
open PySem PySem.Spec PyProof.Rows PySem.SeqAt
section
variable {M : Model} {prog : Program} {w : World} {A : Around} {E : Value → Shared → Prop} {s : Shared} {K : PySem.W.Frag} {x C f L : Addr} {ox : Obj} {od : Option Obj} {b tb : Value} {h₀ : Heap} {m : Str → Option Value}
end
end HN
namespace Dv
open PySem PySem.Spec PyProof.Rows L2
section
variable {X : Cx} {C : Addr} {sp : DSp} {j k : Nat}
end
end Dv
namespace HN
open PySem PySem.Spec PyProof.Rows PySem.SeqAt PySem.AutoSeq1 PySem.MeetsSeq
section
variable {M : Model} {prog : Program} {w : World} {A : Around} {E : Value → Shared → Prop} {s : Shared} {K : PySem.W.Frag} {y C f L : Addr} {oy : Obj} {od : Option Obj} {a : Value} {T ida : String}
end
end HN
namespace HN
open PySem PySem.Spec PyProof.Rows PySem.SeqAt PySem.AutoSeq1 PySem.MeetsSeq
section
variable {K : PySem.W.Frag} {y C l : Addr} {oy o : Obj} {od : Option Obj}
end
end HN
namespace Dv
open PySem PySem.Spec PyProof.Rows L2 PySem.SeqAt
section
variable {X : Cx} {C : Addr} {sp : DSp} {j k : Nat}
end
end Dv
namespace Dv
open PySem PySem.Spec PyProof.Rows L2
section
variable {K : PySem.W.Frag}
end
end Dv
namespace Dv
open PySem PySem.Spec PyProof.Rows L2 ClX
section
variable {X : Cx} {R F0 : Hp} {K : PySem.W.Frag} {j k : Nat} {C : Addr} {m : Str} {sp : DSp} {W : DWX} {o e : Expr} {es : List Expr} {to : DE} {t tks : DA} {apos pos : Pos} {pl : Sem Bool} {ks : List Str} {kws : List Keyword}
end
end Dv
namespace Dv
open PySem PySem.Spec PyProof.Rows L2
inductive Frz : MH → List D → List D → MH → Prop
  | nil {M : MH} : Frz M [] [] M
  | keep {M M' : MH} {x : D} {xs ys : List D} : Frz M xs ys M' → Frz M (x :: xs) (x :: ys) M'
  | lst {M M' : MH} {q : Addr} {zs xs ys : List D} : M q = some (.lst zs) → Frz (mdel M q) xs ys M' → Frz M (.ref q :: xs) (.lst zs :: ys) M'
theorem Frz.run {K : PySem.W.Frag} {R H : Hp} {M M' : MH} {xs ys : List D} (z : Frz M xs ys M') : ∀ {F : Hp} {vs : List V}, HM K R F H M → RepL K F xs vs → ∃ F', Ex F F' ∧ HM K R F' H M' ∧ RepL K F' ys vs := by
  induction z with
  | nil => intro F vs m r; exact ⟨F, .refl _, m, r⟩
  | keep _ ih =>
    intro F vs m r
    cases r with
    | cons r rs =>
      obtain ⟨F', ex, m', rs'⟩ := ih m rs
      exact ⟨F', ex, m', .cons (r.mono ex) rs'⟩
  | lst e _ ih =>
    intro F vs m r
    cases r with
    | cons r rs =>
      cases r with
      | ref p =>
        obtain ⟨ws, hv, rl⟩ := m.look e
        obtain ⟨ex2, m2⟩ := m.stop e hv
        obtain ⟨F', ex, m', rs'⟩ := ih m2 (rs.mono ex2)
        exact ⟨F', ex2.trans ex, m', .cons ((Rep.lst upd_same (rl.mono ex2)).mono ex) rs'⟩
section
variable {X : Cx} {R F0 : Hp}
end
end Dv
namespace Dv
open PySem PySem.Spec PyProof.Rows L2
section
variable {K : PySem.W.Frag} {X : Cx}
end
end Dv
namespace Dv
open PySem PySem.Spec L2
section
variable {X : Cx} {R F0 : Hp}
variable {elt tg iter : Expr} {ifs : List Expr} {scope : Scope} {own : List (Str × Nat)} {it : DE} {gV : TG} {g : DG} {tt : DT} {te : DE} {pos : Pos}
end
end Dv
namespace Dv
open PySem PySem.Spec PyProof.Rows L2
section
variable {X : Cx} {R F0 : Hp}
end
end Dv
namespace Dv
open PySem PySem.Spec PyProof.Rows L2
section
variable {X : Cx} {R F0 : Hp} {K : PySem.W.Frag} {pos : Pos}
def lookD (ks : List (Key × D)) (k : Key) : Option D := (ks.find? fun kv => decide (kv.1 = k)).map (·.2)
theorem RepK.look {F : Hp} {k : Key} : ∀ {ds : List (Key × D)} {vs : List (Key × V)}, RepK K F ds vs → (∀ v, valV vs k = some v → ∃ d, lookD ds k = some d ∧ Rep K F d v) ∧ (valV vs k = none → lookD ds k = none)
  | _, _, .nil => ⟨fun v e => (by rw [valV_nil] at e; cases e), fun _ => rfl⟩
  | _, _, .cons (k := j) (d := d) (v := v) g r => by
    obtain ⟨a, b⟩ := RepK.look (k := k) r
    by_cases e : j = k
    · refine ⟨fun u hu => ?_, fun hn => ?_⟩
      · rw [valV_pos (p := (j, v)) e] at hu
        cases hu
        exact ⟨d, by unfold lookD; simp [List.find?_cons, e], g⟩
      · rw [valV_pos (p := (j, v)) e] at hn
        cases hn
    · refine ⟨fun u hu => ?_, fun hn => ?_⟩
      · rw [valV_neg (p := (j, v)) e] at hu
        obtain ⟨d', h1, h2⟩ := a u hu
        exact ⟨d', by unfold lookD at h1 ⊢; simpa [List.find?_cons, e] using h1, h2⟩
      · rw [valV_neg (p := (j, v)) e] at hn
        have z := b hn
        unfold lookD at z ⊢
        simpa [List.find?_cons, e] using z
variable {kx vx tg iter : Expr} {ifs : List Expr} {scope : Scope} {own : List (Str × Nat)} {it : DI} {gV : TG} {g : DG} {tt : DT} {tk tv : DE}
end
end Dv
namespace Dv
open PySem PySem.Spec L2
section
variable {K : PySem.W.Frag}
end
end Dv
namespace Dv
open PySem PySem.Spec L2
end Dv
namespace Dv
open PySem PySem.Spec L2
section
variable {P : Program} {w : World} {K : PySem.W.Frag} {mg : Str → Option Value} {base : Heap}
end
section
variable {P : Program} {w : World} {K : PySem.W.Frag} {mg : Str → Option Value} {base : Heap}
end
section
variable {X : Cx} {R F0 : Hp} {st : Stmt} {sts : List Stmt} {ts us : DS} {e a b o : Expr} {es : List Expr} {te ta tb to : DE} {tr : DA} {pos apos : Pos} {y z : Str} {j k : Nat} {c0 c1 : Pos}
end
end Dv
namespace Dv
open PySem PySem.Spec L2
section
variable {K : PySem.W.Frag} {R F F' H H' : Hp} {M M' : MH} {p q : Addr} {o : MO} {u : HO}
theorem HM.stopU (h : HM K R F H M) (e : M p = some o) : Ex F (upd F p u) ∧ HM K R (upd F p u) (upd H p u) (mdel M p) := by
  have fp := h.fr p o e
  refine ⟨Ex.new fp, fun a v z => ?_, fun q o' e' => ?_, fun q o' e' => ?_, fun q o2 e2 => ?_, h.rt⟩
  · by_cases z2 : a = p
    · rw [z2, upd_same] at z ⊢; exact z
    · rw [upd_ne z2] at z ⊢; exact h.ex _ _ z
  · have n : q ≠ p := fun z => by rw [z, mdel_same] at e'; cases e'
    rw [upd_ne n]; rw [mdel_ne n] at e'; exact h.fr q o' e'
  · have n : q ≠ p := fun z => by rw [z, mdel_same] at e'; cases e'
    rw [mdel_ne n] at e'
    have nd : ∀ C dx vs, o' = .sl C dx vs → dx ≠ p := fun C dx vs z z2 => by
      subst z
      have := (h.slotted e').2.1
      rw [z2, e] at this; cases this
    refine (h.ob q o' e').to (Ex.new fp) (fun b hb v z => ?_) fun C dx vs z2 => ?_
    · have : b ≠ p := by
        rcases hb with hb | ⟨C, vs, hb⟩
        · rw [hb]; exact n
        · exact nd C b vs hb
      rw [upd_ne this]; exact z
    · have n2 := nd C dx vs z2
      subst z2
      obtain ⟨f1, f2, _⟩ := h.slotted e'
      exact ⟨f1.upd n2, by rw [mdel_ne n2]; exact f2⟩
  · obtain ⟨a, b, c⟩ := h.rr q o2 e2
    have z : q ≠ p := fun z => by rw [z, e] at c; cases c
    exact ⟨by rw [upd_ne z]; exact a, by rw [upd_ne z]; exact b, by rw [mdel_ne z]; exact c⟩
end
mutual
inductive Fz : MH → D → D → MH → Prop
  | refl (M : MH) (d : D) : Fz M d d M
  | dK {M : MH} {p : Addr} {ks : List (Key × D)} (e : M p = some (.dK ks)) : Fz M (.ref p) (.dct ks) (mdel M p)
  | dT {M : MH} {p : Addr} {ks : List (List Key × D)} (e : M p = some (.dT ks)) : Fz M (.ref p) (.dcT ks) (mdel M p)
  | lst {M : MH} {p : Addr} {xs : List D} (e : M p = some (.lst xs)) : Fz M (.ref p) (.lst xs) (mdel M p)
  | ins {M M' : MH} {p C : Addr} {fs gs : List (Str × D)} (e : M p = some (.ins C fs)) (h : FzF (mdel M p) fs gs M') : Fz M (.ref p) (.ins C gs) M'
  | tup {M M' : MH} {xs ys : List D} (h : FzL M xs ys M') : Fz M (.tup xs) (.tup ys) M'
inductive FzF : MH → List (Str × D) → List (Str × D) → MH → Prop
  | nil (M : MH) : FzF M [] [] M
  | cons {M M1 M' : MH} {k : Str} {d d' : D} {fs gs : List (Str × D)} (h : Fz M d d' M1) (t : FzF M1 fs gs M') : FzF M ((k, d) :: fs) ((k, d') :: gs) M'
inductive FzL : MH → List D → List D → MH → Prop
  | nil (M : MH) : FzL M [] [] M
  | cons {M M1 M' : MH} {d d' : D} {xs ys : List D} (h : Fz M d d' M1) (t : FzL M1 xs ys M') : FzL M (d :: xs) (d' :: ys) M'
end
section
variable {X : Cx} {R : Hp} {pins : List (Addr × Obj)} {σ : St} {s : Shared}
mutual
theorem Fz.run : ∀ {M M' : MH} {d d' : D}, Fz M d d' M' → ∀ {F H : Hp} {v : V}, Inv X pins σ H s → HM X.K R F H M → Rep X.K F d v → ∃ F' H', Inv X pins σ H' s ∧ Ex F F' ∧ HM X.K R F' H' M' ∧ Rep X.K F' d' v
  | _, _, _, _, .refl M d, F, H, v, I, m, r => ⟨F, H, I, Ex.refl _, m, r⟩
  | M, _, _, _, .dK (p := p) (ks := ks) e, F, H, v, I, m, r => by
    cases r
    obtain ⟨kvs, hp, rk⟩ := m.ob p _ e
    obtain ⟨od, I2⟩ := I.lock hp trivial
    obtain ⟨ex, m2⟩ := m.stopU (u := .frz od (.dK kvs)) e
    exact ⟨_, _, I2, ex, m2, .dct upd_same (rk.mono ex)⟩
  | M, _, _, _, .dT (p := p) (ks := ks) e, F, H, v, I, m, r => by
    cases r
    obtain ⟨kvs, hp, rk⟩ := m.ob p _ e
    obtain ⟨od, I2⟩ := I.lock hp trivial
    obtain ⟨ex, m2⟩ := m.stopU (u := .frz od (.dT kvs)) e
    exact ⟨_, _, I2, ex, m2, .dcT upd_same (rk.mono ex)⟩
  | M, _, _, _, .lst (p := p) (xs := xs) e, F, H, v, I, m, r => by
    cases r
    obtain ⟨vs, hp, rl⟩ := m.ob p _ e
    obtain ⟨ex, m2⟩ := m.stop e hp
    exact ⟨_, _, I, ex, m2, .lst upd_same (rl.mono ex)⟩
  | M, _, _, _, .ins (p := p) (C := C) e h, F, H, v, I, m, r => by
    cases r
    obtain ⟨dx, vs, hp, rf⟩ := m.ob p _ e
    obtain ⟨ex, m2⟩ := m.stop e hp
    obtain ⟨F', H', I', e', m', r'⟩ := FzF.run h I m2 (rf.mono ex)
    exact ⟨F', H', I', ex.trans e', m', .ins (e' _ _ upd_same) r'⟩
  | M, _, _, _, .tup h, F, H, v, I, m, r => by
    cases r with
    | tupX ha rl =>
      obtain ⟨F', H', I', e', m', r'⟩ := FzL.run h I m rl
      refine ⟨F', H', I', e', m', ?_⟩
      rcases ha with ha | ⟨rfl, ha⟩
      · exact .tup (e' _ _ ha) r'
      · have z := rl.len0
        subst z
        cases h
        cases r'
        exact .tupX (.inr ⟨rfl, e'.t ha⟩) .nil
theorem FzF.run : ∀ {M M' : MH} {fs gs : List (Str × D)}, FzF M fs gs M' → ∀ {F H : Hp} {vs : List (Str × V)}, Inv X pins σ H s → HM X.K R F H M → RepF X.K F fs vs → ∃ F' H', Inv X pins σ H' s ∧ Ex F F' ∧ HM X.K R F' H' M' ∧ RepF X.K F' gs vs
  | _, _, _, _, .nil M, F, H, v, I, m, r => by
    cases r
    exact ⟨F, H, I, Ex.refl _, m, .nil⟩
  | _, _, _, _, .cons h t, F, H, v, I, m, r => by
    cases r with
    | cons rd rs =>
      obtain ⟨F1, H1, I1, e1, m1, r1⟩ := Fz.run h I m rd
      obtain ⟨F2, H2, I2, e2, m2, r2⟩ := FzF.run t I1 m1 (rs.mono e1)
      exact ⟨F2, H2, I2, e1.trans e2, m2, .cons (r1.mono e2) r2⟩
theorem FzL.run : ∀ {M M' : MH} {xs ys : List D}, FzL M xs ys M' → ∀ {F H : Hp} {vs : List V}, Inv X pins σ H s → HM X.K R F H M → RepL X.K F xs vs → ∃ F' H', Inv X pins σ H' s ∧ Ex F F' ∧ HM X.K R F' H' M' ∧ RepL X.K F' ys vs
  | _, _, _, _, .nil M, F, H, v, I, m, r => by
    cases r
    exact ⟨F, H, I, Ex.refl _, m, .nil⟩
  | _, _, _, _, .cons h t, F, H, v, I, m, r => by
    cases r with
    | cons rd rs =>
      obtain ⟨F1, H1, I1, e1, m1, r1⟩ := Fz.run h I m rd
      obtain ⟨F2, H2, I2, e2, m2, r2⟩ := FzL.run t I1 m1 (rs.mono e1)
      exact ⟨F2, H2, I2, e1.trans e2, m2, .cons (r1.mono e2) r2⟩
end
end
section
variable {X : Cx} {R F0 : Hp} {st : Stmt} {e : Expr} {t : DS} {te : DE}
end
end Dv
namespace Dv
open PySem PySem.Spec L2
section
variable {κ : Type} [DecidableEq κ]
end
section
variable {K : PySem.W.Frag} {R F F' H : Hp} {M : MH}
theorem RepK.sub {k : Key} {d : D} {v : V} (h : Rep K F d v) : ∀ {ds : List (Key × D)} {vs : List (Key × V)}, RepK K F ds vs → RepK K F (ds.map fun kv => if kv.1 = k then (kv.1, d) else kv) (vs.map fun kv => if kv.1 = k then (kv.1, v) else kv)
  | _, _, .nil => .nil
  | _, _, .cons (k := j) g r => by
    rw [List.map_cons, List.map_cons]
    by_cases e : j = k
    · rw [if_pos e, if_pos e]
      exact .cons h (r.sub h)
    · rw [if_neg e, if_neg e]
      exact .cons g (r.sub h)
theorem RepT.sub {k : List Key} {d : D} {v : V} (h : Rep K F d v) : ∀ {ds : List (List Key × D)} {vs : List (List Key × V)}, RepT K F ds vs → RepT K F (ds.map fun kv => if kv.1 = k then (kv.1, d) else kv) (vs.map fun kv => if kv.1 = k then (kv.1, v) else kv)
  | _, _, .nil => .nil
  | _, _, .cons (k := j) g r => by
    rw [List.map_cons, List.map_cons]
    by_cases e : j = k
    · rw [if_pos e, if_pos e]
      exact .cons h (r.sub h)
    · rw [if_neg e, if_neg e]
      exact .cons g (r.sub h)
theorem RepK.len : ∀ {ds : List (Key × D)} {vs : List (Key × V)}, RepK K F ds vs → ds.length = vs.length
  | _, _, .nil => rfl
  | _, _, .cons _ r => congrArg Nat.succ r.len
theorem RepT.len : ∀ {ds : List (List Key × D)} {vs : List (List Key × V)}, RepT K F ds vs → ds.length = vs.length
  | _, _, .nil => rfl
  | _, _, .cons _ r => congrArg Nat.succ r.len
def KNe : List Key → Prop → Prop
  | [], _ => False
  | _ :: _, p => p
theorem KNe.p : ∀ {k : List Key} {p : Prop}, KNe k p → p
  | _ :: _, _, h => h
theorem KNe.n : ∀ {k : List Key} {p : Prop}, KNe k p → k ≠ []
  | _ :: _, _, _ => nofun
end
section
variable {X : Cx} {R F0 : Hp} {o i e f value : Expr} {td ty tv tx te : DE} {pos pos' apos cpos : Pos}
end
end Dv
namespace Dv
open PySem PySem.Spec L2
section
variable {X : Cx} {R F0 : Hp} {pos : Pos} {K : PySem.W.Frag}
theorem PI.ex {tg it : Expr} {t : Hp → TI} (h : ∀ r, PI X tg it (t r)) : PI X tg it (fun σ H Z => ∃ r, t r σ H Z) := ⟨fun pins s σ H Z I ⟨r, q⟩ => (h r).run pins s σ H Z I q⟩
variable {elt tg iter tg1 iter1 : Expr} {ifs ifs1 : List Expr} {scope : Scope} {own : List (Str × Nat)} {vs1 : List Nat} {it it1 : DI} {gV gV1 : TG} {g g1 : DG} {tt tt1 : DT} {te : DE}
end
end Dv
namespace Dv
open PySem PySem.Spec PyProof.Rows L2
section
variable {X : Cx} {pins : List (Addr × Obj)} {σ : L2.St} {H : Hp} {s : Shared}
end
section
variable {X : Cx}
end
end Dv
namespace Dv
open PySem PySem.Spec L2
section
variable {X : Cx} {R F0 : Hp} {pos : Pos} {K : PySem.W.Frag}
variable {kx vx tg iter : Expr} {ifs : List Expr} {scope : Scope} {own : List (Str × Nat)} {it : DI} {gV : TG} {g : DG} {tt : DT} {tk tv : DE}
end
end Dv
namespace Dv
open PySem PySem.Spec L2
section
variable {X : Cx} {R F0 : Hp} {pos : Pos} {C : Addr} {o e : Expr} {f : Str} {to te : DE}
end
end Dv
namespace Dv
open PySem PySem.Spec PyProof.Rows L2
section
variable {prog : Program} {w : World} {A : Around} {s : Shared} {S z TI TO i1 i2 l1 l2 : Addr} {xs ys : Array Value} {h₀ : Heap} {R : Result → Shared → Prop} {res : Value}
end
end Dv
namespace Dv
open PySem PySem.Spec PyProof.Rows L2
section
variable {X : Cx} {R F0 : Hp} {e1 e2 : Expr} {xl xz : Str} {p1 p2 q1 q2 : Pos}
end
section
variable {K : PySem.W.Frag} {R F H H' : Hp} {M : MH}
end
section
variable {X : Cx} {R F0 : Hp} {e1 e2 : Expr} {xl xz : Str} {p1 p2 q1 q2 : Pos}
end
end Dv
namespace Dv
open PySem PySem.Spec PyProof.Rows L2
end Dv
namespace Dv
open PySem PySem.Spec PyProof.Rows L2
section
variable {X : Cx} {R F0 : Hp} {i o : Expr} {ty td : DE} {pos : Pos}
end
end Dv
namespace Dv
open PySem PySem.Spec PyProof.Rows L2
section
variable {X : Cx} {R F0 : Hp}
end
end Dv
namespace Dv
open PySem PySem.Spec PyProof.Rows L2
section
variable {K : PySem.W.Frag} {X : Cx} {R F0 : Hp}
end
end Dv
namespace Dv
open PySem PySem.Spec PyProof.Rows L2
section
variable {K : PySem.W.Frag} {X : Cx} {R F0 : Hp}
end
end Dv
namespace Dv
open PySem PySem.Spec PyProof.Rows L2
section
variable {K : PySem.W.Frag} {X : Cx} {R F0 : Hp}
end
end Dv
namespace Dv
open PySem PySem.Spec PyProof.Rows L2
section
variable {K : PySem.W.Frag} {R F F' H : Hp} {M : MH}
end
section
variable {X : Cx} {R F0 : Hp} {e : Expr} {te : DE}
end
end Dv
namespace Dv
open PySem PySem.Spec PyProof.Rows L2
section
variable {K : PySem.W.Frag} {X : Cx}
end
end Dv
namespace Dv
open PySem PySem.Spec PyProof.Rows L2
section
variable {X : Cx}
end
section
variable {X : Cx} {R F0 : Hp} {pos : Pos} {K : PySem.W.Frag} {kx vx tg iter : Expr} {ifs : List Expr} {scope : Scope} {own : List (Str × Nat)} {it : DI} {gV : TG} {g : DG} {tt : DT} {tk tv : DE}
end
end Dv
namespace Dv
open PySem PySem.Spec PyProof.Rows L2
section
variable {X : Cx} {R F0 : Hp} {st : Stmt} {t : DS}
end
end Dv
namespace Dv
open PySem PySem.Spec PyProof.Rows L2
section
variable {K : PySem.W.Frag} {X : Cx} {R F0 : Hp}
end
end Dv
namespace Dv
open PySem PySem.Spec PyProof.Rows L2
section
variable {K : PySem.W.Frag} {R F H : Hp} {M : MH} {X : Cx} {F0 : Hp}
end
end Dv
namespace Dv
open PySem PySem.Spec L2
section
variable {X : Cx} {R F0 : Hp}
variable {elt tg iter : Expr} {ifs : List Expr} {scope : Scope} {own : List (Str × Nat)} {it : DE} {gV : TG} {g : DG} {tt : DT} {te : DE} {pos : Pos}
end
end Dv
namespace SetI
open PySem PySem.Spec PyProof.Rows L2 SS
section
variable {prog : Program} {w : World} {A : Around} {R : Result → Shared → Prop} {I : Addr} {fp wr : List Addr} {G : Array GenState → Array GenState → Prop} {n : Nat} {P : Nat → Value → Prop} {St : Nat → Shared → Prop}
end
section
variable {prog : Program} {w : World} {A : Around} {E : Value → Shared → Prop} {s : Shared}
end
end SetI
namespace L2
open PySem PySem.Spec PyProof.Rows
section
variable {X : Cx}
end
end L2
namespace Dv
open PySem PySem.Spec L2
section
variable {X : Cx} {R F0 : Hp} {pos : Pos}
end
end Dv
namespace HN
open PySem PySem.SeqAt
open AutoSeq1 (wpAny_loadPart')
open MeetsSeq MeetsSeq2 MeetsSeq3 SeqRoads2 GQ
section
variable {prog : Program} {w : World} {A : Around} {R : Result → Shared → Prop}
end
section
variable {prog : Program} {w : World} {A : Around} {E : Value → Shared → Prop} {s : Shared}
end
end HN
namespace Dv
open PySem PySem.Spec PyProof.Rows L2
section
variable {X : Cx} {C : Addr} {sp : DSp} {j k : Nat}
end
end Dv
namespace Dv
open PySem PySem.Spec PyProof.Rows L2
section
variable {X : Cx} {R F0 : Hp}
end
end Dv
namespace Dv
open PySem PySem.Spec L2
section
variable {X : Cx} {R F0 : Hp} {pos : Pos}
variable {elt tg iter tg1 iter1 : Expr} {ifs ifs1 : List Expr} {scope : Scope} {own : List (Str × Nat)} {vs1 : List Nat} {it it1 : DI} {gV gV1 : TG} {g g1 : DG} {tt tt1 : DT} {te : DE}
end
end Dv
namespace Dv
open PySem PySem.Spec PyProof.Rows L2
section
variable {X : Cx} {body suite : List Stmt} {b₀ : Stmt} {n x1 x2 x3 : Str} {c1 c2 c3 : Value} {i kk : Nat} {p1 p2 p3 tpos pos pos' : Pos} {ts : Addr → Value → Option Addr → TS} {tb : WX → TS} {Wout : WX}
end
section
variable {X : Cx} {R F0 : Hp}
end
end Dv
namespace Dv
open PySem PySem.Spec PyProof.Rows L2
section
variable {X : Cx} {pins : List (Addr × Obj)} {σ : L2.St} {H : Hp} {s : Shared}
end
section
variable {X : Cx} {pins : List (Addr × Obj)} {σ : L2.St} {H : Hp} {s : Shared} {R F F1 : Hp}
end
section
variable {P : Program} {w : World} {K : PySem.W.Frag} {mg : Str → Option Value} {base : Heap}
end
section
variable {X : Cx} {R F0 : Hp}
end
end Dv
namespace Dv
open PySem PySem.Spec PyProof.Rows L2
section
variable {P : Program} {w : World} {K : PySem.W.Frag} {mg : Str → Option Value} {base : Heap}
end
end Dv
namespace Dv
open PySem PySem.Spec PyProof.Rows L2
section
variable {X : Cx} {R F0 : Hp}
end
end Dv
namespace HN
open PySem PySem.SeqAt
open AutoSeq1 (wpAny_loadPart')
open MeetsSeq MeetsSeq2 MeetsSeq3 SeqRoads2 GQ
section
variable {prog : Program} {w : World} {A : Around} {R : Result → Shared → Prop}
end
section
variable {prog : Program} {w : World} {A : Around} {E : Value → Shared → Prop} {s : Shared}
end
end HN
namespace Dv
open PySem PySem.Spec PyProof.Rows L2
section
variable {X : Cx} {C : Addr} {sp : DSp} {j k : Nat}
end
end Dv
namespace Dv
open PySem PySem.Spec PyProof.Rows L2
end Dv
namespace Dv
open PySem PySem.Spec PyProof.Rows L2
open L2H (RoomH)
section
variable {P : Program} {w : World} {K : PySem.W.Frag} {mg : Str → Option Value} {base : Heap}
end
section
variable {X : Cx} {R F0 : Hp} {j k : Nat} {C : Addr} {sp : DSp}
end
end Dv
namespace Dv
open PySem PySem.Spec PyProof.Rows L2
section
variable {X : Cx} {R F0 : Hp} {a : Addr}
end
end Dv
namespace ZM
open PySem PySem.Spec PyProof.Rows L2 RZ
section
variable {prog : Program} {w : World} {A : Around} {E : Value → Shared → Prop} {s : Shared}
variable {z TI TO i1 i2 : Addr} {a b x y : Value} {S1 S1' S2 S2' : Heap → Prop}
end
end ZM
namespace ZM
open PySem PySem.Spec PyProof.Rows L2 RZ
section
variable {prog : Program} {w : World} {A : Around} {E : Value → Shared → Prop} {s : Shared} {z TI TO i1 i2 l1 l2 : Addr} {k : Nat} {xs ys : Array Value} {x y a b : Value}
end
section
variable {prog : Program} {w : World} {A : Around} {E : Value → Shared → Prop} {s : Shared}
end
end ZM
namespace Dv
open PySem PySem.Spec PyProof.Rows L2
section
variable {X : Cx} {R F0 : Hp}
end
end Dv
namespace Dv
open PySem PySem.Spec PyProof.Rows L2
section
variable {K : PySem.W.Frag}
end
end Dv
namespace Dv
open PySem PySem.Spec PyProof.Rows L2
section
variable {X : Cx} {R F0 : Hp}
end
end Dv
namespace Dv
open PySem PySem.Spec PyProof.Rows L2
section
variable {X : Cx} {R F0 : Hp}
end
end Dv
namespace Dv
open PySem PySem.Spec PyProof.Rows L2
section
variable {X : Cx} {pins : List (Addr × Obj)} {σ : L2.St} {H : Hp} {s : Shared} {d : Addr} {o : Obj}
end
section
variable {P : Program} {w : World} {K : PySem.W.Frag} {tg : Expr} {d : Addr} {o : Obj} {es : Array DictEntry} {ep : Nat}
end
section
variable {X : Cx} {tg e : Expr} {td : TE} {apos cpos : Pos} {R F0 : Hp} {te : DE}
end
end Dv
namespace Dv
open PySem PySem.Spec PyProof.Rows L2
section
variable {X : Cx} {R F0 : Hp} {k v : Expr} {pos : Pos}
end
end Dv
namespace Dv
open PySem PySem.Spec PyProof.Rows L2
section
variable {X : Cx} {R F0 : Hp} {e : Expr} {xl : Str} {q1 q2 apos cpos : Pos}
end
end Dv
namespace Dv
open PySem PySem.Spec PyProof.Rows L2
section
variable {p0 : Program} {w0 : World} {A0 : Around}
end
section
variable {p0 : Program} {w0 : World} {A0 : Around} {E0 : Value → Shared → Prop} {s : Shared}
end
section
variable {X : Cx} {R F0 : Hp}
end
end Dv
namespace Dv
open PySem PySem.Spec PyProof.Rows L2
section
variable {X : Cx} {R F0 : Hp} {st : Stmt} {sts : List Stmt} {ts us : DS} {e a b o : Expr} {es : List Expr} {te ta tb to : DE} {tr : DA} {pos apos : Pos} {y z : Str} {j k : Nat} {c0 c1 : Pos}
end
end Dv
namespace MgD
open PySem
section
variable {prog : Program} {w : World} {K : Type} [DecidableEq K] {knd : KeyKind prog w K} {A : Around} {E : Value → Shared → Prop} {s : Shared}
end
end MgD

namespace L2
open PySem PySem.Spec PyProof.Rows
section
variable {X : Cx} {d k v : Expr} {td tk tv : TE} {pos : Pos}
end
end L2

namespace Dv
open PySem PySem.Spec L2
section
variable {X : Cx} {R F0 : Hp} {d k v : Expr} {td tk tv : DE} {pos : Pos}
end
end Dv
namespace Dv
open PySem PySem.Spec PyProof.Rows L2
section
variable {X : Cx} {R F0 : Hp} {j k : Nat} {C : Addr} {sp : DSp} {W : DWX} {o i value : Expr} {to ti tv : DE} {pos pos' : Pos}
end
section
variable {X : Cx} {R F0 : Hp} {j k : Nat} {C : Addr} {sp : DSp}
end
section
variable {X : Cx} {e : Expr} {apos cpos : Pos} {R F0 : Hp} {te : DE}
end
end Dv
namespace Dv
open PySem PySem.Spec L2
abbrev ClO := Value × Option Nat × (Addr → Value → Option Addr → TS)
inductive ClausesO (X : Cx) : List ExceptHandler → List ClO → Prop
  | nil : ClausesO X [] []
  | cons {x n : Str} {c : Value} {i : Nat} {ts : Addr → Value → Option Addr → TS} {b₀ : Stmt} {suite : List Stmt} {np pos' : Pos} {hds : List ExceptHandler} {l : List ClO} (names : Names X x c) (hi : X.N[i]? = some n) (hln : X.env.kindOf n = some .local)
      (su : ∀ (a : Addr) (oe : Obj) (cls : Value) (d : Option Addr) (pn : List (Addr × Obj)), Zc cls d oe → (∃ vs, oe.data = .fields vs) → PSs (X.suite a ((a, oe) :: pn)) (b₀ :: suite) (ts a cls d)) (rest : ClausesO X hds l) :
      ClausesO X (.ExceptHandler (some (.Name x np)) (some n) (b₀ :: suite) pos' :: hds) ((c, some i, ts) :: l)
  | cons0 {x : Str} {c : Value} {ts : Addr → Value → Option Addr → TS} {b₀ : Stmt} {suite : List Stmt} {np pos' : Pos} {hds : List ExceptHandler} {l : List ClO} (names : Names X x c)
      (su : ∀ (a : Addr) (oe : Obj) (cls : Value) (d : Option Addr) (pn : List (Addr × Obj)), Zc cls d oe → (∃ vs, oe.data = .fields vs) → PSs (X.suite a ((a, oe) :: pn)) (b₀ :: suite) (ts a cls d)) (rest : ClausesO X hds l) :
      ClausesO X (.ExceptHandler (some (.Name x np)) none (b₀ :: suite) pos' :: hds) ((c, none, ts) :: l)
section
variable {X : Cx} {body : List Stmt} {h₀ : ExceptHandler} {hds : List ExceptHandler} {l : List ClO} {pos : Pos} {tb : WX → TS} {Wout : WX}
end
abbrev DClO := Value × Option Nat × (Addr → Value → Option Addr → DS)
section
variable {X : Cx} {R F0 : Hp}
inductive DClausesO (R : Hp) (X : Cx) : List ExceptHandler → List DClO → Prop
  | nil : DClausesO R X [] []
  | cons {x n : Str} {c : Value} {i : Nat} {ts : Addr → Value → Option Addr → DS} {b₀ : Stmt} {suite : List Stmt} {np pos' : Pos} {hds : List ExceptHandler} {l : List DClO} (names : Names X x c) (hi : X.N[i]? = some n) (hln : X.env.kindOf n = some .local)
      (su : ∀ (F1 : Hp) (a : Addr) (oe : Obj) (cls : Value) (d : Option Addr) (pn : List (Addr × Obj)), Zc cls d oe → (∃ vs, oe.data = .fields vs) → PDSs R F1 (X.suite a ((a, oe) :: pn)) (b₀ :: suite) (ts a cls d)) (rest : DClausesO R X hds l) :
      DClausesO R X (.ExceptHandler (some (.Name x np)) (some n) (b₀ :: suite) pos' :: hds) ((c, some i, ts) :: l)
  | cons0 {x : Str} {c : Value} {ts : Addr → Value → Option Addr → DS} {b₀ : Stmt} {suite : List Stmt} {np pos' : Pos} {hds : List ExceptHandler} {l : List DClO} (names : Names X x c)
      (su : ∀ (F1 : Hp) (a : Addr) (oe : Obj) (cls : Value) (d : Option Addr) (pn : List (Addr × Obj)), Zc cls d oe → (∃ vs, oe.data = .fields vs) → PDSs R F1 (X.suite a ((a, oe) :: pn)) (b₀ :: suite) (ts a cls d)) (rest : DClausesO R X hds l) :
      DClausesO R X (.ExceptHandler (some (.Name x np)) none (b₀ :: suite) pos' :: hds) ((c, none, ts) :: l)
end
end Dv
namespace Dv
open PySem PySem.Spec PyProof.Rows L2
end Dv
namespace Dv
open PySem PySem.Spec L2
section
variable {X : Cx} {R F0 : Hp}
end
end Dv
namespace Dv
open PySem PySem.Spec PyProof.Rows L2
section
variable {X : Cx} {R F0 : Hp} {k j : Nat} {C f : Addr} {fd : FuncData} {ps : List Str} {sp : DSp} {W : DWX} {x : Str} {p pos : Pos}
end
end Dv
namespace Dv
open PySem PySem.Spec L2
section
variable {X : Cx} {R F0 : Hp} {K : PySem.W.Frag}
end
end Dv
namespace Dv
open PySem PySem.Spec PyProof.Rows L2
section
variable {X : Cx} {R F0 : Hp}
end
section
variable {X : Cx} {R F0 : Hp}
end
end Dv
namespace HI
open PySem PySem.W Sem
section
variable {prog : Program} {w : World} {K : Type} [DecidableEq K] {knd : KeyKind prog w K} {A : Around} {E : Value → Shared → Prop} {s : Shared}
end
end HI
namespace L2
open PySem PySem.Spec PyProof.Rows PySem.W
section
variable {P : Program} {w : World} {K : PySem.W.Frag} {d : Addr} {o : Obj} {es : Array DictEntry} {ep : Nat}
end
section
variable {X : Cx} {e : Expr} {td : TE} {apos cpos : Pos}
end
end L2
namespace Dv
open PySem PySem.Spec PyProof.Rows L2
variable {X : Cx} {R F0 : Hp} {e : Expr} {te : DE} {apos cpos : Pos}
end Dv
namespace Dv
open PySem PySem.Spec PyProof.Rows L2
section
variable {X : Cx} {R F0 : Hp}
end
end Dv
namespace PySem
namespace ErD
open PySem.W PySem.Calls PyProof.Rows PySem.HandSPX
open Builtin Builtin.ObjectAttr
section
variable {M : Model} {A : Around} {E : Value → Shared → Prop} {h : Heap} {g : Array GenState} {d : Drawn} {t : Nat} {os : OsState}
variable {nm q : Str} {C N : Addr} {bs bm bmB : List Value} {hdct : Bool} {sn : List Str} {sub : List Value} {ab : Bool} {col : Option Bool} {dd : Option Addr} {k0 k1 k2 k3 k5 : Option Value} {B newId initId : String}
theorem check_callK {kw : List (Str × Value)} {Q : Unit → Shared → Prop} (hC : h.get? C = some (excClassObj nm q C N bs bm hdct sn sub ab col dd k0 k1 k2 k3 k5 newId))
    (hq : Q () ⟨h, g, d, t, os⟩) : wpAny M A (checkBuiltinCall "type.__call__" ⟨[.ref C], kw⟩) Q E ⟨h, g, d, t, os⟩ := by
  have f3 := tc_sub
  have hT : (⟨h, g, d, t, os⟩ : Shared).TypeIs (.ref C) "type" := ⟨_, hC, rfl⟩
  simp only [checkBuiltinCall, tc_kind, tc_split]
  repeat (any_goals (first | assumption | with_reducible refine wpAny_loadPart_at hC ?_ | with_reducible refine wpAny_onRaise ?_ | with_reducible refine wpAny_map ?_ | wp_step))
theorem check_newK (F : ExcBaseFacts B newId initId bmB) (hT : ∀ X : String, bm.contains (.type X) = bmB.contains (.type X)) {kw : List (Str × Value)} {Q : Unit → Shared → Prop}
    (hC : h.get? C = some (excClassObj nm q C N bs bm hdct sn sub ab col dd k0 k1 k2 k3 k5 newId)) (hq : Q () ⟨h, g, d, t, os⟩) : wpAny M A (checkBuiltinCall newId ⟨[.ref C], kw⟩) Q E ⟨h, g, d, t, os⟩ := by
  have hcont : (Value.ref C :: bm).contains (.type B) = true := by rw [List.contains_cons, hT, F.hasB, Bool.or_true]
  have hstar := F.noStar
  simp only [checkBuiltinCall, F.newKind, F.newSplit, F.newRow]
  repeat (first | refine wpAny_loadPart_at hC ?_ | (refine wpAny_isSubtype_exc hC ?_; rw [hcont]) | refine wpAny_staticBase_exc hC ?_ | refine wpAny_madeBy_exc hC ?_ | simp only [bne_self_eq_false, Bool.false_eq_true, if_false] | wp_step)
  exact hq
end
section
variable {prog : Program} {w : World} {A : Around} {E : Value → Shared → Prop} {R : Result → Shared → Prop} {h : Heap} {g : Array GenState} {d : Drawn} {t : Nat} {os : OsState}
variable {nm q : Str} {C N : Addr} {bs bm bmB : List Value} {hdct : Bool} {sn : List Str} {sub : List Value} {ab : Bool} {col : Option Bool} {dd : Option Addr} {k0 k1 k2 k3 k5 : Option Value} {B newId initId : String}
theorem new_ownK (F : ExcBaseFacts B newId initId bmB) (hT : ∀ X : String, bm.contains (.type X) = bmB.contains (.type X)) {kw : List (Str × Value)}
    (hC : h.get? C = some (excClassObj nm q C N bs bm hdct sn sub ab col dd k0 k1 k2 k3 k5 newId))
    (hq : R (.ok (.ret (.ref (h.objs.size + 1)))) ⟨(h.push { cls := .type "tuple", data := .seq ([] : List Value).toArray }).push
      { cls := .ref C, data := .fields #[.ref h.objs.size, .none, .none, .none, .bool false, .none] }, g, d, t, os⟩) :
    codeAny (model prog w) A (.builtin newId ⟨[.ref C], kw⟩) R ⟨h, g, d, t, os⟩ := by
  have hends := F.ends
  have hcB : (Value.ref C :: bm).contains (.type B) = true := by rw [List.contains_cons, hT, F.hasB, Bool.or_true]
  have hcA : (Value.ref C :: bm).contains (.type "AttributeError") = false := by rw [List.contains_cons, hT, F.noAttr]; rfl
  have hcN : (Value.ref C :: bm).contains (.type "NameError") = false := by rw [List.contains_cons, hT, F.noName]; rfl
  refine codeAny_builtinAt F.entry ?_
  unfold Builtin.«BaseException.__new__»
  refine wpAt_bind ?_
  show wpAt _ _ _ (stack >>= _) _ _ _
  refine wpAt_bind (wpAt_stack fun p below => wpAt_of_wpAny ?_)
  wp_walk
  refine wpAt_of_wpAny ?_
  rw [F.owner]
  repeat (first | with_reducible refine wpAny_madeHere_exc F.canon hC ?_ | with_reducible refine wpAny_loadPart_at hC ?_ | (with_reducible refine wpAny_isSubtype_exc hC ?_; first | rw [hcB] | rw [hcA] | rw [hcN]) | wp_step)
  show R _ _
  rw [Heap.size_push]
  exact hq
theorem type_call_ownK (F : ExcBaseFacts B newId initId bmB) (hT : ∀ X : String, bm.contains (.type X) = bmB.contains (.type X)) {kw : List (Str × Value)} {fI : Addr} {Q : Fin → Shared → Prop}
    (hC : h.get? C = some (excClassObj nm q C N bs bm hdct sn sub ab col dd k0 k1 k2 k3 k5 newId))
    (hi : W.Looks (model prog w) h (typeLookup (.ref C) "__init__") (some (.ref fI))) (hb : ∀ self, W.Looks (model prog w) h (bindSpecial (.ref fI) self) (.ref fI, [self]))
    (hq : codeAny (model prog w) A (.call (.ref fI) ⟨[.ref (h.objs.size + 1)], kw⟩)
      (fun r s' => match r with | .ok (.ret v) => v = .none ∧ Q (.done (.ret (.ref (h.objs.size + 1)))) s' | .ok _ => False | .error e => E e s')
      ⟨(h.push (W.kdv_tup [])).push (excO C h.objs.size), g, d, t, os⟩) :
    wpAny (model prog w) A (Builtin.«type.__call__» ⟨[.ref C], kw⟩) Q E ⟨h, g, d, t, os⟩ := by
  repeat (first | with_reducible refine wpAny_loadPart_at hC ?_ | with_reducible refine wpAny_madeBy_exc hC ?_ | wp_step)
  refine codeAny_call_builtin_code (Code.quiet_builtin _ F.quiet) (check_newK F hT hC ?_)
  refine new_ownK F hT hC ?_
  show wpAny _ _ _ _ _ _
  have k : ∀ b o, h.get? b = some o → ((h.push (W.kdv_tup [])).push (excO C h.objs.size)).get? b = some o := fun b o e => Heap.get?_push_of_some _ (Heap.get?_push_of_some _ e)
  have hC₁ := k _ _ hC
  have hget : ((h.push (W.kdv_tup [])).push (excO C h.objs.size)).get? (h.objs.size + 1) = some (excO C h.objs.size) := by heap_get
  have hcC : (Value.ref C :: bm).contains (.ref C) = true := by simp
  have i1 := hi.keeps k
  have b1 := (hb (.ref (h.objs.size + 1))).keeps k
  unfold isInstance
  repeat (first | with_reducible refine wpAny_loadPart_at hget ?_ | (with_reducible refine wpAny_isSubtype_exc hC₁ ?_; rw [hcC]) | wp_step)
  show wpAny _ _ (typeLookup (.ref C) _) _ _ _
  refine i1.at ?_
  refine wpAny_holding (wpAny_bind (b1.at ?_))
  refine wpAny_bind (wpAny_call (codeAny_mono hq fun r s' z => ?_))
  rcases r with e | (v | _ | _ | _) <;> first | exact z | exact z.elim | skip
  obtain ⟨rfl, z⟩ := z
  first
    | exact wpAny_pure (wpAny_pure z)
    | (wp_walk; exact z)
theorem call_ownK (F : ExcBaseFacts B newId initId bmB) (hT : ∀ X : String, bm.contains (.type X) = bmB.contains (.type X)) {kw : List (Str × Value)} {fI : Addr}
    (hC : h.get? C = some (excClassObj nm q C N bs bm hdct sn sub ab col dd k0 k1 k2 k3 k5 newId))
    (hi : W.Looks (model prog w) h (typeLookup (.ref C) "__init__") (some (.ref fI))) (hb : ∀ self, W.Looks (model prog w) h (bindSpecial (.ref fI) self) (.ref fI, [self]))
    (hq : codeAny (model prog w) (A.under (.builtin "type.__call__" ⟨[.ref C], kw⟩)) (.call (.ref fI) ⟨[.ref (h.objs.size + 1)], kw⟩) (W.InitBack (h.objs.size + 1) R)
      ⟨(h.push (W.kdv_tup [])).push (excO C h.objs.size), g, d, t, os⟩) :
    codeAny (model prog w) A (.call (.ref C) ⟨[], kw⟩) R ⟨h, g, d, t, os⟩ := by
  have f1 := tc_lookup
  have f2 := tc_bind (.ref C)
  have hTy : (⟨h, g, d, t, os⟩ : Shared).TypeIs (.ref C) "type" := ⟨_, hC, rfl⟩
  refine codeAny_of_tree ?_
  show wpAny _ _ (callAny (.ref C) _) _ _ _
  repeat (any_goals (first | assumption | with_reducible refine wpAny_loadPart_at hC ?_ | wp_step))
  refine ⟨rfl, ?_⟩
  refine codeAny_call_builtin_at (Code.quiet_builtin _ (by decide +kernel)) entry_typeCall (check_callK hC (type_call_ownK F hT hC hi hb ?_))
  refine codeAny_mono hq fun r s' z => ?_
  rcases r with e | (v | _ | _ | _) <;> exact z
end
section
variable {prog : Program} {w : World} {A : Around} {E : Value → Shared → Prop} {R : Result → Shared → Prop} {s : Shared} {K : Frag} {mg : Str → Option Value} {C fI : Addr} {cn fl : Str}
theorem err_initK (T : ErrT K mg cn fl C fI) {x t0 : Addr} {v : Value} (Y : K.In s.heap) (lim : s.heap.NoLimit) (hx : s.heap.get? x = some (excO C t0)) (room : A.depth < recursionLimit)
    (hq : ∀ h' tk dx, EndI s.heap h' x C dx t0 fl v → R (.ok (.ret .none)) { s with heap := h', toks := tk }) :
    codeAny (model prog w) A (.call (.ref fI) ⟨[.ref x], [(fl, v)]⟩) R s := by
  obtain ⟨oc, od, doc, pm, an, cdv, ct, osl, qn, p1, p2, q1, q2, q3, q4, ho, hcd⟩ := T.fn
  obtain ⟨nm, q, N, bs, bm, sn, sub, ab, col, dd, k0, k1, k2, k3, k5, nid, hC, hb⟩ := T.cls
  have hcl : clsIn K C = some { name := nm, bases := bs, mro := .ref C :: bm, ns := N, qualname := q, hasDict := true, slotNames := sn, subclasses := sub, abstract := ab, collection := col, hasDel := false } := by unfold clsIn; rw [hC] <;> rfl
  have noN := T.noN
  have fd := T.fd
  rcases fd with rfl | rfl
  all_goals
    refine Att.call_fn (binds := [("self", .ref x), (_, v)]) Y lim ho hcd room (BindsTo.of_eq (by first | rfl | with_unfolding_all rfl)) (by first | rfl | decide | with_unfolding_all rfl) (fun s₁ IC => ?_) rfl rfl rfl
    obtain ⟨h₁, tk₁, rfl⟩ := IC.toInCall.same
    have k : ∀ b o, s.heap.get? b = some o → h₁.get? b = some o := IC.toInCall.keep
    have hn := IC.toInCall.ns
    have Y₁ : K.In h₁ := Y.keeps k
    have hx₁ := k _ _ hx
    show wpAny _ _ (execs _ _) _ _ _
    refine wpAny_execs_cons (plainObj_wpAny_Assign_Attribute ?_)
    refine loc_ld (v := v) hn (by first | rfl | with_unfolding_all rfl | kernel_rfl) (loc_ld (v := .ref x) hn (by first | rfl | with_unfolding_all rfl | kernel_rfl) ?_)
    refine set_plain Y₁ (ox := excO C t0) (od := none) ⟨hx₁, rfl, rfl, trivial⟩ T.sa ?_
    refine set_new (nid := "") Y₁ hx₁ hcl hb.own rfl noN (fun h₃ tk₃ dx k₃ dn dne hx₃ hn₃ => ?_)
    show wpAny _ _ (execs _ _) _ _ _
    have z : s.heap.objs.size < h₁.objs.size := hn.lt
    exact wpAny_execs_nil (hq h₃ tk₃ dx ⟨fun b o nb e => k₃ b o nb (k b o e), hx₃, Nat.le_of_lt (Nat.lt_of_lt_of_le z dn), dne, hn₃⟩)
theorem err_madeK (T : ErrT K mg cn fl C fI) {v : Value} (Y : K.In s.heap) (lim : s.heap.NoLimit) (room : A.depth + 1 < recursionLimit)
    (hq : ∀ h' tk e d, Made s.heap h' e C d fl v → R (.ok (.ret (.ref e))) { s with heap := h', toks := tk }) :
    codeAny (model prog w) A (.call (.ref C) ⟨[], [(fl, v)]⟩) R s := by
  obtain ⟨nm, q, N, bs, bm, sn, sub, ab, col, dd, k0, k1, k2, k3, k5, nid, hC, hb⟩ := T.cls
  obtain ⟨B, iid, bB, BF, same⟩ := hb.call
  obtain ⟨hp, g, dr, tk, os⟩ := s
  have k : ∀ b o, hp.get? b = some o → ((hp.push (kdv_tup [])).push (excO C hp.objs.size)).get? b = some o := fun b o e => Heap.get?_push_of_some _ (Heap.get?_push_of_some _ e)
  have there : ((hp.push (kdv_tup [])).push (excO C hp.objs.size)).get? (hp.objs.size + 1) = some (excO C hp.objs.size) := by heap_get
  refine call_ownK BF same (Y _ _ hC) (looks_findIn Y T.iC) (fun self => bind_fn Y self T.tC) ?_
  refine err_initK (s := ⟨(hp.push (kdv_tup [])).push (excO C hp.objs.size), g, dr, tk, os⟩) T (Y.keeps k) (lim.keeps k) there room fun h' tk' dx ⟨k', hx, dn, dne, hns⟩ => ?_
  have old : ∀ b o, hp.get? b = some o → h'.get? b = some o := fun b o e => k' b o (Nat.ne_of_lt (Nat.lt_succ_of_lt (Heap.lt_size e))) (k b o e)
  have z : hp.objs.size + 1 + 1 ≤ dx := by
    have q := dn
    rw [Heap.size_push, Heap.size_push] at q
    exact q
  exact ⟨rfl, hq h' tk' (hp.objs.size + 1) dx ⟨old, Nat.le_succ _, ⟨_, _, hx, rfl, rfl, rfl, rfl⟩, Nat.le_trans (Nat.le_trans (Nat.le_succ _) (Nat.le_succ _)) z, dne, hns⟩⟩
end
end ErD
end PySem
namespace Dv
open PySem PySem.Spec L2
section
variable {X : Cx} {C fI : Addr} {cn fl : Str} {R F0 : Hp}
theorem made_inv {pins : List (Addr × Obj)} {s : Shared} {σ : St} {H : Hp} {v : V} {u : Value} {h' : Heap} {tk : Nat} {e d : Addr} (I : Inv X pins σ H s) (rv : RelV v u) (M : PySem.ErD.Made s.heap h' e C d fl u) :
    Inv X pins σ (upd (upd H d (.xd [(fl, v)])) e (ErO C (some d) e)) { s with heap := h', toks := tk } ∧ H d = none ∧ H e = none ∧ d ≠ e := by
  obtain ⟨hp, g, dr, tk0, os⟩ := s
  obtain ⟨oe, fv, hoe, hc, hd, hdat, h1⟩ := M.obj
  have hns := M.ns
  obtain ⟨G', g1, g2⟩ := restrict h' fun b => decide (b ≠ e)
  have off : ∀ b, b ≠ e → G'.get? b = h'.get? b := fun b hb => g1 b (decide_eq_true hb)
  have gone : G'.get? e = none := g2 e (by simp)
  have old : ∀ b o, hp.get? b = some o → G'.get? b = some o := fun b o q => (off b (Nat.ne_of_lt (Nat.lt_of_lt_of_le (Heap.lt_size q) M.new))).trans (M.keep b o q)
  have ob : ObjOk X.prog X.w (upd H d (.xd [(fl, v)])) G' d (.xd [(fl, v)]) := ⟨_, hns.at (fun o q => (off d M.dne).trans q), fun f => relO_one rv f⟩
  have J : Inv X pins σ (upd H d (.xd [(fl, v)])) ⟨G', g, dr, tk, os⟩ := I.laid (t' := tk) old M.dbig ob
  have k : ∀ b o, G'.get? b = some o → h'.get? b = some o := fun b o q => by
    by_cases hb : b = e
    · rw [hb, gone] at q; cases q
    · exact (off b hb).symm.trans q
  have ne : (upd H d (.xd [(fl, v)])) e = none := by rw [upd_ne (Ne.symm M.dne)]; exact I.hok.fresh M.new
  exact ⟨J.laidN (t' := tk) k gone ne ⟨⟨oe, fv, hoe, hc, hd, hdat⟩, ⟨oe, hoe⟩, fun _ _ ⟨o, v, q, r⟩ k => ⟨o, v, k o q, r⟩⟩, I.hok.fresh M.dbig, I.hok.fresh M.new, M.dne⟩
def dMkE (C : Addr) (fl : Str) (t : DA) : DE := fun ds M Q => t ds M fun xs M1 => match xs with
  | [x] => ∀ e d, M1 e = none → M1 d = none → d ≠ e → Q (.ref e) (mup (mup M1 d (.xd [(fl, x)])) e (.er C (some d)))
  | _ => False
theorem HM.newEr {K : PySem.W.Frag} {F H : Hp} {M : MH} {e d : Addr} {x : D} {v : V} (m1 : HM K R F H M) (rx : Rep K F x v) (hd : H d = none) (he : H e = none) (ne : d ≠ e) :
    HM K R F (upd (upd H d (.xd [(fl, v)])) e (ErO C (some d) e)) (mup (mup M d (.xd [(fl, x)])) e (.er C (some d))) := by
  have m2 := m1.warm (o := .xd [(fl, x)]) hd ⟨_, upd_same, .cons rx .nil⟩
  exact m2.warm (o := .er C (some d)) (by rw [upd_ne ne.symm]; exact he) upd_same
theorem pd_mkE {a : Expr} {t : DA} {p pos : Pos} {k : Nat} (T : PySem.ErD.ErrT X.K X.mg cn fl C fI) (hr : Room k X.A) (ha : PDA R F0 X [a] t) (hg : Gl X cn := by rfl) (hdb : (cn == ("__debug__" : Str)) = false := by decide)
    (he : starEach (a :: []) X.env = (false, eval a X.env) :: starEach [] X.env := by rfl) (hpl : (backTo pos (starEach [] X.env)).any (·.1) = false := by rfl) : PDE R F0 X (.Call (.Name cn p) [a] [] pos) (dMkE C fl t) := by
  refine ⟨fun pins s σ H Q I h => ?_⟩
  obtain ⟨F, ds, M, Qd, at_, h, c⟩ := h
  refine wpAny_Call_Name_kw (ld_glob I hg T.gC ?_ hdb)
  refine PySem.W.callWith_K (h₀ := X.base) I.ok.mod.kin T.kC (thn (ha.run pos pins s σ H (fun vs H1 => ∃ v, vs = [v] ∧ ∀ e d, H1 d = none → H1 e = none → d ≠ e → Q (.ref e) (upd (upd H1 d (.xd [(fl, v)])) e (ErO C (some d) e))) I ⟨F, ds, M, _, at_, h, fun F1 H1 M1 xs vs e1 m1 r1 q1 => ?_⟩) fun us s1 hh => ?_) he hpl
  · cases r1 with
    | nil => exact q1.elim
    | cons rx rn =>
      cases rn with
      | cons _ _ => exact q1.elim
      | nil => exact ⟨_, rfl, fun e d hd he_ ne => c _ _ _ _ _ e1 (m1.newEr rx hd he_ ne) (.ref e) (q1 e d (m1.freeM he_) (m1.freeM hd) ne)⟩
  · obtain ⟨vs, H1, I1, r1, v, rfl, q1⟩ := hh
    refine ⟨I1.kIn, ?_⟩
    cases r1 with
    | cons rv rn =>
      cases rn
      refine wpAny_call (PySem.ErD.err_made T I1.kIn I1.nolimit (by have := hr.dp; omega) fun h' tk' e d M => ?_)
      obtain ⟨J, n1, n2, ne⟩ := made_inv (tk := tk') I1 rv M
      exact (⟨.ref e, _, J, rfl, q1 e d n1 n2 ne⟩ : EP X pins σ Q (.ref e) _)
theorem pd_mkEK {kws : List Keyword} {t : DA} {p pos : Pos} {k : Nat} (T : PySem.ErD.ErrT X.K X.mg cn fl C fI) (hr : Room k X.A) (hkw : PDK R F0 X kws t) (hg : Gl X cn := by rfl) (hdb : (cn == ("__debug__" : Str)) = false := by decide)
    (hall : (backToKw pos (keywordEach kws X.env)).all (·.1.isSome) = true := by rfl) (hks : (backToKw pos (keywordEach kws X.env)).filterMap (·.1) = [fl] := by rfl)
    (hpl : ((backTo pos (starEach [] X.env)).any (·.1) || (backToKw pos (keywordEach kws X.env)).any (·.1.isNone)) = false := by rfl) : PDE R F0 X (.Call (.Name cn p) [] kws pos) (dMkE C fl t) := by
  refine ⟨fun pins s σ H Q I h => ?_⟩
  obtain ⟨F, ds, M, Qd, at_, h, c⟩ := h
  refine wpAny_Call_Name_kw (ld_glob I hg T.gC ?_ hdb)
  refine PySem.W.callWith_KW0 (h₀ := X.base) I.ok.mod.kin T.kC hall (thn (hkw.run pos pins s σ H (fun vs H1 => ∃ v, vs = [v] ∧ ∀ e d, H1 d = none → H1 e = none → d ≠ e → Q (.ref e) (upd (upd H1 d (.xd [(fl, v)])) e (ErO C (some d) e))) I ⟨F, ds, M, _, at_, h, fun F1 H1 M1 xs vs e1 m1 r1 q1 => ?_⟩) fun us s1 hh => ?_) hpl
  · cases r1 with
    | nil => exact q1.elim
    | cons rx rn =>
      cases rn with
      | cons _ _ => exact q1.elim
      | nil => exact ⟨_, rfl, fun e d hd he_ ne => c _ _ _ _ _ e1 (m1.newEr rx hd he_ ne) (.ref e) (q1 e d (m1.freeM he_) (m1.freeM hd) ne)⟩
  · obtain ⟨vs, H1, I1, r1, v, rfl, q1⟩ := hh
    refine ⟨I1.kIn, ?_⟩
    rw [hks]
    cases r1 with
    | cons rv rn =>
      cases rn
      refine wpAny_call (PySem.ErD.err_madeK T I1.kIn I1.nolimit (by have := hr.dp; omega) fun h' tk' e d M => ?_)
      obtain ⟨J, n1, n2, ne⟩ := made_inv (tk := tk') I1 rv M
      exact (⟨.ref e, _, J, rfl, q1 e d n1 n2 ne⟩ : EP X pins σ Q (.ref e) _)
def dMkE0 (C : Addr) : DE := fun ds M Q => ∀ e, M e = none → Q (.ref e) (mup M e (.er C none))
theorem mkE0B {bmB : List Value} {B newId initId : String} {p pos : Pos} (F : ExcBaseFacts B newId initId bmB) (q : PySem.W.excIn X.K C bmB newId = true) (gC : X.mg cn = some (.ref C)) (kC : PySem.W.keepIn X.K (.ref C) = true)
    (hg : Gl X cn) (hdb : (cn == ("__debug__" : Str)) = false) : PDE R F0 X (.Call (.Name cn p) [] [] pos) (dMkE0 C) := by
  refine ⟨fun pins s σ H Q I h => ?_⟩
  obtain ⟨F1, ds, M, Qd, at_, h, c⟩ := h
  refine wpAny_Call_Name_kw (ld_glob I hg gC ?_ hdb)
  refine PySem.W.callWith_K0 I.kIn kC ?_
  show wpAny _ _ (call (.ref C) []) _ _ _
  obtain ⟨bm, N, nm, qn, bs, hdct, sn, sub, ab, col, dd, k0, k1, k2, k3, k5, mN, hC, hN, hni, T⟩ := exc_obj I.kIn q
  refine wpAny_call_exc_subT F T hC hN hni (fun h' e hm => ?_) (Nat.zero_le _)
  have hn : H e = none := I.hok.gone hm.new
  obtain ⟨t, ht, _, _⟩ := hm.there
  exact ⟨.ref e, upd H e (ErO C none e), I.laidN hm.keeps hm.new hn ⟨⟨_, _, ht, rfl, rfl, rfl⟩, ⟨_, ht⟩, fun _ _ ⟨o, v, q, r⟩ k => ⟨o, v, k o q, r⟩⟩, rfl, c _ _ _ _ _ (Ex.refl _) (at_.hm.warm (o := .er C none) hn upd_same) (.ref e) (h e (at_.hm.freeM hn))⟩
theorem pd_mkE0 {p pos : Pos} (T : Er0 X.K X.mg cn C) (hg : Gl X cn := by rfl) (hdb : (cn == ("__debug__" : Str)) = false := by decide) : PDE R F0 X (.Call (.Name cn p) [] [] pos) (dMkE0 C) := by
  have q := T.q
  rcases Bool.or_eq_true_iff.mp q with q | q
  · rcases Bool.or_eq_true_iff.mp q with q | q
    · exact mkE0B F.excBase_ValueError q T.gC T.kC hg hdb
    · exact mkE0B F.excBase_LookupError q T.gC T.kC hg hdb
  · exact mkE0B F.excBase_ArithmeticError q T.gC T.kC hg hdb
def erDx (d : Option Addr) (M : MH) : Prop := ∀ dd, d = some dd → ∃ fs, M dd = some (.xd fs)
def rIsV (K : PySem.W.Frag) : List V → Hp → VK → Prop := fun xs H Q => ∃ (a : Addr) (c : V) (cv : Value) (b : Bool) (C' : Addr) (d : Option Addr), xs = [.ref a, c] ∧ H a = some (ErO C' d a) ∧ ExcC K C' ∧ (∀ dd, d = some dd → ∃ fs, H dd = some (.xd fs)) ∧ (∀ u, RelV c u → u = cv) ∧ PySem.W.kitOne K (.ref C') cv = some b ∧ Q (.bl b) H
theorem call_isV : CallR X (.builtin "isinstance") (rIsV X.K) := by
  intro pins s σ H xs us Q I r h
  obtain ⟨a, c, cv, b, C', d, rfl, ha, C, hd, hcv, e, q⟩ := h
  cases r with
  | cons rx rr =>
    cases rr with
    | cons rt rr =>
      cases rr
      cases rx
      have ec := hcv _ rt
      subst ec
      obtain ⟨⟨oe, vs, hget, h1, h2, h3⟩, _, _⟩ := I.hok a _ ha
      have hcl : (PySem.W.clsIn X.K C').isSome = true := by
        obtain ⟨cd, hc, _⟩ := PySem.W.any_some C.hd
        rw [hc]; rfl
      have fin : ∀ od, PySem.W.InstAt s.heap a oe C' od → wpAny (model X.prog X.w) X.A (call (.builtin "isinstance") [Value.ref a, _]) (EP X pins σ Q) X.xe s := fun od J => PySem.W.kia_one (PySem.W.kitx_exc hcl C.hg C.hk C.hs C.ha C.hn C.ht C.hm) I.kIn J e (fun z => nomatch z) fun tk => ⟨.bl b, H, I.kept (t' := tk) fun _ _ z => z, rfl, q⟩
      cases d with
      | none => exact fin none ⟨hget, h1, by unfold PySem.W.notCls; rw [h3] <;> rfl, by rw [h2]; trivial⟩
      | some dd =>
        obtain ⟨fs, hf⟩ := hd dd rfl
        obtain ⟨mA, hns, _⟩ := I.hok dd _ hf
        obtain ⟨od, ho, _⟩ := lookIn_ns hns
        exact fin (some od) ⟨hget, h1, by unfold PySem.W.notCls; rw [h3] <;> rfl, by rw [h2]; exact ho⟩
def rIsVD (K : PySem.W.Frag) : DRC := fun xs M Q => match xs with
  | [.ref a, .ref C] => ∃ C' d, M a = some (.er C' d) ∧ ExcC K C' ∧ erDx d M ∧ ∃ b, PySem.W.kitOne K (.ref C') (.ref C) = some b ∧ Q (.bl b) M
  | [.ref a, .ty T] => ∃ C' d, M a = some (.er C' d) ∧ ExcC K C' ∧ erDx d M ∧ ∃ b, PySem.W.kitOne K (.ref C') (.type T) = some b ∧ Q (.bl b) M
  | _ => False
theorem call_isVD : CallD R F0 X (.builtin "isinstance") (rIsVD X.K) := by
  refine CallD.of call_isV ?_
  intro R F H M xs vs Qd Q m rp h c
  unfold rIsVD at h
  have dx : ∀ {d : Option Addr}, erDx d M → ∀ dd, d = some dd → ∃ fs, H dd = some (.xd fs) := fun hd dd e => by
    obtain ⟨fs, hf⟩ := hd dd e
    obtain ⟨ws, hw, _⟩ := m.ob dd _ hf
    exact ⟨ws, hw⟩
  split at h
  · obtain ⟨v, w, rfl, r1, r2⟩ := repl_two rp
    obtain ⟨C', d, hM, hC, hd, b, e, q⟩ := h
    cases r1; cases r2
    exact ⟨_, _, _, b, C', d, rfl, m.ob _ _ hM, hC, dx hd, fun u e => e, e, c.now m (.bl _) q⟩
  · obtain ⟨v, w, rfl, r1, r2⟩ := repl_two rp
    obtain ⟨C', d, hM, hC, hd, b, e, q⟩ := h
    cases r1; cases r2
    exact ⟨_, _, _, b, C', d, rfl, m.ob _ _ hM, hC, dx hd, fun u e => e, e, c.now m (.bl _) q⟩
  · exact h.elim
def dXv (K : PySem.W.Frag) (f : Str) (te : DE) : DE := fun ds M Q => te ds M fun x M1 => ∃ (a C dd : Addr) (fs : List (Str × D)) (v : D), x = .ref a ∧ M1 a = some (.er C (some dd)) ∧ (XfC K C ∧ PySem.W.findIn K (.ref C) f = some none) ∧ M1 dd = some (.xd fs) ∧ fs.lookup f = some v ∧ Q v M1
theorem pd_xv {e : Expr} {te : DE} {pos : Pos} {n : Str} (he : PDE R F0 X e te) (hb : attributeBase e n X.env (eval e X.env) = eval e X.env := by rfl) : PDE R F0 X (.Attribute e n pos) (dXv X.K n te) := by
  refine ⟨fun pins s σ H Q I h => ?_⟩
  obtain ⟨F, ds, M, Qd, at_, h, c⟩ := h
  refine attr_of hb (thn (he.run pins s σ H (fun x H1 => ∃ (a C dd : Addr) (fs : List (Str × V)) (v : V), x = .ref a ∧ H1 a = some (ErO C (some dd) a) ∧ (XfC X.K C ∧ PySem.W.findIn X.K (.ref C) n = some none) ∧ H1 dd = some (.xd fs) ∧ fs.lookup n = some v ∧ Q v H1) I ⟨F, ds, M, _, at_, h, fun F1 H1 M1 x vx e1 m1 r1 q1 => ?_⟩) fun u s1 hh => ?_)
  · obtain ⟨a, C, dd, fs, v, rfl, ha, T, hd, l, q⟩ := q1
    cases r1
    obtain ⟨vs, hv, rf⟩ := m1.ob dd _ hd
    obtain ⟨w, lw, rw'⟩ := rf.look l
    exact ⟨a, C, dd, vs, w, rfl, m1.ob a _ ha, T, hv, lw, c _ _ _ _ _ e1 m1 rw' q⟩
  · obtain ⟨x, H1, I1, rx, a, C, dd, fs, v, rfl, ha, ⟨T, hno⟩, hd, l, q⟩ := hh
    obtain rfl : u = Value.ref a := rx
    obtain ⟨⟨oe, vs, hget, h1, h2, h3⟩, _, _⟩ := I1.hok a _ ha
    obtain ⟨mA, hns, hr⟩ := I1.hok dd _ hd
    obtain ⟨od, ho, hl⟩ := lookIn_ns hns
    obtain ⟨u, hu, ru⟩ := RelO.some_of (v := v) (o := mA n) (by rw [← l]; exact hr n)
    have J : PySem.W.InstAt s1.heap a oe C (some od) := ⟨hget, h1, by unfold PySem.W.notCls; rw [h3] <;> rfl, by rw [h2]; exact ho⟩
    exact HandSPX.exc_get I1.kIn J T.ga T.gg T.exC (PySem.W.findObj_own T.hdC hno rfl (by rw [hl, hu])) (handed_of ru) ⟨v, H1, I1.tok _, ru, q⟩
end
end Dv
namespace Dv
open PySem PySem.Spec L2
abbrev top (i : Nat) : Stmt := PySem.Challenge.pw_wholedrift_k01_constants_and_errors.main.body.getD i (.Pass ⟨0, 0, 0, 0⟩)
abbrev st_law_seed : Stmt := top 31
abbrev N_law_seed : List Str := ["_law_script", "_law_spot", "_law_state", "_law_cell"]
abbrev ps_law_seed : List Str := ["_law_script", "_law_spot"]
theorem fs_law_seed : FnScope N_law_seed ps_law_seed (defScope st_law_seed) := ⟨rfl, rfl, rfl, by decide +kernel, rfl, by decide +kernel, by decide +kernel⟩
abbrev st_law_pool : Stmt := top 32
abbrev N_law_pool : List Str := ["_law_cell"]
abbrev ps_law_pool : List Str := ["_law_cell"]
theorem fs_law_pool : FnScope N_law_pool ps_law_pool (defScope st_law_pool) := ⟨rfl, rfl, rfl, by decide +kernel, rfl, by decide +kernel, by decide +kernel⟩
abbrev st_law_draw : Stmt := top 33
abbrev N_law_draw : List Str := ["_law_pool_here", "_law_many", "_law_digit", "_law_state"]
abbrev ps_law_draw : List Str := ["_law_pool_here", "_law_many"]
theorem fs_law_draw : FnScope N_law_draw ps_law_draw (defScope st_law_draw) := ⟨rfl, rfl, rfl, by decide +kernel, rfl, by decide +kernel, by decide +kernel⟩
abbrev st_law_pick : Stmt := top 34
abbrev N_law_pick : List Str := ["_law_pool_here", "_law_things"]
abbrev ps_law_pick : List Str := ["_law_pool_here", "_law_things"]
theorem fs_law_pick : FnScope N_law_pick ps_law_pick (defScope st_law_pick) := ⟨rfl, rfl, rfl, by decide +kernel, rfl, by decide +kernel, by decide +kernel⟩
abbrev st_law_odd : Stmt := top 35
abbrev N_law_odd : List Str := ["_law_pool_here", "_law_many", "_law_menu"]
abbrev ps_law_odd : List Str := ["_law_pool_here"]
theorem fs_law_odd : FnScope N_law_odd ps_law_odd (defScope st_law_odd) := ⟨rfl, rfl, rfl, by decide +kernel, rfl, by decide +kernel, by decide +kernel⟩
section
variable {P : Program} {w : World} {K : PySem.W.Frag} {mg : Str → Option Value} {base : Heap}
def sp_seed : DSp := fun ds M Q _ => ∃ ns i, ds = [.scr ns, .int i] ∧ 0 ≤ i ∧ ∀ n : Int, Q (.int n) M
theorem ok_seed {f : Addr} {fd : FuncData} (DD : Dn K mg "_law_seed" "_law_seed" st_law_seed ps_law_seed f fd) (n_len : mg "len" = none) (n_int : mg "int" = none) : Cal P w K mg base 1 "_law_seed" f fd ps_law_seed sp_seed := by
  refine cal_of 0 DD fs_law_seed (fun ds M Q E h => ?_) fun cdv A outer s H E0 R F ds M Q E rm hG tk h => ?_
  · obtain ⟨ns, i, rfl, _⟩ := h; rfl
  · have hu := hu_room rm
    have nd := fs_law_seed.nd
    refine ⟨_, (pds_cons (pd_ifS (pdt_cmp op_lt o2_lt (pd_var 1) (pd_callB call_lenD rfl n_len (by rfl) (pda_cons (pd_var 0) pda_nil)) (nomark _)) (pds_one (pd_ret (pd_ix ix_seq o2_ix (pd_var 0) (pd_var 1) (fun _ _ => rfl)))) pds_nil)
      (pds_cons (pd_set 2 nd (pd_op op_addD o2_add (pd_op op_mulA o2_mul pd_int (pd_op op_addD o2_add (pd_var 1) pd_int)) pd_int))
      (pds_cons (pd_for (passes_of rfl) rfl (pdi_list (pd_slice (pd_var 0) pdo_none (pdo_some pd_int))) (pdg_name 3 nd) (pds_one (pd_set 2 nd (pd_op op_mod o2_mod (pd_callTy call_intD rfl n_int (by rfl) (pda_cons (pd_op op_addD o2_add (pd_op op_mulA o2_mul (pd_var 2) pd_int) (pd_var 3)) pda_nil)) pd_int))))
      (pds_one (pd_ret (pd_var 2)))))), ?_⟩
    obtain ⟨ns, i, rfl, h0, q⟩ := h
    refine ⟨fun hlt => ?_, fun hge => ?_⟩
    · obtain ⟨n, hn, _⟩ := atI_in (xs := ns) h0 (of_decide_eq_true hlt)
      exact ⟨n, hn, q n⟩
    · refine ⟨cmL (by decide) (by decide), ?_⟩
      refine loop_inv (fun rest ds M' => M' = M ∧ (∀ d ∈ rest, ∃ n, d = .int n) ∧ ∃ (st : Int) (c : Option D), ds = [some (.scr ns), some (.int i), some (.int st), c]) ?_ ?_ _ _ _ ?_
      · rintro ds M' ⟨rfl, _, st, c, rfl⟩
        exact q st
      · rintro x rest ds M' ⟨rfl, hx, st, c, rfl⟩ go
        obtain ⟨n, rfl⟩ := hx x List.mem_cons_self
        exact ⟨cmR (by decide) (by decide), (by decide : (0 : Int) < 2147483629), go _ _ ⟨rfl, fun d m => hx d (List.mem_cons_of_mem _ m), _, _, rfl⟩⟩
      · exact ⟨rfl, cut_all ints_all, _, _, rfl⟩
def sp_pool : DSp := fun ds M Q _ => ∃ c : Int, ds = [.int c] ∧ ∀ p M', M p = none → Go p M M' → Q (.ref p) M'
theorem ok_pool {f : Addr} {fd : FuncData} (DD : Dn K mg "_law_pool" "_law_pool" st_law_pool ps_law_pool f fd) (n_int : mg "int" = none) (n_abs : mg "abs" = none) : Cal P w K mg base 1 "_law_pool" f fd ps_law_pool sp_pool := by
  refine cal_of 0 DD fs_law_pool (fun ds M Q E h => ?_) fun cdv A outer s H E0 R F ds M Q E rm hG tk h => ?_
  · obtain ⟨c, rfl, _⟩ := h; rfl
  · have hu := hu_room rm
    have nd := fs_law_pool.nd
    refine ⟨_, (pds_one (pd_ret (pd_lstM (pda_cons (pd_op op_mod o2_mod (pd_callTy call_intD rfl n_int (by rfl) (pda_cons (pd_var 0) pda_nil)) pd_int) (pda_cons (pd_if (pdt_cmp op_ge o2_ge (pd_callB call_absD rfl n_abs (by rfl) (pda_cons (pd_var 0) pda_nil)) (pd_op op_pow o2_pow pd_int pd_int) (nomark _)) (pd_callB call_absD rfl n_abs (by rfl) (pda_cons (pd_var 0) pda_nil)) pd_int) (pda_cons pd_int pda_nil)))))), ?_⟩
    obtain ⟨c, rfl, q⟩ := h
    have m1 : 0 ≤ c % 2147483629 := Int.emod_nonneg _ (by decide)
    have m2 : c % 2147483629 < 2147483648 := Int.lt_trans (Int.emod_lt_of_pos _ (by decide)) (by decide)
    refine ⟨(by decide : (0 : Int) < 2147483629), cp10 (by decide) (by decide), fun hlt => ?_, fun hge => ?_⟩
    · refine ⟨small_le (n := 3) (by decide), fun p n => q p _ n ⟨⟨_, _, _, mup_same, m1, m2, ?_⟩, fun r o z e => by rw [mup_ne z]; exact e⟩⟩
      split <;> omega
    · exact ⟨small_le (n := 3) (by decide), fun p n => q p _ n ⟨⟨_, _, _, mup_same, m1, m2, Int.le_refl _⟩, fun r o z e => by rw [mup_ne z]; exact e⟩⟩
def sp_draw : DSp := fun ds M Q _ => ∃ p m, ds = [.ref p, .int m] ∧ Pool M p ∧ 0 < m ∧ m < 2 ^ 64 ∧ ∀ (r : Int) M', 0 ≤ r → r < m → Go p M M' → Q (.int r) M'
theorem ok_draw {f : Addr} {fd : FuncData} (DD : Dn K mg "_law_draw" "_law_draw" st_law_draw ps_law_draw f fd) (n_int : mg "int" = none) (n_divmod : mg "divmod" = none) : Cal P w K mg base 1 "_law_draw" f fd ps_law_draw sp_draw := by
  refine cal_of 0 DD fs_law_draw (fun ds M Q E h => ?_) fun cdv A outer s H E0 R F ds M Q E rm hG tk h => ?_
  · obtain ⟨p, m, rfl, _⟩ := h; rfl
  · have hu := hu_room rm
    have nd := fs_law_draw.nd
    refine ⟨_, (pds_cons (pd_asg (pd_op op_addD o2_add (pd_ix ix_seq o2_ix (pd_var 0) pd_int (fun _ _ => rfl)) pd_int) (pdg_sub (pd_var 0) pd_int set_list s3_set))
      (pds_cons (pd_ifS (pdt_cmp op_gt o2_gt (pd_ix ix_seq o2_ix (pd_var 0) pd_int (fun _ _ => rfl)) pd_int (nomark _)) (pds_cons (pd_asg (pd_callB call_divmodD rfl n_divmod (by rfl) (pda_cons (pd_ix ix_seq o2_ix (pd_var 0) pd_int (fun _ _ => rfl)) (pda_cons (pd_var 1) pda_nil))) (pdg_tup rfl (pdgs_cons (pdg_sub (pd_var 0) pd_int set_list s3_set) (pdgs_cons (pdg_name 2 nd) pdgs_nil))))
      (pds_one (pd_ret (pd_var 2)))) pds_nil)
      (pds_cons (pd_set 3 nd (pd_callTy call_intD rfl n_int (by rfl) (pda_cons (pd_ix ix_seq o2_ix (pd_var 0) pd_int (fun _ _ => rfl)) pda_nil)))
      (pds_cons (pd_set 3 nd (pd_op op_mod o2_mod (pd_callTy call_intD rfl n_int (by rfl) (pda_cons (pd_op op_addD o2_add (pd_op op_addD o2_add (pd_op op_mulA o2_mul (pd_var 3) (pd_op op_addD o2_add (pd_op op_mod o2_mod (pd_callTy call_intD rfl n_int (by rfl) (pda_cons (pd_var 3) pda_nil)) pd_int) pd_int)) (pd_op op_mulA o2_mul pd_int (pd_ix ix_seq o2_ix (pd_var 0) pd_int (fun _ _ => rfl)))) pd_int) pda_nil)) pd_int))
      (pds_cons (pd_asg (pd_op op_mod o2_mod (pd_callTy call_intD rfl n_int (by rfl) (pda_cons (pd_op op_addD o2_add (pd_op op_mulA o2_mul (pd_var 3) pd_int) (pd_op op_mulA o2_mul pd_int (pd_ix ix_seq o2_ix (pd_var 0) pd_int (fun _ _ => rfl)))) pda_nil)) pd_int) (pdg_sub (pd_var 0) pd_int set_list s3_set))
      (pds_one (pd_ret (pd_op op_mod o2_mod (pd_callTy call_intD rfl n_int (by rfl) (pda_cons (pd_op op_fdivW o2_fdv (pd_ix ix_seq o2_ix (pd_var 0) pd_int (fun _ _ => rfl)) pd_int) pda_nil)) (pd_var 1))))))))), ?_⟩
    obtain ⟨p, m, rfl, ⟨a, b, c, e, ha, hb, hc⟩, m0, m64, q⟩ := h
    have ix0 : ∀ x y z : D, atI [x, y, z] 0 = some x := fun _ _ _ => rfl
    have ix1 : ∀ x y z : D, atI [x, y, z] 1 = some y := fun _ _ _ => rfl
    have ix2 : ∀ x y z : D, atI [x, y, z] 2 = some z := fun _ _ _ => rfl
    refine ⟨_, _, e, rfl, _, 2, e, rfl, ?_⟩
    refine ⟨_, _, mup_same, rfl, fun hpos => ?_, fun hneg => ?_⟩
    · refine ⟨_, _, mup_same, rfl, cdp m0 m64, rfl, _, 1, mup_same, rfl, ?_⟩
      refine q _ _ (Int.emod_nonneg _ (by omega)) (Int.emod_lt_of_pos _ m0) ?_
      rw [mup_mup]
      exact Pool.set ha hb (Int.ediv_nonneg hc (by omega))
    · refine ⟨_, _, mup_same, rfl, ?_⟩
      refine ⟨(by decide : (0 : Int) < 7919), cmL (by omega) (by omega), _, _, mup_same, rfl, cmL (by decide) (by decide), (by decide : (0 : Int) < 2147483629), ?_⟩
      refine ⟨cmR (by decide) (by decide), _, _, mup_same, rfl, cmL (by decide) (by decide), (by decide : (0 : Int) < 2147483587), _, 0, mup_same, rfl, ?_⟩
      refine ⟨_, _, mup_same, rfl, cdw (by decide) (by decide), m0, ?_⟩
      refine q _ _ (Int.emod_nonneg _ (by omega)) (Int.emod_lt_of_pos _ m0) ?_
      rw [mup_mup]
      exact Pool.set (Int.emod_nonneg _ (by decide)) (Int.lt_trans (Int.emod_lt_of_pos _ (by decide)) (by decide)) hc
def sp_pick : DSp := fun ds M Q _ => ∃ p xs, ds = [.ref p, .lst xs] ∧ Pool M p ∧ xs ≠ [] ∧ xs.length < 1000000 ∧ ∀ d ∈ xs, ∀ M', Go p M M' → Q d M'
theorem ok_pick {f fdr : Addr} {fd fdd : FuncData} (DD : Dn K mg "_law_pick" "_law_pick" st_law_pick ps_law_pick f fd) (n_len : mg "len" = none) (c_law_draw : Cal P w K mg base 1 "_law_draw" fdr fdd ps_law_draw sp_draw) : Cal P w K mg base 2 "_law_pick" f fd ps_law_pick sp_pick := by
  refine cal_of 1 DD fs_law_pick (fun ds M Q E h => ?_) fun cdv A outer s H E0 R F ds M Q E rm hG tk h => ?_
  · obtain ⟨p, xs, rfl, _⟩ := h; rfl
  · have hu := hu_room rm
    have nd := fs_law_pick.nd
    refine ⟨_, (pds_one (pd_ret (pd_ix ix_seq o2_ix (pd_var 1) (pd_cal c_law_draw rm (by decide) hG takes_no (pda_cons (pd_var 0) (pda_cons (pd_callB call_lenD rfl n_len (by rfl) (pda_cons (pd_var 1) pda_nil)) pda_nil))) (fun _ _ => rfl)))), ?_⟩
    obtain ⟨p, xs, rfl, hp, ne, sm, q⟩ := h
    have l : 0 < xs.length := List.length_pos_iff.mpr ne
    refine ⟨_, _, rfl, hp, by omega, by omega, fun r M' h0 h1 g => ?_⟩
    obtain ⟨d, ed, md⟩ := atI_in (xs := xs) h0 h1
    exact ⟨d, ed, q d md M' g⟩
def sp_odd : DSp := fun ds M Q _ => ∃ p, ds = [.ref p] ∧ Pool M p ∧ ∀ d M', Odd d → Go p M M' → Q d M'
theorem ok_odd {f fdr fpi : Addr} {fd fdd fdp : FuncData} (DD : Dn K mg "_law_odd" "_law_odd" st_law_odd ps_law_odd f fd) (n_str : mg "str" = none) (c_law_draw : Cal P w K mg base 1 "_law_draw" fdr fdd ps_law_draw sp_draw)
    (c_law_pick : Cal P w K mg base 2 "_law_pick" fpi fdp ps_law_pick sp_pick) : Cal P w K mg base 3 "_law_odd" f fd ps_law_odd sp_odd := by
  refine cal_of 2 DD fs_law_odd (fun ds M Q E h => ?_) fun cdv A outer s H E0 R F ds M Q E rm hG tk h => ?_
  · obtain ⟨p, rfl, _⟩ := h; rfl
  · have hu := hu_room rm
    have nd := fs_law_odd.nd
    refine ⟨_, (pds_cons (pd_set 1 nd (pd_op op_sub o2_sub (pd_cal c_law_draw rm (by decide) hG takes_no (pda_cons (pd_var 0) (pda_cons (pd_op op_pow o2_pow pd_int pd_int) pda_nil))) pd_int))
      (pds_cons (pd_set 2 nd (pd_lst (pda_cons pd_non (pda_cons pd_int (pda_cons pd_int (pda_cons pd_bl (pda_cons pd_bl (pda_cons pd_str (pda_cons pd_str (pda_cons pd_str (pda_cons (pd_tup pda_nil) (pda_cons (pd_tup (pda_cons pd_str (pda_cons pd_int pda_nil))) (pda_cons (pd_lst (pda_cons pd_int pda_nil)) (pda_cons (pd_lst pda_nil) (pda_cons pd_dct0 (pda_cons (pd_dct1 (fun _ => pd_str) (fun _ => (pd_tup (pda_cons pd_int pda_nil)))) (pda_cons (pd_un un_neg o1_neg pd_int) (pda_cons (pd_op op_pow o2_pow pd_int pd_int) pda_nil))))))))))))))))))
      (pds_cons (pd_set 2 nd (pd_op op_addD o2_add (pd_var 2) (pd_lst (pda_cons (pd_tup (pda_cons pd_str (pda_cons pd_non (pda_cons (pd_lst (pda_cons pd_int pda_nil)) pda_nil)))) (pda_cons (pd_var 1) (pda_cons (pd_callTy call_strD rfl n_str (by rfl) (pda_cons (pd_var 1) pda_nil)) (pda_cons (pd_tup (pda_cons (pd_var 1) pda_nil)) (pda_cons (pd_tup (pda_cons (pd_tup (pda_cons pd_str pda_nil)) (pda_cons (pd_tup pda_nil) pda_nil))) (pda_cons (pd_lst (pda_cons (pd_lst pda_nil) (pda_cons (pd_lst (pda_cons pd_non pda_nil)) pda_nil))) (pda_cons pd_int (pda_cons pd_str (pda_cons (pd_tup (pda_cons (pd_tup pda_nil) (pda_cons (pd_lst pda_nil) (pda_cons pd_dct0 pda_nil)))) pda_nil))))))))))))
      (pds_one (pd_ret (pd_cal c_law_pick rm (by decide) hG takes_no (pda_cons (pd_var 0) (pda_cons (pd_var 2) pda_nil)))))))), ?_⟩
    obtain ⟨p, rfl, hp, q⟩ := h
    refine ⟨cp10 (by decide) (by decide), _, _, rfl, hp, by decide, by decide, fun r M' h0 h1 g => ?_⟩
    have b1 : (-1000000 : Int) ≤ r - 400000 := by omega
    have b2 : r - 400000 ≤ 1000000 := by have : r < 1000000 := h1; omega
    have l1 : (r - 400000).natAbs.log2 < 1920 := by
      have z : (r - 400000).natAbs < 10 ^ 50 := by rw [e50]; omega
      have := log2_small z
      omega
    refine ⟨sl 0, sl 2, sl 1, sl 0, sl 1, cp10 (by decide) (by decide), sl 16, ?_⟩
    refine ⟨sl 1, sl 3, l1, sl 1, sl 1, sl 0, sl 2, sl 0, sl 1, sl 2, sl 0, sl 0, sl 3, sl 9, sl 25, ?_⟩
    refine ⟨_, _, rfl, g.pool, by simp, by show 25 < 1000000; decide, fun d md M2 g2 => q d M2 (odd_menu b1 b2 d md) (g.trans g2)⟩
end

abbrev st_law_valued : Stmt := top 36
abbrev N_law_valued : List Str := ["_law_k", "_law_thing", "_law_by_position"]
abbrev ps_law_valued : List Str := ["_law_k", "_law_thing", "_law_by_position"]
theorem fs_law_valued : FnScope N_law_valued ps_law_valued (defScope st_law_valued) := ⟨rfl, rfl, rfl, by decide +kernel, rfl, by decide +kernel, by decide +kernel⟩
abbrev st_law_indexed : Stmt := top 37
abbrev N_law_indexed : List Str := ["_law_k", "_law_thing", "_law_by_position"]
abbrev ps_law_indexed : List Str := ["_law_k", "_law_thing", "_law_by_position"]
theorem fs_law_indexed : FnScope N_law_indexed ps_law_indexed (defScope st_law_indexed) := ⟨rfl, rfl, rfl, by decide +kernel, rfl, by decide +kernel, by decide +kernel⟩
abbrev st_law_sorts : Stmt := top 38
abbrev N_law_sorts : List Str := ["_law_e", "_law_found"]
abbrev ps_law_sorts : List Str := ["_law_e"]
theorem fs_law_sorts : FnScope N_law_sorts ps_law_sorts (defScope st_law_sorts) := ⟨rfl, rfl, rfl, by decide +kernel, rfl, by decide +kernel, by decide +kernel⟩
abbrev st_law_bases : Stmt := top 39
abbrev N_law_bases : List Str := ["_law_e", "_law_found"]
abbrev ps_law_bases : List Str := ["_law_e"]
theorem fs_law_bases : FnScope N_law_bases ps_law_bases (defScope st_law_bases) := ⟨rfl, rfl, rfl, by decide +kernel, rfl, by decide +kernel, by decide +kernel⟩
abbrev st_law_is_right : Stmt := top 40
abbrev N_law_is_right : List Str := ["_law_k", "_law_thing", "_law_by_position", "_law_about_value", "_law_e", "_law_group", "_law_at", "_law_held"]
abbrev ps_law_is_right : List Str := ["_law_k", "_law_thing", "_law_by_position"]
theorem fs_law_is_right : FnScope N_law_is_right ps_law_is_right (defScope st_law_is_right) := ⟨rfl, rfl, rfl, by decide +kernel, rfl, by decide +kernel, by decide +kernel⟩
abbrev st_law_right : Stmt := top 41
abbrev N_law_right : List Str := ["_law_pool_here", "_law_k", "_law_thing"]
abbrev ps_law_right : List Str := ["_law_pool_here"]
theorem fs_law_right : FnScope N_law_right ps_law_right (defScope st_law_right) := ⟨rfl, rfl, rfl, by decide +kernel, rfl, by decide +kernel, by decide +kernel⟩
abbrev st_law : Stmt := top 42
abbrev N_law : List Str := ["_law_script", "_law_spot"]
abbrev ps_law : List Str := ["_law_script"]
theorem fs_law : FnScope N_law ps_law (defScope st_law) := ⟨rfl, rfl, rfl, by decide +kernel, rfl, by decide +kernel, by decide +kernel⟩
end Dv
namespace Dv
open PySem PySem.Spec L2
section
variable {P : Program} {w : World} {K : PySem.W.Frag} {mg : Str → Option Value} {base : Heap}
structure Lay (n : Nat) (d : D) : Prop where
  pl : plain d = true
  cl : (pOf d).canLay0 = true
  dp : (pOf d).depth ≤ n
theorem Lay.bl {n : Nat} (b : Bool) : Lay n (.bl b) := ⟨rfl, rfl, Nat.zero_le _⟩
theorem Lay.int {n : Nat} (i : Int) : Lay n (.int i) := ⟨rfl, rfl, Nat.zero_le _⟩
theorem Lay.str {n : Nat} {x : Str} (h : Sg x) : Lay n (.str x) := by
  refine ⟨rfl, ?_, Nat.zero_le _⟩
  simp only [pOf, PyData.canLay0, PyData.strOk]
  rw [← Array.all_toList, List.all_eq_true]
  intro c m
  exact decide_eq_true (h c m)
theorem layL {n : Nat} : ∀ xs : List D, (∀ d ∈ xs, Lay n d) → plainL xs = true ∧ PyData.canLayAll0 (pOfL xs) = true ∧ PyData.depthAll (pOfL xs) ≤ n
  | [], _ => ⟨rfl, rfl, Nat.zero_le _⟩
  | d :: xs, h => by
    obtain ⟨a, b, c⟩ := layL xs fun e m => h e (List.mem_cons_of_mem _ m)
    have hd := h d List.mem_cons_self
    refine ⟨?_, ?_, ?_⟩
    · simp only [plainL, hd.pl, a, Bool.and_self]
    · simp only [pOfL, PyData.canLayAll0, hd.cl, b, Bool.and_self]
    · simp only [pOfL, PyData.depthAll]
      exact Nat.max_le.mpr ⟨hd.dp, c⟩
theorem Lay.lst {n : Nat} {xs : List D} (h : ∀ d ∈ xs, Lay n d) : Lay (n + 1) (.lst xs) := by
  obtain ⟨a, b, c⟩ := layL xs h
  refine ⟨?_, ?_, ?_⟩
  · simpa only [plain] using a
  · simpa only [pOf, PyData.canLay0] using b
  · simp only [pOf, PyData.depth]; omega
theorem Lay.dt {n : Nat} {d : D} (h : Lay n d) (hn : n ≤ 64) : Dt d := ⟨h.pl, by unfold SeqAt.shaped; rw [h.cl, Bool.true_and]; exact decide_eq_true (Nat.le_trans h.dp hn)⟩
def grpE (k : Nat) : Nat := if k < 16 then 0 else if k < 18 then 1 else 2
def kitsB (K : PySem.W.Frag) (l : List Addr) : Bool := (List.range 22).all fun i => (List.range 22).all fun j => decide (PySem.W.kitOne K (.ref (l.getD i 0)) (.ref (l.getD j 0)) = some (decide (i = j)))
def basesB (K : PySem.W.Frag) (l bs : List Addr) : Bool := (List.range 22).all fun i => (List.range 3).all fun b => decide (PySem.W.kitOne K (.ref (l.getD i 0)) (.ref (bs.getD b 0)) = some (decide (grpE i = b)))
def kindsB (K : PySem.W.Frag) (l : List Addr) (bs : List String) : Bool := (List.range 22).all fun i => (List.range 3).all fun b => decide (PySem.W.kitOne K (.ref (l.getD i 0)) (.type (bs.getD b "")) = some (decide (grpE i = b)))
def excB (K : PySem.W.Frag) (C : Addr) : Bool := xfB K C && (decide (PySem.W.findIn K (.ref C) "__class__" = some (some (.builtin "object.__class__"))) && decide (PySem.W.mroIn K C (.type "object") = some true))
def excsB (K : PySem.W.Frag) (l : List Addr) : Bool := (List.range 22).all fun i => excB K (l.getD i 0)
theorem all_at {n : Nat} {p : Nat → Bool} (h : (List.range n).all p = true) {i : Nat} (hi : i < n) : p i = true := List.all_eq_true.mp h i (List.mem_range.mpr hi)
theorem exc_of {K : PySem.W.Frag} {C : Addr} (h : excB K C = true) (h1 : PySem.W.specialIn K (.builtin "object.__class__") "__get__" = some (some (.builtin "getset_descriptor.__get__"))) (h2 : PySem.W.takesIn K (.builtin "object.__class__") = some true) : ExcC K C := by
  obtain ⟨a, b⟩ := Bool.and_eq_true_iff.mp h
  obtain ⟨b, c⟩ := Bool.and_eq_true_iff.mp b
  have x := xfB_ok a
  exact ⟨x.ga, x.gg, x.exC, x.hdC, of_decide_eq_true b, h1, h2, of_decide_eq_true c⟩
structure ErS (K : PySem.W.Frag) (CE : Nat → Addr) (CB : Nat → Addr) : Prop where
  ex : ∀ k, k < 22 → ExcC K (CE k)
  ko : ∀ i j, i < 22 → j < 22 → PySem.W.kitOne K (.ref (CE i)) (.ref (CE j)) = some (decide (i = j))
  kb : ∀ i b, i < 22 → b < 3 → PySem.W.kitOne K (.ref (CE i)) (.ref (CB b)) = some (decide (grpE i = b))
  kt : ∀ i b, i < 22 → b < 3 → PySem.W.kitOne K (.ref (CE i)) (.type ((["ValueError", "LookupError", "ArithmeticError"] : List String).getD b "")) = some (decide (grpE i = b))
def VK (k : Nat) : Prop := k < 11 ∨ k = 16 ∨ k = 18
instance (k : Nat) : Decidable (VK k) := inferInstanceAs (Decidable (k < 11 ∨ k = 16 ∨ k = 18))
def IK (k : Nat) : Prop := (11 ≤ k ∧ k < 16) ∨ k = 17 ∨ k = 19 ∨ k = 20 ∨ k = 21
def fldE (k : Nat) : Str := if k < 11 then "given" else if k = 16 then "given" else if k = 18 then "given" else "index"
def ErAt (CE : Nat → Addr) (k : Nat) (x : D) (e : Addr) (M : MH) : Prop := if k = 20 then M e = some (.er (CE 20) none) else ∃ d, M e = some (.er (CE k) (some d)) ∧ M d = some (.xd [(fldE k, x)])
def fldsB (K : PySem.W.Frag) (l : List Addr) : Bool := (List.range 22).all fun k => decide (k = 20) || decide (PySem.W.findIn K (.ref (l.getD k 0)) (fldE k) = some none)
theorem er_new {M : MH} {e d : Addr} {o o2 : MO} (he : M e = none) (hd : M d = none) : Old M (mup (mup M d o) e o2) := fun r u q => by
  have n1 : r ≠ e := fun z => by rw [z, he] at q; cases q
  have n2 : r ≠ d := fun z => by rw [z, hd] at q; cases q
  rw [mup_ne n1, mup_ne n2]
  exact q
def sp_valued (CE : Nat → Addr) : DSp := fun ds M Q _ => ∃ (k : Nat) (x : D) (b : Bool), ds = [.int (k : Nat), x, .bl b] ∧ VK k ∧ ∀ e M', Old M M' → ErAt CE k x e M' → Q (.ref e) M'
theorem ok_valued {f i0 i1 i2 i3 i4 i5 i6 i7 i8 i9 i10 i16 i18 : Addr} {CE : Nat → Addr} {fd : FuncData} (DD : Dn K mg "_law_valued" "_law_valued" st_law_valued ps_law_valued f fd) (e_InvalidName : PySem.ErD.ErrT K mg "InvalidName" "given" (CE 0) i0) (e_InvalidWorth : PySem.ErD.ErrT K mg "InvalidWorth" "given" (CE 1) i1) (e_InvalidRounding : PySem.ErD.ErrT K mg "InvalidRounding" "given" (CE 2) i2) (e_InvalidCharge : PySem.ErD.ErrT K mg "InvalidCharge" "given" (CE 3) i3) (e_InvalidLeast : PySem.ErD.ErrT K mg "InvalidLeast" "given" (CE 4) i4) (e_InvalidText : PySem.ErD.ErrT K mg "InvalidText" "given" (CE 5) i5) (e_InvalidAmount : PySem.ErD.ErrT K mg "InvalidAmount" "given" (CE 6) i6) (e_InvalidNumber : PySem.ErD.ErrT K mg "InvalidNumber" "given" (CE 7) i7) (e_InvalidWish : PySem.ErD.ErrT K mg "InvalidWish" "given" (CE 8) i8) (e_InvalidIndex : PySem.ErD.ErrT K mg "InvalidIndex" "given" (CE 9) i9) (e_NotBook : PySem.ErD.ErrT K mg "NotBook" "given" (CE 10) i10) (e_UnknownName : PySem.ErD.ErrT K mg "UnknownName" "given" (CE 16) i16) (e_OtherLedgers : PySem.ErD.ErrT K mg "OtherLedgers" "given" (CE 18) i18) :
    Cal P w K mg base 1 "_law_valued" f fd ps_law_valued (sp_valued CE) := by
  refine cal_of 0 DD fs_law_valued (fun ds M Q E h => ?_) fun cdv A outer s H E0 R F ds M Q E rm hG tk h => ?_
  · obtain ⟨k, x, b, rfl, _⟩ := h; rfl
  · have hu := hu_room rm
    have nd := fs_law_valued.nd
    refine ⟨_, (pds_cons (pd_ifS (pdt_cmp (op_eqA hu) o2_eq (pd_var 0) pd_int (nomark _)) (pds_one (pd_ret (pd_if (pdt_val (pd_var 2)) (pd_mkE e_InvalidName rm (pda_cons (pd_var 1) pda_nil)) (pd_mkEK e_InvalidName rm (pdk_cons (pd_var 1) pdk_nil))))) pds_nil)
      (pds_cons (pd_ifS (pdt_cmp (op_eqA hu) o2_eq (pd_var 0) pd_int (nomark _)) (pds_one (pd_ret (pd_if (pdt_val (pd_var 2)) (pd_mkE e_InvalidWorth rm (pda_cons (pd_var 1) pda_nil)) (pd_mkEK e_InvalidWorth rm (pdk_cons (pd_var 1) pdk_nil))))) pds_nil)
      (pds_cons (pd_ifS (pdt_cmp (op_eqA hu) o2_eq (pd_var 0) pd_int (nomark _)) (pds_one (pd_ret (pd_if (pdt_val (pd_var 2)) (pd_mkE e_InvalidRounding rm (pda_cons (pd_var 1) pda_nil)) (pd_mkEK e_InvalidRounding rm (pdk_cons (pd_var 1) pdk_nil))))) pds_nil)
      (pds_cons (pd_ifS (pdt_cmp (op_eqA hu) o2_eq (pd_var 0) pd_int (nomark _)) (pds_one (pd_ret (pd_if (pdt_val (pd_var 2)) (pd_mkE e_InvalidCharge rm (pda_cons (pd_var 1) pda_nil)) (pd_mkEK e_InvalidCharge rm (pdk_cons (pd_var 1) pdk_nil))))) pds_nil)
      (pds_cons (pd_ifS (pdt_cmp (op_eqA hu) o2_eq (pd_var 0) pd_int (nomark _)) (pds_one (pd_ret (pd_if (pdt_val (pd_var 2)) (pd_mkE e_InvalidLeast rm (pda_cons (pd_var 1) pda_nil)) (pd_mkEK e_InvalidLeast rm (pdk_cons (pd_var 1) pdk_nil))))) pds_nil)
      (pds_cons (pd_ifS (pdt_cmp (op_eqA hu) o2_eq (pd_var 0) pd_int (nomark _)) (pds_one (pd_ret (pd_if (pdt_val (pd_var 2)) (pd_mkE e_InvalidText rm (pda_cons (pd_var 1) pda_nil)) (pd_mkEK e_InvalidText rm (pdk_cons (pd_var 1) pdk_nil))))) pds_nil)
      (pds_cons (pd_ifS (pdt_cmp (op_eqA hu) o2_eq (pd_var 0) pd_int (nomark _)) (pds_one (pd_ret (pd_if (pdt_val (pd_var 2)) (pd_mkE e_InvalidAmount rm (pda_cons (pd_var 1) pda_nil)) (pd_mkEK e_InvalidAmount rm (pdk_cons (pd_var 1) pdk_nil))))) pds_nil)
      (pds_cons (pd_ifS (pdt_cmp (op_eqA hu) o2_eq (pd_var 0) pd_int (nomark _)) (pds_one (pd_ret (pd_if (pdt_val (pd_var 2)) (pd_mkE e_InvalidNumber rm (pda_cons (pd_var 1) pda_nil)) (pd_mkEK e_InvalidNumber rm (pdk_cons (pd_var 1) pdk_nil))))) pds_nil)
      (pds_cons (pd_ifS (pdt_cmp (op_eqA hu) o2_eq (pd_var 0) pd_int (nomark _)) (pds_one (pd_ret (pd_if (pdt_val (pd_var 2)) (pd_mkE e_InvalidWish rm (pda_cons (pd_var 1) pda_nil)) (pd_mkEK e_InvalidWish rm (pdk_cons (pd_var 1) pdk_nil))))) pds_nil)
      (pds_cons (pd_ifS (pdt_cmp (op_eqA hu) o2_eq (pd_var 0) pd_int (nomark _)) (pds_one (pd_ret (pd_if (pdt_val (pd_var 2)) (pd_mkE e_InvalidIndex rm (pda_cons (pd_var 1) pda_nil)) (pd_mkEK e_InvalidIndex rm (pdk_cons (pd_var 1) pdk_nil))))) pds_nil)
      (pds_cons (pd_ifS (pdt_cmp (op_eqA hu) o2_eq (pd_var 0) pd_int (nomark _)) (pds_one (pd_ret (pd_if (pdt_val (pd_var 2)) (pd_mkE e_NotBook rm (pda_cons (pd_var 1) pda_nil)) (pd_mkEK e_NotBook rm (pdk_cons (pd_var 1) pdk_nil))))) pds_nil)
      (pds_cons (pd_ifS (pdt_cmp (op_eqA hu) o2_eq (pd_var 0) pd_int (nomark _)) (pds_one (pd_ret (pd_if (pdt_val (pd_var 2)) (pd_mkE e_UnknownName rm (pda_cons (pd_var 1) pda_nil)) (pd_mkEK e_UnknownName rm (pdk_cons (pd_var 1) pdk_nil))))) pds_nil)
      (pds_one (pd_ret (pd_if (pdt_val (pd_var 2)) (pd_mkE e_OtherLedgers rm (pda_cons (pd_var 1) pda_nil)) (pd_mkEK e_OtherLedgers rm (pdk_cons (pd_var 1) pdk_nil))))))))))))))))), ?_⟩
    obtain ⟨k, x, b, rfl, hv, q⟩ := h
    have fin : ∀ e d, M e = none → M d = none → d ≠ e → k ≠ 20 → Q (.ref e) (mup (mup M d (.xd [(fldE k, x)])) e (.er (CE k) (some d))) := fun e d he hd ne n => q e _ (er_new he hd) (by unfold ErAt; rw [if_neg n]; exact ⟨d, mup_same, (mup_ne ne).trans mup_same⟩)
    have h1 : k = 0 ∨ k = 1 ∨ k = 2 ∨ k = 3 ∨ k = 4 ∨ k = 5 ∨ k = 6 ∨ k = 7 ∨ k = 8 ∨ k = 9 ∨ k = 10 ∨ k = 16 ∨ k = 18 := by unfold VK at hv; omega
    rcases h1 with rfl | rfl | rfl | rfl | rfl | rfl | rfl | rfl | rfl | rfl | rfl | rfl | rfl
    · refine Br.of_t (by decide) <| ?_
      cases b with
      | false => exact Br.f fun e d he hd ne => fin e d he hd ne (by decide)
      | true => exact Br.t fun e d he hd ne => fin e d he hd ne (by decide)
    · refine Br.of_f (by decide) <| Br.of_t (by decide) <| ?_
      cases b with
      | false => exact Br.f fun e d he hd ne => fin e d he hd ne (by decide)
      | true => exact Br.t fun e d he hd ne => fin e d he hd ne (by decide)
    · refine Br.of_f (by decide) <| Br.of_f (by decide) <| Br.of_t (by decide) <| ?_
      cases b with
      | false => exact Br.f fun e d he hd ne => fin e d he hd ne (by decide)
      | true => exact Br.t fun e d he hd ne => fin e d he hd ne (by decide)
    · refine Br.of_f (by decide) <| Br.of_f (by decide) <| Br.of_f (by decide) <| Br.of_t (by decide) <| ?_
      cases b with
      | false => exact Br.f fun e d he hd ne => fin e d he hd ne (by decide)
      | true => exact Br.t fun e d he hd ne => fin e d he hd ne (by decide)
    · refine Br.of_f (by decide) <| Br.of_f (by decide) <| Br.of_f (by decide) <| Br.of_f (by decide) <| Br.of_t (by decide) <| ?_
      cases b with
      | false => exact Br.f fun e d he hd ne => fin e d he hd ne (by decide)
      | true => exact Br.t fun e d he hd ne => fin e d he hd ne (by decide)
    · refine Br.of_f (by decide) <| Br.of_f (by decide) <| Br.of_f (by decide) <| Br.of_f (by decide) <| Br.of_f (by decide) <| Br.of_t (by decide) <| ?_
      cases b with
      | false => exact Br.f fun e d he hd ne => fin e d he hd ne (by decide)
      | true => exact Br.t fun e d he hd ne => fin e d he hd ne (by decide)
    · refine Br.of_f (by decide) <| Br.of_f (by decide) <| Br.of_f (by decide) <| Br.of_f (by decide) <| Br.of_f (by decide) <| Br.of_f (by decide) <| Br.of_t (by decide) <| ?_
      cases b with
      | false => exact Br.f fun e d he hd ne => fin e d he hd ne (by decide)
      | true => exact Br.t fun e d he hd ne => fin e d he hd ne (by decide)
    · refine Br.of_f (by decide) <| Br.of_f (by decide) <| Br.of_f (by decide) <| Br.of_f (by decide) <| Br.of_f (by decide) <| Br.of_f (by decide) <| Br.of_f (by decide) <| Br.of_t (by decide) <| ?_
      cases b with
      | false => exact Br.f fun e d he hd ne => fin e d he hd ne (by decide)
      | true => exact Br.t fun e d he hd ne => fin e d he hd ne (by decide)
    · refine Br.of_f (by decide) <| Br.of_f (by decide) <| Br.of_f (by decide) <| Br.of_f (by decide) <| Br.of_f (by decide) <| Br.of_f (by decide) <| Br.of_f (by decide) <| Br.of_f (by decide) <| Br.of_t (by decide) <| ?_
      cases b with
      | false => exact Br.f fun e d he hd ne => fin e d he hd ne (by decide)
      | true => exact Br.t fun e d he hd ne => fin e d he hd ne (by decide)
    · refine Br.of_f (by decide) <| Br.of_f (by decide) <| Br.of_f (by decide) <| Br.of_f (by decide) <| Br.of_f (by decide) <| Br.of_f (by decide) <| Br.of_f (by decide) <| Br.of_f (by decide) <| Br.of_f (by decide) <| Br.of_t (by decide) <| ?_
      cases b with
      | false => exact Br.f fun e d he hd ne => fin e d he hd ne (by decide)
      | true => exact Br.t fun e d he hd ne => fin e d he hd ne (by decide)
    · refine Br.of_f (by decide) <| Br.of_f (by decide) <| Br.of_f (by decide) <| Br.of_f (by decide) <| Br.of_f (by decide) <| Br.of_f (by decide) <| Br.of_f (by decide) <| Br.of_f (by decide) <| Br.of_f (by decide) <| Br.of_f (by decide) <| Br.of_t (by decide) <| ?_
      cases b with
      | false => exact Br.f fun e d he hd ne => fin e d he hd ne (by decide)
      | true => exact Br.t fun e d he hd ne => fin e d he hd ne (by decide)
    · refine Br.of_f (by decide) <| Br.of_f (by decide) <| Br.of_f (by decide) <| Br.of_f (by decide) <| Br.of_f (by decide) <| Br.of_f (by decide) <| Br.of_f (by decide) <| Br.of_f (by decide) <| Br.of_f (by decide) <| Br.of_f (by decide) <| Br.of_f (by decide) <| Br.of_t (by decide) <| ?_
      cases b with
      | false => exact Br.f fun e d he hd ne => fin e d he hd ne (by decide)
      | true => exact Br.t fun e d he hd ne => fin e d he hd ne (by decide)
    · refine Br.of_f (by decide) <| Br.of_f (by decide) <| Br.of_f (by decide) <| Br.of_f (by decide) <| Br.of_f (by decide) <| Br.of_f (by decide) <| Br.of_f (by decide) <| Br.of_f (by decide) <| Br.of_f (by decide) <| Br.of_f (by decide) <| Br.of_f (by decide) <| Br.of_f (by decide) <| ?_
      cases b with
      | false => exact Br.f fun e d he hd ne => fin e d he hd ne (by decide)
      | true => exact Br.t fun e d he hd ne => fin e d he hd ne (by decide)
def sp_indexed (CE : Nat → Addr) : DSp := fun ds M Q _ => ∃ (k : Nat) (x : D) (b : Bool), ds = [.int (k : Nat), x, .bl b] ∧ IK k ∧ ∀ e M', Old M M' → ErAt CE k x e M' → Q (.ref e) M'
theorem ok_indexed {f i11 i12 i13 i14 i15 i17 i19 i21 : Addr} {CE : Nat → Addr} {fd : FuncData} (DD : Dn K mg "_law_indexed" "_law_indexed" st_law_indexed ps_law_indexed f fd) (e_InvalidLedgers : PySem.ErD.ErrT K mg "InvalidLedgers" "index" (CE 11) i11) (e_InvalidRules : PySem.ErD.ErrT K mg "InvalidRules" "index" (CE 12) i12) (e_InvalidWay : PySem.ErD.ErrT K mg "InvalidWay" "index" (CE 13) i13) (e_InvalidChanges : PySem.ErD.ErrT K mg "InvalidChanges" "index" (CE 14) i14) (e_InvalidWishes : PySem.ErD.ErrT K mg "InvalidWishes" "index" (CE 15) i15) (e_InUse : PySem.ErD.ErrT K mg "InUse" "index" (CE 17) i17) (e_NotOpen : PySem.ErD.ErrT K mg "NotOpen" "index" (CE 19) i19) (e0_NothingToUndo : Er0 K mg "NothingToUndo" (CE 20)) (e_Broken : PySem.ErD.ErrT K mg "Broken" "index" (CE 21) i21) :
    Cal P w K mg base 1 "_law_indexed" f fd ps_law_indexed (sp_indexed CE) := by
  refine cal_of 0 DD fs_law_indexed (fun ds M Q E h => ?_) fun cdv A outer s H E0 R F ds M Q E rm hG tk h => ?_
  · obtain ⟨k, x, b, rfl, _⟩ := h; rfl
  · have hu := hu_room rm
    have nd := fs_law_indexed.nd
    refine ⟨_, (pds_cons (pd_ifS (pdt_cmp (op_eqA hu) o2_eq (pd_var 0) pd_int (nomark _)) (pds_one (pd_ret (pd_if (pdt_val (pd_var 2)) (pd_mkE e_InvalidLedgers rm (pda_cons (pd_var 1) pda_nil)) (pd_mkEK e_InvalidLedgers rm (pdk_cons (pd_var 1) pdk_nil))))) pds_nil)
      (pds_cons (pd_ifS (pdt_cmp (op_eqA hu) o2_eq (pd_var 0) pd_int (nomark _)) (pds_one (pd_ret (pd_if (pdt_val (pd_var 2)) (pd_mkE e_InvalidRules rm (pda_cons (pd_var 1) pda_nil)) (pd_mkEK e_InvalidRules rm (pdk_cons (pd_var 1) pdk_nil))))) pds_nil)
      (pds_cons (pd_ifS (pdt_cmp (op_eqA hu) o2_eq (pd_var 0) pd_int (nomark _)) (pds_one (pd_ret (pd_if (pdt_val (pd_var 2)) (pd_mkE e_InvalidWay rm (pda_cons (pd_var 1) pda_nil)) (pd_mkEK e_InvalidWay rm (pdk_cons (pd_var 1) pdk_nil))))) pds_nil)
      (pds_cons (pd_ifS (pdt_cmp (op_eqA hu) o2_eq (pd_var 0) pd_int (nomark _)) (pds_one (pd_ret (pd_if (pdt_val (pd_var 2)) (pd_mkE e_InvalidChanges rm (pda_cons (pd_var 1) pda_nil)) (pd_mkEK e_InvalidChanges rm (pdk_cons (pd_var 1) pdk_nil))))) pds_nil)
      (pds_cons (pd_ifS (pdt_cmp (op_eqA hu) o2_eq (pd_var 0) pd_int (nomark _)) (pds_one (pd_ret (pd_if (pdt_val (pd_var 2)) (pd_mkE e_InvalidWishes rm (pda_cons (pd_var 1) pda_nil)) (pd_mkEK e_InvalidWishes rm (pdk_cons (pd_var 1) pdk_nil))))) pds_nil)
      (pds_cons (pd_ifS (pdt_cmp (op_eqA hu) o2_eq (pd_var 0) pd_int (nomark _)) (pds_one (pd_ret (pd_if (pdt_val (pd_var 2)) (pd_mkE e_InUse rm (pda_cons (pd_var 1) pda_nil)) (pd_mkEK e_InUse rm (pdk_cons (pd_var 1) pdk_nil))))) pds_nil)
      (pds_cons (pd_ifS (pdt_cmp (op_eqA hu) o2_eq (pd_var 0) pd_int (nomark _)) (pds_one (pd_ret (pd_if (pdt_val (pd_var 2)) (pd_mkE e_NotOpen rm (pda_cons (pd_var 1) pda_nil)) (pd_mkEK e_NotOpen rm (pdk_cons (pd_var 1) pdk_nil))))) pds_nil)
      (pds_cons (pd_ifS (pdt_cmp (op_eqA hu) o2_eq (pd_var 0) pd_int (nomark _)) (pds_one (pd_ret (pd_mkE0 e0_NothingToUndo))) pds_nil)
      (pds_one (pd_ret (pd_if (pdt_val (pd_var 2)) (pd_mkE e_Broken rm (pda_cons (pd_var 1) pda_nil)) (pd_mkEK e_Broken rm (pdk_cons (pd_var 1) pdk_nil))))))))))))), ?_⟩
    obtain ⟨k, x, b, rfl, hv, q⟩ := h
    have fin : ∀ e d, M e = none → M d = none → d ≠ e → k ≠ 20 → Q (.ref e) (mup (mup M d (.xd [(fldE k, x)])) e (.er (CE k) (some d))) := fun e d he hd ne n => q e _ (er_new he hd) (by unfold ErAt; rw [if_neg n]; exact ⟨d, mup_same, (mup_ne ne).trans mup_same⟩)
    have h1 : k = 11 ∨ k = 12 ∨ k = 13 ∨ k = 14 ∨ k = 15 ∨ k = 17 ∨ k = 19 ∨ k = 20 ∨ k = 21 := by unfold IK at hv; omega
    rcases h1 with rfl | rfl | rfl | rfl | rfl | rfl | rfl | rfl | rfl
    · refine Br.of_t (by decide) <| ?_
      cases b with
      | false => exact Br.f fun e d he hd ne => fin e d he hd ne (by decide)
      | true => exact Br.t fun e d he hd ne => fin e d he hd ne (by decide)
    · refine Br.of_f (by decide) <| Br.of_t (by decide) <| ?_
      cases b with
      | false => exact Br.f fun e d he hd ne => fin e d he hd ne (by decide)
      | true => exact Br.t fun e d he hd ne => fin e d he hd ne (by decide)
    · refine Br.of_f (by decide) <| Br.of_f (by decide) <| Br.of_t (by decide) <| ?_
      cases b with
      | false => exact Br.f fun e d he hd ne => fin e d he hd ne (by decide)
      | true => exact Br.t fun e d he hd ne => fin e d he hd ne (by decide)
    · refine Br.of_f (by decide) <| Br.of_f (by decide) <| Br.of_f (by decide) <| Br.of_t (by decide) <| ?_
      cases b with
      | false => exact Br.f fun e d he hd ne => fin e d he hd ne (by decide)
      | true => exact Br.t fun e d he hd ne => fin e d he hd ne (by decide)
    · refine Br.of_f (by decide) <| Br.of_f (by decide) <| Br.of_f (by decide) <| Br.of_f (by decide) <| Br.of_t (by decide) <| ?_
      cases b with
      | false => exact Br.f fun e d he hd ne => fin e d he hd ne (by decide)
      | true => exact Br.t fun e d he hd ne => fin e d he hd ne (by decide)
    · refine Br.of_f (by decide) <| Br.of_f (by decide) <| Br.of_f (by decide) <| Br.of_f (by decide) <| Br.of_f (by decide) <| Br.of_t (by decide) <| ?_
      cases b with
      | false => exact Br.f fun e d he hd ne => fin e d he hd ne (by decide)
      | true => exact Br.t fun e d he hd ne => fin e d he hd ne (by decide)
    · refine Br.of_f (by decide) <| Br.of_f (by decide) <| Br.of_f (by decide) <| Br.of_f (by decide) <| Br.of_f (by decide) <| Br.of_f (by decide) <| Br.of_t (by decide) <| ?_
      cases b with
      | false => exact Br.f fun e d he hd ne => fin e d he hd ne (by decide)
      | true => exact Br.t fun e d he hd ne => fin e d he hd ne (by decide)
    · exact Br.of_f (by decide) <| Br.of_f (by decide) <| Br.of_f (by decide) <| Br.of_f (by decide) <| Br.of_f (by decide) <| Br.of_f (by decide) <| Br.of_f (by decide) <| Br.of_t (by decide) <| fun e he => q e _ (fun r u z => by have n1 : r ≠ e := (fun y => by rw [y, he] at z; cases z); rw [mup_ne n1]; exact z) mup_same
    · refine Br.of_f (by decide) <| Br.of_f (by decide) <| Br.of_f (by decide) <| Br.of_f (by decide) <| Br.of_f (by decide) <| Br.of_f (by decide) <| Br.of_f (by decide) <| Br.of_f (by decide) <| ?_
      cases b with
      | false => exact Br.f fun e d he hd ne => fin e d he hd ne (by decide)
      | true => exact Br.t fun e d he hd ne => fin e d he hd ne (by decide)
def sp_sorts (CE : Nat → Addr) : DSp := fun ds M Q _ => ∃ (e : Addr) (k : Nat) (x : D), ds = [.ref e] ∧ k < 22 ∧ ErAt CE k x e M ∧ Q (.lst ((List.range 22).map fun i => .bl (decide (k = i)))) M
theorem er_dx {CE : Nat → Addr} {k : Nat} {x : D} {e : Addr} {M : MH} (h : ErAt CE k x e M) : ∃ d, M e = some (.er (CE k) d) ∧ erDx d M := by
  unfold ErAt at h
  split at h
  · rename_i z
    subst z
    exact ⟨none, h, fun dd z => by cases z⟩
  · obtain ⟨d, h1, h2⟩ := h
    exact ⟨some d, h1, fun dd z => by cases z; exact ⟨_, h2⟩⟩
theorem ok_sorts {f : Addr} {CE CB : Nat → Addr} {fd : FuncData} (DD : Dn K mg "_law_sorts" "_law_sorts" st_law_sorts ps_law_sorts f fd) (n_isinstance : mg "isinstance" = none) (es : ErS K CE CB) (v_InvalidName : Gv K mg "InvalidName" (.ref (CE 0))) (v_InvalidWorth : Gv K mg "InvalidWorth" (.ref (CE 1))) (v_InvalidRounding : Gv K mg "InvalidRounding" (.ref (CE 2))) (v_InvalidCharge : Gv K mg "InvalidCharge" (.ref (CE 3))) (v_InvalidLeast : Gv K mg "InvalidLeast" (.ref (CE 4))) (v_InvalidText : Gv K mg "InvalidText" (.ref (CE 5))) (v_InvalidAmount : Gv K mg "InvalidAmount" (.ref (CE 6))) (v_InvalidNumber : Gv K mg "InvalidNumber" (.ref (CE 7))) (v_InvalidWish : Gv K mg "InvalidWish" (.ref (CE 8))) (v_InvalidIndex : Gv K mg "InvalidIndex" (.ref (CE 9))) (v_NotBook : Gv K mg "NotBook" (.ref (CE 10))) (v_InvalidLedgers : Gv K mg "InvalidLedgers" (.ref (CE 11))) (v_InvalidRules : Gv K mg "InvalidRules" (.ref (CE 12))) (v_InvalidWay : Gv K mg "InvalidWay" (.ref (CE 13))) (v_InvalidChanges : Gv K mg "InvalidChanges" (.ref (CE 14))) (v_InvalidWishes : Gv K mg "InvalidWishes" (.ref (CE 15))) (v_UnknownName : Gv K mg "UnknownName" (.ref (CE 16))) (v_InUse : Gv K mg "InUse" (.ref (CE 17))) (v_OtherLedgers : Gv K mg "OtherLedgers" (.ref (CE 18))) (v_NotOpen : Gv K mg "NotOpen" (.ref (CE 19))) (v_NothingToUndo : Gv K mg "NothingToUndo" (.ref (CE 20))) (v_Broken : Gv K mg "Broken" (.ref (CE 21))) :
    Cal P w K mg base 1 "_law_sorts" f fd ps_law_sorts (sp_sorts CE) := by
  refine cal_of 0 DD fs_law_sorts (fun ds M Q E h => ?_) fun cdv A outer s H E0 R F ds M Q E rm hG tk h => ?_
  · obtain ⟨e, k, x, rfl, _⟩ := h; rfl
  · have hu := hu_room rm
    have nd := fs_law_sorts.nd
    refine ⟨_, (pds_cons (pd_set 1 nd (pd_lst (pda_cons (pd_callB call_isVD rfl n_isinstance (by rfl) (pda_cons (pd_var 0) (pda_cons (pd_gv v_InvalidName rfl) pda_nil))) (pda_cons (pd_callB call_isVD rfl n_isinstance (by rfl) (pda_cons (pd_var 0) (pda_cons (pd_gv v_InvalidWorth rfl) pda_nil))) (pda_cons (pd_callB call_isVD rfl n_isinstance (by rfl) (pda_cons (pd_var 0) (pda_cons (pd_gv v_InvalidRounding rfl) pda_nil))) pda_nil)))))
      (pds_cons (pd_set 1 nd (pd_op op_addD o2_add (pd_var 1) (pd_lst (pda_cons (pd_callB call_isVD rfl n_isinstance (by rfl) (pda_cons (pd_var 0) (pda_cons (pd_gv v_InvalidCharge rfl) pda_nil))) (pda_cons (pd_callB call_isVD rfl n_isinstance (by rfl) (pda_cons (pd_var 0) (pda_cons (pd_gv v_InvalidLeast rfl) pda_nil))) (pda_cons (pd_callB call_isVD rfl n_isinstance (by rfl) (pda_cons (pd_var 0) (pda_cons (pd_gv v_InvalidText rfl) pda_nil))) pda_nil))))))
      (pds_cons (pd_set 1 nd (pd_op op_addD o2_add (pd_var 1) (pd_lst (pda_cons (pd_callB call_isVD rfl n_isinstance (by rfl) (pda_cons (pd_var 0) (pda_cons (pd_gv v_InvalidAmount rfl) pda_nil))) (pda_cons (pd_callB call_isVD rfl n_isinstance (by rfl) (pda_cons (pd_var 0) (pda_cons (pd_gv v_InvalidNumber rfl) pda_nil))) (pda_cons (pd_callB call_isVD rfl n_isinstance (by rfl) (pda_cons (pd_var 0) (pda_cons (pd_gv v_InvalidWish rfl) pda_nil))) pda_nil))))))
      (pds_cons (pd_set 1 nd (pd_op op_addD o2_add (pd_var 1) (pd_lst (pda_cons (pd_callB call_isVD rfl n_isinstance (by rfl) (pda_cons (pd_var 0) (pda_cons (pd_gv v_InvalidIndex rfl) pda_nil))) (pda_cons (pd_callB call_isVD rfl n_isinstance (by rfl) (pda_cons (pd_var 0) (pda_cons (pd_gv v_NotBook rfl) pda_nil))) (pda_cons (pd_callB call_isVD rfl n_isinstance (by rfl) (pda_cons (pd_var 0) (pda_cons (pd_gv v_InvalidLedgers rfl) pda_nil))) pda_nil))))))
      (pds_cons (pd_set 1 nd (pd_op op_addD o2_add (pd_var 1) (pd_lst (pda_cons (pd_callB call_isVD rfl n_isinstance (by rfl) (pda_cons (pd_var 0) (pda_cons (pd_gv v_InvalidRules rfl) pda_nil))) (pda_cons (pd_callB call_isVD rfl n_isinstance (by rfl) (pda_cons (pd_var 0) (pda_cons (pd_gv v_InvalidWay rfl) pda_nil))) (pda_cons (pd_callB call_isVD rfl n_isinstance (by rfl) (pda_cons (pd_var 0) (pda_cons (pd_gv v_InvalidChanges rfl) pda_nil))) pda_nil))))))
      (pds_cons (pd_set 1 nd (pd_op op_addD o2_add (pd_var 1) (pd_lst (pda_cons (pd_callB call_isVD rfl n_isinstance (by rfl) (pda_cons (pd_var 0) (pda_cons (pd_gv v_InvalidWishes rfl) pda_nil))) (pda_cons (pd_callB call_isVD rfl n_isinstance (by rfl) (pda_cons (pd_var 0) (pda_cons (pd_gv v_UnknownName rfl) pda_nil))) (pda_cons (pd_callB call_isVD rfl n_isinstance (by rfl) (pda_cons (pd_var 0) (pda_cons (pd_gv v_InUse rfl) pda_nil))) pda_nil))))))
      (pds_cons (pd_set 1 nd (pd_op op_addD o2_add (pd_var 1) (pd_lst (pda_cons (pd_callB call_isVD rfl n_isinstance (by rfl) (pda_cons (pd_var 0) (pda_cons (pd_gv v_OtherLedgers rfl) pda_nil))) (pda_cons (pd_callB call_isVD rfl n_isinstance (by rfl) (pda_cons (pd_var 0) (pda_cons (pd_gv v_NotOpen rfl) pda_nil))) (pda_cons (pd_callB call_isVD rfl n_isinstance (by rfl) (pda_cons (pd_var 0) (pda_cons (pd_gv v_NothingToUndo rfl) pda_nil))) pda_nil))))))
      (pds_one (pd_ret (pd_op op_addD o2_add (pd_var 1) (pd_lst (pda_cons (pd_callB call_isVD rfl n_isinstance (by rfl) (pda_cons (pd_var 0) (pda_cons (pd_gv v_Broken rfl) pda_nil))) pda_nil)))))))))))), ?_⟩
    obtain ⟨e, k, x, rfl, hk, he, q⟩ := h
    obtain ⟨d, hM, hd⟩ := er_dx he
    refine ⟨CE k, d, hM, es.ex k hk, hd, _, es.ko k 0 hk (by decide), ⟨CE k, d, hM, es.ex k hk, hd, _, es.ko k 1 hk (by decide), ⟨CE k, d, hM, es.ex k hk, hd, _, es.ko k 2 hk (by decide), sl 3, ?_⟩⟩⟩
    dsimp only [dName]
    refine ⟨CE k, d, hM, es.ex k hk, hd, _, es.ko k 3 hk (by decide), ⟨CE k, d, hM, es.ex k hk, hd, _, es.ko k 4 hk (by decide), ⟨CE k, d, hM, es.ex k hk, hd, _, es.ko k 5 hk (by decide), sl 3, sl 6, ?_⟩⟩⟩
    dsimp only [dName]
    refine ⟨CE k, d, hM, es.ex k hk, hd, _, es.ko k 6 hk (by decide), ⟨CE k, d, hM, es.ex k hk, hd, _, es.ko k 7 hk (by decide), ⟨CE k, d, hM, es.ex k hk, hd, _, es.ko k 8 hk (by decide), sl 3, sl 9, ?_⟩⟩⟩
    dsimp only [dName]
    refine ⟨CE k, d, hM, es.ex k hk, hd, _, es.ko k 9 hk (by decide), ⟨CE k, d, hM, es.ex k hk, hd, _, es.ko k 10 hk (by decide), ⟨CE k, d, hM, es.ex k hk, hd, _, es.ko k 11 hk (by decide), sl 3, sl 12, ?_⟩⟩⟩
    dsimp only [dName]
    refine ⟨CE k, d, hM, es.ex k hk, hd, _, es.ko k 12 hk (by decide), ⟨CE k, d, hM, es.ex k hk, hd, _, es.ko k 13 hk (by decide), ⟨CE k, d, hM, es.ex k hk, hd, _, es.ko k 14 hk (by decide), sl 3, sl 15, ?_⟩⟩⟩
    dsimp only [dName]
    refine ⟨CE k, d, hM, es.ex k hk, hd, _, es.ko k 15 hk (by decide), ⟨CE k, d, hM, es.ex k hk, hd, _, es.ko k 16 hk (by decide), ⟨CE k, d, hM, es.ex k hk, hd, _, es.ko k 17 hk (by decide), sl 3, sl 18, ?_⟩⟩⟩
    dsimp only [dName]
    refine ⟨CE k, d, hM, es.ex k hk, hd, _, es.ko k 18 hk (by decide), ⟨CE k, d, hM, es.ex k hk, hd, _, es.ko k 19 hk (by decide), ⟨CE k, d, hM, es.ex k hk, hd, _, es.ko k 20 hk (by decide), sl 3, sl 21, ?_⟩⟩⟩
    dsimp only [dName]
    refine ⟨CE k, d, hM, es.ex k hk, hd, _, es.ko k 21 hk (by decide), sl 1, sl 22, ?_⟩
    exact q
def sp_bases (CE : Nat → Addr) : DSp := fun ds M Q _ => ∃ (e : Addr) (k : Nat) (x : D), ds = [.ref e] ∧ k < 22 ∧ ErAt CE k x e M ∧ Q (.lst ((List.range 6).map fun i => .bl (decide (grpE k = i % 3)))) M
theorem ok_bases {f : Addr} {CE CB : Nat → Addr} {fd : FuncData} (DD : Dn K mg "_law_bases" "_law_bases" st_law_bases ps_law_bases f fd) (n_isinstance : mg "isinstance" = none) (n_ValueError : mg "ValueError" = none) (n_LookupError : mg "LookupError" = none) (n_ArithmeticError : mg "ArithmeticError" = none) (es : ErS K CE CB) (v_WrongValue : Gv K mg "WrongValue" (.ref (CB 0))) (v_WrongName : Gv K mg "WrongName" (.ref (CB 1))) (v_NotPossible : Gv K mg "NotPossible" (.ref (CB 2))) :
    Cal P w K mg base 1 "_law_bases" f fd ps_law_bases (sp_bases CE) := by
  refine cal_of 0 DD fs_law_bases (fun ds M Q E h => ?_) fun cdv A outer s H E0 R F ds M Q E rm hG tk h => ?_
  · obtain ⟨e, k, x, rfl, _⟩ := h; rfl
  · have hu := hu_room rm
    have nd := fs_law_bases.nd
    refine ⟨_, (pds_cons (pd_set 1 nd (pd_lst (pda_cons (pd_callB call_isVD rfl n_isinstance (by rfl) (pda_cons (pd_var 0) (pda_cons (pd_gv v_WrongValue rfl) pda_nil))) (pda_cons (pd_callB call_isVD rfl n_isinstance (by rfl) (pda_cons (pd_var 0) (pda_cons (pd_gv v_WrongName rfl) pda_nil))) (pda_cons (pd_callB call_isVD rfl n_isinstance (by rfl) (pda_cons (pd_var 0) (pda_cons (pd_gv v_NotPossible rfl) pda_nil))) pda_nil)))))
      (pds_one (pd_ret (pd_op op_addD o2_add (pd_var 1) (pd_lst (pda_cons (pd_callB call_isVD rfl n_isinstance (by rfl) (pda_cons (pd_var 0) (pda_cons (pd_bltn rfl n_ValueError (by rfl)) pda_nil))) (pda_cons (pd_callB call_isVD rfl n_isinstance (by rfl) (pda_cons (pd_var 0) (pda_cons (pd_bltn rfl n_LookupError (by rfl)) pda_nil))) (pda_cons (pd_callB call_isVD rfl n_isinstance (by rfl) (pda_cons (pd_var 0) (pda_cons (pd_bltn rfl n_ArithmeticError (by rfl)) pda_nil))) pda_nil)))))))), ?_⟩
    obtain ⟨e, k, x, rfl, hk, he, q⟩ := h
    obtain ⟨d, hM, hd⟩ := er_dx he
    have ex := es.ex k hk
    have kb := fun b hb => es.kb k b hk hb
    have kt := fun b hb => es.kt k b hk hb
    refine ⟨CE k, d, hM, ex, hd, _, kb 0 (by decide), CE k, d, hM, ex, hd, _, kb 1 (by decide), CE k, d, hM, ex, hd, _, kb 2 (by decide), sl 3, ?_⟩
    dsimp only [dName]
    refine ⟨CE k, d, hM, ex, hd, _, kt 0 (by decide), CE k, d, hM, ex, hd, _, kt 1 (by decide), CE k, d, hM, ex, hd, _, kt 2 (by decide), sl 3, sl 6, ?_⟩
    exact q
theorem bls_dtE {ds : List D} {bs : List Bool} (e : ds = bs.map D.bl) : Dt (.lst ds) := by
  subst e
  exact (Lay.lst (n := 2) fun d m => by obtain ⟨b, _, rfl⟩ := List.mem_map.mp m; exact .bl b).dt (by decide)
theorem eqv_blsE {ds : List D} {bs : List Bool} (e : ds = bs.map D.bl) : PyData.eqv (pOf (.lst ds)) (pOf (.lst ds)) = true := PySem.SeqAt.eqv_refl _ (SeqAt.canLay_of_shaped (bls_dtE e).sh)
def sp_isright : DSp := fun ds M Q _ => ∃ (k : Nat) (x : D) (b : Bool), ds = [.int (k : Nat), x, .bl b] ∧ k < 22 ∧ Odd x ∧ ∀ M', Old M M' → Q (.bl true) M'
theorem ok_isright {f f1 f2 f3 f4 : Addr} {CE CB : Nat → Addr} {fd d1 d2 d3 d4 : FuncData} (DD : Dn K mg "_law_is_right" "_law_is_right" st_law_is_right ps_law_is_right f fd) (n_range : mg "range" = none) (n_repr : mg "repr" = none) (n_int : mg "int" = none) (es : ErS K CE CB) (xs : ∀ k, k < 22 → k ≠ 20 → XfC K (CE k) ∧ PySem.W.findIn K (.ref (CE k)) (fldE k) = some none)
    (c_law_valued : Cal P w K mg base 1 "_law_valued" f1 d1 ps_law_valued (sp_valued CE)) (c_law_indexed : Cal P w K mg base 1 "_law_indexed" f2 d2 ps_law_indexed (sp_indexed CE)) (c_law_sorts : Cal P w K mg base 1 "_law_sorts" f3 d3 ps_law_sorts (sp_sorts CE)) (c_law_bases : Cal P w K mg base 1 "_law_bases" f4 d4 ps_law_bases (sp_bases CE)) :
    Cal P w K mg base 2 "_law_is_right" f fd ps_law_is_right sp_isright := by
  refine cal_of 1 DD fs_law_is_right (fun ds M Q E h => ?_) fun cdv A outer s H E0 R F ds M Q E rm hG tk h => ?_
  · obtain ⟨k, x, b, rfl, _⟩ := h; rfl
  · have hu := hu_room rm
    have nd := fs_law_is_right.nd
    refine ⟨_, (pds_cons (pd_set 3 nd (pd_or (pd_cmp op_lt o2_lt (pd_var 0) pd_int (nomark _)) (pd_one (pd_cmp op_inA o2_in (pd_var 0) (pd_lst (pda_cons pd_int (pda_cons pd_int pda_nil))) (by rfl)))))
      (pds_cons (pd_set 4 nd (pd_if (pdt_val (pd_var 3)) (pd_cal c_law_valued rm (by decide) hG takes_no (pda_cons (pd_var 0) (pda_cons (pd_var 1) (pda_cons (pd_var 2) pda_nil)))) (pd_cal c_law_indexed rm (by decide) hG takes_no (pda_cons (pd_var 0) (pda_cons (pd_var 1) (pda_cons (pd_var 2) pda_nil))))))
      (pds_cons (pd_set 5 nd (pd_if (pdt_cmp op_lt o2_lt (pd_var 0) pd_int (nomark _)) pd_int (pd_if (pdt_cmp op_lt o2_lt (pd_var 0) pd_int (nomark _)) pd_int pd_int)))
      (pds_cons (pd_ifS (pdt_cmp (op_neA hu) o2_ne (pd_cal c_law_sorts rm (by decide) hG takes_no (pda_cons (pd_var 4) pda_nil)) (pd_lc (own := [("_law_at", 6)]) rfl nd (pdi_range1 rfl n_range (pda_cons pd_int pda_nil)) (blkOk_by (own := [("_law_at", 6)]) (N := N_law_is_right) (sc := defScope st_law_is_right) (by decide +kernel)) (fun _ => tgok_name (by decide)) (fun _ _ _ _ _ => pg_name (i := 6) nd rfl (Or.inl rfl)) (fun _ _ _ _ _ _ => pdts_nil) (fun _ _ _ _ _ _ => (pd_cmp (op_eqA hu) o2_eq (pd_var 6) (pd_var 0) (nomark _)))) (nomark _)) (pds_one (pd_ret pd_bl)) pds_nil)
      (pds_cons (pd_ifS (pdt_cmp (op_neA hu) o2_ne (pd_cal c_law_bases rm (by decide) hG takes_no (pda_cons (pd_var 4) pda_nil)) (pd_lc (own := [("_law_at", 6)]) rfl nd (pdi_range1 rfl n_range (pda_cons pd_int pda_nil)) (blkOk_by (own := [("_law_at", 6)]) (N := N_law_is_right) (sc := defScope st_law_is_right) (by decide +kernel)) (fun _ => tgok_name (by decide)) (fun _ _ _ _ _ => pg_name (i := 6) nd rfl (Or.inl rfl)) (fun _ _ _ _ _ _ => pdts_nil) (fun _ _ _ _ _ _ => (pd_cmp (op_eqA hu) o2_eq (pd_op op_mod o2_mod (pd_callTy call_intD rfl n_int (by rfl) (pda_cons (pd_var 6) pda_nil)) pd_int) (pd_var 5) (nomark _)))) (nomark _)) (pds_one (pd_ret pd_bl)) pds_nil)
      (pds_cons (pd_ifS (pdt_cmp (op_eqA hu) o2_eq (pd_var 0) pd_int (nomark _)) (pds_one (pd_ret pd_bl)) pds_nil)
      (pds_cons (pd_set 7 nd (pd_if (pdt_val (pd_var 3)) (pd_xv (pd_var 4)) (pd_xv (pd_var 4))))
      (pds_one (pd_ret (pd_cmp (op_eqA hu) o2_eq (pd_callB (call_reprD hG hu) rfl n_repr (by rfl) (pda_cons (pd_lst (pda_cons (pd_var 7) pda_nil)) pda_nil)) (pd_callB (call_reprD hG hu) rfl n_repr (by rfl) (pda_cons (pd_lst (pda_cons (pd_var 1) pda_nil)) pda_nil)) (nomark _))))))))))), ?_⟩
    obtain ⟨k, x, b, rfl, hk, ox, q⟩ := h
    have f22 : ((k : Nat) : Int).natAbs < 10 ^ 50 := Nat.lt_of_le_of_lt (by omega : ((k : Nat) : Int).natAbs ≤ 22) (by decide +kernel)
    refine asg_join (fun y M' => M' = M ∧ y = .bl (decide (VK k))) (fun Q' kk => ?_) ?_
    · by_cases h1 : k < 11
      · exact Br.of_t (decide_eq_true (by omega)) (by have z := kk (.bl true) M ⟨rfl, by rw [show decide (VK k) = true from decide_eq_true (.inl h1)]⟩; exact z)
      · refine Br.of_f (decide_eq_false (by omega)) ⟨sl 2, ?_⟩
        refine ⟨rfl, rfl, ?_⟩
        have z := kk (.bl (decide (VK k))) M ⟨rfl, rfl⟩
        have w : ([D.int 16, D.int 18].any fun d => eqD d (.int (k : Nat))) = decide (VK k) := by
          show ((decide ((16 : Int) = (k : Nat))) || ((decide ((18 : Int) = (k : Nat))) || false)) = _
          rw [Bool.or_false, ← Bool.decide_or]
          exact decide_eq_decide.mpr (by unfold VK; omega)
        rw [← w] at z
        exact z
    rintro y M1 ⟨rfl, rfl⟩
    dsimp only [dName]
    refine asg_join (fun y M' => Old M1 M' ∧ ∃ e, y = .ref e ∧ ErAt CE k x e M') (fun Q' kk => ?_) ?_
    · by_cases hv : VK k
      · exact Br.of_t (decide_eq_true hv) ⟨k, x, b, rfl, hv, fun e M' o he => kk _ _ ⟨o, e, rfl, he⟩⟩
      · exact Br.of_f (decide_eq_false hv) ⟨k, x, b, rfl, by unfold VK at hv; unfold IK; omega, fun e M' o he => kk _ _ ⟨o, e, rfl, he⟩⟩
    rintro y M2 ⟨o2, e, rfl, he⟩
    dsimp only [dName]
    refine asg_join (fun y M' => M' = M2 ∧ y = .int (grpE k : Nat)) (fun Q' kk => ?_) ?_
    · unfold grpE at kk
      by_cases h1 : k < 16
      · rw [if_pos h1] at kk
        exact Br.of_t (decide_eq_true (by omega)) (kk _ _ ⟨rfl, rfl⟩)
      · rw [if_neg h1] at kk
        refine Br.of_f (decide_eq_false (by omega)) ?_
        by_cases h2 : k < 18
        · rw [if_pos h2] at kk
          exact Br.of_t (decide_eq_true (by omega)) (kk _ _ ⟨rfl, rfl⟩)
        · rw [if_neg h2] at kk
          exact Br.of_f (decide_eq_false (by omega)) (kk _ _ ⟨rfl, rfl⟩)
    rintro y M3 ⟨rfl, rfl⟩
    dsimp only [dName]
    refine ⟨e, k, x, rfl, hk, he, ?_⟩
    refine ⟨⟨by decide, by decide⟩, ?_⟩
    refine lc_map (fun i : Nat => D.int (0 + (i : Nat))) (fun i : Nat => D.bl (decide ((0 + (i : Nat) : Int) = (k : Nat)))) (fun i Ky Kn ky => Br.t ky) (List.range 22) (by decide) ?_
    have b1 : (List.range 22).map (fun i : Nat => D.bl (decide ((0 + (i : Nat) : Int) = (k : Nat)))) = (List.range 22).map fun i => D.bl (decide (k = i)) := List.map_congr_left fun i _ => by rw [decide_eq_decide.mpr (by omega : ((0 + (i : Nat) : Int) = (k : Nat)) ↔ k = i)]
    have b2 : (List.range 22).map (fun i => D.bl (decide (k = i))) = ((List.range 22).map fun i => decide (k = i)).map D.bl := by rw [List.map_map]; rfl
    refine ⟨bls_dtE b2, bls_dtE (b1.trans b2), ?_⟩
    rw [b1, eqv_blsE b2]
    refine Br.f ?_
    refine ⟨e, k, x, rfl, hk, he, ?_⟩
    refine ⟨⟨by decide, by decide⟩, ?_⟩
    refine lc_map (fun i : Nat => D.int (0 + (i : Nat))) (fun i : Nat => D.bl (decide ((0 + (i : Nat) : Int) % 3 = (grpE k : Nat)))) (fun i Ky Kn ky => Br.t ⟨(by decide : (0 : Int) < 3), ky⟩) (List.range 6) (by decide) ?_
    have b3 : (List.range 6).map (fun i : Nat => D.bl (decide ((0 + (i : Nat) : Int) % 3 = (grpE k : Nat)))) = (List.range 6).map fun i => D.bl (decide (grpE k = i % 3)) := List.map_congr_left fun i _ => by rw [decide_eq_decide.mpr (by omega : ((0 + (i : Nat) : Int) % 3 = (grpE k : Nat)) ↔ grpE k = i % 3)]
    have b4 : (List.range 6).map (fun i => D.bl (decide (grpE k = i % 3))) = ((List.range 6).map fun i => decide (grpE k = i % 3)).map D.bl := by rw [List.map_map]; rfl
    refine ⟨bls_dtE b4, bls_dtE (b3.trans b4), ?_⟩
    rw [b3, eqv_blsE b4]
    refine Br.f ?_
    by_cases h20 : k = 20
    · exact Br.of_t (decide_eq_true (by omega)) (q _ o2)
    refine Br.of_f (decide_eq_false (by omega)) ?_
    dsimp only [dNext]
    have hE : ∃ d, M3 e = some (.er (CE k) (some d)) ∧ M3 d = some (.xd [(fldE k, x)]) := by
      unfold ErAt at he
      rw [if_neg h20] at he
      exact he
    obtain ⟨d, hM, hd⟩ := hE
    have lk : List.lookup (fldE k) [(fldE k, x)] = some x := by simp [List.lookup]
    refine asg_join (fun y M' => M' = M3 ∧ y = x) (fun Q' kk => ?_) ?_
    · by_cases hv : VK k
      · have f1 : fldE k = "given" := by
          unfold VK at hv
          unfold fldE
          rcases hv with h | h | h
          · rw [if_pos h]
          · rw [if_neg (by omega), if_pos h]
          · rw [if_neg (by omega), if_neg (by omega), if_pos h]
        refine Br.of_t (decide_eq_true hv) ⟨e, CE k, d, _, x, rfl, hM, ?_, hd, ?_, kk _ _ ⟨rfl, rfl⟩⟩
        · have z := xs k hk h20; rw [f1] at z; exact z
        · rw [f1]; simp [List.lookup]
      · have f1 : fldE k = "index" := by
          unfold VK at hv
          unfold fldE
          rw [if_neg (by omega), if_neg (by omega), if_neg (by omega)]
        refine Br.of_f (decide_eq_false hv) ⟨e, CE k, d, _, x, rfl, hM, ?_, hd, ?_, kk _ _ ⟨rfl, rfl⟩⟩
        · have z := xs k hk h20; rw [f1] at z; exact z
        · rw [f1]; simp [List.lookup]
    rintro y M4 ⟨rfl, rfl⟩
    dsimp only [dName]
    have sh : Sh 60 60000 (.lst [y]) := (Sh.lst (all_cons ox.sh all_nil)).mono (by decide) (by show 1 * (2000 + 1) ≤ 60000; decide)
    refine ⟨sl 1, sh, sl 1, sh, ?_⟩
    generalize (pOf (.lst [y])).shown = tx
    have z := q _ o2
    show Q (.bl (decide (tx = tx))) _
    rw [decide_eq_true rfl]
    exact z
def sp_right : DSp := fun ds M Q _ => ∃ p, ds = [.ref p] ∧ Pool M p ∧ ∀ M', Q (.bl true) M'
theorem ok_right {f f1 f2 : Addr} {fd d1 d2 : FuncData} (DD : Dn K mg "_law_right" "_law_right" st_law_right ps_law_right f fd) (n_range : mg "range" = none)
    (c_law_odd : Cal P w K mg base 3 "_law_odd" f1 d1 ps_law_odd sp_odd) (c_law_is_right : Cal P w K mg base 2 "_law_is_right" f2 d2 ps_law_is_right sp_isright) :
    Cal P w K mg base 4 "_law_right" f fd ps_law_right sp_right := by
  refine cal_of 3 DD fs_law_right (fun ds M Q E h => ?_) fun cdv A outer s H E0 R F ds M Q E rm hG tk h => ?_
  · obtain ⟨p, rfl, _⟩ := h; rfl
  · have hu := hu_room rm
    have nd := fs_law_right.nd
    refine ⟨_, (pds_cons (pd_for (passes_of rfl) rfl (pdi_range1 rfl n_range (pda_cons pd_int pda_nil)) (pdg_name 1 nd) (pds_cons (pd_set 2 nd (pd_cal c_law_odd rm (by decide) hG takes_no (pda_cons (pd_var 0) pda_nil)))
      (pds_one (pd_ifS (pdt_w (pdw_or (pdt_not (pdt_val (pd_cal c_law_is_right rm (by decide) hG takes_no (pda_cons (pd_var 1) (pda_cons (pd_var 2) (pda_cons pd_bl pda_nil)))))) (pdw_or1 (pdt_not (pdt_val (pd_cal c_law_is_right rm (by decide) hG takes_no (pda_cons (pd_var 1) (pda_cons (pd_var 2) (pda_cons pd_bl pda_nil))))))))) (pds_one (pd_ret pd_bl)) pds_nil))))
      (pds_one (pd_ret pd_bl))), ?_⟩
    obtain ⟨p, rfl, hp, q⟩ := h
    refine ⟨⟨by decide, by decide⟩, ?_⟩
    refine loop_inv (fun rest ds M' => (∀ d ∈ rest, ∃ i : Nat, d = .int (i : Nat) ∧ i < 22) ∧ (∃ c1 c2, ds = [some (.ref p), c1, c2]) ∧ Pool M' p) ?_ ?_ _ _ _ ⟨fun d h => ?_, ⟨_, _, rfl⟩, hp⟩
    · rintro ds M' ⟨_, ⟨c1, c2, rfl⟩, _⟩
      exact q M'
    · rintro z rest ds M' ⟨hr, ⟨c1, c2, rfl⟩, hp⟩ next
      obtain ⟨i, rfl, hi⟩ := hr z List.mem_cons_self
      refine ⟨p, rfl, hp, fun x M2 ox g2 => ?_⟩
      dsimp only [dName]
      refine ⟨i, x, true, rfl, hi, ox, fun M3 o3 => ?_⟩
      refine Br.f ⟨i, x, false, rfl, hi, ox, fun M4 o4 => ?_⟩
      refine Br.f ?_
      exact next _ _ ⟨fun d m => hr d (List.mem_cons_of_mem _ m), ⟨_, _, rfl⟩, (o4.go (o3.go g2.pool).pool).pool⟩
    · obtain ⟨i, hi, rfl⟩ := List.mem_map.mp h
      have := List.mem_range.mp hi
      exact ⟨i, by rw [Int.zero_add], by omega⟩
theorem ne_same {x : Str} {Q : Bool → Prop} (q : Q false) : Q (!decide (x = x)) := by
  rw [decide_eq_true rfl]
  exact q
def sp_law : DSp := fun ds M Q _ => ∃ ns, ds = [.scr ns] ∧ ns.length ≤ 63 ∧ ∀ M', Q (.bl true) M'
theorem range_all {n : Nat} : ∀ d ∈ rangeD 0 n, ∃ i : Int, d = .int i ∧ 0 ≤ i := fun d h => by
  obtain ⟨i, _, rfl⟩ := List.mem_map.mp h
  exact ⟨_, rfl, by omega⟩
theorem range_len {n : Nat} : (rangeD 0 n).length = n := by simp [rangeD]
theorem ok_law {f f1 f2 f3 : Addr} {fd d1 d2 d3 : FuncData} (DD : Dn K mg "law" "law" st_law ps_law f fd) (n_range : mg "range" = none) (n_len : mg "len" = none) (n_max : mg "max" = none) (n_min : mg "min" = none) (n_all : mg "all" = none) (n_repr : mg "repr" = none)
    (v_MOST_LEDGERS : Gv K mg "MOST_LEDGERS" (.int 4)) (v_MOST_RULES : Gv K mg "MOST_RULES" (.int 8)) (v_MOST_WORTH : Gv K mg "MOST_WORTH" (.int 24)) (v_MOST_CHANGES : Gv K mg "MOST_CHANGES" (.int 6))
    (c_law_seed : Cal P w K mg base 1 "_law_seed" f1 d1 ps_law_seed sp_seed)
    (c_law_pool : Cal P w K mg base 1 "_law_pool" f2 d2 ps_law_pool sp_pool) (c_law_right : Cal P w K mg base 4 "_law_right" f3 d3 ps_law_right sp_right) : Cal P w K mg base 5 "law" f fd ps_law sp_law := by
  refine cal_of 4 DD fs_law (fun ds M Q E h => ?_) fun cdv A outer s H E0 R F ds M Q E rm hG tk h => ?_
  · obtain ⟨ns, rfl, _⟩ := h; rfl
  · have hu := hu_room rm
    have nd := fs_law.nd
    refine ⟨_, (pds_cons (pd_ifS (pdt_cmp (op_neA hu) o2_ne (pd_callB (call_reprD hG hu) rfl n_repr (by rfl) (pda_cons (pd_lst (pda_cons (pd_gv v_MOST_LEDGERS rfl) (pda_cons (pd_gv v_MOST_RULES rfl) (pda_cons (pd_gv v_MOST_WORTH rfl) (pda_cons (pd_gv v_MOST_CHANGES rfl) pda_nil))))) pda_nil)) (pd_callB (call_reprD hG hu) rfl n_repr (by rfl) (pda_cons (pd_lst (pda_cons pd_int (pda_cons pd_int (pda_cons pd_int (pda_cons pd_int pda_nil))))) pda_nil)) (nomark _)) (pds_one (pd_ret pd_bl)) pds_nil)
      (pds_one (pd_ret (pd_callB (call_allD rfl) rfl n_all (by rfl) (pda_cons (pd_lc (own := [("_law_spot", 1)]) rfl nd (pdi_range1 rfl n_range (pda_cons (pd_callB (call_maxD rfl) rfl n_max (by rfl) (pda_cons pd_int (pda_cons (pd_callB (call_minD rfl) rfl n_min (by rfl) (pda_cons (pd_callB call_lenD rfl n_len (by rfl) (pda_cons (pd_var 0) pda_nil)) (pda_cons pd_int pda_nil))) pda_nil))) pda_nil)) (blkOk_by (own := [("_law_spot", 1)]) (N := N_law) (sc := defScope st_law) (by decide +kernel)) (fun _ => tgok_name (by decide)) (fun _ _ _ _ _ => pg_name (i := 1) nd rfl (Or.inl rfl)) (fun _ _ _ _ _ _ => pdts_nil) (fun _ _ _ _ _ _ => (pd_cal c_law_right rm (by decide) hG takes_no (pda_cons (pd_cal c_law_pool rm (by decide) hG takes_no (pda_cons (pd_cal c_law_seed rm (by decide) hG takes_no (pda_cons (pd_var 0) (pda_cons (pd_var 1) pda_nil))) pda_nil)) pda_nil)))) pda_nil))))), ?_⟩
    obtain ⟨ns, rfl, l63, q⟩ := h
    have sh : Sh 60 60000 (.lst [.int 4, .int 8, .int 24, .int 6]) := (Sh.lst (n := 2) (k := 210) (all_cons (Sh.int60 (by decide +kernel) (by decide)) <| all_cons (Sh.int60 (by decide +kernel) (by decide)) <| all_cons (Sh.int60 (by decide +kernel) (by decide)) <| all_cons (Sh.int60 (by decide +kernel) (by decide)) all_nil)).mono (by decide) (by decide)
    refine ⟨sl 4, sh, sl 4, sh, ?_⟩
    generalize (pOf (.lst [.int 4, .int 8, .int 24, .int 6])).shown = tx
    refine ne_same (Q := fun b => Br b _ _) (Br.f ?_)
    dsimp only [dNext]
    refine ⟨⟨?_, ?_⟩, ?_⟩
    · (repeat' split) <;> omega
    · (repeat' split) <;> omega
    · refine lc_inv (fun rest acc M' => (∀ d ∈ rest, ∃ i : Int, d = .int i ∧ 0 ≤ i) ∧ (∃ k, acc = List.replicate k (.bl true)) ∧ acc.length + rest.length ≤ 100) ?_ ?_ _ _ _ ?_
      · rintro acc M' ⟨_, ⟨k, rfl⟩, _⟩
        refine ⟨List.replicate k true, by rw [List.map_replicate], ?_⟩
        rw [show (List.replicate k true).all (fun b => b) = true by simp]
        exact q M'
      · rintro x rest acc M' ⟨hr, ⟨k, rfl⟩, hl⟩ next
        obtain ⟨i, rfl, i0⟩ := hr x List.mem_cons_self
        refine Br.t ⟨_, _, rfl, i0, fun n => ⟨_, rfl, fun p M2 np g => ⟨_, rfl, g.pool, fun M3 => ⟨?_, next _ _ ⟨fun d m => hr d (List.mem_cons_of_mem _ m), ⟨k + 1, ?_⟩, ?_⟩⟩⟩⟩⟩
        · simp only [List.length_cons] at hl
          exact small_line (by omega)
        · rw [List.replicate_succ']
        · simp only [List.length_cons, List.length_append, List.length_nil] at hl ⊢
          omega
      · refine ⟨range_all, ⟨0, rfl⟩, ?_⟩
        rw [range_len]
        simp only [List.length_nil]
        (repeat' split) <;> omega

end
end Dv
namespace Dv
open PySem PySem.Spec L2
section
variable {P : Program} {w : World} {K : PySem.W.Frag} {mg : Str → Option Value} {base : Heap}
theorem exm_ofB {S T : Addr} {b : Bool} (h1 : PySem.W.subIn K (.ref T) (.type "BaseException") = some true) (h2 : PySem.W.isClsIn K T = true) (h3 : PySem.W.typeIn K (.ref T) = some (.type "type")) (h4 : PySem.W.subIn K (.ref S) (.ref T) = some b) : PySem.W.exmOne K (.ref S) (.ref T) = some b := by
  have e1 : (PySem.W.subIn K (.ref T) (.type "BaseException") == some true) = true := by rw [h1] <;> rfl
  have e2 : ((PySem.W.clsIn K T).isSome && PySem.W.typeIn K (.ref T) == some (.type "type")) = true := by
    have h2' : (PySem.W.clsIn K T).isSome = true := h2
    rw [h2', h3] <;> rfl
  unfold PySem.W.exmOne
  rw [if_pos e1]
  show (if ((PySem.W.clsIn K T).isSome && PySem.W.typeIn K (.ref T) == some (.type "type")) = true then PySem.W.subIn K (.ref S) (.ref T) else none) = some b
  rw [if_pos e2]
  exact h4
theorem all_mk {P : Program} {w : World} {K : PySem.W.Frag} {h : Heap} {mg : Str → Option Value} {fa : Addr} (X : K.In h) (G : h.Ns mainGlobals mg) (hfa : mg "law" = some (.ref fa))
    {f_law_seed : Addr} {oc_law_seed kV_law_seed dc_law_seed pm_law_seed cd_law_seed ct_law_seed : Value} {od_law_seed an_law_seed : Option Addr} {sl_law_seed : Array (Option Value)} {f_law_pool : Addr} {oc_law_pool kV_law_pool dc_law_pool pm_law_pool cd_law_pool ct_law_pool : Value} {od_law_pool an_law_pool : Option Addr} {sl_law_pool : Array (Option Value)} {f_law_draw : Addr} {oc_law_draw kV_law_draw dc_law_draw pm_law_draw cd_law_draw ct_law_draw : Value} {od_law_draw an_law_draw : Option Addr} {sl_law_draw : Array (Option Value)} {f_law_pick : Addr} {oc_law_pick kV_law_pick dc_law_pick pm_law_pick cd_law_pick ct_law_pick : Value} {od_law_pick an_law_pick : Option Addr} {sl_law_pick : Array (Option Value)} {f_law_odd : Addr} {oc_law_odd kV_law_odd dc_law_odd pm_law_odd cd_law_odd ct_law_odd : Value} {od_law_odd an_law_odd : Option Addr} {sl_law_odd : Array (Option Value)} {f_law_valued : Addr} {oc_law_valued kV_law_valued dc_law_valued pm_law_valued cd_law_valued ct_law_valued : Value} {od_law_valued an_law_valued : Option Addr} {sl_law_valued : Array (Option Value)} {f_law_indexed : Addr} {oc_law_indexed kV_law_indexed dc_law_indexed pm_law_indexed cd_law_indexed ct_law_indexed : Value} {od_law_indexed an_law_indexed : Option Addr} {sl_law_indexed : Array (Option Value)} {f_law_sorts : Addr} {oc_law_sorts kV_law_sorts dc_law_sorts pm_law_sorts cd_law_sorts ct_law_sorts : Value} {od_law_sorts an_law_sorts : Option Addr} {sl_law_sorts : Array (Option Value)} {f_law_bases : Addr} {oc_law_bases kV_law_bases dc_law_bases pm_law_bases cd_law_bases ct_law_bases : Value} {od_law_bases an_law_bases : Option Addr} {sl_law_bases : Array (Option Value)} {f_law_is_right : Addr} {oc_law_is_right kV_law_is_right dc_law_is_right pm_law_is_right cd_law_is_right ct_law_is_right : Value} {od_law_is_right an_law_is_right : Option Addr} {sl_law_is_right : Array (Option Value)} {f_law_right : Addr} {oc_law_right kV_law_right dc_law_right pm_law_right cd_law_right ct_law_right : Value} {od_law_right an_law_right : Option Addr} {sl_law_right : Array (Option Value)} {f_law : Addr} {oc_law kV_law dc_law pm_law cd_law ct_law : Value} {od_law an_law : Option Addr} {sl_law : Array (Option Value)} {C_InvalidName i_InvalidName N_InvalidName w0_InvalidName : Addr} {nm_InvalidName q_InvalidName : Str} {bs_InvalidName sub_InvalidName : List Value} {sn_InvalidName : List Str} {ab_InvalidName : Bool} {col_InvalidName : Option Bool} {dd_InvalidName : Option Addr} {m0_InvalidName m1_InvalidName m2_InvalidName m3_InvalidName m5_InvalidName : Option Value} {oc_InvalidName dc_InvalidName pm_InvalidName cd_InvalidName ct_InvalidName : Value} {od_InvalidName an_InvalidName : Option Addr} {sl_InvalidName : Array (Option Value)} {C_InvalidWorth i_InvalidWorth N_InvalidWorth w0_InvalidWorth : Addr} {nm_InvalidWorth q_InvalidWorth : Str} {bs_InvalidWorth sub_InvalidWorth : List Value} {sn_InvalidWorth : List Str} {ab_InvalidWorth : Bool} {col_InvalidWorth : Option Bool} {dd_InvalidWorth : Option Addr} {m0_InvalidWorth m1_InvalidWorth m2_InvalidWorth m3_InvalidWorth m5_InvalidWorth : Option Value} {oc_InvalidWorth dc_InvalidWorth pm_InvalidWorth cd_InvalidWorth ct_InvalidWorth : Value} {od_InvalidWorth an_InvalidWorth : Option Addr} {sl_InvalidWorth : Array (Option Value)} {C_InvalidRounding i_InvalidRounding N_InvalidRounding w0_InvalidRounding : Addr} {nm_InvalidRounding q_InvalidRounding : Str} {bs_InvalidRounding sub_InvalidRounding : List Value} {sn_InvalidRounding : List Str} {ab_InvalidRounding : Bool} {col_InvalidRounding : Option Bool} {dd_InvalidRounding : Option Addr} {m0_InvalidRounding m1_InvalidRounding m2_InvalidRounding m3_InvalidRounding m5_InvalidRounding : Option Value} {oc_InvalidRounding dc_InvalidRounding pm_InvalidRounding cd_InvalidRounding ct_InvalidRounding : Value} {od_InvalidRounding an_InvalidRounding : Option Addr} {sl_InvalidRounding : Array (Option Value)} {C_InvalidCharge i_InvalidCharge N_InvalidCharge w0_InvalidCharge : Addr} {nm_InvalidCharge q_InvalidCharge : Str} {bs_InvalidCharge sub_InvalidCharge : List Value} {sn_InvalidCharge : List Str} {ab_InvalidCharge : Bool} {col_InvalidCharge : Option Bool} {dd_InvalidCharge : Option Addr} {m0_InvalidCharge m1_InvalidCharge m2_InvalidCharge m3_InvalidCharge m5_InvalidCharge : Option Value} {oc_InvalidCharge dc_InvalidCharge pm_InvalidCharge cd_InvalidCharge ct_InvalidCharge : Value} {od_InvalidCharge an_InvalidCharge : Option Addr} {sl_InvalidCharge : Array (Option Value)} {C_InvalidLeast i_InvalidLeast N_InvalidLeast w0_InvalidLeast : Addr} {nm_InvalidLeast q_InvalidLeast : Str} {bs_InvalidLeast sub_InvalidLeast : List Value} {sn_InvalidLeast : List Str} {ab_InvalidLeast : Bool} {col_InvalidLeast : Option Bool} {dd_InvalidLeast : Option Addr} {m0_InvalidLeast m1_InvalidLeast m2_InvalidLeast m3_InvalidLeast m5_InvalidLeast : Option Value} {oc_InvalidLeast dc_InvalidLeast pm_InvalidLeast cd_InvalidLeast ct_InvalidLeast : Value} {od_InvalidLeast an_InvalidLeast : Option Addr} {sl_InvalidLeast : Array (Option Value)} {C_InvalidText i_InvalidText N_InvalidText w0_InvalidText : Addr} {nm_InvalidText q_InvalidText : Str} {bs_InvalidText sub_InvalidText : List Value} {sn_InvalidText : List Str} {ab_InvalidText : Bool} {col_InvalidText : Option Bool} {dd_InvalidText : Option Addr} {m0_InvalidText m1_InvalidText m2_InvalidText m3_InvalidText m5_InvalidText : Option Value} {oc_InvalidText dc_InvalidText pm_InvalidText cd_InvalidText ct_InvalidText : Value} {od_InvalidText an_InvalidText : Option Addr} {sl_InvalidText : Array (Option Value)} {C_InvalidAmount i_InvalidAmount N_InvalidAmount w0_InvalidAmount : Addr} {nm_InvalidAmount q_InvalidAmount : Str} {bs_InvalidAmount sub_InvalidAmount : List Value} {sn_InvalidAmount : List Str} {ab_InvalidAmount : Bool} {col_InvalidAmount : Option Bool} {dd_InvalidAmount : Option Addr} {m0_InvalidAmount m1_InvalidAmount m2_InvalidAmount m3_InvalidAmount m5_InvalidAmount : Option Value} {oc_InvalidAmount dc_InvalidAmount pm_InvalidAmount cd_InvalidAmount ct_InvalidAmount : Value} {od_InvalidAmount an_InvalidAmount : Option Addr} {sl_InvalidAmount : Array (Option Value)} {C_InvalidNumber i_InvalidNumber N_InvalidNumber w0_InvalidNumber : Addr} {nm_InvalidNumber q_InvalidNumber : Str} {bs_InvalidNumber sub_InvalidNumber : List Value} {sn_InvalidNumber : List Str} {ab_InvalidNumber : Bool} {col_InvalidNumber : Option Bool} {dd_InvalidNumber : Option Addr} {m0_InvalidNumber m1_InvalidNumber m2_InvalidNumber m3_InvalidNumber m5_InvalidNumber : Option Value} {oc_InvalidNumber dc_InvalidNumber pm_InvalidNumber cd_InvalidNumber ct_InvalidNumber : Value} {od_InvalidNumber an_InvalidNumber : Option Addr} {sl_InvalidNumber : Array (Option Value)} {C_InvalidWish i_InvalidWish N_InvalidWish w0_InvalidWish : Addr} {nm_InvalidWish q_InvalidWish : Str} {bs_InvalidWish sub_InvalidWish : List Value} {sn_InvalidWish : List Str} {ab_InvalidWish : Bool} {col_InvalidWish : Option Bool} {dd_InvalidWish : Option Addr} {m0_InvalidWish m1_InvalidWish m2_InvalidWish m3_InvalidWish m5_InvalidWish : Option Value} {oc_InvalidWish dc_InvalidWish pm_InvalidWish cd_InvalidWish ct_InvalidWish : Value} {od_InvalidWish an_InvalidWish : Option Addr} {sl_InvalidWish : Array (Option Value)} {C_InvalidIndex i_InvalidIndex N_InvalidIndex w0_InvalidIndex : Addr} {nm_InvalidIndex q_InvalidIndex : Str} {bs_InvalidIndex sub_InvalidIndex : List Value} {sn_InvalidIndex : List Str} {ab_InvalidIndex : Bool} {col_InvalidIndex : Option Bool} {dd_InvalidIndex : Option Addr} {m0_InvalidIndex m1_InvalidIndex m2_InvalidIndex m3_InvalidIndex m5_InvalidIndex : Option Value} {oc_InvalidIndex dc_InvalidIndex pm_InvalidIndex cd_InvalidIndex ct_InvalidIndex : Value} {od_InvalidIndex an_InvalidIndex : Option Addr} {sl_InvalidIndex : Array (Option Value)} {C_NotBook i_NotBook N_NotBook w0_NotBook : Addr} {nm_NotBook q_NotBook : Str} {bs_NotBook sub_NotBook : List Value} {sn_NotBook : List Str} {ab_NotBook : Bool} {col_NotBook : Option Bool} {dd_NotBook : Option Addr} {m0_NotBook m1_NotBook m2_NotBook m3_NotBook m5_NotBook : Option Value} {oc_NotBook dc_NotBook pm_NotBook cd_NotBook ct_NotBook : Value} {od_NotBook an_NotBook : Option Addr} {sl_NotBook : Array (Option Value)} {C_InvalidLedgers i_InvalidLedgers N_InvalidLedgers w0_InvalidLedgers : Addr} {nm_InvalidLedgers q_InvalidLedgers : Str} {bs_InvalidLedgers sub_InvalidLedgers : List Value} {sn_InvalidLedgers : List Str} {ab_InvalidLedgers : Bool} {col_InvalidLedgers : Option Bool} {dd_InvalidLedgers : Option Addr} {m0_InvalidLedgers m1_InvalidLedgers m2_InvalidLedgers m3_InvalidLedgers m5_InvalidLedgers : Option Value} {oc_InvalidLedgers dc_InvalidLedgers pm_InvalidLedgers cd_InvalidLedgers ct_InvalidLedgers : Value} {od_InvalidLedgers an_InvalidLedgers : Option Addr} {sl_InvalidLedgers : Array (Option Value)} {C_InvalidRules i_InvalidRules N_InvalidRules w0_InvalidRules : Addr} {nm_InvalidRules q_InvalidRules : Str} {bs_InvalidRules sub_InvalidRules : List Value} {sn_InvalidRules : List Str} {ab_InvalidRules : Bool} {col_InvalidRules : Option Bool} {dd_InvalidRules : Option Addr} {m0_InvalidRules m1_InvalidRules m2_InvalidRules m3_InvalidRules m5_InvalidRules : Option Value} {oc_InvalidRules dc_InvalidRules pm_InvalidRules cd_InvalidRules ct_InvalidRules : Value} {od_InvalidRules an_InvalidRules : Option Addr} {sl_InvalidRules : Array (Option Value)} {C_InvalidWay i_InvalidWay N_InvalidWay w0_InvalidWay : Addr} {nm_InvalidWay q_InvalidWay : Str} {bs_InvalidWay sub_InvalidWay : List Value} {sn_InvalidWay : List Str} {ab_InvalidWay : Bool} {col_InvalidWay : Option Bool} {dd_InvalidWay : Option Addr} {m0_InvalidWay m1_InvalidWay m2_InvalidWay m3_InvalidWay m5_InvalidWay : Option Value} {oc_InvalidWay dc_InvalidWay pm_InvalidWay cd_InvalidWay ct_InvalidWay : Value} {od_InvalidWay an_InvalidWay : Option Addr} {sl_InvalidWay : Array (Option Value)} {C_InvalidChanges i_InvalidChanges N_InvalidChanges w0_InvalidChanges : Addr} {nm_InvalidChanges q_InvalidChanges : Str} {bs_InvalidChanges sub_InvalidChanges : List Value} {sn_InvalidChanges : List Str} {ab_InvalidChanges : Bool} {col_InvalidChanges : Option Bool} {dd_InvalidChanges : Option Addr} {m0_InvalidChanges m1_InvalidChanges m2_InvalidChanges m3_InvalidChanges m5_InvalidChanges : Option Value} {oc_InvalidChanges dc_InvalidChanges pm_InvalidChanges cd_InvalidChanges ct_InvalidChanges : Value} {od_InvalidChanges an_InvalidChanges : Option Addr} {sl_InvalidChanges : Array (Option Value)} {C_InvalidWishes i_InvalidWishes N_InvalidWishes w0_InvalidWishes : Addr} {nm_InvalidWishes q_InvalidWishes : Str} {bs_InvalidWishes sub_InvalidWishes : List Value} {sn_InvalidWishes : List Str} {ab_InvalidWishes : Bool} {col_InvalidWishes : Option Bool} {dd_InvalidWishes : Option Addr} {m0_InvalidWishes m1_InvalidWishes m2_InvalidWishes m3_InvalidWishes m5_InvalidWishes : Option Value} {oc_InvalidWishes dc_InvalidWishes pm_InvalidWishes cd_InvalidWishes ct_InvalidWishes : Value} {od_InvalidWishes an_InvalidWishes : Option Addr} {sl_InvalidWishes : Array (Option Value)} {C_UnknownName i_UnknownName N_UnknownName w0_UnknownName : Addr} {nm_UnknownName q_UnknownName : Str} {bs_UnknownName sub_UnknownName : List Value} {sn_UnknownName : List Str} {ab_UnknownName : Bool} {col_UnknownName : Option Bool} {dd_UnknownName : Option Addr} {m0_UnknownName m1_UnknownName m2_UnknownName m3_UnknownName m5_UnknownName : Option Value} {oc_UnknownName dc_UnknownName pm_UnknownName cd_UnknownName ct_UnknownName : Value} {od_UnknownName an_UnknownName : Option Addr} {sl_UnknownName : Array (Option Value)} {C_InUse i_InUse N_InUse w0_InUse : Addr} {nm_InUse q_InUse : Str} {bs_InUse sub_InUse : List Value} {sn_InUse : List Str} {ab_InUse : Bool} {col_InUse : Option Bool} {dd_InUse : Option Addr} {m0_InUse m1_InUse m2_InUse m3_InUse m5_InUse : Option Value} {oc_InUse dc_InUse pm_InUse cd_InUse ct_InUse : Value} {od_InUse an_InUse : Option Addr} {sl_InUse : Array (Option Value)} {C_OtherLedgers i_OtherLedgers N_OtherLedgers w0_OtherLedgers : Addr} {nm_OtherLedgers q_OtherLedgers : Str} {bs_OtherLedgers sub_OtherLedgers : List Value} {sn_OtherLedgers : List Str} {ab_OtherLedgers : Bool} {col_OtherLedgers : Option Bool} {dd_OtherLedgers : Option Addr} {m0_OtherLedgers m1_OtherLedgers m2_OtherLedgers m3_OtherLedgers m5_OtherLedgers : Option Value} {oc_OtherLedgers dc_OtherLedgers pm_OtherLedgers cd_OtherLedgers ct_OtherLedgers : Value} {od_OtherLedgers an_OtherLedgers : Option Addr} {sl_OtherLedgers : Array (Option Value)} {C_NotOpen i_NotOpen N_NotOpen w0_NotOpen : Addr} {nm_NotOpen q_NotOpen : Str} {bs_NotOpen sub_NotOpen : List Value} {sn_NotOpen : List Str} {ab_NotOpen : Bool} {col_NotOpen : Option Bool} {dd_NotOpen : Option Addr} {m0_NotOpen m1_NotOpen m2_NotOpen m3_NotOpen m5_NotOpen : Option Value} {oc_NotOpen dc_NotOpen pm_NotOpen cd_NotOpen ct_NotOpen : Value} {od_NotOpen an_NotOpen : Option Addr} {sl_NotOpen : Array (Option Value)} {C_Broken i_Broken N_Broken w0_Broken : Addr} {nm_Broken q_Broken : Str} {bs_Broken sub_Broken : List Value} {sn_Broken : List Str} {ab_Broken : Bool} {col_Broken : Option Bool} {dd_Broken : Option Addr} {m0_Broken m1_Broken m2_Broken m3_Broken m5_Broken : Option Value} {oc_Broken dc_Broken pm_Broken cd_Broken ct_Broken : Value} {od_Broken an_Broken : Option Addr} {sl_Broken : Array (Option Value)} {C_WrongValue : Addr} {C_WrongName : Addr} {C_NotPossible : Addr} {C_NothingToUndo : Addr}
    (a_law_seed : PySem.W.nsIn K mainGlobals "_law_seed" = some (some (.ref f_law_seed)))
    (l_law_seed : K.lookup f_law_seed = some ⟨oc_law_seed, od_law_seed, .func (PySem.W.fnOf "_law_seed" "_law_seed" (defArgs st_law_seed) (defBody st_law_seed) (defScope st_law_seed) .none kV_law_seed dc_law_seed pm_law_seed an_law_seed cd_law_seed ct_law_seed), sl_law_seed⟩)
    (c_law_seed : PySem.W.codeIn K cd_law_seed "_law_seed" = true)
    (k_law_seed : PySem.W.keepIn K (.ref f_law_seed) = true)
    (a_law_pool : PySem.W.nsIn K mainGlobals "_law_pool" = some (some (.ref f_law_pool)))
    (l_law_pool : K.lookup f_law_pool = some ⟨oc_law_pool, od_law_pool, .func (PySem.W.fnOf "_law_pool" "_law_pool" (defArgs st_law_pool) (defBody st_law_pool) (defScope st_law_pool) .none kV_law_pool dc_law_pool pm_law_pool an_law_pool cd_law_pool ct_law_pool), sl_law_pool⟩)
    (c_law_pool : PySem.W.codeIn K cd_law_pool "_law_pool" = true)
    (k_law_pool : PySem.W.keepIn K (.ref f_law_pool) = true)
    (a_law_draw : PySem.W.nsIn K mainGlobals "_law_draw" = some (some (.ref f_law_draw)))
    (l_law_draw : K.lookup f_law_draw = some ⟨oc_law_draw, od_law_draw, .func (PySem.W.fnOf "_law_draw" "_law_draw" (defArgs st_law_draw) (defBody st_law_draw) (defScope st_law_draw) .none kV_law_draw dc_law_draw pm_law_draw an_law_draw cd_law_draw ct_law_draw), sl_law_draw⟩)
    (c_law_draw : PySem.W.codeIn K cd_law_draw "_law_draw" = true)
    (k_law_draw : PySem.W.keepIn K (.ref f_law_draw) = true)
    (a_law_pick : PySem.W.nsIn K mainGlobals "_law_pick" = some (some (.ref f_law_pick)))
    (l_law_pick : K.lookup f_law_pick = some ⟨oc_law_pick, od_law_pick, .func (PySem.W.fnOf "_law_pick" "_law_pick" (defArgs st_law_pick) (defBody st_law_pick) (defScope st_law_pick) .none kV_law_pick dc_law_pick pm_law_pick an_law_pick cd_law_pick ct_law_pick), sl_law_pick⟩)
    (c_law_pick : PySem.W.codeIn K cd_law_pick "_law_pick" = true)
    (k_law_pick : PySem.W.keepIn K (.ref f_law_pick) = true)
    (a_law_odd : PySem.W.nsIn K mainGlobals "_law_odd" = some (some (.ref f_law_odd)))
    (l_law_odd : K.lookup f_law_odd = some ⟨oc_law_odd, od_law_odd, .func (PySem.W.fnOf "_law_odd" "_law_odd" (defArgs st_law_odd) (defBody st_law_odd) (defScope st_law_odd) .none kV_law_odd dc_law_odd pm_law_odd an_law_odd cd_law_odd ct_law_odd), sl_law_odd⟩)
    (c_law_odd : PySem.W.codeIn K cd_law_odd "_law_odd" = true)
    (k_law_odd : PySem.W.keepIn K (.ref f_law_odd) = true)
    (a_law_valued : PySem.W.nsIn K mainGlobals "_law_valued" = some (some (.ref f_law_valued)))
    (l_law_valued : K.lookup f_law_valued = some ⟨oc_law_valued, od_law_valued, .func (PySem.W.fnOf "_law_valued" "_law_valued" (defArgs st_law_valued) (defBody st_law_valued) (defScope st_law_valued) .none kV_law_valued dc_law_valued pm_law_valued an_law_valued cd_law_valued ct_law_valued), sl_law_valued⟩)
    (c_law_valued : PySem.W.codeIn K cd_law_valued "_law_valued" = true)
    (k_law_valued : PySem.W.keepIn K (.ref f_law_valued) = true)
    (a_law_indexed : PySem.W.nsIn K mainGlobals "_law_indexed" = some (some (.ref f_law_indexed)))
    (l_law_indexed : K.lookup f_law_indexed = some ⟨oc_law_indexed, od_law_indexed, .func (PySem.W.fnOf "_law_indexed" "_law_indexed" (defArgs st_law_indexed) (defBody st_law_indexed) (defScope st_law_indexed) .none kV_law_indexed dc_law_indexed pm_law_indexed an_law_indexed cd_law_indexed ct_law_indexed), sl_law_indexed⟩)
    (c_law_indexed : PySem.W.codeIn K cd_law_indexed "_law_indexed" = true)
    (k_law_indexed : PySem.W.keepIn K (.ref f_law_indexed) = true)
    (a_law_sorts : PySem.W.nsIn K mainGlobals "_law_sorts" = some (some (.ref f_law_sorts)))
    (l_law_sorts : K.lookup f_law_sorts = some ⟨oc_law_sorts, od_law_sorts, .func (PySem.W.fnOf "_law_sorts" "_law_sorts" (defArgs st_law_sorts) (defBody st_law_sorts) (defScope st_law_sorts) .none kV_law_sorts dc_law_sorts pm_law_sorts an_law_sorts cd_law_sorts ct_law_sorts), sl_law_sorts⟩)
    (c_law_sorts : PySem.W.codeIn K cd_law_sorts "_law_sorts" = true)
    (k_law_sorts : PySem.W.keepIn K (.ref f_law_sorts) = true)
    (a_law_bases : PySem.W.nsIn K mainGlobals "_law_bases" = some (some (.ref f_law_bases)))
    (l_law_bases : K.lookup f_law_bases = some ⟨oc_law_bases, od_law_bases, .func (PySem.W.fnOf "_law_bases" "_law_bases" (defArgs st_law_bases) (defBody st_law_bases) (defScope st_law_bases) .none kV_law_bases dc_law_bases pm_law_bases an_law_bases cd_law_bases ct_law_bases), sl_law_bases⟩)
    (c_law_bases : PySem.W.codeIn K cd_law_bases "_law_bases" = true)
    (k_law_bases : PySem.W.keepIn K (.ref f_law_bases) = true)
    (a_law_is_right : PySem.W.nsIn K mainGlobals "_law_is_right" = some (some (.ref f_law_is_right)))
    (l_law_is_right : K.lookup f_law_is_right = some ⟨oc_law_is_right, od_law_is_right, .func (PySem.W.fnOf "_law_is_right" "_law_is_right" (defArgs st_law_is_right) (defBody st_law_is_right) (defScope st_law_is_right) .none kV_law_is_right dc_law_is_right pm_law_is_right an_law_is_right cd_law_is_right ct_law_is_right), sl_law_is_right⟩)
    (c_law_is_right : PySem.W.codeIn K cd_law_is_right "_law_is_right" = true)
    (k_law_is_right : PySem.W.keepIn K (.ref f_law_is_right) = true)
    (a_law_right : PySem.W.nsIn K mainGlobals "_law_right" = some (some (.ref f_law_right)))
    (l_law_right : K.lookup f_law_right = some ⟨oc_law_right, od_law_right, .func (PySem.W.fnOf "_law_right" "_law_right" (defArgs st_law_right) (defBody st_law_right) (defScope st_law_right) .none kV_law_right dc_law_right pm_law_right an_law_right cd_law_right ct_law_right), sl_law_right⟩)
    (c_law_right : PySem.W.codeIn K cd_law_right "_law_right" = true)
    (k_law_right : PySem.W.keepIn K (.ref f_law_right) = true)
    (a_law : PySem.W.nsIn K mainGlobals "law" = some (some (.ref f_law)))
    (l_law : K.lookup f_law = some ⟨oc_law, od_law, .func (PySem.W.fnOf "law" "law" (defArgs st_law) (defBody st_law) (defScope st_law) .none kV_law dc_law pm_law an_law cd_law ct_law), sl_law⟩)
    (c_law : PySem.W.codeIn K cd_law "law" = true)
    (k_law : PySem.W.keepIn K (.ref f_law) = true)
    (b_len : PySem.W.nsIn K mainGlobals "len" = some none)
    (b_int : PySem.W.nsIn K mainGlobals "int" = some none)
    (b_abs : PySem.W.nsIn K mainGlobals "abs" = some none)
    (b_divmod : PySem.W.nsIn K mainGlobals "divmod" = some none)
    (b_str : PySem.W.nsIn K mainGlobals "str" = some none)
    (b_isinstance : PySem.W.nsIn K mainGlobals "isinstance" = some none)
    (b_range : PySem.W.nsIn K mainGlobals "range" = some none)
    (b_max : PySem.W.nsIn K mainGlobals "max" = some none)
    (b_min : PySem.W.nsIn K mainGlobals "min" = some none)
    (b_all : PySem.W.nsIn K mainGlobals "all" = some none)
    (b_repr : PySem.W.nsIn K mainGlobals "repr" = some none)
    (b_ValueError : PySem.W.nsIn K mainGlobals "ValueError" = some none)
    (b_LookupError : PySem.W.nsIn K mainGlobals "LookupError" = some none)
    (b_ArithmeticError : PySem.W.nsIn K mainGlobals "ArithmeticError" = some none)
    (a_InvalidName : PySem.W.nsIn K mainGlobals "InvalidName" = some (some (.ref C_InvalidName)))
    (x_InvalidName : K.lookup C_InvalidName = some (excClassObj nm_InvalidName q_InvalidName C_InvalidName N_InvalidName bs_InvalidName (.ref w0_InvalidName :: [.type "ValueError", .type "Exception", .type "BaseException", .type "object"]) true sn_InvalidName sub_InvalidName ab_InvalidName col_InvalidName dd_InvalidName m0_InvalidName m1_InvalidName m2_InvalidName m3_InvalidName m5_InvalidName "ValueError.__new__"))
    (sa_InvalidName : PySem.W.findIn K (.ref C_InvalidName) "__setattr__" = some (some (.builtin "object.__setattr__")))
    (ga_InvalidName : PySem.W.findIn K (.ref C_InvalidName) "__getattribute__" = some (some (.builtin "BaseException.__getattribute__")))
    (gg_InvalidName : PySem.W.findIn K (.ref C_InvalidName) "__getattr__" = some none)
    (nf_InvalidName : PySem.W.findIn K (.ref C_InvalidName) "given" = some none)
    (ii_InvalidName : PySem.W.findIn K (.ref C_InvalidName) "__init__" = some (some (.ref i_InvalidName)))
    (ti_InvalidName : PySem.W.typeIn K (.ref i_InvalidName) = some (.type "function"))
    (l_InvalidName : K.lookup i_InvalidName = some ⟨oc_InvalidName, od_InvalidName, .func (PySem.W.fnOf "__init__" "InvalidName.__init__" (defArgs (inClass (top 2) 0)) (defBody (inClass (top 2) 0)) (defScope (inClass (top 2) 0)) .none .none dc_InvalidName pm_InvalidName an_InvalidName cd_InvalidName ct_InvalidName), sl_InvalidName⟩)
    (c_InvalidName : PySem.W.codeIn K cd_InvalidName "InvalidName.__init__" = true)
    (k_InvalidName : PySem.W.keepIn K (.ref C_InvalidName) = true)
    (e_InvalidName : PySem.W.subIn K (.ref C_InvalidName) (.type "BaseException") = some true)
    (t_InvalidName : PySem.W.typeIn K (.ref C_InvalidName) = some (.type "type"))
    (h_InvalidName : PySem.W.hasDictIn K C_InvalidName = true)
    (y_InvalidName : PySem.W.isClsIn K C_InvalidName = true)
    (a_InvalidWorth : PySem.W.nsIn K mainGlobals "InvalidWorth" = some (some (.ref C_InvalidWorth)))
    (x_InvalidWorth : K.lookup C_InvalidWorth = some (excClassObj nm_InvalidWorth q_InvalidWorth C_InvalidWorth N_InvalidWorth bs_InvalidWorth (.ref w0_InvalidWorth :: [.type "ValueError", .type "Exception", .type "BaseException", .type "object"]) true sn_InvalidWorth sub_InvalidWorth ab_InvalidWorth col_InvalidWorth dd_InvalidWorth m0_InvalidWorth m1_InvalidWorth m2_InvalidWorth m3_InvalidWorth m5_InvalidWorth "ValueError.__new__"))
    (sa_InvalidWorth : PySem.W.findIn K (.ref C_InvalidWorth) "__setattr__" = some (some (.builtin "object.__setattr__")))
    (ga_InvalidWorth : PySem.W.findIn K (.ref C_InvalidWorth) "__getattribute__" = some (some (.builtin "BaseException.__getattribute__")))
    (gg_InvalidWorth : PySem.W.findIn K (.ref C_InvalidWorth) "__getattr__" = some none)
    (nf_InvalidWorth : PySem.W.findIn K (.ref C_InvalidWorth) "given" = some none)
    (ii_InvalidWorth : PySem.W.findIn K (.ref C_InvalidWorth) "__init__" = some (some (.ref i_InvalidWorth)))
    (ti_InvalidWorth : PySem.W.typeIn K (.ref i_InvalidWorth) = some (.type "function"))
    (l_InvalidWorth : K.lookup i_InvalidWorth = some ⟨oc_InvalidWorth, od_InvalidWorth, .func (PySem.W.fnOf "__init__" "InvalidWorth.__init__" (defArgs (inClass (top 3) 0)) (defBody (inClass (top 3) 0)) (defScope (inClass (top 3) 0)) .none .none dc_InvalidWorth pm_InvalidWorth an_InvalidWorth cd_InvalidWorth ct_InvalidWorth), sl_InvalidWorth⟩)
    (c_InvalidWorth : PySem.W.codeIn K cd_InvalidWorth "InvalidWorth.__init__" = true)
    (k_InvalidWorth : PySem.W.keepIn K (.ref C_InvalidWorth) = true)
    (e_InvalidWorth : PySem.W.subIn K (.ref C_InvalidWorth) (.type "BaseException") = some true)
    (t_InvalidWorth : PySem.W.typeIn K (.ref C_InvalidWorth) = some (.type "type"))
    (h_InvalidWorth : PySem.W.hasDictIn K C_InvalidWorth = true)
    (y_InvalidWorth : PySem.W.isClsIn K C_InvalidWorth = true)
    (a_InvalidRounding : PySem.W.nsIn K mainGlobals "InvalidRounding" = some (some (.ref C_InvalidRounding)))
    (x_InvalidRounding : K.lookup C_InvalidRounding = some (excClassObj nm_InvalidRounding q_InvalidRounding C_InvalidRounding N_InvalidRounding bs_InvalidRounding (.ref w0_InvalidRounding :: [.type "ValueError", .type "Exception", .type "BaseException", .type "object"]) true sn_InvalidRounding sub_InvalidRounding ab_InvalidRounding col_InvalidRounding dd_InvalidRounding m0_InvalidRounding m1_InvalidRounding m2_InvalidRounding m3_InvalidRounding m5_InvalidRounding "ValueError.__new__"))
    (sa_InvalidRounding : PySem.W.findIn K (.ref C_InvalidRounding) "__setattr__" = some (some (.builtin "object.__setattr__")))
    (ga_InvalidRounding : PySem.W.findIn K (.ref C_InvalidRounding) "__getattribute__" = some (some (.builtin "BaseException.__getattribute__")))
    (gg_InvalidRounding : PySem.W.findIn K (.ref C_InvalidRounding) "__getattr__" = some none)
    (nf_InvalidRounding : PySem.W.findIn K (.ref C_InvalidRounding) "given" = some none)
    (ii_InvalidRounding : PySem.W.findIn K (.ref C_InvalidRounding) "__init__" = some (some (.ref i_InvalidRounding)))
    (ti_InvalidRounding : PySem.W.typeIn K (.ref i_InvalidRounding) = some (.type "function"))
    (l_InvalidRounding : K.lookup i_InvalidRounding = some ⟨oc_InvalidRounding, od_InvalidRounding, .func (PySem.W.fnOf "__init__" "InvalidRounding.__init__" (defArgs (inClass (top 4) 0)) (defBody (inClass (top 4) 0)) (defScope (inClass (top 4) 0)) .none .none dc_InvalidRounding pm_InvalidRounding an_InvalidRounding cd_InvalidRounding ct_InvalidRounding), sl_InvalidRounding⟩)
    (c_InvalidRounding : PySem.W.codeIn K cd_InvalidRounding "InvalidRounding.__init__" = true)
    (k_InvalidRounding : PySem.W.keepIn K (.ref C_InvalidRounding) = true)
    (e_InvalidRounding : PySem.W.subIn K (.ref C_InvalidRounding) (.type "BaseException") = some true)
    (t_InvalidRounding : PySem.W.typeIn K (.ref C_InvalidRounding) = some (.type "type"))
    (h_InvalidRounding : PySem.W.hasDictIn K C_InvalidRounding = true)
    (y_InvalidRounding : PySem.W.isClsIn K C_InvalidRounding = true)
    (a_InvalidCharge : PySem.W.nsIn K mainGlobals "InvalidCharge" = some (some (.ref C_InvalidCharge)))
    (x_InvalidCharge : K.lookup C_InvalidCharge = some (excClassObj nm_InvalidCharge q_InvalidCharge C_InvalidCharge N_InvalidCharge bs_InvalidCharge (.ref w0_InvalidCharge :: [.type "ValueError", .type "Exception", .type "BaseException", .type "object"]) true sn_InvalidCharge sub_InvalidCharge ab_InvalidCharge col_InvalidCharge dd_InvalidCharge m0_InvalidCharge m1_InvalidCharge m2_InvalidCharge m3_InvalidCharge m5_InvalidCharge "ValueError.__new__"))
    (sa_InvalidCharge : PySem.W.findIn K (.ref C_InvalidCharge) "__setattr__" = some (some (.builtin "object.__setattr__")))
    (ga_InvalidCharge : PySem.W.findIn K (.ref C_InvalidCharge) "__getattribute__" = some (some (.builtin "BaseException.__getattribute__")))
    (gg_InvalidCharge : PySem.W.findIn K (.ref C_InvalidCharge) "__getattr__" = some none)
    (nf_InvalidCharge : PySem.W.findIn K (.ref C_InvalidCharge) "given" = some none)
    (ii_InvalidCharge : PySem.W.findIn K (.ref C_InvalidCharge) "__init__" = some (some (.ref i_InvalidCharge)))
    (ti_InvalidCharge : PySem.W.typeIn K (.ref i_InvalidCharge) = some (.type "function"))
    (l_InvalidCharge : K.lookup i_InvalidCharge = some ⟨oc_InvalidCharge, od_InvalidCharge, .func (PySem.W.fnOf "__init__" "InvalidCharge.__init__" (defArgs (inClass (top 5) 0)) (defBody (inClass (top 5) 0)) (defScope (inClass (top 5) 0)) .none .none dc_InvalidCharge pm_InvalidCharge an_InvalidCharge cd_InvalidCharge ct_InvalidCharge), sl_InvalidCharge⟩)
    (c_InvalidCharge : PySem.W.codeIn K cd_InvalidCharge "InvalidCharge.__init__" = true)
    (k_InvalidCharge : PySem.W.keepIn K (.ref C_InvalidCharge) = true)
    (e_InvalidCharge : PySem.W.subIn K (.ref C_InvalidCharge) (.type "BaseException") = some true)
    (t_InvalidCharge : PySem.W.typeIn K (.ref C_InvalidCharge) = some (.type "type"))
    (h_InvalidCharge : PySem.W.hasDictIn K C_InvalidCharge = true)
    (y_InvalidCharge : PySem.W.isClsIn K C_InvalidCharge = true)
    (a_InvalidLeast : PySem.W.nsIn K mainGlobals "InvalidLeast" = some (some (.ref C_InvalidLeast)))
    (x_InvalidLeast : K.lookup C_InvalidLeast = some (excClassObj nm_InvalidLeast q_InvalidLeast C_InvalidLeast N_InvalidLeast bs_InvalidLeast (.ref w0_InvalidLeast :: [.type "ValueError", .type "Exception", .type "BaseException", .type "object"]) true sn_InvalidLeast sub_InvalidLeast ab_InvalidLeast col_InvalidLeast dd_InvalidLeast m0_InvalidLeast m1_InvalidLeast m2_InvalidLeast m3_InvalidLeast m5_InvalidLeast "ValueError.__new__"))
    (sa_InvalidLeast : PySem.W.findIn K (.ref C_InvalidLeast) "__setattr__" = some (some (.builtin "object.__setattr__")))
    (ga_InvalidLeast : PySem.W.findIn K (.ref C_InvalidLeast) "__getattribute__" = some (some (.builtin "BaseException.__getattribute__")))
    (gg_InvalidLeast : PySem.W.findIn K (.ref C_InvalidLeast) "__getattr__" = some none)
    (nf_InvalidLeast : PySem.W.findIn K (.ref C_InvalidLeast) "given" = some none)
    (ii_InvalidLeast : PySem.W.findIn K (.ref C_InvalidLeast) "__init__" = some (some (.ref i_InvalidLeast)))
    (ti_InvalidLeast : PySem.W.typeIn K (.ref i_InvalidLeast) = some (.type "function"))
    (l_InvalidLeast : K.lookup i_InvalidLeast = some ⟨oc_InvalidLeast, od_InvalidLeast, .func (PySem.W.fnOf "__init__" "InvalidLeast.__init__" (defArgs (inClass (top 6) 0)) (defBody (inClass (top 6) 0)) (defScope (inClass (top 6) 0)) .none .none dc_InvalidLeast pm_InvalidLeast an_InvalidLeast cd_InvalidLeast ct_InvalidLeast), sl_InvalidLeast⟩)
    (c_InvalidLeast : PySem.W.codeIn K cd_InvalidLeast "InvalidLeast.__init__" = true)
    (k_InvalidLeast : PySem.W.keepIn K (.ref C_InvalidLeast) = true)
    (e_InvalidLeast : PySem.W.subIn K (.ref C_InvalidLeast) (.type "BaseException") = some true)
    (t_InvalidLeast : PySem.W.typeIn K (.ref C_InvalidLeast) = some (.type "type"))
    (h_InvalidLeast : PySem.W.hasDictIn K C_InvalidLeast = true)
    (y_InvalidLeast : PySem.W.isClsIn K C_InvalidLeast = true)
    (a_InvalidText : PySem.W.nsIn K mainGlobals "InvalidText" = some (some (.ref C_InvalidText)))
    (x_InvalidText : K.lookup C_InvalidText = some (excClassObj nm_InvalidText q_InvalidText C_InvalidText N_InvalidText bs_InvalidText (.ref w0_InvalidText :: [.type "ValueError", .type "Exception", .type "BaseException", .type "object"]) true sn_InvalidText sub_InvalidText ab_InvalidText col_InvalidText dd_InvalidText m0_InvalidText m1_InvalidText m2_InvalidText m3_InvalidText m5_InvalidText "ValueError.__new__"))
    (sa_InvalidText : PySem.W.findIn K (.ref C_InvalidText) "__setattr__" = some (some (.builtin "object.__setattr__")))
    (ga_InvalidText : PySem.W.findIn K (.ref C_InvalidText) "__getattribute__" = some (some (.builtin "BaseException.__getattribute__")))
    (gg_InvalidText : PySem.W.findIn K (.ref C_InvalidText) "__getattr__" = some none)
    (nf_InvalidText : PySem.W.findIn K (.ref C_InvalidText) "given" = some none)
    (ii_InvalidText : PySem.W.findIn K (.ref C_InvalidText) "__init__" = some (some (.ref i_InvalidText)))
    (ti_InvalidText : PySem.W.typeIn K (.ref i_InvalidText) = some (.type "function"))
    (l_InvalidText : K.lookup i_InvalidText = some ⟨oc_InvalidText, od_InvalidText, .func (PySem.W.fnOf "__init__" "InvalidText.__init__" (defArgs (inClass (top 7) 0)) (defBody (inClass (top 7) 0)) (defScope (inClass (top 7) 0)) .none .none dc_InvalidText pm_InvalidText an_InvalidText cd_InvalidText ct_InvalidText), sl_InvalidText⟩)
    (c_InvalidText : PySem.W.codeIn K cd_InvalidText "InvalidText.__init__" = true)
    (k_InvalidText : PySem.W.keepIn K (.ref C_InvalidText) = true)
    (e_InvalidText : PySem.W.subIn K (.ref C_InvalidText) (.type "BaseException") = some true)
    (t_InvalidText : PySem.W.typeIn K (.ref C_InvalidText) = some (.type "type"))
    (h_InvalidText : PySem.W.hasDictIn K C_InvalidText = true)
    (y_InvalidText : PySem.W.isClsIn K C_InvalidText = true)
    (a_InvalidAmount : PySem.W.nsIn K mainGlobals "InvalidAmount" = some (some (.ref C_InvalidAmount)))
    (x_InvalidAmount : K.lookup C_InvalidAmount = some (excClassObj nm_InvalidAmount q_InvalidAmount C_InvalidAmount N_InvalidAmount bs_InvalidAmount (.ref w0_InvalidAmount :: [.type "ValueError", .type "Exception", .type "BaseException", .type "object"]) true sn_InvalidAmount sub_InvalidAmount ab_InvalidAmount col_InvalidAmount dd_InvalidAmount m0_InvalidAmount m1_InvalidAmount m2_InvalidAmount m3_InvalidAmount m5_InvalidAmount "ValueError.__new__"))
    (sa_InvalidAmount : PySem.W.findIn K (.ref C_InvalidAmount) "__setattr__" = some (some (.builtin "object.__setattr__")))
    (ga_InvalidAmount : PySem.W.findIn K (.ref C_InvalidAmount) "__getattribute__" = some (some (.builtin "BaseException.__getattribute__")))
    (gg_InvalidAmount : PySem.W.findIn K (.ref C_InvalidAmount) "__getattr__" = some none)
    (nf_InvalidAmount : PySem.W.findIn K (.ref C_InvalidAmount) "given" = some none)
    (ii_InvalidAmount : PySem.W.findIn K (.ref C_InvalidAmount) "__init__" = some (some (.ref i_InvalidAmount)))
    (ti_InvalidAmount : PySem.W.typeIn K (.ref i_InvalidAmount) = some (.type "function"))
    (l_InvalidAmount : K.lookup i_InvalidAmount = some ⟨oc_InvalidAmount, od_InvalidAmount, .func (PySem.W.fnOf "__init__" "InvalidAmount.__init__" (defArgs (inClass (top 8) 0)) (defBody (inClass (top 8) 0)) (defScope (inClass (top 8) 0)) .none .none dc_InvalidAmount pm_InvalidAmount an_InvalidAmount cd_InvalidAmount ct_InvalidAmount), sl_InvalidAmount⟩)
    (c_InvalidAmount : PySem.W.codeIn K cd_InvalidAmount "InvalidAmount.__init__" = true)
    (k_InvalidAmount : PySem.W.keepIn K (.ref C_InvalidAmount) = true)
    (e_InvalidAmount : PySem.W.subIn K (.ref C_InvalidAmount) (.type "BaseException") = some true)
    (t_InvalidAmount : PySem.W.typeIn K (.ref C_InvalidAmount) = some (.type "type"))
    (h_InvalidAmount : PySem.W.hasDictIn K C_InvalidAmount = true)
    (y_InvalidAmount : PySem.W.isClsIn K C_InvalidAmount = true)
    (a_InvalidNumber : PySem.W.nsIn K mainGlobals "InvalidNumber" = some (some (.ref C_InvalidNumber)))
    (x_InvalidNumber : K.lookup C_InvalidNumber = some (excClassObj nm_InvalidNumber q_InvalidNumber C_InvalidNumber N_InvalidNumber bs_InvalidNumber (.ref w0_InvalidNumber :: [.type "ValueError", .type "Exception", .type "BaseException", .type "object"]) true sn_InvalidNumber sub_InvalidNumber ab_InvalidNumber col_InvalidNumber dd_InvalidNumber m0_InvalidNumber m1_InvalidNumber m2_InvalidNumber m3_InvalidNumber m5_InvalidNumber "ValueError.__new__"))
    (sa_InvalidNumber : PySem.W.findIn K (.ref C_InvalidNumber) "__setattr__" = some (some (.builtin "object.__setattr__")))
    (ga_InvalidNumber : PySem.W.findIn K (.ref C_InvalidNumber) "__getattribute__" = some (some (.builtin "BaseException.__getattribute__")))
    (gg_InvalidNumber : PySem.W.findIn K (.ref C_InvalidNumber) "__getattr__" = some none)
    (nf_InvalidNumber : PySem.W.findIn K (.ref C_InvalidNumber) "given" = some none)
    (ii_InvalidNumber : PySem.W.findIn K (.ref C_InvalidNumber) "__init__" = some (some (.ref i_InvalidNumber)))
    (ti_InvalidNumber : PySem.W.typeIn K (.ref i_InvalidNumber) = some (.type "function"))
    (l_InvalidNumber : K.lookup i_InvalidNumber = some ⟨oc_InvalidNumber, od_InvalidNumber, .func (PySem.W.fnOf "__init__" "InvalidNumber.__init__" (defArgs (inClass (top 9) 0)) (defBody (inClass (top 9) 0)) (defScope (inClass (top 9) 0)) .none .none dc_InvalidNumber pm_InvalidNumber an_InvalidNumber cd_InvalidNumber ct_InvalidNumber), sl_InvalidNumber⟩)
    (c_InvalidNumber : PySem.W.codeIn K cd_InvalidNumber "InvalidNumber.__init__" = true)
    (k_InvalidNumber : PySem.W.keepIn K (.ref C_InvalidNumber) = true)
    (e_InvalidNumber : PySem.W.subIn K (.ref C_InvalidNumber) (.type "BaseException") = some true)
    (t_InvalidNumber : PySem.W.typeIn K (.ref C_InvalidNumber) = some (.type "type"))
    (h_InvalidNumber : PySem.W.hasDictIn K C_InvalidNumber = true)
    (y_InvalidNumber : PySem.W.isClsIn K C_InvalidNumber = true)
    (a_InvalidWish : PySem.W.nsIn K mainGlobals "InvalidWish" = some (some (.ref C_InvalidWish)))
    (x_InvalidWish : K.lookup C_InvalidWish = some (excClassObj nm_InvalidWish q_InvalidWish C_InvalidWish N_InvalidWish bs_InvalidWish (.ref w0_InvalidWish :: [.type "ValueError", .type "Exception", .type "BaseException", .type "object"]) true sn_InvalidWish sub_InvalidWish ab_InvalidWish col_InvalidWish dd_InvalidWish m0_InvalidWish m1_InvalidWish m2_InvalidWish m3_InvalidWish m5_InvalidWish "ValueError.__new__"))
    (sa_InvalidWish : PySem.W.findIn K (.ref C_InvalidWish) "__setattr__" = some (some (.builtin "object.__setattr__")))
    (ga_InvalidWish : PySem.W.findIn K (.ref C_InvalidWish) "__getattribute__" = some (some (.builtin "BaseException.__getattribute__")))
    (gg_InvalidWish : PySem.W.findIn K (.ref C_InvalidWish) "__getattr__" = some none)
    (nf_InvalidWish : PySem.W.findIn K (.ref C_InvalidWish) "given" = some none)
    (ii_InvalidWish : PySem.W.findIn K (.ref C_InvalidWish) "__init__" = some (some (.ref i_InvalidWish)))
    (ti_InvalidWish : PySem.W.typeIn K (.ref i_InvalidWish) = some (.type "function"))
    (l_InvalidWish : K.lookup i_InvalidWish = some ⟨oc_InvalidWish, od_InvalidWish, .func (PySem.W.fnOf "__init__" "InvalidWish.__init__" (defArgs (inClass (top 10) 0)) (defBody (inClass (top 10) 0)) (defScope (inClass (top 10) 0)) .none .none dc_InvalidWish pm_InvalidWish an_InvalidWish cd_InvalidWish ct_InvalidWish), sl_InvalidWish⟩)
    (c_InvalidWish : PySem.W.codeIn K cd_InvalidWish "InvalidWish.__init__" = true)
    (k_InvalidWish : PySem.W.keepIn K (.ref C_InvalidWish) = true)
    (e_InvalidWish : PySem.W.subIn K (.ref C_InvalidWish) (.type "BaseException") = some true)
    (t_InvalidWish : PySem.W.typeIn K (.ref C_InvalidWish) = some (.type "type"))
    (h_InvalidWish : PySem.W.hasDictIn K C_InvalidWish = true)
    (y_InvalidWish : PySem.W.isClsIn K C_InvalidWish = true)
    (a_InvalidIndex : PySem.W.nsIn K mainGlobals "InvalidIndex" = some (some (.ref C_InvalidIndex)))
    (x_InvalidIndex : K.lookup C_InvalidIndex = some (excClassObj nm_InvalidIndex q_InvalidIndex C_InvalidIndex N_InvalidIndex bs_InvalidIndex (.ref w0_InvalidIndex :: [.type "ValueError", .type "Exception", .type "BaseException", .type "object"]) true sn_InvalidIndex sub_InvalidIndex ab_InvalidIndex col_InvalidIndex dd_InvalidIndex m0_InvalidIndex m1_InvalidIndex m2_InvalidIndex m3_InvalidIndex m5_InvalidIndex "ValueError.__new__"))
    (sa_InvalidIndex : PySem.W.findIn K (.ref C_InvalidIndex) "__setattr__" = some (some (.builtin "object.__setattr__")))
    (ga_InvalidIndex : PySem.W.findIn K (.ref C_InvalidIndex) "__getattribute__" = some (some (.builtin "BaseException.__getattribute__")))
    (gg_InvalidIndex : PySem.W.findIn K (.ref C_InvalidIndex) "__getattr__" = some none)
    (nf_InvalidIndex : PySem.W.findIn K (.ref C_InvalidIndex) "given" = some none)
    (ii_InvalidIndex : PySem.W.findIn K (.ref C_InvalidIndex) "__init__" = some (some (.ref i_InvalidIndex)))
    (ti_InvalidIndex : PySem.W.typeIn K (.ref i_InvalidIndex) = some (.type "function"))
    (l_InvalidIndex : K.lookup i_InvalidIndex = some ⟨oc_InvalidIndex, od_InvalidIndex, .func (PySem.W.fnOf "__init__" "InvalidIndex.__init__" (defArgs (inClass (top 11) 0)) (defBody (inClass (top 11) 0)) (defScope (inClass (top 11) 0)) .none .none dc_InvalidIndex pm_InvalidIndex an_InvalidIndex cd_InvalidIndex ct_InvalidIndex), sl_InvalidIndex⟩)
    (c_InvalidIndex : PySem.W.codeIn K cd_InvalidIndex "InvalidIndex.__init__" = true)
    (k_InvalidIndex : PySem.W.keepIn K (.ref C_InvalidIndex) = true)
    (e_InvalidIndex : PySem.W.subIn K (.ref C_InvalidIndex) (.type "BaseException") = some true)
    (t_InvalidIndex : PySem.W.typeIn K (.ref C_InvalidIndex) = some (.type "type"))
    (h_InvalidIndex : PySem.W.hasDictIn K C_InvalidIndex = true)
    (y_InvalidIndex : PySem.W.isClsIn K C_InvalidIndex = true)
    (a_NotBook : PySem.W.nsIn K mainGlobals "NotBook" = some (some (.ref C_NotBook)))
    (x_NotBook : K.lookup C_NotBook = some (excClassObj nm_NotBook q_NotBook C_NotBook N_NotBook bs_NotBook (.ref w0_NotBook :: [.type "ValueError", .type "Exception", .type "BaseException", .type "object"]) true sn_NotBook sub_NotBook ab_NotBook col_NotBook dd_NotBook m0_NotBook m1_NotBook m2_NotBook m3_NotBook m5_NotBook "ValueError.__new__"))
    (sa_NotBook : PySem.W.findIn K (.ref C_NotBook) "__setattr__" = some (some (.builtin "object.__setattr__")))
    (ga_NotBook : PySem.W.findIn K (.ref C_NotBook) "__getattribute__" = some (some (.builtin "BaseException.__getattribute__")))
    (gg_NotBook : PySem.W.findIn K (.ref C_NotBook) "__getattr__" = some none)
    (nf_NotBook : PySem.W.findIn K (.ref C_NotBook) "given" = some none)
    (ii_NotBook : PySem.W.findIn K (.ref C_NotBook) "__init__" = some (some (.ref i_NotBook)))
    (ti_NotBook : PySem.W.typeIn K (.ref i_NotBook) = some (.type "function"))
    (l_NotBook : K.lookup i_NotBook = some ⟨oc_NotBook, od_NotBook, .func (PySem.W.fnOf "__init__" "NotBook.__init__" (defArgs (inClass (top 12) 0)) (defBody (inClass (top 12) 0)) (defScope (inClass (top 12) 0)) .none .none dc_NotBook pm_NotBook an_NotBook cd_NotBook ct_NotBook), sl_NotBook⟩)
    (c_NotBook : PySem.W.codeIn K cd_NotBook "NotBook.__init__" = true)
    (k_NotBook : PySem.W.keepIn K (.ref C_NotBook) = true)
    (e_NotBook : PySem.W.subIn K (.ref C_NotBook) (.type "BaseException") = some true)
    (t_NotBook : PySem.W.typeIn K (.ref C_NotBook) = some (.type "type"))
    (h_NotBook : PySem.W.hasDictIn K C_NotBook = true)
    (y_NotBook : PySem.W.isClsIn K C_NotBook = true)
    (a_InvalidLedgers : PySem.W.nsIn K mainGlobals "InvalidLedgers" = some (some (.ref C_InvalidLedgers)))
    (x_InvalidLedgers : K.lookup C_InvalidLedgers = some (excClassObj nm_InvalidLedgers q_InvalidLedgers C_InvalidLedgers N_InvalidLedgers bs_InvalidLedgers (.ref w0_InvalidLedgers :: [.type "ValueError", .type "Exception", .type "BaseException", .type "object"]) true sn_InvalidLedgers sub_InvalidLedgers ab_InvalidLedgers col_InvalidLedgers dd_InvalidLedgers m0_InvalidLedgers m1_InvalidLedgers m2_InvalidLedgers m3_InvalidLedgers m5_InvalidLedgers "ValueError.__new__"))
    (sa_InvalidLedgers : PySem.W.findIn K (.ref C_InvalidLedgers) "__setattr__" = some (some (.builtin "object.__setattr__")))
    (ga_InvalidLedgers : PySem.W.findIn K (.ref C_InvalidLedgers) "__getattribute__" = some (some (.builtin "BaseException.__getattribute__")))
    (gg_InvalidLedgers : PySem.W.findIn K (.ref C_InvalidLedgers) "__getattr__" = some none)
    (nf_InvalidLedgers : PySem.W.findIn K (.ref C_InvalidLedgers) "index" = some none)
    (ii_InvalidLedgers : PySem.W.findIn K (.ref C_InvalidLedgers) "__init__" = some (some (.ref i_InvalidLedgers)))
    (ti_InvalidLedgers : PySem.W.typeIn K (.ref i_InvalidLedgers) = some (.type "function"))
    (l_InvalidLedgers : K.lookup i_InvalidLedgers = some ⟨oc_InvalidLedgers, od_InvalidLedgers, .func (PySem.W.fnOf "__init__" "InvalidLedgers.__init__" (defArgs (inClass (top 13) 0)) (defBody (inClass (top 13) 0)) (defScope (inClass (top 13) 0)) .none .none dc_InvalidLedgers pm_InvalidLedgers an_InvalidLedgers cd_InvalidLedgers ct_InvalidLedgers), sl_InvalidLedgers⟩)
    (c_InvalidLedgers : PySem.W.codeIn K cd_InvalidLedgers "InvalidLedgers.__init__" = true)
    (k_InvalidLedgers : PySem.W.keepIn K (.ref C_InvalidLedgers) = true)
    (e_InvalidLedgers : PySem.W.subIn K (.ref C_InvalidLedgers) (.type "BaseException") = some true)
    (t_InvalidLedgers : PySem.W.typeIn K (.ref C_InvalidLedgers) = some (.type "type"))
    (h_InvalidLedgers : PySem.W.hasDictIn K C_InvalidLedgers = true)
    (y_InvalidLedgers : PySem.W.isClsIn K C_InvalidLedgers = true)
    (a_InvalidRules : PySem.W.nsIn K mainGlobals "InvalidRules" = some (some (.ref C_InvalidRules)))
    (x_InvalidRules : K.lookup C_InvalidRules = some (excClassObj nm_InvalidRules q_InvalidRules C_InvalidRules N_InvalidRules bs_InvalidRules (.ref w0_InvalidRules :: [.type "ValueError", .type "Exception", .type "BaseException", .type "object"]) true sn_InvalidRules sub_InvalidRules ab_InvalidRules col_InvalidRules dd_InvalidRules m0_InvalidRules m1_InvalidRules m2_InvalidRules m3_InvalidRules m5_InvalidRules "ValueError.__new__"))
    (sa_InvalidRules : PySem.W.findIn K (.ref C_InvalidRules) "__setattr__" = some (some (.builtin "object.__setattr__")))
    (ga_InvalidRules : PySem.W.findIn K (.ref C_InvalidRules) "__getattribute__" = some (some (.builtin "BaseException.__getattribute__")))
    (gg_InvalidRules : PySem.W.findIn K (.ref C_InvalidRules) "__getattr__" = some none)
    (nf_InvalidRules : PySem.W.findIn K (.ref C_InvalidRules) "index" = some none)
    (ii_InvalidRules : PySem.W.findIn K (.ref C_InvalidRules) "__init__" = some (some (.ref i_InvalidRules)))
    (ti_InvalidRules : PySem.W.typeIn K (.ref i_InvalidRules) = some (.type "function"))
    (l_InvalidRules : K.lookup i_InvalidRules = some ⟨oc_InvalidRules, od_InvalidRules, .func (PySem.W.fnOf "__init__" "InvalidRules.__init__" (defArgs (inClass (top 14) 0)) (defBody (inClass (top 14) 0)) (defScope (inClass (top 14) 0)) .none .none dc_InvalidRules pm_InvalidRules an_InvalidRules cd_InvalidRules ct_InvalidRules), sl_InvalidRules⟩)
    (c_InvalidRules : PySem.W.codeIn K cd_InvalidRules "InvalidRules.__init__" = true)
    (k_InvalidRules : PySem.W.keepIn K (.ref C_InvalidRules) = true)
    (e_InvalidRules : PySem.W.subIn K (.ref C_InvalidRules) (.type "BaseException") = some true)
    (t_InvalidRules : PySem.W.typeIn K (.ref C_InvalidRules) = some (.type "type"))
    (h_InvalidRules : PySem.W.hasDictIn K C_InvalidRules = true)
    (y_InvalidRules : PySem.W.isClsIn K C_InvalidRules = true)
    (a_InvalidWay : PySem.W.nsIn K mainGlobals "InvalidWay" = some (some (.ref C_InvalidWay)))
    (x_InvalidWay : K.lookup C_InvalidWay = some (excClassObj nm_InvalidWay q_InvalidWay C_InvalidWay N_InvalidWay bs_InvalidWay (.ref w0_InvalidWay :: [.type "ValueError", .type "Exception", .type "BaseException", .type "object"]) true sn_InvalidWay sub_InvalidWay ab_InvalidWay col_InvalidWay dd_InvalidWay m0_InvalidWay m1_InvalidWay m2_InvalidWay m3_InvalidWay m5_InvalidWay "ValueError.__new__"))
    (sa_InvalidWay : PySem.W.findIn K (.ref C_InvalidWay) "__setattr__" = some (some (.builtin "object.__setattr__")))
    (ga_InvalidWay : PySem.W.findIn K (.ref C_InvalidWay) "__getattribute__" = some (some (.builtin "BaseException.__getattribute__")))
    (gg_InvalidWay : PySem.W.findIn K (.ref C_InvalidWay) "__getattr__" = some none)
    (nf_InvalidWay : PySem.W.findIn K (.ref C_InvalidWay) "index" = some none)
    (ii_InvalidWay : PySem.W.findIn K (.ref C_InvalidWay) "__init__" = some (some (.ref i_InvalidWay)))
    (ti_InvalidWay : PySem.W.typeIn K (.ref i_InvalidWay) = some (.type "function"))
    (l_InvalidWay : K.lookup i_InvalidWay = some ⟨oc_InvalidWay, od_InvalidWay, .func (PySem.W.fnOf "__init__" "InvalidWay.__init__" (defArgs (inClass (top 15) 0)) (defBody (inClass (top 15) 0)) (defScope (inClass (top 15) 0)) .none .none dc_InvalidWay pm_InvalidWay an_InvalidWay cd_InvalidWay ct_InvalidWay), sl_InvalidWay⟩)
    (c_InvalidWay : PySem.W.codeIn K cd_InvalidWay "InvalidWay.__init__" = true)
    (k_InvalidWay : PySem.W.keepIn K (.ref C_InvalidWay) = true)
    (e_InvalidWay : PySem.W.subIn K (.ref C_InvalidWay) (.type "BaseException") = some true)
    (t_InvalidWay : PySem.W.typeIn K (.ref C_InvalidWay) = some (.type "type"))
    (h_InvalidWay : PySem.W.hasDictIn K C_InvalidWay = true)
    (y_InvalidWay : PySem.W.isClsIn K C_InvalidWay = true)
    (a_InvalidChanges : PySem.W.nsIn K mainGlobals "InvalidChanges" = some (some (.ref C_InvalidChanges)))
    (x_InvalidChanges : K.lookup C_InvalidChanges = some (excClassObj nm_InvalidChanges q_InvalidChanges C_InvalidChanges N_InvalidChanges bs_InvalidChanges (.ref w0_InvalidChanges :: [.type "ValueError", .type "Exception", .type "BaseException", .type "object"]) true sn_InvalidChanges sub_InvalidChanges ab_InvalidChanges col_InvalidChanges dd_InvalidChanges m0_InvalidChanges m1_InvalidChanges m2_InvalidChanges m3_InvalidChanges m5_InvalidChanges "ValueError.__new__"))
    (sa_InvalidChanges : PySem.W.findIn K (.ref C_InvalidChanges) "__setattr__" = some (some (.builtin "object.__setattr__")))
    (ga_InvalidChanges : PySem.W.findIn K (.ref C_InvalidChanges) "__getattribute__" = some (some (.builtin "BaseException.__getattribute__")))
    (gg_InvalidChanges : PySem.W.findIn K (.ref C_InvalidChanges) "__getattr__" = some none)
    (nf_InvalidChanges : PySem.W.findIn K (.ref C_InvalidChanges) "index" = some none)
    (ii_InvalidChanges : PySem.W.findIn K (.ref C_InvalidChanges) "__init__" = some (some (.ref i_InvalidChanges)))
    (ti_InvalidChanges : PySem.W.typeIn K (.ref i_InvalidChanges) = some (.type "function"))
    (l_InvalidChanges : K.lookup i_InvalidChanges = some ⟨oc_InvalidChanges, od_InvalidChanges, .func (PySem.W.fnOf "__init__" "InvalidChanges.__init__" (defArgs (inClass (top 16) 0)) (defBody (inClass (top 16) 0)) (defScope (inClass (top 16) 0)) .none .none dc_InvalidChanges pm_InvalidChanges an_InvalidChanges cd_InvalidChanges ct_InvalidChanges), sl_InvalidChanges⟩)
    (c_InvalidChanges : PySem.W.codeIn K cd_InvalidChanges "InvalidChanges.__init__" = true)
    (k_InvalidChanges : PySem.W.keepIn K (.ref C_InvalidChanges) = true)
    (e_InvalidChanges : PySem.W.subIn K (.ref C_InvalidChanges) (.type "BaseException") = some true)
    (t_InvalidChanges : PySem.W.typeIn K (.ref C_InvalidChanges) = some (.type "type"))
    (h_InvalidChanges : PySem.W.hasDictIn K C_InvalidChanges = true)
    (y_InvalidChanges : PySem.W.isClsIn K C_InvalidChanges = true)
    (a_InvalidWishes : PySem.W.nsIn K mainGlobals "InvalidWishes" = some (some (.ref C_InvalidWishes)))
    (x_InvalidWishes : K.lookup C_InvalidWishes = some (excClassObj nm_InvalidWishes q_InvalidWishes C_InvalidWishes N_InvalidWishes bs_InvalidWishes (.ref w0_InvalidWishes :: [.type "ValueError", .type "Exception", .type "BaseException", .type "object"]) true sn_InvalidWishes sub_InvalidWishes ab_InvalidWishes col_InvalidWishes dd_InvalidWishes m0_InvalidWishes m1_InvalidWishes m2_InvalidWishes m3_InvalidWishes m5_InvalidWishes "ValueError.__new__"))
    (sa_InvalidWishes : PySem.W.findIn K (.ref C_InvalidWishes) "__setattr__" = some (some (.builtin "object.__setattr__")))
    (ga_InvalidWishes : PySem.W.findIn K (.ref C_InvalidWishes) "__getattribute__" = some (some (.builtin "BaseException.__getattribute__")))
    (gg_InvalidWishes : PySem.W.findIn K (.ref C_InvalidWishes) "__getattr__" = some none)
    (nf_InvalidWishes : PySem.W.findIn K (.ref C_InvalidWishes) "index" = some none)
    (ii_InvalidWishes : PySem.W.findIn K (.ref C_InvalidWishes) "__init__" = some (some (.ref i_InvalidWishes)))
    (ti_InvalidWishes : PySem.W.typeIn K (.ref i_InvalidWishes) = some (.type "function"))
    (l_InvalidWishes : K.lookup i_InvalidWishes = some ⟨oc_InvalidWishes, od_InvalidWishes, .func (PySem.W.fnOf "__init__" "InvalidWishes.__init__" (defArgs (inClass (top 17) 0)) (defBody (inClass (top 17) 0)) (defScope (inClass (top 17) 0)) .none .none dc_InvalidWishes pm_InvalidWishes an_InvalidWishes cd_InvalidWishes ct_InvalidWishes), sl_InvalidWishes⟩)
    (c_InvalidWishes : PySem.W.codeIn K cd_InvalidWishes "InvalidWishes.__init__" = true)
    (k_InvalidWishes : PySem.W.keepIn K (.ref C_InvalidWishes) = true)
    (e_InvalidWishes : PySem.W.subIn K (.ref C_InvalidWishes) (.type "BaseException") = some true)
    (t_InvalidWishes : PySem.W.typeIn K (.ref C_InvalidWishes) = some (.type "type"))
    (h_InvalidWishes : PySem.W.hasDictIn K C_InvalidWishes = true)
    (y_InvalidWishes : PySem.W.isClsIn K C_InvalidWishes = true)
    (a_UnknownName : PySem.W.nsIn K mainGlobals "UnknownName" = some (some (.ref C_UnknownName)))
    (x_UnknownName : K.lookup C_UnknownName = some (excClassObj nm_UnknownName q_UnknownName C_UnknownName N_UnknownName bs_UnknownName (.ref w0_UnknownName :: [.type "LookupError", .type "Exception", .type "BaseException", .type "object"]) true sn_UnknownName sub_UnknownName ab_UnknownName col_UnknownName dd_UnknownName m0_UnknownName m1_UnknownName m2_UnknownName m3_UnknownName m5_UnknownName "LookupError.__new__"))
    (sa_UnknownName : PySem.W.findIn K (.ref C_UnknownName) "__setattr__" = some (some (.builtin "object.__setattr__")))
    (ga_UnknownName : PySem.W.findIn K (.ref C_UnknownName) "__getattribute__" = some (some (.builtin "BaseException.__getattribute__")))
    (gg_UnknownName : PySem.W.findIn K (.ref C_UnknownName) "__getattr__" = some none)
    (nf_UnknownName : PySem.W.findIn K (.ref C_UnknownName) "given" = some none)
    (ii_UnknownName : PySem.W.findIn K (.ref C_UnknownName) "__init__" = some (some (.ref i_UnknownName)))
    (ti_UnknownName : PySem.W.typeIn K (.ref i_UnknownName) = some (.type "function"))
    (l_UnknownName : K.lookup i_UnknownName = some ⟨oc_UnknownName, od_UnknownName, .func (PySem.W.fnOf "__init__" "UnknownName.__init__" (defArgs (inClass (top 19) 0)) (defBody (inClass (top 19) 0)) (defScope (inClass (top 19) 0)) .none .none dc_UnknownName pm_UnknownName an_UnknownName cd_UnknownName ct_UnknownName), sl_UnknownName⟩)
    (c_UnknownName : PySem.W.codeIn K cd_UnknownName "UnknownName.__init__" = true)
    (k_UnknownName : PySem.W.keepIn K (.ref C_UnknownName) = true)
    (e_UnknownName : PySem.W.subIn K (.ref C_UnknownName) (.type "BaseException") = some true)
    (t_UnknownName : PySem.W.typeIn K (.ref C_UnknownName) = some (.type "type"))
    (h_UnknownName : PySem.W.hasDictIn K C_UnknownName = true)
    (y_UnknownName : PySem.W.isClsIn K C_UnknownName = true)
    (a_InUse : PySem.W.nsIn K mainGlobals "InUse" = some (some (.ref C_InUse)))
    (x_InUse : K.lookup C_InUse = some (excClassObj nm_InUse q_InUse C_InUse N_InUse bs_InUse (.ref w0_InUse :: [.type "LookupError", .type "Exception", .type "BaseException", .type "object"]) true sn_InUse sub_InUse ab_InUse col_InUse dd_InUse m0_InUse m1_InUse m2_InUse m3_InUse m5_InUse "LookupError.__new__"))
    (sa_InUse : PySem.W.findIn K (.ref C_InUse) "__setattr__" = some (some (.builtin "object.__setattr__")))
    (ga_InUse : PySem.W.findIn K (.ref C_InUse) "__getattribute__" = some (some (.builtin "BaseException.__getattribute__")))
    (gg_InUse : PySem.W.findIn K (.ref C_InUse) "__getattr__" = some none)
    (nf_InUse : PySem.W.findIn K (.ref C_InUse) "index" = some none)
    (ii_InUse : PySem.W.findIn K (.ref C_InUse) "__init__" = some (some (.ref i_InUse)))
    (ti_InUse : PySem.W.typeIn K (.ref i_InUse) = some (.type "function"))
    (l_InUse : K.lookup i_InUse = some ⟨oc_InUse, od_InUse, .func (PySem.W.fnOf "__init__" "InUse.__init__" (defArgs (inClass (top 20) 0)) (defBody (inClass (top 20) 0)) (defScope (inClass (top 20) 0)) .none .none dc_InUse pm_InUse an_InUse cd_InUse ct_InUse), sl_InUse⟩)
    (c_InUse : PySem.W.codeIn K cd_InUse "InUse.__init__" = true)
    (k_InUse : PySem.W.keepIn K (.ref C_InUse) = true)
    (e_InUse : PySem.W.subIn K (.ref C_InUse) (.type "BaseException") = some true)
    (t_InUse : PySem.W.typeIn K (.ref C_InUse) = some (.type "type"))
    (h_InUse : PySem.W.hasDictIn K C_InUse = true)
    (y_InUse : PySem.W.isClsIn K C_InUse = true)
    (a_OtherLedgers : PySem.W.nsIn K mainGlobals "OtherLedgers" = some (some (.ref C_OtherLedgers)))
    (x_OtherLedgers : K.lookup C_OtherLedgers = some (excClassObj nm_OtherLedgers q_OtherLedgers C_OtherLedgers N_OtherLedgers bs_OtherLedgers (.ref w0_OtherLedgers :: [.type "ArithmeticError", .type "Exception", .type "BaseException", .type "object"]) true sn_OtherLedgers sub_OtherLedgers ab_OtherLedgers col_OtherLedgers dd_OtherLedgers m0_OtherLedgers m1_OtherLedgers m2_OtherLedgers m3_OtherLedgers m5_OtherLedgers "ArithmeticError.__new__"))
    (sa_OtherLedgers : PySem.W.findIn K (.ref C_OtherLedgers) "__setattr__" = some (some (.builtin "object.__setattr__")))
    (ga_OtherLedgers : PySem.W.findIn K (.ref C_OtherLedgers) "__getattribute__" = some (some (.builtin "BaseException.__getattribute__")))
    (gg_OtherLedgers : PySem.W.findIn K (.ref C_OtherLedgers) "__getattr__" = some none)
    (nf_OtherLedgers : PySem.W.findIn K (.ref C_OtherLedgers) "given" = some none)
    (ii_OtherLedgers : PySem.W.findIn K (.ref C_OtherLedgers) "__init__" = some (some (.ref i_OtherLedgers)))
    (ti_OtherLedgers : PySem.W.typeIn K (.ref i_OtherLedgers) = some (.type "function"))
    (l_OtherLedgers : K.lookup i_OtherLedgers = some ⟨oc_OtherLedgers, od_OtherLedgers, .func (PySem.W.fnOf "__init__" "OtherLedgers.__init__" (defArgs (inClass (top 22) 0)) (defBody (inClass (top 22) 0)) (defScope (inClass (top 22) 0)) .none .none dc_OtherLedgers pm_OtherLedgers an_OtherLedgers cd_OtherLedgers ct_OtherLedgers), sl_OtherLedgers⟩)
    (c_OtherLedgers : PySem.W.codeIn K cd_OtherLedgers "OtherLedgers.__init__" = true)
    (k_OtherLedgers : PySem.W.keepIn K (.ref C_OtherLedgers) = true)
    (e_OtherLedgers : PySem.W.subIn K (.ref C_OtherLedgers) (.type "BaseException") = some true)
    (t_OtherLedgers : PySem.W.typeIn K (.ref C_OtherLedgers) = some (.type "type"))
    (h_OtherLedgers : PySem.W.hasDictIn K C_OtherLedgers = true)
    (y_OtherLedgers : PySem.W.isClsIn K C_OtherLedgers = true)
    (a_NotOpen : PySem.W.nsIn K mainGlobals "NotOpen" = some (some (.ref C_NotOpen)))
    (x_NotOpen : K.lookup C_NotOpen = some (excClassObj nm_NotOpen q_NotOpen C_NotOpen N_NotOpen bs_NotOpen (.ref w0_NotOpen :: [.type "ArithmeticError", .type "Exception", .type "BaseException", .type "object"]) true sn_NotOpen sub_NotOpen ab_NotOpen col_NotOpen dd_NotOpen m0_NotOpen m1_NotOpen m2_NotOpen m3_NotOpen m5_NotOpen "ArithmeticError.__new__"))
    (sa_NotOpen : PySem.W.findIn K (.ref C_NotOpen) "__setattr__" = some (some (.builtin "object.__setattr__")))
    (ga_NotOpen : PySem.W.findIn K (.ref C_NotOpen) "__getattribute__" = some (some (.builtin "BaseException.__getattribute__")))
    (gg_NotOpen : PySem.W.findIn K (.ref C_NotOpen) "__getattr__" = some none)
    (nf_NotOpen : PySem.W.findIn K (.ref C_NotOpen) "index" = some none)
    (ii_NotOpen : PySem.W.findIn K (.ref C_NotOpen) "__init__" = some (some (.ref i_NotOpen)))
    (ti_NotOpen : PySem.W.typeIn K (.ref i_NotOpen) = some (.type "function"))
    (l_NotOpen : K.lookup i_NotOpen = some ⟨oc_NotOpen, od_NotOpen, .func (PySem.W.fnOf "__init__" "NotOpen.__init__" (defArgs (inClass (top 23) 0)) (defBody (inClass (top 23) 0)) (defScope (inClass (top 23) 0)) .none .none dc_NotOpen pm_NotOpen an_NotOpen cd_NotOpen ct_NotOpen), sl_NotOpen⟩)
    (c_NotOpen : PySem.W.codeIn K cd_NotOpen "NotOpen.__init__" = true)
    (k_NotOpen : PySem.W.keepIn K (.ref C_NotOpen) = true)
    (e_NotOpen : PySem.W.subIn K (.ref C_NotOpen) (.type "BaseException") = some true)
    (t_NotOpen : PySem.W.typeIn K (.ref C_NotOpen) = some (.type "type"))
    (h_NotOpen : PySem.W.hasDictIn K C_NotOpen = true)
    (y_NotOpen : PySem.W.isClsIn K C_NotOpen = true)
    (a_Broken : PySem.W.nsIn K mainGlobals "Broken" = some (some (.ref C_Broken)))
    (x_Broken : K.lookup C_Broken = some (excClassObj nm_Broken q_Broken C_Broken N_Broken bs_Broken (.ref w0_Broken :: [.type "ArithmeticError", .type "Exception", .type "BaseException", .type "object"]) true sn_Broken sub_Broken ab_Broken col_Broken dd_Broken m0_Broken m1_Broken m2_Broken m3_Broken m5_Broken "ArithmeticError.__new__"))
    (sa_Broken : PySem.W.findIn K (.ref C_Broken) "__setattr__" = some (some (.builtin "object.__setattr__")))
    (ga_Broken : PySem.W.findIn K (.ref C_Broken) "__getattribute__" = some (some (.builtin "BaseException.__getattribute__")))
    (gg_Broken : PySem.W.findIn K (.ref C_Broken) "__getattr__" = some none)
    (nf_Broken : PySem.W.findIn K (.ref C_Broken) "index" = some none)
    (ii_Broken : PySem.W.findIn K (.ref C_Broken) "__init__" = some (some (.ref i_Broken)))
    (ti_Broken : PySem.W.typeIn K (.ref i_Broken) = some (.type "function"))
    (l_Broken : K.lookup i_Broken = some ⟨oc_Broken, od_Broken, .func (PySem.W.fnOf "__init__" "Broken.__init__" (defArgs (inClass (top 25) 0)) (defBody (inClass (top 25) 0)) (defScope (inClass (top 25) 0)) .none .none dc_Broken pm_Broken an_Broken cd_Broken ct_Broken), sl_Broken⟩)
    (c_Broken : PySem.W.codeIn K cd_Broken "Broken.__init__" = true)
    (k_Broken : PySem.W.keepIn K (.ref C_Broken) = true)
    (e_Broken : PySem.W.subIn K (.ref C_Broken) (.type "BaseException") = some true)
    (t_Broken : PySem.W.typeIn K (.ref C_Broken) = some (.type "type"))
    (h_Broken : PySem.W.hasDictIn K C_Broken = true)
    (y_Broken : PySem.W.isClsIn K C_Broken = true)
    (a_WrongValue : PySem.W.nsIn K mainGlobals "WrongValue" = some (some (.ref C_WrongValue)))
    (e_WrongValue : PySem.W.subIn K (.ref C_WrongValue) (.type "BaseException") = some true)
    (t_WrongValue : PySem.W.typeIn K (.ref C_WrongValue) = some (.type "type"))
    (y_WrongValue : PySem.W.isClsIn K C_WrongValue = true)
    (s_InvalidName_WrongValue : PySem.W.subIn K (.ref C_InvalidName) (.ref C_WrongValue) = some true)
    (s_InvalidWorth_WrongValue : PySem.W.subIn K (.ref C_InvalidWorth) (.ref C_WrongValue) = some true)
    (s_InvalidRounding_WrongValue : PySem.W.subIn K (.ref C_InvalidRounding) (.ref C_WrongValue) = some true)
    (s_InvalidCharge_WrongValue : PySem.W.subIn K (.ref C_InvalidCharge) (.ref C_WrongValue) = some true)
    (s_InvalidLeast_WrongValue : PySem.W.subIn K (.ref C_InvalidLeast) (.ref C_WrongValue) = some true)
    (s_InvalidText_WrongValue : PySem.W.subIn K (.ref C_InvalidText) (.ref C_WrongValue) = some true)
    (s_InvalidAmount_WrongValue : PySem.W.subIn K (.ref C_InvalidAmount) (.ref C_WrongValue) = some true)
    (s_InvalidNumber_WrongValue : PySem.W.subIn K (.ref C_InvalidNumber) (.ref C_WrongValue) = some true)
    (s_InvalidWish_WrongValue : PySem.W.subIn K (.ref C_InvalidWish) (.ref C_WrongValue) = some true)
    (s_InvalidIndex_WrongValue : PySem.W.subIn K (.ref C_InvalidIndex) (.ref C_WrongValue) = some true)
    (s_NotBook_WrongValue : PySem.W.subIn K (.ref C_NotBook) (.ref C_WrongValue) = some true)
    (s_InvalidLedgers_WrongValue : PySem.W.subIn K (.ref C_InvalidLedgers) (.ref C_WrongValue) = some true)
    (s_InvalidRules_WrongValue : PySem.W.subIn K (.ref C_InvalidRules) (.ref C_WrongValue) = some true)
    (s_InvalidWay_WrongValue : PySem.W.subIn K (.ref C_InvalidWay) (.ref C_WrongValue) = some true)
    (s_InvalidChanges_WrongValue : PySem.W.subIn K (.ref C_InvalidChanges) (.ref C_WrongValue) = some true)
    (s_InvalidWishes_WrongValue : PySem.W.subIn K (.ref C_InvalidWishes) (.ref C_WrongValue) = some true)
    (a_WrongName : PySem.W.nsIn K mainGlobals "WrongName" = some (some (.ref C_WrongName)))
    (e_WrongName : PySem.W.subIn K (.ref C_WrongName) (.type "BaseException") = some true)
    (t_WrongName : PySem.W.typeIn K (.ref C_WrongName) = some (.type "type"))
    (y_WrongName : PySem.W.isClsIn K C_WrongName = true)
    (s_UnknownName_WrongName : PySem.W.subIn K (.ref C_UnknownName) (.ref C_WrongName) = some true)
    (s_InUse_WrongName : PySem.W.subIn K (.ref C_InUse) (.ref C_WrongName) = some true)
    (a_NotPossible : PySem.W.nsIn K mainGlobals "NotPossible" = some (some (.ref C_NotPossible)))
    (e_NotPossible : PySem.W.subIn K (.ref C_NotPossible) (.type "BaseException") = some true)
    (t_NotPossible : PySem.W.typeIn K (.ref C_NotPossible) = some (.type "type"))
    (y_NotPossible : PySem.W.isClsIn K C_NotPossible = true)
    (s_OtherLedgers_NotPossible : PySem.W.subIn K (.ref C_OtherLedgers) (.ref C_NotPossible) = some true)
    (s_NotOpen_NotPossible : PySem.W.subIn K (.ref C_NotOpen) (.ref C_NotPossible) = some true)
    (s_Broken_NotPossible : PySem.W.subIn K (.ref C_Broken) (.ref C_NotPossible) = some true)
    (a_NothingToUndo : PySem.W.nsIn K mainGlobals "NothingToUndo" = some (some (.ref C_NothingToUndo)))
    (xq_NothingToUndo : (PySem.W.excIn K C_NothingToUndo [.type "ValueError", .type "Exception", .type "BaseException", .type "object"] "ValueError.__new__" || PySem.W.excIn K C_NothingToUndo [.type "LookupError", .type "Exception", .type "BaseException", .type "object"] "LookupError.__new__" || PySem.W.excIn K C_NothingToUndo [.type "ArithmeticError", .type "Exception", .type "BaseException", .type "object"] "ArithmeticError.__new__") = true)
    (k_NothingToUndo : PySem.W.keepIn K (.ref C_NothingToUndo) = true)
    (e_NothingToUndo : PySem.W.subIn K (.ref C_NothingToUndo) (.type "BaseException") = some true)
    (t_NothingToUndo : PySem.W.typeIn K (.ref C_NothingToUndo) = some (.type "type"))
    (y_NothingToUndo : PySem.W.isClsIn K C_NothingToUndo = true)
    (s_NothingToUndo : PySem.W.subIn K (.ref C_NothingToUndo) (.ref C_NothingToUndo) = some true)
    {t_1 t_2 t_3 t_4 : Tok}
    (v_ML : PySem.W.nsIn K mainGlobals "MOST_LEDGERS" = some (some (.int 4 t_1)))
    (v_MR : PySem.W.nsIn K mainGlobals "MOST_RULES" = some (some (.int 8 t_2)))
    (v_W : PySem.W.nsIn K mainGlobals "MOST_WORTH" = some (some (.int 24 t_3)))
    (v_MC : PySem.W.nsIn K mainGlobals "MOST_CHANGES" = some (some (.int 6 t_4)))
    (oc_n : PySem.W.specialIn K (.builtin "object.__class__") "__get__" = some (some (.builtin "getset_descriptor.__get__")))
    (oc_t : PySem.W.takesIn K (.builtin "object.__class__") = some true)
    (zk_1 : kitsB K [C_InvalidName, C_InvalidWorth, C_InvalidRounding, C_InvalidCharge, C_InvalidLeast, C_InvalidText, C_InvalidAmount, C_InvalidNumber, C_InvalidWish, C_InvalidIndex, C_NotBook, C_InvalidLedgers, C_InvalidRules, C_InvalidWay, C_InvalidChanges, C_InvalidWishes, C_UnknownName, C_InUse, C_OtherLedgers, C_NotOpen, C_NothingToUndo, C_Broken] = true)
    (zk_2 : basesB K [C_InvalidName, C_InvalidWorth, C_InvalidRounding, C_InvalidCharge, C_InvalidLeast, C_InvalidText, C_InvalidAmount, C_InvalidNumber, C_InvalidWish, C_InvalidIndex, C_NotBook, C_InvalidLedgers, C_InvalidRules, C_InvalidWay, C_InvalidChanges, C_InvalidWishes, C_UnknownName, C_InUse, C_OtherLedgers, C_NotOpen, C_NothingToUndo, C_Broken] [C_WrongValue, C_WrongName, C_NotPossible] = true)
    (zk_3 : kindsB K [C_InvalidName, C_InvalidWorth, C_InvalidRounding, C_InvalidCharge, C_InvalidLeast, C_InvalidText, C_InvalidAmount, C_InvalidNumber, C_InvalidWish, C_InvalidIndex, C_NotBook, C_InvalidLedgers, C_InvalidRules, C_InvalidWay, C_InvalidChanges, C_InvalidWishes, C_UnknownName, C_InUse, C_OtherLedgers, C_NotOpen, C_NothingToUndo, C_Broken] ["ValueError", "LookupError", "ArithmeticError"] = true)
    (zk_4 : excsB K [C_InvalidName, C_InvalidWorth, C_InvalidRounding, C_InvalidCharge, C_InvalidLeast, C_InvalidText, C_InvalidAmount, C_InvalidNumber, C_InvalidWish, C_InvalidIndex, C_NotBook, C_InvalidLedgers, C_InvalidRules, C_InvalidWay, C_InvalidChanges, C_InvalidWishes, C_UnknownName, C_InUse, C_OtherLedgers, C_NotOpen, C_NothingToUndo, C_Broken] = true)
    (zk_5 : fldsB K [C_InvalidName, C_InvalidWorth, C_InvalidRounding, C_InvalidCharge, C_InvalidLeast, C_InvalidText, C_InvalidAmount, C_InvalidNumber, C_InvalidWish, C_InvalidIndex, C_NotBook, C_InvalidLedgers, C_InvalidRules, C_InvalidWay, C_InvalidChanges, C_InvalidWishes, C_UnknownName, C_InUse, C_OtherLedgers, C_NotOpen, C_NothingToUndo, C_Broken] = true)
    :
    ∃ fd : FuncData, (∀ (s : Shared) (u : Value), BindsTo s fd ⟨[u], []⟩ [("_law_script", u)]) ∧ ∀ base : Heap, K.In base → base.Ns mainGlobals mg → FnG P w K mg base 5 fa fd ["_law_script"] (upSp K sp_law) := by
  have g_WrongValue : mg "WrongValue" = some (.ref C_WrongValue) := PySem.W.mg_of X G a_WrongValue
  have x_InvalidName_WrongValue := exm_ofB e_WrongValue y_WrongValue t_WrongValue s_InvalidName_WrongValue
  have x_InvalidWorth_WrongValue := exm_ofB e_WrongValue y_WrongValue t_WrongValue s_InvalidWorth_WrongValue
  have x_InvalidRounding_WrongValue := exm_ofB e_WrongValue y_WrongValue t_WrongValue s_InvalidRounding_WrongValue
  have x_InvalidCharge_WrongValue := exm_ofB e_WrongValue y_WrongValue t_WrongValue s_InvalidCharge_WrongValue
  have x_InvalidLeast_WrongValue := exm_ofB e_WrongValue y_WrongValue t_WrongValue s_InvalidLeast_WrongValue
  have x_InvalidText_WrongValue := exm_ofB e_WrongValue y_WrongValue t_WrongValue s_InvalidText_WrongValue
  have x_InvalidAmount_WrongValue := exm_ofB e_WrongValue y_WrongValue t_WrongValue s_InvalidAmount_WrongValue
  have x_InvalidNumber_WrongValue := exm_ofB e_WrongValue y_WrongValue t_WrongValue s_InvalidNumber_WrongValue
  have x_InvalidWish_WrongValue := exm_ofB e_WrongValue y_WrongValue t_WrongValue s_InvalidWish_WrongValue
  have x_InvalidIndex_WrongValue := exm_ofB e_WrongValue y_WrongValue t_WrongValue s_InvalidIndex_WrongValue
  have x_NotBook_WrongValue := exm_ofB e_WrongValue y_WrongValue t_WrongValue s_NotBook_WrongValue
  have x_InvalidLedgers_WrongValue := exm_ofB e_WrongValue y_WrongValue t_WrongValue s_InvalidLedgers_WrongValue
  have x_InvalidRules_WrongValue := exm_ofB e_WrongValue y_WrongValue t_WrongValue s_InvalidRules_WrongValue
  have x_InvalidWay_WrongValue := exm_ofB e_WrongValue y_WrongValue t_WrongValue s_InvalidWay_WrongValue
  have x_InvalidChanges_WrongValue := exm_ofB e_WrongValue y_WrongValue t_WrongValue s_InvalidChanges_WrongValue
  have x_InvalidWishes_WrongValue := exm_ofB e_WrongValue y_WrongValue t_WrongValue s_InvalidWishes_WrongValue
  have g_WrongName : mg "WrongName" = some (.ref C_WrongName) := PySem.W.mg_of X G a_WrongName
  have x_UnknownName_WrongName := exm_ofB e_WrongName y_WrongName t_WrongName s_UnknownName_WrongName
  have x_InUse_WrongName := exm_ofB e_WrongName y_WrongName t_WrongName s_InUse_WrongName
  have g_NotPossible : mg "NotPossible" = some (.ref C_NotPossible) := PySem.W.mg_of X G a_NotPossible
  have x_OtherLedgers_NotPossible := exm_ofB e_NotPossible y_NotPossible t_NotPossible s_OtherLedgers_NotPossible
  have x_NotOpen_NotPossible := exm_ofB e_NotPossible y_NotPossible t_NotPossible s_NotOpen_NotPossible
  have x_Broken_NotPossible := exm_ofB e_NotPossible y_NotPossible t_NotPossible s_Broken_NotPossible
  have D_law_seed : Dn K mg "_law_seed" "_law_seed" st_law_seed ps_law_seed f_law_seed _ := ⟨PySem.W.mg_of X G a_law_seed, funD_mk l_law_seed c_law_seed k_law_seed, (funD_mk l_law_seed c_law_seed k_law_seed).bindsN fun _ _ _ _ _ _ us hl => match us, hl with | [_, _], _ => rfl⟩
  have D_law_pool : Dn K mg "_law_pool" "_law_pool" st_law_pool ps_law_pool f_law_pool _ := ⟨PySem.W.mg_of X G a_law_pool, funD_mk l_law_pool c_law_pool k_law_pool, (funD_mk l_law_pool c_law_pool k_law_pool).bindsN fun _ _ _ _ _ _ us hl => match us, hl with | [_], _ => rfl⟩
  have D_law_draw : Dn K mg "_law_draw" "_law_draw" st_law_draw ps_law_draw f_law_draw _ := ⟨PySem.W.mg_of X G a_law_draw, funD_mk l_law_draw c_law_draw k_law_draw, (funD_mk l_law_draw c_law_draw k_law_draw).bindsN fun _ _ _ _ _ _ us hl => match us, hl with | [_, _], _ => rfl⟩
  have D_law_pick : Dn K mg "_law_pick" "_law_pick" st_law_pick ps_law_pick f_law_pick _ := ⟨PySem.W.mg_of X G a_law_pick, funD_mk l_law_pick c_law_pick k_law_pick, (funD_mk l_law_pick c_law_pick k_law_pick).bindsN fun _ _ _ _ _ _ us hl => match us, hl with | [_, _], _ => rfl⟩
  have D_law_odd : Dn K mg "_law_odd" "_law_odd" st_law_odd ps_law_odd f_law_odd _ := ⟨PySem.W.mg_of X G a_law_odd, funD_mk l_law_odd c_law_odd k_law_odd, (funD_mk l_law_odd c_law_odd k_law_odd).bindsN fun _ _ _ _ _ _ us hl => match us, hl with | [_], _ => rfl⟩
  have D_law_valued : Dn K mg "_law_valued" "_law_valued" st_law_valued ps_law_valued f_law_valued _ := ⟨PySem.W.mg_of X G a_law_valued, funD_mk l_law_valued c_law_valued k_law_valued, (funD_mk l_law_valued c_law_valued k_law_valued).bindsN fun _ _ _ _ _ _ us hl => match us, hl with | [_, _, _], _ => rfl⟩
  have D_law_indexed : Dn K mg "_law_indexed" "_law_indexed" st_law_indexed ps_law_indexed f_law_indexed _ := ⟨PySem.W.mg_of X G a_law_indexed, funD_mk l_law_indexed c_law_indexed k_law_indexed, (funD_mk l_law_indexed c_law_indexed k_law_indexed).bindsN fun _ _ _ _ _ _ us hl => match us, hl with | [_, _, _], _ => rfl⟩
  have D_law_sorts : Dn K mg "_law_sorts" "_law_sorts" st_law_sorts ps_law_sorts f_law_sorts _ := ⟨PySem.W.mg_of X G a_law_sorts, funD_mk l_law_sorts c_law_sorts k_law_sorts, (funD_mk l_law_sorts c_law_sorts k_law_sorts).bindsN fun _ _ _ _ _ _ us hl => match us, hl with | [_], _ => rfl⟩
  have D_law_bases : Dn K mg "_law_bases" "_law_bases" st_law_bases ps_law_bases f_law_bases _ := ⟨PySem.W.mg_of X G a_law_bases, funD_mk l_law_bases c_law_bases k_law_bases, (funD_mk l_law_bases c_law_bases k_law_bases).bindsN fun _ _ _ _ _ _ us hl => match us, hl with | [_], _ => rfl⟩
  have D_law_is_right : Dn K mg "_law_is_right" "_law_is_right" st_law_is_right ps_law_is_right f_law_is_right _ := ⟨PySem.W.mg_of X G a_law_is_right, funD_mk l_law_is_right c_law_is_right k_law_is_right, (funD_mk l_law_is_right c_law_is_right k_law_is_right).bindsN fun _ _ _ _ _ _ us hl => match us, hl with | [_, _, _], _ => rfl⟩
  have D_law_right : Dn K mg "_law_right" "_law_right" st_law_right ps_law_right f_law_right _ := ⟨PySem.W.mg_of X G a_law_right, funD_mk l_law_right c_law_right k_law_right, (funD_mk l_law_right c_law_right k_law_right).bindsN fun _ _ _ _ _ _ us hl => match us, hl with | [_], _ => rfl⟩
  have D_law : Dn K mg "law" "law" st_law ps_law f_law _ := ⟨PySem.W.mg_of X G a_law, funD_mk l_law c_law k_law, (funD_mk l_law c_law k_law).bindsN fun _ _ _ _ _ _ us hl => match us, hl with | [_], _ => rfl⟩
  have n_len : mg "len" = none := PySem.W.mg_none_of X G b_len
  have n_int : mg "int" = none := PySem.W.mg_none_of X G b_int
  have n_abs : mg "abs" = none := PySem.W.mg_none_of X G b_abs
  have n_divmod : mg "divmod" = none := PySem.W.mg_none_of X G b_divmod
  have n_str : mg "str" = none := PySem.W.mg_none_of X G b_str
  have n_isinstance : mg "isinstance" = none := PySem.W.mg_none_of X G b_isinstance
  have n_range : mg "range" = none := PySem.W.mg_none_of X G b_range
  have n_max : mg "max" = none := PySem.W.mg_none_of X G b_max
  have n_min : mg "min" = none := PySem.W.mg_none_of X G b_min
  have n_all : mg "all" = none := PySem.W.mg_none_of X G b_all
  have n_repr : mg "repr" = none := PySem.W.mg_none_of X G b_repr
  have n_ValueError : mg "ValueError" = none := PySem.W.mg_none_of X G b_ValueError
  have n_LookupError : mg "LookupError" = none := PySem.W.mg_none_of X G b_LookupError
  have n_ArithmeticError : mg "ArithmeticError" = none := PySem.W.mg_none_of X G b_ArithmeticError
  have E_InvalidName : PySem.ErD.ErrT K mg "InvalidName" "given" C_InvalidName i_InvalidName := ⟨.inl rfl, PySem.W.mg_of X G a_InvalidName, ⟨_, _, _, _, _, _, _, _, _, _, _, _, _, _, _, _, x_InvalidName, PySem.ErD.Bse.ve.own⟩, sa_InvalidName, ga_InvalidName, gg_InvalidName, nf_InvalidName, ii_InvalidName, ti_InvalidName, k_InvalidName, e_InvalidName, t_InvalidName, h_InvalidName, ⟨_, _, _, _, _, _, _, _, _, _, _, _, _, _, _, l_InvalidName, c_InvalidName⟩⟩
  have E_InvalidWorth : PySem.ErD.ErrT K mg "InvalidWorth" "given" C_InvalidWorth i_InvalidWorth := ⟨.inl rfl, PySem.W.mg_of X G a_InvalidWorth, ⟨_, _, _, _, _, _, _, _, _, _, _, _, _, _, _, _, x_InvalidWorth, PySem.ErD.Bse.ve.own⟩, sa_InvalidWorth, ga_InvalidWorth, gg_InvalidWorth, nf_InvalidWorth, ii_InvalidWorth, ti_InvalidWorth, k_InvalidWorth, e_InvalidWorth, t_InvalidWorth, h_InvalidWorth, ⟨_, _, _, _, _, _, _, _, _, _, _, _, _, _, _, l_InvalidWorth, c_InvalidWorth⟩⟩
  have E_InvalidRounding : PySem.ErD.ErrT K mg "InvalidRounding" "given" C_InvalidRounding i_InvalidRounding := ⟨.inl rfl, PySem.W.mg_of X G a_InvalidRounding, ⟨_, _, _, _, _, _, _, _, _, _, _, _, _, _, _, _, x_InvalidRounding, PySem.ErD.Bse.ve.own⟩, sa_InvalidRounding, ga_InvalidRounding, gg_InvalidRounding, nf_InvalidRounding, ii_InvalidRounding, ti_InvalidRounding, k_InvalidRounding, e_InvalidRounding, t_InvalidRounding, h_InvalidRounding, ⟨_, _, _, _, _, _, _, _, _, _, _, _, _, _, _, l_InvalidRounding, c_InvalidRounding⟩⟩
  have E_InvalidCharge : PySem.ErD.ErrT K mg "InvalidCharge" "given" C_InvalidCharge i_InvalidCharge := ⟨.inl rfl, PySem.W.mg_of X G a_InvalidCharge, ⟨_, _, _, _, _, _, _, _, _, _, _, _, _, _, _, _, x_InvalidCharge, PySem.ErD.Bse.ve.own⟩, sa_InvalidCharge, ga_InvalidCharge, gg_InvalidCharge, nf_InvalidCharge, ii_InvalidCharge, ti_InvalidCharge, k_InvalidCharge, e_InvalidCharge, t_InvalidCharge, h_InvalidCharge, ⟨_, _, _, _, _, _, _, _, _, _, _, _, _, _, _, l_InvalidCharge, c_InvalidCharge⟩⟩
  have E_InvalidLeast : PySem.ErD.ErrT K mg "InvalidLeast" "given" C_InvalidLeast i_InvalidLeast := ⟨.inl rfl, PySem.W.mg_of X G a_InvalidLeast, ⟨_, _, _, _, _, _, _, _, _, _, _, _, _, _, _, _, x_InvalidLeast, PySem.ErD.Bse.ve.own⟩, sa_InvalidLeast, ga_InvalidLeast, gg_InvalidLeast, nf_InvalidLeast, ii_InvalidLeast, ti_InvalidLeast, k_InvalidLeast, e_InvalidLeast, t_InvalidLeast, h_InvalidLeast, ⟨_, _, _, _, _, _, _, _, _, _, _, _, _, _, _, l_InvalidLeast, c_InvalidLeast⟩⟩
  have E_InvalidText : PySem.ErD.ErrT K mg "InvalidText" "given" C_InvalidText i_InvalidText := ⟨.inl rfl, PySem.W.mg_of X G a_InvalidText, ⟨_, _, _, _, _, _, _, _, _, _, _, _, _, _, _, _, x_InvalidText, PySem.ErD.Bse.ve.own⟩, sa_InvalidText, ga_InvalidText, gg_InvalidText, nf_InvalidText, ii_InvalidText, ti_InvalidText, k_InvalidText, e_InvalidText, t_InvalidText, h_InvalidText, ⟨_, _, _, _, _, _, _, _, _, _, _, _, _, _, _, l_InvalidText, c_InvalidText⟩⟩
  have E_InvalidAmount : PySem.ErD.ErrT K mg "InvalidAmount" "given" C_InvalidAmount i_InvalidAmount := ⟨.inl rfl, PySem.W.mg_of X G a_InvalidAmount, ⟨_, _, _, _, _, _, _, _, _, _, _, _, _, _, _, _, x_InvalidAmount, PySem.ErD.Bse.ve.own⟩, sa_InvalidAmount, ga_InvalidAmount, gg_InvalidAmount, nf_InvalidAmount, ii_InvalidAmount, ti_InvalidAmount, k_InvalidAmount, e_InvalidAmount, t_InvalidAmount, h_InvalidAmount, ⟨_, _, _, _, _, _, _, _, _, _, _, _, _, _, _, l_InvalidAmount, c_InvalidAmount⟩⟩
  have E_InvalidNumber : PySem.ErD.ErrT K mg "InvalidNumber" "given" C_InvalidNumber i_InvalidNumber := ⟨.inl rfl, PySem.W.mg_of X G a_InvalidNumber, ⟨_, _, _, _, _, _, _, _, _, _, _, _, _, _, _, _, x_InvalidNumber, PySem.ErD.Bse.ve.own⟩, sa_InvalidNumber, ga_InvalidNumber, gg_InvalidNumber, nf_InvalidNumber, ii_InvalidNumber, ti_InvalidNumber, k_InvalidNumber, e_InvalidNumber, t_InvalidNumber, h_InvalidNumber, ⟨_, _, _, _, _, _, _, _, _, _, _, _, _, _, _, l_InvalidNumber, c_InvalidNumber⟩⟩
  have E_InvalidWish : PySem.ErD.ErrT K mg "InvalidWish" "given" C_InvalidWish i_InvalidWish := ⟨.inl rfl, PySem.W.mg_of X G a_InvalidWish, ⟨_, _, _, _, _, _, _, _, _, _, _, _, _, _, _, _, x_InvalidWish, PySem.ErD.Bse.ve.own⟩, sa_InvalidWish, ga_InvalidWish, gg_InvalidWish, nf_InvalidWish, ii_InvalidWish, ti_InvalidWish, k_InvalidWish, e_InvalidWish, t_InvalidWish, h_InvalidWish, ⟨_, _, _, _, _, _, _, _, _, _, _, _, _, _, _, l_InvalidWish, c_InvalidWish⟩⟩
  have E_InvalidIndex : PySem.ErD.ErrT K mg "InvalidIndex" "given" C_InvalidIndex i_InvalidIndex := ⟨.inl rfl, PySem.W.mg_of X G a_InvalidIndex, ⟨_, _, _, _, _, _, _, _, _, _, _, _, _, _, _, _, x_InvalidIndex, PySem.ErD.Bse.ve.own⟩, sa_InvalidIndex, ga_InvalidIndex, gg_InvalidIndex, nf_InvalidIndex, ii_InvalidIndex, ti_InvalidIndex, k_InvalidIndex, e_InvalidIndex, t_InvalidIndex, h_InvalidIndex, ⟨_, _, _, _, _, _, _, _, _, _, _, _, _, _, _, l_InvalidIndex, c_InvalidIndex⟩⟩
  have E_NotBook : PySem.ErD.ErrT K mg "NotBook" "given" C_NotBook i_NotBook := ⟨.inl rfl, PySem.W.mg_of X G a_NotBook, ⟨_, _, _, _, _, _, _, _, _, _, _, _, _, _, _, _, x_NotBook, PySem.ErD.Bse.ve.own⟩, sa_NotBook, ga_NotBook, gg_NotBook, nf_NotBook, ii_NotBook, ti_NotBook, k_NotBook, e_NotBook, t_NotBook, h_NotBook, ⟨_, _, _, _, _, _, _, _, _, _, _, _, _, _, _, l_NotBook, c_NotBook⟩⟩
  have E_InvalidLedgers : PySem.ErD.ErrT K mg "InvalidLedgers" "index" C_InvalidLedgers i_InvalidLedgers := ⟨.inr rfl, PySem.W.mg_of X G a_InvalidLedgers, ⟨_, _, _, _, _, _, _, _, _, _, _, _, _, _, _, _, x_InvalidLedgers, PySem.ErD.Bse.ve.own⟩, sa_InvalidLedgers, ga_InvalidLedgers, gg_InvalidLedgers, nf_InvalidLedgers, ii_InvalidLedgers, ti_InvalidLedgers, k_InvalidLedgers, e_InvalidLedgers, t_InvalidLedgers, h_InvalidLedgers, ⟨_, _, _, _, _, _, _, _, _, _, _, _, _, _, _, l_InvalidLedgers, c_InvalidLedgers⟩⟩
  have E_InvalidRules : PySem.ErD.ErrT K mg "InvalidRules" "index" C_InvalidRules i_InvalidRules := ⟨.inr rfl, PySem.W.mg_of X G a_InvalidRules, ⟨_, _, _, _, _, _, _, _, _, _, _, _, _, _, _, _, x_InvalidRules, PySem.ErD.Bse.ve.own⟩, sa_InvalidRules, ga_InvalidRules, gg_InvalidRules, nf_InvalidRules, ii_InvalidRules, ti_InvalidRules, k_InvalidRules, e_InvalidRules, t_InvalidRules, h_InvalidRules, ⟨_, _, _, _, _, _, _, _, _, _, _, _, _, _, _, l_InvalidRules, c_InvalidRules⟩⟩
  have E_InvalidWay : PySem.ErD.ErrT K mg "InvalidWay" "index" C_InvalidWay i_InvalidWay := ⟨.inr rfl, PySem.W.mg_of X G a_InvalidWay, ⟨_, _, _, _, _, _, _, _, _, _, _, _, _, _, _, _, x_InvalidWay, PySem.ErD.Bse.ve.own⟩, sa_InvalidWay, ga_InvalidWay, gg_InvalidWay, nf_InvalidWay, ii_InvalidWay, ti_InvalidWay, k_InvalidWay, e_InvalidWay, t_InvalidWay, h_InvalidWay, ⟨_, _, _, _, _, _, _, _, _, _, _, _, _, _, _, l_InvalidWay, c_InvalidWay⟩⟩
  have E_InvalidChanges : PySem.ErD.ErrT K mg "InvalidChanges" "index" C_InvalidChanges i_InvalidChanges := ⟨.inr rfl, PySem.W.mg_of X G a_InvalidChanges, ⟨_, _, _, _, _, _, _, _, _, _, _, _, _, _, _, _, x_InvalidChanges, PySem.ErD.Bse.ve.own⟩, sa_InvalidChanges, ga_InvalidChanges, gg_InvalidChanges, nf_InvalidChanges, ii_InvalidChanges, ti_InvalidChanges, k_InvalidChanges, e_InvalidChanges, t_InvalidChanges, h_InvalidChanges, ⟨_, _, _, _, _, _, _, _, _, _, _, _, _, _, _, l_InvalidChanges, c_InvalidChanges⟩⟩
  have E_InvalidWishes : PySem.ErD.ErrT K mg "InvalidWishes" "index" C_InvalidWishes i_InvalidWishes := ⟨.inr rfl, PySem.W.mg_of X G a_InvalidWishes, ⟨_, _, _, _, _, _, _, _, _, _, _, _, _, _, _, _, x_InvalidWishes, PySem.ErD.Bse.ve.own⟩, sa_InvalidWishes, ga_InvalidWishes, gg_InvalidWishes, nf_InvalidWishes, ii_InvalidWishes, ti_InvalidWishes, k_InvalidWishes, e_InvalidWishes, t_InvalidWishes, h_InvalidWishes, ⟨_, _, _, _, _, _, _, _, _, _, _, _, _, _, _, l_InvalidWishes, c_InvalidWishes⟩⟩
  have E_UnknownName : PySem.ErD.ErrT K mg "UnknownName" "given" C_UnknownName i_UnknownName := ⟨.inl rfl, PySem.W.mg_of X G a_UnknownName, ⟨_, _, _, _, _, _, _, _, _, _, _, _, _, _, _, _, x_UnknownName, PySem.ErD.Bse.le.own⟩, sa_UnknownName, ga_UnknownName, gg_UnknownName, nf_UnknownName, ii_UnknownName, ti_UnknownName, k_UnknownName, e_UnknownName, t_UnknownName, h_UnknownName, ⟨_, _, _, _, _, _, _, _, _, _, _, _, _, _, _, l_UnknownName, c_UnknownName⟩⟩
  have E_InUse : PySem.ErD.ErrT K mg "InUse" "index" C_InUse i_InUse := ⟨.inr rfl, PySem.W.mg_of X G a_InUse, ⟨_, _, _, _, _, _, _, _, _, _, _, _, _, _, _, _, x_InUse, PySem.ErD.Bse.le.own⟩, sa_InUse, ga_InUse, gg_InUse, nf_InUse, ii_InUse, ti_InUse, k_InUse, e_InUse, t_InUse, h_InUse, ⟨_, _, _, _, _, _, _, _, _, _, _, _, _, _, _, l_InUse, c_InUse⟩⟩
  have E_OtherLedgers : PySem.ErD.ErrT K mg "OtherLedgers" "given" C_OtherLedgers i_OtherLedgers := ⟨.inl rfl, PySem.W.mg_of X G a_OtherLedgers, ⟨_, _, _, _, _, _, _, _, _, _, _, _, _, _, _, _, x_OtherLedgers, PySem.ErD.Bse.ae.own⟩, sa_OtherLedgers, ga_OtherLedgers, gg_OtherLedgers, nf_OtherLedgers, ii_OtherLedgers, ti_OtherLedgers, k_OtherLedgers, e_OtherLedgers, t_OtherLedgers, h_OtherLedgers, ⟨_, _, _, _, _, _, _, _, _, _, _, _, _, _, _, l_OtherLedgers, c_OtherLedgers⟩⟩
  have E_NotOpen : PySem.ErD.ErrT K mg "NotOpen" "index" C_NotOpen i_NotOpen := ⟨.inr rfl, PySem.W.mg_of X G a_NotOpen, ⟨_, _, _, _, _, _, _, _, _, _, _, _, _, _, _, _, x_NotOpen, PySem.ErD.Bse.ae.own⟩, sa_NotOpen, ga_NotOpen, gg_NotOpen, nf_NotOpen, ii_NotOpen, ti_NotOpen, k_NotOpen, e_NotOpen, t_NotOpen, h_NotOpen, ⟨_, _, _, _, _, _, _, _, _, _, _, _, _, _, _, l_NotOpen, c_NotOpen⟩⟩
  have E_Broken : PySem.ErD.ErrT K mg "Broken" "index" C_Broken i_Broken := ⟨.inr rfl, PySem.W.mg_of X G a_Broken, ⟨_, _, _, _, _, _, _, _, _, _, _, _, _, _, _, _, x_Broken, PySem.ErD.Bse.ae.own⟩, sa_Broken, ga_Broken, gg_Broken, nf_Broken, ii_Broken, ti_Broken, k_Broken, e_Broken, t_Broken, h_Broken, ⟨_, _, _, _, _, _, _, _, _, _, _, _, _, _, _, l_Broken, c_Broken⟩⟩
  have g_NothingToUndo : mg "NothingToUndo" = some (.ref C_NothingToUndo) := PySem.W.mg_of X G a_NothingToUndo
  have E0_NothingToUndo : Er0 K mg "NothingToUndo" C_NothingToUndo := ⟨g_NothingToUndo, xq_NothingToUndo, k_NothingToUndo, e_NothingToUndo, t_NothingToUndo⟩
  have x_NothingToUndo_NothingToUndo := exm_ofB e_NothingToUndo y_NothingToUndo t_NothingToUndo s_NothingToUndo
  have v_MOST_WORTH : Gv K mg "MOST_WORTH" (.int 24) := ⟨.int 24, _, PySem.W.mg_of X G v_W, ⟨_, rfl⟩, fun F => .int _⟩
  have v_MOST_LEDGERS : Gv K mg "MOST_LEDGERS" (.int 4) := ⟨.int 4, _, PySem.W.mg_of X G v_ML, ⟨_, rfl⟩, fun F => .int _⟩
  have v_MOST_RULES : Gv K mg "MOST_RULES" (.int 8) := ⟨.int 8, _, PySem.W.mg_of X G v_MR, ⟨_, rfl⟩, fun F => .int _⟩
  have v_MOST_CHANGES : Gv K mg "MOST_CHANGES" (.int 6) := ⟨.int 6, _, PySem.W.mg_of X G v_MC, ⟨_, rfl⟩, fun F => .int _⟩
  have ef := hfa.symm.trans D_law.g
  cases ef
  refine ⟨_, fun s u => D_law.d.bindsA (ps := ["_law_script"]) (fun _ _ _ _ _ _ us hl => match us, hl with | [_], _ => rfl) s [u] rfl, fun base _ _ => ?_⟩
  let CE : Nat → Addr := fun k => [C_InvalidName, C_InvalidWorth, C_InvalidRounding, C_InvalidCharge, C_InvalidLeast, C_InvalidText, C_InvalidAmount, C_InvalidNumber, C_InvalidWish, C_InvalidIndex, C_NotBook, C_InvalidLedgers, C_InvalidRules, C_InvalidWay, C_InvalidChanges, C_InvalidWishes, C_UnknownName, C_InUse, C_OtherLedgers, C_NotOpen, C_NothingToUndo, C_Broken].getD k 0
  let CB : Nat → Addr := fun k => [C_WrongValue, C_WrongName, C_NotPossible].getD k 0
  have es : ErS K CE CB := ⟨fun k hk => exc_of (all_at zk_4 hk) oc_n oc_t, fun i j hi hj => of_decide_eq_true (all_at (all_at zk_1 hi) hj), fun i b hi hb => of_decide_eq_true (all_at (all_at zk_2 hi) hb), fun i b hi hb => of_decide_eq_true (all_at (all_at zk_3 hi) hb)⟩
  have xs : ∀ k, k < 22 → k ≠ 20 → XfC K (CE k) ∧ PySem.W.findIn K (.ref (CE k)) (fldE k) = some none := fun k hk h20 => by
    have z := es.ex k hk
    refine ⟨⟨z.hg, z.hk, z.hs, z.hd⟩, ?_⟩
    rcases Bool.or_eq_true_iff.mp (all_at zk_5 hk) with a | a
    · exact absurd (of_decide_eq_true a) h20
    · exact of_decide_eq_true a
  have V_InvalidName : Gv K mg "InvalidName" (.ref (CE 0)) := ⟨.ref C_InvalidName, _, PySem.W.mg_of X G a_InvalidName, rfl, fun F => .ref _⟩
  have V_InvalidWorth : Gv K mg "InvalidWorth" (.ref (CE 1)) := ⟨.ref C_InvalidWorth, _, PySem.W.mg_of X G a_InvalidWorth, rfl, fun F => .ref _⟩
  have V_InvalidRounding : Gv K mg "InvalidRounding" (.ref (CE 2)) := ⟨.ref C_InvalidRounding, _, PySem.W.mg_of X G a_InvalidRounding, rfl, fun F => .ref _⟩
  have V_InvalidCharge : Gv K mg "InvalidCharge" (.ref (CE 3)) := ⟨.ref C_InvalidCharge, _, PySem.W.mg_of X G a_InvalidCharge, rfl, fun F => .ref _⟩
  have V_InvalidLeast : Gv K mg "InvalidLeast" (.ref (CE 4)) := ⟨.ref C_InvalidLeast, _, PySem.W.mg_of X G a_InvalidLeast, rfl, fun F => .ref _⟩
  have V_InvalidText : Gv K mg "InvalidText" (.ref (CE 5)) := ⟨.ref C_InvalidText, _, PySem.W.mg_of X G a_InvalidText, rfl, fun F => .ref _⟩
  have V_InvalidAmount : Gv K mg "InvalidAmount" (.ref (CE 6)) := ⟨.ref C_InvalidAmount, _, PySem.W.mg_of X G a_InvalidAmount, rfl, fun F => .ref _⟩
  have V_InvalidNumber : Gv K mg "InvalidNumber" (.ref (CE 7)) := ⟨.ref C_InvalidNumber, _, PySem.W.mg_of X G a_InvalidNumber, rfl, fun F => .ref _⟩
  have V_InvalidWish : Gv K mg "InvalidWish" (.ref (CE 8)) := ⟨.ref C_InvalidWish, _, PySem.W.mg_of X G a_InvalidWish, rfl, fun F => .ref _⟩
  have V_InvalidIndex : Gv K mg "InvalidIndex" (.ref (CE 9)) := ⟨.ref C_InvalidIndex, _, PySem.W.mg_of X G a_InvalidIndex, rfl, fun F => .ref _⟩
  have V_NotBook : Gv K mg "NotBook" (.ref (CE 10)) := ⟨.ref C_NotBook, _, PySem.W.mg_of X G a_NotBook, rfl, fun F => .ref _⟩
  have V_InvalidLedgers : Gv K mg "InvalidLedgers" (.ref (CE 11)) := ⟨.ref C_InvalidLedgers, _, PySem.W.mg_of X G a_InvalidLedgers, rfl, fun F => .ref _⟩
  have V_InvalidRules : Gv K mg "InvalidRules" (.ref (CE 12)) := ⟨.ref C_InvalidRules, _, PySem.W.mg_of X G a_InvalidRules, rfl, fun F => .ref _⟩
  have V_InvalidWay : Gv K mg "InvalidWay" (.ref (CE 13)) := ⟨.ref C_InvalidWay, _, PySem.W.mg_of X G a_InvalidWay, rfl, fun F => .ref _⟩
  have V_InvalidChanges : Gv K mg "InvalidChanges" (.ref (CE 14)) := ⟨.ref C_InvalidChanges, _, PySem.W.mg_of X G a_InvalidChanges, rfl, fun F => .ref _⟩
  have V_InvalidWishes : Gv K mg "InvalidWishes" (.ref (CE 15)) := ⟨.ref C_InvalidWishes, _, PySem.W.mg_of X G a_InvalidWishes, rfl, fun F => .ref _⟩
  have V_UnknownName : Gv K mg "UnknownName" (.ref (CE 16)) := ⟨.ref C_UnknownName, _, PySem.W.mg_of X G a_UnknownName, rfl, fun F => .ref _⟩
  have V_InUse : Gv K mg "InUse" (.ref (CE 17)) := ⟨.ref C_InUse, _, PySem.W.mg_of X G a_InUse, rfl, fun F => .ref _⟩
  have V_OtherLedgers : Gv K mg "OtherLedgers" (.ref (CE 18)) := ⟨.ref C_OtherLedgers, _, PySem.W.mg_of X G a_OtherLedgers, rfl, fun F => .ref _⟩
  have V_NotOpen : Gv K mg "NotOpen" (.ref (CE 19)) := ⟨.ref C_NotOpen, _, PySem.W.mg_of X G a_NotOpen, rfl, fun F => .ref _⟩
  have V_NothingToUndo : Gv K mg "NothingToUndo" (.ref (CE 20)) := ⟨.ref C_NothingToUndo, _, PySem.W.mg_of X G a_NothingToUndo, rfl, fun F => .ref _⟩
  have V_Broken : Gv K mg "Broken" (.ref (CE 21)) := ⟨.ref C_Broken, _, PySem.W.mg_of X G a_Broken, rfl, fun F => .ref _⟩
  have V_WrongValue : Gv K mg "WrongValue" (.ref (CB 0)) := ⟨.ref C_WrongValue, _, PySem.W.mg_of X G a_WrongValue, rfl, fun F => .ref _⟩
  have V_WrongName : Gv K mg "WrongName" (.ref (CB 1)) := ⟨.ref C_WrongName, _, PySem.W.mg_of X G a_WrongName, rfl, fun F => .ref _⟩
  have V_NotPossible : Gv K mg "NotPossible" (.ref (CB 2)) := ⟨.ref C_NotPossible, _, PySem.W.mg_of X G a_NotPossible, rfl, fun F => .ref _⟩
  have c_law_seed : Cal P w K mg base _ _ _ _ _ _ := ok_seed D_law_seed n_len n_int
  have c_law_pool : Cal P w K mg base _ _ _ _ _ _ := ok_pool D_law_pool n_int n_abs
  have c_law_draw : Cal P w K mg base _ _ _ _ _ _ := ok_draw D_law_draw n_int n_divmod
  have c_law_pick : Cal P w K mg base _ _ _ _ _ _ := ok_pick D_law_pick n_len c_law_draw
  have c_law_odd : Cal P w K mg base _ _ _ _ _ _ := ok_odd D_law_odd n_str c_law_draw c_law_pick
  have c_law_valued : Cal P w K mg base _ _ _ _ _ (sp_valued CE) := ok_valued (CE := CE) D_law_valued E_InvalidName E_InvalidWorth E_InvalidRounding E_InvalidCharge E_InvalidLeast E_InvalidText E_InvalidAmount E_InvalidNumber E_InvalidWish E_InvalidIndex E_NotBook E_UnknownName E_OtherLedgers
  have c_law_indexed : Cal P w K mg base _ _ _ _ _ (sp_indexed CE) := ok_indexed (CE := CE) D_law_indexed E_InvalidLedgers E_InvalidRules E_InvalidWay E_InvalidChanges E_InvalidWishes E_InUse E_NotOpen E0_NothingToUndo E_Broken
  have c_law_sorts : Cal P w K mg base _ _ _ _ _ (sp_sorts CE) := ok_sorts (CE := CE) (CB := CB) D_law_sorts n_isinstance es V_InvalidName V_InvalidWorth V_InvalidRounding V_InvalidCharge V_InvalidLeast V_InvalidText V_InvalidAmount V_InvalidNumber V_InvalidWish V_InvalidIndex V_NotBook V_InvalidLedgers V_InvalidRules V_InvalidWay V_InvalidChanges V_InvalidWishes V_UnknownName V_InUse V_OtherLedgers V_NotOpen V_NothingToUndo V_Broken
  have c_law_bases : Cal P w K mg base _ _ _ _ _ (sp_bases CE) := ok_bases (CE := CE) (CB := CB) D_law_bases n_isinstance n_ValueError n_LookupError n_ArithmeticError es V_WrongValue V_WrongName V_NotPossible
  have c_law_is_right : Cal P w K mg base _ _ _ _ _ sp_isright := ok_isright (CE := CE) (CB := CB) D_law_is_right n_range n_repr n_int es xs c_law_valued c_law_indexed c_law_sorts c_law_bases
  have c_law_right : Cal P w K mg base _ _ _ _ _ _ := ok_right D_law_right n_range c_law_odd c_law_is_right
  exact (ok_law D_law n_range n_len n_max n_min n_all n_repr v_MOST_LEDGERS v_MOST_RULES v_MOST_WORTH v_MOST_CHANGES c_law_seed c_law_pool c_law_right).G

end
end Dv
open PySem PySem.W PyProof.Rows
set_option maxRecDepth 100000 in
set_option maxHeartbeats 0 in
theorem PySem.Challenge.cw_wholedrift_k01_constants_and_errors_holds : PySem.Challenge.rw_wholedrift_k01_constants_and_errors.Holds := by
  refine hd01 ?_
  k_fill
  refine Dv.walk_ofD (l := PySem.Challenge.rw_wholedrift_k01_constants_and_errors) (n := 63) (k := 5) (x := "_law_script") (sp := Dv.sp_law) rfl (by decide) rfl ⟨rfl, by decide, by decide⟩ (fun w h Y => PySem.W.kIn_of Y) ?F fun ns hl hb => ⟨ns, rfl, hl, fun _ => rfl⟩
  case F =>
    intro w mg fa h KX G hmg
    refine' Dv.all_mk KX G hmg ?a_law_seed ?l_law_seed ?c_law_seed ?k_law_seed ?a_law_pool ?l_law_pool ?c_law_pool ?k_law_pool ?a_law_draw ?l_law_draw ?c_law_draw ?k_law_draw ?a_law_pick ?l_law_pick ?c_law_pick ?k_law_pick ?a_law_odd ?l_law_odd ?c_law_odd ?k_law_odd ?a_law_valued ?l_law_valued ?c_law_valued ?k_law_valued ?a_law_indexed ?l_law_indexed ?c_law_indexed ?k_law_indexed ?a_law_sorts ?l_law_sorts ?c_law_sorts ?k_law_sorts ?a_law_bases ?l_law_bases ?c_law_bases ?k_law_bases ?a_law_is_right ?l_law_is_right ?c_law_is_right ?k_law_is_right ?a_law_right ?l_law_right ?c_law_right ?k_law_right ?a_law ?l_law ?c_law ?k_law ?b_len ?b_int ?b_abs ?b_divmod ?b_str ?b_isinstance ?b_range ?b_max ?b_min ?b_all ?b_repr ?b_ValueError ?b_LookupError ?b_ArithmeticError ?a_InvalidName ?x_InvalidName ?sa_InvalidName ?ga_InvalidName ?gg_InvalidName ?nf_InvalidName ?ii_InvalidName ?ti_InvalidName ?l_InvalidName ?c_InvalidName ?k_InvalidName ?e_InvalidName ?t_InvalidName ?h_InvalidName ?y_InvalidName ?a_InvalidWorth ?x_InvalidWorth ?sa_InvalidWorth ?ga_InvalidWorth ?gg_InvalidWorth ?nf_InvalidWorth ?ii_InvalidWorth ?ti_InvalidWorth ?l_InvalidWorth ?c_InvalidWorth ?k_InvalidWorth ?e_InvalidWorth ?t_InvalidWorth ?h_InvalidWorth ?y_InvalidWorth ?a_InvalidRounding ?x_InvalidRounding ?sa_InvalidRounding ?ga_InvalidRounding ?gg_InvalidRounding ?nf_InvalidRounding ?ii_InvalidRounding ?ti_InvalidRounding ?l_InvalidRounding ?c_InvalidRounding ?k_InvalidRounding ?e_InvalidRounding ?t_InvalidRounding ?h_InvalidRounding ?y_InvalidRounding ?a_InvalidCharge ?x_InvalidCharge ?sa_InvalidCharge ?ga_InvalidCharge ?gg_InvalidCharge ?nf_InvalidCharge ?ii_InvalidCharge ?ti_InvalidCharge ?l_InvalidCharge ?c_InvalidCharge ?k_InvalidCharge ?e_InvalidCharge ?t_InvalidCharge ?h_InvalidCharge ?y_InvalidCharge ?a_InvalidLeast ?x_InvalidLeast ?sa_InvalidLeast ?ga_InvalidLeast ?gg_InvalidLeast ?nf_InvalidLeast ?ii_InvalidLeast ?ti_InvalidLeast ?l_InvalidLeast ?c_InvalidLeast ?k_InvalidLeast ?e_InvalidLeast ?t_InvalidLeast ?h_InvalidLeast ?y_InvalidLeast ?a_InvalidText ?x_InvalidText ?sa_InvalidText ?ga_InvalidText ?gg_InvalidText ?nf_InvalidText ?ii_InvalidText ?ti_InvalidText ?l_InvalidText ?c_InvalidText ?k_InvalidText ?e_InvalidText ?t_InvalidText ?h_InvalidText ?y_InvalidText ?a_InvalidAmount ?x_InvalidAmount ?sa_InvalidAmount ?ga_InvalidAmount ?gg_InvalidAmount ?nf_InvalidAmount ?ii_InvalidAmount ?ti_InvalidAmount ?l_InvalidAmount ?c_InvalidAmount ?k_InvalidAmount ?e_InvalidAmount ?t_InvalidAmount ?h_InvalidAmount ?y_InvalidAmount ?a_InvalidNumber ?x_InvalidNumber ?sa_InvalidNumber ?ga_InvalidNumber ?gg_InvalidNumber ?nf_InvalidNumber ?ii_InvalidNumber ?ti_InvalidNumber ?l_InvalidNumber ?c_InvalidNumber ?k_InvalidNumber ?e_InvalidNumber ?t_InvalidNumber ?h_InvalidNumber ?y_InvalidNumber ?a_InvalidWish ?x_InvalidWish ?sa_InvalidWish ?ga_InvalidWish ?gg_InvalidWish ?nf_InvalidWish ?ii_InvalidWish ?ti_InvalidWish ?l_InvalidWish ?c_InvalidWish ?k_InvalidWish ?e_InvalidWish ?t_InvalidWish ?h_InvalidWish ?y_InvalidWish ?a_InvalidIndex ?x_InvalidIndex ?sa_InvalidIndex ?ga_InvalidIndex ?gg_InvalidIndex ?nf_InvalidIndex ?ii_InvalidIndex ?ti_InvalidIndex ?l_InvalidIndex ?c_InvalidIndex ?k_InvalidIndex ?e_InvalidIndex ?t_InvalidIndex ?h_InvalidIndex ?y_InvalidIndex ?a_NotBook ?x_NotBook ?sa_NotBook ?ga_NotBook ?gg_NotBook ?nf_NotBook ?ii_NotBook ?ti_NotBook ?l_NotBook ?c_NotBook ?k_NotBook ?e_NotBook ?t_NotBook ?h_NotBook ?y_NotBook ?a_InvalidLedgers ?x_InvalidLedgers ?sa_InvalidLedgers ?ga_InvalidLedgers ?gg_InvalidLedgers ?nf_InvalidLedgers ?ii_InvalidLedgers ?ti_InvalidLedgers ?l_InvalidLedgers ?c_InvalidLedgers ?k_InvalidLedgers ?e_InvalidLedgers ?t_InvalidLedgers ?h_InvalidLedgers ?y_InvalidLedgers ?a_InvalidRules ?x_InvalidRules ?sa_InvalidRules ?ga_InvalidRules ?gg_InvalidRules ?nf_InvalidRules ?ii_InvalidRules ?ti_InvalidRules ?l_InvalidRules ?c_InvalidRules ?k_InvalidRules ?e_InvalidRules ?t_InvalidRules ?h_InvalidRules ?y_InvalidRules ?a_InvalidWay ?x_InvalidWay ?sa_InvalidWay ?ga_InvalidWay ?gg_InvalidWay ?nf_InvalidWay ?ii_InvalidWay ?ti_InvalidWay ?l_InvalidWay ?c_InvalidWay ?k_InvalidWay ?e_InvalidWay ?t_InvalidWay ?h_InvalidWay ?y_InvalidWay ?a_InvalidChanges ?x_InvalidChanges ?sa_InvalidChanges ?ga_InvalidChanges ?gg_InvalidChanges ?nf_InvalidChanges ?ii_InvalidChanges ?ti_InvalidChanges ?l_InvalidChanges ?c_InvalidChanges ?k_InvalidChanges ?e_InvalidChanges ?t_InvalidChanges ?h_InvalidChanges ?y_InvalidChanges ?a_InvalidWishes ?x_InvalidWishes ?sa_InvalidWishes ?ga_InvalidWishes ?gg_InvalidWishes ?nf_InvalidWishes ?ii_InvalidWishes ?ti_InvalidWishes ?l_InvalidWishes ?c_InvalidWishes ?k_InvalidWishes ?e_InvalidWishes ?t_InvalidWishes ?h_InvalidWishes ?y_InvalidWishes ?a_UnknownName ?x_UnknownName ?sa_UnknownName ?ga_UnknownName ?gg_UnknownName ?nf_UnknownName ?ii_UnknownName ?ti_UnknownName ?l_UnknownName ?c_UnknownName ?k_UnknownName ?e_UnknownName ?t_UnknownName ?h_UnknownName ?y_UnknownName ?a_InUse ?x_InUse ?sa_InUse ?ga_InUse ?gg_InUse ?nf_InUse ?ii_InUse ?ti_InUse ?l_InUse ?c_InUse ?k_InUse ?e_InUse ?t_InUse ?h_InUse ?y_InUse ?a_OtherLedgers ?x_OtherLedgers ?sa_OtherLedgers ?ga_OtherLedgers ?gg_OtherLedgers ?nf_OtherLedgers ?ii_OtherLedgers ?ti_OtherLedgers ?l_OtherLedgers ?c_OtherLedgers ?k_OtherLedgers ?e_OtherLedgers ?t_OtherLedgers ?h_OtherLedgers ?y_OtherLedgers ?a_NotOpen ?x_NotOpen ?sa_NotOpen ?ga_NotOpen ?gg_NotOpen ?nf_NotOpen ?ii_NotOpen ?ti_NotOpen ?l_NotOpen ?c_NotOpen ?k_NotOpen ?e_NotOpen ?t_NotOpen ?h_NotOpen ?y_NotOpen ?a_Broken ?x_Broken ?sa_Broken ?ga_Broken ?gg_Broken ?nf_Broken ?ii_Broken ?ti_Broken ?l_Broken ?c_Broken ?k_Broken ?e_Broken ?t_Broken ?h_Broken ?y_Broken ?a_WrongValue ?e_WrongValue ?t_WrongValue ?y_WrongValue ?s_InvalidName_WrongValue ?s_InvalidWorth_WrongValue ?s_InvalidRounding_WrongValue ?s_InvalidCharge_WrongValue ?s_InvalidLeast_WrongValue ?s_InvalidText_WrongValue ?s_InvalidAmount_WrongValue ?s_InvalidNumber_WrongValue ?s_InvalidWish_WrongValue ?s_InvalidIndex_WrongValue ?s_NotBook_WrongValue ?s_InvalidLedgers_WrongValue ?s_InvalidRules_WrongValue ?s_InvalidWay_WrongValue ?s_InvalidChanges_WrongValue ?s_InvalidWishes_WrongValue ?a_WrongName ?e_WrongName ?t_WrongName ?y_WrongName ?s_UnknownName_WrongName ?s_InUse_WrongName ?a_NotPossible ?e_NotPossible ?t_NotPossible ?y_NotPossible ?s_OtherLedgers_NotPossible ?s_NotOpen_NotPossible ?s_Broken_NotPossible ?a_NothingToUndo ?xq_NothingToUndo ?k_NothingToUndo ?e_NothingToUndo ?t_NothingToUndo ?y_NothingToUndo ?s_NothingToUndo ?v_ML ?v_MR ?v_W ?v_MC ?oc_n ?oc_t ?zk_1 ?zk_2 ?zk_3 ?zk_4 ?zk_5
    (case a_law_seed => k_is)
    (case l_law_seed => k_is)
    (case c_law_seed => k_is)
    (case k_law_seed => k_is)
    (case a_law_pool => k_is)
    (case l_law_pool => k_is)
    (case c_law_pool => k_is)
    (case k_law_pool => k_is)
    (case a_law_draw => k_is)
    (case l_law_draw => k_is)
    (case c_law_draw => k_is)
    (case k_law_draw => k_is)
    (case a_law_pick => k_is)
    (case l_law_pick => k_is)
    (case c_law_pick => k_is)
    (case k_law_pick => k_is)
    (case a_law_odd => k_is)
    (case l_law_odd => k_is)
    (case c_law_odd => k_is)
    (case k_law_odd => k_is)
    (case a_law_valued => k_is)
    (case l_law_valued => k_is)
    (case c_law_valued => k_is)
    (case k_law_valued => k_is)
    (case a_law_indexed => k_is)
    (case l_law_indexed => k_is)
    (case c_law_indexed => k_is)
    (case k_law_indexed => k_is)
    (case a_law_sorts => k_is)
    (case l_law_sorts => k_is)
    (case c_law_sorts => k_is)
    (case k_law_sorts => k_is)
    (case a_law_bases => k_is)
    (case l_law_bases => k_is)
    (case c_law_bases => k_is)
    (case k_law_bases => k_is)
    (case a_law_is_right => k_is)
    (case l_law_is_right => k_is)
    (case c_law_is_right => k_is)
    (case k_law_is_right => k_is)
    (case a_law_right => k_is)
    (case l_law_right => k_is)
    (case c_law_right => k_is)
    (case k_law_right => k_is)
    (case a_law => k_is)
    (case l_law => k_is)
    (case c_law => k_is)
    (case k_law => k_is)
    (case b_len => k_is)
    (case b_int => k_is)
    (case b_abs => k_is)
    (case b_divmod => k_is)
    (case b_str => k_is)
    (case b_isinstance => k_is)
    (case b_range => k_is)
    (case b_max => k_is)
    (case b_min => k_is)
    (case b_all => k_is)
    (case b_repr => k_is)
    (case b_ValueError => k_is)
    (case b_LookupError => k_is)
    (case b_ArithmeticError => k_is)
    (case a_InvalidName => k_is)
    (case x_InvalidName => k_is)
    (case sa_InvalidName => k_is)
    (case ga_InvalidName => k_is)
    (case gg_InvalidName => k_is)
    (case nf_InvalidName => k_is)
    (case ii_InvalidName => k_is)
    (case ti_InvalidName => k_is)
    (case l_InvalidName => k_is)
    (case c_InvalidName => k_is)
    (case k_InvalidName => k_is)
    (case e_InvalidName => k_is)
    (case t_InvalidName => k_is)
    (case h_InvalidName => k_is)
    (case y_InvalidName => k_is)
    (case a_InvalidWorth => k_is)
    (case x_InvalidWorth => k_is)
    (case sa_InvalidWorth => k_is)
    (case ga_InvalidWorth => k_is)
    (case gg_InvalidWorth => k_is)
    (case nf_InvalidWorth => k_is)
    (case ii_InvalidWorth => k_is)
    (case ti_InvalidWorth => k_is)
    (case l_InvalidWorth => k_is)
    (case c_InvalidWorth => k_is)
    (case k_InvalidWorth => k_is)
    (case e_InvalidWorth => k_is)
    (case t_InvalidWorth => k_is)
    (case h_InvalidWorth => k_is)
    (case y_InvalidWorth => k_is)
    (case a_InvalidRounding => k_is)
    (case x_InvalidRounding => k_is)
    (case sa_InvalidRounding => k_is)
    (case ga_InvalidRounding => k_is)
    (case gg_InvalidRounding => k_is)
    (case nf_InvalidRounding => k_is)
    (case ii_InvalidRounding => k_is)
    (case ti_InvalidRounding => k_is)
    (case l_InvalidRounding => k_is)
    (case c_InvalidRounding => k_is)
    (case k_InvalidRounding => k_is)
    (case e_InvalidRounding => k_is)
    (case t_InvalidRounding => k_is)
    (case h_InvalidRounding => k_is)
    (case y_InvalidRounding => k_is)
    (case a_InvalidCharge => k_is)
    (case x_InvalidCharge => k_is)
    (case sa_InvalidCharge => k_is)
    (case ga_InvalidCharge => k_is)
    (case gg_InvalidCharge => k_is)
    (case nf_InvalidCharge => k_is)
    (case ii_InvalidCharge => k_is)
    (case ti_InvalidCharge => k_is)
    (case l_InvalidCharge => k_is)
    (case c_InvalidCharge => k_is)
    (case k_InvalidCharge => k_is)
    (case e_InvalidCharge => k_is)
    (case t_InvalidCharge => k_is)
    (case h_InvalidCharge => k_is)
    (case y_InvalidCharge => k_is)
    (case a_InvalidLeast => k_is)
    (case x_InvalidLeast => k_is)
    (case sa_InvalidLeast => k_is)
    (case ga_InvalidLeast => k_is)
    (case gg_InvalidLeast => k_is)
    (case nf_InvalidLeast => k_is)
    (case ii_InvalidLeast => k_is)
    (case ti_InvalidLeast => k_is)
    (case l_InvalidLeast => k_is)
    (case c_InvalidLeast => k_is)
    (case k_InvalidLeast => k_is)
    (case e_InvalidLeast => k_is)
    (case t_InvalidLeast => k_is)
    (case h_InvalidLeast => k_is)
    (case y_InvalidLeast => k_is)
    (case a_InvalidText => k_is)
    (case x_InvalidText => k_is)
    (case sa_InvalidText => k_is)
    (case ga_InvalidText => k_is)
    (case gg_InvalidText => k_is)
    (case nf_InvalidText => k_is)
    (case ii_InvalidText => k_is)
    (case ti_InvalidText => k_is)
    (case l_InvalidText => k_is)
    (case c_InvalidText => k_is)
    (case k_InvalidText => k_is)
    (case e_InvalidText => k_is)
    (case t_InvalidText => k_is)
    (case h_InvalidText => k_is)
    (case y_InvalidText => k_is)
    (case a_InvalidAmount => k_is)
    (case x_InvalidAmount => k_is)
    (case sa_InvalidAmount => k_is)
    (case ga_InvalidAmount => k_is)
    (case gg_InvalidAmount => k_is)
    (case nf_InvalidAmount => k_is)
    (case ii_InvalidAmount => k_is)
    (case ti_InvalidAmount => k_is)
    (case l_InvalidAmount => k_is)
    (case c_InvalidAmount => k_is)
    (case k_InvalidAmount => k_is)
    (case e_InvalidAmount => k_is)
    (case t_InvalidAmount => k_is)
    (case h_InvalidAmount => k_is)
    (case y_InvalidAmount => k_is)
    (case a_InvalidNumber => k_is)
    (case x_InvalidNumber => k_is)
    (case sa_InvalidNumber => k_is)
    (case ga_InvalidNumber => k_is)
    (case gg_InvalidNumber => k_is)
    (case nf_InvalidNumber => k_is)
    (case ii_InvalidNumber => k_is)
    (case ti_InvalidNumber => k_is)
    (case l_InvalidNumber => k_is)
    (case c_InvalidNumber => k_is)
    (case k_InvalidNumber => k_is)
    (case e_InvalidNumber => k_is)
    (case t_InvalidNumber => k_is)
    (case h_InvalidNumber => k_is)
    (case y_InvalidNumber => k_is)
    (case a_InvalidWish => k_is)
    (case x_InvalidWish => k_is)
    (case sa_InvalidWish => k_is)
    (case ga_InvalidWish => k_is)
    (case gg_InvalidWish => k_is)
    (case nf_InvalidWish => k_is)
    (case ii_InvalidWish => k_is)
    (case ti_InvalidWish => k_is)
    (case l_InvalidWish => k_is)
    (case c_InvalidWish => k_is)
    (case k_InvalidWish => k_is)
    (case e_InvalidWish => k_is)
    (case t_InvalidWish => k_is)
    (case h_InvalidWish => k_is)
    (case y_InvalidWish => k_is)
    (case a_InvalidIndex => k_is)
    (case x_InvalidIndex => k_is)
    (case sa_InvalidIndex => k_is)
    (case ga_InvalidIndex => k_is)
    (case gg_InvalidIndex => k_is)
    (case nf_InvalidIndex => k_is)
    (case ii_InvalidIndex => k_is)
    (case ti_InvalidIndex => k_is)
    (case l_InvalidIndex => k_is)
    (case c_InvalidIndex => k_is)
    (case k_InvalidIndex => k_is)
    (case e_InvalidIndex => k_is)
    (case t_InvalidIndex => k_is)
    (case h_InvalidIndex => k_is)
    (case y_InvalidIndex => k_is)
    (case a_NotBook => k_is)
    (case x_NotBook => k_is)
    (case sa_NotBook => k_is)
    (case ga_NotBook => k_is)
    (case gg_NotBook => k_is)
    (case nf_NotBook => k_is)
    (case ii_NotBook => k_is)
    (case ti_NotBook => k_is)
    (case l_NotBook => k_is)
    (case c_NotBook => k_is)
    (case k_NotBook => k_is)
    (case e_NotBook => k_is)
    (case t_NotBook => k_is)
    (case h_NotBook => k_is)
    (case y_NotBook => k_is)
    (case a_InvalidLedgers => k_is)
    (case x_InvalidLedgers => k_is)
    (case sa_InvalidLedgers => k_is)
    (case ga_InvalidLedgers => k_is)
    (case gg_InvalidLedgers => k_is)
    (case nf_InvalidLedgers => k_is)
    (case ii_InvalidLedgers => k_is)
    (case ti_InvalidLedgers => k_is)
    (case l_InvalidLedgers => k_is)
    (case c_InvalidLedgers => k_is)
    (case k_InvalidLedgers => k_is)
    (case e_InvalidLedgers => k_is)
    (case t_InvalidLedgers => k_is)
    (case h_InvalidLedgers => k_is)
    (case y_InvalidLedgers => k_is)
    (case a_InvalidRules => k_is)
    (case x_InvalidRules => k_is)
    (case sa_InvalidRules => k_is)
    (case ga_InvalidRules => k_is)
    (case gg_InvalidRules => k_is)
    (case nf_InvalidRules => k_is)
    (case ii_InvalidRules => k_is)
    (case ti_InvalidRules => k_is)
    (case l_InvalidRules => k_is)
    (case c_InvalidRules => k_is)
    (case k_InvalidRules => k_is)
    (case e_InvalidRules => k_is)
    (case t_InvalidRules => k_is)
    (case h_InvalidRules => k_is)
    (case y_InvalidRules => k_is)
    (case a_InvalidWay => k_is)
    (case x_InvalidWay => k_is)
    (case sa_InvalidWay => k_is)
    (case ga_InvalidWay => k_is)
    (case gg_InvalidWay => k_is)
    (case nf_InvalidWay => k_is)
    (case ii_InvalidWay => k_is)
    (case ti_InvalidWay => k_is)
    (case l_InvalidWay => k_is)
    (case c_InvalidWay => k_is)
    (case k_InvalidWay => k_is)
    (case e_InvalidWay => k_is)
    (case t_InvalidWay => k_is)
    (case h_InvalidWay => k_is)
    (case y_InvalidWay => k_is)
    (case a_InvalidChanges => k_is)
    (case x_InvalidChanges => k_is)
    (case sa_InvalidChanges => k_is)
    (case ga_InvalidChanges => k_is)
    (case gg_InvalidChanges => k_is)
    (case nf_InvalidChanges => k_is)
    (case ii_InvalidChanges => k_is)
    (case ti_InvalidChanges => k_is)
    (case l_InvalidChanges => k_is)
    (case c_InvalidChanges => k_is)
    (case k_InvalidChanges => k_is)
    (case e_InvalidChanges => k_is)
    (case t_InvalidChanges => k_is)
    (case h_InvalidChanges => k_is)
    (case y_InvalidChanges => k_is)
    (case a_InvalidWishes => k_is)
    (case x_InvalidWishes => k_is)
    (case sa_InvalidWishes => k_is)
    (case ga_InvalidWishes => k_is)
    (case gg_InvalidWishes => k_is)
    (case nf_InvalidWishes => k_is)
    (case ii_InvalidWishes => k_is)
    (case ti_InvalidWishes => k_is)
    (case l_InvalidWishes => k_is)
    (case c_InvalidWishes => k_is)
    (case k_InvalidWishes => k_is)
    (case e_InvalidWishes => k_is)
    (case t_InvalidWishes => k_is)
    (case h_InvalidWishes => k_is)
    (case y_InvalidWishes => k_is)
    (case a_UnknownName => k_is)
    (case x_UnknownName => k_is)
    (case sa_UnknownName => k_is)
    (case ga_UnknownName => k_is)
    (case gg_UnknownName => k_is)
    (case nf_UnknownName => k_is)
    (case ii_UnknownName => k_is)
    (case ti_UnknownName => k_is)
    (case l_UnknownName => k_is)
    (case c_UnknownName => k_is)
    (case k_UnknownName => k_is)
    (case e_UnknownName => k_is)
    (case t_UnknownName => k_is)
    (case h_UnknownName => k_is)
    (case y_UnknownName => k_is)
    (case a_InUse => k_is)
    (case x_InUse => k_is)
    (case sa_InUse => k_is)
    (case ga_InUse => k_is)
    (case gg_InUse => k_is)
    (case nf_InUse => k_is)
    (case ii_InUse => k_is)
    (case ti_InUse => k_is)
    (case l_InUse => k_is)
    (case c_InUse => k_is)
    (case k_InUse => k_is)
    (case e_InUse => k_is)
    (case t_InUse => k_is)
    (case h_InUse => k_is)
    (case y_InUse => k_is)
    (case a_OtherLedgers => k_is)
    (case x_OtherLedgers => k_is)
    (case sa_OtherLedgers => k_is)
    (case ga_OtherLedgers => k_is)
    (case gg_OtherLedgers => k_is)
    (case nf_OtherLedgers => k_is)
    (case ii_OtherLedgers => k_is)
    (case ti_OtherLedgers => k_is)
    (case l_OtherLedgers => k_is)
    (case c_OtherLedgers => k_is)
    (case k_OtherLedgers => k_is)
    (case e_OtherLedgers => k_is)
    (case t_OtherLedgers => k_is)
    (case h_OtherLedgers => k_is)
    (case y_OtherLedgers => k_is)
    (case a_NotOpen => k_is)
    (case x_NotOpen => k_is)
    (case sa_NotOpen => k_is)
    (case ga_NotOpen => k_is)
    (case gg_NotOpen => k_is)
    (case nf_NotOpen => k_is)
    (case ii_NotOpen => k_is)
    (case ti_NotOpen => k_is)
    (case l_NotOpen => k_is)
    (case c_NotOpen => k_is)
    (case k_NotOpen => k_is)
    (case e_NotOpen => k_is)
    (case t_NotOpen => k_is)
    (case h_NotOpen => k_is)
    (case y_NotOpen => k_is)
    (case a_Broken => k_is)
    (case x_Broken => k_is)
    (case sa_Broken => k_is)
    (case ga_Broken => k_is)
    (case gg_Broken => k_is)
    (case nf_Broken => k_is)
    (case ii_Broken => k_is)
    (case ti_Broken => k_is)
    (case l_Broken => k_is)
    (case c_Broken => k_is)
    (case k_Broken => k_is)
    (case e_Broken => k_is)
    (case t_Broken => k_is)
    (case h_Broken => k_is)
    (case y_Broken => k_is)
    (case a_WrongValue => k_is)
    (case e_WrongValue => k_is)
    (case t_WrongValue => k_is)
    (case y_WrongValue => k_is)
    (case s_InvalidName_WrongValue => k_is)
    (case s_InvalidWorth_WrongValue => k_is)
    (case s_InvalidRounding_WrongValue => k_is)
    (case s_InvalidCharge_WrongValue => k_is)
    (case s_InvalidLeast_WrongValue => k_is)
    (case s_InvalidText_WrongValue => k_is)
    (case s_InvalidAmount_WrongValue => k_is)
    (case s_InvalidNumber_WrongValue => k_is)
    (case s_InvalidWish_WrongValue => k_is)
    (case s_InvalidIndex_WrongValue => k_is)
    (case s_NotBook_WrongValue => k_is)
    (case s_InvalidLedgers_WrongValue => k_is)
    (case s_InvalidRules_WrongValue => k_is)
    (case s_InvalidWay_WrongValue => k_is)
    (case s_InvalidChanges_WrongValue => k_is)
    (case s_InvalidWishes_WrongValue => k_is)
    (case a_WrongName => k_is)
    (case e_WrongName => k_is)
    (case t_WrongName => k_is)
    (case y_WrongName => k_is)
    (case s_UnknownName_WrongName => k_is)
    (case s_InUse_WrongName => k_is)
    (case a_NotPossible => k_is)
    (case e_NotPossible => k_is)
    (case t_NotPossible => k_is)
    (case y_NotPossible => k_is)
    (case s_OtherLedgers_NotPossible => k_is)
    (case s_NotOpen_NotPossible => k_is)
    (case s_Broken_NotPossible => k_is)
    (case a_NothingToUndo => k_is)
    (case xq_NothingToUndo => first | exact Bool.or_eq_true_iff.mpr (.inr (by k_exc)) | exact Bool.or_eq_true_iff.mpr (.inl (Bool.or_eq_true_iff.mpr (.inr (by k_exc)))) | exact Bool.or_eq_true_iff.mpr (.inl (Bool.or_eq_true_iff.mpr (.inl (by k_exc)))))
    (case k_NothingToUndo => k_is)
    (case e_NothingToUndo => k_is)
    (case t_NothingToUndo => k_is)
    (case y_NothingToUndo => k_is)
    (case s_NothingToUndo => k_is)
    (case v_ML => k_is)
    (case v_MR => k_is)
    (case v_W => k_is)
    (case v_MC => k_is)
    (case oc_n => k_is)
    (case oc_t => k_is)
    (case zk_1 => first | decide +kernel | kernel_rfl)
    (case zk_2 => first | decide +kernel | kernel_rfl)
    (case zk_3 => first | decide +kernel | kernel_rfl)
    (case zk_4 => first | decide +kernel | kernel_rfl)
    (case zk_5 => first | decide +kernel | kernel_rfl)

