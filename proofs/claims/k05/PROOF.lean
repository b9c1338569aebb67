import PyProof.Rows.All
import Wide.All
import OpenK.AllK
import Wide.FinOn
import HandS.ForMost
import HandS.Exc
import HandS.Slots
import HandS.Wide
import HandS.Flow
import HandS.Defaults
import HandS.ExcOwn
import HandS.WordsExc
import HandS.IsInst
import HandS.DictComp
import HandS.SlotsOwn
import HandS.Gcd
import HandS.ExcIs
import HandS.ExcField
import HandS.TryOnly
import KE.KExcIs
import HandS.FStr
import KE.KCallOwn
import KE.KFmtOwn
import PyProof.NoPylong
import KE.KStateDown
import Lean
import HandS.Ends
import HandS.Head0
import HandS.Head1
import HandS.Head2
import HandS.Head3
import HandS.HeadEnd
import HandS.HeadHook1
import HandS.HeadHook2
import KE.KOpsOwn
import PyProof.Rows.RuleN_abs
import KE.IntBitsLaws
import PyProof.InstEq
import PyProof.Conv_bool
import HandS.Star
import HandS.IterVal
import HandS.OwnEq
import HandS.Conv
import HandS.RaiseMore
import HandS.Nested
import HandS.ExcInit
import HandS.ExcSuper
import KE.KExcSuper
import HandS.ClsMeth
import PyProof.Rows.StrMeet
import PyProof.Rows.SortStr
import PySem.Challenge.RW_risingfill_k05_bundle_amounts
set_option Elab.async false
set_option linter.all false
set_option maxRecDepth 100000
set_option maxHeartbeats 4000000
namespace RF
open PySem PySem.Spec PyProof.Rows L2

/-! ### data -/
inductive D where
  | non | bl (b : Bool) | int (i : Int) | str (x : Str) | rat (q : Rat)
  | tup (xs : List D) | fl (xs : List D)
  | fd (ks : List Key) (vs : List D) | fdt (ks : List (List Key)) (vs : List D)
  | obj (c : Nat) (vs : List D) | et | ref (n : Nat) | cls (c : Nat) | ty (x : String) | exn (a : Addr) (dx : Option Addr) (c : Nat) (vs : List D)
inductive MO where
  | gone | lst (xs : List D) | dct (ks : List Key) (vs : List D) | dctT (ks : List (List Key)) (vs : List D) | ins (c : Nat) (vs : List D)
/-- where the classes stand, their fields in the order of __init__ -/
structure Wd where
  cl : Nat → Addr
  fld : Nat → List Str
  /-- an empty tuple that the text holds (a default) -/
  emp : Addr := 0

/-- a frozen Ratio -/
def RatAt (W : Wd) (H : Hp) (a : Addr) (q : Rat) : Prop :=
  ∃ dx o, H a = some (.frz o (SlX.SlO a (W.cl 0) dx [some (.int q.den), some (.int q.num)])) ∧ H dx = some (.xd [])
mutual
def Rep (W : Wd) (H : Hp) : D → V → Prop
  | .non, v => v = .non
  | .bl b, v => v = .bl b
  | .int i, v => v = .int i
  | .str x, v => v = .str x
  | .rat q, v => ∃ a, v = .ref a ∧ RatAt W H a q
  | .tup ds, v => ∃ a vs, v = .ref a ∧ H a = some (.tup vs) ∧ Reps W H ds vs
  | .fl ds, v => ∃ a o vs, v = .ref a ∧ H a = some (.frz o (.lst vs)) ∧ Reps W H ds vs
  | .fd ks ds, v => ∃ a o vs, v = .ref a ∧ H a = some (.frz o (.dK (ks.zip vs))) ∧ ks.length = vs.length ∧ Reps W H ds vs
  | .fdt ks ds, v => ∃ a o vs, v = .ref a ∧ H a = some (.frz o (.dT (ks.zip vs))) ∧ ks.length = vs.length ∧ Reps W H ds vs
  | .obj c ds, v => ∃ a o dx vs, v = .ref a ∧ H a = some (.frz o (.ins (W.cl c) dx ((W.fld c).zip vs))) ∧ (W.fld c).length = vs.length ∧ Reps W H ds vs
  | .et, v => v = .ref W.emp
  | .ref _, _ => False
  | .cls c, v => v = .ref (W.cl c)
  | .ty x, v => v = .ty x
  | .exn a dx c ds, v => v = .ref a ∧ ((ds = [] ∧ dx = none) ∨ ∃ d vs, ds ≠ [] ∧ dx = some d ∧ H d = some (.xd ((W.fld c).zip vs)) ∧ (W.fld c).length = vs.length ∧ Reps W H ds vs)
def Reps (W : Wd) (H : Hp) : List D → List V → Prop
  | [], vs => vs = []
  | d :: ds, vs => ∃ v r, vs = v :: r ∧ Rep W H d v ∧ Reps W H ds r
end
/-- what no step changes -/
def Fz : HO → Prop
  | .tup _ => True
  | .frz _ _ => True
  | .xd _ => True
  | _ => False
/-- frozen things stay -/
def Pers (H H' : Hp) : Prop := ∀ a o, H a = some o → Fz o → H' a = some o
theorem RatAt.mono {W : Wd} {H H' : Hp} (p : Pers H H') {a : Addr} {q : Rat} (h : RatAt W H a q) : RatAt W H' a q := by
  obtain ⟨dx, o, h1, h2⟩ := h
  exact ⟨dx, o, p _ _ h1 trivial, p _ _ h2 trivial⟩
mutual
theorem Rep.mono {W : Wd} {H H' : Hp} (p : Pers H H') : ∀ (d : D) (v : V), Rep W H d v → Rep W H' d v
  | .non, v, h => h
  | .bl b, v, h => h
  | .int i, v, h => h
  | .str x, v, h => h
  | .rat q, v, h => by obtain ⟨a, e, r⟩ := h; exact ⟨a, e, r.mono p⟩
  | .tup ds, v, h => by obtain ⟨a, vs, e, h1, r⟩ := h; exact ⟨a, vs, e, p _ _ h1 trivial, Reps.mono p ds vs r⟩
  | .fl ds, v, h => by obtain ⟨a, o, vs, e, h1, r⟩ := h; exact ⟨a, o, vs, e, p _ _ h1 trivial, Reps.mono p ds vs r⟩
  | .fd ks ds, v, h => by obtain ⟨a, o, vs, e, h1, l, r⟩ := h; exact ⟨a, o, vs, e, p _ _ h1 trivial, l, Reps.mono p ds vs r⟩
  | .fdt ks ds, v, h => by obtain ⟨a, o, vs, e, h1, l, r⟩ := h; exact ⟨a, o, vs, e, p _ _ h1 trivial, l, Reps.mono p ds vs r⟩
  | .obj c ds, v, h => by obtain ⟨a, o, dx, vs, e, h1, l, r⟩ := h; exact ⟨a, o, dx, vs, e, p _ _ h1 trivial, l, Reps.mono p ds vs r⟩
  | .et, v, h => h
  | .ref n, v, h => h.elim
  | .cls c, v, h => h
  | .ty x, v, h => h
  | .exn a dx c ds, v, h => by
    obtain ⟨e, h⟩ := h
    refine ⟨e, h.imp (fun z => z) ?_⟩
    rintro ⟨d, vs, e0, e1, h1, l, r⟩
    exact ⟨d, vs, e0, e1, p _ _ h1 trivial, l, Reps.mono p ds vs r⟩
theorem Reps.mono {W : Wd} {H H' : Hp} (p : Pers H H') : ∀ (ds : List D) (vs : List V), Reps W H ds vs → Reps W H' ds vs
  | [], vs, h => h
  | d :: ds, vs, h => by obtain ⟨v, r, e, h1, h2⟩ := h; exact ⟨v, r, e, Rep.mono p d v h1, Reps.mono p ds r h2⟩
end
end RF
set_option maxRecDepth 100000
set_option maxHeartbeats 4000000
namespace RF
open PySem PySem.Spec PyProof.Rows L2

/-! ### the state -/
def RepT (W : Wd) (th : List Addr) (H : Hp) (d : D) (v : V) : Prop := match d with
  | .ref n => ∃ a, th[n]? = some a ∧ v = .ref a
  | d => Rep W H d v
def RepTs (W : Wd) (th : List Addr) (H : Hp) : List D → List V → Prop
  | [], vs => vs = []
  | d :: ds, vs => ∃ v r, vs = v :: r ∧ RepT W th H d v ∧ RepTs W th H ds r
def RepM (W : Wd) (th : List Addr) (H : Hp) : MO → HO → Prop
  | .gone, _ => True
  | .lst ds, ho => ∃ vs, ho = .lst vs ∧ Reps W H ds vs
  | .dct ks ds, ho => ∃ vs, ho = .dK (ks.zip vs) ∧ ks.length = vs.length ∧ Reps W H ds vs
  | .dctT ks ds, ho => ∃ vs, ho = .dT (ks.zip vs) ∧ ks.length = vs.length ∧ Reps W H ds vs
  | .ins c ds, ho => ∃ dx vs, ho = .ins (W.cl c) dx ((W.fld c).zip vs) ∧ vs.length ≤ (W.fld c).length ∧ RepTs W th H ds vs
structure SRh (W : Wd) (th : List Addr) (H : Hp) (eta : List MO) : Prop where
  len : eta.length = th.length
  nd : th.Nodup
  obj : ∀ (n : Nat) mo, eta[n]? = some mo → ∃ a ho, th[n]? = some a ∧ H a = some ho ∧ RepM W th H mo ho
abbrev Rho := List (Option D)
structure SR (W : Wd) (th : List Addr) (H : Hp) (σ : L2.St) (rho : Rho) (eta : List MO) : Prop where
  var : ∀ (i : Nat) d, rho[i]? = some (some d) → ∃ v, σ[i]? = some (some v) ∧ RepT W th H d v
  le : rho.length ≤ σ.length
  hp : SRh W th H eta
structure Grow (th : List Addr) (H : Hp) (th' : List Addr) (H' : Hp) : Prop where
  pre : ∃ t, th' = th ++ t ∧ ∀ a ∈ t, H a = none
  keep : ∀ a o, H a = some o → (a ∉ th ∨ Fz o) → H' a = some o
theorem Grow.refl (th : List Addr) (H : Hp) : Grow th H th H := ⟨⟨[], by simp, fun _ h => by simp at h⟩, fun _ _ h _ => h⟩
theorem Grow.pers {th th' : List Addr} {H H' : Hp} (g : Grow th H th' H') : Pers H H' := fun a o h f => g.keep a o h (.inr f)
theorem Grow.isNone {th th' : List Addr} {H H' : Hp} (g : Grow th H th' H') {a : Addr} (h : H' a = Option.none) (ha : ∀ o, H a = some o → a ∉ th ∨ Fz o) : H a = Option.none := by
  cases e : H a with
  | none => rfl
  | some o => rw [g.keep a o e (ha o e)] at h; cases h
theorem Grow.trans {th th1 th2 : List Addr} {H H1 H2 : Hp} (g : Grow th H th1 H1) (k : Grow th1 H1 th2 H2) (hs : ∀ a ∈ th, H a ≠ Option.none → H1 a ≠ Option.none) : Grow th H th2 H2 := by
  obtain ⟨t, e, ht⟩ := g.pre
  obtain ⟨t2, e2, ht2⟩ := k.pre
  refine ⟨⟨t ++ t2, by rw [e2, e, List.append_assoc], fun a ha => ?_⟩, fun a o h q => ?_⟩
  · rcases List.mem_append.mp ha with ha | ha
    · exact ht a ha
    · have n1 := ht2 a ha
      cases q : H a with
      | none => rfl
      | some o =>
        by_cases hm : a ∈ th
        · exact absurd n1 (hs a hm (by rw [q]; simp))
        · rw [g.keep a o q (.inl hm)] at n1; cases n1
  · have h1 := g.keep a o h q
    refine k.keep a o h1 ?_
    rcases q with q | q
    · by_cases hm : a ∈ th1
      · rw [e] at hm
        rcases List.mem_append.mp hm with hm | hm
        · exact absurd hm q
        · rw [ht a hm] at h; cases h
      · exact .inl hm
    · exact .inr q
/-- the objects by number all stand -/
theorem SRh.there {W : Wd} {th : List Addr} {H : Hp} {eta : List MO} (s : SRh W th H eta) : ∀ a ∈ th, ∃ o, H a = some o := fun a ha => by
  obtain ⟨n, hn, e⟩ := List.getElem_of_mem ha
  have hl : n < eta.length := by rw [s.len]; exact hn
  obtain ⟨b, ho, e1, e2, _⟩ := s.obj n eta[n] (List.getElem?_eq_getElem hl)
  rw [List.getElem?_eq_getElem hn] at e1
  have e3 : a = b := by rw [← e]; exact Option.some.inj e1
  rw [e3]; exact ⟨ho, e2⟩
theorem Grow.trans' {W : Wd} {th th1 th2 : List Addr} {H H1 H2 : Hp} {eta1 : List MO} (g : Grow th H th1 H1) (s : SRh W th1 H1 eta1) (k : Grow th1 H1 th2 H2) : Grow th H th2 H2 :=
  g.trans k fun a ha _ => by
    obtain ⟨t, e, _⟩ := g.pre
    obtain ⟨o, h⟩ := s.there a (by rw [e]; exact List.mem_append_left _ ha)
    rw [h]; simp
theorem RepT.mono {W : Wd} {th th' : List Addr} {H H' : Hp} (g : Grow th H th' H') {d : D} {v : V} (h : RepT W th H d v) : RepT W th' H' d v := by
  cases d with
  | ref n =>
    obtain ⟨a, e, r⟩ := h
    obtain ⟨t, e2, _⟩ := g.pre
    refine ⟨a, ?_, r⟩
    have hn : n < th.length := (List.getElem?_eq_some_iff.mp e).1
    rw [e2, List.getElem?_append_left hn]; exact e
  | _ => exact Rep.mono g.pers _ v h
theorem RepTs.mono {W : Wd} {th th' : List Addr} {H H' : Hp} (g : Grow th H th' H') : ∀ {ds : List D} {vs : List V}, RepTs W th H ds vs → RepTs W th' H' ds vs
  | [], _, h => h
  | d :: ds, _, ⟨v, r, e, h1, h2⟩ => ⟨v, r, e, h1.mono g, RepTs.mono g h2⟩
theorem SR.mono {W : Wd} {th th' : List Addr} {H H' : Hp} {σ : L2.St} {rho : Rho} {eta eta' : List MO} (s : SR W th H σ rho eta) (g : Grow th H th' H') (h : SRh W th' H' eta') : SR W th' H' σ rho eta' :=
  ⟨fun i d e => let ⟨v, e1, r⟩ := s.var i d e; ⟨v, e1, r.mono g⟩, s.le, h⟩
/-- a new untracked-by-number object: everything stays -/
theorem Grow.new {th : List Addr} {H : Hp} {p : Addr} {o : HO} (h : H p = none) : Grow th H th (upd H p o) :=
  ⟨⟨[], by simp, fun _ z => by simp at z⟩, fun a u e _ => by rw [upd_ne (ne_of_none e h)]; exact e⟩
theorem RepM.mono {W : Wd} {th th' : List Addr} {H H' : Hp} (g : Grow th H th' H') {mo : MO} {ho : HO} (h : RepM W th H mo ho) : RepM W th' H' mo ho := by
  cases mo with
  | gone => trivial
  | lst ds => obtain ⟨vs, e, r⟩ := h; exact ⟨vs, e, Reps.mono g.pers _ _ r⟩
  | dct ks ds => obtain ⟨vs, e, l, r⟩ := h; exact ⟨vs, e, l, Reps.mono g.pers _ _ r⟩
  | dctT ks ds => obtain ⟨vs, e, l, r⟩ := h; exact ⟨vs, e, l, Reps.mono g.pers _ _ r⟩
  | ins c ds => obtain ⟨dx, vs, e, l, r⟩ := h; exact ⟨dx, vs, e, l, r.mono g⟩
/-- .. the numbered ones stand as they stood -/
theorem SRh.new {W : Wd} {th : List Addr} {H : Hp} {eta : List MO} (s : SRh W th H eta) {p : Addr} {o : HO} (h : H p = none) : SRh W th (upd H p o) eta :=
  ⟨s.len, s.nd, fun n mo e => by
    obtain ⟨a, ho, e1, e2, r⟩ := s.obj n mo e
    exact ⟨a, ho, e1, by rw [upd_ne (ne_of_none e2 h)]; exact e2, r.mono (Grow.new h)⟩⟩
/-- a new object gets the next number -/
theorem SRh.push {W : Wd} {th : List Addr} {H : Hp} {eta : List MO} (s : SRh W th H eta) {p : Addr} {o : HO} {mo : MO} (h : H p = none) (r : RepM W (th ++ [p]) (upd H p o) mo o) : SRh W (th ++ [p]) (upd H p o) (eta ++ [mo]) := by
  have hp : p ∉ th := fun z => by obtain ⟨o', e⟩ := s.there p z; rw [h] at e; cases e
  have g : Grow th H (th ++ [p]) (upd H p o) := ⟨⟨[p], rfl, fun a ha => by simp at ha; rw [ha]; exact h⟩, fun a u e _ => by rw [upd_ne (ne_of_none e h)]; exact e⟩
  refine ⟨by simp [s.len], ?_, fun n m e => ?_⟩
  · rw [List.nodup_append]
    exact ⟨s.nd, by simp, fun a ha b hb => by simp at hb; rw [hb]; rintro rfl; exact hp ha⟩
  · by_cases hn : n < eta.length
    · rw [List.getElem?_append_left hn] at e
      obtain ⟨a, ho, e1, e2, r2⟩ := s.obj n m e
      exact ⟨a, ho, by rw [List.getElem?_append_left (by rw [← s.len]; exact hn)]; exact e1, by rw [upd_ne (ne_of_none e2 h)]; exact e2, r2.mono g⟩
    · have hn2 : n = eta.length := by
        have := (List.getElem?_eq_some_iff.mp e).1
        simp at this; omega
      subst hn2
      rw [List.getElem?_append_right (Nat.le_refl _)] at e
      simp at e
      subst e
      exact ⟨p, o, by rw [s.len, List.getElem?_append_right (Nat.le_refl _)]; simp, upd_same, r⟩
theorem Grow.push {th : List Addr} {H : Hp} {p : Addr} {o : HO} (h : H p = none) : Grow th H (th ++ [p]) (upd H p o) :=
  ⟨⟨[p], rfl, fun a ha => by simp at ha; rw [ha]; exact h⟩, fun a u e _ => by rw [upd_ne (ne_of_none e h)]; exact e⟩
theorem RepT.push {W : Wd} {th : List Addr} {H : Hp} {eta : List MO} (s : SRh W th H eta) {p : Addr} {H' : Hp} : RepT W (th ++ [p]) H' (.ref eta.length) (.ref p) :=
  ⟨p, by rw [s.len, List.getElem?_append_right (Nat.le_refl _)]; simp, rfl⟩
/-- the n-th object is written -/
theorem SRh.write {W : Wd} {th : List Addr} {H : Hp} {eta : List MO} (s : SRh W th H eta) {n : Nat} {a : Addr} {o : HO} {mo : MO} (ha : th[n]? = some a) (hnf : ∀ u, H a = some u → ¬ Fz u)
    (r : RepM W th (upd H a o) mo o) : SRh W th (upd H a o) (eta.set n mo) ∧ Grow th H th (upd H a o) := by
  have hm : a ∈ th := List.mem_of_getElem? ha
  have g : Grow th H th (upd H a o) := ⟨⟨[], by simp, fun _ z => by simp at z⟩, fun b u e q => by
    have hb : b ≠ a := by
      rintro rfl
      rcases q with q | q
      · exact q hm
      · exact hnf u e q
    rw [upd_ne hb]; exact e⟩
  refine ⟨⟨by simp [s.len], s.nd, fun k m e => ?_⟩, g⟩
  by_cases hk : k = n
  · subst hk
    have hl : k < eta.length := by have := (List.getElem?_eq_some_iff.mp e).1; simpa using this
    rw [List.getElem?_set_self hl] at e
    cases e
    exact ⟨a, o, ha, upd_same, r⟩
  · rw [List.getElem?_set_ne (Ne.symm hk)] at e
    obtain ⟨b, ho, e1, e2, r2⟩ := s.obj k m e
    have hb : b ≠ a := by
      rintro rfl
      obtain ⟨h1, e3⟩ := List.getElem?_eq_some_iff.mp e1
      obtain ⟨h2, e4⟩ := List.getElem?_eq_some_iff.mp ha
      exact hk ((List.getElem_inj s.nd).mp (e3.trans e4.symm))
    exact ⟨b, ho, e1, by rw [upd_ne hb]; exact e2, r2.mono g⟩

/-! ### exceptions as data -/
structure Ex where
  c : Nat
  vs : List D
abbrev QA := D → List MO → Prop
abbrev EXA := Ex → Rho → List MO → Prop
/-- its class, its own dict -/
def RepX (W : Wd) (H : Hp) (ex : Ex) (cls : Value) (dx : Option Addr) : Prop :=
  cls = .ref (W.cl ex.c) ∧ ((ex.vs = [] ∧ dx = none) ∨ ∃ d vs, ex.vs ≠ [] ∧ dx = some d ∧ H d = some (.xd ((W.fld ex.c).zip vs)) ∧ (W.fld ex.c).length = vs.length ∧ Reps W H ex.vs vs)
/-- the wish Wx takes what EX takes -/
def XOk (W : Wd) (Wx : WX) (th : List Addr) (H : Hp) (EX : EXA) : Prop :=
  ∀ ex rho' eta' th' H' σ' cls dx, EX ex rho' eta' → Grow th H th' H' → SR W th' H' σ' rho' eta' → RepX W H' ex cls dx → Wx cls dx σ' H'
theorem XOk.mono {W : Wd} {Wx : WX} {th th1 : List Addr} {H H1 : Hp} {EX : EXA} {eta1 : List MO} (x : XOk W Wx th H EX) (g : Grow th H th1 H1) (s : SRh W th1 H1 eta1) : XOk W Wx th1 H1 EX :=
  fun ex rho' eta' th' H' σ' cls dx h k => x ex rho' eta' th' H' σ' cls dx h (g.trans' s k)

/-! ### judgements -/
abbrev TEa := Rho → List MO → QA → EXA → Prop
abbrev TAa := Rho → List MO → (List D → List MO → Prop) → EXA → Prop
abbrev TTa := Rho → List MO → (Bool → List MO → Prop) → EXA → Prop
structure EndsA where
  nx : Rho → List MO → Prop
  rt : QA
  bk : Rho → List MO → Prop := fun _ _ => False
  ct : Rho → List MO → Prop := fun _ _ => False
abbrev TSa := EndsA → Rho → List MO → EXA → Prop

section
variable (X : Cx) (W : Wd)
def EPa (pins : List (Addr × Obj)) (σ : L2.St) (th : List Addr) (H : Hp) (rho : Rho) (Qa : QA) (u : Value) (s' : Shared) : Prop :=
  ∃ v th' H' d eta', Inv X pins σ H' s' ∧ RelV v u ∧ Grow th H th' H' ∧ SR W th' H' σ rho eta' ∧ RepT W th' H' d v ∧ Qa d eta'
def TPa (pins : List (Addr × Obj)) (σ : L2.St) (th : List Addr) (H : Hp) (rho : Rho) (Qa : Bool → List MO → Prop) (b : Bool) (s' : Shared) : Prop :=
  ∃ th' H' eta', Inv X pins σ H' s' ∧ Grow th H th' H' ∧ SR W th' H' σ rho eta' ∧ Qa b eta'
def APa (pins : List (Addr × Obj)) (σ : L2.St) (th : List Addr) (H : Hp) (rho : Rho) (Qa : List D → List MO → Prop) (us : List Value) (s' : Shared) : Prop :=
  ∃ vs th' H' ds eta', Inv X pins σ H' s' ∧ Vals vs us ∧ Grow th H th' H' ∧ SR W th' H' σ rho eta' ∧ RepTs W th' H' ds vs ∧ Qa ds eta'
def NPa (pins : List (Addr × Obj)) (th : List Addr) (H : Hp) (Q : Rho → List MO → Prop) (s' : Shared) : Prop :=
  ∃ σ' th' H' rho' eta', Inv X pins σ' H' s' ∧ Grow th H th' H' ∧ SR W th' H' σ' rho' eta' ∧ Q rho' eta'
def SPa (pins : List (Addr × Obj)) (th : List Addr) (H : Hp) (DA : EndsA) (f : Flow) (s' : Shared) : Prop := match f with
  | .next => NPa X W pins th H DA.nx s'
  | .brk => NPa X W pins th H DA.bk s'
  | .cont => NPa X W pins th H DA.ct s'
  | .ret u => ∃ v σ' th' H' rho' d eta', Inv X pins σ' H' s' ∧ RelV v u ∧ Grow th H th' H' ∧ SR W th' H' σ' rho' eta' ∧ RepT W th' H' d v ∧ DA.rt d eta'
end
structure EA (X : Cx) (W : Wd) (Wx : WX) (e : Expr) (t : TEa) : Prop where
  run : ∀ (pins : List (Addr × Obj)) (s : Shared) (σ : L2.St) (H : Hp) (th : List Addr) (rho : Rho) (eta : List MO) (Qa : QA) (EX : EXA), Inv X pins σ H s → SR W th H σ rho eta → XOk W Wx th H EX → t rho eta Qa EX →
    wpAny (model X.prog X.w) X.A (eval e X.env) (EPa X W pins σ th H rho Qa) X.xe s
structure TA' (X : Cx) (W : Wd) (Wx : WX) (e : Expr) (t : TTa) : Prop where
  run : ∀ (pins : List (Addr × Obj)) (s : Shared) (σ : L2.St) (H : Hp) (th : List Addr) (rho : Rho) (eta : List MO) (Qa : Bool → List MO → Prop) (EX : EXA), Inv X pins σ H s → SR W th H σ rho eta → XOk W Wx th H EX → t rho eta Qa EX →
    wpAny (model X.prog X.w) X.A (isTrue e X.env (eval e X.env)) (TPa X W pins σ th H rho Qa) X.xe s
/-- a test whatever its 'whole' is -/
structure WA (X : Cx) (W : Wd) (Wx : WX) (e : Expr) (t : TTa) : Prop where
  run : ∀ (whole : Sem Value) (pins : List (Addr × Obj)) (s : Shared) (σ : L2.St) (H : Hp) (th : List Addr) (rho : Rho) (eta : List MO) (Qa : Bool → List MO → Prop) (EX : EXA), Inv X pins σ H s → SR W th H σ rho eta → XOk W Wx th H EX → t rho eta Qa EX →
    wpAny (model X.prog X.w) X.A (isTrue e X.env whole) (TPa X W pins σ th H rho Qa) X.xe s
theorem WA.ta {X : Cx} {W : Wd} {Wx : WX} {e : Expr} {t : TTa} (h : WA X W Wx e t) : TA' X W Wx e t := ⟨h.run _⟩
structure AA (X : Cx) (W : Wd) (Wx : WX) (es : List Expr) (t : TAa) : Prop where
  run : ∀ (pos : Pos) (pins : List (Addr × Obj)) (s : Shared) (σ : L2.St) (H : Hp) (th : List Addr) (rho : Rho) (eta : List MO) (Qa : List D → List MO → Prop) (EX : EXA), Inv X pins σ H s → SR W th H σ rho eta → XOk W Wx th H EX → t rho eta Qa EX →
    wpAny (model X.prog X.w) X.A (spliced (backTo pos (starEach es X.env))) (APa X W pins σ th H rho Qa) X.xe s
structure SA (X : Cx) (W : Wd) (Wx : WX) (st : Stmt) (t : TSa) : Prop where
  run : ∀ (pins : List (Addr × Obj)) (s : Shared) (σ : L2.St) (H : Hp) (th : List Addr) (rho : Rho) (eta : List MO) (DA : EndsA) (EX : EXA), Inv X pins σ H s → SR W th H σ rho eta → XOk W Wx th H EX → t DA rho eta EX →
    wpAny (model X.prog X.w) X.A (exec st X.env) (SPa X W pins th H DA) X.xe s
structure SsA (X : Cx) (W : Wd) (Wx : WX) (st : List Stmt) (t : TSa) : Prop where
  run : ∀ (pins : List (Addr × Obj)) (s : Shared) (σ : L2.St) (H : Hp) (th : List Addr) (rho : Rho) (eta : List MO) (DA : EndsA) (EX : EXA), Inv X pins σ H s → SR W th H σ rho eta → XOk W Wx th H EX → t DA rho eta EX →
    wpAny (model X.prog X.w) X.A (execs st X.env) (SPa X W pins th H DA) X.xe s

/-! ### to the layer's own judgements and back -/
section
variable {X : Cx} {W : Wd} {Wx : WX}
/-- the canonical reading -/
def lftE (W : Wd) (Wx : WX) (t : TEa) : TE := fun σ H Q => ∃ th rho eta Qa EX, SR W th H σ rho eta ∧ XOk W Wx th H EX ∧ t rho eta Qa EX ∧
  ∀ th' H' v d eta', Grow th H th' H' → SR W th' H' σ rho eta' → RepT W th' H' d v → Qa d eta' → Q v H'
theorem EA.pe {e : Expr} {t : TEa} (h : EA X W Wx e t) : PE X e (lftE W Wx t) := ⟨fun pins s σ H Q I ⟨th, rho, eta, Qa, EX, S, x, ht, k⟩ =>
  thn (h.run pins s σ H th rho eta Qa EX I S x ht) fun u s' ⟨v, th', H', d, eta', I', r, g, S', R, q⟩ => ⟨v, H', I', r, k th' H' v d eta' g S' R q⟩⟩
theorem EA.of {e : Expr} {te : TE} {t : TEa} (h : PE X e te) (k : ∀ (σ : L2.St) (H : Hp) (th : List Addr) (rho : Rho) (eta : List MO) (Qa : QA) (EX : EXA), SR W th H σ rho eta → XOk W Wx th H EX → t rho eta Qa EX →
    te σ H fun v H' => ∃ th' d eta', Grow th H th' H' ∧ SR W th' H' σ rho eta' ∧ RepT W th' H' d v ∧ Qa d eta') : EA X W Wx e t := ⟨fun pins s σ H th rho eta Qa EX I S x ht =>
  thn (h.run pins s σ H _ I (k σ H th rho eta Qa EX S x ht)) fun u s' ⟨v, H', I', r, th', d, eta', g, S', R, q⟩ => ⟨v, th', H', d, eta', I', r, g, S', R, q⟩⟩
def lftT (W : Wd) (Wx : WX) (t : TTa) : TT := fun σ H Q => ∃ th rho eta Qa EX, SR W th H σ rho eta ∧ XOk W Wx th H EX ∧ t rho eta Qa EX ∧
  ∀ th' H' b eta', Grow th H th' H' → SR W th' H' σ rho eta' → Qa b eta' → Q b H'
theorem TA'.pt {e : Expr} {t : TTa} (h : TA' X W Wx e t) : PT X e (lftT W Wx t) := ⟨fun pins s σ H Q I ⟨th, rho, eta, Qa, EX, S, x, ht, k⟩ =>
  thn (h.run pins s σ H th rho eta Qa EX I S x ht) fun u s' ⟨th', H', eta', I', g, S', q⟩ => ⟨H', I', k th' H' u eta' g S' q⟩⟩
def lftA (W : Wd) (Wx : WX) (t : TAa) : TA := fun σ H Q => ∃ th rho eta Qa EX, SR W th H σ rho eta ∧ XOk W Wx th H EX ∧ t rho eta Qa EX ∧
  ∀ th' H' vs ds eta', Grow th H th' H' → SR W th' H' σ rho eta' → RepTs W th' H' ds vs → Qa ds eta' → Q vs H'
theorem AA.pa {es : List Expr} {t : TAa} (h : AA X W Wx es t) : PA X es (lftA W Wx t) := ⟨fun pos pins s σ H Q I ⟨th, rho, eta, Qa, EX, S, x, ht, k⟩ =>
  thn (h.run pos pins s σ H th rho eta Qa EX I S x ht) fun us s' ⟨vs, th', H', ds, eta', I', r, g, S', R, q⟩ => ⟨vs, H', I', r, k th' H' vs ds eta' g S' R q⟩⟩
def lftS (W : Wd) (Wx : WX) (t : TSa) : TS := fun Dn σ H => ∃ th rho eta DA EX, SR W th H σ rho eta ∧ XOk W Wx th H EX ∧ t DA rho eta EX ∧
  (∀ th' H' σ' rho' eta', Grow th H th' H' → SR W th' H' σ' rho' eta' → DA.nx rho' eta' → Dn.nx σ' H') ∧
  (∀ th' H' σ' rho' eta', Grow th H th' H' → SR W th' H' σ' rho' eta' → DA.bk rho' eta' → Dn.bk σ' H') ∧
  (∀ th' H' σ' rho' eta', Grow th H th' H' → SR W th' H' σ' rho' eta' → DA.ct rho' eta' → Dn.ct σ' H') ∧
  (∀ th' H' v d eta', Grow th H th' H' → SRh W th' H' eta' → RepT W th' H' d v → DA.rt d eta' → Dn.rt v H')
theorem SsA.pss {st : List Stmt} {t : TSa} (h : SsA X W Wx st t) : PSs X st (lftS W Wx t) := ⟨fun pins s σ H Dn I ⟨th, rho, eta, DA, EX, S, x, ht, k1, k2, k3, k4⟩ =>
  thn (h.run pins s σ H th rho eta DA EX I S x ht) fun f s' q => by
    cases f with
    | next => obtain ⟨σ', th', H', rho', eta', I', g, S', q⟩ := q; exact ⟨σ', H', I', k1 _ _ _ _ _ g S' q⟩
    | brk => obtain ⟨σ', th', H', rho', eta', I', g, S', q⟩ := q; exact ⟨σ', H', I', k2 _ _ _ _ _ g S' q⟩
    | cont => obtain ⟨σ', th', H', rho', eta', I', g, S', q⟩ := q; exact ⟨σ', H', I', k3 _ _ _ _ _ g S' q⟩
    | ret u => obtain ⟨v, σ', th', H', rho', d, eta', I', r, g, S', R, q⟩ := q; exact ⟨v, σ', H', I', r, k4 _ _ _ _ _ g S'.hp R q⟩⟩
theorem SA.ps {st : Stmt} {t : TSa} (h : SA X W Wx st t) : PS X st (lftS W Wx t) := ⟨fun pins s σ H Dn I ⟨th, rho, eta, DA, EX, S, x, ht, k1, k2, k3, k4⟩ =>
  thn (h.run pins s σ H th rho eta DA EX I S x ht) fun f s' q => by
    cases f with
    | next => obtain ⟨σ', th', H', rho', eta', I', g, S', q⟩ := q; exact ⟨σ', H', I', k1 _ _ _ _ _ g S' q⟩
    | brk => obtain ⟨σ', th', H', rho', eta', I', g, S', q⟩ := q; exact ⟨σ', H', I', k2 _ _ _ _ _ g S' q⟩
    | cont => obtain ⟨σ', th', H', rho', eta', I', g, S', q⟩ := q; exact ⟨σ', H', I', k3 _ _ _ _ _ g S' q⟩
    | ret u => obtain ⟨v, σ', th', H', rho', d, eta', I', r, g, S', R, q⟩ := q; exact ⟨v, σ', H', I', r, k4 _ _ _ _ _ g S'.hp R q⟩⟩
/-- a statement by the layer's own reading -/
theorem SA.of {st : Stmt} {ts : TS} {t : TSa} (h : PS X st ts) (k : ∀ (σ : L2.St) (H : Hp) (th : List Addr) (rho : Rho) (eta : List MO) (DA : EndsA) (EX : EXA), SR W th H σ rho eta → XOk W Wx th H EX → t DA rho eta EX →
    ts { nx := fun σ' H' => ∃ th' rho' eta', Grow th H th' H' ∧ SR W th' H' σ' rho' eta' ∧ DA.nx rho' eta', bk := fun σ' H' => ∃ th' rho' eta', Grow th H th' H' ∧ SR W th' H' σ' rho' eta' ∧ DA.bk rho' eta', ct := fun σ' H' => ∃ th' rho' eta', Grow th H th' H' ∧ SR W th' H' σ' rho' eta' ∧ DA.ct rho' eta',
         rt := fun v H' => ∃ th' d eta', Grow th H th' H' ∧ SRh W th' H' eta' ∧ RepT W th' H' d v ∧ DA.rt d eta' } σ H) : SA X W Wx st t := ⟨fun pins s σ H th rho eta DA EX I S x ht =>
  thn (h.run pins s σ H _ I (k σ H th rho eta DA EX S x ht)) fun f s' q => by
    cases f with
    | next => obtain ⟨σ', H', I', th', rho', eta', g, S', q⟩ := q; exact ⟨σ', th', H', rho', eta', I', g, S', q⟩
    | brk => obtain ⟨σ', H', I', th', rho', eta', g, S', q⟩ := q; exact ⟨σ', th', H', rho', eta', I', g, S', q⟩
    | cont => obtain ⟨σ', H', I', th', rho', eta', g, S', q⟩ := q; exact ⟨σ', th', H', rho', eta', I', g, S', q⟩
    | ret u =>
      obtain ⟨v, σ', H', I', r, th', d, eta', g, S', R, q⟩ := q
      exact ⟨v, σ', th', H', [], d, eta', I', r, g, ⟨fun i d e => by simp at e, by simp, S'⟩, R, q⟩⟩
end
end RF
set_option maxRecDepth 100000
set_option maxHeartbeats 4000000
namespace RF
open PySem PySem.Spec PyProof.Rows L2
section
variable {X : Cx} {W : Wd} {Wx : WX}
/-- back from a reading of the layer: nothing has changed -/
theorem EPa.here {pins : List (Addr × Obj)} {σ : L2.St} {th : List Addr} {H : Hp} {rho : Rho} {eta : List MO} {Qa : QA} {u : Value} {s : Shared} {v : V} {d : D} (I : Inv X pins σ H s) (S : SR W th H σ rho eta) (r : RelV v u) (R : RepT W th H d v) (q : Qa d eta) : EPa X W pins σ th H rho Qa u s :=
  ⟨v, th, H, d, eta, I, r, Grow.refl _ _, S, R, q⟩

/-! ### names, constants -/
def aVar (i : Nat) : TEa := fun rho eta Q _ => match rho[i]? with
  | some (some d) => Q d eta
  | _ => False
theorem ea_var (i : Nat) {x : Str} {pos : Pos} (hN : X.N[i]? = some x := by rfl) (hv : Vis X.env.scope x := by first | exact Or.inl rfl | exact Or.inr (Or.inl rfl) | exact Or.inr (Or.inr rfl)) (hd : (x == ("__debug__" : Str)) = false := by decide) (hcd : (x == ("__classdict__" : Str)) = false := by decide) : EA X W Wx (.Name x pos) (aVar i) :=
  .of (pe_var hN hv hd hcd) fun σ H th rho eta Qa EX S x h => by
    unfold aVar at h
    cases e : rho[i]? with
    | none => rw [e] at h; exact h.elim
    | some o =>
      rw [e] at h
      cases o with
      | none => exact h.elim
      | some d =>
        obtain ⟨v, e1, r⟩ := S.var i d e
        exact ⟨v, e1, th, d, eta, Grow.refl _ _, S, r, h⟩
theorem hereC {σ : L2.St} {th : List Addr} {H : Hp} {rho : Rho} {eta : List MO} {Qa : QA} {v : V} {d : D} (S : SR W th H σ rho eta) (R : RepT W th H d v) (q : Qa d eta) : ∃ th' d eta', Grow th H th' H ∧ SR W th' H σ rho eta' ∧ RepT W th' H d v ∧ Qa d eta' :=
  ⟨th, d, eta, Grow.refl _ _, S, R, q⟩
def aC (d : D) : TEa := fun _ eta Q _ => Q d eta
theorem ea_int {i j pos} : EA X W Wx (.Constant (.int i) j pos) (aC (.int i)) := .of pe_int fun σ H th rho eta Qa EX S x h => hereC (d := .int i) S rfl h
theorem ea_bl {b j pos} : EA X W Wx (.Constant (.bool b) j pos) (aC (.bl b)) := .of pe_bl fun σ H th rho eta Qa EX S x h => hereC (d := .bl b) S rfl h
theorem ea_non {j pos} : EA X W Wx (.Constant .none j pos) (aC .non) := .of pe_non fun σ H th rho eta Qa EX S x h => hereC (d := .non) S rfl h
theorem ea_str {z j pos} : EA X W Wx (.Constant (.str z) j pos) (aC (.str z)) := .of pe_str fun σ H th rho eta Qa EX S x h => hereC (d := .str z) S rfl h

/-! ### argument lists, displays -/
def aNil : TAa := fun _ eta Q _ => Q [] eta
def aCons (ta : TEa) (tr : TAa) : TAa := fun rho eta Q EX => ta rho eta (fun d eta1 => tr rho eta1 (fun ds eta2 => Q (d :: ds) eta2) EX) EX
theorem aa_nil : AA X W Wx [] aNil := ⟨fun _ _ _ _ H th rho eta Q EX I S x h => Calls.spliced_nil ⟨[], th, H, [], eta, I, .nil, Grow.refl _ _, S, rfl, h⟩⟩
theorem aa_cons {e : Expr} {es : List Expr} {te : TEa} {t : TAa} (ha : EA X W Wx e te) (hr : AA X W Wx es t) (hs : starEach (e :: es) X.env = (false, eval e X.env) :: starEach es X.env := by rfl) : AA X W Wx (e :: es) (aCons te t) := by
  refine ⟨fun pos pins s σ H th rho eta Q EX I S x h => ?_⟩
  rw [hs]
  show wpAny _ _ (spliced ((false, eval e X.env) :: backTo pos (starEach es X.env))) _ _ s
  refine Calls.spliced_cons (thn (ha.run pins s σ H th rho eta _ EX I S x h) fun u s1 ⟨v, th1, H1, d, eta1, I1, r1, g1, S1, R1, q1⟩ => ?_)
  exact thn (hr.run pos pins s1 σ H1 th1 rho eta1 _ EX I1 S1 (x.mono g1 S1.hp) q1) fun us s2 ⟨vs, th2, H2, ds, eta2, I2, r2, g2, S2, R2, q2⟩ =>
    ⟨v :: vs, th2, H2, d :: ds, eta2, I2, .cons r1 r2, g1.trans' S1.hp g2, S2, ⟨v, vs, rfl, R1.mono g2, R2⟩, q2⟩
/-- frozen data -/
def D.im : D → Bool
  | .ref _ => false
  | _ => true
theorem RepT.im {th : List Addr} {H : Hp} {d : D} {v : V} (h : RepT W th H d v) (e : d.im = true) : Rep W H d v := by
  cases d <;> first | exact h | cases e
theorem RepT.of {th : List Addr} {H : Hp} {d : D} {v : V} (h : Rep W H d v) : RepT W th H d v := by
  cases d <;> first | exact h | exact h.elim
theorem RepTs.im {th : List Addr} {H : Hp} : ∀ {ds : List D} {vs : List V}, RepTs W th H ds vs → ds.all D.im = true → Reps W H ds vs
  | [], _, h, _ => h
  | d :: ds, _, ⟨v, r, e, h1, h2⟩, q => by
    simp only [List.all_cons, Bool.and_eq_true] at q
    exact ⟨v, r, e, h1.im q.1, RepTs.im h2 q.2⟩
theorem RepTs.of {th : List Addr} {H : Hp} : ∀ {ds : List D} {vs : List V}, Reps W H ds vs → RepTs W th H ds vs
  | [], _, h => h
  | d :: ds, _, ⟨v, r, e, h1, h2⟩ => ⟨v, r, e, RepT.of h1, RepTs.of h2⟩
theorem RepTs.length {th : List Addr} {H : Hp} : ∀ {ds : List D} {vs : List V}, RepTs W th H ds vs → ds.length = vs.length
  | [], _, h => by rw [h]; rfl
  | d :: ds, _, ⟨v, r, e, h1, h2⟩ => by rw [e]; simp [RepTs.length h2]
theorem Reps.length {H : Hp} : ∀ {ds : List D} {vs : List V}, Reps W H ds vs → ds.length = vs.length
  | [], _, h => by have h : _ = _ := h; rw [h]; rfl
  | d :: ds, _, ⟨v, r, e, h1, h2⟩ => by rw [e]; simp [Reps.length h2]
theorem size_of {n : Nat} (h : Nat.ble n 1000 = true) : n ≤ sizeLine := Nat.le_trans (Nat.le_of_ble_eq_true h) (by rw [sizeLine_eq]; decide)
def okL (ds : List D) : Bool := ds.all D.im && Nat.ble ds.length 1000
def aTup (t : TAa) : TEa := fun rho eta Q EX => t rho eta (fun ds eta1 => okL ds = true ∧ Q (.tup ds) eta1) EX
theorem ea_tup {es : List Expr} {t : TAa} {x1} {pos : Pos} (h : AA X W Wx es t) : EA X W Wx (.Tuple es x1 pos) (aTup t) :=
  .of (pe_tup h.pa) fun σ H th rho eta Qa EX S x ht => by
    refine ⟨th, rho, eta, _, EX, S, x, ht, fun th1 H1 vs ds eta1 g S1 R q => ?_⟩
    obtain ⟨ok, q⟩ := q
    unfold okL at ok
    rw [Bool.and_eq_true] at ok
    refine ⟨by rw [← R.length]; exact size_of ok.2, fun p hp => ⟨th1, .tup ds, eta1, g.trans' S1.hp (Grow.new hp), S1.mono (Grow.new hp) (S1.hp.new hp), ?_, q⟩⟩
    exact ⟨p, vs, rfl, upd_same, Reps.mono (Grow.new (th := th1) hp).pers _ _ (R.im ok.1)⟩
/-- a list that will change -/
def aLst (t : TAa) : TEa := fun rho eta Q EX => t rho eta (fun ds eta1 => okL ds = true ∧ Q (.ref eta1.length) (eta1 ++ [.lst ds])) EX
theorem ea_lst {es : List Expr} {t : TAa} {pos : Pos} (h : AA X W Wx es t) : EA X W Wx (.List es pos) (aLst t) :=
  .of (pe_lst h.pa) fun σ H th rho eta Qa EX S x ht => by
    refine ⟨th, rho, eta, _, EX, S, x, ht, fun th1 H1 vs ds eta1 g S1 R q => ?_⟩
    obtain ⟨ok, q⟩ := q
    unfold okL at ok
    rw [Bool.and_eq_true] at ok
    refine ⟨by rw [← R.length]; exact size_of ok.2, fun p hp => ?_⟩
    have P := S1.hp.push (mo := .lst ds) hp ⟨vs, rfl, Reps.mono (Grow.new (th := th1) hp).pers _ _ (R.im ok.1)⟩
    exact ⟨th1 ++ [p], _, _, g.trans' S1.hp (Grow.push hp), S1.mono (Grow.push hp) P, RepT.push S1.hp, q⟩
/-! ### freezing what an expression makes -/
/-- the value is a new list or dict that will not change -/
def tFz (te : TE) : TE := fun σ H Q => te σ H fun v H' => ∃ a u, v = .ref a ∧ H' a = some u ∧ Mut (some u) ∧ ∀ od, Q v (upd H' a (.frz od u))
theorem pe_fz {e : Expr} {te : TE} (h : PE X e te) : PE X e (tFz te) := ⟨fun pins s σ H Q I ht => thn (h.run pins s σ H _ I ht) fun u s' ⟨v, H', I', r, a, o, e1, e2, mu, q⟩ => by
  obtain ⟨od, I1⟩ := I'.lock e2 mu
  exact ⟨v, _, I1, r, q od⟩⟩
/-- a list that stays as it is -/
def aFl (t : TAa) : TEa := fun rho eta Q EX => t rho eta (fun ds eta1 => okL ds = true ∧ Q (.fl ds) eta1) EX
theorem ea_fl {es : List Expr} {t : TAa} {pos : Pos} (h : AA X W Wx es t) : EA X W Wx (.List es pos) (aFl t) :=
  .of (pe_fz (pe_lst h.pa)) fun σ H th rho eta Qa EX S x ht => by
    refine ⟨th, rho, eta, _, EX, S, x, ht, fun th1 H1 vs ds eta1 g S1 R q => ?_⟩
    obtain ⟨ok, q⟩ := q
    unfold okL at ok
    rw [Bool.and_eq_true] at ok
    refine ⟨by rw [← R.length]; exact size_of ok.2, fun p hp => ⟨p, _, rfl, upd_same, trivial, fun od => ⟨th1, .fl ds, eta1, ?_⟩⟩⟩
    rw [upd_upd]
    exact ⟨g.trans' S1.hp (Grow.new hp), S1.mono (Grow.new hp) (S1.hp.new hp), ⟨p, od, vs, rfl, upd_same, Reps.mono (Grow.new (th := th1) hp).pers _ _ (R.im ok.1)⟩, q⟩
/-- a variable's list or dict becomes data: it will not change any more -/
def frzQ (Q : QA) : QA := fun d eta => match d with
  | .ref n => (match eta[n]? with
    | some (.lst ds) => Q (.fl ds) (eta.set n .gone)
    | some (.dct ks ds) => Q (.fd ks ds) (eta.set n .gone)
    | some (.dctT ks ds) => Q (.fdt ks ds) (eta.set n .gone)
    | _ => False)
  | d => Q d eta
def aFrz (t : TEa) : TEa := fun rho eta Q EX => t rho eta (frzQ Q) EX
theorem freeze_one {pins : List (Addr × Obj)} {σ : L2.St} {th : List Addr} {H : Hp} {rho : Rho} {eta : List MO} {s : Shared} {n : Nat} {a : Addr} {u : HO} (I : Inv X pins σ H s) (S : SR W th H σ rho eta) (ha : th[n]? = some a) (h : H a = some u) (mu : Mut (some u)) (nf : ¬ Fz u) :
    ∃ od, Inv X pins σ (upd H a (.frz od u)) s ∧ Grow th H th (upd H a (.frz od u)) ∧ SR W th (upd H a (.frz od u)) σ rho (eta.set n .gone) := by
  obtain ⟨od, I1⟩ := I.lock h mu
  obtain ⟨P, g⟩ := S.hp.write (n := n) (mo := .gone) (o := .frz od u) ha (fun u' e => by rw [h] at e; cases e; exact nf) trivial
  exact ⟨od, I1, g, S.mono g P⟩
theorem ea_frz {e : Expr} {t : TEa} (h : EA X W Wx e t) : EA X W Wx e (aFrz t) := ⟨fun pins s σ H th rho eta Qa EX I S x ht => by
  refine thn (h.run pins s σ H th rho eta (frzQ Qa) EX I S x ht) fun u s' ⟨v, th', H', d, eta', I', r, g, S', R, q⟩ => ?_
  cases d with
  | ref n =>
    obtain ⟨a, ea, rfl⟩ := R
    cases hn : eta'[n]? with
    | none => simp only [frzQ, hn] at q
    | some mo =>
      obtain ⟨b, ho, e1, e2, rm⟩ := S'.hp.obj n mo hn
      rw [ea] at e1; cases e1
      cases mo with
      | gone => simp only [frzQ, hn] at q
      | ins c ds => simp only [frzQ, hn] at q
      | lst ds =>
        simp only [frzQ, hn] at q
        obtain ⟨vs, rfl, rs⟩ := rm
        obtain ⟨od, I2, g2, S2⟩ := freeze_one I' S' ea e2 trivial (fun z => z)
        exact ⟨.ref a, th', _, .fl ds, _, I2, r, g.trans' S'.hp g2, S2, ⟨a, od, vs, rfl, upd_same, Reps.mono g2.pers _ _ rs⟩, q⟩
      | dct ks ds =>
        simp only [frzQ, hn] at q
        obtain ⟨vs, rfl, l, rs⟩ := rm
        obtain ⟨od, I2, g2, S2⟩ := freeze_one I' S' ea e2 trivial (fun z => z)
        exact ⟨.ref a, th', _, .fd ks ds, _, I2, r, g.trans' S'.hp g2, S2, ⟨a, od, vs, rfl, upd_same, l, Reps.mono g2.pers _ _ rs⟩, q⟩
      | dctT ks ds =>
        simp only [frzQ, hn] at q
        obtain ⟨vs, rfl, l, rs⟩ := rm
        obtain ⟨od, I2, g2, S2⟩ := freeze_one I' S' ea e2 trivial (fun z => z)
        exact ⟨.ref a, th', _, .fdt ks ds, _, I2, r, g.trans' S'.hp g2, S2, ⟨a, od, vs, rfl, upd_same, l, Reps.mono g2.pers _ _ rs⟩, q⟩
  | _ => exact ⟨v, th', H', _, eta', I', r, g, S', R, q⟩⟩
end
end RF
set_option maxRecDepth 100000
set_option maxHeartbeats 4000000
namespace RF
open PySem PySem.Spec PyProof.Rows L2

/-! ### equality of plain data -/
mutual
def D.eqd : D → D → Bool
  | .non, .non => true
  | .bl a, .bl b => a == b
  | .bl a, .int j => (if a then 1 else 0) == j
  | .int i, .bl b => i == (if b then 1 else 0)
  | .int i, .int j => i == j
  | .str x, .str y => x == y
  | .tup xs, .tup ys => D.eqds xs ys
  | .fl xs, .fl ys => D.eqds xs ys
  | _, _ => false
def D.eqds : List D → List D → Bool
  | [], [] => true
  | x :: xs, y :: ys => D.eqd x y && D.eqds xs ys
  | _, _ => false
end
mutual
def D.pl : Nat → D → Bool
  | _, .non => true
  | _, .bl _ => true
  | _, .int _ => true
  | _, .str x => PyData.strOk x
  | n + 1, .tup xs => D.pls n xs
  | n + 1, .fl xs => D.pls n xs
  | _, _ => false
def D.pls : Nat → List D → Bool
  | _, [] => true
  | n, x :: xs => D.pl n x && D.pls n xs
end
mutual
def D.py : D → PyData
  | .bl b => .bool b
  | .int i => .int i
  | .str x => .str x
  | .tup xs => .tuple (D.pys xs)
  | .fl xs => .list (D.pys xs)
  | _ => .none
def D.pys : List D → List PyData
  | [] => []
  | x :: xs => D.py x :: D.pys xs
end
mutual
theorem D.py_dp {W : Wd} {K : PySem.W.Frag} {H : Hp} : ∀ (n : Nat) (d : D) (v : V), D.pl n d = true → Rep W H d v → Dp K H v d.py
  | _, .non, v, _, h => by have h : v = _ := h; subst h; exact .non
  | _, .bl b, v, _, h => by have h : v = _ := h; subst h; exact .bl b
  | _, .int i, v, _, h => by have h : v = _ := h; subst h; exact .int i
  | _, .str x, v, _, h => by have h : v = _ := h; subst h; exact .str x
  | n + 1, .tup xs, v, p, h => by
    obtain ⟨a, vs, rfl, e, r⟩ := h
    exact .tup (SqT.of e) (D.pys_dp n xs vs p r)
  | n + 1, .fl xs, v, p, h => by
    obtain ⟨a, o, vs, rfl, e, r⟩ := h
    exact .lst (.inl (.inr ⟨o, e⟩)) (D.pys_dp n xs vs p r)
  | 0, .tup xs, v, p, h => by simp [D.pl] at p
  | 0, .fl xs, v, p, h => by simp [D.pl] at p
  | _, .rat _, v, p, h => by simp [D.pl] at p
  | _, .fd _ _, v, p, h => by simp [D.pl] at p
  | _, .fdt _ _, v, p, h => by simp [D.pl] at p
  | _, .obj _ _, v, p, h => by simp [D.pl] at p
  | _, .ref _, v, p, h => by simp [D.pl] at p
  | _, .et, v, p, h => by simp [D.pl] at p
  | _, .cls _, v, p, h => by simp [D.pl] at p
  | _, .ty _, v, p, h => by simp [D.pl] at p
theorem D.pys_dp {W : Wd} {K : PySem.W.Frag} {H : Hp} : ∀ (n : Nat) (ds : List D) (vs : List V), D.pls n ds = true → Reps W H ds vs → DpAll K H vs (D.pys ds)
  | _, [], vs, _, h => by have h : vs = _ := h; subst h; exact .nil
  | n, d :: ds, vs, p, h => by
    obtain ⟨v, r, rfl, h1, h2⟩ := h
    simp only [D.pls, Bool.and_eq_true] at p
    exact .cons (D.py_dp n d v p.1 h1) (D.pys_dp n ds r p.2 h2)
end
mutual
theorem D.py_lay : ∀ (n : Nat) (d : D), D.pl n d = true → d.py.canLay0 = true ∧ d.py.depth ≤ n
  | _, .non, _ => ⟨by simp [D.py, PyData.canLay0], by simp [D.py, PyData.depth]⟩
  | _, .bl b, _ => ⟨by simp [D.py, PyData.canLay0], by simp [D.py, PyData.depth]⟩
  | _, .int i, _ => ⟨by simp [D.py, PyData.canLay0], by simp [D.py, PyData.depth]⟩
  | _, .str x, p => ⟨by simpa [D.py, PyData.canLay0, D.pl] using p, by simp [D.py, PyData.depth]⟩
  | n + 1, .tup xs, p => by
    obtain ⟨h1, h2⟩ := D.pys_lay n xs (by simpa [D.pl] using p)
    exact ⟨by simpa [D.py, PyData.canLay0] using h1, by simp [D.py, PyData.depth]; omega⟩
  | n + 1, .fl xs, p => by
    obtain ⟨h1, h2⟩ := D.pys_lay n xs (by simpa [D.pl] using p)
    exact ⟨by simpa [D.py, PyData.canLay0] using h1, by simp [D.py, PyData.depth]; omega⟩
  | 0, .tup xs, p => by simp [D.pl] at p
  | 0, .fl xs, p => by simp [D.pl] at p
  | _, .rat _, p => by simp [D.pl] at p
  | _, .fd _ _, p => by simp [D.pl] at p
  | _, .fdt _ _, p => by simp [D.pl] at p
  | _, .obj _ _, p => by simp [D.pl] at p
  | _, .ref _, p => by simp [D.pl] at p
  | _, .et, p => by simp [D.pl] at p
  | _, .cls _, p => by simp [D.pl] at p
  | _, .ty _, p => by simp [D.pl] at p
theorem D.pys_lay : ∀ (n : Nat) (ds : List D), D.pls n ds = true → PyData.canLayAll0 (D.pys ds) = true ∧ PyData.depthAll (D.pys ds) ≤ n
  | _, [], _ => ⟨by simp [D.pys, PyData.canLayAll0], by simp [D.pys, PyData.depthAll]⟩
  | n, d :: ds, p => by
    simp only [D.pls, Bool.and_eq_true] at p
    obtain ⟨a, b⟩ := D.py_lay n d p.1
    obtain ⟨c, e⟩ := D.pys_lay n ds p.2
    exact ⟨by simp [D.pys, PyData.canLayAll0, a, c], by simp only [D.pys, PyData.depthAll]; omega⟩
end
theorem D.shaped {d : D} (h : D.pl 60 d = true) : SeqAt.shaped d.py = true := by
  obtain ⟨a, b⟩ := D.py_lay 60 d h
  unfold SeqAt.shaped
  rw [a]
  have : d.py.depth ≤ 64 := by omega
  simp [this]
mutual
theorem D.eqv_py : ∀ (n m : Nat) (d e : D), D.pl n d = true → D.pl m e = true → PyData.eqv d.py e.py = D.eqd d e := by
  intro n m d e hd he
  cases d <;> cases e <;> first
    | (simp [D.pl] at hd; done)
    | (simp [D.pl] at he; done)
    | (simp only [D.py, PyData.eqv, D.eqd]; done)
    | (rename_i xs ys
       cases n with
       | zero => simp [D.pl] at hd
       | succ n =>
         cases m with
         | zero => simp [D.pl] at he
         | succ m =>
           simp only [D.py, PyData.eqv, D.eqd]
           exact D.eqvs_py n m xs ys (by simpa [D.pl] using hd) (by simpa [D.pl] using he))
theorem D.eqvs_py : ∀ (n m : Nat) (d e : List D), D.pls n d = true → D.pls m e = true → PyData.eqvAll (D.pys d) (D.pys e) = D.eqds d e
  | _, _, [], [], _, _ => by simp [D.pys, PyData.eqvAll, D.eqds]
  | _, _, [], _ :: _, _, _ => by simp [D.pys, PyData.eqvAll, D.eqds]
  | _, _, _ :: _, [], _, _ => by simp [D.pys, PyData.eqvAll, D.eqds]
  | n, m, x :: xs, y :: ys, hd, he => by
    simp only [D.pls, Bool.and_eq_true] at hd he
    simp only [D.pys, PyData.eqvAll, D.eqds]
    rw [D.eqv_py n m x y hd.1 he.1, D.eqvs_py n m xs ys hd.2 he.2]
end
end RF
set_option maxRecDepth 100000
set_option maxHeartbeats 4000000
namespace RF
open PySem PySem.Spec PyProof.Rows L2
abbrev R2a := D → D → Rho → List MO → QA → EXA → Prop
abbrev R1a := D → Rho → List MO → QA → EXA → Prop
abbrev RNa := List D → Rho → List MO → QA → EXA → Prop
section
variable (X : Cx) (W : Wd) (Wx : WX)
def OpA (f : Value → Value → Sem Value) (r : R2a) : Prop :=
  ∀ (pins : List (Addr × Obj)) (s : Shared) (σ : L2.St) (H : Hp) (th : List Addr) (rho : Rho) (eta : List MO) (x y : V) (v u : Value) (d e : D) (Qa : QA) (EX : EXA), Inv X pins σ H s → SR W th H σ rho eta → XOk W Wx th H EX → RelV x v → RelV y u → RepT W th H d x → RepT W th H e y →
    r d e rho eta Qa EX → wpAny (model X.prog X.w) X.A (f v u) (EPa X W pins σ th H rho Qa) X.xe s
def UnA (f : Value → Sem Value) (r : R1a) : Prop :=
  ∀ (pins : List (Addr × Obj)) (s : Shared) (σ : L2.St) (H : Hp) (th : List Addr) (rho : Rho) (eta : List MO) (x : V) (v : Value) (d : D) (Qa : QA) (EX : EXA), Inv X pins σ H s → SR W th H σ rho eta → XOk W Wx th H EX → RelV x v → RepT W th H d x →
    r d rho eta Qa EX → wpAny (model X.prog X.w) X.A (f v) (EPa X W pins σ th H rho Qa) X.xe s
/-- the call of the value f -/
def ClA (f : Value) (r : RNa) : Prop :=
  ∀ (pins : List (Addr × Obj)) (s : Shared) (σ : L2.St) (H : Hp) (th : List Addr) (rho : Rho) (eta : List MO) (xs : List V) (us : List Value) (ds : List D) (Qa : QA) (EX : EXA), Inv X pins σ H s → SR W th H σ rho eta → XOk W Wx th H EX → Vals xs us → RepTs W th H ds xs →
    r ds rho eta Qa EX → wpAny (model X.prog X.w) X.A (call f us) (EPa X W pins σ th H rho Qa) X.xe s
end
section
variable {X : Cx} {W : Wd} {Wx : WX}
theorem OpA.of {f : Value → Value → Sem Value} {r : R2} {ra : R2a} (h : OpR X f r) (k : ∀ (σ : L2.St) (H : Hp) (th : List Addr) (rho : Rho) (eta : List MO) (x y : V) (d e : D) (Qa : QA) (EX : EXA), SR W th H σ rho eta → RepT W th H d x → RepT W th H e y → ra d e rho eta Qa EX →
    r x y H fun v H' => ∃ th' d' eta', Grow th H th' H' ∧ SR W th' H' σ rho eta' ∧ RepT W th' H' d' v ∧ Qa d' eta') : OpA X W Wx f ra := fun pins s σ H th rho eta x y v u d e Qa EX I S xo rx ry Rd Re hr =>
  thn (h pins s σ H x y v u _ I rx ry (k σ H th rho eta x y d e Qa EX S Rd Re hr)) fun w s' ⟨z, H', I', r, th', d', eta', g, S', R, q⟩ => ⟨z, th', H', d', eta', I', r, g, S', R, q⟩
theorem UnA.of {f : Value → Sem Value} {r : V → Hp → VK → Prop} {ra : R1a} (h : UnR X f r) (k : ∀ (σ : L2.St) (H : Hp) (th : List Addr) (rho : Rho) (eta : List MO) (x : V) (d : D) (Qa : QA) (EX : EXA), SR W th H σ rho eta → RepT W th H d x → ra d rho eta Qa EX →
    r x H fun v H' => ∃ th' d' eta', Grow th H th' H' ∧ SR W th' H' σ rho eta' ∧ RepT W th' H' d' v ∧ Qa d' eta') : UnA X W Wx f ra := fun pins s σ H th rho eta x v d Qa EX I S xo rx Rd hr =>
  thn (h pins s σ H x v _ I rx (k σ H th rho eta x d Qa EX S Rd hr)) fun w s' ⟨z, H', I', r, th', d', eta', g, S', R, q⟩ => ⟨z, th', H', d', eta', I', r, g, S', R, q⟩
theorem ClA.of {f : Value} {r : List V → Hp → VK → Prop} {ra : RNa} (h : CallR X f r) (k : ∀ (σ : L2.St) (H : Hp) (th : List Addr) (rho : Rho) (eta : List MO) (xs : List V) (ds : List D) (Qa : QA) (EX : EXA), SR W th H σ rho eta → RepTs W th H ds xs → ra ds rho eta Qa EX →
    r xs H fun v H' => ∃ th' d' eta', Grow th H th' H' ∧ SR W th' H' σ rho eta' ∧ RepT W th' H' d' v ∧ Qa d' eta') : ClA X W Wx f ra := fun pins s σ H th rho eta xs us ds Qa EX I S xo rx Rd hr =>
  thn (h pins s σ H xs us _ I rx (k σ H th rho eta xs ds Qa EX S Rd hr)) fun w s' ⟨z, H', I', r, th', d', eta', g, S', R, q⟩ => ⟨z, th', H', d', eta', I', r, g, S', R, q⟩
/-- either rule -/
theorem OpA.or {f : Value → Value → Sem Value} {r r' : R2a} (h : OpA X W Wx f r) (h' : OpA X W Wx f r') : OpA X W Wx f (fun d e rho eta Q EX => r d e rho eta Q EX ∨ r' d e rho eta Q EX) := fun pins s σ H th rho eta x y v u d e Qa EX I S xo rx ry Rd Re hr =>
  hr.elim (fun z => h pins s σ H th rho eta x y v u d e Qa EX I S xo rx ry Rd Re z) fun z => h' pins s σ H th rho eta x y v u d e Qa EX I S xo rx ry Rd Re z

def aOp (r : R2a) (ta tb : TEa) : TEa := fun rho eta Q EX => ta rho eta (fun d eta1 => tb rho eta1 (fun e eta2 => r d e rho eta2 Q EX) EX) EX
def aUn (r : R1a) (ta : TEa) : TEa := fun rho eta Q EX => ta rho eta (fun d eta1 => r d rho eta1 Q EX) EX
/-- two expressions, then an operation on their values -/
theorem binA {a b : Expr} {ta tb : TEa} {r : R2a} {f : Value → Value → Sem Value} (ho : OpA X W Wx f r) (ha : EA X W Wx a ta) (hb : EA X W Wx b tb) {pins : List (Addr × Obj)} {s : Shared} {σ : L2.St} {H : Hp} {th : List Addr} {rho : Rho} {eta : List MO} {Qa : QA} {EX : EXA}
    (I : Inv X pins σ H s) (S : SR W th H σ rho eta) (x : XOk W Wx th H EX) (h : aOp r ta tb rho eta Qa EX) :
    wpAny (model X.prog X.w) X.A (eval a X.env) (fun v s₁ => wpAny (model X.prog X.w) X.A (eval b X.env) (fun u s₂ => wpAny (model X.prog X.w) X.A (f v u) (EPa X W pins σ th H rho Qa) X.xe s₂) X.xe s₁) X.xe s := by
  refine thn (ha.run pins s σ H th rho eta _ EX I S x h) fun v s1 ⟨xv, th1, H1, d, eta1, I1, r1, g1, S1, R1, q1⟩ => ?_
  refine thn (hb.run pins s1 σ H1 th1 rho eta1 _ EX I1 S1 (x.mono g1 S1.hp) q1) fun u s2 ⟨yv, th2, H2, e, eta2, I2, r2, g2, S2, R2, q2⟩ => ?_
  have g12 := g1.trans' S1.hp g2
  refine thn (ho pins s2 σ H2 th2 rho eta2 xv yv v u d e Qa EX I2 S2 (x.mono g12 S2.hp) r1 r2 (R1.mono g2) R2 q2) fun w s3 ⟨z, th3, H3, d3, eta3, I3, r3, g3, S3, R3, q3⟩ => ?_
  exact ⟨z, th3, H3, d3, eta3, I3, r3, g12.trans' S2.hp g3, S3, R3, q3⟩
theorem ea_op {op : Operator} {r : R2a} {a b : Expr} {ta tb : TEa} {pos : Pos} (ho : OpA X W Wx (binaryOp op) r) (ha : EA X W Wx a ta) (hb : EA X W Wx b tb) : EA X W Wx (.BinOp a op b pos) (aOp r ta tb) :=
  ⟨fun pins s σ H th rho eta Qa EX I S x h => wpAny_BinOp (binA ho ha hb I S x h)⟩
theorem ea_un {op : UnaryOp} {r : R1a} {a : Expr} {ta : TEa} {pos : Pos} (ho : UnA X W Wx (unaryOp op) r) (ha : EA X W Wx a ta) : EA X W Wx (.UnaryOp op a pos) (aUn r ta) := by
  refine ⟨fun pins s σ H th rho eta Qa EX I S x h => ?_⟩
  refine UnaryOp_ (thn (ha.run pins s σ H th rho eta _ EX I S x h) fun v s1 ⟨xv, th1, H1, d, eta1, I1, r1, g1, S1, R1, q1⟩ => ?_)
  refine thn (ho pins s1 σ H1 th1 rho eta1 xv v d Qa EX I1 S1 (x.mono g1 S1.hp) r1 R1 q1) fun w s3 ⟨z, th3, H3, d3, eta3, I3, r3, g3, S3, R3, q3⟩ => ?_
  exact ⟨z, th3, H3, d3, eta3, I3, r3, g1.trans' S1.hp g3, S3, R3, q3⟩
theorem ea_cmp {op : CmpOp} {r : R2a} {a b : Expr} {ta tb : TEa} {pos : Pos} (ho : OpA X W Wx (compareOp op) r) (ha : EA X W Wx a ta) (hb : EA X W Wx b tb) (hm : behindInMarks op b = false := by first | exact nomark _ | rfl) : EA X W Wx (.Compare a [op] [b] pos) (aOp r ta tb) :=
  ⟨fun pins s σ H th rho eta Qa EX I S x h => wpAny_Compare1 (binA ho ha hb I S x h) hm⟩

/-! ### ints -/
def raI (C : Int → Int → Prop) (g : Int → Int → D) : R2a := fun d e _ eta Q _ => match d, e with
  | .int i, .int j => C i j ∧ Q (g i j) eta
  | _, _ => False
theorem opI_of {f : Value → Value → Sem Value} {C : Int → Int → Prop} {g : Int → Int → V} {ga : Int → Int → D} (h : OpR X f (rI C g)) (hg : ∀ i j, ∀ th H, RepT W th H (ga i j) (g i j)) : OpA X W Wx f (raI C ga) :=
  .of h fun σ H th rho eta x y d e Qa EX S Rd Re hr => by
    unfold raI at hr
    split at hr
    · obtain ⟨hc, q⟩ := hr
      have e1 : x = _ := Rd
      have e2 : y = _ := Re
      exact ⟨_, _, e1, e2, hc, hereC S (hg _ _ _ _) q⟩
    · exact hr.elim
def CT (_ _ : Int) : Prop := True
theorem opI0_of {f : Value → Value → Sem Value} {g : Int → Int → V} {ga : Int → Int → D} (h : OpR X f (rI0 g)) (hg : ∀ i j, ∀ th H, RepT W th H (ga i j) (g i j)) : OpA X W Wx f (raI CT ga) :=
  .of h fun σ H th rho eta x y d e Qa EX S Rd Re hr => by
    unfold raI at hr
    split at hr
    · obtain ⟨hc, q⟩ := hr
      have e1 : x = _ := Rd
      have e2 : y = _ := Re
      exact ⟨_, _, e1, e2, hereC S (hg _ _ _ _) q⟩
    · exact hr.elim
theorem oa_add : OpA X W Wx (binaryOp .Add) (raI CT fun i j => .int (i + j)) := opI0_of op_add fun _ _ _ _ => rfl
theorem oa_sub : OpA X W Wx (binaryOp .Sub) (raI CT fun i j => .int (i - j)) := opI0_of op_sub fun _ _ _ _ => rfl
theorem op_mulM : OpR X (binaryOp .Mult) (rI IntMulOk fun i j => .int (i * j)) := opI fun _ _ _ _ _ _ _ hc q => mul_int q hc
theorem oa_mul : OpA X W Wx (binaryOp .Mult) (raI IntMulOk fun i j => .int (i * j)) := opI_of op_mulM fun _ _ _ _ => rfl
def CFd (i j : Int) : Prop := j ≠ 0 ∧ Builtin.divisionGoesByPylong i j = false
theorem op_fdivF : OpR X (binaryOp .FloorDiv) (rI CFd fun i j => .int (i.fdiv j)) := opI fun _ _ _ _ _ _ _ hc q => floordiv_int hc.1 q (.inl hc.2)
theorem oa_fdiv : OpA X W Wx (binaryOp .FloorDiv) (raI CFd fun i j => .int (i.fdiv j)) := opI_of op_fdivF fun _ _ _ _ => rfl
theorem oa_mod : OpA X W Wx (binaryOp .Mod) (raI (fun _ j => j ≠ 0) fun i j => .int (i.fmod j)) := opI_of op_modN fun _ _ _ _ => rfl
theorem oa_pow : OpA X W Wx (binaryOp .Pow) (raI CPow fun i j => .int (i ^ j.toNat)) := opI_of op_pow fun _ _ _ _ => rfl
theorem oa_band : OpA X W Wx (binaryOp .BitAnd) (raI CT fun i j => .int (Builtin.bitAnd i j)) := opI0_of op_and fun _ _ _ _ => rfl
theorem oa_lt : OpA X W Wx (compareOp .Lt) (raI CT fun i j => .bl (decide (i < j))) := opI0_of op_lt fun _ _ _ _ => rfl
theorem oa_le : OpA X W Wx (compareOp .LtE) (raI CT fun i j => .bl (decide (i ≤ j))) := opI0_of op_le fun _ _ _ _ => rfl
theorem oa_gt : OpA X W Wx (compareOp .Gt) (raI CT fun i j => .bl (decide (j < i))) := opI0_of op_gt fun _ _ _ _ => rfl
theorem oa_ge : OpA X W Wx (compareOp .GtE) (raI CT fun i j => .bl (decide (j ≤ i))) := opI0_of op_ge fun _ _ _ _ => rfl
def raNeg : R1a := fun d _ eta Q _ => match d with
  | .int i => Q (.int (-i)) eta
  | _ => False
theorem ua_neg : UnA X W Wx (unaryOp .USub) raNeg := .of un_neg fun σ H th rho eta x d Qa EX S Rd hr => by
  unfold raNeg at hr
  split at hr
  · have e1 : x = _ := Rd
    exact ⟨_, e1, hereC (d := .int _) S rfl hr⟩
  · exact hr.elim

/-! ### == of plain data; is None; order of texts -/
/-- a numbered list as data -/
def rsl (eta : List MO) (d : D) : D := match d with
  | .ref n => (match eta[n]? with
    | some (.lst ds) => .fl ds
    | _ => .rat 0)
  | d => d
def raEq : R2a := fun d e _ eta Q _ => D.pl 60 (rsl eta d) = true ∧ D.pl 60 (rsl eta e) = true ∧ Q (.bl (D.eqd (rsl eta d) (rsl eta e))) eta
def raNe : R2a := fun d e _ eta Q _ => D.pl 60 (rsl eta d) = true ∧ D.pl 60 (rsl eta e) = true ∧ Q (.bl (!D.eqd (rsl eta d) (rsl eta e))) eta
theorem rsl_dp {th : List Addr} {H : Hp} {eta : List MO} {d : D} {x : V} (S : SRh W th H eta) (R : RepT W th H d x) (p : D.pl 60 (rsl eta d) = true) : Dp X.K H x (rsl eta d).py := by
  cases d with
  | ref n =>
    obtain ⟨a, e, rfl⟩ := R
    cases hn : eta[n]? with
    | none => simp [rsl, hn, D.pl] at p
    | some mo =>
      obtain ⟨b, ho, e1, e2, rm⟩ := S.obj n mo hn
      rw [e] at e1; cases e1
      cases mo with
      | lst ds =>
        simp only [rsl, hn] at p ⊢
        obtain ⟨vs, rfl, rs⟩ := rm
        exact .lst (SqL.of e2) (D.pys_dp 59 ds vs (by simpa [D.pl] using p) rs)
      | _ => simp [rsl, hn, D.pl] at p
  | _ => exact D.py_dp (W := W) 60 _ x p R
theorem oa_eq (hu : X.A.units + 64 < cLine) : OpA X W Wx (compareOp .Eq) raEq := .of (op_eqD hu) fun σ H th rho eta x y d e Qa EX S Rd Re ⟨h1, h2, q⟩ =>
  ⟨_, _, rsl_dp S.hp Rd h1, rsl_dp S.hp Re h2, D.shaped h1, D.shaped h2, hereC (d := .bl _) S (by show _ = _; rw [D.eqv_py 60 60 _ _ h1 h2]) q⟩
theorem oa_ne (hu : X.A.units + 64 < cLine) : OpA X W Wx (compareOp .NotEq) raNe := .of (op_neD hu) fun σ H th rho eta x y d e Qa EX S Rd Re ⟨h1, h2, q⟩ =>
  ⟨_, _, rsl_dp S.hp Rd h1, rsl_dp S.hp Re h2, D.shaped h1, D.shaped h2, hereC (d := .bl _) S (by show _ = _; rw [D.eqv_py 60 60 _ _ h1 h2]) q⟩
def D.isN : D → Bool
  | .non => true
  | _ => false
theorem isN_of {th : List Addr} {H : Hp} {d : D} {x : V} (R : RepT W th H d x) : decide (x = .non) = d.isN := by
  cases d with
  | non => have e : x = _ := R; subst e; rfl
  | bl b => have e : x = _ := R; subst e; rfl
  | int i => have e : x = _ := R; subst e; rfl
  | str z => have e : x = _ := R; subst e; rfl
  | cls c => have e : x = _ := R; subst e; rfl
  | ty c => have e : x = _ := R; subst e; rfl
  | rat q => obtain ⟨a, e, _⟩ := R; subst e; rfl
  | tup q => obtain ⟨a, _, e, _⟩ := R; subst e; rfl
  | fl q => obtain ⟨a, _, _, e, _⟩ := R; subst e; rfl
  | fd q _ => obtain ⟨a, _, _, e, _⟩ := R; subst e; rfl
  | fdt q _ => obtain ⟨a, _, _, e, _⟩ := R; subst e; rfl
  | obj q _ => obtain ⟨a, _, _, _, e, _⟩ := R; subst e; rfl
  | ref n => obtain ⟨a, _, e⟩ := R; subst e; rfl
  | et => have e : x = _ := R; subst e; rfl
  | exn a _ _ _ => obtain ⟨e, _⟩ := R; subst e; rfl
def raIs (neg : Bool) : R2a := fun d e _ eta Q _ => match e with
  | .non => Q (.bl (if neg then !d.isN else d.isN)) eta
  | _ => False
theorem oa_is : OpA X W Wx (compareOp .Is) (raIs false) := .of op_isN fun σ H th rho eta x y d e Qa EX S Rd Re hr => by
  unfold raIs at hr
  split at hr
  · exact ⟨Re, hereC (d := .bl _) S (by show _ = _; rw [isN_of Rd]; rfl) hr⟩
  · exact hr.elim
theorem oa_isnot : OpA X W Wx (compareOp .IsNot) (raIs true) := .of op_notN fun σ H th rho eta x y d e Qa EX S Rd Re hr => by
  unfold raIs at hr
  split at hr
  · exact ⟨Re, hereC (d := .bl _) S (by show _ = _; rw [isN_of Rd]; rfl) hr⟩
  · exact hr.elim

/-! ### tests -/
def aTst (t : TEa) : TTa := fun rho eta Q EX => t rho eta (fun d eta1 => match d with
  | .bl b => Q b eta1
  | _ => False) EX
theorem TA'.of {e : Expr} {tt : TT} {t : TTa} (h : PT X e tt) (k : ∀ (σ : L2.St) (H : Hp) (th : List Addr) (rho : Rho) (eta : List MO) (Qa : Bool → List MO → Prop) (EX : EXA), SR W th H σ rho eta → XOk W Wx th H EX → t rho eta Qa EX →
    tt σ H fun b H' => ∃ th' eta', Grow th H th' H' ∧ SR W th' H' σ rho eta' ∧ Qa b eta') : TA' X W Wx e t := ⟨fun pins s σ H th rho eta Qa EX I S x ht =>
  thn (h.run pins s σ H _ I (k σ H th rho eta Qa EX S x ht)) fun u s' ⟨H', I', th', eta', g, S', q⟩ => ⟨th', H', eta', I', g, S', q⟩⟩
theorem aTst_of {te : TEa} {σ : L2.St} {H : Hp} {th : List Addr} {rho : Rho} {eta : List MO} {Qa : Bool → List MO → Prop} {EX : EXA} (S : SR W th H σ rho eta) (x : XOk W Wx th H EX) (h : aTst te rho eta Qa EX) :
    lftE W Wx te σ H fun v H' => ∃ k, v = .bl k ∧ ∃ th' eta', Grow th H th' H' ∧ SR W th' H' σ rho eta' ∧ Qa k eta' := by
  refine ⟨th, rho, eta, _, EX, S, x, h, fun th1 H1 v d eta1 g S1 R q => ?_⟩
  split at q
  · have e : v = _ := R
    exact ⟨_, e, th1, eta1, g, S1, q⟩
  · exact q.elim
theorem ta_val {e : Expr} {te : TEa} (h : EA X W Wx e te) (he : ∀ whole, isTrue e X.env whole = (do let v ← whole; standAt e.pos; holding [v] (truthy v)) := by intro _; rfl) : TA' X W Wx e (aTst te) :=
  .of (pt_val h.pe he) fun σ H th rho eta Qa EX S x ht => aTst_of S x ht
/-- a comparison as a test -/
theorem ta_cmp {op : CmpOp} {r : R2a} {a b : Expr} {ta tb : TEa} {pos : Pos} (ho : OpA X W Wx (compareOp op) r) (ha : EA X W Wx a ta) (hb : EA X W Wx b tb) (hm : behindInMarks op b = false := by first | exact nomark _ | rfl) : TA' X W Wx (.Compare a [op] [b] pos) (aTst (aOp r ta tb)) := by
  refine ⟨fun pins s σ H th rho eta Qa EX I S x h => ?_⟩
  refine wpAny_isTrue_Compare1 (thn (binA ho ha hb I S x h) fun v s1 h1 => thn h1 fun u s2 h2 => thn h2 fun c s3 ⟨z, th3, H3, d3, eta3, I3, r3, g3, S3, R3, q3⟩ => ?_) hm
  dsimp only at q3
  split at q3
  · have e : z = _ := R3
    subst e
    cases r3
    exact wpAny_truthy_bool ⟨th3, H3, eta3, I3, g3, S3, q3⟩
  · exact q3.elim
def aAnd (t u : TTa) : TTa := fun rho eta Q EX => t rho eta (fun c eta1 => if c = true then u rho eta1 Q EX else Q false eta1) EX
def aOr (t u : TTa) : TTa := fun rho eta Q EX => t rho eta (fun c eta1 => if c = true then Q true eta1 else u rho eta1 Q EX) EX
def aNot (t : TTa) : TTa := fun rho eta Q EX => t rho eta (fun c eta1 => Q (!c) eta1) EX
theorem wa_and1 {a : Expr} {pos : Pos} {tA : TTa} (ha : TA' X W Wx a tA) : WA X W Wx (.BoolOp .And [a] pos) tA := by
  refine ⟨fun wh pins s σ H th rho eta Qa EX I S x h => isTrue_and (thn (ha.run pins s σ H th rho eta Qa EX I S x h) fun c s1 e => ?_)⟩
  cases c with
  | true => exact isTrue_and_nil e
  | false => exact e
theorem wa_or1 {a : Expr} {pos : Pos} {tA : TTa} (ha : TA' X W Wx a tA) : WA X W Wx (.BoolOp .Or [a] pos) tA := by
  refine ⟨fun wh pins s σ H th rho eta Qa EX I S x h => isTrue_or (thn (ha.run pins s σ H th rho eta Qa EX I S x h) fun c s1 e => ?_)⟩
  cases c with
  | false => exact isTrue_or_nil e
  | true => exact e
theorem wa_and {a b : Expr} {rest : List Expr} {pos : Pos} {tA tB : TTa} (ha : TA' X W Wx a tA) (hb : WA X W Wx (.BoolOp .And (b :: rest) pos) tB) : WA X W Wx (.BoolOp .And (a :: b :: rest) pos) (aAnd tA tB) := by
  refine ⟨fun wh pins s σ H th rho eta Qa EX I S x h => isTrue_and (thn (ha.run pins s σ H th rho eta _ EX I S x h) fun c s1 ⟨th1, H1, eta1, I1, g1, S1, q1⟩ => ?_)⟩
  cases c with
  | true => exact thn (hb.run wh pins s1 σ H1 th1 rho eta1 Qa EX I1 S1 (x.mono g1 S1.hp) q1) fun c s2 ⟨th2, H2, eta2, I2, g2, S2, q2⟩ => ⟨th2, H2, eta2, I2, g1.trans' S1.hp g2, S2, q2⟩
  | false => exact ⟨th1, H1, eta1, I1, g1, S1, q1⟩
theorem wa_or {a b : Expr} {rest : List Expr} {pos : Pos} {tA tB : TTa} (ha : TA' X W Wx a tA) (hb : WA X W Wx (.BoolOp .Or (b :: rest) pos) tB) : WA X W Wx (.BoolOp .Or (a :: b :: rest) pos) (aOr tA tB) := by
  refine ⟨fun wh pins s σ H th rho eta Qa EX I S x h => isTrue_or (thn (ha.run pins s σ H th rho eta _ EX I S x h) fun c s1 ⟨th1, H1, eta1, I1, g1, S1, q1⟩ => ?_)⟩
  cases c with
  | false => exact thn (hb.run wh pins s1 σ H1 th1 rho eta1 Qa EX I1 S1 (x.mono g1 S1.hp) q1) fun c s2 ⟨th2, H2, eta2, I2, g2, S2, q2⟩ => ⟨th2, H2, eta2, I2, g1.trans' S1.hp g2, S2, q2⟩
  | true => exact ⟨th1, H1, eta1, I1, g1, S1, q1⟩
theorem ta_not {a : Expr} {pos : Pos} {tA : TTa} (ha : TA' X W Wx a tA) : TA' X W Wx (.UnaryOp .Not a pos) (aNot tA) :=
  ⟨fun pins s σ H th rho eta Qa EX I S x h => isTrue_not (ha.run pins s σ H th rho eta (fun c eta1 => Qa (!c) eta1) EX I S x h)⟩
theorem bl_inv {d : D} {P : Bool → Prop} (h : match d with
  | .bl b => P b
  | _ => False) : ∃ b, d = .bl b ∧ P b := by
  cases d <;> first | exact ⟨_, rfl, h⟩ | exact h.elim
/-! .. as values -/
def aAndV (ta tb : TEa) : TEa := fun rho eta Q EX => ta rho eta (fun d eta1 => match d with
  | .bl c => if c = true then tb rho eta1 Q EX else Q (.bl false) eta1
  | _ => False) EX
def aOrV (ta tb : TEa) : TEa := fun rho eta Q EX => ta rho eta (fun d eta1 => match d with
  | .bl c => if c = true then Q (.bl true) eta1 else tb rho eta1 Q EX
  | _ => False) EX
def aNotV (ta : TEa) : TEa := fun rho eta Q EX => ta rho eta (fun d eta1 => match d with
  | .bl c => Q (.bl (!c)) eta1
  | _ => False) EX
theorem ea_one {op} {a : Expr} {pos : Pos} {t : TEa} (h : EA X W Wx a t) : EA X W Wx (.BoolOp op [a] pos) t := ⟨fun pins s σ H th rho eta Qa EX I S x hw => BoolOp_one (h.run pins s σ H th rho eta Qa EX I S x hw)⟩
theorem ea_and {a b : Expr} {rest : List Expr} {pos : Pos} {ta tb : TEa} (ha : EA X W Wx a ta) (hb : EA X W Wx (.BoolOp .And (b :: rest) pos) tb) : EA X W Wx (.BoolOp .And (a :: b :: rest) pos) (aAndV ta tb) := by
  refine ⟨fun pins s σ H th rho eta Qa EX I S x h => BoolOp_and (thn (ha.run pins s σ H th rho eta _ EX I S x h) fun v s1 ⟨z, th1, H1, d, eta1, I1, r1, g1, S1, R1, q1⟩ => ?_)⟩
  obtain ⟨c, rfl, q1⟩ := bl_inv q1
  · have e : z = _ := R1
    subst e
    cases r1
    refine wpAny_truthy_bool ?_
    cases c with
    | true => exact thn (hb.run pins s1 σ H1 th1 rho eta1 Qa EX I1 S1 (x.mono g1 S1.hp) q1) fun c s2 ⟨z2, th2, H2, d2, eta2, I2, r2, g2, S2, R2, q2⟩ => ⟨z2, th2, H2, d2, eta2, I2, r2, g1.trans' S1.hp g2, S2, R2, q2⟩
    | false => exact ⟨.bl false, th1, H1, .bl false, eta1, I1, rfl, g1, S1, rfl, q1⟩
theorem ea_or {a b : Expr} {rest : List Expr} {pos : Pos} {ta tb : TEa} (ha : EA X W Wx a ta) (hb : EA X W Wx (.BoolOp .Or (b :: rest) pos) tb) : EA X W Wx (.BoolOp .Or (a :: b :: rest) pos) (aOrV ta tb) := by
  refine ⟨fun pins s σ H th rho eta Qa EX I S x h => BoolOp_or (thn (ha.run pins s σ H th rho eta _ EX I S x h) fun v s1 ⟨z, th1, H1, d, eta1, I1, r1, g1, S1, R1, q1⟩ => ?_)⟩
  obtain ⟨c, rfl, q1⟩ := bl_inv q1
  · have e : z = _ := R1
    subst e
    cases r1
    refine wpAny_truthy_bool ?_
    cases c with
    | false => exact thn (hb.run pins s1 σ H1 th1 rho eta1 Qa EX I1 S1 (x.mono g1 S1.hp) q1) fun c s2 ⟨z2, th2, H2, d2, eta2, I2, r2, g2, S2, R2, q2⟩ => ⟨z2, th2, H2, d2, eta2, I2, r2, g1.trans' S1.hp g2, S2, R2, q2⟩
    | true => exact ⟨.bl true, th1, H1, .bl true, eta1, I1, rfl, g1, S1, rfl, q1⟩
theorem ea_not {a : Expr} {pos : Pos} {ta : TEa} (ha : EA X W Wx a ta) : EA X W Wx (.UnaryOp .Not a pos) (aNotV ta) := by
  refine ⟨fun pins s σ H th rho eta Qa EX I S x h => UnaryOp_ (thn (ha.run pins s σ H th rho eta _ EX I S x h) fun v s1 ⟨z, th1, H1, d, eta1, I1, r1, g1, S1, R1, q1⟩ => ?_)⟩
  dsimp only at q1
  split at q1
  · have e : z = _ := R1
    subst e
    cases r1
    exact not_of (wpAny_truthy_bool ⟨.bl _, th1, H1, .bl _, eta1, I1, rfl, g1, S1, rfl, q1⟩)
  · exact q1.elim
def aIf (t : TTa) (ta tb : TEa) : TEa := fun rho eta Q EX => t rho eta (fun c eta1 => if c = true then ta rho eta1 Q EX else tb rho eta1 Q EX) EX
theorem ea_if {a b c : Expr} {pos : Pos} {ta tb : TEa} {tc : TTa} (hc : TA' X W Wx c tc) (ha : EA X W Wx a ta) (hb : EA X W Wx b tb) : EA X W Wx (.IfExp c a b pos) (aIf tc ta tb) := by
  refine ⟨fun pins s σ H th rho eta Qa EX I S x h => wpAny_IfExp (thn (hc.run pins s σ H th rho eta _ EX I S x h) fun d s1 ⟨th1, H1, eta1, I1, g1, S1, q1⟩ => ?_)⟩
  cases d with
  | true => exact thn (ha.run pins s1 σ H1 th1 rho eta1 Qa EX I1 S1 (x.mono g1 S1.hp) q1) fun c s2 ⟨z2, th2, H2, d2, eta2, I2, r2, g2, S2, R2, q2⟩ => ⟨z2, th2, H2, d2, eta2, I2, r2, g1.trans' S1.hp g2, S2, R2, q2⟩
  | false => exact thn (hb.run pins s1 σ H1 th1 rho eta1 Qa EX I1 S1 (x.mono g1 S1.hp) q1) fun c s2 ⟨z2, th2, H2, d2, eta2, I2, r2, g2, S2, R2, q2⟩ => ⟨z2, th2, H2, d2, eta2, I2, r2, g1.trans' S1.hp g2, S2, R2, q2⟩
end
end RF
set_option maxRecDepth 100000
set_option maxHeartbeats 4000000
namespace RF
open PySem PySem.Spec PyProof.Rows L2
section
variable {X : Cx} {W : Wd} {Wx : WX}
theorem SR.set {th : List Addr} {H : Hp} {σ : L2.St} {rho : Rho} {eta : List MO} (S : SR W th H σ rho eta) (i : Nat) {d : D} {v : V} (R : RepT W th H d v) : SR W th H (σ.set i (some v)) (rho.set i (some d)) eta := by
  refine ⟨fun j e h => ?_, by simpa using S.le, S.hp⟩
  by_cases hj : i = j
  · subst hj
    by_cases hl : i < rho.length
    · rw [List.getElem?_set_self hl] at h
      cases h
      exact ⟨v, List.getElem?_set_self (Nat.lt_of_lt_of_le hl S.le), R⟩
    · rw [List.getElem?_eq_none (by simp; omega)] at h; cases h
  · rw [List.getElem?_set_ne hj] at h
    obtain ⟨w, e1, r⟩ := S.var j e h
    exact ⟨w, by rw [List.getElem?_set_ne hj]; exact e1, r⟩
/-! ### blocks -/
def aNext : TSa := fun Dn rho eta _ => Dn.nx rho eta
def aSeq (t u : TSa) : TSa := fun Dn rho eta EX => t { Dn with nx := fun rho1 eta1 => u Dn rho1 eta1 EX } rho eta EX
theorem SPa.grow {pins : List (Addr × Obj)} {th th1 : List Addr} {H H1 : Hp} {eta1 : List MO} {Dn : EndsA} {f : Flow} {s' : Shared} (g : Grow th H th1 H1) (S : SRh W th1 H1 eta1) (h : SPa X W pins th1 H1 Dn f s') : SPa X W pins th H Dn f s' := by
  cases f with
  | next => obtain ⟨σ', th', H', rho', eta', I', g', S', q⟩ := h; exact ⟨σ', th', H', rho', eta', I', g.trans' S g', S', q⟩
  | brk => obtain ⟨σ', th', H', rho', eta', I', g', S', q⟩ := h; exact ⟨σ', th', H', rho', eta', I', g.trans' S g', S', q⟩
  | cont => obtain ⟨σ', th', H', rho', eta', I', g', S', q⟩ := h; exact ⟨σ', th', H', rho', eta', I', g.trans' S g', S', q⟩
  | ret u => obtain ⟨v, σ', th', H', rho', d, eta', I', r, g', S', R, q⟩ := h; exact ⟨v, σ', th', H', rho', d, eta', I', r, g.trans' S g', S', R, q⟩
theorem ss_nil : SsA X W Wx [] aNext := ⟨fun pins s σ H th rho eta Dn EX I S x h => wpAny_execs_nil ⟨σ, th, H, rho, eta, I, Grow.refl _ _, S, h⟩⟩
theorem ss_cons {st : Stmt} {rest : List Stmt} {t u : TSa} (h1 : SA X W Wx st t) (h2 : SsA X W Wx rest u) : SsA X W Wx (st :: rest) (aSeq t u) := by
  refine ⟨fun pins s σ H th rho eta Dn EX I S x h => wpAny_execs_cons (thn (h1.run pins s σ H th rho eta { Dn with nx := fun rho1 eta1 => u Dn rho1 eta1 EX } EX I S x h) fun f s1 q => ?_)⟩
  cases f with
  | next =>
    obtain ⟨σ', th', H', rho', eta', I', g, S', q⟩ := q
    exact thn (h2.run pins s1 σ' H' th' rho' eta' Dn EX I' S' (x.mono g S'.hp) q) fun f s2 q2 => q2.grow g S'.hp
  | ret v => exact q
  | brk => exact q
  | cont => exact q
theorem ss_one {st : Stmt} {t : TSa} (h1 : SA X W Wx st t) : SsA X W Wx [st] t := by
  refine ⟨fun pins s σ H th rho eta Dn EX I S x h => wpAny_execs_cons (thn (h1.run pins s σ H th rho eta Dn EX I S x h) fun f s1 q => ?_)⟩
  cases f with
  | next => exact wpAny_execs_nil q
  | ret v => exact q
  | brk => exact q
  | cont => exact q
def aBrk : TSa := fun Dn rho eta _ => Dn.bk rho eta
def aCnt : TSa := fun Dn rho eta _ => Dn.ct rho eta
def aDrop (t : TEa) : TSa := fun Dn rho eta EX => t rho eta (fun _ eta1 => Dn.nx rho eta1) EX
def aRet (t : TEa) : TSa := fun Dn rho eta EX => t rho eta Dn.rt EX
def aRetN : TSa := fun Dn _ eta _ => Dn.rt .non eta
theorem sa_pass {pos : Pos} : SA X W Wx (.Pass pos) aNext := ⟨fun pins s σ H th rho eta Dn EX I S x h => wpAny_Pass ⟨σ, th, H, rho, eta, I, Grow.refl _ _, S, h⟩⟩
theorem sa_break {pos : Pos} : SA X W Wx (.Break pos) aBrk := ⟨fun pins s σ H th rho eta Dn EX I S x h => wpAny_Break ⟨σ, th, H, rho, eta, I, Grow.refl _ _, S, h⟩⟩
theorem sa_continue {pos : Pos} : SA X W Wx (.Continue pos) aCnt := ⟨fun pins s σ H th rho eta Dn EX I S x h => wpAny_Continue ⟨σ, th, H, rho, eta, I, Grow.refl _ _, S, h⟩⟩
theorem sa_expr {e : Expr} {pos : Pos} {t : TEa} (he : EA X W Wx e t) (hs : swapsWith e none pos.line X.env = pure false := by rfl) : SA X W Wx (.Expr e pos) (aDrop t) :=
  ⟨fun pins s σ H th rho eta Dn EX I S x h => wpAny_Expr_any (thn (he.run pins s σ H th rho eta _ EX I S x h) fun v s1 ⟨z, th', H', d, eta', I', r, g, S', R, q⟩ => ⟨σ, th', H', rho, eta', I', g, S', q⟩) I.quiet hs⟩
theorem sa_ret {e : Expr} {pos : Pos} {t : TEa} (he : EA X W Wx e t) : SA X W Wx (.Return (some e) pos) (aRet t) :=
  ⟨fun pins s σ H th rho eta Dn EX I S x h => wpAny_Return_some (thn (he.run pins s σ H th rho eta _ EX I S x h) fun v s1 ⟨z, th', H', d, eta', I', r, g, S', R, q⟩ => ⟨z, σ, th', H', rho, d, eta', I', r, g, S', R, q⟩)⟩
theorem sa_retN {pos : Pos} : SA X W Wx (.Return none pos) aRetN := ⟨fun pins s σ H th rho eta Dn EX I S x h => wpAny_Return_none ⟨.non, σ, th, H, rho, .non, eta, I, rfl, Grow.refl _ _, S, rfl, h⟩⟩
def aIfS (c : TTa) (t u : TSa) : TSa := fun Dn rho eta EX => c rho eta (fun b eta1 => if b = true then t Dn rho eta1 EX else u Dn rho eta1 EX) EX
theorem sa_if {c : Expr} {a b : List Stmt} {pos : Pos} {tc : TTa} {t u : TSa} (hc : TA' X W Wx c tc) (ha : SsA X W Wx a t) (hb : SsA X W Wx b u) : SA X W Wx (.If c a b pos) (aIfS tc t u) := by
  refine ⟨fun pins s σ H th rho eta Dn EX I S x h => wpAny_If (thn (hc.run pins s σ H th rho eta _ EX I S x h) fun d s1 ⟨th1, H1, eta1, I1, g1, S1, q1⟩ => ?_)⟩
  cases d with
  | true => exact thn (ha.run pins s1 σ H1 th1 rho eta1 Dn EX I1 S1 (x.mono g1 S1.hp) q1) fun f s2 q2 => q2.grow g1 S1.hp
  | false => exact thn (hb.run pins s1 σ H1 th1 rho eta1 Dn EX I1 S1 (x.mono g1 S1.hp) q1) fun f s2 q2 => q2.grow g1 S1.hp
/-- name = e -/
def aSet (i : Nat) (t : TEa) : TSa := fun Dn rho eta EX => t rho eta (fun d eta1 => Dn.nx (rho.set i (some d)) eta1) EX
theorem sa_set {i : Nat} {x : Str} {e : Expr} {t : TEa} {pos pos' : Pos} (hN : X.N.Nodup) (hi : X.N[i]? = some x) (hx : Loc X.env.scope x) (he : EA X W Wx e t) (hs : swapsWith e (some (.Name x pos')) pos.line X.env = pure false := by rfl) (hf : X.fn x = true ∨ X.env.scope.names.lookup x = some .local := by first | exact .inl rfl | exact .inr rfl | assumption) :
    SA X W Wx (.Assign [.Name x pos'] e pos) (aSet i t) := by
  refine ⟨fun pins s σ H th rho eta Dn EX I S xo h => ?_⟩
  refine wpAny_Assign_Name (thn (he.run pins s σ H th rho eta _ EX I S xo h) fun v s1 ⟨y, th1, H1, d, eta1, I1, r1, g1, S1, R1, q1⟩ => ?_) hs
  exact store_ok I1 hN hi hx r1 (fun s2 I2 => ⟨_, th1, H1, _, eta1, I2, g1, S1.set i R1, q1⟩) hf
/-- a, b = x, y (two local names) -/
def aPar (i j : Nat) (t : TAa) : TSa := fun Dn rho eta EX => t rho eta (fun ds eta1 => match ds with
  | [d, e] => Dn.nx ((rho.set i (some d)).set j (some e)) eta1
  | _ => False) EX
theorem sa_par {i j : Nat} {x y : Str} {a b : Expr} {t : TAa} {px py pt pos : Pos} {kt k2 pt2} (hc : X.calm = true) (hN : X.N.Nodup) (hi : X.N[i]? = some x) (hj : X.N[j]? = some y) (hij : i ≠ j)
    (hx : X.env.scope.names.lookup x = some .local) (hy : X.env.scope.names.lookup y = some .local) (ha : AA X W Wx [a, b] t)
    (hw : swappedStores [.Tuple [.Name x px, .Name y py] kt pt] (.Tuple [a, b] k2 pt2) X.env = pure (some [x, y]) := by rfl)
    (hs : swapsWithSole [.Tuple [.Name x px, .Name y py] kt pt] (.Tuple [a, b] k2 pt2) pos.line X.env = pure false := by rfl) :
    SA X W Wx (.Assign [.Tuple [.Name x px, .Name y py] kt pt] (.Tuple [a, b] k2 pt2) pos) (aPar i j t) :=
  .of (ps_par hc hN hi hj hij hx hy ha.pa hw hs) fun σ H th rho eta Dn EX S xo h => by
    refine ⟨th, rho, eta, _, EX, S, xo, h, fun th1 H1 vs ds eta1 g S1 R q => ?_⟩
    split at q
    · rename_i d e
      obtain ⟨v, r, rfl, R1, w, r2, rfl, R2, e3⟩ := R
      have e3 : r2 = [] := e3
      subst e3
      exact ⟨v, w, rfl, th1, _, eta1, g, (S1.set i R1).set j R2, q⟩
    · exact q.elim

/-! ### targets -/
abbrev TGa := D → Rho → List MO → (Rho → List MO → Prop) → Prop
structure GA (X : Cx) (W : Wd) (target : Expr) (g : TGa) : Prop where
  run : ∀ (pins : List (Addr × Obj)) (s : Shared) (σ : L2.St) (H : Hp) (th : List Addr) (rho : Rho) (eta : List MO) (v : V) (u : Value) (d : D) (Q : Rho → List MO → Prop), Inv X pins σ H s → SR W th H σ rho eta → RelV v u → RepT W th H d v → g d rho eta Q →
    wpAny (model X.prog X.w) X.A (assign target X.env u) (fun _ s' => NPa X W pins th H Q s') X.xe s
def aGN (i : Nat) : TGa := fun d rho eta Q => Q (rho.set i (some d)) eta
theorem ga_name {i : Nat} {x : Str} {pos : Pos} (hN : X.N.Nodup) (hi : X.N[i]? = some x) (hx : Loc X.env.scope x) (hf : X.fn x = true ∨ X.env.scope.names.lookup x = some .local := by first | exact .inl rfl | exact .inr rfl | assumption) : GA X W (.Name x pos) (aGN i) :=
  ⟨fun pins s σ H th rho eta v u d Q I S r R h => wpAny_assign_Name (store_ok I hN hi hx r (fun s' I' => ⟨_, th, H, _, eta, I', Grow.refl _ _, S.set i R, h⟩) hf)⟩
/-- a, b, .. = a tuple -/
abbrev TGsa := List D → Rho → List MO → (Rho → List MO → Prop) → Prop
structure GsA (X : Cx) (W : Wd) (ts : List Expr) (g : TGsa) : Prop where
  run : ∀ (pins : List (Addr × Obj)) (s : Shared) (σ : L2.St) (H : Hp) (th : List Addr) (rho : Rho) (eta : List MO) (vs : List V) (us : List Value) (ds : List D) (Q : Rho → List MO → Prop), Inv X pins σ H s → SR W th H σ rho eta → Vals vs us → Reps W H ds vs → g ds rho eta Q →
    wpAny (model X.prog X.w) X.A (assignInOrder ((assignEach ts X.env).map (·.2)) us) (fun _ s' => NPa X W pins th H Q s') X.xe s
def aGsN : TGsa := fun ds rho eta Q => match ds with
  | [] => Q rho eta
  | _ => False
def aGsC (g : TGa) (r : TGsa) : TGsa := fun ds rho eta Q => match ds with
  | d :: ds => g d rho eta fun rho1 eta1 => r ds rho1 eta1 Q
  | [] => False
theorem gs_nil : GsA X W [] aGsN := ⟨fun pins s σ H th rho eta vs us ds Q I S r R h => by
  cases ds with
  | nil =>
    have e : vs = [] := R
    subst e
    cases r
    exact assignInOrder_nil ⟨σ, th, H, rho, eta, I, Grow.refl _ _, S, h⟩
  | cons d ds => exact h.elim⟩
theorem gs_cons {e : Expr} {es : List Expr} {g : TGa} {r : TGsa} (h1 : GA X W e g) (h2 : GsA X W es r)
    (hs : (assignEach (e :: es) X.env).map (·.2) = assign e X.env :: (assignEach es X.env).map (·.2) := by rfl) : GsA X W (e :: es) (aGsC g r) := ⟨fun pins s σ H th rho eta vs us ds Q I S rv R h => by
  cases ds with
  | nil => exact h.elim
  | cons d ds =>
    obtain ⟨v, vr, e1, R1, R2⟩ := R
    subst e1
    cases rv with
    | cons r1 rr =>
      rw [hs]
      refine assignInOrder_cons (thn (h1.run pins s σ H th rho eta v _ d _ I S r1 (RepT.of R1) h) fun _ s1 ⟨σ1, th1, H1, rho1, eta1, I1, g1, S1, q1⟩ => ?_)
      exact thn (h2.run pins s1 σ1 H1 th1 rho1 eta1 _ _ ds Q I1 S1 rr (Reps.mono g1.pers _ _ R2) q1) fun _ s2 ⟨σ2, th2, H2, rho2, eta2, I2, g2, S2, q2⟩ => ⟨σ2, th2, H2, rho2, eta2, I2, g1.trans' S1.hp g2, S2, q2⟩⟩
def aGT (n : Nat) (r : TGsa) : TGa := fun d rho eta Q => match d with
  | .tup ds => ds.length = n ∧ r ds rho eta Q
  | _ => False
theorem ga_tup {es : List Expr} {k : Nat} {r : TGsa} {n : Nat} {pos : Pos} (hc : X.calm = true) (h : GsA X W es r)
    (hn : (assignEach es X.env).length = n := by rfl) (hst : (assignEach es X.env).findIdx? (·.1) = none := by rfl) : GA X W (.Tuple es k pos) (aGT n r) := by
  refine ⟨fun pins s σ H th rho eta v u d Q I S rv R hw => ?_⟩
  cases d with
  | tup ds =>
    obtain ⟨hl, hw⟩ := hw
    obtain ⟨a, xs, e1, hq, Rs⟩ := R
    subst e1
    cases rv
    obtain ⟨its, rv, ht, hz⟩ := I.tuple (SqT.of hq)
    have hlx : xs.length = n := by rw [← Rs.length]; exact hl
    refine assign_Tuple_tuple (I.ok.hd hc) ht (by simp [hn, ← hlx, rv.length]) hst fun h' hx => ?_
    have I1 : Inv X pins σ H { s with heap := h' } := I.kept (t' := s.toks) fun b o e => hx b o (Nat.ne_of_lt (Heap.lt_size e)) e
    exact h.run pins _ σ H th rho eta xs _ ds Q I1 S (by simpa using rv) Rs hw
  | _ => exact hw.elim
theorem sa_asg {tg e : Expr} {t : TEa} {g : TGa} {pos : Pos} (he : EA X W Wx e t) (hg : GA X W tg g) (hs : swapsWithSole [tg] e pos.line X.env = pure false := by rfl) (hw : swappedStores [tg] e X.env = pure none := by rfl)
    (h1 : (assignEach [tg] X.env).map (·.2) = [assign tg X.env] := by rfl) : SA X W Wx (.Assign [tg] e pos) (fun Dn rho eta EX => t rho eta (fun d eta1 => g d rho eta1 Dn.nx) EX) := by
  refine ⟨fun pins s σ H th rho eta Dn EX I S xo h => ?_⟩
  refine wpAny_Assign_stores (thn (he.run pins s σ H th rho eta _ EX I S xo h) fun v s1 ⟨x, th1, H1, d, eta1, I1, r1, g1, S1, R1, q1⟩ => ?_) hs hw
  rw [h1]
  exact thn (hg.run pins s1 σ H1 th1 rho eta1 x v d _ I1 S1 r1 R1 q1) fun _ s2 ⟨σ2, th2, H2, rho2, eta2, I2, g2, S2, q2⟩ => ⟨σ2, th2, H2, rho2, eta2, I2, g1.trans' S1.hp g2, S2, q2⟩

/-! ### what is walked -/
/-- an iterator that yields these data -/
def JOk (W : Wd) (J : It) (th : List Addr) (H : Hp) (ds : List D) : Prop :=
  ∀ th' H', Grow th H th' H' → ∀ i : Nat, (∀ d, ds[i]? = some d → J.go i H' ∧ ∀ x H'', J.yld i H' x H'' → Pers H' H'' ∧ (∀ th2 eta2, SRh W th2 H' eta2 → SRh W th2 H'' eta2 ∧ Grow th2 H' th2 H'') ∧ Rep W H'' d x) ∧ (ds.length ≤ i → J.stop i H')
abbrev TIa := Rho → List MO → (List D → List MO → Prop) → EXA → Prop
structure IA (X : Cx) (W : Wd) (Wx : WX) (tg iter : Expr) (ti : TIa) : Prop where
  run : ∀ (pins : List (Addr × Obj)) (s : Shared) (σ : L2.St) (H : Hp) (th : List Addr) (rho : Rho) (eta : List MO) (R : List D → List MO → Prop) (EX : EXA), Inv X pins σ H s → SR W th H σ rho eta → XOk W Wx th H EX → ti rho eta R EX →
    wpAny (model X.prog X.w) X.A (eval iter X.env) (fun v s1 => wpAny (model X.prog X.w) X.A (pyIter v) (PIE X pins σ tg fun J H' => ∃ th' ds eta', Grow th H th' H' ∧ SR W th' H' σ rho eta' ∧ JOk W J th' H' ds ∧ R ds eta') X.xe s1) X.xe s
theorem IA.of {tg iter : Expr} {wi : TI} {ti : TIa} (h : PI X tg iter wi) (k : ∀ (σ : L2.St) (H : Hp) (th : List Addr) (rho : Rho) (eta : List MO) (R : List D → List MO → Prop) (EX : EXA), SR W th H σ rho eta → XOk W Wx th H EX → ti rho eta R EX →
    wi σ H fun J H' => ∃ th' ds eta', Grow th H th' H' ∧ SR W th' H' σ rho eta' ∧ JOk W J th' H' ds ∧ R ds eta') : IA X W Wx tg iter ti := ⟨fun pins s σ H th rho eta R EX I S x ht => h.run pins s σ H _ I (k σ H th rho eta R EX S x ht)⟩
/-- the layer's own reading of it -/
def lftI (W : Wd) (Wx : WX) (ti : TIa) : TI := fun σ H R' => ∃ th rho eta R EX, SR W th H σ rho eta ∧ XOk W Wx th H EX ∧ ti rho eta R EX ∧ ∀ J th' H' ds eta', Grow th H th' H' → SR W th' H' σ rho eta' → JOk W J th' H' ds → R ds eta' → R' J H'
theorem IA.pi {tg iter : Expr} {ti : TIa} (h : IA X W Wx tg iter ti) : PI X tg iter (lftI W Wx ti) := ⟨fun pins s σ H R' I ⟨th, rho, eta, R, EX, S, x, ht, k⟩ =>
  thn (h.run pins s σ H th rho eta R EX I S x ht) fun v s1 h1 => thn h1 fun itv s2 ⟨it, fp, tn, J, H', e, I', T, t0, f, th', ds, eta', g, S', jo, q⟩ => ⟨it, fp, tn, J, H', e, I', T, t0, f, k J th' H' ds eta' g S' jo q⟩⟩
/-- the items of a frozen list -/
def itemsQ (R : List D → List MO → Prop) : QA := fun d eta => match d with
  | .fl ds => R ds eta
  | _ => False
def aIt (t : TEa) : TIa := fun rho eta R EX => t rho eta (itemsQ R) EX
theorem Reps.get {H : Hp} : ∀ {ds : List D} {vs : List V} {i : Nat} {d : D}, Reps W H ds vs → ds[i]? = some d → ∃ v, vs[i]? = some v ∧ Rep W H d v
  | [], _, i, d, _, e => by simp at e
  | d :: ds, _, 0, e, ⟨v, r, e1, h1, h2⟩, h => by simp at h; subst h; exact ⟨v, by rw [e1]; rfl, h1⟩
  | d :: ds, _, i + 1, e, ⟨v, r, e1, h1, h2⟩, h => by
    obtain ⟨w, e2, r2⟩ := Reps.get (i := i) h2 (by simpa using h)
    exact ⟨w, by rw [e1]; simpa using e2, r2⟩
theorem jok_list {K : PySem.W.Frag} {a : Addr} {th : List Addr} {H : Hp} {o : Obj} {ds : List D} {vs : List V} (h : H a = some (.frz o (.lst vs))) (R : Reps W H ds vs) : JOk W (Itl K a) th H ds := by
  intro th' H' g i
  have h' := g.pers a _ h trivial
  have q : SqL K H' a vs := .inl (.inr ⟨o, h'⟩)
  refine ⟨fun d e => ?_, fun hl => ⟨vs, q, by rw [← R.length]; exact hl⟩⟩
  obtain ⟨v, e1, r⟩ := R.get e
  refine ⟨⟨vs, v, q, e1⟩, fun x H'' hy => ?_⟩
  obtain ⟨e2, hy⟩ := hy
  subst e2
  have ex := hy vs q
  rw [e1] at ex; cases ex
  exact ⟨fun _ _ z _ => z, fun th2 eta2 S2 => ⟨S2, Grow.refl _ _⟩, Rep.mono g.pers _ _ r⟩
theorem ia_list {tg l : Expr} {t : TEa} (h : EA X W Wx l t) : IA X W Wx tg l (aIt t) := .of (pi_list h.pe) fun σ H th rho eta R EX S x ht => by
  refine ⟨th, rho, eta, _, EX, S, x, ht, fun th1 H1 v d eta1 g S1 Rd q => ?_⟩
  unfold itemsQ at q
  split at q
  · obtain ⟨a, o, vs, rfl, e, Rs⟩ := Rd
    exact ⟨a, rfl, ⟨vs, .inl (.inr ⟨o, e⟩)⟩, th1, _, eta1, g, S1, jok_list e Rs, q⟩
  · exact q.elim
def itemsT (R : List D → List MO → Prop) : QA := fun d eta => match d with
  | .tup ds => R ds eta
  | _ => False
def aItT (t : TEa) : TIa := fun rho eta R EX => t rho eta (itemsT R) EX
theorem ia_tup {tg l : Expr} {t : TEa} (h : EA X W Wx l t) : IA X W Wx tg l (aItT t) := .of (pi_tup h.pe) fun σ H th rho eta R EX S x ht => by
  refine ⟨th, rho, eta, _, EX, S, x, ht, fun th1 H1 v d eta1 g S1 Rd q => ?_⟩
  unfold itemsT at q
  split at q
  · obtain ⟨a, vs, rfl, e, Rs⟩ := Rd
    refine ⟨a, rfl, ⟨vs, .inl (.inl e)⟩, th1, _, eta1, g, S1, ?_, q⟩
    intro th' H' g' i
    have h' := g'.pers a _ e trivial
    have q : SqT X.K H' a vs := .inl (.inl h')
    refine ⟨fun d e => ?_, fun hl => ⟨vs, q, by rw [← Rs.length]; exact hl⟩⟩
    obtain ⟨v, e1, r⟩ := Rs.get e
    refine ⟨⟨vs, v, q, e1⟩, fun x H'' hy => ?_⟩
    obtain ⟨e2, hy⟩ := hy
    subst e2
    have ex := hy vs q
    rw [e1] at ex; cases ex
    exact ⟨fun _ _ z _ => z, fun th2 eta2 S2 => ⟨S2, Grow.refl _ _⟩, Rep.mono g'.pers _ _ r⟩
  · exact q.elim
/-- range(n), range(a, b) -/
def rngL (lo : Int) : Nat → List D
  | 0 => []
  | n + 1 => .int lo :: rngL (lo + 1) n
theorem rngL_get : ∀ (n : Nat) (lo : Int) (i : Nat), i < n → (rngL lo n)[i]? = some (.int (lo + i))
  | n + 1, lo, 0, _ => by simp [rngL]
  | n + 1, lo, i + 1, h => by
    have := rngL_get n (lo + 1) i (by omega)
    simp only [rngL, List.getElem?_cons_succ, this]
    congr 2; omega
theorem rngL_len : ∀ (n : Nat) (lo : Int), (rngL lo n).length = n
  | 0, _ => rfl
  | n + 1, lo => by simp [rngL, rngL_len n]
theorem jok_rng {th : List Addr} {H : Hp} {lo : Int} {n : Nat} : JOk W (Itr lo n) th H (rngL lo n) := by
  intro th' H' g i
  refine ⟨fun d e => ?_, fun hl => by rw [rngL_len] at hl; exact hl⟩
  have hi : i < n := by have := (List.getElem?_eq_some_iff.mp e).1; rw [rngL_len] at this; exact this
  rw [rngL_get n lo i hi] at e
  cases e
  refine ⟨hi, fun x H'' hy => ?_⟩
  obtain ⟨rfl, rfl⟩ := hy
  exact ⟨fun _ _ z _ => z, fun th2 eta2 S2 => ⟨S2, Grow.refl _ _⟩, rfl⟩
def aRng1 (t : TAa) : TIa := fun rho eta R EX => t rho eta (fun ds eta1 => match ds with
  | [.int j] => (-(2 ^ 62) ≤ j ∧ j < 2 ^ 62) ∧ R (rngL 0 j.toNat) eta1
  | _ => False) EX
theorem ia_range1 {tg a : Expr} {t : TAa} {p pos : Pos} (hm : X.mg "range" = none) (ha : AA X W Wx [a] t) (hg : Gl X "range" := by rfl) (hs : starEach [a] X.env = [(false, eval a X.env)] := by rfl) : IA X W Wx tg (.Call (.Name "range" p) [a] [] pos) (aRng1 t) :=
  .of (pi_range1 hg hm ha.pa hs) fun σ H th rho eta R EX S x ht => by
    refine ⟨th, rho, eta, _, EX, S, x, ht, fun th1 H1 vs ds eta1 g S1 Rs q => ?_⟩
    split at q
    · obtain ⟨v, r, rfl, R1, e⟩ := Rs
      have e : r = [] := e
      subst e
      have e2 : v = _ := R1
      subst e2
      exact ⟨_, rfl, q.1.1, q.1.2, th1, _, eta1, g, S1, jok_rng, q.2⟩
    · exact q.elim
def aRng2 (t : TAa) : TIa := fun rho eta R EX => t rho eta (fun ds eta1 => match ds with
  | [.int i, .int j] => (-(2 ^ 62) ≤ i ∧ i < 2 ^ 62 ∧ -(2 ^ 62) ≤ j ∧ j < 2 ^ 62) ∧ R (rngL i (j - i).toNat) eta1
  | _ => False) EX
theorem ia_range2 {tg a b : Expr} {t : TAa} {p pos : Pos} (hm : X.mg "range" = none) (ha : AA X W Wx [a, b] t) (hg : Gl X "range" := by rfl) (hs : starEach [a, b] X.env = [(false, eval a X.env), (false, eval b X.env)] := by rfl) (hs2 : starEach [b] X.env = [(false, eval b X.env)] := by rfl) : IA X W Wx tg (.Call (.Name "range" p) [a, b] [] pos) (aRng2 t) :=
  .of (pi_range2 hg hm ha.pa hs hs2) fun σ H th rho eta R EX S x ht => by
    refine ⟨th, rho, eta, _, EX, S, x, ht, fun th1 H1 vs ds eta1 g S1 Rs q => ?_⟩
    split at q
    · obtain ⟨v, r, rfl, R1, w, r2, rfl, R2, e⟩ := Rs
      have e : r2 = [] := e
      subst e
      have e2 : v = _ := R1
      have e3 : w = _ := R2
      subst e2 e3
      exact ⟨_, _, rfl, q.1, th1, _, eta1, g, S1, jok_rng, q.2⟩
    · exact q.elim

/-! ### for -/
def aLoop (g : TGa) (tb : TSa) (Dn : EndsA) (EX : EXA) : List D → Rho → List MO → Prop
  | [], rho, eta => Dn.nx rho eta
  | d :: ds, rho, eta => g d rho eta fun rho1 eta1 => tb { nx := aLoop g tb Dn EX ds, ct := aLoop g tb Dn EX ds, bk := Dn.nx, rt := Dn.rt } rho1 eta1 EX
def aFor (ti : TIa) (g : TGa) (tb : TSa) : TSa := fun Dn rho eta EX => ti rho eta (fun ds eta1 => aLoop g tb Dn EX ds rho eta1) EX
theorem GA.pg {tg : Expr} {g : TGa} (h : GA X W tg g) : PG X tg (fun v σ H Q => ∃ th rho eta d Qa, SR W th H σ rho eta ∧ RepT W th H d v ∧ g d rho eta Qa ∧ ∀ th' H' σ' rho' eta', Grow th H th' H' → SR W th' H' σ' rho' eta' → Qa rho' eta' → Q σ' H') :=
  ⟨fun pins s σ H v u Q I r ⟨th, rho, eta, d, Qa, S, R, hg, k⟩ => thn (h.run pins s σ H th rho eta v u d Qa I S r R hg) fun _ s' ⟨σ', th', H', rho', eta', I', g, S', q⟩ => ⟨σ', H', I', k _ _ _ _ _ g S' q⟩⟩
theorem drop_get {α : Type} {l : List α} {i : Nat} {x : α} (h : l[i]? = some x) : l.drop i = x :: l.drop (i + 1) := by
  obtain ⟨hi, e⟩ := List.getElem?_eq_some_iff.mp h
  rw [← e, List.drop_eq_getElem_cons hi]
theorem sa_for {tg iter : Expr} {body : List Stmt} {ti : TIa} {g : TGa} {tb : TSa} {pos : Pos} (hp : PassesOwn (model X.prog X.w) X.A X.env X.xe) (hc : X.calm = true) (hi : IA X W Wx tg iter ti) (hg : GA X W tg g) (hb : SsA X W Wx body tb)
    (hs : ∀ x, foldedSetIterable iter X.env x = pure x := by intro _; rfl) : SA X W Wx (.For tg iter body [] pos) (aFor ti g tb) :=
  .of (ps_for hp hc hi.pi hg.pg hb.pss hs) fun σ H th rho eta Dn EX S xo ht => by
    refine ⟨th, rho, eta, _, EX, S, xo, ht, fun J th1 H1 ds eta1 g1 S1 jo q => ?_⟩
    refine ⟨fun i m σ2 H2 => ∃ th2 rho2 eta2, Grow th1 H1 th2 H2 ∧ SR W th2 H2 σ2 rho2 eta2 ∧ i ≤ ds.length ∧ m = ds.length - i ∧ aLoop g tb Dn EX (ds.drop i) rho2 eta2, ⟨_, th1, rho, eta1, Grow.refl _ _, S1, Nat.zero_le _, rfl, by simpa using q⟩, ?_⟩
    rintro i m σ2 H2 ⟨th2, rho2, eta2, g2, S2, hil, rfl, q2⟩
    obtain ⟨jg, js⟩ := jo th2 H2 g2 i
    cases e : ds[i]? with
    | none =>
      have hl : ds.length ≤ i := List.getElem?_eq_none_iff.mp e
      refine .inl ⟨js hl, th2, rho2, eta2, g1.trans' S1.hp g2, S2, ?_⟩
      rw [List.drop_eq_nil_of_le hl] at q2
      exact q2
    | some d =>
      obtain ⟨hgo, hy⟩ := jg d e
      have hlt : i < ds.length := (List.getElem?_eq_some_iff.mp e).1
      rw [drop_get e] at q2
      refine .inr ⟨hgo, fun σ' H' => ∃ th2 rho2 eta2, Grow th1 H1 th2 H' ∧ SR W th2 H' σ' rho2 eta2 ∧ aLoop g tb Dn EX (ds.drop (i + 1)) rho2 eta2, fun σ' H' ⟨th3, rho3, eta3, g3, S3, q3⟩ => ⟨ds.length - (i + 1), by omega, th3, rho3, eta3, g3, S3, hlt, rfl, q3⟩, fun x H' hyl => ?_⟩
      obtain ⟨_, hk, Rx⟩ := hy x H' hyl
      obtain ⟨S2h, g3⟩ := hk th2 eta2 S2.hp
      refine ⟨th2, rho2, eta2, d, _, S2.mono g3 S2h, RepT.of Rx, q2, fun th4 H4 σ4 rho4 eta4 g4 S4 q4 => ?_⟩
      have g34 := g3.trans' S2h g4
      have g14 := g2.trans' S2.hp g34
      have x4 : XOk W Wx th4 H4 EX := xo.mono (g1.trans' S1.hp g14) S4.hp
      refine ⟨th4, rho4, eta4, _, EX, S4, x4, q4, ?_, ?_, ?_, ?_⟩
      · exact fun th5 H5 σ5 rho5 eta5 g5 S5 q5 => ⟨th5, rho5, eta5, g14.trans' S4.hp g5, S5, q5⟩
      · exact fun th5 H5 σ5 rho5 eta5 g5 S5 q5 => ⟨th5, rho5, eta5, (g1.trans' S1.hp g14).trans' S4.hp g5, S5, q5⟩
      · exact fun th5 H5 σ5 rho5 eta5 g5 S5 q5 => ⟨th5, rho5, eta5, g14.trans' S4.hp g5, S5, q5⟩
      · exact fun th5 H5 v5 d5 eta5 g5 S5 R5 q5 => ⟨th5, d5, eta5, (g1.trans' S1.hp g14).trans' S4.hp g5, S5, R5, q5⟩
/-! ### while -/
def aWhN (c : TTa) (tb : TSa) (Dn : EndsA) (EX : EXA) : Nat → Rho → List MO → Prop
  | 0, _, _ => False
  | m + 1, rho, eta => c rho eta (fun b eta1 => if b = true then tb { nx := aWhN c tb Dn EX m, ct := aWhN c tb Dn EX m, bk := Dn.nx, rt := Dn.rt } rho eta1 EX else Dn.nx rho eta1) EX
def aWh (c : TTa) (tb : TSa) : TSa := fun Dn rho eta EX => ∃ n, aWhN c tb Dn EX n rho eta
theorem sa_while {c : Expr} {body : List Stmt} {tc : TTa} {tb : TSa} {pos : Pos} (hp : PassesOwn (model X.prog X.w) X.A X.env X.xe) (hc : TA' X W Wx c tc) (hb : SsA X W Wx body tb) : SA X W Wx (.While c body [] pos) (aWh tc tb) :=
  .of (ps_while hp hc.pt hb.pss) fun σ H th rho eta Dn EX S xo ⟨n, ht⟩ => by
    refine ⟨fun m σ2 H2 => ∃ th2 rho2 eta2, Grow th H th2 H2 ∧ SR W th2 H2 σ2 rho2 eta2 ∧ aWhN tc tb Dn EX m rho2 eta2, ⟨n, th, rho, eta, Grow.refl _ _, S, ht⟩, ?_⟩
    rintro m σ2 H2 ⟨th2, rho2, eta2, g2, S2, q2⟩
    cases m with
    | zero => exact q2.elim
    | succ m =>
      refine ⟨th2, rho2, eta2, _, EX, S2, xo.mono g2 S2.hp, q2, fun th3 H3 b eta3 g3 S3 q3 => ?_⟩
      have g23 := g2.trans' S2.hp g3
      cases b with
      | true =>
        rw [if_pos rfl] at q3
        dsimp only
        rw [if_pos rfl]
        refine ⟨fun σ' H' => ∃ th4 rho4 eta4, Grow th H th4 H' ∧ SR W th4 H' σ' rho4 eta4 ∧ aWhN tc tb Dn EX m rho4 eta4, fun σ' H' q => ⟨m, Nat.lt_succ_self m, q⟩, ?_⟩
        refine ⟨th3, rho2, eta3, _, EX, S3, xo.mono g23 S3.hp, q3, ?_, ?_, ?_, ?_⟩
        · exact fun th5 H5 σ5 rho5 eta5 g5 S5 q5 => ⟨th5, rho5, eta5, g23.trans' S3.hp g5, S5, q5⟩
        · exact fun th5 H5 σ5 rho5 eta5 g5 S5 q5 => ⟨th5, rho5, eta5, g23.trans' S3.hp g5, S5, q5⟩
        · exact fun th5 H5 σ5 rho5 eta5 g5 S5 q5 => ⟨th5, rho5, eta5, g23.trans' S3.hp g5, S5, q5⟩
        · exact fun th5 H5 v5 d5 eta5 g5 S5 R5 q5 => ⟨th5, d5, eta5, g23.trans' S3.hp g5, S5, R5, q5⟩
      | false =>
        rw [if_neg Bool.false_ne_true] at q3
        dsimp only
        rw [if_neg Bool.false_ne_true]
        exact ⟨th3, rho2, eta3, g23, S3, q3⟩
end
end RF
set_option maxRecDepth 100000
set_option maxHeartbeats 4000000
namespace RF
open PySem PySem.Spec PyProof.Rows L2
/-! ### what a def promises, over data -/
abbrev SpA := List D → List MO → QA → (Ex → List MO → Prop) → Prop
def spOf (W : Wd) (S : SpA) : Sp := fun vs H Q E => ∃ th ds eta Qa EXa, SRh W th H eta ∧ RepTs W th H ds vs ∧ S ds eta Qa EXa ∧
  (∀ th' H' v d eta', Grow th H th' H' → SRh W th' H' eta' → RepT W th' H' d v → Qa d eta' → Q v H') ∧
  (∀ th' H' ex cls dx eta', Grow th H th' H' → SRh W th' H' eta' → RepX W H' ex cls dx → EXa ex eta' → E cls dx H')
/-- an object that holds no numbered ones -/
def MO.cl : MO → Bool
  | .ins _ ds => ds.all D.im
  | _ => true
theorem RepM.cl {W : Wd} {th th' : List Addr} {H : Hp} {mo : MO} {ho : HO} (h : RepM W th H mo ho) (c : mo.cl = true) : RepM W th' H mo ho := by
  cases mo with
  | ins k ds => obtain ⟨dx, vs, e, l, r⟩ := h; exact ⟨dx, vs, e, l, RepTs.of (RepTs.im r c)⟩
  | _ => exact h
def clA (eta : List MO) : Bool := eta.all MO.cl
theorem SRh.cut {W : Wd} {th t : List Addr} {H : Hp} {eta : List MO} (S : SRh W (th ++ t) H eta) (c : clA (eta.take th.length) = true) : SRh W th H (eta.take th.length) := by
  have hl := S.len
  simp only [List.length_append] at hl
  refine ⟨by simp; omega, (List.nodup_append.mp S.nd).1, fun n mo e => ?_⟩
  rw [List.getElem?_take] at e
  split at e
  · rename_i hn
    obtain ⟨a, ho, e1, e2, r⟩ := S.obj n mo e
    rw [List.getElem?_append_left hn] at e1
    refine ⟨a, ho, e1, e2, r.cl ?_⟩
    exact List.all_eq_true.mp c mo (List.mem_of_getElem? (i := n) (by rw [List.getElem?_take, if_pos hn]; exact e))
  · cases e
theorem Grow.cut {th t : List Addr} {H H' : Hp} (g : Grow th H (th ++ t) H') : Grow th H th H' := ⟨⟨[], by simp, fun _ z => by simp at z⟩, g.keep⟩
/-- at a def's end: its own objects are forgotten, but a new one that it returns -/
def exitQ (n : Nat) (Q : QA) : QA := fun d eta => clA (eta.take n) = true ∧ match d with
  | .ref m => if m < n then Q (.ref m) (eta.take n) else (match eta[m]? with
    | some mo => mo.cl = true ∧ Q (.ref n) (eta.take n ++ [mo])
    | none => False)
  | d => Q d (eta.take n)
def exitX (n : Nat) (E : Ex → List MO → Prop) : EXA := fun ex _ eta => clA (eta.take n) = true ∧ E ex (eta.take n)
theorem exitQ_ok {W : Wd} {th th' : List Addr} {H H' : Hp} {eta' : List MO} {d : D} {v : V} {Qa : QA} (g : Grow th H th' H') (S : SRh W th' H' eta') (r : RepT W th' H' d v) (q : exitQ th.length Qa d eta') :
    ∃ th2 d2 eta2, Grow th H th2 H' ∧ SRh W th2 H' eta2 ∧ RepT W th2 H' d2 v ∧ Qa d2 eta2 := by
  obtain ⟨t, e, ht⟩ := g.pre
  subst e
  obtain ⟨c, q⟩ := q
  have S1 := S.cut c
  have im : ∀ d : D, d.im = true → RepT W (th ++ t) H' d v → Qa d (eta'.take th.length) → ∃ th2 d2 eta2, Grow th H th2 H' ∧ SRh W th2 H' eta2 ∧ RepT W th2 H' d2 v ∧ Qa d2 eta2 :=
    fun d hd r q => ⟨th, d, _, g.cut, S1, RepT.of (r.im hd), q⟩
  cases d with
  | ref m =>
    obtain ⟨a, ea, ev⟩ := r
    dsimp only at q
    split at q
    · rename_i hm
      rw [List.getElem?_append_left hm] at ea
      exact ⟨th, .ref m, _, g.cut, S1, ⟨a, ea, ev⟩, q⟩
    · rename_i hm
      split at q
      · rename_i mo em
        obtain ⟨cm, q⟩ := q
        obtain ⟨b, ho, e1, e2, rm⟩ := S.obj m mo em
        rw [ea] at e1; cases e1
        have ha : a ∈ t := by
          rw [List.getElem?_append_right (by omega)] at ea
          exact List.mem_of_getElem? ea
        have hn : a ∉ th := fun z => by
          have := (List.nodup_append.mp S.nd).2.2 a z a ha
          exact this rfl
        have hl := S.len
        simp only [List.length_append] at hl
        have hlen : (eta'.take th.length).length = th.length := by simp; omega
        refine ⟨th ++ [a], .ref th.length, _, ⟨⟨[a], rfl, fun b hb => by simp at hb; rw [hb]; exact ht a ha⟩, g.keep⟩, ⟨by simp; omega, ?_, fun n mo' e => ?_⟩, ⟨a, by simp, ev⟩, q⟩
        · rw [List.nodup_append]
          exact ⟨S1.nd, by simp, fun x hx y hy => by simp at hy; rw [hy]; rintro rfl; exact hn hx⟩
        · by_cases h : n < th.length
          · rw [List.getElem?_append_left (by rw [hlen]; exact h)] at e
            obtain ⟨b, ho', e1, e3, r2⟩ := S1.obj n mo' e
            refine ⟨b, ho', by rw [List.getElem?_append_left h]; exact e1, e3, r2.cl ?_⟩
            exact List.all_eq_true.mp c mo' (List.mem_of_getElem? e)
          · rw [List.getElem?_append_right (by rw [hlen]; omega)] at e
            have h0 : n = th.length := by
              have := (List.getElem?_eq_some_iff.mp e).1
              simp at this; omega
            subst h0
            simp [hlen] at e
            subst e
            exact ⟨a, ho, by simp, e2, rm.cl cm⟩
      · exact q.elim
  | _ => exact im _ rfl r q
def startA (n : Nat) (ds : List D) : Rho := ds.map some ++ List.replicate (n - ds.length) none
theorem startA_sr {W : Wd} {th : List Addr} {H : Hp} {eta : List MO} {N : List Str} {ds : List D} {vs : List V} (S : SRh W th H eta) (R : RepTs W th H ds vs) : SR W th H (L2.start N vs) (startA N.length ds) eta := by
  have hl := R.length
  refine ⟨fun i d e => ?_, ?_, S⟩
  · unfold startA at e
    by_cases hi : i < ds.length
    · rw [List.getElem?_append_left (by simpa using hi), List.getElem?_map] at e
      have key : ∀ {ds : List D} {vs : List V} {i : Nat} {d : D}, RepTs W th H ds vs → ds[i]? = some d → ∃ v, vs[i]? = some v ∧ RepT W th H d v := by
        intro ds
        induction ds with
        | nil => intro vs i d _ e; simp at e
        | cons x xs ih =>
          intro vs i d ⟨v, r, e1, h1, h2⟩ e
          cases i with
          | zero => simp at e; subst e; exact ⟨v, by rw [e1]; rfl, h1⟩
          | succ i =>
            obtain ⟨w', e2, r2⟩ := ih (i := i) h2 (by simpa only [List.getElem?_cons_succ] using e)
            exact ⟨w', by rw [e1]; simpa only [List.getElem?_cons_succ] using e2, r2⟩
      cases q : ds[i]? with
      | none => rw [q] at e; simp at e
      | some d' =>
        rw [q] at e; simp at e; subst e
        obtain ⟨v, e2, r⟩ := key R q
        exact ⟨v, by unfold L2.start; rw [List.getElem?_append_left (by simp; omega), List.getElem?_map, e2]; rfl, r⟩
    · rw [List.getElem?_append_right (by simp; omega)] at e
      rw [List.getElem?_replicate] at e
      split at e <;> simp at e
  · simp [startA, L2.start]; omega
/-- THE RULE for a def: its body's reading keeps the promise S -/
theorem fn_abs {P : Program} {w : World} {K : PySem.W.Frag} {mg : Str → Option Value} {base : Heap} {x qual : Str} {params : Arguments} {body : List Stmt} {scope : Scope} {dvs : List V} {kws : List (Str × V)} {f : Addr} {fd : FuncData} {N ps : List Str} {k : Nat} {W : Wd} {S : SpA}
    (F : FunD K x qual params body scope dvs kws f fd) (Sc : FnScope N ps scope) (len : ∀ ds eta Qa EXa, S ds eta Qa EXa → ds.length = ps.length)
    (hb : ∀ (cdv : Value) (A : Around) (outer : List Env) (s : Shared) (H : Hp) (E : XK), Room k (A.deeper (envOfC qual scope s.heap.objs.size f cdv)) →
      ∃ t, SsA (cxOf (L2.CX P w) P w K mg base N qual scope f cdv A outer s H E) W (fun cls d _ H => E cls d H) body t ∧
        ∀ ds eta Qa EXa, S ds eta Qa EXa → t { nx := fun _ eta' => exitQ eta.length Qa .non eta', rt := exitQ eta.length Qa } (startA N.length ds) eta (exitX eta.length EXa)) :
    FnOk P w K mg base (L2.CX P w) (k + 1) f fd ps (spOf W S) := by
  refine F.ok Sc (fun vs H Q E ⟨th, ds, eta, Qa, EXa, Sh, R, hS, _, _⟩ => by rw [← R.length]; exact len ds eta Qa EXa hS) fun cdv A outer s H vs Q E hr ⟨th, ds, eta, Qa, EXa, Sh, R, hS, kq, ke⟩ => ?_
  obtain ⟨t, ht, hq⟩ := hb cdv A outer s H E hr
  refine ⟨_, ht.pss, th, startA N.length ds, eta, _, _, startA_sr Sh R, ?_, hq ds eta Qa EXa hS, ?_, ?_, ?_, ?_⟩
  · intro ex rho' eta' th' H' σ' cls dx he g S' rx
    obtain ⟨c, he⟩ := he
    obtain ⟨t', e, _⟩ := g.pre
    subst e
    rw [Sh.len] at c he
    exact ke th H' ex cls dx _ g.cut (S'.hp.cut c) rx he
  · intro th' H' σ' rho' eta' g S' q
    obtain ⟨th2, d2, eta2, g2, S2, R2, q2⟩ := exitQ_ok g S'.hp (d := .non) (v := .non) rfl (by rw [← Sh.len]; exact q)
    exact kq th2 H' .non d2 eta2 g2 S2 R2 q2
  · exact fun th' H' σ' rho' eta' g S' q => q.elim
  · exact fun th' H' σ' rho' eta' g S' q => q.elim
  · intro th' H' v d eta' g S' R' q
    obtain ⟨th2, d2, eta2, g2, S2, R2, q2⟩ := exitQ_ok g S' R' (by rw [← Sh.len]; exact q)
    exact kq th2 H' v d2 eta2 g2 S2 R2 q2

/-! ### the call of a def -/
/-- the numbered objects among the arguments -/
def refsOf : List D → List Nat
  | [] => []
  | .ref n :: ds => n :: refsOf ds
  | _ :: ds => refsOf ds
def fnd : List Nat → Nat → Option Nat
  | [], _ => none
  | r :: rs, n => if r = n then some 0 else (fnd rs n).map (· + 1)
def renD (rs : List Nat) : D → D
  | .ref n => .ref ((fnd rs n).getD 0)
  | d => d
def wbA (rs : List Nat) (sub : List MO) : Nat → List MO → List MO
  | _, [] => sub.drop rs.length
  | n, mo :: r => (match fnd rs n with
    | some i => (sub[i]?).getD .gone
    | none => mo) :: wbA rs sub (n + 1) r
def bkD (rs : List Nat) (k : Nat) : D → D
  | .ref m => .ref (match rs[m]? with
    | some r => r
    | none => k + (m - rs.length))
  | d => d
def ndB : List Nat → Bool
  | [] => true
  | r :: rs => !rs.contains r && ndB rs
def okC (rs : List Nat) (eta : List MO) : Bool := ndB rs && rs.all fun r => match eta[r]? with
  | some mo => mo.cl
  | none => false
def raCall (S : SpA) : RNa := fun ds rho eta Q EX => okC (refsOf ds) eta = true ∧ S (ds.map (renD (refsOf ds))) ((refsOf ds).map fun r => (eta[r]?).getD .gone)
  (fun d sub => clA sub = true ∧ Q (bkD (refsOf ds) eta.length d) (wbA (refsOf ds) sub 0 eta)) (fun ex sub => clA sub = true ∧ EX ex rho (wbA (refsOf ds) sub 0 eta))
end RF
set_option maxRecDepth 100000
set_option maxHeartbeats 4000000
namespace RF
open PySem PySem.Spec PyProof.Rows L2
theorem fnd_some : ∀ {rs : List Nat} {n i : Nat}, fnd rs n = some i → rs[i]? = some n
  | [], n, i, h => by cases h
  | r :: rs, n, i, h => by
    unfold fnd at h
    split at h
    · rename_i e; cases h; simp [e]
    · cases q : fnd rs n with
      | none => rw [q] at h; cases h
      | some j => rw [q] at h; cases h; simpa using fnd_some q
theorem fnd_none : ∀ {rs : List Nat} {n : Nat}, fnd rs n = none → n ∉ rs
  | [], n, h => by simp
  | r :: rs, n, h => by
    unfold fnd at h
    split at h
    · cases h
    · rename_i e
      cases q : fnd rs n with
      | none =>
        simp only [List.mem_cons, not_or]
        exact ⟨Ne.symm e, fnd_none q⟩
      | some j => rw [q] at h; cases h
theorem fnd_mem {rs : List Nat} {n : Nat} (h : n ∈ rs) : ∃ i, fnd rs n = some i ∧ rs[i]? = some n := by
  cases q : fnd rs n with
  | none => exact absurd h (fnd_none q)
  | some i => exact ⟨i, rfl, fnd_some q⟩
theorem ndB_nd : ∀ {rs : List Nat}, ndB rs = true → rs.Nodup
  | [], _ => List.nodup_nil
  | r :: rs, h => by
    simp only [ndB, Bool.and_eq_true, Bool.not_eq_true', List.contains_eq_mem, decide_eq_false_iff_not] at h
    exact List.nodup_cons.mpr ⟨h.1, ndB_nd h.2⟩
theorem wbA_len (rs : List Nat) (sub : List MO) : ∀ (eta : List MO) (n : Nat), (wbA rs sub n eta).length = eta.length + (sub.length - rs.length)
  | [], n => by simp [wbA]
  | mo :: r, n => by simp [wbA, wbA_len rs sub r (n + 1)]; omega
theorem wbA_get (rs : List Nat) (sub : List MO) : ∀ (eta : List MO) (n k : Nat) (mo : MO), (wbA rs sub n eta)[k]? = some mo →
    (∃ m0, eta[k]? = some m0 ∧ mo = (match fnd rs (n + k) with | some i => (sub[i]?).getD .gone | none => m0)) ∨ (eta.length ≤ k ∧ sub[rs.length + (k - eta.length)]? = some mo)
  | [], n, k, mo, h => by
    simp only [wbA, List.getElem?_drop] at h
    exact .inr ⟨Nat.zero_le _, by simpa using h⟩
  | m0 :: r, n, 0, mo, h => by
    simp only [wbA, List.getElem?_cons_zero, Option.some.injEq] at h
    exact .inl ⟨m0, rfl, h.symm⟩
  | m0 :: r, n, k + 1, mo, h => by
    simp only [wbA, List.getElem?_cons_succ] at h
    rcases wbA_get rs sub r (n + 1) k mo h with ⟨m1, e1, e2⟩ | ⟨e1, e2⟩
    · refine .inl ⟨m1, by simpa using e1, ?_⟩
      rw [e2, show n + 1 + k = n + (k + 1) by omega]
    · refine .inr ⟨by simp; omega, ?_⟩
      rw [← e2]; simp
section
variable {W : Wd}
theorem ren_ok {th thc : List Addr} {H : Hp} {rs : List Nat} (hc : ∀ (i r : Nat), rs[i]? = some r → ∀ a, th[r]? = some a → thc[i]? = some a) : ∀ {ds : List D} {vs : List V}, (∀ n ∈ refsOf ds, n ∈ rs) → RepTs W th H ds vs → RepTs W thc H (ds.map (renD rs)) vs
  | [], _, _, h => h
  | d :: ds, _, hm, ⟨v, r, e, h1, h2⟩ => by
    refine ⟨v, r, e, ?_, ren_ok hc (fun n hn => hm n ?_) h2⟩
    · cases d with
      | ref n =>
        obtain ⟨a, ea, ev⟩ := h1
        obtain ⟨i, e1, e2⟩ := fnd_mem (hm n (by simp [refsOf]))
        exact ⟨a, by simp only [e1, Option.getD_some]; exact hc i n e2 a ea, ev⟩
      | _ => exact RepT.of (RepT.im h1 rfl)
    · cases d <;> first | exact hn | (simp only [refsOf, List.mem_cons]; exact .inr hn)
end
section
variable {X : Cx} {W : Wd} {Wx : WX}
/-- what a def's promise asks of the arguments, from the reading of its call -/
theorem sp_raCall {S : SpA} {σ : L2.St} {H : Hp} {th : List Addr} {rho : Rho} {eta : List MO} {xs : List V} {ds : List D} {Qa : QA} {EX : EXA} (Sr : SR W th H σ rho eta) (xo : XOk W Wx th H EX) (Rd : RepTs W th H ds xs) (hq : raCall S ds rho eta Qa EX) :
    spOf W S xs H (fun v H' => ∃ th' d' eta', Grow th H th' H' ∧ SR W th' H' σ rho eta' ∧ RepT W th' H' d' v ∧ Qa d' eta') (WE Wx σ) := by
  obtain ⟨okc, hS⟩ := hq
  generalize ers : refsOf ds = rs at okc hS
  unfold okC at okc
  rw [Bool.and_eq_true] at okc
  obtain ⟨nb, oka⟩ := okc
  have rnd := ndB_nd nb
  have hp := Sr.hp
  -- each passed number stands
  have there : ∀ r ∈ rs, ∃ a mo ho, th[r]? = some a ∧ eta[r]? = some mo ∧ mo.cl = true ∧ H a = some ho ∧ RepM W th H mo ho := fun r hr => by
    have q := List.all_eq_true.mp oka r hr
    cases e : eta[r]? with
    | none => rw [e] at q; cases q
    | some mo =>
      rw [e] at q
      obtain ⟨a, ho, e1, e2, rm⟩ := hp.obj r mo e
      exact ⟨a, mo, ho, e1, rfl, q, e2, rm⟩
  let thc := rs.map fun r => (th[r]?).getD 0
  have hthc : ∀ (i r : Nat), rs[i]? = some r → ∀ a, th[r]? = some a → thc[i]? = some a := fun i r h a ha => by
    show (rs.map _)[i]? = _
    rw [List.getElem?_map, h, Option.map_some, ha]; rfl
  have sub : ∀ a ∈ thc, a ∈ th := fun a ha => by
    obtain ⟨r, hr', e⟩ := List.mem_map.mp ha
    obtain ⟨b, mo, ho, e1, _⟩ := there r hr'
    rw [e1] at e; cases e
    exact List.mem_of_getElem? e1
  have ndc : thc.Nodup := by
    show (rs.map _).Nodup
    rw [List.Nodup, List.pairwise_map]
    refine List.Pairwise.imp_of_mem ?_ rnd
    intro r r' h1 h2 hne e
    obtain ⟨b, _, _, e1, _⟩ := there r h1
    obtain ⟨b', _, _, e1', _⟩ := there r' h2
    rw [e1, e1'] at e
    simp only [Option.getD_some] at e
    subst e
    obtain ⟨l1, q1⟩ := List.getElem?_eq_some_iff.mp e1
    obtain ⟨l2, q2⟩ := List.getElem?_eq_some_iff.mp e1'
    exact hne ((List.getElem_inj hp.nd).mp (q1.trans q2.symm))
  have Sc : SRh W thc H (rs.map fun r => (eta[r]?).getD .gone) := by
    refine ⟨by simp [thc], ndc, fun n mo e => ?_⟩
    rw [List.getElem?_map] at e
    cases q : rs[n]? with
    | none => rw [q] at e; cases e
    | some r =>
      rw [q] at e
      obtain ⟨a, mo', ho, e1, e2, c, e3, rm⟩ := there r (List.mem_of_getElem? q)
      simp only [Option.map_some, e2, Option.getD_some, Option.some.injEq] at e
      subst e
      exact ⟨a, ho, hthc n r q a e1, e3, rm.cl c⟩
  have Rc : RepTs W thc H (ds.map (renD rs)) xs := ren_ok hthc (fun n hn => by rw [← ers]; exact hn) Rd
  -- what comes back
  have back : ∀ th' H' eta', Grow thc H th' H' → SRh W th' H' eta' → clA eta' = true → ∃ t, th' = thc ++ t ∧ Grow th H (th ++ t) H' ∧ SRh W (th ++ t) H' (wbA rs eta' 0 eta) := by
    intro th' H' eta' g S' c
    obtain ⟨t, e, ht⟩ := g.pre
    subst e
    have gk : ∀ a o, H a = some o → (a ∉ th ∨ Fz o) → H' a = some o := fun a o h q => g.keep a o h (q.imp (fun z hz => z (sub a hz)) fun z => z)
    have g2 : Grow th H (th ++ t) H' := ⟨⟨t, rfl, ht⟩, gk⟩
    have hl := S'.len
    have hlc : thc.length = rs.length := by simp [thc]
    simp only [List.length_append, hlc] at hl
    have tth : ∀ a ∈ t, a ∉ th := fun a ha z => by
      obtain ⟨o, e⟩ := hp.there a z
      rw [ht a ha] at e; cases e
    refine ⟨t, rfl, g2, ⟨by rw [wbA_len]; simp [hp.len]; omega, ?_, fun n mo e => ?_⟩⟩
    · rw [List.nodup_append]
      refine ⟨hp.nd, (List.nodup_append.mp S'.nd).2.1, fun a ha b hb => ?_⟩
      rintro rfl
      exact tth a hb ha
    · rcases wbA_get rs eta' eta 0 n mo e with ⟨m0, e1, e2⟩ | ⟨e1, e2⟩
      · rw [Nat.zero_add] at e2
        obtain ⟨a, ho, ea, eh, rm⟩ := hp.obj n m0 e1
        have hn : n < th.length := by rw [← hp.len]; exact (List.getElem?_eq_some_iff.mp e1).1
        cases q : fnd rs n with
        | none =>
          rw [q] at e2
          subst e2
          have hnr := fnd_none q
          have ha : a ∉ thc := fun z => by
            obtain ⟨r, hr', er⟩ := List.mem_map.mp z
            obtain ⟨b, _, _, e3, _⟩ := there r hr'
            rw [e3] at er; simp only [Option.getD_some] at er; subst er
            obtain ⟨l1, q1⟩ := List.getElem?_eq_some_iff.mp e3
            obtain ⟨l2, q2⟩ := List.getElem?_eq_some_iff.mp ea
            have := (List.getElem_inj hp.nd).mp (q1.trans q2.symm)
            subst this
            exact hnr hr'
          exact ⟨a, ho, by rw [List.getElem?_append_left hn]; exact ea, g.keep a ho eh (.inl ha), rm.mono g2⟩
        | some i =>
          rw [q] at e2
          have hi := fnd_some q
          have hil : i < rs.length := (List.getElem?_eq_some_iff.mp hi).1
          have hsub : i < eta'.length := by omega
          obtain ⟨a', ho', e3, e4, rm'⟩ := S'.obj i eta'[i] (List.getElem?_eq_getElem hsub)
          rw [List.getElem?_append_left (by rw [hlc]; exact hil), hthc i n hi a ea] at e3
          cases e3
          dsimp only at e2
          rw [List.getElem?_eq_getElem hsub] at e2
          simp only [Option.getD_some] at e2
          subst e2
          refine ⟨a, ho', by rw [List.getElem?_append_left hn]; exact ea, e4, rm'.cl ?_⟩
          exact List.all_eq_true.mp c _ (List.getElem_mem hsub)
      · obtain ⟨a, ho, e3, e4, rm⟩ := S'.obj _ mo e2
        rw [List.getElem?_append_right (by rw [hlc]; omega), hlc] at e3
        refine ⟨a, ho, ?_, e4, rm.cl (List.all_eq_true.mp c _ (List.mem_of_getElem? e2))⟩
        rw [List.getElem?_append_right (by rw [← hp.len]; exact e1), ← hp.len, ← e3]
        congr 1; omega
  refine ⟨thc, ds.map (renD rs), _, _, _, Sc, Rc, hS, ?_, ?_⟩
  · intro th' H' v d eta' g S' R q
    obtain ⟨c, q⟩ := q
    obtain ⟨t, e, g2, S2⟩ := back th' H' eta' g S' c
    subst e
    refine ⟨th ++ t, _, _, g2, Sr.mono g2 S2, ?_, q⟩
    cases d with
    | ref m =>
      obtain ⟨a, ea, ev⟩ := R
      have hlc : thc.length = rs.length := by simp [thc]
      by_cases hm : m < rs.length
      · rw [List.getElem?_append_left (by rw [hlc]; exact hm)] at ea
        have hrm : rs[m]? = some rs[m] := List.getElem?_eq_getElem hm
        obtain ⟨b, mo, ho, e1, _⟩ := there rs[m] (List.getElem_mem hm)
        rw [hthc m _ hrm b e1] at ea
        cases ea
        refine ⟨a, ?_, ev⟩
        simp only [hrm]
        rw [List.getElem?_append_left (List.getElem?_eq_some_iff.mp e1).1]
        exact e1
      · rw [List.getElem?_append_right (by rw [hlc]; omega), hlc] at ea
        have hrm : rs[m]? = none := List.getElem?_eq_none (by omega)
        refine ⟨a, ?_, ev⟩
        simp only [hrm]
        rw [List.getElem?_append_right (by rw [← hp.len]; omega), ← hp.len, ← ea]
        congr 1; omega
    | _ => exact RepT.of (RepT.im R rfl)
  · intro th' H' ex cls dx eta' g S' rxx q
    obtain ⟨c, q⟩ := q
    obtain ⟨t, e, g2, S2⟩ := back th' H' eta' g S' c
    exact xo ex rho _ (th ++ t) H' σ cls dx q g2 (Sr.mono g2 S2) rxx
theorem cl_fn_at {k : Nat} {f : Addr} {S : SpA} {A' : Around} (F : FnR X.prog X.w X.K X.mg X.base (L2.CX X.prog X.w) k f (spOf W S)) (hr : Room k A') (tk : Takes X Wx)
    (he : ∀ {pins : List (Addr × Obj)} {σ : L2.St} {H : Hp} {s : Shared}, Inv X pins σ H s → Env0 X.prog X.w X.K X.mg X.base A' X.stack s H) :
    ∀ (pins : List (Addr × Obj)) (s : Shared) (σ : L2.St) (H : Hp) (th : List Addr) (rho : Rho) (eta : List MO) (xs : List V) (us : List Value) (ds : List D) (Qa : QA) (EX : EXA), Inv X pins σ H s → SR W th H σ rho eta → XOk W Wx th H EX → Vals xs us → RepTs W th H ds xs →
    raCall S ds rho eta Qa EX → wpAny (model X.prog X.w) A' (call (.ref f) us) (EPa X W pins σ th H rho Qa) X.xe s := by
  intro pins s σ H th rho eta xs us ds Qa EX I Sr xo rx Rd hq
  refine wpAny_call (codeAny_mono (F A' X.stack s H us xs _ (WE Wx σ) hr (he I) rx (sp_raCall Sr xo Rd hq)) fun r s' hq => ?_)
  cases r with
  | error e => exact passAt tk σ pins H s e s' I hq
  | ok fl =>
    cases fl with
    | ret u =>
      obtain ⟨v, H', I', rv, th', d', eta', g, S', R, q⟩ := I.after hq
      exact ⟨v, th', H', d', eta', I', rv, g, S', R, q⟩
    | next => exact False.elim hq
    | brk => exact False.elim hq
    | cont => exact False.elim hq

theorem cl_fn {k : Nat} {f : Addr} {S : SpA} (F : FnR X.prog X.w X.K X.mg X.base (L2.CX X.prog X.w) k f (spOf W S)) (hr : Room k X.A) (tk : Takes X Wx) : ClA X W Wx (.ref f) (raCall S) := cl_fn_at F hr tk fun I => I.env0

/-! ### f(e, ..) -/
def aCall (r : RNa) (t : TAa) : TEa := fun rho eta Q EX => t rho eta (fun ds eta1 => r ds rho eta1 Q EX) EX
theorem ea_callB {id : String} {x : Str} {p pos : Pos} {e : Expr} {es : List Expr} {r : RNa} {t : TAa} (hc : ClA X W Wx (.builtin id) r) (hm : X.mg x = none) (hv : bootBuiltins x = some (.builtin id)) (ha : AA X W Wx (e :: es) t) (hg : Gl X x := by rfl) (hn : x ≠ "__name__" := by decide) (hdb : (x == ("__debug__" : Str)) = false := by decide)
    (he : starEach (e :: es) X.env = (false, eval e X.env) :: starEach es X.env := by rfl) (hpl : (backTo pos (starEach es X.env)).any (·.1) = false := by rfl) : EA X W Wx (.Call (.Name x p) (e :: es) [] pos) (aCall r t) := by
  refine ⟨fun pins s σ H th rho eta Qa EX I S xo h => ?_⟩
  refine wpAny_Call_Name_kw (ld_blt I hg hm hv ?_ hn hdb)
  exact PyProof.Rows.callWith_builtin1 (thn (ha.run pos pins s σ H th rho eta _ EX I S xo h) fun us s1 ⟨vs, th1, H1, ds, eta1, I1, r1, g1, S1, R1, q1⟩ =>
    thn (hc pins s1 σ H1 th1 rho eta1 vs us ds Qa EX I1 S1 (xo.mono g1 S1.hp) r1 R1 q1) fun w s2 ⟨z, th2, H2, d2, eta2, I2, r2, g2, S2, R2, q2⟩ => ⟨z, th2, H2, d2, eta2, I2, r2, g1.trans' S1.hp g2, S2, R2, q2⟩) he hpl
theorem ea_callTy {T : String} {x : Str} {p pos : Pos} {e : Expr} {es : List Expr} {r : RNa} {t : TAa} (hc : ClA X W Wx (.type T) r) (hm : X.mg x = none) (hv : bootBuiltins x = some (.type T)) (ha : AA X W Wx (e :: es) t) (hg : Gl X x := by rfl) (hn : x ≠ "__name__" := by decide) (hdb : (x == ("__debug__" : Str)) = false := by decide)
    (he : starEach (e :: es) X.env = (false, eval e X.env) :: starEach es X.env := by rfl) (hpl : (backTo pos (starEach es X.env)).any (·.1) = false := by rfl) : EA X W Wx (.Call (.Name x p) (e :: es) [] pos) (aCall r t) := by
  refine ⟨fun pins s σ H th rho eta Qa EX I S xo h => ?_⟩
  refine wpAny_Call_Name_kw (ld_blt I hg hm hv ?_ hn hdb)
  exact PyProof.Rows.callWith_type1 (thn (ha.run pos pins s σ H th rho eta _ EX I S xo h) fun us s1 ⟨vs, th1, H1, ds, eta1, I1, r1, g1, S1, R1, q1⟩ =>
    thn (hc pins s1 σ H1 th1 rho eta1 vs us ds Qa EX I1 S1 (xo.mono g1 S1.hp) r1 R1 q1) fun w s2 ⟨z, th2, H2, d2, eta2, I2, r2, g2, S2, R2, q2⟩ => ⟨z, th2, H2, d2, eta2, I2, r2, g1.trans' S1.hp g2, S2, R2, q2⟩) he hpl
/-- a global name for a built-in function (gcd) -/
theorem ea_callG {id : String} {x : Str} {p pos : Pos} {e : Expr} {es : List Expr} {r : RNa} {t : TAa} (hc : ClA X W Wx (.builtin id) r) (hm : X.mg x = some (.builtin id)) (ha : AA X W Wx (e :: es) t) (hg : Gl X x := by rfl) (hdb : (x == ("__debug__" : Str)) = false := by decide)
    (he : starEach (e :: es) X.env = (false, eval e X.env) :: starEach es X.env := by rfl) (hpl : (backTo pos (starEach es X.env)).any (·.1) = false := by rfl) : EA X W Wx (.Call (.Name x p) (e :: es) [] pos) (aCall r t) := by
  refine ⟨fun pins s σ H th rho eta Qa EX I S xo h => ?_⟩
  refine wpAny_Call_Name_kw (ld_glob I hg hm ?_ hdb)
  exact PyProof.Rows.callWith_builtin1 (thn (ha.run pos pins s σ H th rho eta _ EX I S xo h) fun us s1 ⟨vs, th1, H1, ds, eta1, I1, r1, g1, S1, R1, q1⟩ =>
    thn (hc pins s1 σ H1 th1 rho eta1 vs us ds Qa EX I1 S1 (xo.mono g1 S1.hp) r1 R1 q1) fun w s2 ⟨z, th2, H2, d2, eta2, I2, r2, g2, S2, R2, q2⟩ => ⟨z, th2, H2, d2, eta2, I2, r2, g1.trans' S1.hp g2, S2, R2, q2⟩) he hpl
/-- a def of the module, a class -/
theorem ea_callF {f : Addr} {x : Str} {p pos : Pos} {e : Expr} {es : List Expr} {r : RNa} {t : TAa} (hc : ClA X W Wx (.ref f) r) (hm : X.mg x = some (.ref f)) (hk : PySem.W.keepIn X.K (.ref f) = true) (ha : AA X W Wx (e :: es) t) (hg : Gl X x := by rfl) (hdb : (x == ("__debug__" : Str)) = false := by decide)
    (he : starEach (e :: es) X.env = (false, eval e X.env) :: starEach es X.env := by rfl) (hpl : (backTo pos (starEach es X.env)).any (·.1) = false := by rfl) : EA X W Wx (.Call (.Name x p) (e :: es) [] pos) (aCall r t) := by
  refine ⟨fun pins s σ H th rho eta Qa EX I S xo h => ?_⟩
  refine wpAny_Call_Name_kw (ld_glob I hg hm ?_ hdb)
  exact PySem.W.callWith_K (h₀ := X.base) I.ok.mod.kin hk (thn (ha.run pos pins s σ H th rho eta _ EX I S xo h) fun us s1 ⟨vs, th1, H1, ds, eta1, I1, r1, g1, S1, R1, q1⟩ =>
    ⟨I1.kIn, thn (hc pins s1 σ H1 th1 rho eta1 vs us ds Qa EX I1 S1 (xo.mono g1 S1.hp) r1 R1 q1) fun w s2 ⟨z, th2, H2, d2, eta2, I2, r2, g2, S2, R2, q2⟩ => ⟨z, th2, H2, d2, eta2, I2, r2, g1.trans' S1.hp g2, S2, R2, q2⟩⟩) he hpl
theorem ea_callF0 {f : Addr} {x : Str} {p pos : Pos} {r : RNa} (hc : ClA X W Wx (.ref f) r) (hm : X.mg x = some (.ref f)) (hk : PySem.W.keepIn X.K (.ref f) = true) (hg : Gl X x := by rfl) (hdb : (x == ("__debug__" : Str)) = false := by decide) : EA X W Wx (.Call (.Name x p) [] [] pos) (aCall r aNil) := by
  refine ⟨fun pins s σ H th rho eta Qa EX I S xo h => ?_⟩
  refine wpAny_Call_Name_kw (ld_glob I hg hm ?_ hdb)
  exact PySem.W.callWith_K0 I.kIn hk (hc pins s σ H th rho eta [] [] [] Qa EX I S xo .nil rfl h)
end
end RF
set_option maxRecDepth 100000
set_option maxHeartbeats 4000000
namespace RF
open PySem PySem.Spec PyProof.Rows L2
section
variable {X : Cx} {W : Wd} {Wx : WX}
/-! ### subscripts -/
/-- a[i] by values -/
def IxA (X : Cx) (W : Wd) (Wx : WX) (r : R2a) : Prop :=
  ∀ (value slice : Expr) (pins : List (Addr × Obj)) (s : Shared) (σ : L2.St) (H : Hp) (th : List Addr) (rho : Rho) (eta : List MO) (x y : V) (v u : Value) (d e : D) (Qa : QA) (EX : EXA), Inv X pins σ H s → SR W th H σ rho eta → XOk W Wx th H EX → RelV x v → RelV y u → RepT W th H d x → RepT W th H e y →
    r d e rho eta Qa EX → subscripted slice false v u = operate [v, u] (getItem v u) → wpAny (model X.prog X.w) X.A (subscriptTail value slice v u) (EPa X W pins σ th H rho Qa) X.xe s
theorem IxA.of {r : R2} {ra : R2a} (h : IxR X r) (k : ∀ (σ : L2.St) (H : Hp) (th : List Addr) (rho : Rho) (eta : List MO) (x y : V) (d e : D) (Qa : QA) (EX : EXA), SR W th H σ rho eta → RepT W th H d x → RepT W th H e y → ra d e rho eta Qa EX →
    r x y H fun v H' => ∃ th' d' eta', Grow th H th' H' ∧ SR W th' H' σ rho eta' ∧ RepT W th' H' d' v ∧ Qa d' eta') : IxA X W Wx ra := fun value slice pins s σ H th rho eta x y v u d e Qa EX I S xo rx ry Rd Re hr hs =>
  thn (h value slice pins s σ H x y v u _ I rx ry (k σ H th rho eta x y d e Qa EX S Rd Re hr) hs) fun w s' ⟨z, H', I', r, th', d', eta', g, S', R, q⟩ => ⟨z, th', H', d', eta', I', r, g, S', R, q⟩
theorem IxA.or {r r' : R2a} (h : IxA X W Wx r) (h' : IxA X W Wx r') : IxA X W Wx (fun d e rho eta Q EX => r d e rho eta Q EX ∨ r' d e rho eta Q EX) := fun value slice pins s σ H th rho eta x y v u d e Qa EX I S xo rx ry Rd Re hr hs =>
  hr.elim (fun z => h value slice pins s σ H th rho eta x y v u d e Qa EX I S xo rx ry Rd Re z hs) fun z => h' value slice pins s σ H th rho eta x y v u d e Qa EX I S xo rx ry Rd Re z hs
theorem ea_ix {r : R2a} {a b : Expr} {ta tb : TEa} {pos : Pos} (hr : IxA X W Wx r) (ha : EA X W Wx a ta) (hb : EA X W Wx b tb) (hs : PlainIx b := by exact fun _ _ => rfl) : EA X W Wx (.Subscript a b pos) (aOp r ta tb) := by
  refine ⟨fun pins s σ H th rho eta Qa EX I S x h => ?_⟩
  refine Subscript_ (thn (ha.run pins s σ H th rho eta _ EX I S x h) fun v s1 ⟨xv, th1, H1, d, eta1, I1, r1, g1, S1, R1, q1⟩ => ?_)
  refine thn (hb.run pins s1 σ H1 th1 rho eta1 _ EX I1 S1 (x.mono g1 S1.hp) q1) fun u s2 ⟨yv, th2, H2, e, eta2, I2, r2, g2, S2, R2, q2⟩ => ?_
  have g12 := g1.trans' S1.hp g2
  refine thn (hr a b pins s2 σ H2 th2 rho eta2 xv yv v u d e Qa EX I2 S2 (x.mono g12 S2.hp) r1 r2 (R1.mono g2) R2 q2 (hs _ _)) fun w s3 ⟨z, th3, H3, d3, eta3, I3, r3, g3, S3, R3, q3⟩ => ?_
  exact ⟨z, th3, H3, d3, eta3, I3, r3, g12.trans' S2.hp g3, S3, R3, q3⟩
theorem Reps.atI {H : Hp} {ds : List D} {vs : List V} {i : Int} {d : D} (R : Reps W H ds vs) (h : atI ds i = some d) : ∃ v, L2.atI vs i = some v ∧ Rep W H d v := by
  unfold L2.atI at h ⊢
  rw [← R.length]
  cases q : ixN ds.length i with
  | none => rw [q] at h; cases h
  | some j =>
    rw [q] at h
    obtain ⟨v, e, r⟩ := R.get (i := j) (by simpa using h)
    exact ⟨v, by simpa using e, r⟩
/-- an item of a list or tuple -/
def raIxS : R2a := fun d e _ eta Q _ => match e with
  | .int i => (match d with
    | .tup ds => (match L2.atI ds i with | some x => Q x eta | none => False)
    | .fl ds => (match L2.atI ds i with | some x => Q x eta | none => False)
    | .ref n => (match eta[n]? with
      | some (.lst ds) => (match L2.atI ds i with | some x => Q x eta | none => False)
      | _ => False)
    | _ => False)
  | _ => False
theorem ixa_seq : IxA X W Wx raIxS := .of (ix_list.or ix_tup) fun σ H th rho eta x y d e Qa EX S Rd Re hr => by
  cases e with
  | int i =>
    have ey : y = _ := Re
    cases d with
    | tup ds =>
      obtain ⟨a, vs, rfl, ea, Rs⟩ := Rd
      simp only [raIxS] at hr
      cases q : L2.atI ds i with
      | none => rw [q] at hr; exact hr.elim
      | some z =>
        rw [q] at hr
        obtain ⟨w, ew, rw'⟩ := Rs.atI q
        exact .inr ⟨a, vs, i, w, rfl, ey, SqT.of ea, ew, hereC S (RepT.of rw') hr⟩
    | fl ds =>
      obtain ⟨a, o, vs, rfl, ea, Rs⟩ := Rd
      simp only [raIxS] at hr
      cases q : L2.atI ds i with
      | none => rw [q] at hr; exact hr.elim
      | some z =>
        rw [q] at hr
        obtain ⟨w, ew, rw'⟩ := Rs.atI q
        exact .inl ⟨a, vs, i, w, rfl, ey, .inl (.inr ⟨o, ea⟩), ew, hereC S (RepT.of rw') hr⟩
    | ref n =>
      obtain ⟨a, ea, rfl⟩ := Rd
      simp only [raIxS] at hr
      cases hn : eta[n]? with
      | none => rw [hn] at hr; exact hr.elim
      | some mo =>
        rw [hn] at hr
        cases mo with
        | lst ds =>
          obtain ⟨b, ho, e1, e2, vs, rfl, Rs⟩ := S.hp.obj n _ hn
          rw [ea] at e1; cases e1
          cases q : L2.atI ds i with
          | none => simp only [q] at hr
          | some z =>
            simp only [q] at hr
            obtain ⟨w, ew, rw'⟩ := Rs.atI q
            exact .inl ⟨a, vs, i, w, rfl, ey, SqL.of e2, ew, hereC S (RepT.of rw') hr⟩
        | _ => exact hr.elim
    | _ => exact hr.elim
  | _ => exact hr.elim

/-! ### o[i] = v -/
abbrev R3a := D → D → D → Rho → List MO → (List MO → Prop) → EXA → Prop
def SetA (X : Cx) (W : Wd) (Wx : WX) (r : R3a) : Prop :=
  ∀ (pins : List (Addr × Obj)) (s : Shared) (σ : L2.St) (H : Hp) (th : List Addr) (rho : Rho) (eta : List MO) (x y z : V) (v u w : Value) (d e f : D) (Qa : List MO → Prop) (EX : EXA), Inv X pins σ H s → SR W th H σ rho eta → XOk W Wx th H EX → RelV x v → RelV y u → RelV z w → RepT W th H d x → RepT W th H e y → RepT W th H f z →
    r d e f rho eta Qa EX → wpAny (model X.prog X.w) X.A (setItem v u w) (fun _ s' => ∃ th' H' eta', Inv X pins σ H' s' ∧ Grow th H th' H' ∧ SR W th' H' σ rho eta' ∧ Qa eta') X.xe s
def sSub (r : R3a) (to ti tv : TEa) : TSa := fun Dn rho eta EX => tv rho eta (fun f eta1 => to rho eta1 (fun d eta2 => ti rho eta2 (fun e eta3 => r d e f rho eta3 (fun eta4 => Dn.nx rho eta4) EX) EX) EX) EX
theorem sa_sub {r : R3a} {o i value : Expr} {to ti tv : TEa} {pos pos' : Pos} (hr : SetA X W Wx r) (ho : EA X W Wx o to) (hi : EA X W Wx i ti) (hv : EA X W Wx value tv) (hs : swapsWith value (some (.Subscript o i pos')) pos.line X.env = pure false := by rfl) :
    SA X W Wx (.Assign [.Subscript o i pos'] value pos) (sSub r to ti tv) := by
  refine ⟨fun pins s σ H th rho eta Dn EX I S xo h => ?_⟩
  refine wpAny_Assign_Subscript (thn (hv.run pins s σ H th rho eta _ EX I S xo h) fun w s1 ⟨z, th1, H1, f, eta1, I1, r1, g1, S1, R1, q1⟩ => thn (ho.run pins s1 σ H1 th1 rho eta1 _ EX I1 S1 (xo.mono g1 S1.hp) q1) fun v s2 ⟨x, th2, H2, d, eta2, I2, r2, g2, S2, R2, q2⟩ => ?_) hs
  have g12 := g1.trans' S1.hp g2
  refine thn (hi.run pins s2 σ H2 th2 rho eta2 _ EX I2 S2 (xo.mono g12 S2.hp) q2) fun u s3 ⟨y, th3, H3, e, eta3, I3, r3, g3, S3, R3, q3⟩ => ?_
  have g123 := g12.trans' S2.hp g3
  exact thn (hr pins s3 σ H3 th3 rho eta3 x y z v u w d e f _ EX I3 S3 (xo.mono g123 S3.hp) r2 r3 r1 (R2.mono g3) R3 ((R1.mono g2).mono g3) q3) fun _ s4 ⟨th4, H4, eta4, I4, g4, S4, q4⟩ => ⟨σ, th4, H4, rho, eta4, I4, g123.trans' S3.hp g4, S4, q4⟩
theorem Reps.set {H : Hp} {d : D} {v : V} (r : Rep W H d v) : ∀ {ds : List D} {vs : List V} (j : Nat), Reps W H ds vs → Reps W H (ds.set j d) (vs.set j v)
  | [], _, j, h => by have h : _ = _ := h; subst h; exact rfl
  | e :: ds, _, 0, ⟨w, l, e1, h1, h2⟩ => ⟨v, l, by rw [e1]; rfl, r, h2⟩
  | e :: ds, _, j + 1, ⟨w, l, e1, h1, h2⟩ => ⟨w, l.set j v, by rw [e1]; rfl, h1, Reps.set r j h2⟩
theorem nfz_lst {H : Hp} {a : Addr} {vs : List V} (h : H a = some (.lst vs)) : ∀ u, H a = some u → ¬ Fz u := fun u e => by rw [h] at e; cases e; exact fun z => z
def raSetL : R3a := fun d e f _ eta Q _ => f.im = true ∧ match e with
  | .int i => (match d with
    | .ref n => (match eta[n]? with
      | some (.lst ds) => (match ixN ds.length i with | some j => Q (eta.set n (.lst (ds.set j f))) | none => False)
      | _ => False)
    | _ => False)
  | _ => False
theorem seta_list : SetA X W Wx raSetL := fun pins s σ H th rho eta x y z v u w d e f Qa EX I S xo rx ry rz Rd Re Rf ⟨fi, hr⟩ => by
  cases e with
  | int i =>
    have ey : y = _ := Re
    cases d with
    | ref n =>
      obtain ⟨a, ea, rfl⟩ := Rd
      dsimp only at hr
      cases hn : eta[n]? with
      | none => rw [hn] at hr; exact hr.elim
      | some mo =>
        rw [hn] at hr
        cases mo with
        | lst ds =>
          obtain ⟨b, ho, e1, e2, vs, rfl, Rs⟩ := S.hp.obj n _ hn
          rw [ea] at e1; cases e1
          cases q : ixN ds.length i with
          | none => simp only [q] at hr
          | some j =>
            simp only [q] at hr
            obtain ⟨P, g⟩ := S.hp.write (n := n) (mo := .lst (ds.set j f)) (o := .lst (vs.set j z)) ea (nfz_lst e2) ⟨_, rfl, by
              have p : Pers H (upd H a (.lst (vs.set j z))) := fun b o h fz => by
                rw [upd_ne (fun q => by rw [q, e2] at h; cases h; exact fz)]; exact h
              exact Reps.mono p _ _ (Reps.set (Rf.im fi) j Rs)⟩
            refine thn (set_list pins s σ H (.ref a) y z v u w _ I rx ry rz ⟨a, vs, i, j, rfl, ey, e2, by rw [← Rs.length]; exact q, rfl⟩) fun _ s' ⟨H', I', e'⟩ => ?_
            subst e'
            exact ⟨th, _, _, I', g, S.mono g P, hr⟩
        | _ => exact hr.elim
    | _ => exact hr.elim
  | _ => exact hr.elim

/-! ### built-in functions -/
theorem RepTs.one {th : List Addr} {H : Hp} {d : D} {vs : List V} (R : RepTs W th H [d] vs) : ∃ v, vs = [v] ∧ RepT W th H d v := by
  obtain ⟨v, r, e, h, n⟩ := R
  have n : r = [] := n
  exact ⟨v, by rw [e, n], h⟩
theorem RepTs.two {th : List Addr} {H : Hp} {d e : D} {vs : List V} (R : RepTs W th H [d, e] vs) : ∃ v w, vs = [v, w] ∧ RepT W th H d v ∧ RepT W th H e w := by
  obtain ⟨v, r, e1, h, w, r2, e2, h2, n⟩ := R
  have n : r2 = [] := n
  exact ⟨v, w, by rw [e1, e2, n], h, h2⟩
def raAbs : RNa := fun ds _ eta Q _ => match ds with
  | [.int i] => Q (.int (if i < 0 then -i else i)) eta
  | _ => False
theorem ca_abs : ClA X W Wx (.builtin "abs") raAbs := .of call_abs fun σ H th rho eta xs ds Qa EX S R hr => by
  unfold raAbs at hr
  split at hr
  · obtain ⟨v, rfl, r⟩ := R.one
    have r : v = _ := r
    exact ⟨_, by rw [r], hereC (d := .int _) S rfl hr⟩
  · exact hr.elim
def raInt : RNa := fun ds _ eta Q _ => match ds with
  | [.int i] => Q (.int i) eta
  | [.bl b] => Q (.int (if b then 1 else 0)) eta
  | _ => False
theorem ca_int : ClA X W Wx (.type "int") raInt := .of call_int1 fun σ H th rho eta xs ds Qa EX S R hr => by
  unfold raInt at hr
  split at hr
  · obtain ⟨v, rfl, r⟩ := R.one
    have r : v = _ := r
    exact .inl ⟨_, by rw [r], hereC (d := .int _) S rfl hr⟩
  · obtain ⟨v, rfl, r⟩ := R.one
    have r : v = _ := r
    exact .inr ⟨_, by rw [r], hereC (d := .int _) S rfl hr⟩
  · exact hr.elim
def raBool : RNa := fun ds _ eta Q _ => match ds with
  | [.int i] => Q (.bl (i != 0)) eta
  | [.bl b] => Q (.bl b) eta
  | _ => False
theorem ca_bool : ClA X W Wx (.type "bool") raBool := .of call_bool1 fun σ H th rho eta xs ds Qa EX S R hr => by
  unfold raBool at hr
  split at hr
  · obtain ⟨v, rfl, r⟩ := R.one
    have r : v = _ := r
    exact .inl ⟨_, by rw [r], hereC (d := .bl _) S rfl hr⟩
  · obtain ⟨v, rfl, r⟩ := R.one
    have r : v = _ := r
    exact .inr ⟨_, by rw [r], hereC (d := .bl _) S rfl hr⟩
  · exact hr.elim
/-- the length of a list, tuple, text, dict -/
def D.len (eta : List MO) : D → Option Nat
  | .tup ds => some ds.length
  | .fl ds => some ds.length
  | .ref n => (match eta[n]? with
    | some (.lst ds) => some ds.length
    | _ => none)
  | _ => none
def raLen : RNa := fun ds _ eta Q _ => match ds with
  | [d] => (match d.len eta with | some n => Q (.int n) eta | none => False)
  | _ => False
theorem ca_len : ClA X W Wx (.builtin "len") raLen := .of call_len fun σ H th rho eta xs ds Qa EX S R hr => by
  unfold raLen at hr
  split at hr
  · rename_i d
    obtain ⟨v, rfl, r⟩ := R.one
    cases d with
    | tup ds =>
      obtain ⟨a, vs, rfl, ea, Rs⟩ := r
      exact ⟨_, ds.length, rfl, .inr ⟨vs, SqT.of ea, by rw [Rs.length]⟩, hereC (d := .int _) S rfl hr⟩
    | fl ds =>
      obtain ⟨a, o, vs, rfl, ea, Rs⟩ := r
      exact ⟨_, ds.length, rfl, .inl ⟨vs, .inl (.inr ⟨o, ea⟩), by rw [Rs.length]⟩, hereC (d := .int _) S rfl hr⟩
    | ref n =>
      obtain ⟨a, ea, rfl⟩ := r
      simp only [D.len] at hr
      cases hn : eta[n]? with
      | none => rw [hn] at hr; exact hr.elim
      | some mo =>
        rw [hn] at hr
        cases mo with
        | lst ds =>
          obtain ⟨b, ho, e1, e2, vs, rfl, Rs⟩ := S.hp.obj n _ hn
          rw [ea] at e1; cases e1
          exact ⟨_, ds.length, rfl, .inl ⟨vs, SqL.of e2, by rw [Rs.length]⟩, hereC (d := .int _) S rfl hr⟩
        | _ => exact hr.elim
    | _ => exact hr.elim
  · exact hr.elim
/-- str of an int -/
def raStrI : RNa := fun ds _ eta Q _ => match ds with
  | [.int i] => i.natAbs.log2 < 1920 ∧ Q (.str (toString i)) eta
  | _ => False
theorem ca_strI : ClA X W Wx (.type "str") raStrI := .of call_str_int fun σ H th rho eta xs ds Qa EX S R hr => by
  unfold raStrI at hr
  split at hr
  · obtain ⟨v, rfl, r⟩ := R.one
    have r : v = _ := r
    exact ⟨_, by rw [r], hr.1, hereC (d := .str _) S rfl hr.2⟩
  · exact hr.elim
def intsD : List D → Option (List Int)
  | [] => some []
  | .int i :: ds => (intsD ds).map (i :: ·)
  | _ :: _ => none
theorem intsD_ok {H : Hp} : ∀ {ds : List D} {ns : List Int} {vs : List V}, intsD ds = some ns → Reps W H ds vs → vs = ns.map V.int
  | [], _, _, h, R => by cases h; exact R
  | .int i :: ds, ns, _, h, ⟨v, r, e, h1, h2⟩ => by
    simp only [intsD] at h
    cases q : intsD ds with
    | none => rw [q] at h; cases h
    | some ms =>
      rw [q] at h; cases h
      have h1 : v = _ := h1
      rw [e, h1, intsD_ok q h2]; rfl
/-- sum of a list of ints -/
def raSum : RNa := fun ds _ eta Q _ => match ds with
  | [.fl xs] => (match intsD xs with | some ns => Q (.int ns.sum) eta | none => False)
  | _ => False
theorem ca_sum (hc : X.calm = true) : ClA X W Wx (.builtin "sum") raSum := .of (cr_sum hc) fun σ H th rho eta xs ds Qa EX S R hr => by
  unfold raSum at hr
  split at hr
  · rename_i ys
    obtain ⟨v, rfl, a, o, vs, rfl, ea, Rs⟩ := R.one
    cases q : intsD ys with
    | none => rw [q] at hr; exact hr.elim
    | some ns =>
      rw [q] at hr
      have e := intsD_ok q Rs
      subst e
      exact ⟨a, ns, rfl, .inl (.inr ⟨o, ea⟩), hereC (d := .int _) S rfl hr⟩
  · exact hr.elim
/-- list(xs): a frozen copy of a list that stands still, or of a tuple -/
def seqD (eta : List MO) : D → Option (List D)
  | .tup ds => some ds
  | .fl ds => some ds
  | .ref n => (match eta[n]? with
    | some (.lst ds) => some ds
    | _ => none)
  | _ => none
theorem seqD_ok {th : List Addr} {H : Hp} {eta : List MO} {d : D} {v : V} {ds : List D} (S : SRh W th H eta) (R : RepT W th H d v) (h : seqD eta d = some ds) : ∃ a vs, v = .ref a ∧ (SqL X.K H a vs ∨ SqT X.K H a vs) ∧ Reps W H ds vs := by
  cases d with
  | tup es =>
    simp only [seqD, Option.some.injEq] at h
    subst h
    obtain ⟨a, vs, rfl, ea, Rs⟩ := R
    exact ⟨a, vs, rfl, .inr (SqT.of ea), Rs⟩
  | fl es =>
    simp only [seqD, Option.some.injEq] at h
    subst h
    obtain ⟨a, o, vs, rfl, ea, Rs⟩ := R
    exact ⟨a, vs, rfl, .inl (.inl (.inr ⟨o, ea⟩)), Rs⟩
  | ref n =>
    obtain ⟨a, ea, rfl⟩ := R
    simp only [seqD] at h
    cases hn : eta[n]? with
    | none => rw [hn] at h; cases h
    | some mo =>
      rw [hn] at h
      cases mo with
      | lst es =>
        simp only [Option.some.injEq] at h
        subst h
        obtain ⟨b, ho, e1, e2, vs, rfl, Rs⟩ := S.obj n _ hn
        rw [ea] at e1; cases e1
        exact ⟨a, vs, rfl, .inl (SqL.of e2), Rs⟩
      | _ => cases h
  | _ => cases h
def raListF : RNa := fun ds _ eta Q _ => match ds with
  | [d] => (match seqD eta d with | some xs => Q (.fl xs) eta | none => False)
  | _ => False
/-- .. one that will change -/
def raListM : RNa := fun ds _ eta Q _ => match ds with
  | [d] => (match seqD eta d with | some xs => Q (.ref eta.length) (eta ++ [.lst xs]) | none => False)
  | _ => False
theorem ca_listM : ClA X W Wx (.type "list") raListM := .of call_list_of fun σ H th rho eta xs ds Qa EX S R hr => by
  unfold raListM at hr
  split at hr
  · rename_i d
    obtain ⟨v, rfl, r⟩ := R.one
    cases q : seqD eta d with
    | none => rw [q] at hr; exact hr.elim
    | some ys =>
      rw [q] at hr
      obtain ⟨a, vs, rfl, hq, Rs⟩ := seqD_ok (X := X) S.hp r q
      refine ⟨a, vs, rfl, hq, fun p hp => ?_⟩
      have P := S.hp.push (mo := .lst ys) hp ⟨vs, rfl, Reps.mono (Grow.new (th := th) hp).pers _ _ Rs⟩
      exact ⟨th ++ [p], _, _, Grow.push hp, S.mono (Grow.push hp) P, RepT.push S.hp, hr⟩
  · exact hr.elim
end
/-- freezing at the call of a value -/
theorem CallR.fz {X : Cx} {f : Value} {r : List V → Hp → VK → Prop} (h : CallR X f r) : CallR X f (fun xs H Q => r xs H fun v H' => ∃ a u, v = .ref a ∧ H' a = some u ∧ Mut (some u) ∧ ∀ od, Q v (upd H' a (.frz od u))) :=
  fun pins s σ H vs us Q I rv ht => thn (h pins s σ H vs us _ I rv ht) fun u s' ⟨v, H', I', r, a, o, e1, e2, mu, q⟩ => by
    obtain ⟨od, I1⟩ := I'.lock e2 mu
    exact ⟨v, _, I1, r, q od⟩
section
variable {X : Cx} {W : Wd} {Wx : WX}
theorem ca_listF : ClA X W Wx (.type "list") raListF := .of (CallR.fz call_list_of) fun σ H th rho eta xs ds Qa EX S R hr => by
  unfold raListF at hr
  split at hr
  · rename_i d
    obtain ⟨v, rfl, r⟩ := R.one
    cases q : seqD eta d with
    | none => rw [q] at hr; exact hr.elim
    | some ys =>
      rw [q] at hr
      obtain ⟨a, vs, rfl, hq, Rs⟩ := seqD_ok (X := X) S.hp r q
      refine ⟨a, vs, rfl, hq, fun p hp => ⟨p, _, rfl, upd_same, trivial, fun od => ⟨th, .fl ys, eta, ?_⟩⟩⟩
      rw [upd_upd]
      exact ⟨Grow.new hp, S.mono (Grow.new hp) (S.hp.new hp), ⟨p, od, vs, rfl, upd_same, Reps.mono (Grow.new (th := th) hp).pers _ _ Rs⟩, hr⟩
  · exact hr.elim
end
end RF
set_option maxRecDepth 100000
set_option maxHeartbeats 4000000
namespace RF
open PySem PySem.Spec PyProof.Rows L2
/-- nothing is let out -/
abbrev W0 : WX := fun _ _ _ _ => False
section
variable {X : Cx} {W : Wd} {Wx : WX}
/-- the tests of a clause -/
structure TsA (X : Cx) (W : Wd) (Wx : WX) (ifs : List Expr) (t : TTa) : Prop where
  pts : PTs X ifs (lftT W Wx t)
def aYes : TTa := fun _ eta Q _ => Q true eta
theorem ts_nil : TsA X W Wx [] aYes := ⟨⟨fun pins s σ H Q I ⟨th, rho, eta, Qa, EX, S, x, ht, k⟩ => wpAny_tests_nil ⟨H, I, k th H true eta (Grow.refl _ _) S ht⟩⟩⟩
theorem ts_one {c : Expr} {t : TTa} (h : TA' X W Wx c t) : TsA X W Wx [c] t := ⟨pts_one h.pt⟩
/-- a target within a comprehension: its names are the slots vs -/
def GBk (W : Wd) (vs : List Nat) (g : TG) (ga : TGa) : Prop :=
  ∀ (σ : L2.St) (H : Hp) (th : List Addr) (rho : Rho) (eta : List MO) (x : V) (d : D) (Q : Rho → List MO → Prop) (R : L2.St → Hp → Prop), SR W th H σ rho eta → Rep W H d x → ga d rho eta Q →
    (∀ σ2 rho2, wipe σ2 vs = wipe σ vs → SR W th H σ2 rho2 eta → Q rho2 eta → R σ2 H) → g x σ H R
theorem wipe_set : ∀ {vs : List Nat} {i : Nat} {σ : L2.St} {v : Option V}, i ∈ vs → wipe (σ.set i v) vs = wipe σ vs
  | w :: vs, i, σ, v, h => by
    unfold wipe
    by_cases e : i ∈ vs
    · rw [wipe_set e]
    · have hw : i = w := by
        rcases List.mem_cons.mp h with h | h
        · exact h
        · exact absurd h e
      subst hw
      have key : ∀ {us : List Nat} {σ : L2.St}, i ∉ us → wipe (σ.set i v) us = (wipe σ us).set i v := by
        intro us
        induction us with
        | nil => intro σ _; rfl
        | cons u us ih =>
          intro σ hn
          simp only [List.mem_cons, not_or] at hn
          unfold wipe
          rw [ih hn.2, List.set_comm _ _ hn.1]
      rw [key e, List.set_set]
theorem wipe_none {us : List Nat} {σ : L2.St} {i : Nat} (h : i ∈ us) : (wipe σ us).set i none = wipe σ us := by
  induction us with
  | nil => cases h
  | cons u us ih =>
    unfold wipe
    by_cases e : i = u
    · subst e; rw [List.set_set]
    · rw [List.set_comm _ _ (Ne.symm e), ih ((List.mem_cons.mp h).resolve_left e)]
theorem wipe_wipe {vs : List Nat} {σ : L2.St} : wipe (wipe σ vs) vs = wipe σ vs := by
  have key : ∀ (us : List Nat), (∀ u ∈ us, u ∈ vs) → wipe (wipe σ vs) us = wipe σ vs := by
    intro us
    induction us with
    | nil => intro _; rfl
    | cons u us ih =>
      intro h
      show (wipe (wipe σ vs) us).set u none = _
      rw [ih fun x hx => h x (List.mem_cons_of_mem _ hx), wipe_none (h u (List.mem_cons_self ..))]
  exact key vs fun _ h => h
theorem gk_name {vs : List Nat} {i : Nat} (hm : i ∈ vs) : GBk W vs (gName i) (aGN i) := fun σ H th rho eta x d Q R S Rd h k => k _ _ (wipe_set hm) (S.set i (RepT.of Rd)) h
def GBks (W : Wd) (vs : List Nat) (g : TGs) (ga : TGsa) : Prop :=
  ∀ (σ : L2.St) (H : Hp) (th : List Addr) (rho : Rho) (eta : List MO) (xs : List V) (ds : List D) (Q : Rho → List MO → Prop) (R : L2.St → Hp → Prop), SR W th H σ rho eta → Reps W H ds xs → ga ds rho eta Q →
    (∀ σ2 rho2, wipe σ2 vs = wipe σ vs → SR W th H σ2 rho2 eta → Q rho2 eta → R σ2 H) → g xs σ H R
theorem gks_nil {vs : List Nat} : GBks W vs gNil aGsN := fun σ H th rho eta xs ds Q R S Rs h k => by
  cases ds with
  | nil => exact ⟨Rs, k σ rho rfl S h⟩
  | cons d ds => exact h.elim
theorem gks_name {vs : List Nat} {i : Nat} {g : TGs} {ga : TGsa} (hm : i ∈ vs) (h2 : GBks W vs g ga) : GBks W vs (gCons (gName i) g) (aGsC (aGN i) ga) := fun σ H th rho eta xs ds Q R S Rs h k => by
  cases ds with
  | nil => exact h.elim
  | cons d ds =>
    obtain ⟨v, r, rfl, R1, R2⟩ := Rs
    refine ⟨v, r, rfl, ?_⟩
    exact h2 (σ.set i (some v)) H th _ eta r ds Q R (S.set i (RepT.of (th := th) R1)) R2 h fun σ2 rho2 hw => k σ2 rho2 (by rw [hw, wipe_set hm])
theorem gk_tup {K : PySem.W.Frag} {vs : List Nat} {g : TGs} {ga : TGsa} {n : Nat} (h : GBks W vs g ga) : GBk W vs (gTup K n g) (aGT n ga) := fun σ H th rho eta x d Q R S Rd hw k => by
  cases d with
  | tup ds =>
    obtain ⟨hl, hw⟩ := hw
    obtain ⟨a, xs, rfl, hq, Rs⟩ := Rd
    exact ⟨a, xs, rfl, SqT.of hq, by rw [← Rs.length]; exact hl, h σ H th rho eta xs ds Q R S Rs hw k⟩
  | _ => exact hw.elim

def wipA : Rho → List Nat → Rho
  | rho, [] => rho
  | rho, v :: vs => (wipA rho vs).set v none
theorem wipA_sr {th : List Addr} {H : Hp} {σ : L2.St} {rho : Rho} {eta : List MO} (S : SR W th H σ rho eta) : ∀ vs : List Nat, SR W th H (wipe σ vs) (wipA rho vs) eta
  | [] => S
  | v :: vs => by
    have S1 := wipA_sr S vs
    unfold wipe wipA
    refine ⟨fun i d e => ?_, by simpa using S1.le, S1.hp⟩
    by_cases h : v = i
    · subst h
      by_cases hl : v < (wipA rho vs).length
      · rw [List.getElem?_set_self hl] at e; cases e
      · rw [List.getElem?_eq_none (by simpa using hl)] at e; cases e
    · rw [List.getElem?_set_ne h] at e ⊢
      exact S1.var i d e
/-- the list that a comprehension makes -/
def aLcG (ga : TGa) (tt : TTa) (te : TEa) (rho : Rho) (Q : List D → List MO → Prop) : List D → List D → List MO → Prop
  | [], acc, eta => Q acc eta
  | d :: ds, acc, eta => ga d rho eta fun rho1 eta1 => tt rho1 eta1 (fun b eta2 => if b = true then te rho1 eta2 (fun y eta3 => y.im = true ∧ aLcG ga tt te rho Q ds (acc ++ [y]) eta3) (fun _ _ _ => False)
      else aLcG ga tt te rho Q ds acc eta2) (fun _ _ _ => False)
def aLc (ti : TIa) (ga : TGa) (tt : TTa) (te : TEa) (vs : List Nat) : TEa := fun rho eta Q EX => ti rho eta (fun ds eta1 => ds.length ≤ 100000 ∧ aLcG ga tt te (wipA rho vs) (fun acc eta2 => Q (.fl acc) eta2) ds [] eta1) EX
theorem XOk.none {th : List Addr} {H : Hp} : XOk W W0 th H (fun _ _ _ => False) := fun _ _ _ _ _ _ _ _ h => h.elim
theorem sizeK {n : Nat} (h : n < 100000) : n < sizeLine := Nat.lt_of_lt_of_le h (by rw [sizeLine_eq]; decide)
theorem Reps.snoc {H : Hp} {d : D} {v : V} (r : Rep W H d v) : ∀ {ds : List D} {vs : List V}, Reps W H ds vs → Reps W H (ds ++ [d]) (vs ++ [v])
  | [], _, h => by have h : _ = _ := h; subst h; exact ⟨v, [], rfl, r, rfl⟩
  | e :: ds, _, ⟨w, l, e1, h1, h2⟩ => ⟨w, l ++ [v], by rw [e1]; rfl, h1, Reps.snoc r h2⟩
theorem RepM.pers {th : List Addr} {H H' : Hp} (p : Pers H H') {mo : MO} {ho : HO} (h : RepM W th H mo ho) : RepM W th H' mo ho := by
  cases mo with
  | gone => trivial
  | lst ds => obtain ⟨vs, e, r⟩ := h; exact ⟨vs, e, Reps.mono p _ _ r⟩
  | dct ks ds => obtain ⟨vs, e, l, r⟩ := h; exact ⟨vs, e, l, Reps.mono p _ _ r⟩
  | dctT ks ds => obtain ⟨vs, e, l, r⟩ := h; exact ⟨vs, e, l, Reps.mono p _ _ r⟩
  | ins c ds =>
    obtain ⟨dx, vs, e, l, r⟩ := h
    refine ⟨dx, vs, e, l, ?_⟩
    have key : ∀ {ds : List D} {vs : List V}, RepTs W th H ds vs → RepTs W th H' ds vs := by
      intro ds
      induction ds with
      | nil => intro vs h; exact h
      | cons d ds ih =>
        intro vs ⟨v, r, e, h1, h2⟩
        refine ⟨v, r, e, ?_, ih h2⟩
        cases d <;> first | exact Rep.mono p _ v h1 | exact h1
    exact key r
/-- one object outside the numbered ones is written -/
theorem SRh.aside {th : List Addr} {H : Hp} {eta : List MO} (S : SRh W th H eta) {D : Addr} {o o' : HO} (hD : D ∉ th) (e : H D = some o) (nf : ¬ Fz o) : Pers H (upd H D o') ∧ SRh W th (upd H D o') eta := by
  have p : Pers H (upd H D o') := fun b u h fz => by
    rw [upd_ne (fun z => by rw [z, e] at h; cases h; exact nf fz)]; exact h
  refine ⟨p, S.len, S.nd, fun n mo q => ?_⟩
  obtain ⟨a, ho, e1, e2, r⟩ := S.obj n mo q
  exact ⟨a, ho, e1, by rw [upd_ne (fun z => hD (by rw [← z]; exact List.mem_of_getElem? e1))]; exact e2, r.pers p⟩
theorem Grow.aside {th th' : List Addr} {H H' : Hp} (g : Grow th H th' H') {D : Addr} {o : HO} (hD : H D = none) : Grow th H th' (upd H' D o) :=
  ⟨g.pre, fun a u e q => by rw [upd_ne (ne_of_none e hD)]; exact g.keep a u e q⟩
theorem Grow.notin {th th' : List Addr} {H H' : Hp} (g : Grow th H th' H') {D : Addr} {o : HO} (hD : D ∉ th) (e : H D = some o) : D ∉ th' := fun z => by
  obtain ⟨t, e2, ht⟩ := g.pre
  rw [e2] at z
  rcases List.mem_append.mp z with z | z
  · exact hD z
  · rw [ht D z] at e; cases e
theorem ea_lc {elt tg iter : Expr} {ifs : List Expr} {scope : Scope} {own : List (Str × Nat)} {pos : Pos} {ti : TIa} {g : TG} {ga : TGa} {tt : TTa} {te : TEa} (hc : X.calm = true) (hN : X.N.Nodup) (hi : IA X W Wx tg iter ti) (ok : BlkOk X.N X.env.scope scope own)
    (hg : ∀ (s : Shared) (H : Hp) (C : Addr) (cl : List (Str × Addr)) (fp : List Addr), PG (X.blk s H scope (compEnvC scope cl C X.env) fp) tg g) (hk : GBk W (own.map (·.2)) g ga)
    (ht : ∀ (s : Shared) (H : Hp) (C : Addr) (cl : List (Str × Addr)) (fp : List Addr), TsA (X.blk s H scope (compEnvC scope cl C X.env) fp) W W0 ifs tt)
    (he : ∀ (s : Shared) (H : Hp) (C : Addr) (cl : List (Str × Addr)) (fp : List Addr), EA (X.blk s H scope (compEnvC scope cl C X.env) fp) W W0 elt te) (hs : ∀ x, foldedSetIterable iter X.env x = pure x := by intro _; rfl) :
    EA X W Wx (.ListComp elt [⟨tg, iter, ifs, 0⟩] scope pos) (aLc ti ga tt te (own.map (·.2))) := by
  refine .of (pe_fz (pe_lc hc hN hi.pi ok hg (fun s H C cl fp => (ht s H C cl fp).pts) (fun s H C cl fp => (he s H C cl fp).pe) hs)) fun σ H th rho eta Qa EX S xo hq => ?_
  refine ⟨th, rho, eta, _, EX, S, xo, hq, fun J th1 H1 ds eta1 g1 S1 jo q => ?_⟩
  obtain ⟨hlen, q⟩ := q
  intro D hD
  have hD1 : D ∉ th1 := fun z => by obtain ⟨o, e⟩ := S1.hp.there D z; rw [hD] at e; cases e
  let Inv2 : Nat → Hp → Prop := fun i H2 => ∃ th2 eta2 acc accD, Grow th1 H1 th2 H2 ∧ SRh W th2 H2 eta2 ∧ D ∉ th2 ∧ H2 D = some (.lst acc) ∧ Reps W H2 accD acc ∧ acc.length ≤ i ∧ i ≤ ds.length ∧
    aLcG ga tt te (wipA rho (own.map (·.2))) (fun acc eta2 => Qa (.fl acc) eta2) (ds.drop i) accD eta2
  refine ⟨fun i m H2 => m = ds.length - i ∧ Inv2 i H2, ⟨ds.length, rfl, th1, eta1, [], [], Grow.new hD, S1.hp.new hD, hD1, upd_same, rfl, by simp, Nat.zero_le _, by simpa using q⟩, ?_⟩
  rintro i m H2 ⟨rfl, th2, eta2, acc, accD, g2, S2, hD2, eD, Racc, hacc, hil, q2⟩
  obtain ⟨jg, js⟩ := jo th2 H2 g2 i
  cases e : ds[i]? with
  | none =>
    have hl : ds.length ≤ i := List.getElem?_eq_none_iff.mp e
    rw [List.drop_eq_nil_of_le hl] at q2
    refine .inl ⟨js hl, D, _, rfl, eD, trivial, fun od => ?_⟩
    obtain ⟨pf, S3⟩ := S2.aside (o' := .frz od (.lst acc)) hD2 eD (fun z => z)
    have g3 := g2.aside (o := .frz od (.lst acc)) hD
    exact ⟨th2, .fl accD, eta2, g1.trans' S1.hp g3, S1.mono g3 S3 |> fun z => ⟨fun i d e => let ⟨v, e1, r⟩ := S.var i d e; ⟨v, e1, r.mono (g1.trans' S1.hp g3)⟩, S.le, S3⟩, ⟨D, od, acc, rfl, upd_same, Reps.mono pf _ _ Racc⟩, q2⟩
  | some d =>
    obtain ⟨hgo, hy⟩ := jg d e
    have hlt : i < ds.length := (List.getElem?_eq_some_iff.mp e).1
    rw [drop_get e] at q2
    refine .inr ⟨hgo, Inv2 (i + 1), fun H' q => ⟨ds.length - (i + 1), by omega, rfl, q⟩, fun x H' hyl => ?_⟩
    obtain ⟨py, hk2, Rx⟩ := hy x H' hyl
    obtain ⟨S2h, g3⟩ := hk2 th2 eta2 S2
    have Sw : SR W th2 H2 (wipe σ (own.map (·.2))) (wipA rho (own.map (·.2))) eta2 := wipA_sr (S1.mono g2 S2) _
    have Sw3 := Sw.mono g3 S2h
    have eD3 : H' D = some (.lst acc) := g3.keep D _ eD (.inl hD2)
    refine hk _ H' th2 _ eta2 x d _ _ Sw3 Rx q2 fun σ2 rho2 hw S4 q4 => ⟨by rw [hw, wipe_wipe], th2, rho2, eta2, _, _, S4, XOk.none, q4, fun th5 H5 b eta5 g5 S5 q5 => ?_⟩
    have eD5 : H5 D = some (.lst acc) := g5.keep D _ eD3 (.inl hD2)
    have hD5 : D ∉ th5 := g5.notin hD2 eD3
    have g25 : Grow th1 H1 th5 H5 := g2.trans' S2 (g3.trans' S2h g5)
    have p25 : Pers H2 H5 := fun a o h f => g5.pers a o (py a o h f) f
    cases b with
    | false =>
      rw [if_neg Bool.false_ne_true] at q5
      dsimp only
      rw [if_neg Bool.false_ne_true]
      exact ⟨th5, eta5, acc, accD, g25, S5.hp, hD5, eD5, Reps.mono p25 _ _ Racc, by omega, hlt, q5⟩
    | true =>
      rw [if_pos rfl] at q5
      dsimp only
      rw [if_pos rfl]
      refine ⟨th5, rho2, eta5, _, _, S5, XOk.none, q5, fun th6 H6 y dy eta6 g6 S6 Ry q6 => ?_⟩
      obtain ⟨yi, q6⟩ := q6
      have eD6 : H6 D = some (.lst acc) := g6.keep D _ eD5 (.inl hD5)
      have hD6 : D ∉ th6 := g6.notin hD5 eD5
      refine ⟨acc, eD6, sizeK (by omega), ?_⟩
      obtain ⟨p7, S7⟩ := S6.hp.aside (o' := .lst (acc ++ [y])) hD6 eD6 (fun z => z)
      refine ⟨th6, eta6, acc ++ [y], accD ++ [dy], (g25.trans' S5.hp g6).aside hD, S7, hD6, upd_same, ?_, by simp; omega, hlt, q6⟩
      exact Reps.snoc (Rep.mono p7 _ _ (Ry.im yi)) (Reps.mono p7 _ _ (Reps.mono g6.pers _ _ (Reps.mono p25 _ _ Racc)))
end
end RF
set_option maxRecDepth 100000
set_option maxHeartbeats 4000000
namespace RF
open PySem PySem.Spec PyProof.Rows L2
/-! ### the class Ratio -/
structure RatC (K : PySem.W.Frag) (C pT pB fI : Addr) : Prop where
  cl : SlX.SCls K C
  sT : SlX.Slot1 K C "top" pT 1
  sB : SlX.Slot1 K C "bottom" pB 0
  isi : SlX.SIsi K C
  mkr : Mk K C fI
section
variable {X : Cx} {W : Wd} {Wx : WX}
theorem rat_inst {pins : List (Addr × Obj)} {σ : L2.St} {H : Hp} {s : Shared} {a : Addr} {q : Rat} (I : Inv X pins σ H s) (h : RatAt W H a q) :
    ∃ (dx : Addr) (sl : Array (Option Value)) (od : Obj), SlX.SlR [some (.int q.den), some (.int q.num)] sl ∧ PySem.W.InstAt s.heap a { PySem.W.instObj (W.cl 0) dx with slots := sl } (W.cl 0) (some od) ∧ ∀ f, PySem.W.lookIn f od = some none := by
  obtain ⟨dx, o, h1, h2⟩ := h
  obtain ⟨e, ⟨⟨sl, e1, r⟩, _, _⟩⟩ := I.hok a _ h1
  obtain ⟨mA, n, r2⟩ := I.hok dx _ h2
  obtain ⟨od, ho, hl⟩ := lookIn_ns n
  exact ⟨dx, sl, od, r, ⟨e1, rfl, rfl, ho⟩, fun f => by rw [hl f]; exact congrArg some (RelO.none_of (r2 f))⟩
/-- r.top, r.bottom -/
def fldQ (b : Bool) (Q : QA) : QA := fun d eta => match d with
  | .rat q => Q (.int (if b then q.den else q.num)) eta
  | _ => False
def aFldR (b : Bool) (t : TEa) : TEa := fun rho eta Q EX => t rho eta (fldQ b Q) EX
theorem ea_fldR {C pT pB fI : Addr} (RC : RatC X.K C pT pB fI) (hC : W.cl 0 = C) {e : Expr} {t : TEa} {pos : Pos} {f : Str} {p : Addr} {i : Nat} {b : Bool} (he : EA X W Wx e t) (hs : SlX.Slot1 X.K C f p i) (hi : i = if b then 0 else 1) (hb : attributeBase e f X.env (eval e X.env) = eval e X.env := by rfl) :
    EA X W Wx (.Attribute e f pos) (aFldR b t) := by
  refine ⟨fun pins s σ H th rho eta Qa EX I S x h => ?_⟩
  refine attr_of hb (thn (he.run pins s σ H th rho eta _ EX I S x h) fun u s1 ⟨v, th1, H1, d, eta1, I1, r1, g1, S1, R1, q1⟩ => ?_)
  unfold fldQ at q1
  split at q1
  · rename_i q
    obtain ⟨a, rfl, R⟩ := R1
    obtain rfl : u = Value.ref a := r1
    obtain ⟨dx, sl, od, rs, J, _⟩ := rat_inst I1 R
    obtain ⟨m, F⟩ := I1.fr
    have hv : ∃ w, sl[i]? = some (some w) ∧ RelV (.int (if b then (q.den : Int) else q.num)) w := by
      cases b with
      | true => subst hi; exact rs 0 _ rfl
      | false => subst hi; exact rs 1 _ rfl
    obtain ⟨w, ew, rw'⟩ := hv
    rw [hC] at J
    refine PySem.W.get_slot F I1.mod.kin J (RC.cl.get f) RC.cl.ic hs.at_ hs.get hs.tk hs.ix (v := w) ?_ (handed_of rw') ⟨_, th1, H1, .int _, eta1, I1.tok _, rw', g1, S1, rfl, q1⟩
    show (sl[i]?).join = some w
    rw [ew]; rfl
  · exact q1.elim

/-! ### isinstance -/
/-- the class of a value, for isinstance (own instances: in further rules) -/
def D.tyn : D → Option Value
  | .non => some (.type "NoneType")
  | .bl _ => some (.type "bool")
  | .int _ => some (.type "int")
  | .str _ => some (.type "str")
  | .tup _ => some (.type "tuple")
  | .fl _ => some (.type "list")
  | .fd _ _ => some (.type "dict")
  | _ => none
theorem kit_d {C pT pB fI : Addr} (RC : RatC X.K C pT pB fI) (hC : W.cl 0 = C) {pins : List (Addr × Obj)} {σ : L2.St} {H : Hp} {s : Shared} {th : List Addr} {d : D} {x : V} {u : Value} (I : Inv X pins σ H s) (R : RepT W th H d x) (r : RelV x u) :
    (∀ t, d.tyn = some t → ∃ P : Heap → Prop, PySem.W.KitX X.K u t P ∧ P s.heap ∧ u ≠ .builtin "__main__.__loader__#opaque") ∧ (∀ q, d = .rat q → ∃ P : Heap → Prop, PySem.W.KitX X.K u (.ref C) P ∧ P s.heap ∧ u ≠ .builtin "__main__.__loader__#opaque") := by
  refine ⟨fun t e => ?_, fun q e => ?_⟩
  · have ty : ∀ {t'}, TyX X.K H x t' → some t' = some t → ∃ P : Heap → Prop, PySem.W.KitX X.K u t P ∧ P s.heap ∧ u ≠ .builtin "__main__.__loader__#opaque" := fun h e => by
      cases e; exact kit_of I r h
    cases d with
    | non => have R : x = _ := R; subst R; exact ty (.base .non) e
    | bl b => have R : x = _ := R; subst R; exact ty (.base (.bl b)) e
    | int i => have R : x = _ := R; subst R; exact ty (.base (.int i)) e
    | str z => have R : x = _ := R; subst R; exact ty (.base (.str z)) e
    | tup ds => obtain ⟨a, vs, rfl, ea, _⟩ := R; exact ty (.base (.tup ea)) e
    | fl ds => obtain ⟨a, o, vs, rfl, ea, _⟩ := R; exact ty (.base (.frz ea)) e
    | fd ks ds => obtain ⟨a, o, vs, rfl, ea, _⟩ := R; exact ty (.fDict ea) e
    | _ => cases e
  · subst e
    obtain ⟨a, rfl, R⟩ := R
    obtain rfl : u = Value.ref a := r
    obtain ⟨dx, sl, od, rs, J, _⟩ := rat_inst I R
    rw [hC] at J
    exact ⟨_, OwX.kitx_slt RC.cl.ic (RC.cl.get _) RC.isi.ca RC.isi.cn RC.isi.ct RC.isi.cm, J, fun z => nomatch z⟩
/-- what K says of the answers of f, for the class or classes c -/
def IsiOk (K : PySem.W.Frag) (C : Addr) (f : D → Option Bool) (us : List Value) : Prop :=
  ∀ d b, f d = some b → (∃ t, d.tyn = some t ∧ PySem.W.kitAny K t us = some b) ∨ (∃ q, d = .rat q ∧ PySem.W.kitAny K (.ref C) us = some b)
def ClsD (W : Wd) : D → Value → Prop
  | .cls c, u => u = .ref (W.cl c)
  | .ty n, u => u = .type n
  | _, _ => False
def raIsi (c : D) (f : D → Option Bool) : RNa := fun ds _ eta Q _ => match ds with
  | [d, c'] => c' = c ∧ (match f d with | some b => Q (.bl b) eta | none => False)
  | _ => False
theorem clsD_val {th : List Addr} {H : Hp} {c : D} {u w : Value} {v : V} (k : ClsD W c u) (R : RepT W th H c v) (r : RelV v w) : w = u := by
  cases c with
  | cls c => have R : v = _ := R; subst R; cases r; exact k.symm
  | ty n => have R : v = _ := R; subst R; cases r; exact k.symm
  | _ => exact k.elim
theorem kitAny_one {K : PySem.W.Frag} {t c : Value} {b : Bool} (h : PySem.W.kitAny K t [c] = some b) : PySem.W.kitOne K t c = some b := by
  simp only [PySem.W.kitAny] at h
  cases e : PySem.W.kitOne K t c with
  | none => rw [e] at h; cases h
  | some b' => rw [e] at h; cases b' <;> exact h
theorem ca_isi {C pT pB fI : Addr} (RC : RatC X.K C pT pB fI) (hC : W.cl 0 = C) {c : D} {u : Value} {f : D → Option Bool} (hc : ClsD W c u) (hf : IsiOk X.K C f [u]) : ClA X W Wx (.builtin "isinstance") (raIsi c f) := by
  intro pins s σ H th rho eta xs us ds Qa EX I S xo rx Rd hr
  unfold raIsi at hr
  split at hr
  · rename_i d c'
    obtain ⟨ec, hr⟩ := hr
    subst ec
    obtain ⟨x, y, rfl, Rx, Ry⟩ := Rd.two
    obtain ⟨u1, u2, rfl, r1, r2⟩ := vals2 rx
    have e2 := clsD_val hc Ry r2
    subst e2
    cases e : f d with
    | none => rw [e] at hr; exact hr.elim
    | some b =>
      rw [e] at hr
      have fin : ∀ tk, EPa X W pins σ th H rho Qa (.bool b) { s with toks := tk } := fun tk => EPa.here (v := .bl b) (d := .bl b) (I.tok tk) S rfl rfl hr
      obtain ⟨k1, k2⟩ := kit_d RC hC I Rx r1
      rcases hf d b e with ⟨t, et, hk⟩ | ⟨q, eq, hk⟩
      · obtain ⟨P, Z, p, hx⟩ := k1 t et
        exact PySem.W.kia_one Z I.kIn p (kitAny_one hk) hx fin
      · obtain ⟨P, Z, p, hx⟩ := k2 q eq
        exact PySem.W.kia_one Z I.kIn p (kitAny_one hk) hx fin
  · exact hr.elim
/-- isinstance(x, (int, Ratio)) -/
theorem ca_isiT {C pT pB fI : Addr} (RC : RatC X.K C pT pB fI) (hC : W.cl 0 = C) {c1 c2 : D} {u1' u2' : Value} {f : D → Option Bool} (hc1 : ClsD W c1 u1') (hc2 : ClsD W c2 u2') (hf : IsiOk X.K C f [u1', u2']) : ClA X W Wx (.builtin "isinstance") (raIsi (.tup [c1, c2]) f) := by
  intro pins s σ H th rho eta xs us ds Qa EX I S xo rx Rd hr
  unfold raIsi at hr
  split at hr
  · rename_i d c'
    obtain ⟨ec, hr⟩ := hr
    subst ec
    obtain ⟨x, y, rfl, Rx, Ry⟩ := Rd.two
    obtain ⟨u1, u2, rfl, r1, r2⟩ := vals2 rx
    obtain ⟨tp, vs, rfl, et, Rs⟩ := Ry
    cases (show u2 = Value.ref tp from r2)
    obtain ⟨_, its, rv, o, h1, h2, n, h3⟩ := (show ObjOk X.prog X.w H s.heap tp (.tup vs) from I.hok tp _ et)
    have e3 : its = [u1', u2'] := by
      obtain ⟨v1, l1, rfl, Ra, v2, l2, rfl, Rb, e⟩ := Rs
      have e : l2 = [] := e
      subst e
      cases rv with
      | cons ra rr =>
        cases rr with
        | cons rb rr2 =>
          cases rr2
          rw [clsD_val (th := th) hc1 (RepT.of Ra) ra, clsD_val (th := th) hc2 (RepT.of Rb) rb]
    subst e3
    obtain ⟨oc, od, dt, sl⟩ := o
    simp only at h2 h3
    subst h2 h3
    cases e : f d with
    | none => rw [e] at hr; exact hr.elim
    | some b =>
      rw [e] at hr
      have fin : ∀ tk, EPa X W pins σ th H rho Qa (.bool b) { s with toks := tk } := fun tk => EPa.here (v := .bl b) (d := .bl b) (I.tok tk) S rfl rfl hr
      obtain ⟨k1, k2⟩ := kit_d RC hC I Rx r1
      rcases hf d b e with ⟨t, et, hk⟩ | ⟨q, eq, hk⟩
      · obtain ⟨P, Z, p, hx⟩ := k1 t et
        exact PySem.W.kia_tup Z I.kIn p h1 hk hx fin
      · obtain ⟨P, Z, p, hx⟩ := k2 q eq
        exact PySem.W.kia_tup Z I.kIn p h1 hk hx fin
  · exact hr.elim
end
end RF
set_option maxRecDepth 100000
set_option maxHeartbeats 4000000
namespace RF
open PySem PySem.Spec PyProof.Rows L2
/-! ### Ratio(t, b) -/
def DivOk (b : Int) : Prop := b.natAbs.log2 < 9000
def rG (t b : Int) : Int := if b < 0 then -((Nat.gcd t.natAbs b.natAbs : Nat) : Int) else ((Nat.gcd t.natAbs b.natAbs : Nat) : Int)
theorem rG_ne {t b : Int} (h : b ≠ 0) : rG t b ≠ 0 := by
  have : 0 < Nat.gcd t.natAbs b.natAbs := Nat.gcd_pos_of_pos_right _ (by omega)
  unfold rG; split <;> omega
theorem rG_le {t b : Int} (h : b ≠ 0) : (rG t b).natAbs ≤ b.natAbs := by
  have : Nat.gcd t.natAbs b.natAbs ≤ b.natAbs := Nat.gcd_le_right _ (by omega)
  unfold rG; split <;> omega
theorem log2_mono {a b : Nat} (h : a ≤ b) : a.log2 ≤ b.log2 := by
  by_cases ha : a = 0
  · subst ha; simp
  · exact (Nat.le_log2 (by omega)).mpr (Nat.le_trans (Nat.log2_self_le ha) h)
theorem rG_cfd {t b : Int} (x : Int) (h : b ≠ 0) (d : DivOk b) : CFd x (rG t b) :=
  ⟨rG_ne h, PyProof.noPylong_of_log2 (Nat.lt_of_le_of_lt (log2_mono (rG_le h)) d)⟩
theorem fdiv_gcd_num {t b : Int} (h : b ≠ 0) : t.fdiv (rG t b) = (Rat.divInt t b).num ∧ b.fdiv (rG t b) = ((Rat.divInt t b).den : Int) := by
  have hg : 0 < Nat.gcd t.natAbs b.natAbs := Nat.gcd_pos_of_pos_right _ (by omega)
  have eg : b.gcd t = Nat.gcd t.natAbs b.natAbs := by rw [Int.gcd_comm]; rfl
  rw [Rat.num_divInt, Rat.den_divInt, if_neg h, eg]
  generalize hG : Nat.gcd t.natAbs b.natAbs = g at *
  obtain ⟨t', et⟩ : (g : Int) ∣ t := by rw [← hG]; exact Int.ofNat_dvd_left.mpr (Nat.gcd_dvd_left _ _)
  obtain ⟨b', eb⟩ : (g : Int) ∣ b := by rw [← hG]; exact Int.ofNat_dvd_left.mpr (Nat.gcd_dvd_right _ _)
  have hg0 : (g : Int) ≠ 0 := by omega
  have hb' : b.natAbs = g * b'.natAbs := by rw [eb, Int.natAbs_mul]; rfl
  have hq : b.natAbs / g = b'.natAbs := by rw [hb']; exact Nat.mul_div_cancel_left _ hg
  unfold rG
  rw [hG]
  by_cases hn : b < 0
  · rw [if_pos hn, Int.sign_eq_neg_one_of_neg hn, hq]
    have hs : b' < 0 := by
      refine Int.not_le.mp fun z => ?_
      have := Int.mul_nonneg (Int.natCast_nonneg g) z
      omega
    refine ⟨?_, ?_⟩
    · rw [show (-1 : Int) * t = g * (-t') by rw [et]; simp [Int.mul_neg], Int.mul_ediv_cancel_left _ hg0]
      exact Int.fdiv_eq_of_eq_mul_right (by omega) (by rw [et, Int.neg_mul_neg])
    · rw [show ((b'.natAbs : Nat) : Int) = -b' by omega]
      exact Int.fdiv_eq_of_eq_mul_right (by omega) (by rw [Int.neg_mul_neg]; exact eb)
  · rw [if_neg hn, Int.sign_eq_one_of_pos (by omega), hq, Int.one_mul]
    have hs : 0 < b' := by
      refine Int.not_le.mp fun z => ?_
      have := Int.mul_nonpos_of_nonneg_of_nonpos (Int.natCast_nonneg g) z
      omega
    refine ⟨?_, ?_⟩
    · rw [et, Int.mul_ediv_cancel_left _ hg0]
      exact Int.fdiv_eq_of_eq_mul_right hg0 rfl
    · rw [show ((b'.natAbs : Nat) : Int) = b' by omega]
      exact Int.fdiv_eq_of_eq_mul_right hg0 eb
def fRG (K : PySem.W.Frag) : TS := tSeq (SlX.sSl K (tVar 0) (tOp (rI CFd fun i j => .int (i.fdiv j)) (tVar 1) (tVar 3)) "top") (SlX.sSl K (tVar 0) (tOp (rI CFd fun i j => .int (i.fdiv j)) (tVar 2) (tVar 3)) "bottom")
/-- what __init__'s body is read as -/
def tRI (K : PySem.W.Frag) (ZB : Addr) (E : XK) : TS :=
  tSeq (tIfS (tTest (tOp rEq (tVar 2) (tC (.int 0)))) (fun _ σ H => (fun _ H Q => Q (.ref ZB) none H : L2.St → Hp → XK → Prop) σ H fun cls d H' => E cls d H') tNext)
    (tSeq (tAsg (tCB rGcd (tCons (tVar 1) (tCons (tVar 2) tNil))) (gName 3))
    (tSeq (tIfS (tTest (tOp (rI0 fun i j => .bl (decide (i < j))) (tVar 2) (tC (.int 0)))) (tAsg (tUn (rU fun i => .int (-i)) (tVar 3)) (gName 3)) tNext) (fRG K)))
def spRI (C ZB : Addr) : Sp := fun vs H Q E => ∃ (p dx : Addr) (t b : Int), vs = [.ref p, .int t, .int b] ∧ H p = some (.ins C dx []) ∧ dx ≠ p ∧
  (b = 0 → E (.ref ZB) none H) ∧ (b ≠ 0 → DivOk b ∧ Q .non (SlX.slH H p C dx [some (.int (Rat.divInt t b).den), some (.int (Rat.divInt t b).num)]))
theorem pure_fRG {K : PySem.W.Frag} {C pT pB fI : Addr} (RC : RatC K C pT pB fI) {p dx : Addr} {t b g : Int} {H : Hp} {Dn : Ends} (hp : H p = some (.ins C dx [])) (ne : dx ≠ p) (c1 : CFd t g) (c2 : CFd b g)
    (k : Dn.nx [some (.ref p), some (.int t), some (.int b), some (.int g)] (SlX.slH H p C dx [some (.int (b.fdiv g)), some (.int (t.fdiv g))])) : fRG K Dn [some (.ref p), some (.int t), some (.int b), some (.int g)] H := by
  refine ⟨_, rfl, _, rfl, t, g, rfl, rfl, c1, _, rfl, p, C, dx, pT, [], 1, rfl, .inl ⟨hp, rfl⟩, RC.cl, RC.sT, ?_⟩
  refine ⟨_, rfl, _, rfl, b, g, rfl, rfl, c2, _, rfl, p, C, dx, pB, _, 0, rfl, SlX.slH_slt ne, RC.cl, RC.sB, ?_⟩
  rw [SlX.slH_twice ne]
  exact k
theorem pure_rinit {K : PySem.W.Frag} {C ZB pT pB fI : Addr} (RC : RatC K C pT pB fI) {vs : List V} {H : Hp} {Q : VK} {E : XK} (h : spRI C ZB vs H Q E) :
    tRI K ZB E { nx := fun _ H' => Q .non H', rt := Q } (L2.start ["self", "top", "bottom", "common"] vs) H := by
  obtain ⟨p, dx, t, b, rfl, hp, ne, k0, k1⟩ := h
  refine ⟨_, rfl, rfl, _, rfl, ?_⟩
  by_cases hb : b = 0
  · subst hb
    refine iteT ?_
    exact k0 rfl
  · show if decide (V.int b = V.int 0) = true then _ else _
    rw [if_neg (by simpa using hb)]
    obtain ⟨dk, k⟩ := k1 hb
    obtain ⟨e1, e2⟩ := fdiv_gcd_num (t := t) hb
    rw [← e1, ← e2] at k
    have c1 := rG_cfd (t := t) t hb dk
    have c2 := rG_cfd (t := t) b hb dk
    refine ⟨_, rfl, _, rfl, t, b, rfl, _, rfl, _, _, rfl, rfl, _, rfl, ?_⟩
    by_cases hn : b < 0
    · show if decide (b < 0) = true then _ else _
      rw [if_pos (by simpa using hn)]
      refine ⟨_, rfl, _, rfl, ?_⟩
      have e : rG t b = -((Nat.gcd t.natAbs b.natAbs : Nat) : Int) := if_pos hn
      rw [e] at k c1 c2
      exact pure_fRG RC hp ne c1 c2 k
    · show if decide (b < 0) = true then _ else _
      rw [if_neg (by simpa using hn)]
      have e : rG t b = ((Nat.gcd t.natAbs b.natAbs : Nat) : Int) := if_neg hn
      rw [e] at k c1 c2
      exact pure_fRG RC hp ne c1 c2 k
/-! ### the call of the class -/
def raRat (zb : Nat) : RNa := fun ds rho eta Q EX => match ds with
  | [.int t, .int b] => if b = 0 then EX ⟨zb, []⟩ rho eta else DivOk b ∧ Q (.rat (Rat.divInt t b)) eta
  | [.int t] => Q (.rat (t : Rat)) eta
  | _ => False
theorem divInt_one (t : Int) : Rat.divInt t 1 = (t : Rat) := by
  apply Rat.ext
  · rw [Rat.num_divInt]; simp
  · rw [Rat.den_divInt]; simp
section
variable {X : Cx} {W : Wd} {Wx : WX}
/-- the heap behind __init__ -/
def ratH (H : Hp) (x dx C : Addr) (q : Rat) : Hp := SlX.slH (upd (upd H dx (.own x)) x (.ins C dx [])) x C dx [some (.int q.den), some (.int q.num)]
theorem rat_sp {C ZB : Addr} {zb : Nat} (hZ : W.cl zb = ZB) {σ : L2.St} {H : Hp} {th : List Addr} {rho : Rho} {eta : List MO} {t b : Int} {EX : EXA} {x dx : Addr} (S : SR W th H σ rho eta) (xo : XOk W Wx th H EX) (hX : H x = none) (hN : H dx = none) (ne : dx ≠ x)
    (h0 : b = 0 → EX ⟨zb, []⟩ rho eta) (h1 : b ≠ 0 → DivOk b) :
    spRI C ZB [V.ref x, V.int t, V.int b] (upd (upd H dx (.own x)) x (.ins C dx [])) (fun v H2 => v = .non ∧ b ≠ 0 ∧ H2 = ratH H x dx C (Rat.divInt t b)) (WE Wx σ) := by
  have g1 : Grow th H th (upd H dx (.own x)) := Grow.new hN
  have S1 := S.hp.new (o := .own x) hN
  have hX1 : (upd H dx (.own x)) x = none := by rw [upd_ne (Ne.symm ne)]; exact hX
  have g2 : Grow th H th (upd (upd H dx (.own x)) x (.ins C dx [])) := g1.trans' S1 (Grow.new hX1)
  have S2 := S1.new (o := .ins C dx []) hX1
  exact ⟨x, dx, t, b, rfl, upd_same, ne, fun hb => xo ⟨zb, []⟩ rho eta th _ σ _ _ (h0 hb) g2 (S.mono g2 S2) ⟨by rw [hZ], .inl ⟨rfl, rfl⟩⟩, fun hb => ⟨h1 hb, rfl, hb, rfl⟩⟩
theorem ratH_eq {H : Hp} {x dx C : Addr} {q : Rat} {o : HO} (ne : dx ≠ x) : upd (ratH H x dx C q) x o = upd (upd H dx (.xd [])) x o := by
  funext b
  unfold ratH SlX.slH
  by_cases h1 : b = x
  · rw [h1, upd_same, upd_same]
  · by_cases h2 : b = dx
    · subst h2; simp only [upd_ne ne, upd_same]
    · simp only [upd_ne h1, upd_ne h2]
theorem rat_fz {C : Addr} (hC : W.cl 0 = C) {pins : List (Addr × Obj)} {s : Shared} {σ : L2.St} {H : Hp} {th : List Addr} {rho : Rho} {eta : List MO} {q : Rat} {Qa : QA} {x dx : Addr} (S : SR W th H σ rho eta) (hX : H x = none) (hN : H dx = none) (ne : dx ≠ x)
    (I : Inv X pins σ (ratH H x dx C q) s) (h : Qa (.rat q) eta) : EPa X W pins σ th H rho Qa (.ref x) s := by
  have e : ratH H x dx C q x = some (SlX.SlO x C dx [some (.int q.den), some (.int q.num)]) := upd_same
  obtain ⟨od, I1⟩ := I.lock e trivial
  rw [ratH_eq ne] at I1
  have g1 : Grow th H th (upd H dx (.xd [])) := Grow.new hN
  have S1 := S.hp.new (o := .xd []) hN
  have hX1 : (upd H dx (.xd [])) x = none := by rw [upd_ne (Ne.symm ne)]; exact hX
  have g2 := g1.trans' S1 (Grow.new (o := .frz od (SlX.SlO x C dx [some (.int q.den), some (.int q.num)])) hX1)
  have S2 := S1.new (o := .frz od (SlX.SlO x C dx [some (.int q.den), some (.int q.num)])) hX1
  refine ⟨.ref x, th, _, .rat q, eta, I1, rfl, g2, S.mono g2 S2, ⟨x, rfl, dx, od, ?_, ?_⟩, h⟩
  · rw [hC]; exact upd_same
  · rw [upd_ne ne, upd_same]
theorem run_rat {C ZB pT pB fI : Addr} {k zb : Nat} (RC : RatC X.K C pT pB fI) (hC : W.cl 0 = C) (hZ : W.cl zb = ZB) (F : FnR X.prog X.w X.K X.mg X.base (L2.CX X.prog X.w) k fI (spRI C ZB)) (hr : Room (k + 1) X.A) (tk : Takes X Wx)
    {pins : List (Addr × Obj)} {s : Shared} {σ : L2.St} {H : Hp} {th : List Addr} {rho : Rho} {eta : List MO} {us : List Value} {t b : Int} {Qa : QA} {EX : EXA} (I : Inv X pins σ H s) (S : SR W th H σ rho eta) (xo : XOk W Wx th H EX) (rx : Vals [V.int t, V.int b] us)
    (h0 : b = 0 → EX ⟨zb, []⟩ rho eta) (h1 : b ≠ 0 → DivOk b ∧ Qa (.rat (Rat.divInt t b)) eta) : wpAny (model X.prog X.w) X.A (call (.ref C) us) (EPa X W pins σ th H rho Qa) X.xe s := by
  have hN := I.hok.fresh (Nat.le_refl s.heap.objs.size)
  have hX := I.hok.fresh (Nat.le_succ s.heap.objs.size)
  have ne : s.heap.objs.size ≠ s.heap.objs.size + 1 := Nat.ne_of_lt (Nat.lt_succ_self _)
  have I2 := Inv.made (C := C) I
  have r2 : Vals [V.ref (s.heap.objs.size + 1), V.int t, V.int b] (Value.ref (s.heap.objs.size + 1) :: us) := .cons rfl rx
  have sp := rat_sp (C := C) (t := t) hZ S xo hX hN ne h0 fun hb => (h1 hb).1
  refine wpAny_call (make_map (f := fI) I.kIn RC.mkr.makes RC.mkr.init (beq_iff_eq.mp RC.mkr.fn) (codeAny_mono (F _ X.stack _ _ (Value.ref (s.heap.objs.size + 1) :: us) _ _ (WE Wx σ) (hr.make C us []) (I2.env0.make C us []) r2 sp) fun r s' hq' => ?_))
  cases r with
  | error e => exact passAt tk σ pins _ _ e s' I2 hq'
  | ok fl =>
    cases fl with
    | ret u =>
      obtain ⟨v, H', I3, rv, ev, hb, eH⟩ := I2.after hq'
      subst ev eH
      exact ⟨rv, rat_fz hC S hX hN ne I3 (h1 hb).2⟩
    | next => exact False.elim hq'
    | brk => exact False.elim hq'
    | cont => exact False.elim hq'
/-- Ratio(t, b) and Ratio(t): F1 is __init__'s promise with the default -/
theorem cl_rat {C ZB pT pB fI : Addr} {k zb : Nat} (RC : RatC X.K C pT pB fI) (hC : W.cl 0 = C) (hZ : W.cl zb = ZB)
    (F : FnR X.prog X.w X.K X.mg X.base (L2.CX X.prog X.w) k fI (fun vs H Q E => spRI C ZB vs H Q E ∨ spRI C ZB (vs ++ [.int 1]) H Q E)) (hr : Room (k + 1) X.A) (tk : Takes X Wx) : ClA X W Wx (.ref C) (raRat zb) := by
  intro pins s σ H th rho eta xs us ds Qa EX I S xo rx Rd hr'
  unfold raRat at hr'
  split at hr'
  · rename_i t b
    obtain ⟨v, w, rfl, e1, e2⟩ := Rd.two
    have e1 : v = _ := e1
    have e2 : w = _ := e2
    subst e1 e2
    refine run_rat RC hC hZ (F.imp fun _ _ _ _ h => .inl h) hr tk I S xo rx (fun hb => ?_) fun hb => ?_
    · rw [if_pos hb] at hr'; exact hr'
    · rw [if_neg hb] at hr'; exact hr'
  · rename_i t
    obtain ⟨v, rfl, e1⟩ := Rd.one
    have e1 : v = _ := e1
    subst e1
    have hN := I.hok.fresh (Nat.le_refl s.heap.objs.size)
    have hX := I.hok.fresh (Nat.le_succ s.heap.objs.size)
    have ne : s.heap.objs.size ≠ s.heap.objs.size + 1 := Nat.ne_of_lt (Nat.lt_succ_self _)
    have I2 := Inv.made (C := C) I
    have r2 : Vals [V.ref (s.heap.objs.size + 1), V.int t] (Value.ref (s.heap.objs.size + 1) :: us) := .cons rfl rx
    have sp := rat_sp (C := C) (Wx := Wx) (EX := EX) (zb := zb) (rho := rho) (t := t) (b := 1) hZ S xo hX hN ne (fun hb => absurd hb (by decide)) (fun hb => by unfold DivOk; decide +kernel)
    refine wpAny_call (make_map (f := fI) I.kIn RC.mkr.makes RC.mkr.init (beq_iff_eq.mp RC.mkr.fn) (codeAny_mono (F _ X.stack _ _ (Value.ref (s.heap.objs.size + 1) :: us) _ _ (WE Wx σ) (hr.make C us []) (I2.env0.make C us []) r2 (.inr sp)) fun r s' hq' => ?_))
    cases r with
    | error e => exact passAt tk σ pins _ _ e s' I2 hq'
    | ok fl =>
      cases fl with
      | ret u =>
        obtain ⟨v, H', I3, rv, ev, hb, eH⟩ := I2.after hq'
        subst ev eH
        rw [divInt_one] at I3
        exact ⟨rv, rat_fz hC S hX hN ne I3 hr'⟩
      | next => exact False.elim hq'
      | brk => exact False.elim hq'
      | cont => exact False.elim hq'
  · exact hr'.elim
end
end RF
set_option maxRecDepth 100000
set_option maxHeartbeats 4000000
namespace RF
open PySem PySem.Spec PyProof.Rows L2
section
variable {X : Cx} {W : Wd} {Wx : WX}
/-! ### raise -/
def sRaise (c : Nat) : TSa := fun _ rho eta EX => EX ⟨c, []⟩ rho eta
theorem sa_raise {c : Nat} {C : Addr} {e : Expr} {pos : Pos} (hc : X.calm = true) (tk : Takes X Wx) (hC : W.cl c = C) (he : PMk X e (fun _ H Q => Q (.ref C) none H)) : SA X W Wx (.Raise (some e) none pos) (sRaise c) :=
  .of (ps_raise hc tk he) fun σ H th rho eta DA EX S x h => x ⟨c, []⟩ rho eta th H σ _ _ h (Grow.refl _ _) S ⟨by rw [hC], .inl ⟨rfl, rfl⟩⟩
/-! ### try .. except C as n -/
theorem SR.unset {th : List Addr} {H : Hp} {σ : L2.St} {rho : Rho} {eta : List MO} (S : SR W th H σ rho eta) (i : Nat) : SR W th H (σ.set i none) (rho.set i none) eta := by
  refine ⟨fun j e h => ?_, by simpa using S.le, S.hp⟩
  by_cases hj : i = j
  · subst hj
    by_cases hl : i < rho.length
    · rw [List.getElem?_set_self hl] at h; cases h
    · rw [List.getElem?_eq_none (by simp; omega)] at h; cases h
  · rw [List.getElem?_set_ne hj] at h
    obtain ⟨w, e1, r⟩ := S.var j e h
    exact ⟨w, by rw [List.getElem?_set_ne hj]; exact e1, r⟩
def dOk : List D → Option Addr → Bool
  | [], d => d.isNone
  | _, _ => true
theorem RepX.dOk {H : Hp} {ex : Ex} {cls : Value} {dx : Option Addr} (R : RepX W H ex cls dx) : RF.dOk ex.vs dx = true := by
  obtain ⟨_, R⟩ := R
  rcases R with ⟨e, e2⟩ | ⟨d, vs, e, _⟩
  · rw [e, e2]; rfl
  · cases hv : ex.vs with
    | nil => exact absurd hv e
    | cons _ _ => rfl
abbrev TUa := Addr → Value → Option Addr → TSa
def endsN (i : Nat) (DA : EndsA) : EndsA := { nx := fun r e => DA.nx (r.set i none) e, rt := DA.rt, bk := fun r e => DA.bk (r.set i none) e, ct := fun r e => DA.ct (r.set i none) e }
/-- what the clause does with an exception: m tells whether it is one of its -/
def exAs (W : Wd) (m : Nat → Option Bool) (i : Nat) (u : TUa) (DA : EndsA) (EX : EXA) : EXA := fun ex rho eta => match m ex.c with
  | some true => ∀ a d, dOk ex.vs d = true → u a (.ref (W.cl ex.c)) d (endsN i DA) (rho.set i (some (.exn a d ex.c ex.vs))) eta (fun _ _ _ => False)
  | some false => EX ex rho eta
  | none => False
def aTryAs (W : Wd) (m : Nat → Option Bool) (i : Nat) (t : TSa) (u : TUa) : TSa := fun DA rho eta EX => t DA rho eta (exAs W m i u DA EX)
/-- exceptions of the classes of m, by the clause's class -/
def Exm (K : PySem.W.Frag) (W : Wd) (m : Nat → Option Bool) (cv : Value) : Prop := ∀ c b, m c = some b → PySem.W.exmOne K (.ref (W.cl c)) cv = some b
theorem sa_try_as {x n : Str} {cv : Value} {i : Nat} {body suite : List Stmt} {b₀ : Stmt} {np pos pos' : Pos} {t : TSa} {u : TUa} {m : Nat → Option Bool} (hm : Exm X.K W m cv) (hc : Names X x cv) (tk : Takes X Wx) (hi : X.N[i]? = some n)
    (hb : ∀ (Wx' : WX) (pn : List (Addr × Obj)) (xe : Value → Shared → Prop), Takes (X.tr pn xe) Wx' → PassesOwn (model X.prog X.w) X.A X.env xe → SsA (X.tr pn xe) W Wx' body t)
    (hsu : ∀ (a : Addr) (oe : Obj) (cls : Value) (d : Option Addr) (pn : List (Addr × Obj)), Zc cls d oe → (∃ vs, oe.data = .fields vs) → SsA (X.suite a ((a, oe) :: pn)) W (fun _ _ _ _ => False) (b₀ :: suite) (u a cls d))
    (hN : X.N.Nodup) (hs : X.stack = X.env :: X.outer := by rfl) (hf : X.env.frame = some X.env.locals := by rfl) (hln : X.env.kindOf n = some .local := by rfl) :
    SA X W Wx (.Try body [.ExceptHandler (some (.Name x np)) (some n) (b₀ :: suite) pos'] [] [] pos) (aTryAs W m i t u) :=
  .of (ps_try_as (tb := fun Wx' => lftS W Wx' t) (ts := fun a cls d => lftS W (fun _ _ _ _ => False) (u a cls d)) hs hf hN hi hln hc tk (fun Wx' pn xe tk' po => (hb Wx' pn xe tk' po).pss) fun a oe cls d pn hz hf => (hsu a oe cls d pn hz hf).pss) fun σ H th rho eta DA EX S xo h => by
    refine ⟨th, rho, eta, DA, _, S, ?_, h, fun th' H' σ' rho' eta' g S' q => ⟨th', rho', eta', g, S', q⟩, fun th' H' σ' rho' eta' g S' q => ⟨th', rho', eta', g, S', q⟩, fun th' H' σ' rho' eta' g S' q => ⟨th', rho', eta', g, S', q⟩, fun th' H' v d eta' g S' r q => ⟨th', d, eta', g, S', r, q⟩⟩
    intro ex rho' eta' th' H' σ' cls dx he g S' R
    obtain ⟨ec, R⟩ := R
    subst ec
    unfold exAs at he
    split at he
    · rename_i e
      refine ⟨true, hm _ _ e, fun _ a na => ?_, fun z => by cases z⟩
      refine ⟨th', _, eta', _, _, S'.set i (d := .exn a dx ex.c ex.vs) ⟨rfl, R⟩, fun _ _ _ _ _ _ _ _ z => z.elim, he a dx (RepX.dOk (W := W) (H := H') (cls := .ref (W.cl ex.c)) ⟨rfl, R⟩), ?_, ?_, ?_, ?_⟩
      · exact fun th2 H2 σ2 rho2 eta2 g2 S2 q => ⟨th2, _, eta2, g.trans' S'.hp g2, S2.unset i, q⟩
      · exact fun th2 H2 σ2 rho2 eta2 g2 S2 q => ⟨th2, _, eta2, g.trans' S'.hp g2, S2.unset i, q⟩
      · exact fun th2 H2 σ2 rho2 eta2 g2 S2 q => ⟨th2, _, eta2, g.trans' S'.hp g2, S2.unset i, q⟩
      · exact fun th2 H2 v d eta2 g2 S2 r q => ⟨th2, d, eta2, g.trans' S'.hp g2, S2, r, q⟩
    · rename_i e
      exact ⟨false, hm _ _ e, fun z => (by cases z), fun _ => xo ex rho' eta' th' H' σ' _ dx he g S' ⟨rfl, R⟩⟩
    · exact he.elim
/-! ### try .. except C -/
def exOnly (W : Wd) (m : Nat → Option Bool) (u : TUa) (DA : EndsA) (EX : EXA) : EXA := fun ex rho eta => match m ex.c with
  | some true => ∀ a d, dOk ex.vs d = true → u a (.ref (W.cl ex.c)) d DA rho eta (fun _ _ _ => False)
  | some false => EX ex rho eta
  | none => False
def aTryOnly (W : Wd) (m : Nat → Option Bool) (t : TSa) (u : TUa) : TSa := fun DA rho eta EX => t DA rho eta (exOnly W m u DA EX)
theorem sa_try_only {x : Str} {cv : Value} {body suite : List Stmt} {b₀ : Stmt} {np pos pos' : Pos} {t : TSa} {u : TUa} {m : Nat → Option Bool} (hm : Exm X.K W m cv) (hc : Names X x cv) (tk : Takes X Wx)
    (hb : ∀ (Wx' : WX) (pn : List (Addr × Obj)) (xe : Value → Shared → Prop), Takes (X.tr pn xe) Wx' → PassesOwn (model X.prog X.w) X.A X.env xe → SsA (X.tr pn xe) W Wx' body t)
    (hsu : ∀ (a : Addr) (oe : Obj) (cls : Value) (d : Option Addr) (pn : List (Addr × Obj)), Zc cls d oe → (∃ vs, oe.data = .fields vs) → SsA (X.suite a ((a, oe) :: pn)) W (fun _ _ _ _ => False) (b₀ :: suite) (u a cls d))
    (hs : X.stack = X.env :: X.outer := by rfl) (hf : X.env.frame = some X.env.locals := by rfl) :
    SA X W Wx (.Try body [.ExceptHandler (some (.Name x np)) none (b₀ :: suite) pos'] [] [] pos) (aTryOnly W m t u) :=
  .of (ps_try_only (tb := fun Wx' => lftS W Wx' t) (ts := fun a cls d => lftS W (fun _ _ _ _ => False) (u a cls d)) hs hf hc tk (fun Wx' pn xe tk' po => (hb Wx' pn xe tk' po).pss) fun a oe cls d pn hz hf => (hsu a oe cls d pn hz hf).pss) fun σ H th rho eta DA EX S xo h => by
    refine ⟨th, rho, eta, DA, _, S, ?_, h, fun th' H' σ' rho' eta' g S' q => ⟨th', rho', eta', g, S', q⟩, fun th' H' σ' rho' eta' g S' q => ⟨th', rho', eta', g, S', q⟩, fun th' H' σ' rho' eta' g S' q => ⟨th', rho', eta', g, S', q⟩, fun th' H' v d eta' g S' r q => ⟨th', d, eta', g, S', r, q⟩⟩
    intro ex rho' eta' th' H' σ' cls dx he g S' R
    obtain ⟨ec, R⟩ := R
    subst ec
    unfold exOnly at he
    split at he
    · rename_i e
      refine ⟨true, hm _ _ e, fun _ a na => ?_, fun z => by cases z⟩
      refine ⟨th', _, eta', _, _, S', fun _ _ _ _ _ _ _ _ z => z.elim, he a dx (RepX.dOk (W := W) (H := H') (cls := .ref (W.cl ex.c)) ⟨rfl, R⟩), ?_, ?_, ?_, ?_⟩
      · exact fun th2 H2 σ2 rho2 eta2 g2 S2 q => ⟨th2, _, eta2, g.trans' S'.hp g2, S2, q⟩
      · exact fun th2 H2 σ2 rho2 eta2 g2 S2 q => ⟨th2, _, eta2, g.trans' S'.hp g2, S2, q⟩
      · exact fun th2 H2 σ2 rho2 eta2 g2 S2 q => ⟨th2, _, eta2, g.trans' S'.hp g2, S2, q⟩
      · exact fun th2 H2 v d eta2 g2 S2 r q => ⟨th2, d, eta2, g.trans' S'.hp g2, S2, r, q⟩
    · rename_i e
      exact ⟨false, hm _ _ e, fun z => (by cases z), fun _ => xo ex rho' eta' th' H' σ' _ dx he g S' ⟨rfl, R⟩⟩
    · exact he.elim
/-! ### the exception that the suite holds -/
/-- isinstance(e, c) -/
def raIsE (W : Wd) (a : Addr) (cls : Value) (dx : Option Addr) (m : Nat → Option Bool) (c : D) : RNa := fun ds _ eta Q _ => match ds with
  | [.exn a' d' k _, c'] => c' = c ∧ a' = a ∧ d' = dx ∧ cls = .ref (W.cl k) ∧ (match m k with | some b => Q (.bl b) eta | none => False)
  | _ => False
/-- isinstance(e, c) by e's class: m -/
def IsEx (K : PySem.W.Frag) (W : Wd) (m : Nat → Option Bool) (cv : Value) : Prop := ∀ k b, m k = some b → ExcC K (W.cl k) ∧ PySem.W.kitOne K (.ref (W.cl k)) cv = some b
theorem lookup_zip_none {f : Str} : ∀ {l : List Str} {ws : List V}, l.contains f = false → (l.zip ws).lookup f = none
  | [], _, _ => rfl
  | x :: l, [], _ => rfl
  | x :: l, w :: ws, h => by
    simp only [List.contains_cons, Bool.or_eq_false_iff] at h
    simp only [List.zip_cons_cons, List.lookup_cons, h.1]
    exact lookup_zip_none h.2
theorem lookup_zip_some {f : Str} : ∀ {l : List Str} {ws : List V} {j : Nat} {v : V}, l.length = ws.length → l[j]? = some f → ws[j]? = some v → (l.take j).contains f = false → (l.zip ws).lookup f = some v
  | [], _, _, _, _, h, _, _ => by simp at h
  | x :: l, [], _, _, h, _, _, _ => by simp at h
  | x :: l, w :: ws, 0, v, _, h1, h2, _ => by
    simp only [List.getElem?_cons_zero, Option.some.injEq] at h1 h2
    subst h1 h2
    simp [List.lookup_cons]
  | x :: l, w :: ws, j + 1, v, hl, h1, h2, h3 => by
    simp only [List.getElem?_cons_succ] at h1 h2
    simp only [List.take_succ_cons, List.contains_cons, Bool.or_eq_false_iff] at h3
    simp only [List.zip_cons_cons, List.lookup_cons, h3.1]
    exact lookup_zip_some (by simpa using hl) h1 h2 h3.2
theorem Reps.at {H : Hp} : ∀ {ds : List D} {vs : List V} {j : Nat} {d : D}, Reps W H ds vs → ds[j]? = some d → ∃ v, vs[j]? = some v ∧ Rep W H d v
  | [], _, _, _, _, h => by simp at h
  | x :: xs, _, 0, d, ⟨v, r, e, h1, _⟩, h => by
    simp only [List.getElem?_cons_zero, Option.some.injEq] at h
    subst h e
    exact ⟨v, rfl, h1⟩
  | x :: xs, _, j + 1, d, ⟨v, r, e, _, h2⟩, h => by
    simp only [List.getElem?_cons_succ] at h
    subst e
    obtain ⟨w, e, q⟩ := Reps.at h2 h
    exact ⟨w, by simpa using e, q⟩
theorem exn_inst {X : Cx} {pins : List (Addr × Obj)} {σ : L2.St} {H : Hp} {th : List Addr} {s : Shared} {a : Addr} {oe : Obj} {pn : List (Addr × Obj)} {dx : Option Addr} {k : Nat} {vs : List D} {v : V} (I : Inv (X.suite a ((a, oe) :: pn)) pins σ H s)
    (hz : Zc (.ref (W.cl k)) dx oe) (hf : ∃ vs, oe.data = .fields vs) (R : RepT W th H (.exn a dx k vs) v) : ∃ od, PySem.W.InstAt s.heap a oe (W.cl k) od ∧ (∀ f, (W.fld k).contains f = false → ∀ o, od = some o → PySem.W.lookIn f o = some none) ∧
      (∀ f (j : Nat) d, vs[j]? = some d → (W.fld k)[j]? = some f → ((W.fld k).take j).contains f = false → ∃ o u z, od = some o ∧ PySem.W.lookIn f o = some (some u) ∧ RelV z u ∧ Rep W H d z) := by
  obtain ⟨hget, _⟩ := I.pin (a, oe) (List.mem_append.mpr (.inl List.mem_cons_self))
  obtain ⟨fv, hv⟩ := hf
  obtain ⟨h1, h2⟩ := hz
  have nc : PySem.W.notCls oe = true := by unfold PySem.W.notCls; rw [hv]
  obtain ⟨_, R⟩ := R
  rcases R with ⟨e, e2⟩ | ⟨d, ws, e, e2, hd, l, r⟩
  · subst e e2
    refine ⟨none, ⟨hget, h1, nc, by rw [h2]; trivial⟩, ?_, ?_⟩
    · intro f _ o z; cases z
    · intro f j d hj; simp at hj
  · subst e2
    have hx : ObjOk X.prog X.w H s.heap d (.xd ((W.fld k).zip ws)) := I.hok d _ hd
    obtain ⟨mA, hns, hr⟩ := hx
    obtain ⟨od, ho, hl⟩ := lookIn_ns hns
    refine ⟨some od, ⟨hget, h1, nc, by rw [h2]; exact ho⟩, ?_, ?_⟩
    · intro f hf o z
      cases z
      rw [hl f]
      have := hr f
      rw [lookup_zip_none hf] at this
      exact congrArg some (RelO.none_of this)
    · intro f j dd hj hfj hno
      obtain ⟨z, ez, rz⟩ := r.at hj
      have := hr f
      rw [lookup_zip_some l hfj ez hno] at this
      obtain ⟨u, hu, ru⟩ := RelO.some_of this
      exact ⟨od, u, z, rfl, by rw [hl f, hu], ru, rz⟩
theorem ca_isE {X : Cx} {a : Addr} {oe : Obj} {pn : List (Addr × Obj)} {cls : Value} {dx : Option Addr} {m : Nat → Option Bool} {c : D} {cv : Value} (hc : ClsD W c cv) (hm : IsEx X.K W m cv) (hz : Zc cls dx oe) (hf : ∃ vs, oe.data = .fields vs) :
    ClA (X.suite a ((a, oe) :: pn)) W Wx (.builtin "isinstance") (raIsE W a cls dx m c) := by
  intro pins s σ H th rho eta xs us ds Qa EX I S xo rx Rd hr
  unfold raIsE at hr
  split at hr
  · rename_i a' d' k vs c'
    obtain ⟨ec, ea, ed, ek, hr⟩ := hr
    subst ec ea ed ek
    obtain ⟨x, y, rfl, Rx, Ry⟩ := Rd.two
    obtain ⟨u1, u2, rfl, r1, r2⟩ := vals2 rx
    have e2 := clsD_val hc Ry r2
    subst e2
    obtain ⟨od, J, _⟩ := exn_inst I hz hf Rx
    obtain ⟨ex, _⟩ := Rx
    subst ex
    obtain rfl : u1 = Value.ref a' := r1
    cases e : m k with
    | none => rw [e] at hr; exact hr.elim
    | some b =>
      rw [e] at hr
      obtain ⟨C, hk⟩ := hm k b e
      obtain ⟨cd, hcd, _⟩ := PySem.W.any_some C.hd
      exact PySem.W.kia_one (PySem.W.kitx_exc (by rw [hcd]; rfl) C.hg C.hk C.hs C.ha C.hn C.ht C.hm) I.kIn J hk (fun z => nomatch z) fun tk => EPa.here (v := .bl b) (d := .bl b) (I.tok tk) S rfl rfl hr
  · exact hr.elim
end
end RF
set_option maxRecDepth 100000
set_option maxHeartbeats 4000000
namespace RF
open PySem PySem.Spec PyProof.Rows L2
section
variable {X : Cx} {W : Wd} {Wx : WX}
/-! ### names of classes -/
theorem ea_cls {c : Nat} {C : Addr} {x : Str} {pos : Pos} (hC : W.cl c = C) (hm : X.mg x = some (.ref C)) (hg : Gl X x := by rfl) (hd : (x == ("__debug__" : Str)) = false := by decide) : EA X W Wx (.Name x pos) (aC (.cls c)) :=
  .of (pe_glob hg hm (v := .ref C) rfl hd) fun σ H th rho eta Qa EX S x h => by
    subst hC
    exact hereC (d := .cls c) S rfl h
theorem ea_ty {n : String} {x : Str} {pos : Pos} (hm : X.mg x = none) (hv : bootBuiltins x = some (.type n)) (hg : Gl X x := by rfl) (hn : x ≠ "__name__" := by decide) (hd : (x == ("__debug__" : Str)) = false := by decide) : EA X W Wx (.Name x pos) (aC (.ty n)) :=
  .of (pe_bltn hg hm hv (v := .ty n) rfl hn hd) fun σ H th rho eta Qa EX S x h => hereC (d := .ty n) S rfl h
/-! ### texts -/
def raAddS : R2a := fun d e _ eta Q _ => match d, e with
  | .str x, .str y => x.length + y.length ≤ sizeLine ∧ Q (.str (x ++ y)) eta
  | _, _ => False
theorem oa_addS : OpA X W Wx (binaryOp .Add) raAddS := .of op_add_str fun σ H th rho eta x y d e Qa EX S Rd Re hr => by
  unfold raAddS at hr
  split at hr
  · obtain ⟨hc, q⟩ := hr
    have e1 : x = _ := Rd
    have e2 : y = _ := Re
    exact ⟨_, _, e1, e2, hc, hereC (d := .str _) S rfl q⟩
  · exact hr.elim
/-- {x} of an f-string -/
def fmtQ (Q : QA) : QA := fun d eta => match d with
  | .str y => y.length ≤ sizeLine ∧ Q (.str y) eta
  | .int i => i.natAbs.log2 < 1920 ∧ Q (.str (toString i)) eta
  | _ => False
def aFmt (t : TEa) : TEa := fun rho eta Q EX => t rho eta (fmtQ Q) EX
theorem ea_fmt {e : Expr} {t : TEa} {pos : Pos} (he : EA X W Wx e t) : EA X W Wx (.FormattedValue e (-1) none pos) (aFmt t) :=
  .of (pe_fmt he.pe) fun σ H th rho eta Qa EX S x ht => by
    refine ⟨th, rho, eta, _, EX, S, x, ht, fun th1 H1 v d eta1 g S1 R q => ?_⟩
    unfold fmtQ at q
    split at q
    · have e : v = _ := R
      exact .inl ⟨_, e, q.1, th1, .str _, eta1, g, S1, rfl, q.2⟩
    · have e : v = _ := R
      exact .inr ⟨_, e, q.1, th1, .str _, eta1, g, S1, rfl, q.2⟩
    · exact q.elim
inductive JA (X : Cx) (W : Wd) (Wx : WX) : List Expr → List TEa → Prop where
  | nil : JA X W Wx [] []
  | cons {e : Expr} {t : TEa} {es : List Expr} {ts : List TEa} (h : EA X W Wx e t) (r : JA X W Wx es ts) : JA X W Wx (e :: es) (t :: ts)
theorem JA.pj {es : List Expr} {ts : List TEa} (h : JA X W Wx es ts) : PJ X es (ts.map (lftE W Wx)) := by
  induction h with
  | nil => exact .nil
  | cons h r ih => exact .cons h.pe ih
def aJs : List TEa → Str → Rho → List MO → (Str → List MO → Prop) → EXA → Prop
  | [], acc, _, eta, Q, _ => Q acc eta
  | t :: ts, acc, rho, eta, Q, EX => t rho eta (fun d eta1 => match d with
    | .str y => (acc ++ y).length ≤ sizeLine ∧ aJs ts (acc ++ y) rho eta1 Q EX
    | _ => False) EX
theorem lftE_imp {t : TEa} {σ : L2.St} {H : Hp} {Q Q' : VK} (h : lftE W Wx t σ H Q) (k : ∀ v H', Q v H' → Q' v H') : lftE W Wx t σ H Q' :=
  let ⟨th, rho, eta, Qa, EX, S, x, ht, q⟩ := h
  ⟨th, rho, eta, Qa, EX, S, x, ht, fun th' H' v d eta' g S' R z => k _ _ (q th' H' v d eta' g S' R z)⟩
theorem tJs_imp {σ : L2.St} {Q Q' : Str → Hp → Prop} : ∀ {ts : List TEa} {acc : Str} {H : Hp}, tJs (ts.map (lftE W Wx)) acc σ H Q → (∀ o H', Q o H' → Q' o H') → tJs (ts.map (lftE W Wx)) acc σ H Q'
  | [], acc, H, h, k => k _ _ h
  | t :: ts, acc, H, h, k => lftE_imp h fun v H' ⟨y, e, l, z⟩ => ⟨y, e, l, tJs_imp z k⟩
theorem aJs_of {σ : L2.St} {rho : Rho} : ∀ {ts : List TEa} {acc : Str} {th : List Addr} {H : Hp} {eta : List MO} {Q : Str → List MO → Prop} {EX : EXA}, SR W th H σ rho eta → XOk W Wx th H EX → aJs ts acc rho eta Q EX →
    tJs (ts.map (lftE W Wx)) acc σ H fun out H' => ∃ th' eta', Grow th H th' H' ∧ SR W th' H' σ rho eta' ∧ Q out eta'
  | [], acc, th, H, eta, Q, EX, S, x, h => ⟨th, eta, Grow.refl _ _, S, h⟩
  | t :: ts, acc, th, H, eta, Q, EX, S, x, h => by
    refine ⟨th, rho, eta, _, EX, S, x, h, fun th1 H1 v d eta1 g S1 R q => ?_⟩
    split at q
    · have e : v = _ := R
      refine ⟨_, e, q.1, ?_⟩
      have := aJs_of (acc := acc ++ _) S1 (x.mono g S1.hp) q.2
      exact tJs_imp this fun out H' ⟨th', eta', g', S', q'⟩ => ⟨th', eta', g.trans' S1.hp g', S', q'⟩
    · exact q.elim
theorem ea_joined {v1 v2 : Expr} {rest : List Expr} {ts : List TEa} {pos : Pos} (h : JA X W Wx (v1 :: v2 :: rest) ts) : EA X W Wx (.JoinedStr (v1 :: v2 :: rest) pos) (fun rho eta Q EX => aJs ts Str.empty rho eta (fun out eta1 => Q (.str out) eta1) EX) :=
  .of (pe_joined h.pj) fun σ H th rho eta Qa EX S x ht => by
    have := aJs_of S x ht
    exact tJs_imp this fun out H' ⟨th', eta', g', S', q'⟩ => ⟨th', .str out, eta', g', S', rfl, q'⟩
/-! ### str(r), r a Ratio -/
def raStrR (S : SpA) : RNa := fun ds rho eta Q EX => (∃ q, ds = [.rat q]) ∧ raCall S ds rho eta (fun d eta1 => match d with
  | .str y => Q (.str y) eta1
  | _ => False) EX
theorem ca_strR {k : Nat} {f C : Addr} {S : SpA} (hC : W.cl 0 = C) (F : FnR X.prog X.w X.K X.mg X.base (L2.CX X.prog X.w) k f (spOf W S)) (hr : Room (k + 2) X.A) (tk : Takes X Wx) (hs : PySem.W.findIn X.K (.ref C) "__str__" = some (some (.ref f))) (hf : PySem.W.isFn X.K (.ref f) = true) :
    ClA X W Wx (.type "str") (raStrR S) := by
  intro pins s σ H th rho eta xs us ds Qa EX I Sr xo rx Rd hr'
  obtain ⟨⟨q, rfl⟩, hr'⟩ := hr'
  obtain ⟨v, rfl, e1⟩ := Rd.one
  obtain ⟨a, rfl, R⟩ := e1
  cases rx with
  | cons r1 rr =>
    cases rr
    rename_i u
    obtain rfl : u = Value.ref a := r1
    obtain ⟨dx, sl, od, rs, J, _⟩ := rat_inst I R
    rw [hC] at J
    refine PySem.W.kso_call (by have := hr.in1.in1.un; omega) I.kIn J hs hf (wpAny_mono (cl_fn_at F hr.in1.in1 tk (fun I => I.env0.in1.in1) pins s σ H th rho eta [.ref a] [.ref a] [.rat q] _ EX I Sr xo (.cons rfl .nil) Rd hr') (fun u s' h => ?_) fun _ _ z => z)
    obtain ⟨v, th', H', d, eta', I', r, g, S', R', q'⟩ := h
    split at q'
    · have e : v = _ := R'
      subst e
      obtain ⟨t, rfl⟩ := r
      exact ⟨.str _, th', H', .str _, eta', I', ⟨t, rfl⟩, g, S', rfl, q'⟩
    · exact q'.elim
end
end RF
set_option maxRecDepth 100000
set_option maxHeartbeats 4000000
namespace RF
open PySem PySem.Spec PyProof.Rows L2
/-! ### defs by name -/
def Has (P : Program) (w : World) (K : PySem.W.Frag) (mg : Str → Option Value) (base : Heap) (W : Wd) (nm : Str) (k : Nat) (S : SpA) : Prop :=
  ∃ a, mg nm = some (.ref a) ∧ PySem.W.keepIn K (.ref a) = true ∧ FnR P w K mg base (L2.CX P w) k a (spOf W S)
section
variable {X : Cx} {W : Wd} {Wx : WX}
theorem ea_callH {nm : Str} {k j : Nat} {S : SpA} {p pos : Pos} {e : Expr} {es : List Expr} {t : TAa} (h : Has X.prog X.w X.K X.mg X.base W nm k S) (hr : Room j X.A) (tk : Takes X Wx) (ha : AA X W Wx (e :: es) t) (hj : k ≤ j := by decide) (hg : Gl X nm := by rfl) (hdb : (nm == ("__debug__" : Str)) = false := by decide)
    (he : starEach (e :: es) X.env = (false, eval e X.env) :: starEach es X.env := by rfl) (hpl : (backTo pos (starEach es X.env)).any (·.1) = false := by rfl) : EA X W Wx (.Call (.Name nm p) (e :: es) [] pos) (aCall (raCall S) t) := by
  obtain ⟨a, hm, hk, F⟩ := h
  exact ea_callF (cl_fn F (hr.mono hj) tk) hm hk ha hg hdb he hpl
theorem ea_callH0 {nm : Str} {k j : Nat} {S : SpA} {p pos : Pos} (h : Has X.prog X.w X.K X.mg X.base W nm k S) (hr : Room j X.A) (tk : Takes X Wx) (hj : k ≤ j := by decide) (hg : Gl X nm := by rfl) (hdb : (nm == ("__debug__" : Str)) = false := by decide) : EA X W Wx (.Call (.Name nm p) [] [] pos) (aCall (raCall S) aNil) := by
  obtain ⟨a, hm, hk, F⟩ := h
  exact ea_callF0 (cl_fn F (hr.mono hj) tk) hm hk hg hdb
/-! ### built-in names -/
theorem bt_int : bootBuiltins ("int" : Str) = some (.type "int") := by decide +kernel
theorem bt_bool : bootBuiltins ("bool" : Str) = some (.type "bool") := by decide +kernel
theorem bt_str : bootBuiltins ("str" : Str) = some (.type "str") := by decide +kernel
theorem bt_list : bootBuiltins ("list" : Str) = some (.type "list") := by decide +kernel
theorem bt_dict : bootBuiltins ("dict" : Str) = some (.type "dict") := by decide +kernel
theorem bt_ValueError : bootBuiltins ("ValueError" : Str) = some (.type "ValueError") := by decide +kernel
theorem bt_abs : bootBuiltins ("abs" : Str) = some (.builtin "abs") := by decide +kernel
theorem bt_len : bootBuiltins ("len" : Str) = some (.builtin "len") := by decide +kernel
theorem bt_sum : bootBuiltins ("sum" : Str) = some (.builtin "sum") := by decide +kernel
theorem bt_isinstance : bootBuiltins ("isinstance" : Str) = some (.builtin "isinstance") := by decide +kernel
/-! ### operators, ints and texts -/
def raAdd0 : R2a := fun d e rho eta Q EX => match d, e with
  | .int i, .int j => Q (.int (i + j)) eta
  | .str x, .str y => x.length + y.length ≤ sizeLine ∧ Q (.str (x ++ y)) eta
  | _, _ => False
theorem oa_add0 : OpA X W Wx (binaryOp .Add) raAdd0 := fun pins s σ H th rho eta x y v u d e Qa EX I S xo rx ry Rd Re hr => by
  unfold raAdd0 at hr
  split at hr
  · exact oa_add pins s σ H th rho eta x y v u _ _ Qa EX I S xo rx ry Rd Re ⟨trivial, hr⟩
  · exact oa_addS pins s σ H th rho eta x y v u _ _ Qa EX I S xo rx ry Rd Re hr
  · exact hr.elim
def raSub0 : R2a := fun d e rho eta Q EX => match d, e with
  | .int i, .int j => Q (.int (i - j)) eta
  | _, _ => False
theorem oa_sub0 : OpA X W Wx (binaryOp .Sub) raSub0 := fun pins s σ H th rho eta x y v u d e Qa EX I S xo rx ry Rd Re hr => by
  unfold raSub0 at hr
  split at hr
  · exact oa_sub pins s σ H th rho eta x y v u _ _ Qa EX I S xo rx ry Rd Re ⟨trivial, hr⟩
  · exact hr.elim
def raMul0 : R2a := fun d e rho eta Q EX => match d, e with
  | .int i, .int j => IntMulOk i j ∧ Q (.int (i * j)) eta
  | _, _ => False
theorem oa_mul0 : OpA X W Wx (binaryOp .Mult) raMul0 := fun pins s σ H th rho eta x y v u d e Qa EX I S xo rx ry Rd Re hr => by
  unfold raMul0 at hr
  split at hr
  · exact oa_mul pins s σ H th rho eta x y v u _ _ Qa EX I S xo rx ry Rd Re hr
  · exact hr.elim
def raDiv0 : R2a := fun d e rho eta Q EX => match d, e with
  | .int i, .int j => CFd i j ∧ Q (.int (i.fdiv j)) eta
  | _, _ => False
theorem oa_div0 : OpA X W Wx (binaryOp .FloorDiv) raDiv0 := fun pins s σ H th rho eta x y v u d e Qa EX I S xo rx ry Rd Re hr => by
  unfold raDiv0 at hr
  split at hr
  · exact oa_fdiv pins s σ H th rho eta x y v u _ _ Qa EX I S xo rx ry Rd Re hr
  · exact hr.elim
def raMod0 : R2a := fun d e rho eta Q EX => match d, e with
  | .int i, .int j => j ≠ 0 ∧ Q (.int (i.fmod j)) eta
  | _, _ => False
theorem oa_mod0 : OpA X W Wx (binaryOp .Mod) raMod0 := fun pins s σ H th rho eta x y v u d e Qa EX I S xo rx ry Rd Re hr => by
  unfold raMod0 at hr
  split at hr
  · exact oa_mod pins s σ H th rho eta x y v u _ _ Qa EX I S xo rx ry Rd Re hr
  · exact hr.elim
def raPow0 : R2a := fun d e rho eta Q EX => match d, e with
  | .int i, .int j => CPow i j ∧ Q (.int (i ^ j.toNat)) eta
  | _, _ => False
theorem oa_pow0 : OpA X W Wx (binaryOp .Pow) raPow0 := fun pins s σ H th rho eta x y v u d e Qa EX I S xo rx ry Rd Re hr => by
  unfold raPow0 at hr
  split at hr
  · exact oa_pow pins s σ H th rho eta x y v u _ _ Qa EX I S xo rx ry Rd Re hr
  · exact hr.elim
def raC0 (f : Int → Int → Bool) : R2a := fun d e rho eta Q EX => match d, e with
  | .int i, .int j => Q (.bl (f i j)) eta
  | _, _ => False
abbrev raLt0 : R2a := raC0 fun i j => decide (i < j)
abbrev raLe0 : R2a := raC0 fun i j => decide (i ≤ j)
abbrev raGt0 : R2a := raC0 fun i j => decide (j < i)
abbrev raGe0 : R2a := raC0 fun i j => decide (j ≤ i)
theorem raC0_of {op : Value → Value → Sem Value} {f : Int → Int → Bool} (h : OpA X W Wx op (raI CT fun i j => .bl (f i j))) : OpA X W Wx op (raC0 f) := fun pins s σ H th rho eta x y v u d e Qa EX I S xo rx ry Rd Re hr => by
  unfold raC0 at hr
  split at hr
  · exact h pins s σ H th rho eta x y v u _ _ Qa EX I S xo rx ry Rd Re ⟨trivial, hr⟩
  · exact hr.elim
theorem oa_lt0 : OpA X W Wx (compareOp .Lt) raLt0 := raC0_of oa_lt
theorem oa_le0 : OpA X W Wx (compareOp .LtE) raLe0 := raC0_of oa_le
theorem oa_gt0 : OpA X W Wx (compareOp .Gt) raGt0 := raC0_of oa_gt
theorem oa_ge0 : OpA X W Wx (compareOp .GtE) raGe0 := raC0_of oa_ge
/-! ### str of an int or a Ratio -/
def raStr (S : SpA) : RNa := fun ds rho eta Q EX => match ds with
  | [.int i] => i.natAbs.log2 < 1920 ∧ Q (.str (toString i)) eta
  | [.rat q] => raCall S [.rat q] rho eta (fun d eta1 => match d with
    | .str y => Q (.str y) eta1
    | _ => False) EX
  | _ => False
theorem ca_str {k : Nat} {f C : Addr} {S : SpA} (hC : W.cl 0 = C) (F : FnR X.prog X.w X.K X.mg X.base (L2.CX X.prog X.w) k f (spOf W S)) (hr : Room (k + 2) X.A) (tk : Takes X Wx) (hs : PySem.W.findIn X.K (.ref C) "__str__" = some (some (.ref f))) (hf : PySem.W.isFn X.K (.ref f) = true) :
    ClA X W Wx (.type "str") (raStr S) := fun pins s σ H th rho eta xs us ds Qa EX I Sr xo rx Rd hr' => by
  unfold raStr at hr'
  split at hr'
  · exact ca_strI pins s σ H th rho eta xs us _ Qa EX I Sr xo rx Rd hr'
  · exact ca_strR hC F hr tk hs hf pins s σ H th rho eta xs us _ Qa EX I Sr xo rx Rd ⟨⟨_, rfl⟩, hr'⟩
  · exact hr'.elim
/-! ### gcd -/
def raGcd : RNa := fun ds rho eta Q EX => match ds with
  | [.int a, .int b] => Q (.int ((Nat.gcd a.natAbs b.natAbs : Nat) : Int)) eta
  | _ => False
theorem ca_gcd : ClA X W Wx (.builtin "math.gcd") raGcd := .of cr_gcd fun σ H th rho eta xs ds Qa EX S R hr => by
  unfold raGcd at hr
  split at hr
  · obtain ⟨v, w, rfl, e1, e2⟩ := R.two
    have e1 : v = _ := e1
    have e2 : w = _ := e2
    subst e1 e2
    exact ⟨_, _, rfl, hereC (d := .int _) S rfl hr⟩
  · exact hr.elim
end
end RF
set_option maxRecDepth 100000
set_option maxHeartbeats 4000000
namespace RF
open PySem PySem.Spec PyProof.Rows L2
/-! ### which class a value has -/
def isInt : D → Option Bool
  | .bl _ => some true
  | .int _ => some true
  | .non => some false
  | .str _ => some false
  | .tup _ => some false
  | .fl _ => some false
  | .fd _ _ => some false
  | .rat _ => some false
  | _ => none
def isBool : D → Option Bool
  | .bl _ => some true
  | .int _ => some false
  | .non => some false
  | .str _ => some false
  | .tup _ => some false
  | .fl _ => some false
  | .fd _ _ => some false
  | .rat _ => some false
  | _ => none
def isRat : D → Option Bool
  | .bl _ => some false
  | .int _ => some false
  | .non => some false
  | .str _ => some false
  | .tup _ => some false
  | .fl _ => some false
  | .fd _ _ => some false
  | .rat _ => some true
  | _ => none
def isIntRat : D → Option Bool
  | .bl _ => some true
  | .int _ => some true
  | .non => some false
  | .str _ => some false
  | .tup _ => some false
  | .fl _ => some false
  | .fd _ _ => some false
  | .rat _ => some true
  | _ => none
def isiB (K : PySem.W.Frag) (C : Addr) (us : List Value) (f : D → Option Bool) : Bool :=
  [(("NoneType" : String), D.non), ("bool", .bl true), ("int", .int 0), ("str", .str Str.empty), ("tuple", .tup []), ("list", .fl []), ("dict", .fd [] [])].all (fun q => decide (PySem.W.kitAny K (.type q.1) us = f q.2)) && decide (PySem.W.kitAny K (.ref C) us = f (.rat 0))
theorem isiB_ok {K : PySem.W.Frag} {C : Addr} {us : List Value} {f : D → Option Bool} (h : isiB K C us f = true)
    (hf : ∀ d b, f d = some b → (d = .non ∨ (∃ x, d = .bl x ∧ f d = f (.bl true)) ∨ (∃ x, d = .int x ∧ f d = f (.int 0)) ∨ (∃ x, d = .str x ∧ f d = f (.str Str.empty)) ∨ (∃ x, d = .tup x ∧ f d = f (.tup [])) ∨ (∃ x, d = .fl x ∧ f d = f (.fl [])) ∨ (∃ x y, d = .fd x y ∧ f d = f (.fd [] [])) ∨ (∃ x, d = .rat x ∧ f d = f (.rat 0)))) : IsiOk K C f us := by
  unfold isiB at h
  simp only [List.all_cons, List.all_nil, Bool.and_true, Bool.and_eq_true, decide_eq_true_eq] at h
  obtain ⟨⟨h1, h2, h3, h4, h5, h6, h7⟩, h8⟩ := h
  intro d b e
  rcases hf d b e with rfl | ⟨x, rfl, q⟩ | ⟨x, rfl, q⟩ | ⟨x, rfl, q⟩ | ⟨x, rfl, q⟩ | ⟨x, rfl, q⟩ | ⟨x, y, rfl, q⟩ | ⟨x, rfl, q⟩
  · exact .inl ⟨_, rfl, by rw [h1]; exact e⟩
  · exact .inl ⟨_, rfl, by rw [h2, ← q]; exact e⟩
  · exact .inl ⟨_, rfl, by rw [h3, ← q]; exact e⟩
  · exact .inl ⟨_, rfl, by rw [h4, ← q]; exact e⟩
  · exact .inl ⟨_, rfl, by rw [h5, ← q]; exact e⟩
  · exact .inl ⟨_, rfl, by rw [h6, ← q]; exact e⟩
  · exact .inl ⟨_, rfl, by rw [h7, ← q]; exact e⟩
  · exact .inr ⟨_, rfl, by rw [h8, ← q]; exact e⟩
theorem isiB_int {K : PySem.W.Frag} {C : Addr} {us : List Value} (h : isiB K C us isInt = true) : IsiOk K C isInt us := isiB_ok h fun d b e => by cases d <;> simp_all [isInt]
theorem isiB_bool {K : PySem.W.Frag} {C : Addr} {us : List Value} (h : isiB K C us isBool = true) : IsiOk K C isBool us := isiB_ok h fun d b e => by cases d <;> simp_all [isBool]
theorem isiB_rat {K : PySem.W.Frag} {C : Addr} {us : List Value} (h : isiB K C us isRat = true) : IsiOk K C isRat us := isiB_ok h fun d b e => by cases d <;> simp_all [isRat]
theorem isiB_intRat {K : PySem.W.Frag} {C : Addr} {us : List Value} (h : isiB K C us isIntRat = true) : IsiOk K C isIntRat us := isiB_ok h fun d b e => by cases d <;> simp_all [isIntRat]
/-! ### exception classes by number -/
def exT (yes no : List Nat) : Nat → Option Bool := fun c => if yes.contains c then some true else if no.contains c then some false else none
def exmB (K : PySem.W.Frag) (W : Wd) (yes no : List Nat) (cv : Value) : Bool := yes.all (fun c => decide (PySem.W.exmOne K (.ref (W.cl c)) cv = some true)) && no.all (fun c => decide (PySem.W.exmOne K (.ref (W.cl c)) cv = some false))
theorem exmB_ok {K : PySem.W.Frag} {W : Wd} {yes no : List Nat} {cv : Value} (h : exmB K W yes no cv = true) : Exm K W (exT yes no) cv := by
  unfold exmB at h
  simp only [Bool.and_eq_true, List.all_eq_true, decide_eq_true_eq] at h
  intro c b e
  unfold exT at e
  split at e
  · rename_i hc
    cases e
    exact h.1 c (by simpa using hc)
  · split at e
    · rename_i hc
      cases e
      exact h.2 c (by simpa using hc)
    · cases e
def excB (K : PySem.W.Frag) (D : Addr) : Bool := decide (PySem.W.findIn K (.ref D) "__getattribute__" = some (some (.builtin "BaseException.__getattribute__"))) && (decide (PySem.W.findIn K (.ref D) "__getattr__" = some none) && (decide (PySem.W.subIn K (.ref D) (.type "BaseException") = some true) && (PySem.W.hasDictIn K D &&
  (decide (PySem.W.findIn K (.ref D) "__class__" = some (some (.builtin "object.__class__"))) && (decide (PySem.W.specialIn K (.builtin "object.__class__") "__get__" = some (some (.builtin "getset_descriptor.__get__"))) && (decide (PySem.W.takesIn K (.builtin "object.__class__") = some true) && decide (PySem.W.mroIn K D (.type "object") = some true)))))))
theorem excB_ok {K : PySem.W.Frag} {D : Addr} (h : excB K D = true) : ExcC K D := by
  unfold excB at h
  simp only [Bool.and_eq_true, decide_eq_true_eq] at h
  obtain ⟨h1, h2, h3, h4, h5, h6, h7, h8⟩ := h
  exact ⟨h1, h2, h3, h4, h5, h6, h7, h8⟩
def isexB (K : PySem.W.Frag) (W : Wd) (yes no : List Nat) (cv : Value) : Bool := yes.all (fun c => excB K (W.cl c) && decide (PySem.W.kitOne K (.ref (W.cl c)) cv = some true)) && no.all (fun c => excB K (W.cl c) && decide (PySem.W.kitOne K (.ref (W.cl c)) cv = some false))
theorem isexB_ok {K : PySem.W.Frag} {W : Wd} {yes no : List Nat} {cv : Value} (h : isexB K W yes no cv = true) : IsEx K W (exT yes no) cv := by
  unfold isexB at h
  simp only [Bool.and_eq_true, List.all_eq_true, decide_eq_true_eq] at h
  intro c b e
  unfold exT at e
  split at e
  · rename_i hc
    cases e
    obtain ⟨x, y⟩ := h.1 c (by simpa using hc)
    exact ⟨excB_ok x, y⟩
  · split at e
    · rename_i hc
      cases e
      obtain ⟨x, y⟩ := h.2 c (by simpa using hc)
      exact ⟨excB_ok x, y⟩
    · cases e
/-- an own exception class without __init__ -/
structure XIn (K : PySem.W.Frag) (C : Addr) : Prop where
  ex : PySem.W.excIn K C HandSPX.veTail "ValueError.__new__" = true
  kp : PySem.W.keepIn K (.ref C) = true
  sub : PySem.W.subIn K (.ref C) (.type "BaseException") = some true
  ty : PySem.W.typeIn K (.ref C) = some (.type "type")
def xinB (K : PySem.W.Frag) (C : Addr) : Bool := PySem.W.excIn K C HandSPX.veTail "ValueError.__new__" && (PySem.W.keepIn K (.ref C) && (decide (PySem.W.subIn K (.ref C) (.type "BaseException") = some true) && decide (PySem.W.typeIn K (.ref C) = some (.type "type"))))
theorem xinB_ok {K : PySem.W.Frag} {C : Addr} (h : xinB K C = true) : XIn K C := by
  unfold xinB at h
  simp only [Bool.and_eq_true, decide_eq_true_eq] at h
  exact ⟨h.1, h.2.1, h.2.2.1, h.2.2.2⟩
theorem XIn.pmk {X : Cx} {C : Addr} (h : XIn X.K C) {x m : Str} {j : Nat} {p p2 pos : Pos} (gC : X.mg x = some (.ref C)) (hg : Gl X x := by rfl) (hdb : (x == ("__debug__" : Str)) = false := by decide) : PMk X (.Call (.Name x p) [.Constant (.str m) j p2] [] pos) (fun _ H Q => Q (.ref C) none H) :=
  pmk_own PySem.F.excBase_ValueError h.ex gC h.kp (raises_own h.sub h.ty) hg hdb
def aJoin (ts : List TEa) : TEa := fun rho eta Q EX => aJs ts Str.empty rho eta (fun out eta1 => Q (.str out) eta1) EX
def aAsg (t : TEa) (g : TGa) : TSa := fun Dn rho eta EX => t rho eta (fun d eta1 => g d rho eta1 Dn.nx) EX
/-! ### Ratio's facts -/
def adrOf : Option (Option Value) → Addr
  | some (some (.ref a)) => a
  | _ => 0
theorem adrOf_eq {o : Option (Option Value)} {a : Addr} (h : o = some (some (.ref a))) : adrOf o = a := by rw [h]; rfl
def isRef : Option (Option Value) → Bool
  | some (some (.ref _)) => true
  | _ => false
theorem isRef_eq {o : Option (Option Value)} (h : isRef o = true) : o = some (some (.ref (adrOf o))) := by
  unfold isRef at h
  split at h
  · rfl
  · cases h
def sclsB (K : PySem.W.Frag) (C : Addr) : Bool := PySem.W.plainGet K C Str.empty && (PySem.W.isClsIn K C && (PySem.W.plainOver K C && decide (PySem.W.findIn K (.ref C) "__setattr__" = some (some (.builtin "object.__setattr__")))))
theorem sclsB_ok {K : PySem.W.Frag} {C : Addr} (h : sclsB K C = true) : SlX.SCls K C := by
  unfold sclsB at h
  simp only [Bool.and_eq_true, decide_eq_true_eq] at h
  exact ⟨h.1, h.2.1, h.2.2.1, h.2.2.2⟩
def slot1B (K : PySem.W.Frag) (C : Addr) (f : Str) (i : Nat) : Bool := let o := PySem.W.findIn K (.ref C) f
  isRef o && (decide (PySem.W.specialIn K (.ref (adrOf o)) "__get__" = some (some (.builtin "member_descriptor.__get__"))) && (decide (PySem.W.takesIn K (.ref (adrOf o)) = some true) && (decide (PySem.W.typeIn K (.ref (adrOf o)) = some (.type "member_descriptor")) && (decide (PySem.W.slotIn K (adrOf o) C = some i) && decide (i < 1000)))))
theorem slot1B_ok {K : PySem.W.Frag} {C : Addr} {f : Str} {i : Nat} (h : slot1B K C f i = true) : SlX.Slot1 K C f (adrOf (PySem.W.findIn K (.ref C) f)) i := by
  unfold slot1B at h
  simp only [Bool.and_eq_true, decide_eq_true_eq] at h
  exact ⟨isRef_eq h.1, h.2.1, h.2.2.1, h.2.2.2.1, h.2.2.2.2.1, h.2.2.2.2.2⟩
def sisiB (K : PySem.W.Frag) (C : Addr) : Bool := decide (PySem.W.findIn K (.ref C) "__class__" = some (some (.builtin "object.__class__"))) && (decide (PySem.W.specialIn K (.builtin "object.__class__") "__get__" = some (some (.builtin "getset_descriptor.__get__"))) && (decide (PySem.W.takesIn K (.builtin "object.__class__") = some true) && decide (PySem.W.mroIn K C (.type "object") = some true)))
theorem sisiB_ok {K : PySem.W.Frag} {C : Addr} (h : sisiB K C = true) : SlX.SIsi K C := by
  unfold sisiB at h
  simp only [Bool.and_eq_true, decide_eq_true_eq] at h
  exact ⟨h.1, h.2.1, h.2.2.1, h.2.2.2⟩
def mkB (K : PySem.W.Frag) (C : Addr) : Bool := PySem.W.makesIn K C && (isRef (PySem.W.findIn K (.ref C) "__init__") && (PySem.W.isFn K (.ref (adrOf (PySem.W.findIn K (.ref C) "__init__"))) && PySem.W.keepIn K (.ref C)))
theorem mkB_ok {K : PySem.W.Frag} {C : Addr} (h : mkB K C = true) : Mk K C (adrOf (PySem.W.findIn K (.ref C) "__init__")) := by
  unfold mkB at h
  simp only [Bool.and_eq_true] at h
  exact ⟨h.1, isRef_eq h.2.1, h.2.2.1, h.2.2.2⟩
def ratB (K : PySem.W.Frag) (C : Addr) : Bool := sclsB K C && (slot1B K C "top" 1 && (slot1B K C "bottom" 0 && (sisiB K C && mkB K C)))
theorem ratB_ok {K : PySem.W.Frag} {C : Addr} (h : ratB K C = true) : RatC K C (adrOf (PySem.W.findIn K (.ref C) "top")) (adrOf (PySem.W.findIn K (.ref C) "bottom")) (adrOf (PySem.W.findIn K (.ref C) "__init__")) := by
  unfold ratB at h
  simp only [Bool.and_eq_true] at h
  exact ⟨sclsB_ok h.1, slot1B_ok h.2.1, slot1B_ok h.2.2.1, sisiB_ok h.2.2.2.1, mkB_ok h.2.2.2.2⟩
end RF
namespace RF
open PySem PySem.Spec PyProof.Rows L2
section
variable {P : Program} {w : World} {K : PySem.W.Frag} {mg : Str → Option Value} {base : Heap} {W : Wd}
theorem nocalm {X : Cx} : X.calm = X.calm := rfl
theorem fnR_of {k : Nat} {f : Addr} {fd : FuncData} {ps : List Str} {S : SpA} (F : FnOk P w K mg base (L2.CX P w) k f fd ps (spOf W S)) (b : Binds K fd ps []) : FnR P w K mg base (L2.CX P w) k f (spOf W S) :=
  (F.raw b .nil).imp fun vs H Q E h => by simpa using h
theorem has_of {nm : Str} {k : Nat} {f : Addr} {fd : FuncData} {ps : List Str} {S : SpA} (F : FnOk P w K mg base (L2.CX P w) k f fd ps (spOf W S)) (b : Binds K fd ps []) (gm : mg nm = some (.ref f)) (kp : PySem.W.keepIn K (.ref f) = true) : Has P w K mg base W nm k S := ⟨f, gm, kp, fnR_of F b⟩
/-- what a def's promise must show of its body's reading -/
def Keeps (n N : Nat) (S : SpA) (t : TSa) : Prop := ∀ ds eta Qa EXa, S ds eta Qa EXa → ds.length = n ∧ t { nx := fun _ eta' => exitQ eta.length Qa .non eta', rt := exitQ eta.length Qa } (startA N ds) eta (exitX eta.length EXa)
theorem ok_by {k : Nat} {x qual : Str} {params : Arguments} {body : List Stmt} {scope : Scope} {dvs : List V} {kws : List (Str × V)} {f : Addr} {fd : FuncData} {N ps : List Str} {S : SpA} {t : TSa} (F : FunD K x qual params body scope dvs kws f fd) (Sc : FnScope N ps scope)
    (hS : Keeps ps.length N.length S t) (hb : ∀ (cdv : Value) (A : Around) (outer : List Env) (s : Shared) (H : Hp) (E : XK) (hr : Room k (A.deeper (envOfC qual scope s.heap.objs.size f cdv))) (hu : (A.deeper (envOfC qual scope s.heap.objs.size f cdv)).units + 64 < cLine)
      (tk : Takes (cxOf (L2.CX P w) P w K mg base N qual scope f cdv A outer s H E) (fun cls d _ H => E cls d H)) (po : PassesOwn (model P w) (A.deeper (envOfC qual scope s.heap.objs.size f cdv)) (cxOf (L2.CX P w) P w K mg base N qual scope f cdv A outer s H E).env (cxOf (L2.CX P w) P w K mg base N qual scope f cdv A outer s H E).xe),
      SsA (cxOf (L2.CX P w) P w K mg base N qual scope f cdv A outer s H E) W (fun cls d _ H => E cls d H) body t) :
    FnOk P w K mg base (L2.CX P w) (k + 1) f fd ps (spOf W S) :=
  fn_abs F Sc (fun ds eta Qa EXa h => (hS ds eta Qa EXa h).1) fun cdv A outer s H E hr => ⟨t, hb cdv A outer s H E hr (by have := hr.un; omega) (takes_of rfl rfl rfl rfl) (passes_of rfl), fun ds eta Qa EXa h => (hS ds eta Qa EXa h).2⟩
/-- the promise of Ratio.__init__ with its default -/
def spRI2 (C ZB : Addr) : Sp := fun vs H Q E => spRI C ZB vs H Q E ∨ spRI C ZB (vs ++ [.int 1]) H Q E
theorem rinit_of {k : Nat} {f C ZB : Addr} {fd : FuncData} {ps : List Str} {ds : List Value} (F : FnOk P w K mg base (L2.CX P w) k f fd ps (spRI C ZB)) (b : Binds K fd ps []) (b1 : Binds K fd ps ds) (hd : Vals [V.int 1] ds) : FnR P w K mg base (L2.CX P w) k f (spRI2 C ZB) := by
  intro A outer s H us vs Q E hr e0 r hs
  rcases hs with hs | hs
  · exact (F.raw b .nil) A outer s H us vs Q E hr e0 r (by simpa using hs)
  · exact (F.raw b1 hd) A outer s H us vs Q E hr e0 r hs
end
end RF
set_option maxRecDepth 100000
set_option maxHeartbeats 4000000
namespace RF
open PySem PySem.Spec PyProof.Rows L2
/-! ### readings, step by step -/
section
variable {Dn : EndsA} {rho : Rho} {eta : List MO} {EX : EXA} {Q : QA} {QL : List D → List MO → Prop} {QB : Bool → List MO → Prop} {t u : TSa} {ta tb : TEa} {tt uu : TTa} {tl : TAa} {d e : D}
theorem i_seq (h : t { Dn with nx := fun r e => u Dn r e EX } rho eta EX) : aSeq t u Dn rho eta EX := h
theorem i_next (h : Dn.nx rho eta) : aNext Dn rho eta EX := h
theorem i_brk (h : Dn.bk rho eta) : aBrk Dn rho eta EX := h
theorem i_cnt (h : Dn.ct rho eta) : aCnt Dn rho eta EX := h
theorem i_drop (h : ta rho eta (fun _ eta1 => Dn.nx rho eta1) EX) : aDrop ta Dn rho eta EX := h
theorem i_ret (h : ta rho eta Dn.rt EX) : aRet ta Dn rho eta EX := h
theorem i_retN (h : Dn.rt .non eta) : aRetN Dn rho eta EX := h
theorem i_if (h : tt rho eta (fun b eta1 => if b = true then t Dn rho eta1 EX else u Dn rho eta1 EX) EX) : aIfS tt t u Dn rho eta EX := h
theorem i_set {i : Nat} (h : ta rho eta (fun d eta1 => Dn.nx (rho.set i (some d)) eta1) EX) : aSet i ta Dn rho eta EX := h
def parQ (i j : Nat) (Dn : EndsA) (rho : Rho) : List D → List MO → Prop := fun ds eta1 => match ds with
  | [d, e] => Dn.nx ((rho.set i (some d)).set j (some e)) eta1
  | _ => False
theorem i_par {i j : Nat} (h : tl rho eta (parQ i j Dn rho) EX) : aPar i j tl Dn rho eta EX := h
theorem i_parQ {i j : Nat} (h : Dn.nx ((rho.set i (some d)).set j (some e)) eta) : parQ i j Dn rho [d, e] eta := h
theorem i_asg {g : TGa} (h : ta rho eta (fun d eta1 => g d rho eta1 Dn.nx) EX) : aAsg ta g Dn rho eta EX := h
theorem i_gn {i : Nat} {R : Rho → List MO → Prop} (h : R (rho.set i (some d)) eta) : aGN i d rho eta R := h
theorem i_gt {n : Nat} {r : TGsa} {ds : List D} {R : Rho → List MO → Prop} (hn : ds.length = n) (h : r ds rho eta R) : aGT n r (.tup ds) rho eta R := ⟨hn, h⟩
theorem i_gsn {R : Rho → List MO → Prop} (h : R rho eta) : aGsN [] rho eta R := h
theorem i_gsc {g : TGa} {r : TGsa} {ds : List D} {R : Rho → List MO → Prop} (h : g d rho eta fun rho1 eta1 => r ds rho1 eta1 R) : aGsC g r (d :: ds) rho eta R := h
theorem i_sub {r : R3a} {to ti tv : TEa} (h : tv rho eta (fun f eta1 => to rho eta1 (fun d eta2 => ti rho eta2 (fun e eta3 => r d e f rho eta3 (fun eta4 => Dn.nx rho eta4) EX) EX) EX) EX) : sSub r to ti tv Dn rho eta EX := h
theorem i_raise {c : Nat} (h : EX ⟨c, []⟩ rho eta) : sRaise c Dn rho eta EX := h
theorem i_tryas {W : Wd} {m : Nat → Option Bool} {i : Nat} {v : TUa} (h : t Dn rho eta (exAs W m i v Dn EX)) : aTryAs W m i t v Dn rho eta EX := h
theorem i_tryonly {W : Wd} {m : Nat → Option Bool} {v : TUa} (h : t Dn rho eta (exOnly W m v Dn EX)) : aTryOnly W m t v Dn rho eta EX := h
theorem i_exas {W : Wd} {m : Nat → Option Bool} {i : Nat} {v : TUa} {ex : Ex} (hm : m ex.c = some true) (h : ∀ a d, dOk ex.vs d = true → v a (.ref (W.cl ex.c)) d (endsN i Dn) (rho.set i (some (.exn a d ex.c ex.vs))) eta (fun _ _ _ => False)) : exAs W m i v Dn EX ex rho eta := by
  unfold exAs; rw [hm]; exact h
theorem i_exasN {W : Wd} {m : Nat → Option Bool} {i : Nat} {v : TUa} {ex : Ex} (hm : m ex.c = some false) (h : EX ex rho eta) : exAs W m i v Dn EX ex rho eta := by
  unfold exAs; rw [hm]; exact h
theorem i_exonly {W : Wd} {m : Nat → Option Bool} {v : TUa} {ex : Ex} (hm : m ex.c = some true) (h : ∀ a d, dOk ex.vs d = true → v a (.ref (W.cl ex.c)) d Dn rho eta (fun _ _ _ => False)) : exOnly W m v Dn EX ex rho eta := by
  unfold exOnly; rw [hm]; exact h
theorem i_exonlyN {W : Wd} {m : Nat → Option Bool} {v : TUa} {ex : Ex} (hm : m ex.c = some false) (h : EX ex rho eta) : exOnly W m v Dn EX ex rho eta := by
  unfold exOnly; rw [hm]; exact h
/-! tests -/
def tstQ (QB : Bool → List MO → Prop) : QA := fun d eta1 => match d with
  | .bl b => QB b eta1
  | _ => False
theorem i_tst (h : ta rho eta (tstQ QB) EX) : aTst ta rho eta QB EX := h
theorem i_tstQ {b : Bool} (h : QB b eta) : tstQ QB (.bl b) eta := h
theorem i_and (h : tt rho eta (fun c eta1 => if c = true then uu rho eta1 QB EX else QB false eta1) EX) : aAnd tt uu rho eta QB EX := h
theorem i_or (h : tt rho eta (fun c eta1 => if c = true then QB true eta1 else uu rho eta1 QB EX) EX) : aOr tt uu rho eta QB EX := h
theorem i_not (h : tt rho eta (fun c eta1 => QB (!c) eta1) EX) : aNot tt rho eta QB EX := h
theorem i_yes (h : QB true eta) : aYes rho eta QB EX := h
theorem i_tt {A B : Prop} (h : A) : if true = true then A else B := h
theorem i_ff {A B : Prop} (h : B) : if false = true then A else B := h
theorem i_ite {b : Bool} {A B : Prop} (h1 : b = true → A) (h2 : b = false → B) : if b = true then A else B := by
  cases b with
  | true => exact h1 rfl
  | false => exact h2 rfl
/-! expressions -/
theorem i_var {i : Nat} (hr : rho[i]? = some (some d)) (h : Q d eta) : aVar i rho eta Q EX := by
  unfold aVar; rw [hr]; exact h
theorem i_c (h : Q d eta) : aC d rho eta Q EX := h
theorem i_op {r : R2a} (h : ta rho eta (fun d eta1 => tb rho eta1 (fun e eta2 => r d e rho eta2 Q EX) EX) EX) : aOp r ta tb rho eta Q EX := h
theorem i_un {r : R1a} (h : ta rho eta (fun d eta1 => r d rho eta1 Q EX) EX) : aUn r ta rho eta Q EX := h
def andQ (tb : TEa) (rho : Rho) (Q : QA) (EX : EXA) : QA := fun d eta1 => match d with
  | .bl c => if c = true then tb rho eta1 Q EX else Q (.bl false) eta1
  | _ => False
def orQ (tb : TEa) (rho : Rho) (Q : QA) (EX : EXA) : QA := fun d eta1 => match d with
  | .bl c => if c = true then Q (.bl true) eta1 else tb rho eta1 Q EX
  | _ => False
def notQ (Q : QA) : QA := fun d eta1 => match d with
  | .bl c => Q (.bl (!c)) eta1
  | _ => False
theorem i_andV (h : ta rho eta (andQ tb rho Q EX) EX) : aAndV ta tb rho eta Q EX := h
theorem i_orV (h : ta rho eta (orQ tb rho Q EX) EX) : aOrV ta tb rho eta Q EX := h
theorem i_notV (h : ta rho eta (notQ Q) EX) : aNotV ta rho eta Q EX := h
theorem i_andQ {c : Bool} (h : if c = true then tb rho eta Q EX else Q (.bl false) eta) : andQ tb rho Q EX (.bl c) eta := h
theorem i_orQ {c : Bool} (h : if c = true then Q (.bl true) eta else tb rho eta Q EX) : orQ tb rho Q EX (.bl c) eta := h
theorem i_notQ {c : Bool} (h : Q (.bl (!c)) eta) : notQ Q (.bl c) eta := h
theorem i_ifE (h : tt rho eta (fun c eta1 => if c = true then ta rho eta1 Q EX else tb rho eta1 Q EX) EX) : aIf tt ta tb rho eta Q EX := h
theorem i_nil (h : QL [] eta) : aNil rho eta QL EX := h
theorem i_cons (h : ta rho eta (fun d eta1 => tl rho eta1 (fun ds eta2 => QL (d :: ds) eta2) EX) EX) : aCons ta tl rho eta QL EX := h
theorem i_tup (h : tl rho eta (fun ds eta1 => okL ds = true ∧ Q (.tup ds) eta1) EX) : aTup tl rho eta Q EX := h
theorem i_fl (h : tl rho eta (fun ds eta1 => okL ds = true ∧ Q (.fl ds) eta1) EX) : aFl tl rho eta Q EX := h
theorem i_lst (h : tl rho eta (fun ds eta1 => okL ds = true ∧ Q (.ref eta1.length) (eta1 ++ [.lst ds])) EX) : aLst tl rho eta Q EX := h
theorem i_ok {ds : List D} {A : Prop} (h : okL ds = true) (a : A) : okL ds = true ∧ A := ⟨h, a⟩
theorem i_call {r : RNa} (h : tl rho eta (fun ds eta1 => r ds rho eta1 Q EX) EX) : aCall r tl rho eta Q EX := h
theorem i_fld {b : Bool} (h : ta rho eta (fldQ b Q) EX) : aFldR b ta rho eta Q EX := h
theorem i_fldT {q : Rat} (h : Q (.int q.num) eta) : fldQ false Q (.rat q) eta := h
theorem i_fldB {q : Rat} (h : Q (.int q.den) eta) : fldQ true Q (.rat q) eta := h
theorem i_fmt (h : ta rho eta (fmtQ Q) EX) : aFmt ta rho eta Q EX := h
theorem i_fmtI {i : Int} (hl : i.natAbs.log2 < 1920) (h : Q (.str (toString i)) eta) : fmtQ Q (.int i) eta := ⟨hl, h⟩
theorem i_fmtS {y : Str} (hl : y.length ≤ sizeLine) (h : Q (.str y) eta) : fmtQ Q (.str y) eta := ⟨hl, h⟩
theorem i_join {ts : List TEa} (h : aJs ts Str.empty rho eta (fun out eta1 => Q (.str out) eta1) EX) : aJoin ts rho eta Q EX := h
def jsQ (ts : List TEa) (acc : Str) (rho : Rho) (QS : Str → List MO → Prop) (EX : EXA) : QA := fun d eta1 => match d with
  | .str y => (acc ++ y).length ≤ sizeLine ∧ aJs ts (acc ++ y) rho eta1 QS EX
  | _ => False
theorem i_jsN {acc : Str} {QS : Str → List MO → Prop} (h : QS acc eta) : aJs [] acc rho eta QS EX := h
theorem i_jsC {ts : List TEa} {acc : Str} {QS : Str → List MO → Prop} (h : ta rho eta (jsQ ts acc rho QS EX) EX) : aJs (ta :: ts) acc rho eta QS EX := h
theorem i_jsQ {ts : List TEa} {acc y : Str} {QS : Str → List MO → Prop} (hl : (acc ++ y).length ≤ sizeLine) (h : aJs ts (acc ++ y) rho eta QS EX) : jsQ ts acc rho QS EX (.str y) eta := ⟨hl, h⟩
theorem i_lc {ti : TIa} {ga : TGa} {te : TEa} {vs : List Nat} (h : ti rho eta (fun ds eta1 => ds.length ≤ 100000 ∧ aLcG ga tt te (wipA rho vs) (fun acc eta2 => Q (.fl acc) eta2) ds [] eta1) EX) : aLc ti ga tt te vs rho eta Q EX := h
def rngQ (R : List D → List MO → Prop) : List D → List MO → Prop := fun ds eta1 => match ds with
  | [.int j] => (-(2 ^ 62) ≤ j ∧ j < 2 ^ 62) ∧ R (rngL 0 j.toNat) eta1
  | _ => False
theorem i_rng1 {R : List D → List MO → Prop} (h : tl rho eta (rngQ R) EX) : aRng1 tl rho eta R EX := h
theorem i_rngQ {R : List D → List MO → Prop} {j : Int} (h0 : -(2 ^ 62) ≤ j ∧ j < 2 ^ 62) (h : R (rngL 0 j.toNat) eta) : rngQ R [.int j] eta := ⟨h0, h⟩
def rngQ2 (R : List D → List MO → Prop) : List D → List MO → Prop := fun ds eta1 => match ds with
  | [.int i, .int j] => (-(2 ^ 62) ≤ i ∧ i < 2 ^ 62 ∧ -(2 ^ 62) ≤ j ∧ j < 2 ^ 62) ∧ R (rngL i (j - i).toNat) eta1
  | _ => False
theorem i_rng2 {R : List D → List MO → Prop} (h : tl rho eta (rngQ2 R) EX) : aRng2 tl rho eta R EX := h
theorem i_rngQ2 {R : List D → List MO → Prop} {i j : Int} (h0 : -(2 ^ 62) ≤ i ∧ i < 2 ^ 62 ∧ -(2 ^ 62) ≤ j ∧ j < 2 ^ 62) (h : R (rngL i (j - i).toNat) eta) : rngQ2 R [.int i, .int j] eta := ⟨h0, h⟩
theorem i_it {R : List D → List MO → Prop} (h : ta rho eta (itemsQ R) EX) : aIt ta rho eta R EX := h
theorem i_items {R : List D → List MO → Prop} {ds : List D} (h : R ds eta) : itemsQ R (.fl ds) eta := h
theorem i_for {ti : TIa} {g : TGa} {tb : TSa} (h : ti rho eta (fun ds eta1 => aLoop g tb Dn EX ds rho eta1) EX) : aFor ti g tb Dn rho eta EX := h
/-! operators -/
theorem i_add {i j : Int} (h : Q (.int (i + j)) eta) : raAdd0 (.int i) (.int j) rho eta Q EX := h
theorem i_addS {x y : Str} (hl : x.length + y.length ≤ sizeLine) (h : Q (.str (x ++ y)) eta) : raAdd0 (.str x) (.str y) rho eta Q EX := ⟨hl, h⟩
theorem i_subI {i j : Int} (h : Q (.int (i - j)) eta) : raSub0 (.int i) (.int j) rho eta Q EX := h
theorem i_mul {i j : Int} (hm : IntMulOk i j) (h : Q (.int (i * j)) eta) : raMul0 (.int i) (.int j) rho eta Q EX := ⟨hm, h⟩
theorem i_div {i j : Int} (hm : CFd i j) (h : Q (.int (i.fdiv j)) eta) : raDiv0 (.int i) (.int j) rho eta Q EX := ⟨hm, h⟩
theorem i_mod {i j : Int} (hm : j ≠ 0) (h : Q (.int (i.fmod j)) eta) : raMod0 (.int i) (.int j) rho eta Q EX := ⟨hm, h⟩
theorem i_pow {i j : Int} (hm : CPow i j) (h : Q (.int (i ^ j.toNat)) eta) : raPow0 (.int i) (.int j) rho eta Q EX := ⟨hm, h⟩
theorem i_cmp {f : Int → Int → Bool} {i j : Int} (h : Q (.bl (f i j)) eta) : raC0 f (.int i) (.int j) rho eta Q EX := h
theorem i_eq (h1 : D.pl 60 (rsl eta d) = true) (h2 : D.pl 60 (rsl eta e) = true) (h : Q (.bl (D.eqd (rsl eta d) (rsl eta e))) eta) : raEq d e rho eta Q EX := ⟨h1, h2, h⟩
theorem i_eqI {i j : Int} (h : Q (.bl (decide (i = j))) eta) : raEq (.int i) (.int j) rho eta Q EX := ⟨rfl, rfl, by
  have e : D.eqd (.int i) (.int j) = decide (i = j) := by
    show (i == j) = _
    rw [Bool.eq_iff_iff]; simp
  show Q (.bl (D.eqd (.int i) (.int j))) eta
  rw [e]; exact h⟩
theorem i_neI {i j : Int} (h : Q (.bl (decide (i ≠ j))) eta) : raNe (.int i) (.int j) rho eta Q EX := ⟨rfl, rfl, by
  have e : (!D.eqd (.int i) (.int j)) = decide (i ≠ j) := by
    show (!(i == j)) = _
    rw [Bool.eq_iff_iff]; simp
  show Q (.bl (!D.eqd (.int i) (.int j))) eta
  rw [e]; exact h⟩
theorem i_ne (h1 : D.pl 60 (rsl eta d) = true) (h2 : D.pl 60 (rsl eta e) = true) (h : Q (.bl (!D.eqd (rsl eta d) (rsl eta e))) eta) : raNe d e rho eta Q EX := ⟨h1, h2, h⟩
theorem i_is {b : Bool} (h : Q (.bl (if b then !d.isN else d.isN)) eta) : raIs b d .non rho eta Q EX := h
theorem i_neg {i : Int} (h : Q (.int (-i)) eta) : raNeg (.int i) rho eta Q EX := h
theorem i_ixF {ds : List D} {i : Int} {x : D} (hx : L2.atI ds i = some x) (h : Q x eta) : raIxS (.fl ds) (.int i) rho eta Q EX := by
  unfold raIxS; simp only [hx]; exact h
theorem i_ixT {ds : List D} {i : Int} {x : D} (hx : L2.atI ds i = some x) (h : Q x eta) : raIxS (.tup ds) (.int i) rho eta Q EX := by
  unfold raIxS; simp only [hx]; exact h
theorem i_ixR {n : Nat} {ds : List D} {i : Int} {x : D} (hn : eta[n]? = some (.lst ds)) (hx : L2.atI ds i = some x) (h : Q x eta) : raIxS (.ref n) (.int i) rho eta Q EX := by
  unfold raIxS; simp only [hn, hx]; exact h
theorem i_setL {n j : Nat} {ds : List D} {i : Int} {f : D} {R : List MO → Prop} (hf : f.im = true) (hn : eta[n]? = some (.lst ds)) (hx : ixN ds.length i = some j) (h : R (eta.set n (.lst (ds.set j f)))) : raSetL (.ref n) (.int i) f rho eta R EX := by
  refine ⟨hf, ?_⟩
  dsimp only
  simp only [hn, hx]; exact h
/-! built-ins -/
theorem i_abs {i : Int} (h : Q (.int (if i < 0 then -i else i)) eta) : raAbs [.int i] rho eta Q EX := h
theorem i_intI {i : Int} (h : Q (.int i) eta) : raInt [.int i] rho eta Q EX := h
theorem i_intB {b : Bool} (h : Q (.int (if b then 1 else 0)) eta) : raInt [.bl b] rho eta Q EX := h
theorem i_boolI {i : Int} (h : Q (.bl (i != 0)) eta) : raBool [.int i] rho eta Q EX := h
theorem i_boolB {b : Bool} (h : Q (.bl b) eta) : raBool [.bl b] rho eta Q EX := h
theorem i_lenF {ds : List D} (h : Q (.int ds.length) eta) : raLen [.fl ds] rho eta Q EX := h
theorem i_lenT {ds : List D} (h : Q (.int ds.length) eta) : raLen [.tup ds] rho eta Q EX := h
theorem i_lenR {n : Nat} {ds : List D} (hn : eta[n]? = some (.lst ds)) (h : Q (.int ds.length) eta) : raLen [.ref n] rho eta Q EX := by
  unfold raLen D.len; simp only [hn]; exact h
theorem i_sum {xs : List D} {ns : List Int} (hx : intsD xs = some ns) (h : Q (.int ns.sum) eta) : raSum [.fl xs] rho eta Q EX := by
  unfold raSum; simp only [hx]; exact h
theorem i_listF {xs : List D} (h : Q (.fl xs) eta) : raListF [.fl xs] rho eta Q EX := h
theorem i_listFR {n : Nat} {xs : List D} (hn : eta[n]? = some (.lst xs)) (h : Q (.fl xs) eta) : raListF [.ref n] rho eta Q EX := by
  unfold raListF seqD; simp only [hn]; exact h
theorem i_gcd {i j : Int} (h : Q (.int ((Nat.gcd i.natAbs j.natAbs : Nat) : Int)) eta) : raGcd [.int i, .int j] rho eta Q EX := h
theorem i_strI {S : SpA} {i : Int} (hl : i.natAbs.log2 < 1920) (h : Q (.str (toString i)) eta) : raStr S [.int i] rho eta Q EX := ⟨hl, h⟩
theorem i_strI0 {i : Int} (hl : i.natAbs.log2 < 1920) (h : Q (.str (toString i)) eta) : raStrI [.int i] rho eta Q EX := ⟨hl, h⟩
theorem i_isi {c : D} {f : D → Option Bool} {b : Bool} (hf : f d = some b) (h : Q (.bl b) eta) : raIsi c f [d, c] rho eta Q EX := by
  refine ⟨rfl, ?_⟩
  rw [hf]; exact h
theorem i_isE {W : Wd} {a : Addr} {cls : Value} {dx : Option Addr} {m : Nat → Option Bool} {c : D} {k : Nat} {vs : List D} {b : Bool} (hc : cls = .ref (W.cl k)) (hm : m k = some b) (h : Q (.bl b) eta) : raIsE W a cls dx m c [.exn a dx k vs, c] rho eta Q EX := by
  refine ⟨rfl, rfl, rfl, hc, ?_⟩
  rw [hm]; exact h
theorem i_rat1 {zb : Nat} {i : Int} (h : Q (.rat (i : Rat)) eta) : raRat zb [.int i] rho eta Q EX := h
theorem i_rat0 {zb : Nat} {i j : Int} (hj : j = 0) (h : EX ⟨zb, []⟩ rho eta) : raRat zb [.int i, .int j] rho eta Q EX := by
  unfold raRat; simp only [hj, if_true]; exact h
theorem i_rat {zb : Nat} {i j : Int} (hj : j ≠ 0) (hd : DivOk j) (h : Q (.rat (Rat.divInt i j)) eta) : raRat zb [.int i, .int j] rho eta Q EX := by
  unfold raRat; simp only [hj, if_false]; exact ⟨hd, h⟩
/-! calls of defs -/
theorem wbA_nil (sub : List MO) : ∀ (n : Nat) (eta : List MO), wbA [] sub n eta = eta ++ sub
  | n, [] => rfl
  | n, mo :: r => by
    show (match fnd [] n with | some i => (sub[i]?).getD .gone | none => mo) :: wbA [] sub (n + 1) r = _
    rw [wbA_nil sub (n + 1) r]; rfl
theorem refs_im {ds : List D} (h : ds.all D.im = true) : refsOf ds = [] := by
  induction ds with
  | nil => rfl
  | cons d ds ih =>
    simp only [List.all_cons, Bool.and_eq_true] at h
    have ih := ih h.2
    cases d <;> first | exact ih | exact absurd h.1 Bool.false_ne_true
theorem ren_im {rs : List Nat} {ds : List D} (h : ds.all D.im = true) : ds.map (renD rs) = ds := by
  induction ds with
  | nil => rfl
  | cons d ds ih =>
    simp only [List.all_cons, Bool.and_eq_true] at h
    rw [List.map_cons, ih h.2]
    cases d <;> first | rfl | exact absurd h.1 Bool.false_ne_true
theorem bkD_im {rs : List Nat} {k : Nat} (h : d.im = true) : bkD rs k d = d := by
  cases d <;> first | rfl | exact absurd h Bool.false_ne_true
/-- without objects among the arguments, none new -/
def cQ0 (Q : QA) (eta : List MO) : QA := fun d sub => sub = [] ∧ d.im = true ∧ Q d eta
def cX0 (EX : EXA) (rho : Rho) (eta : List MO) : Ex → List MO → Prop := fun ex sub => sub = [] ∧ EX ex rho eta
/-- monotone promises -/
def SpA.Mono (S : SpA) : Prop := ∀ ds eta (Q Q' : QA) (E E' : Ex → List MO → Prop), (∀ d e, Q d e → Q' d e) → (∀ x e, E x e → E' x e) → S ds eta Q E → S ds eta Q' E'
theorem i_fn0 {S : SpA} {ds : List D} (hm : S.Mono) (hi : ds.all D.im = true) (h : S ds [] (cQ0 Q eta) (cX0 EX rho eta)) : raCall S ds rho eta Q EX := by
  unfold raCall
  rw [refs_im hi]
  refine ⟨rfl, ?_⟩
  rw [ren_im hi]
  refine hm _ _ _ _ _ _ ?_ ?_ h
  · rintro d sub ⟨rfl, h1, h2⟩
    exact ⟨rfl, by rw [bkD_im h1, wbA_nil, List.append_nil]; exact h2⟩
  · rintro ex sub ⟨rfl, h⟩
    exact ⟨rfl, by rw [wbA_nil, List.append_nil]; exact h⟩
/-- .. one new object, that is the answer -/
def cQN (Q : QA) (eta : List MO) : QA := fun d sub => d = .ref 0 ∧ ∃ mo, sub = [mo] ∧ mo.cl = true ∧ Q (.ref eta.length) (eta ++ [mo])
theorem i_fnN {S : SpA} {ds : List D} (hm : S.Mono) (hi : ds.all D.im = true) (h : S ds [] (cQN Q eta) (cX0 EX rho eta)) : raCall S ds rho eta Q EX := by
  unfold raCall
  rw [refs_im hi]
  refine ⟨rfl, ?_⟩
  rw [ren_im hi]
  refine hm _ _ _ _ _ _ ?_ ?_ h
  · rintro d sub ⟨rfl, mo, rfl, h1, h2⟩
    refine ⟨by simp [clA, h1], ?_⟩
    rw [wbA_nil]
    exact h2
  · rintro ex sub ⟨rfl, h⟩
    exact ⟨rfl, by rw [wbA_nil, List.append_nil]; exact h⟩
/-- one object, first among the arguments -/
def cQ1 (n : Nat) (Q : QA) (eta : List MO) : QA := fun d sub => ∃ mo, sub = [mo] ∧ mo.cl = true ∧ d.im = true ∧ Q d (eta.set n mo)
def cX1 (n : Nat) (EX : EXA) (rho : Rho) (eta : List MO) : Ex → List MO → Prop := fun ex sub => ∃ mo, sub = [mo] ∧ mo.cl = true ∧ EX ex rho (eta.set n mo)
theorem wbA_one {r : Nat} {mo : MO} : ∀ (eta : List MO) (n : Nat), wbA [r] [mo] n eta = if n ≤ r then eta.set (r - n) mo else eta
  | [], n => by split <;> rfl
  | x :: eta, n => by
    show (match fnd [r] n with | some i => ([mo][i]?).getD .gone | none => x) :: wbA [r] [mo] (n + 1) eta = _
    rw [wbA_one eta (n + 1)]
    by_cases h : r = n
    · subst h
      simp [fnd]
      omega
    · have hf : fnd [r] n = none := by simp [fnd, h]
      rw [hf]
      by_cases h2 : n ≤ r
      · have h3 : n + 1 ≤ r := by omega
        rw [if_pos h2, if_pos h3, show r - n = (r - (n + 1)) + 1 by omega]
        rfl
      · rw [if_neg h2, if_neg (by omega)]
theorem refs_ref {n : Nat} {ds : List D} (hi : ds.all D.im = true) : refsOf (.ref n :: ds) = [n] := by
  show n :: refsOf ds = [n]
  rw [refs_im hi]
theorem i_fn1 {S : SpA} {n : Nat} {mo : MO} {ds : List D} (hm : S.Mono) (hi : ds.all D.im = true) (hn : eta[n]? = some mo) (hc : mo.cl = true) (h : S (.ref 0 :: ds) [mo] (cQ1 n Q eta) (cX1 n EX rho eta)) : raCall S (.ref n :: ds) rho eta Q EX := by
  unfold raCall
  rw [refs_ref hi]
  refine ⟨by simp [okC, ndB, hn, hc], ?_⟩
  have e1 : (D.ref n :: ds).map (renD [n]) = .ref 0 :: ds := by
    rw [List.map_cons, ren_im hi]
    simp [renD, fnd]
  rw [e1]
  simp only [List.map_cons, List.map_nil, hn, Option.getD_some]
  refine hm _ _ _ _ _ _ ?_ ?_ h
  · rintro d sub ⟨mo', rfl, h0, h1, h2⟩
    refine ⟨by simp [clA, h0], ?_⟩
    rw [bkD_im h1, wbA_one, if_pos (Nat.zero_le _)]
    exact h2
  · rintro ex sub ⟨mo', rfl, h0, h⟩
    refine ⟨by simp [clA, h0], ?_⟩
    rw [wbA_one, if_pos (Nat.zero_le _)]
    exact h
/-! str of a Ratio -/
def strQ (Q : QA) : QA := fun d eta1 => match d with
  | .str y => Q (.str y) eta1
  | _ => False
theorem i_strR {S : SpA} {q : Rat} (h : raCall S [.rat q] rho eta (strQ Q) EX) : raStr S [.rat q] rho eta Q EX := h
theorem i_strQ {y : Str} (h : Q (.str y) eta) : strQ Q (.str y) eta := h
/-! loops -/
theorem loop_i {g : TGa} {tb : TSa} (I : List D → Rho → List MO → Prop) {ds : List D} (start : I ds rho eta)
    (step : ∀ d ds rho eta, I (d :: ds) rho eta → ∀ K : Rho → List MO → Prop, (∀ r e, I ds r e → K r e) → g d rho eta fun r e => tb { nx := K, ct := K, bk := Dn.nx, rt := Dn.rt } r e EX)
    (done : ∀ r e, I [] r e → Dn.nx r e) : aLoop g tb Dn EX ds rho eta := by
  induction ds generalizing rho eta with
  | nil => exact done _ _ start
  | cons d ds ih => exact step d ds rho eta start _ fun r e h => ih h
theorem wh_i {c : TTa} {tb : TSa} (I : Nat → Rho → List MO → Prop) (n : Nat) (start : I n rho eta) (zero : ∀ r e, ¬ I 0 r e)
    (step : ∀ m r e, I (m + 1) r e → ∀ K : Rho → List MO → Prop, (∀ r e, I m r e → K r e) → c r e (fun b e1 => if b = true then tb { nx := K, ct := K, bk := Dn.nx, rt := Dn.rt } r e1 EX else Dn.nx r e1) EX) : aWh c tb Dn rho eta EX := by
  refine ⟨n, ?_⟩
  induction n generalizing rho eta with
  | zero => exact (zero _ _ start).elim
  | succ m ih => exact step m rho eta start _ fun r e h => ih h
theorem lcg_i {ga : TGa} {te : TEa} {Q : List D → List MO → Prop} (I : List D → List D → List MO → Prop) {ds acc : List D} (start : I ds acc eta)
    (step : ∀ d ds acc eta, I (d :: ds) acc eta → ∀ K : List D → List MO → Prop, (∀ a e, I ds a e → K a e) → ga d rho eta fun r1 e1 => tt r1 e1 (fun b e2 => if b = true then te r1 e2 (fun y e3 => y.im = true ∧ K (acc ++ [y]) e3) (fun _ _ _ => False) else K acc e2) (fun _ _ _ => False))
    (done : ∀ a e, I [] a e → Q a e) : aLcG ga tt te rho Q ds acc eta := by
  induction ds generalizing acc eta with
  | nil => exact done _ _ start
  | cons d ds ih => exact step d ds acc eta start _ fun a e h => ih h
end
end RF
namespace RF
theorem i_pos {b : Bool} {A B : Prop} (h : b = true) (a : A) : if b = true then A else B := by rw [if_pos h]; exact a
theorem i_negB {b : Bool} {A B : Prop} (h : b = false) (a : B) : if b = true then A else B := by rw [h]; exact a
theorem i_posD {p : Prop} [Decidable p] {A B : Prop} (h : p) (a : A) : if decide p = true then A else B := by rw [if_pos (by simpa using h)]; exact a
theorem i_negD {p : Prop} [Decidable p] {A B : Prop} (h : ¬ p) (a : B) : if decide p = true then A else B := by rw [if_neg (by simpa using h)]; exact a
theorem i_iteD {p : Prop} [Decidable p] {A B : Prop} (h1 : p → A) (h2 : ¬ p → B) : if decide p = true then A else B := by
  by_cases h : p
  · exact i_posD h (h1 h)
  · exact i_negD h (h2 h)
/-- if c: x = e -/
theorem i_ifset {b : Bool} {i : Nat} {ta : TEa} {Dn : EndsA} {rho : Rho} {eta : List MO} {EX : EXA} {y : D} (P : D → Prop) (hy : rho[i]? = some (some y)) (h1 : b = true → ∃ x, P x ∧ ∀ R : QA, R x eta → ta rho eta R EX) (h2 : b = false → P y) (h : ∀ z, P z → Dn.nx (rho.set i (some z)) eta) :
    if b = true then aSet i ta Dn rho eta EX else aNext Dn rho eta EX := by
  cases b with
  | true =>
    obtain ⟨x, hx, k⟩ := h1 rfl
    exact k _ (h x hx)
  | false =>
    have e : rho.set i (some y) = rho := by
      obtain ⟨hi, q⟩ := List.getElem?_eq_some_iff.mp hy
      apply List.ext_getElem?
      intro j
      by_cases hj : i = j
      · subst hj; rw [List.getElem?_set_self hi, hy]
      · rw [List.getElem?_set_ne hj]
    have := h y (h2 rfl)
    rw [e] at this
    exact this
end RF
namespace RF
theorem i_nt {A B : Prop} (h : B) : if (!true) = true then A else B := h
theorem i_nf {A B : Prop} (h : A) : if (!false) = true then A else B := h
end RF
namespace RF
theorem i_ne_same {d : D} {rho : Rho} {eta : List MO} {Q : QA} {EX : EXA} (h1 : D.pl 60 (rsl eta d) = true) (he : D.eqd (rsl eta d) (rsl eta d) = true) (h : Q (.bl false) eta) : raNe d d rho eta Q EX := i_ne h1 h1 (by rw [he]; exact h)
theorem i_eq_same {d : D} {rho : Rho} {eta : List MO} {Q : QA} {EX : EXA} (h1 : D.pl 60 (rsl eta d) = true) (he : D.eqd (rsl eta d) (rsl eta d) = true) (h : Q (.bl true) eta) : raEq d d rho eta Q EX := i_eq h1 h1 (by rw [he]; exact h)
end RF
set_option maxRecDepth 100000
set_option maxHeartbeats 4000000
namespace RF
open PySem PySem.Spec PyProof.Rows L2
/-! ### sizes -/
theorem log2_lt_of {n k : Nat} (hk : 0 < k) (h : n < 2 ^ k) : n.log2 < k := by
  by_cases h0 : n = 0
  · subst h0; simpa using hk
  · exact (Nat.log2_lt h0).mpr h
theorem big_log {n : Nat} (h : n < 10000000000000000000000000000000000000000000000000000000000000000) : n.log2 < 1920 := by
  have : n.log2 < 214 := log2_lt_of (by decide) (Nat.lt_of_lt_of_le h (by decide))
  omega
theorem divOk_of {j : Int} (h : j.natAbs < 10000000000000000000000000000000000000000000000000000000000000000) : DivOk j := by
  have := big_log h
  unfold DivOk; omega
theorem cfd_of {i j : Int} (h : j ≠ 0) (hj : j.natAbs < 10000000000000000000000000000000000000000000000000000000000000000) : CFd i j :=
  ⟨h, PyProof.noPylong_of_log2 (by have := big_log hj; omega)⟩
theorem mul_l {i j : Int} (h1 : -18446744073709551616 < i) (h2 : i < 18446744073709551616) : IntMulOk i j := CMul.ok (.inl ⟨h1, h2⟩)
theorem mul_r {i j : Int} (h1 : -18446744073709551616 < j) (h2 : j < 18446744073709551616) : IntMulOk i j := CMul.ok (.inr ⟨h1, h2⟩)
/-! ### texts -/
theorem str_ok (s : String) : PyData.strOk (Str.ofString s) = true := by
  rw [Str.ofString_eq_toList]
  unfold PyData.strOk
  simp only [List.all_toArray, List.all_map, List.all_eq_true, Function.comp, decide_eq_true_eq]
  intro c _
  have h := c.valid
  show c.val.toNat < 1114112
  rcases h with h | ⟨_, h⟩
  · have : c.val.toNat < 55296 := h
    omega
  · exact h
theorem str_ok_app {a b : Str} (h1 : PyData.strOk a = true) (h2 : PyData.strOk b = true) : PyData.strOk (a ++ b) = true := by
  unfold PyData.strOk at h1 h2 ⊢
  show (a.cps ++ b.cps).all _ = true
  rw [Array.all_append, h1, h2]; rfl
theorem str_len_app (a b : Str) : (a ++ b).length = a.length + b.length := by
  show (a.cps ++ b.cps).size = _
  rw [Array.size_append]; rfl
theorem int_len {a : Int} (h : a.natAbs.log2 < 1920) : (Str.ofString (toString a)).length ≤ 1921 := by
  rw [PySem.ofString_length]
  exact int_text_length_le (by decide) h
theorem sizeLine_big : 1000000 ≤ sizeLine := by rw [sizeLine_eq]; decide
/-! ### calls without objects: the promise of a pure function -/
/-- S takes the data of C to F -/
def pureS (C : List D → Prop) (F : List D → D) : SpA := fun ds eta Q _ => C ds ∧ eta = [] ∧ Q (F ds) []
end RF
set_option maxRecDepth 100000
set_option maxHeartbeats 4000000
namespace RF
open PySem PySem.Spec PyProof.Rows L2
/-! ### the Hook: facts of the defs, a Bool of K; K holds no list -/
def isLstO (o : Obj) : Bool := match o.cls with
  | .type c => c == "list"
  | _ => false
def frL (g : Addr → Option Obj) (as : List Addr) : PySem.W.Frag := (He.frG g as).filter fun q => !isLstO q.2
def NoLst (K : PySem.W.Frag) : Prop := ∀ a o, K.lookup a = some o → o.cls ≠ .type "list"
theorem memG {g : Addr → Option Obj} {as : List Addr} {a : Addr} {o : Obj} (h : (a, o) ∈ He.frG g as) : g a = some o := by
  unfold He.frG at h
  obtain ⟨b, _, e⟩ := List.mem_filterMap.mp h
  cases hb : g b with
  | none => rw [hb] at e; cases e
  | some u =>
    rw [hb] at e
    have e2 : (b, u) = (a, o) := Option.some.inj e
    injection e2 with e3 e4
    rw [← e3, ← e4]
    exact hb
theorem memL {a : Addr} {o : Obj} : ∀ {l : List (Addr × Obj)}, l.lookup a = some o → (a, o) ∈ l
  | [], h => by cases h
  | (b, u) :: r, h => by
    have h2 : (match a == b with | true => some u | false => r.lookup a) = some o := h
    cases q : (a == b) with
    | true =>
      rw [q] at h2
      have e : u = o := Option.some.inj h2
      rw [beq_iff_eq.mp q, e]
      exact List.mem_cons_self
    | false =>
      rw [q] at h2
      exact List.mem_cons_of_mem _ (memL h2)
theorem frL_in {as : List Addr} {h : Heap} : (frL h.get? as).In h := fun a o e => memG (List.mem_filter.mp (memL e)).1
theorem frL_no {g : Addr → Option Obj} {as : List Addr} : NoLst (frL g as) := fun a o e z => by
  have h := (List.mem_filter.mp (memL e)).2
  have h2 : isLstO o = true := by unfold isLstO; rw [z]; rfl
  simp only [h2] at h
  cases h
abbrev AlF : Type := He.AlD × Bool
def obsF (n : Nat) (fn : List He.DefD) (ex : PySem.W.Frag → Bool) (g : Addr → Option Obj) : AlF := (He.obsD [] fn (frL g (He.asD g n)), ex (frL g (He.asD g n)))
def valF (fn : List He.DefD) : AlF := (He.valD fn, true)
structure SaysF (fn : List He.DefD) (ex : PySem.W.Frag → Bool) (K : PySem.W.Frag) : Prop where
  d : He.SaysD [] fn K
  ex : ex K = true
  no : NoLst K
def hookF (n : Nat) (fn : List He.DefD) (ex : PySem.W.Frag → Bool) : PySem.W.Hook where
  α := AlF
  obs := fun s => obsF n fn ex s.heap.get?
  val := fun _ => valF fn
  says := fun _ h => ∃ K : PySem.W.Frag, K.In h ∧ SaysF fn ex K
  of := fun _ _ e => ⟨_, frL_in, congrArg (fun z : AlF => z.1) e, congrArg (fun z : AlF => z.2) e, frL_no⟩
  keeps := fun _ _ _ ⟨K, hK, c⟩ k => ⟨K, PySem.W.Frag.In.keeps hK k, c⟩
theorem obsF_eq {n : Nat} {fn : List He.DefD} {ex : PySem.W.Frag → Bool} {g : Addr → Option Obj} {s : Shared} (h : ∀ a, g a = s.heap.get? a) : obsF n fn ex g = (hookF n fn ex).obs s := by
  have e : g = s.heap.get? := funext h
  rw [e] <;> rfl
/-! ### classes by number -/
def clsNames : List Str := ["Ratio", "FillError", "ZeroBottom", "ZeroDivisor", "InvalidFactor", "InvalidWork", "EmptyDemand", "DeskFull", "GoodError", "InvalidAmount", "Shortage", "FlatMeasure", "UnknownGood", "AgentError", "UnknownAgent", "RefusedDemand", "PromiseAtRisk", "Bundle", "Measure", "Filling", "PromiseDesk", "Desk", "Trial"]
def fldNames : Nat → List Str
  | 8 => ["good"] | 9 => ["good"] | 10 => ["good"] | 11 => ["good"] | 12 => ["good"]
  | 13 => ["good", "name"] | 14 => ["good", "name"] | 15 => ["good", "name"] | 16 => ["good", "name"]
  | 17 => ["amounts"] | 18 => ["kind", "linear", "parts"] | 19 => ["demands", "rows", "works", "levels", "barriers", "rest"]
  | 20 => ["amounts", "rule", "demands", "promises"] | 21 => ["amounts", "rule", "demands"] | 22 => ["desk", "name", "demand", "kept"]
  | _ => []
/-- the default of Bundle.__init__ -/
def empK (K : PySem.W.Frag) : Addr := He.dflAt ("Bundle", some "__init__") 0 K
def WK (K : PySem.W.Frag) : Wd := ⟨fun n => He.ga K (clsNames.getD n Str.empty), fldNames, empK K⟩
theorem ma_eq {K : PySem.W.Frag} {C : Addr} {m : Str} : He.ma K C m = adrOf (PySem.W.findIn K (.ref C) m) := by
  unfold He.ma adrOf
  split <;> simp_all
def gloB (K : PySem.W.Frag) (x : Str) (v : Value) : Bool := decide (PySem.W.nsIn K mainGlobals x = some (some v))
def freeB (K : PySem.W.Frag) (x : Str) : Bool := decide (PySem.W.nsIn K mainGlobals x = some none)
section
variable {K : PySem.W.Frag} {h : Heap} {mg : Str → Option Value}
theorem gloB_ok (X : K.In h) (G : h.Ns mainGlobals mg) {x : Str} {v : Value} (c : gloB K x v = true) : mg x = some v := PySem.W.mg_of X G (of_decide_eq_true c)
theorem freeB_ok (X : K.In h) (G : h.Ns mainGlobals mg) {x : Str} (c : freeB K x = true) : mg x = none := PySem.W.mg_none_of X G (of_decide_eq_true c)
end
/-! ### the law -/
theorem reps_ints {W : Wd} {H : Hp} : ∀ ns : List Int, Reps W H (ns.map .int) (ns.map V.int)
  | [] => rfl
  | n :: ns => ⟨_, _, rfl, rfl, reps_ints ns⟩
theorem law_sp {W : Wd} {K : PySem.W.Frag} {S : SpA} {ns : List Int} {H : Hp} {a : Addr} (no : NoLst K) (hS : S [.fl (ns.map .int)] [] (fun d _ => d = .bl true) fun _ _ => False) (hO : Only H) (hq : SqL K H a (ns.map V.int)) :
    spOf W S [.ref a] H (fun v _ => v = .bl true) fun _ _ _ => False := by
  have key : ∃ o, H a = some (.frz o (.lst (ns.map V.int))) := by
    rcases hq with (h | ⟨o, h⟩) | ⟨o, its, n, h1, h2, _⟩
    · rcases hO a with z | ⟨_, _, z⟩
      · rw [h] at z; cases z
      · rw [h] at z; cases z
    · exact ⟨o, h⟩
    · exact absurd h2 (no a o h1)
  obtain ⟨o, h⟩ := key
  refine ⟨[], [.fl (ns.map .int)], [], _, _, ⟨rfl, List.nodup_nil, fun n mo e => by simp at e⟩, ⟨_, _, rfl, ⟨a, o, _, rfl, h, reps_ints ns⟩, rfl⟩, hS, ?_, fun _ _ _ _ _ _ _ _ _ z => z⟩
  rintro th' H' v d eta' g S' R rfl
  exact R
theorem walk_F {l : PySem.W.OpenLaw} {n k : Nat} {q : Program} {loose : List Str} {XP : (Str → Option Value) → Heap → Prop} {YP : World → Heap → Prop} {d : DefRec} {x : Str} {S : SpA}
    (hn : l.most = some n) (hn2 : n ≤ sizeLine) (hdf : d.params.defaults = []) (hr : Room k callerA) (hS : ∀ ns : List Int, ns.length ≤ n → S [.fl (ns.map .int)] [] (fun d _ => d = .bl true) fun _ _ => False)
    (F : ∀ (w : World) (mg : Str → Option Value) (fa : Addr) (h : Heap), YP w h → h.Ns mainGlobals mg → mg d.name = some (.ref fa) →
      ∃ (K : PySem.W.Frag) (fd : FuncData) (W : Wd), K.In h ∧ NoLst K ∧ (∀ (s : Shared) (u : Value), BindsTo s fd ⟨[u], []⟩ [(x, u)]) ∧
        ∀ base : Heap, K.In base → base.Ns mainGlobals mg → FnOk l.prog w K mg base (L2.CX l.prog w) k fa fd [x] (spOf W S)) :
    PySem.W.WalkO q loose XP YP l.row.toRowW d [] (fun f vs => PySem.call f vs) := by
  refine Att.attach_call hn hdf fun w s₀ s₁ mg mb fa o pm cd doc a vs ns G Y ho hd hcd hmg hobj hints hlen hg => ?_
  obtain ⟨K, fd, W, KX, no, hb, hF⟩ := F w mg fa _ Y G.T.g hmg
  exact law_call KX G.T.g G.T.b G.T.builtins G.T.nolimit hg hobj hints (Nat.le_trans hlen hn2) hr hF hb (fun H hO hq => law_sp no (hS ns hlen) hO hq) fun H e s' h => by
    obtain ⟨_, _, _, _, _, _, _, _, _, _, _, _, z⟩ := h
    exact z
end RF
set_option maxRecDepth 100000
set_option maxHeartbeats 4000000
namespace RF
open PySem PySem.Spec PyProof.Rows L2
section
variable {prog : Program} {w : World} {A : Around} {E : Value → Shared → Prop} {s : Shared} {K : PySem.W.Frag} {x C f : Addr} {h₀ : Heap} {L : Addr} {m : Str → Option Value} {ox : Obj} {od : Option Obj}
def plainO (o : Obj) : Bool := match o.data with
  | .prim _ => false
  | _ => true
theorem asInt_ref {M : Model} {Q : Option Int → Shared → Prop} (h : s.heap.get? x = some ox) (hp : plainO ox = true) (q : Q none s) : wpAny M A (asInt? (.ref x)) Q E s := by
  unfold asInt?
  refine wpAny_bind (wpAny_load h ?_)
  unfold plainO at hp
  split
  · rename_i e; rw [e] at hp; cases hp
  · exact wpAny_pure q
theorem intBinary_ref {M : Model} {name : String} {g : Int → Int → Sem Fin} {r : Bool} {i : Int} {t : Tok} {Q : Fin → Shared → Prop} (h : s.heap.get? x = some ox) (hp : plainO ox = true) (q : Q (.done (.ret .notImplemented)) s) :
    wpAny M A (Builtin.Int.intBinary name g r ⟨[.int i t, .ref x], []⟩) Q E s := by
  unfold Builtin.Int.intBinary
  refine wpAny_bind (wpAny_of_eq (a := ((Value.int i t : Value), [Value.ref x])) (by first | rfl | (simp only [slotArgs]; rfl)) ?_)
  refine wpAny_bind (wpAny_of_eq (a := i) (by rfl) ?_)
  refine wpAny_bind (asInt_ref h hp ?_)
  exact wpAny_bind (wpAny_rule (wpAny_pure q))

/-- what an operator of the ints must have, so that an instance at its right is asked -/
structure IntOp (op : Operator) (idl : String) (B : Builtin) : Prop where
  fills : fillsNumberSlot (.type "int") op.info.2 = pure true
  slot : Slot "int" (dunder op.info.2) idl
  entry : entryFor table idl = some B
  args : ∀ a b : Value, argsOk idl ⟨[a, b], []⟩
  gives : ∀ {M : Model} {A : Around} {E : Value → Shared → Prop} {s : Shared} {x : Addr} {ox : Obj} {i : Int} {t : Tok} {Q : Fin → Shared → Prop}, s.heap.get? x = some ox → plainO ox = true → Q (.done (.ret .notImplemented)) s → wpAny M A (B ⟨[.int i t, .ref x], []⟩) Q E s
theorem bin1_IR {op : Operator} {idl : String} {B : Builtin} {f0 : Addr} {i : Int} {t : Tok} {Q : Value → Shared → Prop} (O : IntOp op idl B) (X : K.In s.heap) (I : PySem.W.InstAt s.heap x ox C od) (hp : plainO ox = true) (hc : PySem.W.selfFirst K C = true)
    (hs : PySem.W.findIn K (.ref C) (PySem.dunder op.info.2) = some (some (.ref f0))) (hr : PySem.W.findIn K (.ref C) (dunderR op.info.2) = some (some (.ref f))) (hf : PySem.W.isFn K (.ref f) = true) (hsub : PySem.W.subIn K (.ref C) (.type "int") = some false)
    (h : wpAny (model prog w) A (call (.ref f) [.ref x, .int i t]) (PySem.W.CmpBack Q) E s) : wpAny (model prog w) A (binaryOp1 op.info.2 (.int i t) (.ref x)) (fun r s' => ∃ v, r = some v ∧ Q v s') E s := by
  obtain ⟨cd, rest, hcd, hm⟩ := PySem.W.ksp_first hc
  obtain ⟨O1, O2, O3, O4, O5⟩ := O
  generalize op.info.2 = nm' at *
  have two := PySem.W.ksp_try (b := .int i t) X I hr hf h
  have one : ∀ {Q' : Option Value → Shared → Prop}, Q' none s → wpAny (model prog w) A (tryMethod (.int i t) (PySem.dunder nm') (.ref x)) Q' E s := fun {Q'} q =>
    wpAny_tryMethod_declines (typeIs_int _ _ _) O2 (wpAny_call_entry O2 (typeIs_int _ _ _) O3 (O5 I.at_ hp ⟨_, rfl, rfl, q⟩) (O4 _ _))
  obtain ⟨hh, g, d, tt, os⟩ := s
  have L1 : PySem.W.Looks (model prog w) hh (typeOf (.ref x)) (.ref C) := I.type
  have L2 : PySem.W.Looks (model prog w) hh (typeOf (.int i t)) (.type "int") := PySem.W.Looks.of_pure rfl
  have L3 : PySem.W.Looks (model prog w) hh (fillsNumberSlot (.ref C) nm') true := PySem.W.fills_K X hcd hm hs
  have L4 : PySem.W.Looks (model prog w) hh (fillsNumberSlot (.type "int") nm') true := PySem.W.Looks.of_pure O1
  have L5 : PySem.W.Looks (model prog w) hh (isSubtype (.ref C) (.type "int")) false := PySem.W.looks_subIn X hsub
  have L7 : PySem.W.Looks (model prog w) hh (numberSlotInPython (.type "int") nm') false := PySem.W.Looks.of_pure rfl
  have hne : (Value.type "int" == Value.ref C) = false := Bool.eq_false_iff.mpr fun q => by cases beq_iff_eq.mp q
  unfold binaryOp1
  refine wpAny_bind (L2.at (wpAny_bind (L1.at (wpAny_bind (L4.at ?_)))))
  simp only [hne, Bool.false_eq_true, if_false]
  refine wpAny_bind (L3.at ?_)
  simp only [Bool.and_self, if_true]
  refine wpAny_bind (L5.at ?_)
  simp only [Bool.false_eq_true, if_false, pure_bind, Bool.not_false, Bool.and_self, if_true]
  refine wpAny_bind (L7.at ?_)
  simp only [Bool.false_eq_true, if_false, pure_bind]
  refine wpAny_bind (one ?_)
  dsimp only
  refine wpAny_bind (wpAny_mono two (fun r s' hr' => ?_) fun _ _ e => e)
  obtain ⟨v, rfl, hq⟩ := hr'
  exact wpAny_bind (wpAny_rule (wpAny_pure ⟨v, rfl, hq⟩))
theorem bin1_RR {nm : String} {b : Value} {Q : Value → Shared → Prop} (X : K.In s.heap) (I : PySem.W.InstAt s.heap x ox C od) (hb : PySem.W.Looks (model prog w) s.heap (typeOf b) (.ref C)) (hc : PySem.W.selfFirst K C = true)
    (hs : PySem.W.findIn K (.ref C) (PySem.dunder nm) = some (some (.ref f))) (hf : PySem.W.isFn K (.ref f) = true)
    (h : wpAny (model prog w) A (call (.ref f) [.ref x, b]) (PySem.W.CmpBack Q) E s) : wpAny (model prog w) A (binaryOp1 nm (.ref x) b) (fun r s' => ∃ v, r = some v ∧ Q v s') E s := by
  obtain ⟨cd, rest, hcd, hm⟩ := PySem.W.ksp_first hc
  unfold binaryOp1
  refine wpAny_bind (I.type.here (wpAny_bind (hb.here (wpAny_bind ((PySem.W.fills_K X hcd hm hs).here ?_)))))
  simp only [beq_self_eq_true, if_true]
  refine wpAny_bind (wpAny_pure ?_)
  simp only [Bool.and_false, Bool.false_eq_true, if_false, Bool.false_and]
  refine wpAny_bind (wpAny_pure ?_)
  simp only [Bool.false_eq_true, if_false]
  refine wpAny_bind (wpAny_mono (PySem.W.ksp_try (b := b) X I hs hf h) (fun r s' hr' => ?_) fun _ _ e => e)
  obtain ⟨v, rfl, hq⟩ := hr'
  exact wpAny_pure ⟨v, rfl, hq⟩
theorem bin1_RI {nm T : String} {b : Value} {fo ro rc : Option Value} {Q : Value → Shared → Prop} (X : K.In s.heap) (I : PySem.W.InstAt s.heap x ox C od) (hb : typeOf b = pure (.type T)) (hc : PySem.W.selfFirst K C = true)
    (hs : PySem.W.findIn K (.ref C) (PySem.dunder nm) = some (some (.ref f))) (hf : PySem.W.isFn K (.ref f) = true) (hr : PySem.W.findIn K (.ref C) (dunderR nm) = some rc) (hp : rc = none ∨ ∃ g : Addr, rc = some (.ref g))
    (h1 : PySem.W.findIn K (.type T) (PySem.dunder nm) = some fo) (h2 : PySem.W.findIn K (.type T) (dunderR nm) = some ro) (hsub : PySem.W.subIn K (.type T) (.ref C) = some false)
    (h : wpAny (model prog w) A (call (.ref f) [.ref x, b]) (PySem.W.CmpBack Q) E s) : wpAny (model prog w) A (binaryOp1 nm (.ref x) b) (fun r s' => ∃ v, r = some v ∧ Q v s') E s := by
  obtain ⟨cd, rest, hcd, hm⟩ := PySem.W.ksp_first hc
  have one := PySem.W.ksp_try (b := b) X I hs hf h
  obtain ⟨hh, g, d, tt, os⟩ := s
  have L1 : PySem.W.Looks (model prog w) hh (typeOf (.ref x)) (.ref C) := I.type
  have L2 : PySem.W.Looks (model prog w) hh (typeOf b) (.type T) := PySem.W.Looks.of_pure hb
  have L3 : PySem.W.Looks (model prog w) hh (fillsNumberSlot (.ref C) nm) true := PySem.W.fills_K X hcd hm hs
  have L4 : PySem.W.Looks (model prog w) hh (fillsNumberSlot (.type T) nm) ((fo.isSome && !isSeqSlot fo) || (ro.isSome && !isSeqSlot ro)) := PySem.W.ksp_fillsT X h1 h2
  have L5 : PySem.W.Looks (model prog w) hh (isSubtype (.type T) (.ref C)) false := PySem.W.looks_subIn X hsub
  have L6 : PySem.W.Looks (model prog w) hh (numberSlotInPython (.ref C) nm) true := PySem.W.ksp_inPy X hs hr hp
  have L7 : PySem.W.Looks (model prog w) hh (numberSlotInPython (.type T) nm) false := PySem.W.Looks.of_pure rfl
  have L8 : PySem.W.Looks (model prog w) hh (typeLookup (.type T) (dunderR nm)) ro := PySem.W.looks_findIn X h2
  generalize ((fo.isSome && !isSeqSlot fo) || (ro.isSome && !isSeqSlot ro)) = right at L4
  have hne : (Value.ref C == Value.type T) = false := Bool.eq_false_iff.mpr fun q => by cases beq_iff_eq.mp q
  unfold binaryOp1
  refine wpAny_bind (L1.at (wpAny_bind (L2.at (wpAny_bind (L3.at ?_)))))
  simp only [hne, Bool.false_eq_true, if_false]
  cases right with
  | false =>
    ksp_lk
    refine wpAny_mono one (fun r s' hr' => ?_) fun _ _ e => e
    obtain ⟨v, rfl, hq⟩ := hr'
    exact wpAny_pure ⟨v, rfl, hq⟩
  | true =>
    ksp_lk
    refine wpAny_mono one (fun r s' hr' => ?_) fun _ _ e => e
    obtain ⟨v, rfl, hq⟩ := hr'
    exact wpAny_pure ⟨v, rfl, hq⟩
theorem bin_of1 {op : Operator} {a b : Value} {Q : Value → Shared → Prop} (h : wpAny (model prog w) A (binaryOp1 op.info.2 a b) (fun r s' => ∃ v, r = some v ∧ Q v s') E s) : wpAny (model prog w) A (binaryOp op a b) Q E s := by
  unfold binaryOp
  refine wpAny_holding ?_
  refine wpAny_bind (wpAny_mono h (fun r s' hr' => ?_) fun _ _ e => e)
  obtain ⟨v, rfl, hq⟩ := hr'
  exact wpAny_pure hq
theorem fillsI_none {nm : String} {cd : ClassData} {add : Bool} {M : Model} {h : Heap} (X : K.In h) (hcd : PySem.W.clsIn K C = some cd) (hm : cd.mro = [.ref C, .type "object"]) (h1 : PySem.W.findIn K (.ref C) (dunderI nm) = some none) (h2 : PySem.W.findIn K (.type "object") (dunderI nm) = some none) :
    PySem.W.Looks M h (fillsInplaceSlot (.ref C) nm add) false := by
  intro A Q E s k q
  have Lm : PySem.W.Looks M h (mroOf (.ref C)) cd.mro := (PySem.W.looks_clsIn X hcd).andThen (f := fun cd => pure cd.mro) .now
  have Lm' := Lm.keeps k
  obtain ⟨hh, g, d, tt, os⟩ := s
  have X' : K.In hh := X.keeps k
  have L1 : PySem.W.Looks M hh (typeLookup (.ref C) (dunderI nm)) none := PySem.W.looks_findIn X' h1
  have L2 : PySem.W.Looks M hh (typeLookup (.type "object") (dunderI nm)) none := PySem.W.looks_findIn X' h2
  unfold fillsInplaceSlot
  refine wpAny_bind (Lm'.at ?_)
  rw [hm, List.anyM_cons]
  refine wpAny_bind (wpAny_bind (L1.at (wpAny_pure ?_)))
  rw [if_neg Bool.false_ne_true, List.anyM_cons]
  refine wpAny_bind (wpAny_bind (L2.at (wpAny_pure ?_)))
  rw [if_neg Bool.false_ne_true, List.anyM_nil]
  exact wpAny_pure q
theorem inp_of1 {op : Operator} {cd : ClassData} {b : Value} {Q : Value → Shared → Prop} (X : K.In s.heap) (I : PySem.W.InstAt s.heap x ox C od) (hcd : PySem.W.clsIn K C = some cd) (hm : cd.mro = [.ref C, .type "object"]) (h1 : PySem.W.findIn K (.ref C) (dunderI op.info.2) = some none) (h2 : PySem.W.findIn K (.type "object") (dunderI op.info.2) = some none)
    (h : wpAny (model prog w) A (binaryOp1 op.info.2 (.ref x) b) (fun r s' => ∃ v, r = some v ∧ Q v s') E s) : wpAny (model prog w) A (inplaceOp op (.ref x) b) Q E s := by
  unfold inplaceOp
  refine wpAny_holding ?_
  refine wpAny_bind (I.type.here (wpAny_bind ((fillsI_none X hcd hm h1 h2).here ?_)))
  rw [if_neg Bool.false_ne_true]
  refine wpAny_bind (wpAny_mono h (fun r s' hr' => ?_) fun _ _ e => e)
  obtain ⟨v, rfl, hq⟩ := hr'
  exact wpAny_pure hq
theorem iop_add : IntOp .Add "int.__add__" Builtin.«int.__add__» := ⟨PySem.F.fills_int_add, PySem.F.slot_int_add, PySem.F.entry_int_add, PySem.F.args_int_add_2, fun h hp q => intBinary_ref h hp q⟩
theorem iop_sub : IntOp .Sub "int.__sub__" Builtin.«int.__sub__» := ⟨PySem.F.fills_int_sub, PySem.F.slot_int_sub, PySem.F.entry_int_sub, PySem.F.args_int_sub_2, fun h hp q => intBinary_ref h hp q⟩
theorem iop_mul : IntOp .Mult "int.__mul__" Builtin.«int.__mul__» := ⟨PySem.F.fills_int_mul, PySem.F.slot_int_mul, PySem.F.entry_int_mul, PySem.F.args_int_mul_2, fun h hp q => intBinary_ref h hp q⟩
theorem iop_mod : IntOp .Mod "int.__mod__" Builtin.«int.__mod__» := ⟨PySem.F.fills_int_mod, PySem.F.slot_int_mod, PySem.F.entry_int_mod, PySem.F.args_int_mod_2, fun h hp q => intBinary_ref h hp q⟩
theorem iop_div : IntOp .FloorDiv "int.__floordiv__" Builtin.«int.__floordiv__» := ⟨PySem.F.fills_int_floordiv, PySem.F.slot_int_floordiv, PySem.F.entry_int_floordiv, PySem.F.args_int_floordiv_2, fun h hp q => by
  unfold Builtin.«int.__floordiv__»
  refine wpAny_bind ?_
  unfold Builtin.exactOperandsForPylong
  refine wpAny_ite_true rfl ?_
  refine wpAny_bind (wpAny_of_eq (a := some _) rfl ?_)
  refine wpAny_bind (asInt_ref h hp ?_)
  exact wpAny_pure (intBinary_ref h hp q)⟩
end
end RF
set_option maxRecDepth 100000
set_option maxHeartbeats 4000000
namespace RF
open PySem PySem.Spec PyProof.Rows L2
/-! ### the operators of Ratio's class -/
structure OwnL (K : PySem.W.Frag) (C : Addr) (nm : String) (f : Addr) : Prop where
  sf : PySem.W.selfFirst K C = true
  hs : PySem.W.findIn K (.ref C) (PySem.dunder nm) = some (some (.ref f))
  hf : PySem.W.isFn K (.ref f) = true
  rc : ∃ rc, PySem.W.findIn K (.ref C) (dunderR nm) = some rc ∧ (rc = none ∨ ∃ g : Addr, rc = some (.ref g))
  h1 : ∃ fo, PySem.W.findIn K (.type "int") (PySem.dunder nm) = some fo
  h2 : ∃ ro, PySem.W.findIn K (.type "int") (dunderR nm) = some ro
  sub : PySem.W.subIn K (.type "int") (.ref C) = some false
structure OwnR (K : PySem.W.Frag) (C : Addr) (nm : String) (f : Addr) : Prop where
  hs : PySem.W.findIn K (.ref C) (dunderR nm) = some (some (.ref f))
  hf : PySem.W.isFn K (.ref f) = true
  sub : PySem.W.subIn K (.ref C) (.type "int") = some false
structure OwnI (K : PySem.W.Frag) (C : Addr) (nm : String) : Prop where
  mro : ∃ cd, PySem.W.clsIn K C = some cd ∧ cd.mro = [.ref C, .type "object"]
  h1 : PySem.W.findIn K (.ref C) (dunderI nm) = some none
  h2 : PySem.W.findIn K (.type "object") (dunderI nm) = some none
structure OwnU (K : PySem.W.Frag) (C : Addr) (m : Str) (f : Addr) : Prop where
  hs : PySem.W.findIn K (.ref C) m = some (some (.ref f))
  hf : PySem.W.isFn K (.ref f) = true
section
variable {X : Cx} {W : Wd} {Wx : WX}
theorem rat_plain {C dx : Addr} {sl : Array (Option Value)} : plainO { PySem.W.instObj C dx with slots := sl } = true := rfl
def raOwnL (S : SpA) : R2a := fun d e rho eta Q EX => match d, e with
  | .rat _, .rat _ => raCall S [d, e] rho eta Q EX
  | .rat _, .int _ => raCall S [d, e] rho eta Q EX
  | _, _ => False
def raOwnR (S : SpA) : R2a := fun d e rho eta Q EX => match d, e with
  | .int _, .rat _ => raCall S [e, d] rho eta Q EX
  | _, _ => False
/-- the method's answer is handed on -/
theorem epa_back {pins : List (Addr × Obj)} {σ : L2.St} {th : List Addr} {H : Hp} {rho : Rho} {Qa : QA} {u : Value} {s' : Shared} (h : EPa X W pins σ th H rho Qa u s') : PySem.W.CmpBack (EPa X W pins σ th H rho Qa) u s' := by
  obtain ⟨v, th', H', d, eta', I', r, rest⟩ := h
  exact SlX.cmpback r ⟨v, th', H', d, eta', I', r, rest⟩
theorem bin1_own {k : Nat} {C f : Addr} {nm : String} {S : SpA} (hC : W.cl 0 = C) (O : OwnL X.K C nm f) (F : FnR X.prog X.w X.K X.mg X.base (L2.CX X.prog X.w) k f (spOf W S)) (hr : Room k X.A) (tk : Takes X Wx)
    {pins : List (Addr × Obj)} {s : Shared} {σ : L2.St} {H : Hp} {th : List Addr} {rho : Rho} {eta : List MO} {x y : V} {v u : Value} {d e : D} {Qa : QA} {EX : EXA} (I : Inv X pins σ H s) (S' : SR W th H σ rho eta) (xo : XOk W Wx th H EX) (rx : RelV x v) (ry : RelV y u) (Rd : RepT W th H d x) (Re : RepT W th H e y)
    (hq : raOwnL S d e rho eta Qa EX) : ∃ a, v = .ref a ∧ (∃ ox od, PySem.W.InstAt s.heap a ox C (some od)) ∧ wpAny (model X.prog X.w) X.A (binaryOp1 nm v u) (fun r s' => ∃ z, r = some z ∧ EPa X W pins σ th H rho Qa z s') X.xe s := by
  unfold raOwnL at hq
  split at hq
  · rename_i q1 q2
    obtain ⟨a, rfl, R1⟩ := Rd
    obtain ⟨b, rfl, R2⟩ := Re
    obtain rfl : v = Value.ref a := rx
    obtain rfl : u = Value.ref b := ry
    obtain ⟨dx, sl, od, rs, J, _⟩ := rat_inst I R1
    obtain ⟨dx2, sl2, od2, rs2, J2, _⟩ := rat_inst I R2
    rw [hC] at J J2
    refine ⟨a, rfl, ⟨_, _, J⟩, bin1_RR I.kIn J J2.type O.sf O.hs O.hf ?_⟩
    exact wpAny_mono (cl_fn F hr tk pins s σ H th rho eta [.ref a, .ref b] [.ref a, .ref b] [.rat q1, .rat q2] Qa EX I S' xo (.cons rfl (.cons rfl .nil)) ⟨_, _, rfl, ⟨a, rfl, R1⟩, _, _, rfl, ⟨b, rfl, R2⟩, rfl⟩ hq) (fun _ _ z => epa_back z) fun _ _ z => z
  · rename_i q1 i
    obtain ⟨a, rfl, R1⟩ := Rd
    have Re' : y = _ := Re
    subst Re'
    obtain rfl : v = Value.ref a := rx
    obtain ⟨t, rfl⟩ := ry
    obtain ⟨dx, sl, od, rs, J, _⟩ := rat_inst I R1
    rw [hC] at J
    obtain ⟨rc, c1, c2⟩ := O.rc
    obtain ⟨fo, c3⟩ := O.h1
    obtain ⟨ro, c4⟩ := O.h2
    refine ⟨a, rfl, ⟨_, _, J⟩, bin1_RI (T := "int") I.kIn J rfl O.sf O.hs O.hf c1 c2 c3 c4 O.sub ?_⟩
    exact wpAny_mono (cl_fn F hr tk pins s σ H th rho eta [.ref a, .int i] [.ref a, .int i t] [.rat q1, .int i] Qa EX I S' xo (.cons rfl (.cons ⟨t, rfl⟩ .nil)) ⟨_, _, rfl, ⟨a, rfl, R1⟩, _, _, rfl, rfl, rfl⟩ hq) (fun _ _ z => epa_back z) fun _ _ z => z
  · exact hq.elim
theorem oa_ownL {k : Nat} {C f : Addr} {op : Operator} {S : SpA} (hC : W.cl 0 = C) (O : OwnL X.K C op.info.2 f) (F : FnR X.prog X.w X.K X.mg X.base (L2.CX X.prog X.w) k f (spOf W S)) (hr : Room k X.A) (tk : Takes X Wx) : OpA X W Wx (binaryOp op) (raOwnL S) :=
  fun pins s σ H th rho eta x y v u d e Qa EX I S' xo rx ry Rd Re hq => by
    obtain ⟨a, rfl, _, h⟩ := bin1_own hC O F hr tk I S' xo rx ry Rd Re hq
    exact bin_of1 h
theorem ia_ownL {k : Nat} {C f : Addr} {op : Operator} {S : SpA} (hC : W.cl 0 = C) (O : OwnL X.K C op.info.2 f) (OI : OwnI X.K C op.info.2) (F : FnR X.prog X.w X.K X.mg X.base (L2.CX X.prog X.w) k f (spOf W S)) (hr : Room k X.A) (tk : Takes X Wx) : OpA X W Wx (inplaceOp op) (raOwnL S) :=
  fun pins s σ H th rho eta x y v u d e Qa EX I S' xo rx ry Rd Re hq => by
    obtain ⟨a, rfl, ⟨ox, od, J⟩, h⟩ := bin1_own hC O F hr tk I S' xo rx ry Rd Re hq
    obtain ⟨cd, hcd, hm⟩ := OI.mro
    exact inp_of1 I.kIn J hcd hm OI.h1 OI.h2 h
theorem oa_ownR {k : Nat} {C f f0 : Addr} {op : Operator} {idl : String} {B : Builtin} {S : SpA} (io : IntOp op idl B) (hC : W.cl 0 = C) (O0 : OwnL X.K C op.info.2 f0) (O : OwnR X.K C op.info.2 f) (F : FnR X.prog X.w X.K X.mg X.base (L2.CX X.prog X.w) k f (spOf W S)) (hr : Room k X.A) (tk : Takes X Wx) : OpA X W Wx (binaryOp op) (raOwnR S) :=
  fun pins s σ H th rho eta x y v u d e Qa EX I S' xo rx ry Rd Re hq => by
    unfold raOwnR at hq
    split at hq
    · rename_i i q1
      obtain ⟨a, rfl, R1⟩ := Re
      have Rd' : x = _ := Rd
      subst Rd'
      obtain rfl : u = Value.ref a := ry
      obtain ⟨t, rfl⟩ := rx
      obtain ⟨dx, sl, od, rs, J, _⟩ := rat_inst I R1
      rw [hC] at J
      refine bin_of1 (bin1_IR io I.kIn J rfl O0.sf O0.hs O.hs O.hf O.sub ?_)
      exact wpAny_mono (cl_fn F hr tk pins s σ H th rho eta [.ref a, .int i] [.ref a, .int i t] [.rat q1, .int i] Qa EX I S' xo (.cons rfl (.cons ⟨t, rfl⟩ .nil)) ⟨_, _, rfl, ⟨a, rfl, R1⟩, _, _, rfl, rfl, rfl⟩ hq) (fun _ _ z => epa_back z) fun _ _ z => z
    · exact hq.elim
/-! one reading for an operator: ints, texts, Ratios -/
def raW (r0 : R2a) (SL SR : SpA) : R2a := fun d e rho eta Q EX => match d, e with
  | .rat a, .rat b => raCall SL [.rat a, .rat b] rho eta Q EX
  | .rat a, .int b => raCall SL [.rat a, .int b] rho eta Q EX
  | .int a, .rat b => raCall SR [.rat b, .int a] rho eta Q EX
  | d, e => r0 d e rho eta Q EX
theorem oa_w {op : Value → Value → Sem Value} {r0 : R2a} {SL SR : SpA} (h0 : OpA X W Wx op r0) (hL : OpA X W Wx op (raOwnL SL)) (hR : OpA X W Wx op (raOwnR SR)) : OpA X W Wx op (raW r0 SL SR) :=
  fun pins s σ H th rho eta x y v u d e Qa EX I S' xo rx ry Rd Re hq => by
    unfold raW at hq
    split at hq
    · exact hL pins s σ H th rho eta x y v u _ _ Qa EX I S' xo rx ry Rd Re hq
    · exact hL pins s σ H th rho eta x y v u _ _ Qa EX I S' xo rx ry Rd Re hq
    · exact hR pins s σ H th rho eta x y v u _ _ Qa EX I S' xo rx ry Rd Re hq
    · exact h0 pins s σ H th rho eta x y v u _ _ Qa EX I S' xo rx ry Rd Re hq
/-! -r, abs(r) -/
def raNegR (S : SpA) : R1a := fun d rho eta Q EX => match d with
  | .int i => Q (.int (-i)) eta
  | .rat q => raCall S [.rat q] rho eta Q EX
  | _ => False
theorem ua_negR {k : Nat} {C f : Addr} {S : SpA} (hC : W.cl 0 = C) (O : OwnU X.K C "__neg__" f) (F : FnR X.prog X.w X.K X.mg X.base (L2.CX X.prog X.w) k f (spOf W S)) (hr : Room k X.A) (tk : Takes X Wx) : UnA X W Wx (unaryOp .USub) (raNegR S) :=
  fun pins s σ H th rho eta x v d Qa EX I S' xo rx Rd hq => by
    unfold raNegR at hq
    split at hq
    · exact ua_neg pins s σ H th rho eta x v _ Qa EX I S' xo rx Rd hq
    · rename_i q1
      obtain ⟨a, rfl, R1⟩ := Rd
      obtain rfl : v = Value.ref a := rx
      obtain ⟨dx, sl, od, rs, J, _⟩ := rat_inst I R1
      rw [hC] at J
      obtain ⟨m, F0⟩ := I.fr
      exact PySem.W.ksp_neg F0 I.ok.mod.kin J O.hs O.hf (cl_fn F hr tk pins s σ H th rho eta [.ref a] [.ref a] [.rat q1] Qa EX I S' xo (.cons rfl .nil) ⟨_, _, rfl, ⟨a, rfl, R1⟩, rfl⟩ hq)
    · exact hq.elim
def raAbsR (S : SpA) : RNa := fun ds rho eta Q EX => match ds with
  | [.int i] => Q (.int (if i < 0 then -i else i)) eta
  | [.rat q] => raCall S [.rat q] rho eta Q EX
  | _ => False
theorem ca_absR {k : Nat} {C f : Addr} {S : SpA} (hC : W.cl 0 = C) (O : OwnU X.K C "__abs__" f) (F : FnR X.prog X.w X.K X.mg X.base (L2.CX X.prog X.w) k f (spOf W S)) (hr : Room (k + 1) X.A) (tk : Takes X Wx) : ClA X W Wx (.builtin "abs") (raAbsR S) :=
  fun pins s σ H th rho eta xs us ds Qa EX I S' xo rx Rd hq => by
    unfold raAbsR at hq
    split at hq
    · exact ca_abs pins s σ H th rho eta xs us _ Qa EX I S' xo rx Rd hq
    · rename_i q1
      obtain ⟨v, rfl, Rd1⟩ := Rd.one
      obtain ⟨a, rfl, R1⟩ := Rd1
      cases rx with
      | cons r1 rr =>
        cases rr
        rename_i u
        obtain rfl : u = Value.ref a := r1
        obtain ⟨dx, sl, od, rs, J, _⟩ := rat_inst I R1
        rw [hC] at J
        have cl := cl_fn_at (A' := X.A.in1) F hr.in1 tk (fun I => I.env0.in1) pins s σ H th rho eta [.ref a] [.ref a] [.rat q1] Qa EX I S' xo (.cons rfl .nil) ⟨_, _, rfl, ⟨a, rfl, R1⟩, rfl⟩ hq
        refine PySem.Calls.call_function_entry kind_abs plain_abs entry_abs (args_abs _) ?_
        unfold Builtin.«abs»
        refine wpAny_bind (m := oneArg "abs" _) (wpAny_pure ?_)
        refine wpAny_bind (m := callSpecial? (.ref a) (Str.ofString "__abs__")) (PySem.W.special_fn I.kIn J O.hs (beq_iff_eq.mp O.hf) (wpAny_mono cl (fun z s' hz => ?_) fun _ _ z => z))
        exact wpAny_pure ⟨_, rfl, hz⟩
    · exact hq.elim
end
end RF
set_option maxRecDepth 100000
set_option maxHeartbeats 4000000
namespace RF
open PySem PySem.Spec PyProof.Rows L2
section
variable {X : Cx} {W : Wd} {Wx : WX}
/-! ### name op= e -/
def aAug (i : Nat) (t : TEa) (r : R2a) : TSa := fun Dn rho eta EX => match rho[i]? with
  | some (some d) => t rho eta (fun e eta1 => r d e rho eta1 (fun z eta2 => Dn.nx (rho.set i (some z)) eta2) EX) EX
  | _ => False
theorem sa_aug {i : Nat} {x : Str} {e : Expr} {t : TEa} {op : Operator} {r : R2a} {pos pos' : Pos} (hN : X.N.Nodup) (hi : X.N[i]? = some x) (hx : Loc X.env.scope x) (he : EA X W Wx e t) (ho : OpA X W Wx (inplaceOp op) r) (hf : X.fn x = true ∨ X.env.scope.names.lookup x = some .local := by first | exact .inl rfl | exact .inr rfl | assumption) :
    SA X W Wx (.AugAssign (.Name x pos') op e pos) (aAug i t r) := by
  refine ⟨fun pins s σ H th rho eta Dn EX I S xo h => ?_⟩
  unfold aAug at h
  split at h
  · rename_i d hd
    obtain ⟨v, e1, Rv⟩ := S.var i d hd
    obtain ⟨m, hn, hl⟩ := I.loc
    have vis : Vis X.env.scope x := by rcases hx with k | k; exact .inl k; exact .inr (.inl k)
    obtain ⟨u, ru, l⟩ := hl i x v hi e1 vis
    refine wpAny_AugAssign_Name ?_
    have go : wpAny (model X.prog X.w) X.A (eval e X.env) (fun w s₂ => wpAny (model X.prog X.w) X.A (inplaceOp op u w) (fun r s₃ => wpAny (model X.prog X.w) X.A (storeName X.env x r) (fun _ => SPa X W pins th H Dn .next) X.xe s₃) X.xe s₂) X.xe s := by
      refine thn (he.run pins s σ H th rho eta _ EX I S xo h) fun w s1 ⟨y, th1, H1, d1, eta1, I1, r1, g1, S1, R1, q1⟩ => ?_
      refine thn (ho pins s1 σ H1 th1 rho eta1 v y u w d d1 _ EX I1 S1 (xo.mono g1 S1.hp) ru r1 (Rv.mono g1) R1 q1) fun z s2 ⟨zv, th2, H2, d2, eta2, I2, r2, g2, S2, R2, q2⟩ => ?_
      exact store_ok I2 hN hi hx r2 (fun s3 I3 => ⟨_, th2, H2, _, eta2, I3, g1.trans' S1.hp g2, S2.set i R2, q2⟩) hf
    rcases l with ⟨hk, hm⟩ | ⟨hk, c, hc, hcell⟩
    · exact wpAny_loadName_local I.ok.kind hk hn hm go
    · rcases hk with hk | hk
      · exact wpAny_loadName_cell I.ok.kind hk hc hcell go
      · rcases hx with k | k
        · have : X.env.scope.names.lookup x = some .free := hk
          rw [k] at this; cases this
        · have : X.env.scope.names.lookup x = some .free := hk
          rw [k] at this; cases this
  · exact h.elim
theorem i_aug {i : Nat} {t : TEa} {r : R2a} {Dn : EndsA} {rho : Rho} {eta : List MO} {EX : EXA} {d : D} (hd : rho[i]? = some (some d)) (h : t rho eta (fun e eta1 => r d e rho eta1 (fun z eta2 => Dn.nx (rho.set i (some z)) eta2) EX) EX) : aAug i t r Dn rho eta EX := by
  unfold aAug; rw [hd]; exact h
/-! ### list + list, both frozen -/
theorem Reps.append {H : Hp} : ∀ {ds es : List D} {vs ws : List V}, Reps W H ds vs → Reps W H es ws → Reps W H (ds ++ es) (vs ++ ws)
  | [], _, _, _, h, h2 => by have h : _ = [] := h; subst h; exact h2
  | d :: ds, _, _, _, ⟨v, r, e, h1, h2⟩, h3 => by subst e; exact ⟨v, _, rfl, h1, Reps.append h2 h3⟩
def raCat : R2a := fun d e rho eta Q EX => match d, e with
  | .fl xs, .fl ys => Nat.ble (xs.length + ys.length) 1000 = true ∧ Q (.fl (xs ++ ys)) eta
  | _, _ => False
theorem oa_cat : OpA X W Wx (binaryOp .Add) raCat := fun pins s σ H th rho eta x y v u d e Qa EX I S xo rx ry Rd Re hr => by
  unfold raCat at hr
  split at hr
  · rename_i xs ys
    obtain ⟨hz, hr⟩ := hr
    obtain ⟨a, o, vs, rfl, ea, Rs⟩ := Rd
    obtain ⟨b, o2, ws, rfl, eb, Rs2⟩ := Re
    obtain rfl : v = Value.ref a := rx
    obtain rfl : u = Value.ref b := ry
    obtain ⟨_, k1⟩ := I.hok a _ ea
    obtain ⟨_, k2⟩ := I.hok b _ eb
    obtain ⟨hl, its, n, r, e1⟩ := (show ObjOk X.prog X.w H s.heap a (.lst vs) from k1)
    obtain ⟨hl2, its2, n2, r2, e2⟩ := (show ObjOk X.prog X.w H s.heap b (.lst ws) from k2)
    have l1 := Rs.length
    have l2 := Rs2.length
    have hz2 := size_of hz
    refine PySem.P.add_list e1 e2 ?_ (by rw [List.size_toArray, List.size_toArray, ← r.length, ← r2.length]; omega)
    have ee : its.toArray ++ its2.toArray = (its ++ its2).toArray := by simp
    rw [ee]
    have I1 := I.lnew (t' := s.toks) (r.append r2) (by rw [List.length_append]; omega)
    have hp : H s.heap.objs.size = none := I.fresh
    obtain ⟨od, I2⟩ := I1.lock upd_same trivial
    rw [upd_upd] at I2
    exact ⟨.ref _, th, _, .fl (xs ++ ys), eta, I2, rfl, Grow.new hp, S.mono (Grow.new hp) (S.hp.new hp), ⟨_, od, _, rfl, upd_same, Reps.mono (Grow.new (th := th) hp).pers _ _ (Rs.append Rs2)⟩, hr⟩
  · exact hr.elim
def raAddC : R2a := fun d e rho eta Q EX => match d, e with
  | .int i, .int j => Q (.int (i + j)) eta
  | .str x, .str y => x.length + y.length ≤ sizeLine ∧ Q (.str (x ++ y)) eta
  | .fl xs, .fl ys => Nat.ble (xs.length + ys.length) 1000 = true ∧ Q (.fl (xs ++ ys)) eta
  | _, _ => False
theorem oa_addC : OpA X W Wx (binaryOp .Add) raAddC := fun pins s σ H th rho eta x y v u d e Qa EX I S xo rx ry Rd Re hr => by
  unfold raAddC at hr
  split at hr
  · exact oa_add pins s σ H th rho eta x y v u _ _ Qa EX I S xo rx ry Rd Re ⟨trivial, hr⟩
  · exact oa_addS pins s σ H th rho eta x y v u _ _ Qa EX I S xo rx ry Rd Re hr
  · exact oa_cat pins s σ H th rho eta x y v u _ _ Qa EX I S xo rx ry Rd Re hr
  · exact hr.elim
/-! steps -/
variable {rho : Rho} {eta : List MO} {EX : EXA} {Q : QA}
theorem i_addCI {i j : Int} (h : Q (.int (i + j)) eta) : raAddC (.int i) (.int j) rho eta Q EX := h
theorem i_addCS {x y : Str} (hl : x.length + y.length ≤ sizeLine) (h : Q (.str (x ++ y)) eta) : raAddC (.str x) (.str y) rho eta Q EX := ⟨hl, h⟩
theorem i_addCL {xs ys : List D} (hl : Nat.ble (xs.length + ys.length) 1000 = true) (h : Q (.fl (xs ++ ys)) eta) : raAddC (.fl xs) (.fl ys) rho eta Q EX := ⟨hl, h⟩
theorem i_wRR {r0 : R2a} {SL SR : SpA} {a b : Rat} (h : raCall SL [.rat a, .rat b] rho eta Q EX) : raW r0 SL SR (.rat a) (.rat b) rho eta Q EX := h
theorem i_wRI {r0 : R2a} {SL SR : SpA} {a : Rat} {b : Int} (h : raCall SL [.rat a, .int b] rho eta Q EX) : raW r0 SL SR (.rat a) (.int b) rho eta Q EX := h
theorem i_wIR {r0 : R2a} {SL SR : SpA} {a : Int} {b : Rat} (h : raCall SR [.rat b, .int a] rho eta Q EX) : raW r0 SL SR (.int a) (.rat b) rho eta Q EX := h
theorem i_wII {r0 : R2a} {SL SR : SpA} {a b : Int} (h : r0 (.int a) (.int b) rho eta Q EX) : raW r0 SL SR (.int a) (.int b) rho eta Q EX := h
theorem i_wSS {r0 : R2a} {SL SR : SpA} {a b : Str} (h : r0 (.str a) (.str b) rho eta Q EX) : raW r0 SL SR (.str a) (.str b) rho eta Q EX := h
theorem i_wLL {r0 : R2a} {SL SR : SpA} {a b : List D} (h : r0 (.fl a) (.fl b) rho eta Q EX) : raW r0 SL SR (.fl a) (.fl b) rho eta Q EX := h
theorem i_ownL {S : SpA} {a : Rat} {b : Rat} (h : raCall S [.rat a, .rat b] rho eta Q EX) : raOwnL S (.rat a) (.rat b) rho eta Q EX := h
theorem i_ownLI {S : SpA} {a : Rat} {b : Int} (h : raCall S [.rat a, .int b] rho eta Q EX) : raOwnL S (.rat a) (.int b) rho eta Q EX := h
theorem i_negR {S : SpA} {a : Rat} (h : raCall S [.rat a] rho eta Q EX) : raNegR S (.rat a) rho eta Q EX := h
theorem i_negI {S : SpA} {a : Int} (h : Q (.int (-a)) eta) : raNegR S (.int a) rho eta Q EX := h
theorem i_absR {S : SpA} {a : Rat} (h : raCall S [.rat a] rho eta Q EX) : raAbsR S [.rat a] rho eta Q EX := h
theorem i_absI {S : SpA} {i : Int} (h : Q (.int (if i < 0 then -i else i)) eta) : raAbsR S [.int i] rho eta Q EX := h
end
/-! ### Bool checks -/
def ownLB (K : PySem.W.Frag) (C : Addr) (nm : String) : Bool := PySem.W.selfFirst K C && (isRef (PySem.W.findIn K (.ref C) (PySem.dunder nm)) && (PySem.W.isFn K (.ref (adrOf (PySem.W.findIn K (.ref C) (PySem.dunder nm)))) && ((match PySem.W.findIn K (.ref C) (dunderR nm) with
  | some none => true
  | some (some (.ref _)) => true
  | _ => false) && ((PySem.W.findIn K (.type "int") (PySem.dunder nm)).isSome && ((PySem.W.findIn K (.type "int") (dunderR nm)).isSome && decide (PySem.W.subIn K (.type "int") (.ref C) = some false))))))
theorem ownLB_ok {K : PySem.W.Frag} {C : Addr} {nm : String} (h : ownLB K C nm = true) : OwnL K C nm (adrOf (PySem.W.findIn K (.ref C) (PySem.dunder nm))) := by
  unfold ownLB at h
  simp only [Bool.and_eq_true, decide_eq_true_eq] at h
  obtain ⟨h1, h2, h3, h4, h5, h6, h7⟩ := h
  refine ⟨h1, isRef_eq h2, h3, ?_, Option.isSome_iff_exists.mp h5, Option.isSome_iff_exists.mp h6, h7⟩
  split at h4
  · rename_i e; exact ⟨none, e, .inl rfl⟩
  · rename_i g e; exact ⟨some (.ref g), e, .inr ⟨g, rfl⟩⟩
  · cases h4
def ownRB (K : PySem.W.Frag) (C : Addr) (nm : String) : Bool := isRef (PySem.W.findIn K (.ref C) (dunderR nm)) && (PySem.W.isFn K (.ref (adrOf (PySem.W.findIn K (.ref C) (dunderR nm)))) && decide (PySem.W.subIn K (.ref C) (.type "int") = some false))
theorem ownRB_ok {K : PySem.W.Frag} {C : Addr} {nm : String} (h : ownRB K C nm = true) : OwnR K C nm (adrOf (PySem.W.findIn K (.ref C) (dunderR nm))) := by
  unfold ownRB at h
  simp only [Bool.and_eq_true, decide_eq_true_eq] at h
  exact ⟨isRef_eq h.1, h.2.1, h.2.2⟩
def ownIB (K : PySem.W.Frag) (C : Addr) (nm : String) : Bool := ((PySem.W.clsIn K C).any fun cd => decide (cd.mro = [.ref C, .type "object"])) && (decide (PySem.W.findIn K (.ref C) (dunderI nm) = some none) && decide (PySem.W.findIn K (.type "object") (dunderI nm) = some none))
theorem ownIB_ok {K : PySem.W.Frag} {C : Addr} {nm : String} (h : ownIB K C nm = true) : OwnI K C nm := by
  unfold ownIB at h
  simp only [Bool.and_eq_true, decide_eq_true_eq] at h
  obtain ⟨cd, hc, hm⟩ := PySem.W.any_some h.1
  exact ⟨⟨cd, hc, of_decide_eq_true hm⟩, h.2.1, h.2.2⟩
def ownUB (K : PySem.W.Frag) (C : Addr) (m : Str) : Bool := isRef (PySem.W.findIn K (.ref C) m) && PySem.W.isFn K (.ref (adrOf (PySem.W.findIn K (.ref C) m)))
theorem ownUB_ok {K : PySem.W.Frag} {C : Addr} {m : Str} (h : ownUB K C m = true) : OwnU K C m (adrOf (PySem.W.findIn K (.ref C) m)) := by
  unfold ownUB at h
  simp only [Bool.and_eq_true] at h
  exact ⟨isRef_eq h.1, h.2⟩
theorem d_add : PySem.dunder "add" = ("__add__" : Str) := by decide +kernel
theorem d_sub : PySem.dunder "sub" = ("__sub__" : Str) := by decide +kernel
theorem d_mul : PySem.dunder "mul" = ("__mul__" : Str) := by decide +kernel
theorem d_div : PySem.dunder "floordiv" = ("__floordiv__" : Str) := by decide +kernel
theorem d_mod : PySem.dunder "mod" = ("__mod__" : Str) := by decide +kernel
theorem d_pow : PySem.dunder "pow" = ("__pow__" : Str) := by decide +kernel
theorem d_radd : dunderR "add" = ("__radd__" : Str) := by decide +kernel
theorem d_rsub : dunderR "sub" = ("__rsub__" : Str) := by decide +kernel
theorem d_rmul : dunderR "mul" = ("__rmul__" : Str) := by decide +kernel
theorem d_rdiv : dunderR "floordiv" = ("__rfloordiv__" : Str) := by decide +kernel
theorem d_rmod : dunderR "mod" = ("__rmod__" : Str) := by decide +kernel
end RF
set_option maxRecDepth 100000
set_option maxHeartbeats 4000000
namespace RF
open PySem PySem.Spec PyProof.Rows L2
section
variable {X : Cx} {W : Wd} {Wx : WX}
/-- an expression that is not reached -/
def aNever : TEa := fun _ _ _ _ => False
theorem ea_never {e : Expr} : EA X W Wx e aNever := ⟨fun _ _ _ _ _ _ _ _ _ _ _ _ h => h.elim⟩
/-- an operator with an own left def alone (**) -/
def raWL (r0 : R2a) (SL : SpA) : R2a := fun d e rho eta Q EX => match d, e with
  | .rat a, .rat b => raCall SL [.rat a, .rat b] rho eta Q EX
  | .rat a, .int b => raCall SL [.rat a, .int b] rho eta Q EX
  | d, e => r0 d e rho eta Q EX
theorem oa_wL {op : Value → Value → Sem Value} {r0 : R2a} {SL : SpA} (h0 : OpA X W Wx op r0) (hL : OpA X W Wx op (raOwnL SL)) : OpA X W Wx op (raWL r0 SL) :=
  fun pins s σ H th rho eta x y v u d e Qa EX I S' xo rx ry Rd Re hq => by
    unfold raWL at hq
    split at hq
    · exact hL pins s σ H th rho eta x y v u _ _ Qa EX I S' xo rx ry Rd Re hq
    · exact hL pins s σ H th rho eta x y v u _ _ Qa EX I S' xo rx ry Rd Re hq
    · exact h0 pins s σ H th rho eta x y v u _ _ Qa EX I S' xo rx ry Rd Re hq
/-- r.m(e, ..), r a Ratio -/
def methQ (S : SpA) (t : TAa) (rho : Rho) (Q : QA) (EX : EXA) : QA := fun d eta1 => match d with
  | .rat q => t rho eta1 (fun ds eta2 => raCall S (.rat q :: ds) rho eta2 Q EX) EX
  | _ => False
def aMethR (S : SpA) (ta : TEa) (t : TAa) : TEa := fun rho eta Q EX => ta rho eta (methQ S t rho Q EX) EX
theorem ea_methR {k : Nat} {C g : Addr} {m : Str} {S : SpA} {o e : Expr} {es : List Expr} {ta : TEa} {t : TAa} {apos pos : Pos} {pl : Sem Bool} (hC : W.cl 0 = C) (he : EA X W Wx o ta) (c : SlX.SCls X.K C) (hm : Meth X.K C m g)
    (F : FnR X.prog X.w X.K X.mg X.base (L2.CX X.prog X.w) k g (spOf W S)) (hr : Room k X.A) (tk : Takes X Wx) (ha : AA X W Wx (e :: es) t)
    (hst : starEach (e :: es) X.env = (false, eval e X.env) :: starEach es X.env := by rfl) (hpl : (backTo pos (starEach es X.env)).any (·.1) = false := by rfl)
    (ht : eval (.Call (.Attribute o m apos) (e :: es) [] pos) X.env = (do
      let ov ← eval o X.env
      standAt apos.atName
      let (f, first) ← holding [ov] (getMethod ov m pl)
      callWith pos f first (backTo pos (starEach (e :: es) X.env)) (backToKw pos (keywordEach [] X.env))) := by rfl) : EA X W Wx (.Call (.Attribute o m apos) (e :: es) [] pos) (aMethR S ta t) := by
  refine ⟨fun pins s σ H th rho eta Qa EX I Sr xo h => ?_⟩
  refine PySem.W.methodCall_KW (pl := pl) (thn (he.run pins s σ H th rho eta _ EX I Sr xo h) fun u s1 ⟨x, th1, H1, d, eta1, I1, r1, g1, S1, R1, q1⟩ => ?_) ht
  unfold methQ at q1
  split at q1
  · rename_i q
    obtain ⟨a, rfl, R⟩ := R1
    obtain rfl : u = Value.ref a := r1
    obtain ⟨dx, sl, od, rs, J, hl⟩ := rat_inst I1 R
    rw [hC] at J
    refine PySem.W.method_fn I1.kIn J (PySem.W.plainGet_of (c.get m)).1 (PySem.W.plainGet_of (c.get m)).2 hm.at_ (beq_iff_eq.mp hm.fn) ?_ ?_
    · show (PySem.W.lookIn m od).map (·.isSome) = some false
      rw [hl m]
      rfl
    · refine PySem.W.callWith_K (first := [.ref a]) (h₀ := X.base) I1.ok.mod.kin hm.kp (thn (ha.run pos pins s1 σ H1 th1 rho eta1 _ EX I1 S1 (xo.mono g1 S1.hp) q1) fun us s2 ⟨ws, th2, H2, ds, eta2, I2, r2, g2, S2, R2, q2⟩ => ⟨I2.kIn, ?_⟩) hst hpl
      have g12 := g1.trans' S1.hp g2
      refine thn (cl_fn F hr tk pins s2 σ H2 th2 rho eta2 (.ref a :: ws) (.ref a :: us) (.rat q :: ds) Qa EX I2 S2 (xo.mono g12 S2.hp) (.cons rfl r2) ⟨_, _, rfl, RepT.mono g2 (d := .rat q) ⟨a, rfl, R⟩, R2⟩ q2) fun w s3 ⟨z, th3, H3, d3, eta3, I3, r3, g3, S3, R3, q3⟩ => ?_
      exact ⟨z, th3, H3, d3, eta3, I3, r3, g12.trans' S2.hp g3, S3, R3, q3⟩
  · exact q1.elim
/-! steps -/
variable {rho : Rho} {eta : List MO} {EX : EXA} {Q : QA}
theorem i_methR {S : SpA} {ta : TEa} {t : TAa} (h : ta rho eta (methQ S t rho Q EX) EX) : aMethR S ta t rho eta Q EX := h
theorem i_methQ {S : SpA} {t : TAa} {q : Rat} (h : t rho eta (fun ds eta2 => raCall S (.rat q :: ds) rho eta2 Q EX) EX) : methQ S t rho Q EX (.rat q) eta := h
theorem i_wlRR {r0 : R2a} {SL : SpA} {a b : Rat} (h : raCall SL [.rat a, .rat b] rho eta Q EX) : raWL r0 SL (.rat a) (.rat b) rho eta Q EX := h
theorem i_wlRI {r0 : R2a} {SL : SpA} {a : Rat} {b : Int} (h : raCall SL [.rat a, .int b] rho eta Q EX) : raWL r0 SL (.rat a) (.int b) rho eta Q EX := h
theorem i_wlII {r0 : R2a} {SL : SpA} {a b : Int} (h : r0 (.int a) (.int b) rho eta Q EX) : raWL r0 SL (.int a) (.int b) rho eta Q EX := h
end
def methB (K : PySem.W.Frag) (C : Addr) (m : Str) : Bool := isRef (PySem.W.findIn K (.ref C) m) && (PySem.W.isFn K (.ref (adrOf (PySem.W.findIn K (.ref C) m))) && PySem.W.keepIn K (.ref (adrOf (PySem.W.findIn K (.ref C) m))))
theorem methB_ok {K : PySem.W.Frag} {C : Addr} {m : Str} (h : methB K C m = true) : Meth K C m (adrOf (PySem.W.findIn K (.ref C) m)) := by
  unfold methB at h
  simp only [Bool.and_eq_true] at h
  exact ⟨isRef_eq h.1, h.2.1, h.2.2⟩
end RF
set_option maxRecDepth 100000
set_option maxHeartbeats 4000000
namespace RF
open PySem PySem.Spec PyProof.Rows L2
/-! ### sizes of Ratios -/
/-- top and bottom have at most n bits -/
structure RB (n : Nat) (q : Rat) : Prop where
  num : q.num.natAbs < 2 ^ n
  den : q.den < 2 ^ n
theorem RB.mono {n m : Nat} {q : Rat} (h : RB n q) (hm : n ≤ m) : RB m q := ⟨Nat.lt_of_lt_of_le h.num (Nat.pow_le_pow_right (by decide) hm), Nat.lt_of_lt_of_le h.den (Nat.pow_le_pow_right (by decide) hm)⟩
theorem num_le {a b : Int} (hb : b ≠ 0) : (Rat.divInt a b).num.natAbs ≤ a.natAbs ∧ (Rat.divInt a b).den ≤ b.natAbs := by
  rw [Rat.num_divInt, Rat.den_divInt, if_neg hb]
  refine ⟨?_, Nat.div_le_self _ _⟩
  have h : (b.sign * a).natAbs = a.natAbs := by
    rw [Int.natAbs_mul, Int.natAbs_sign_of_ne_zero hb, Nat.one_mul]
  rw [← h]
  exact Int.natAbs_ediv_le_natAbs _ _
theorem RB.divInt {a b : Int} {n : Nat} (hb : b ≠ 0) (h1 : a.natAbs < 2 ^ n) (h2 : b.natAbs < 2 ^ n) : RB n (Rat.divInt a b) :=
  ⟨Nat.lt_of_le_of_lt (num_le hb).1 h1, Nat.lt_of_le_of_lt (num_le hb).2 h2⟩
theorem RB.int {i : Int} {n : Nat} (hn : 0 < n) (h : i.natAbs < 2 ^ n) : RB n (i : Rat) := ⟨h, by
  show 1 < 2 ^ n
  exact Nat.one_lt_two_pow (by omega)⟩
theorem RB.neg {q : Rat} {n : Nat} (h : RB n q) : RB n (-q) := ⟨by rw [Rat.neg_num, Int.natAbs_neg]; exact h.num, h.den⟩
theorem mul_lt_pow {a b n m : Nat} (h1 : a < 2 ^ n) (h2 : b < 2 ^ m) : a * b < 2 ^ (n + m) := by
  rw [Nat.pow_add]
  exact Nat.mul_lt_mul'' h1 h2
theorem add_eq (a b : Rat) : a + b = Rat.divInt (a.num * b.den + b.num * a.den) (a.den * b.den) := by
  rw [Rat.add_def', ← Rat.divInt_ofNat]
  rfl
theorem sub_eq (a b : Rat) : a - b = Rat.divInt (a.num * b.den - b.num * a.den) (a.den * b.den) := by
  rw [Rat.sub_def', ← Rat.divInt_ofNat]
  rfl
theorem mul_eq (a b : Rat) : a * b = Rat.divInt (a.num * b.num) (a.den * b.den) := by
  rw [Rat.mul_def', ← Rat.divInt_ofNat]
  rfl
theorem den_ne (a b : Rat) : (a.den : Int) * b.den ≠ 0 := by
  have h1 := a.den_pos
  have h2 := b.den_pos
  exact Int.mul_ne_zero (by omega) (by omega)
theorem RB.dd {a b : Rat} {n m : Nat} (ha : RB n a) (hb : RB m b) : ((a.den : Int) * b.den).natAbs < 2 ^ (n + m) := by
  rw [Int.natAbs_mul]
  exact mul_lt_pow ha.den hb.den
theorem RB.nd {a b : Rat} {n m : Nat} (ha : RB n a) (hb : RB m b) : (a.num * b.den).natAbs < 2 ^ (n + m) := by
  rw [Int.natAbs_mul]
  exact mul_lt_pow ha.num hb.den
theorem RB.nn {a b : Rat} {n m : Nat} (ha : RB n a) (hb : RB m b) : (a.num * b.num).natAbs < 2 ^ (n + m) := by
  rw [Int.natAbs_mul]
  exact mul_lt_pow ha.num hb.num
theorem RB.add {a b : Rat} {n m : Nat} (ha : RB n a) (hb : RB m b) : RB (n + m + 1) (a + b) := by
  have h1 := ha.nd hb
  have h2 := hb.nd ha
  have h3 := ha.dd hb
  rw [Nat.add_comm m n] at h2
  rw [add_eq]
  refine RB.divInt (den_ne a b) ?_ ?_
  · rw [Nat.pow_succ]; omega
  · rw [Nat.pow_succ]; omega
theorem RB.sub {a b : Rat} {n m : Nat} (ha : RB n a) (hb : RB m b) : RB (n + m + 1) (a - b) := by
  rw [Rat.sub_eq_add_neg]; exact ha.add hb.neg
theorem RB.mul {a b : Rat} {n m : Nat} (ha : RB n a) (hb : RB m b) : RB (n + m) (a * b) := by
  rw [mul_eq]
  exact RB.divInt (den_ne a b) (ha.nn hb) (ha.dd hb)
theorem mulB {i j : Int} {n m : Nat} (h1 : i.natAbs < 2 ^ n) (h2 : j.natAbs < 2 ^ m) (h : n + m ≤ 134217728) : IntMulOk i j :=
  IntMulOk.of_le (intBits_le_iff.mpr h1) (intBits_le_iff.mpr h2) h
theorem divB {j : Int} {n : Nat} (h : j.natAbs < 2 ^ n) (hn : 0 < n) (hn2 : n ≤ 9000) : DivOk j := Nat.lt_of_lt_of_le (log2_lt_of hn h) hn2
theorem log_lt {j n k : Nat} (h : j < 2 ^ n) (hn : 0 < n) (hk : n ≤ k) : j.log2 < k := Nat.lt_of_lt_of_le (log2_lt_of hn h) hk
/-! a number: an int or a Ratio -/
def IsNum (e : D) (b : Rat) : Prop := e = .rat b ∨ ∃ i : Int, e = .int i ∧ b = (i : Rat)
end RF
namespace RF
open PySem PySem.Spec PyProof.Rows L2
/-! ### a list made item by item -/
theorem lcg_map {ga : TGa} {tt : TTa} {te : TEa} {rho : Rho} {eta : List MO} {Q : List D → List MO → Prop} (f : D → D) {ds acc : List D} (him : ∀ d ∈ ds, (f d).im = true)
    (h : ∀ d ∈ ds, ∀ (R : QA) (Z : List MO → Prop), R (f d) eta → ga d rho eta fun r1 e1 => tt r1 e1 (fun b e2 => if b = true then te r1 e2 R (fun _ _ _ => False) else Z e2) (fun _ _ _ => False))
    (hq : Q (acc ++ ds.map f) eta) : aLcG ga tt te rho Q ds acc eta := by
  induction ds generalizing acc with
  | nil => simpa [aLcG] using hq
  | cons d ds ih =>
    refine h d List.mem_cons_self (fun y e3 => y.im = true ∧ aLcG ga tt te rho Q ds (acc ++ [y]) e3) (fun e2 => aLcG ga tt te rho Q ds acc e2) ⟨him d List.mem_cons_self, ?_⟩
    exact ih (fun d hd => him d (List.mem_cons_of_mem _ hd)) (fun d hd => h d (List.mem_cons_of_mem _ hd)) (by simpa using hq)
/-! ### a thing equals itself -/
mutual
theorem eqd_refl : ∀ (n : Nat) (d : D), D.pl n d = true → D.eqd d d = true
  | _, .non, _ => rfl
  | _, .bl b, _ => by show (b == b) = true; simp
  | _, .int i, _ => by show (i == i) = true; simp
  | _, .str x, _ => by show (x == x) = true; simp
  | n + 1, .tup xs, h => eqds_refl n xs h
  | n + 1, .fl xs, h => eqds_refl n xs h
  | 0, .tup _, h => by cases h
  | 0, .fl _, h => by cases h
  | _, .rat _, h => by cases h
  | _, .fd _ _, h => by cases h
  | _, .fdt _ _, h => by cases h
  | _, .obj _ _, h => by cases h
  | _, .ref _, h => by cases h
  | _, .cls _, h => by cases h
  | _, .ty _, h => by cases h
  | _, .exn _ _ _ _, h => by cases h
theorem eqds_refl : ∀ (n : Nat) (ds : List D), D.pls n ds = true → D.eqds ds ds = true
  | _, [], _ => rfl
  | n, d :: ds, h => by
    simp only [D.pls, Bool.and_eq_true] at h
    simp only [D.eqds, Bool.and_eq_true]
    exact ⟨eqd_refl n d h.1, eqds_refl n ds h.2⟩
end
theorem i_neR {d : D} {rho : Rho} {eta : List MO} {Q : QA} {EX : EXA} (h1 : D.pl 60 (rsl eta d) = true) (h : Q (.bl false) eta) : raNe d d rho eta Q EX := i_ne_same h1 (eqd_refl 60 _ h1) h
theorem i_eqR {d : D} {rho : Rho} {eta : List MO} {Q : QA} {EX : EXA} (h1 : D.pl 60 (rsl eta d) = true) (h : Q (.bl true) eta) : raEq d d rho eta Q EX := i_eq_same h1 (eqd_refl 60 _ h1) h
end RF
namespace RF
theorem i_neE {d e : D} {rho : Rho} {eta : List MO} {Q : QA} {EX : EXA} (he : d = e) (h1 : D.pl 60 (rsl eta e) = true) (h : Q (.bl false) eta) : raNe d e rho eta Q EX := by subst he; exact i_neR h1 h
theorem i_eqE {d e : D} {rho : Rho} {eta : List MO} {Q : QA} {EX : EXA} (he : d = e) (h1 : D.pl 60 (rsl eta e) = true) (h : Q (.bl true) eta) : raEq d e rho eta Q EX := by subst he; exact i_eqR h1 h
end RF
namespace RF
open PySem PySem.Spec PyProof.Rows L2
/-! ### quotients -/
theorem div_eq (a b : Rat) : a / b = Rat.divInt (a.num * b.den) (a.den * b.num) := by
  rw [Rat.div_def, Rat.inv_def]
  conv => lhs; rw [← Rat.num_divInt_den a]
  rw [Rat.divInt_mul_divInt]
theorem num_ne {b : Rat} (h : b ≠ 0) : b.num ≠ 0 := fun z => h (Rat.num_eq_zero.mp z)
theorem den_num_ne {a b : Rat} (h : b ≠ 0) : (a.den : Int) * b.num ≠ 0 := by
  have h1 := a.den_pos
  exact Int.mul_ne_zero (by omega) (num_ne h)
theorem RB.dn {a b : Rat} {n m : Nat} (ha : RB n a) (hb : RB m b) : ((a.den : Int) * b.num).natAbs < 2 ^ (n + m) := by
  rw [Int.natAbs_mul]
  exact mul_lt_pow ha.den hb.num
theorem RB.div {a b : Rat} {n m : Nat} (ha : RB n a) (hb : RB m b) (h : b ≠ 0) : RB (n + m) (a / b) := by
  rw [div_eq]
  exact RB.divInt (den_num_ne h) (ha.nd hb) (ha.dn hb)
/-- the whole part -/
def flo (q : Rat) : Int := q.num.fdiv q.den
theorem flo_abs (q : Rat) : (flo q).natAbs ≤ q.num.natAbs := natAbs_fdiv_le _ _
theorem RB.flo {q : Rat} {n : Nat} (hn : 0 < n) (h : RB n q) : RB n ((RF.flo q : Int) : Rat) := RB.int hn (Nat.lt_of_le_of_lt (flo_abs q) h.num)
theorem flo_divInt {x y : Int} (hy : y ≠ 0) : flo (Rat.divInt x y) = x.fdiv y := by
  unfold RF.flo
  obtain ⟨e1, e2⟩ := fdiv_gcd_num (t := x) hy
  have hg := rG_ne (t := x) hy
  have dx : rG x y ∣ x := by
    have h : ((Nat.gcd x.natAbs y.natAbs : Nat) : Int) ∣ x := Int.ofNat_dvd_left.mpr (Nat.gcd_dvd_left _ _)
    unfold rG; split
    · exact Int.neg_dvd.mpr h
    · exact h
  have dy : rG x y ∣ y := by
    have h : ((Nat.gcd x.natAbs y.natAbs : Nat) : Int) ∣ y := Int.ofNat_dvd_left.mpr (Nat.gcd_dvd_right _ _)
    unfold rG; split
    · exact Int.neg_dvd.mpr h
    · exact h
  rw [← e1, ← e2]
  generalize rG x y = g at *
  obtain ⟨x', rfl⟩ := dx
  obtain ⟨y', rfl⟩ := dy
  rw [Int.fdiv_eq_of_eq_mul_right hg rfl, Int.fdiv_eq_of_eq_mul_right hg rfl]
  rcases Int.lt_or_gt_of_ne hg with h | h
  · have := Int.mul_fdiv_mul_of_pos (a := -g) (-x') (-y') (by omega)
    rw [Int.neg_mul_neg, Int.neg_mul_neg] at this
    rw [this, Int.neg_fdiv_neg]
  · exact (Int.mul_fdiv_mul_of_pos x' y' h).symm
theorem flo_div {a b : Rat} (h : b ≠ 0) : flo (a / b) = (a.num * b.den).fdiv (a.den * b.num) := by
  rw [div_eq, flo_divInt (den_num_ne h)]
theorem cfdB {i j : Int} {n : Nat} (h0 : j ≠ 0) (h : j.natAbs < 2 ^ n) (hn : 0 < n) (hn2 : n ≤ 9000) : CFd i j := ⟨h0, PyProof.noPylong_of_log2 (Nat.lt_of_lt_of_le (log2_lt_of hn h) hn2)⟩
theorem RB.pow {a : Rat} {n : Nat} (ha : RB n a) : ∀ j : Nat, RB (n * j + 1) (a ^ j)
  | 0 => by rw [Rat.pow_zero]; exact ⟨(by decide : (1 : Int).natAbs < 2 ^ 1), (by decide : (1 : Nat) < 2 ^ 1)⟩
  | j + 1 => by
    rw [Rat.pow_succ]
    exact ((RB.pow ha j).mul ha).mono (by rw [Nat.mul_succ]; omega)
end RF
namespace RF
open PySem PySem.Spec PyProof.Rows L2
theorem i_isNon {rho : Rho} {eta : List MO} {Q : QA} {EX : EXA} (h : Q (.bl true) eta) : raIs false .non .non rho eta Q EX := h
theorem i_isO {d : D} {rho : Rho} {eta : List MO} {Q : QA} {EX : EXA} (hd : d.isN = false) (h : Q (.bl false) eta) : raIs false d .non rho eta Q EX := by
  show Q (.bl (if false = true then !d.isN else d.isN)) eta
  rw [if_neg Bool.false_ne_true, hd]; exact h
theorem i_notNon {rho : Rho} {eta : List MO} {Q : QA} {EX : EXA} (h : Q (.bl false) eta) : raIs true .non .non rho eta Q EX := h
theorem i_notO {d : D} {rho : Rho} {eta : List MO} {Q : QA} {EX : EXA} (hd : d.isN = false) (h : Q (.bl true) eta) : raIs true d .non rho eta Q EX := by
  show Q (.bl (if true = true then !d.isN else d.isN)) eta
  rw [if_pos rfl, hd]; exact h
end RF
namespace RF
open PySem PySem.Spec PyProof.Rows L2
theorem lcg_none {ga : TGa} {tt : TTa} {te : TEa} {rho : Rho} {eta : List MO} {Q : List D → List MO → Prop} {ds acc : List D}
    (h : ∀ d ∈ ds, ∀ (Y : Rho → List MO → Prop) (Z : List MO → Prop), Z eta → ga d rho eta fun r1 e1 => tt r1 e1 (fun b e2 => if b = true then Y r1 e2 else Z e2) (fun _ _ _ => False))
    (hq : Q acc eta) : aLcG ga tt te rho Q ds acc eta := by
  induction ds generalizing acc with
  | nil => exact hq
  | cons d ds ih =>
    exact h d List.mem_cons_self (fun r1 e2 => te r1 e2 (fun y e3 => y.im = true ∧ aLcG ga tt te rho Q ds (acc ++ [y]) e3) (fun _ _ _ => False)) (fun e2 => aLcG ga tt te rho Q ds acc e2) (ih (fun d hd => h d (List.mem_cons_of_mem _ hd)) hq)
theorem rngL_mem : ∀ {n : Nat} {lo : Int} {d : D}, d ∈ rngL lo n → ∃ k : Int, d = .int k ∧ lo ≤ k ∧ k < lo + n
  | 0, _, _, h => by simp [rngL] at h
  | n + 1, lo, d, h => by
    simp only [rngL, List.mem_cons] at h
    rcases h with rfl | h
    · exact ⟨lo, rfl, by omega, by omega⟩
    · obtain ⟨k, e, h1, h2⟩ := rngL_mem h
      exact ⟨k, e, by omega, by omega⟩
end RF
namespace RF
open PySem PySem.Spec PyProof.Rows L2
theorem i_seqN {t u : TSa} {Dn : EndsA} {rho rho' : Rho} {eta eta' : List MO} {EX : EXA} (hr : rho = rho') (he : eta = eta') (h : t { Dn with nx := fun r e => u Dn r e EX } rho' eta' EX) : aSeq t u Dn rho eta EX := by
  subst hr he; exact h
end RF
set_option maxRecDepth 100000
set_option maxHeartbeats 4000000
namespace RF
open PySem PySem.Spec PyProof.Rows L2
section
variable {prog : Program} {w : World} {A : Around} {E : Value → Shared → Prop} {s : Shared} {K : PySem.W.Frag} {x C f : Addr} {ox : Obj} {od : Option Obj}
/-! ### comparisons of ints with own instances -/
structure IntCmp (op : CmpOp) (idl : String) (B : Builtin) : Prop where
  slot : Slot "int" (cmpInfo op).2.1 idl
  entry : entryFor table idl = some B
  args : ∀ a b : Value, argsOk idl ⟨[a, b], []⟩
  gives : ∀ {M : Model} {A : Around} {E : Value → Shared → Prop} {s : Shared} {x : Addr} {ox : Obj} {i : Int} {t : Tok} {Q : Fin → Shared → Prop}, s.heap.get? x = some ox → plainO ox = true → Q (.done (.ret .notImplemented)) s → wpAny M A (B ⟨[.int i t, .ref x], []⟩) Q E s
theorem icmp_lt : IntCmp .Lt "int.__lt__" Builtin.«int.__lt__» := ⟨PySem.F.slot_int_lt, PySem.F.entry_int_lt, PySem.F.args_int_lt_2, fun h hp q => intBinary_ref h hp q⟩
theorem icmp_le : IntCmp .LtE "int.__le__" Builtin.«int.__le__» := ⟨PySem.F.slot_int_le, PySem.F.entry_int_le, PySem.F.args_int_le_2, fun h hp q => intBinary_ref h hp q⟩
theorem icmp_gt : IntCmp .Gt "int.__gt__" Builtin.«int.__gt__» := ⟨PySem.F.slot_int_gt, PySem.F.entry_int_gt, PySem.F.args_int_gt_2, fun h hp q => intBinary_ref h hp q⟩
theorem icmp_ge : IntCmp .GtE "int.__ge__" Builtin.«int.__ge__» := ⟨PySem.F.slot_int_ge, PySem.F.entry_int_ge, PySem.F.args_int_ge_2, fun h hp q => intBinary_ref h hp q⟩
theorem icmp_eq : IntCmp .Eq "int.__eq__" Builtin.«int.__eq__» := ⟨PySem.F.slot_int_eq, PySem.F.entry_int_eq, PySem.F.args_int_eq_2, fun h hp q => intBinary_ref h hp q⟩
theorem icmp_ne : IntCmp .NotEq "int.__ne__" Builtin.«int.__ne__» := ⟨PySem.F.slot_int_ne, PySem.F.entry_int_ne, PySem.F.args_int_ne_2, fun h hp q => intBinary_ref h hp q⟩
/-- what a comparison asks of the instance -/
theorem try_own {name : Str} {b : Value} {Q : Value → Shared → Prop} (X : K.In s.heap) (I : PySem.W.InstAt s.heap x ox C od) (hs : PySem.W.findIn K (.ref C) name = some (some (.ref f))) (hf : PySem.W.isFn K (.ref f) = true)
    (h : wpAny (model prog w) A (call (.ref f) [.ref x, b]) (PySem.W.CmpBack Q) E s) : wpAny (model prog w) A (tryCompare (.ref x) name b) (fun r s' => ∃ v, r = some v ∧ Q v s') E s := by
  unfold tryCompare
  refine wpAny_bind (PySem.W.ifBound_K X I hs hf (wpAny_mono h (fun v s' hv => ?_) fun _ _ e => e))
  cases v <;> first | exact hv.elim | exact wpAny_pure ⟨_, rfl, hv⟩
/-- x op b by what the instance x answers -/
theorem rich_left {op : CmpOp} {b tb : Value} {Q : Value → Shared → Prop} (hu : A.units < cLine) (X : K.In s.heap) (I : PySem.W.InstAt s.heap x ox C od) (hb : PySem.W.Looks (model prog w) s.heap (typeOf b) tb) (hn : PySem.W.notFirst K C tb = true)
    (one : wpAny (model prog w) A (tryCompare (.ref x) (cmpInfo op).2.1 b) (fun r s' => ∃ v, r = some v ∧ Q v s') E s) : wpAny (model prog w) A (richCompare op (.ref x) b) Q E s := by
  have e0 : oneThing? op (.ref x) b = none := rfl
  unfold richCompare
  simp only [e0]
  refine wpAny_holding (wpAny_bind (wpAny_cRoomFor hu ?_))
  refine wpAny_bind (I.type.here (wpAny_bind (hb.here ?_)))
  split
  · rename_i q
    have e : PySem.W.subIn K tb (.ref C) = some false := by
      rcases Bool.or_eq_true_iff.mp hn with e | e
      · rw [beq_iff_eq.mp e] at q; simp at q
      · exact beq_iff_eq.mp e
    refine wpAny_bind ((PySem.W.looks_subIn X e).here ?_)
    simp only [Bool.false_eq_true, if_false]
    refine wpAny_bind (wpAny_mono one (fun r s' z => ?_) fun _ _ e => e)
    obtain ⟨v, rfl, hq⟩ := z
    exact wpAny_pure hq
  · refine wpAny_bind (wpAny_pure ?_)
    simp only [Bool.false_eq_true, if_false]
    refine wpAny_bind (wpAny_mono one (fun r s' z => ?_) fun _ _ e => e)
    obtain ⟨v, rfl, hq⟩ := z
    exact wpAny_pure hq
/-- i op x by what the instance x answers -/
theorem rich_right {op : CmpOp} {idl : String} {B : Builtin} {i : Int} {t : Tok} {Q : Value → Shared → Prop} (O : IntCmp op idl B) (hu : A.units < cLine) (X : K.In s.heap) (I : PySem.W.InstAt s.heap x ox C od) (hp : plainO ox = true) (hsub : PySem.W.subIn K (.ref C) (.type "int") = some false)
    (one : wpAny (model prog w) A (tryCompare (.ref x) (cmpInfo op).2.2 (.int i t)) (fun r s' => ∃ v, r = some v ∧ Q v s') E s) : wpAny (model prog w) A (richCompare op (.int i t) (.ref x)) Q E s := by
  obtain ⟨O2, O3, O4, O5⟩ := O
  have no : ∀ {Q' : Option Value → Shared → Prop}, Q' none s → wpAny (model prog w) A (tryCompare (.int i t) (cmpInfo op).2.1 (.ref x)) Q' E s := fun {Q'} q =>
    wpAny_tryCompare_declines (typeIs_int _ _ _) O2 (wpAny_call_entry O2 (typeIs_int _ _ _) O3 (O5 I.at_ hp ⟨_, rfl, rfl, q⟩) (O4 _ _))
  have e0 : oneThing? op (.int i t) (.ref x) = none := rfl
  have hne : (Value.type "int" != Value.ref C) = true := by simp
  unfold richCompare
  simp only [e0]
  refine wpAny_holding (wpAny_bind (wpAny_cRoomFor hu ?_))
  refine wpAny_bind (wpAny_typeOf (typeIs_int _ _ _) (wpAny_bind (I.type.here ?_)))
  rw [if_pos hne]
  refine wpAny_bind ((PySem.W.looks_subIn X hsub).here ?_)
  simp only [Bool.false_eq_true, if_false]
  refine wpAny_bind (no ?_)
  dsimp only
  rw [if_pos (by rfl)]
  refine wpAny_bind (wpAny_mono one (fun r s' z => ?_) fun _ _ e => e)
  obtain ⟨v, rfl, hq⟩ := z
  exact wpAny_pure hq
/-- x != b by what x's own == answers -/
theorem try_ne {b : Value} {Q : Value → Shared → Prop} (hu : A.in1.units < cLine) (X : K.In s.heap) (I : PySem.W.InstAt s.heap x ox C od) (hn : PySem.W.findIn K (.ref C) "__ne__" = some (some (.builtin "object.__ne__"))) (hm : PySem.W.mroIn K C (.type "object") = some true)
    (hs : PySem.W.findIn K (.ref C) "__eq__" = some (some (.ref f))) (hf : PySem.W.isFn K (.ref f) = true)
    (h : wpAny (model prog w) A.in1 (call (.ref f) [.ref x, b]) (fun r s' => ∃ c, r = .bool c ∧ Q (.bool (!c)) s') E s) : wpAny (model prog w) A (tryCompare (.ref x) "__ne__" b) (fun r s' => ∃ v, r = some v ∧ Q v s') E s := by
  have go : wpAny (model prog w) A (call (.builtin "object.__ne__") [.ref x, b]) (fun r s' => ∃ c, r = .bool c ∧ Q (.bool c) s') E s := by
    refine wpAny_call (codeAny_call_builtin PySem.F.slot_object_ne.plain PySem.F.cmpEntry_ne (PySem.W.check_slot (i := "object.__ne__") (owner := "object") (n := "__ne__") (by decide +kernel) (by decide +kernel) (I.type.andThen (PySem.W.looks_mroIn X hm)) (PySem.F.cmpArgs_ne _ _) ?_))
    unfold Builtin.«object.__ne__»
    refine wpAny_bind (wpAny_of_eq (a := ((Value.ref x : Value), [b])) (by first | rfl | (simp only [slotArgs]; rfl)) ?_)
    dsimp only
    refine wpAny_bind (wpAny_cRoomFor hu ?_)
    refine wpAny_bind (PySem.W.ifBound_K X I hs hf (wpAny_mono h (fun v s' hv => ?_) fun _ _ e => e))
    obtain ⟨c, rfl, q⟩ := hv
    dsimp only
    exact wpAny_bind (wpAny_truthy_bool (wpAny_pure ⟨!c, rfl, q⟩))
  unfold tryCompare
  refine wpAny_bind ?_
  simp only [callSpecialIfBound?, bindSpecialIfBound?]
  refine wpAny_holding (wpAny_bind (wpAny_bind (wpAny_bind (I.type.here ((PySem.W.looks_findIn X hn).here ?_)))))
  refine wpAny_bind (wpAny_askSetting (wpAny_ite ?_))
  have fin : wpAny (model prog w) A (call (.builtin "object.__ne__") ([.ref x] ++ [b]) >>= fun v => pure (some v)) (fun a s' => wpAny (model prog w) A (match a with | some .notImplemented | none => pure none | some v => pure (some v)) (fun r s' => ∃ v, r = some v ∧ Q v s') E s') E s :=
    wpAny_bind (wpAny_mono go (fun v s' hv => by obtain ⟨c, rfl, q⟩ := hv; exact wpAny_pure (wpAny_pure ⟨_, rfl, q⟩)) fun _ _ h' => h')
  split
  · rw [PySem.F.slot_object_ne.bind]
    exact wpAny_bind (wpAny_pure (wpAny_pure (by exact fin)))
  · rw [PySem.F.slot_object_ne.bind]
    exact wpAny_tryCatch (wpAny_bind (wpAny_pure (wpAny_pure (by exact fin))))
end
end RF
set_option maxRecDepth 100000
set_option maxHeartbeats 4000000
namespace RF
open PySem PySem.Spec PyProof.Rows L2
/-! ### comparisons of Ratios -/
structure OwnC (K : PySem.W.Frag) (C : Addr) (m : Str) (f : Addr) : Prop where
  hs : PySem.W.findIn K (.ref C) m = some (some (.ref f))
  hf : PySem.W.isFn K (.ref f) = true
  subT : PySem.W.subIn K (.type "int") (.ref C) = some false
  subI : PySem.W.subIn K (.ref C) (.type "int") = some false
def ownCB (K : PySem.W.Frag) (C : Addr) (m : Str) : Bool := isRef (PySem.W.findIn K (.ref C) m) && (PySem.W.isFn K (.ref (adrOf (PySem.W.findIn K (.ref C) m))) && (decide (PySem.W.subIn K (.type "int") (.ref C) = some false) && decide (PySem.W.subIn K (.ref C) (.type "int") = some false)))
theorem ownCB_ok {K : PySem.W.Frag} {C : Addr} {m : Str} (h : ownCB K C m = true) : OwnC K C m (adrOf (PySem.W.findIn K (.ref C) m)) := by
  unfold ownCB at h
  simp only [Bool.and_eq_true, decide_eq_true_eq] at h
  exact ⟨isRef_eq h.1, h.2.1, h.2.2.1, h.2.2.2⟩
structure OwnN (K : PySem.W.Frag) (C : Addr) : Prop where
  ne : PySem.W.findIn K (.ref C) "__ne__" = some (some (.builtin "object.__ne__"))
  mro : PySem.W.mroIn K C (.type "object") = some true
def ownNB (K : PySem.W.Frag) (C : Addr) : Bool := decide (PySem.W.findIn K (.ref C) "__ne__" = some (some (.builtin "object.__ne__"))) && decide (PySem.W.mroIn K C (.type "object") = some true)
theorem ownNB_ok {K : PySem.W.Frag} {C : Addr} (h : ownNB K C = true) : OwnN K C := by
  unfold ownNB at h
  simp only [Bool.and_eq_true, decide_eq_true_eq] at h
  exact ⟨h.1, h.2⟩
section
variable {X : Cx} {W : Wd} {Wx : WX}
theorem notFirst_self {K : PySem.W.Frag} {C : Addr} : PySem.W.notFirst K C (.ref C) = true := by
  unfold PySem.W.notFirst; simp
theorem notFirst_int {K : PySem.W.Frag} {C : Addr} (h : PySem.W.subIn K (.type "int") (.ref C) = some false) : PySem.W.notFirst K C (.type "int") = true := by
  unfold PySem.W.notFirst; rw [h]; simp
/-- the left one is asked: op of two Ratios, of a Ratio and an int -/
theorem oa_cmpL {k : Nat} {C f : Addr} {op : CmpOp} {S : SpA} {m : Str} (hop : ∀ a b, compareOp op a b = richCompare op a b) (hm : (cmpInfo op).2.1 = m) (hC : W.cl 0 = C) (O : OwnC X.K C m f) (F : FnR X.prog X.w X.K X.mg X.base (L2.CX X.prog X.w) k f (spOf W S)) (hr : Room k X.A) (tk : Takes X Wx) :
    OpA X W Wx (compareOp op) (raOwnL S) := fun pins s σ H th rho eta x y v u d e Qa EX I S' xo rx ry Rd Re hq => by
  subst hm
  rw [hop]
  unfold raOwnL at hq
  have hu : X.A.units < cLine := by have := hr.un; omega
  split at hq
  · rename_i q1 q2
    obtain ⟨a, rfl, R1⟩ := Rd
    obtain ⟨b, rfl, R2⟩ := Re
    obtain rfl : v = Value.ref a := rx
    obtain rfl : u = Value.ref b := ry
    obtain ⟨dx, sl, od, rs, J, _⟩ := rat_inst I R1
    obtain ⟨dx2, sl2, od2, rs2, J2, _⟩ := rat_inst I R2
    rw [hC] at J J2
    refine rich_left hu I.kIn J J2.type notFirst_self (try_own I.kIn J O.hs O.hf ?_)
    exact wpAny_mono (cl_fn F hr tk pins s σ H th rho eta [.ref a, .ref b] [.ref a, .ref b] [.rat q1, .rat q2] Qa EX I S' xo (.cons rfl (.cons rfl .nil)) ⟨_, _, rfl, ⟨a, rfl, R1⟩, _, _, rfl, ⟨b, rfl, R2⟩, rfl⟩ hq) (fun _ _ z => epa_back z) fun _ _ z => z
  · rename_i q1 i
    obtain ⟨a, rfl, R1⟩ := Rd
    have Re' : y = _ := Re
    subst Re'
    obtain rfl : v = Value.ref a := rx
    obtain ⟨t, rfl⟩ := ry
    obtain ⟨dx, sl, od, rs, J, _⟩ := rat_inst I R1
    rw [hC] at J
    refine rich_left (tb := .type "int") hu I.kIn J (PySem.W.Looks.of_pure rfl) (notFirst_int O.subT) (try_own I.kIn J O.hs O.hf ?_)
    exact wpAny_mono (cl_fn F hr tk pins s σ H th rho eta [.ref a, .int i] [.ref a, .int i t] [.rat q1, .int i] Qa EX I S' xo (.cons rfl (.cons ⟨t, rfl⟩ .nil)) ⟨_, _, rfl, ⟨a, rfl, R1⟩, _, _, rfl, rfl, rfl⟩ hq) (fun _ _ z => epa_back z) fun _ _ z => z
  · exact hq.elim
/-- the right one is asked: op of an int and a Ratio -/
theorem oa_cmpR {k : Nat} {C f : Addr} {op : CmpOp} {idl : String} {B : Builtin} {S : SpA} {m : Str} (io : IntCmp op idl B) (hop : ∀ a b, compareOp op a b = richCompare op a b) (hm : (cmpInfo op).2.2 = m) (hC : W.cl 0 = C) (O : OwnC X.K C m f) (F : FnR X.prog X.w X.K X.mg X.base (L2.CX X.prog X.w) k f (spOf W S)) (hr : Room k X.A) (tk : Takes X Wx) :
    OpA X W Wx (compareOp op) (raOwnR S) := fun pins s σ H th rho eta x y v u d e Qa EX I S' xo rx ry Rd Re hq => by
  subst hm
  rw [hop]
  unfold raOwnR at hq
  have hu : X.A.units < cLine := by have := hr.un; omega
  split at hq
  · rename_i i q1
    obtain ⟨a, rfl, R1⟩ := Re
    have Rd' : x = _ := Rd
    subst Rd'
    obtain rfl : u = Value.ref a := ry
    obtain ⟨t, rfl⟩ := rx
    obtain ⟨dx, sl, od, rs, J, _⟩ := rat_inst I R1
    rw [hC] at J
    refine rich_right io hu I.kIn J rfl O.subI (try_own I.kIn J O.hs O.hf ?_)
    exact wpAny_mono (cl_fn F hr tk pins s σ H th rho eta [.ref a, .int i] [.ref a, .int i t] [.rat q1, .int i] Qa EX I S' xo (.cons rfl (.cons ⟨t, rfl⟩ .nil)) ⟨_, _, rfl, ⟨a, rfl, R1⟩, _, _, rfl, rfl, rfl⟩ hq) (fun _ _ z => epa_back z) fun _ _ z => z
  · exact hq.elim
/-- != by the own == -/
def neQ (Q : QA) : QA := fun d eta => match d with
  | .bl b => Q (.bl (!b)) eta
  | _ => False
def raNeOwn (S : SpA) : R2a := fun d e rho eta Q EX => match d, e with
  | .rat _, .rat _ => raCall S [d, e] rho eta (neQ Q) EX
  | .rat _, .int _ => raCall S [d, e] rho eta (neQ Q) EX
  | .int _, .rat _ => raCall S [e, d] rho eta (neQ Q) EX
  | _, _ => False
theorem epa_ne {pins : List (Addr × Obj)} {σ : L2.St} {th : List Addr} {H : Hp} {rho : Rho} {Qa : QA} {u : Value} {s' : Shared} (h : EPa X W pins σ th H rho (neQ Qa) u s') : ∃ c, u = .bool c ∧ EPa X W pins σ th H rho Qa (.bool (!c)) s' := by
  obtain ⟨v, th', H', d, eta', I', r, g, S', R, q⟩ := h
  unfold neQ at q
  split at q
  · rename_i c
    have e : v = _ := R
    subst e
    obtain rfl : u = Value.bool c := r
    exact ⟨c, rfl, .bl (!c), th', H', .bl (!c), eta', I', rfl, g, S', rfl, q⟩
  · exact q.elim
theorem oa_neOwn {k : Nat} {C f : Addr} {S : SpA} (hC : W.cl 0 = C) (O : OwnC X.K C "__eq__" f) (N : OwnN X.K C) (F : FnR X.prog X.w X.K X.mg X.base (L2.CX X.prog X.w) k f (spOf W S)) (hr : Room (k + 1) X.A) (tk : Takes X Wx) :
    OpA X W Wx (compareOp .NotEq) (raNeOwn S) := fun pins s σ H th rho eta x y v u d e Qa EX I S' xo rx ry Rd Re hq => by
  show wpAny _ _ (richCompare .NotEq v u) _ _ _
  unfold raNeOwn at hq
  have hu : X.A.units < cLine := by have := hr.un; omega
  have hu1 : X.A.in1.units < cLine := by have := hr.in1.un; omega
  split at hq
  · rename_i q1 q2
    obtain ⟨a, rfl, R1⟩ := Rd
    obtain ⟨b, rfl, R2⟩ := Re
    obtain rfl : v = Value.ref a := rx
    obtain rfl : u = Value.ref b := ry
    obtain ⟨dx, sl, od, rs, J, _⟩ := rat_inst I R1
    obtain ⟨dx2, sl2, od2, rs2, J2, _⟩ := rat_inst I R2
    rw [hC] at J J2
    refine rich_left hu I.kIn J J2.type notFirst_self (try_ne hu1 I.kIn J N.ne N.mro O.hs O.hf ?_)
    exact wpAny_mono (cl_fn_at (A' := X.A.in1) F hr.in1 tk (fun I => I.env0.in1) pins s σ H th rho eta [.ref a, .ref b] [.ref a, .ref b] [.rat q1, .rat q2] _ EX I S' xo (.cons rfl (.cons rfl .nil)) ⟨_, _, rfl, ⟨a, rfl, R1⟩, _, _, rfl, ⟨b, rfl, R2⟩, rfl⟩ hq) (fun _ _ z => epa_ne z) fun _ _ z => z
  · rename_i q1 i
    obtain ⟨a, rfl, R1⟩ := Rd
    have Re' : y = _ := Re
    subst Re'
    obtain rfl : v = Value.ref a := rx
    obtain ⟨t, rfl⟩ := ry
    obtain ⟨dx, sl, od, rs, J, _⟩ := rat_inst I R1
    rw [hC] at J
    refine rich_left (tb := .type "int") hu I.kIn J (PySem.W.Looks.of_pure rfl) (notFirst_int O.subT) (try_ne hu1 I.kIn J N.ne N.mro O.hs O.hf ?_)
    exact wpAny_mono (cl_fn_at (A' := X.A.in1) F hr.in1 tk (fun I => I.env0.in1) pins s σ H th rho eta [.ref a, .int i] [.ref a, .int i t] [.rat q1, .int i] _ EX I S' xo (.cons rfl (.cons ⟨t, rfl⟩ .nil)) ⟨_, _, rfl, ⟨a, rfl, R1⟩, _, _, rfl, rfl, rfl⟩ hq) (fun _ _ z => epa_ne z) fun _ _ z => z
  · rename_i i q1
    obtain ⟨a, rfl, R1⟩ := Re
    have Rd' : x = _ := Rd
    subst Rd'
    obtain rfl : u = Value.ref a := ry
    obtain ⟨t, rfl⟩ := rx
    obtain ⟨dx, sl, od, rs, J, _⟩ := rat_inst I R1
    rw [hC] at J
    refine rich_right icmp_ne hu I.kIn J rfl O.subI (try_ne hu1 I.kIn J N.ne N.mro O.hs O.hf ?_)
    exact wpAny_mono (cl_fn_at (A' := X.A.in1) F hr.in1 tk (fun I => I.env0.in1) pins s σ H th rho eta [.ref a, .int i] [.ref a, .int i t] [.rat q1, .int i] _ EX I S' xo (.cons rfl (.cons ⟨t, rfl⟩ .nil)) ⟨_, _, rfl, ⟨a, rfl, R1⟩, _, _, rfl, rfl, rfl⟩ hq) (fun _ _ z => epa_ne z) fun _ _ z => z
  · exact hq.elim
/-- one reading for !=: plain data, Ratios -/
def raNeW (S : SpA) : R2a := fun d e rho eta Q EX => match d, e with
  | .rat a, .rat b => raCall S [.rat a, .rat b] rho eta (neQ Q) EX
  | .rat a, .int b => raCall S [.rat a, .int b] rho eta (neQ Q) EX
  | .int a, .rat b => raCall S [.rat b, .int a] rho eta (neQ Q) EX
  | d, e => raNe d e rho eta Q EX
theorem oa_neW {S : SpA} (h0 : OpA X W Wx (compareOp .NotEq) raNe) (h : OpA X W Wx (compareOp .NotEq) (raNeOwn S)) : OpA X W Wx (compareOp .NotEq) (raNeW S) :=
  fun pins s σ H th rho eta x y v u d e Qa EX I S' xo rx ry Rd Re hq => by
    unfold raNeW at hq
    split at hq
    · exact h pins s σ H th rho eta x y v u _ _ Qa EX I S' xo rx ry Rd Re hq
    · exact h pins s σ H th rho eta x y v u _ _ Qa EX I S' xo rx ry Rd Re hq
    · exact h pins s σ H th rho eta x y v u _ _ Qa EX I S' xo rx ry Rd Re hq
    · exact h0 pins s σ H th rho eta x y v u _ _ Qa EX I S' xo rx ry Rd Re hq
end
end RF
set_option maxRecDepth 100000
set_option maxHeartbeats 4000000
namespace RF
open PySem PySem.Spec PyProof.Rows L2
section
variable {prog : Program} {w : World} {A : Around} {E : Value → Shared → Prop} {s : Shared} {K : PySem.W.Frag} {x C f : Addr} {ox : Obj} {od : Option Obj}
/-- bool(x) by x's own __bool__ -/
theorem bool_own {Q : Value → Shared → Prop} {h₀ : Heap} {L : Addr} {m : Str → Option Value} (F0 : Fr h₀ L s.heap m) (X₀ : K.In h₀) (I : PySem.W.InstAt s.heap x ox C od) (hs : PySem.W.findIn K (.ref C) "__bool__" = some (some (.ref f))) (hf : PySem.W.isFn K (.ref f) = true)
    (h : wpAny (model prog w) A.in1.in1 (call (.ref f) [.ref x]) (PySem.W.BoolBack fun b s' => Q (.bool b) s') E s) : wpAny (model prog w) A (call (.type "bool") [.ref x]) Q E s := by
  refine callType_codes (T := "bool") (Bi := Builtin.«object.__init__») (Q₁ := fun r s₁ => ∃ b, r = .bool b ∧ Q r s₁) PySem.F.called_bool (PySem.F.typeCall_bool_1 _) PySem.F.entry_object_init ?_ ?_
  · refine codeAny_of_tree ?_
    show wpAny _ A.in1.in1 (do checkBuiltinCall "bool.__new__" ⟨[.type "bool", .ref x], []⟩; again (.builtin "bool.__new__" ⟨[.type "bool", .ref x], []⟩)) _ _ s
    refine wpAny_bind (wpAny_of_eq (PySem.F.newCall_bool_1 _) (wpAny_pure ⟨plainId_quiet (by decide +kernel) _, codeAny_builtin PySem.F.entry_bool_new ?_⟩))
    rw [Around.under_plainId (by decide +kernel) _]
    unfold Builtin.«bool.__new__»
    refine wpAny_bind (wpAny_of_eq (a := true) rfl ?_)
    refine wpAny_ite_false rfl ?_
    refine wpAny_bind (wpAny_of_eq (a := true) PySem.F.conv_sub_bool ?_)
    refine wpAny_ite_false rfl ?_
    refine wpAny_bind (wpAny_of_eq (a := [Value.ref x]) rfl ?_)
    refine wpAny_bind (PySem.W.truthy_K F0 X₀ I hs hf (wpAny_mono h (fun r s' hr => ?_) fun _ _ y => y))
    cases r <;> first | exact hr.elim | exact wpAny_pure ⟨_, rfl, hr⟩
  · rintro obj s₁ ⟨b, rfl, hq⟩
    exact ⟨PySem.typeIs_bool _ _, PySem.F.args_object_init_2 _ _, object_init_meets PySem.F.called_bool.init.lookup PySem.F.called_bool.made (by decide) prog w A.in1 _ s₁ ⟨PySem.typeIs_bool _ _, rfl, hq⟩⟩
end
section
variable {X : Cx} {W : Wd} {Wx : WX}
def boolQ (Q : QA) : QA := fun d eta => match d with
  | .bl b => Q (.bl b) eta
  | _ => False
def raBoolR (S : SpA) : RNa := fun ds rho eta Q EX => match ds with
  | [.int i] => Q (.bl (i != 0)) eta
  | [.bl b] => Q (.bl b) eta
  | [.rat q] => raCall S [.rat q] rho eta (boolQ Q) EX
  | _ => False
theorem ca_boolR {k : Nat} {C f : Addr} {S : SpA} (hC : W.cl 0 = C) (O : OwnU X.K C "__bool__" f) (F : FnR X.prog X.w X.K X.mg X.base (L2.CX X.prog X.w) k f (spOf W S)) (hr : Room (k + 2) X.A) (tk : Takes X Wx) : ClA X W Wx (.type "bool") (raBoolR S) :=
  fun pins s σ H th rho eta xs us ds Qa EX I S' xo rx Rd hq => by
    unfold raBoolR at hq
    split at hq
    · exact ca_bool pins s σ H th rho eta xs us _ Qa EX I S' xo rx Rd hq
    · exact ca_bool pins s σ H th rho eta xs us _ Qa EX I S' xo rx Rd hq
    · rename_i q1
      obtain ⟨v, rfl, Rd1⟩ := Rd.one
      obtain ⟨a, rfl, R1⟩ := Rd1
      cases rx with
      | cons r1 rr =>
        cases rr
        rename_i u
        obtain rfl : u = Value.ref a := r1
        obtain ⟨dx, sl, od, rs, J, _⟩ := rat_inst I R1
        rw [hC] at J
        obtain ⟨m, F0⟩ := I.fr
        refine bool_own F0 I.ok.mod.kin J O.hs O.hf (wpAny_mono (cl_fn_at (A' := X.A.in1.in1) F hr.in1.in1 tk (fun I => I.env0.in1.in1) pins s σ H th rho eta [.ref a] [.ref a] [.rat q1] _ EX I S' xo (.cons rfl .nil) ⟨_, _, rfl, ⟨a, rfl, R1⟩, rfl⟩ hq) (fun z s' hz => ?_) fun _ _ z => z)
        obtain ⟨v, th', H', d, eta', I', r, g, S'', R', q⟩ := hz
        unfold boolQ at q
        split at q
        · have e : v = _ := R'
          subst e
          obtain rfl : z = Value.bool _ := r
          exact ⟨.bl _, th', H', .bl _, eta', I', rfl, g, S'', rfl, q⟩
        · exact q.elim
    · exact hq.elim
/-! steps -/
variable {rho : Rho} {eta : List MO} {EX : EXA} {Q : QA}
theorem i_boolR {S : SpA} {q : Rat} (h : raCall S [.rat q] rho eta (boolQ Q) EX) : raBoolR S [.rat q] rho eta Q EX := h
theorem i_boolQ {b : Bool} (h : Q (.bl b) eta) : boolQ Q (.bl b) eta := h
theorem i_bool1 {S : SpA} {i : Int} (h : Q (.bl (i != 0)) eta) : raBoolR S [.int i] rho eta Q EX := h
theorem i_bool2 {S : SpA} {b : Bool} (h : Q (.bl b) eta) : raBoolR S [.bl b] rho eta Q EX := h
theorem i_neQ {b : Bool} (h : Q (.bl (!b)) eta) : neQ Q (.bl b) eta := h
theorem i_neRR {S : SpA} {a b : Rat} (h : raCall S [.rat a, .rat b] rho eta (neQ Q) EX) : raNeW S (.rat a) (.rat b) rho eta Q EX := h
theorem i_neRI {S : SpA} {a : Rat} {b : Int} (h : raCall S [.rat a, .int b] rho eta (neQ Q) EX) : raNeW S (.rat a) (.int b) rho eta Q EX := h
theorem i_neIR {S : SpA} {a : Int} {b : Rat} (h : raCall S [.rat b, .int a] rho eta (neQ Q) EX) : raNeW S (.int a) (.rat b) rho eta Q EX := h
theorem i_neLL {S : SpA} {a b : List D} (h : raNe (.fl a) (.fl b) rho eta Q EX) : raNeW S (.fl a) (.fl b) rho eta Q EX := h
theorem i_neBB {S : SpA} {a b : Bool} (h : raNe (.bl a) (.bl b) rho eta Q EX) : raNeW S (.bl a) (.bl b) rho eta Q EX := h
theorem i_neII {S : SpA} {a b : Int} (h : raNe (.int a) (.int b) rho eta Q EX) : raNeW S (.int a) (.int b) rho eta Q EX := h
theorem i_neTT {S : SpA} {a b : List D} (h : raNe (.tup a) (.tup b) rho eta Q EX) : raNeW S (.tup a) (.tup b) rho eta Q EX := h
end
end RF
set_option maxRecDepth 100000
set_option maxHeartbeats 4000000
namespace RF
open PySem PySem.Spec PyProof.Rows L2
/-! ### instances of own classes that have a dict -/
def fldIx (f : Str) (c : Nat) : Option Nat := (fldNames c).findIdx? (fun g => g == f)
structure InsC (K : PySem.W.Frag) (W : Wd) (c : Nat) : Prop where
  cl : Cls K (W.cl c)
  no : ∀ f ∈ fldNames c, NoAttr K (W.cl c) f
  fl : W.fld c = fldNames c
  hf : (fldNames c).length < 1000
/-- its class, its fields' data -/
def insD (eta : List MO) : D → Option (Nat × List D)
  | .obj c ds => some (c, ds)
  | .ref n => (match eta[n]? with
    | some (.ins c ds) => some (c, ds)
    | _ => none)
  | _ => none
theorem fldIx_mem {f : Str} {c j : Nat} (h : fldIx f c = some j) : f ∈ fldNames c ∧ j < (fldNames c).length := by
  obtain ⟨hj, e, _⟩ := List.findIdx?_eq_some_iff_getElem.mp h
  have : (fldNames c)[j] = f := by simpa using e
  exact ⟨by rw [← this]; exact List.getElem_mem hj, hj⟩
theorem lookup_zipP {f : Str} : ∀ {l : List Str} {ws : List V} {j : Nat} {v : V}, l.findIdx? (fun g => g == f) = some j → ws[j]? = some v → (l.zip ws).lookup f = some v
  | [], _, j, v, h, _ => by simp at h
  | g :: l, [], j, v, h, e => by simp at e
  | g :: l, u :: ws, j, v, h, e => by
    rw [List.findIdx?_cons] at h
    by_cases q : g = f
    · subst q
      simp at h
      subst h
      simp at e
      subst e
      simp [List.zip_cons_cons, List.lookup]
    · have qb : (g == f) = false := by simpa using q
      rw [qb] at h
      simp at h
      obtain ⟨i, hi, rfl⟩ := h
      have qc : (f == g) = false := by simpa using Ne.symm q
      simp only [List.zip_cons_cons, List.lookup, qc]
      exact lookup_zipP hi (by simpa using e)
theorem lookup_zipN {f : Str} : ∀ {l : List Str} {ws : List V}, l.contains f = false → (l.zip ws).lookup f = none
  | [], _, _ => by simp
  | g :: l, [], _ => by simp
  | g :: l, u :: ws, h => by
    simp only [List.contains_cons, Bool.or_eq_false_iff] at h
    simp only [List.zip_cons_cons, List.lookup, h.1]
    exact lookup_zipN h.2
theorem putF_zip {f : Str} {y : V} : ∀ {l : List Str} {ws : List V} {j : Nat}, l.findIdx? (fun g => g == f) = some j → j ≤ ws.length → putF f y (l.zip ws) = l.zip (if j < ws.length then ws.set j y else ws ++ [y])
  | [], _, j, h, _ => by simp at h
  | g :: l, ws, j, h, hj => by
    rw [List.findIdx?_cons] at h
    by_cases q : g = f
    · subst q
      simp at h
      subst h
      cases ws with
      | nil => simp [putF]
      | cons u ws => simp [putF]
    · have qb : (g == f) = false := by simpa using q
      rw [qb] at h
      simp at h
      obtain ⟨i, hi, rfl⟩ := h
      cases ws with
      | nil => simp at hj
      | cons u ws =>
        have hi2 : i ≤ ws.length := by simpa using hj
        have ih := putF_zip (y := y) hi hi2
        simp only [List.zip_cons_cons, putF, if_neg q, ih]
        by_cases hlt : i < ws.length
        · rw [if_pos hlt, if_pos (by simpa using hlt)]
          simp
        · rw [if_neg hlt, if_neg (by simpa using hlt)]
          simp
section
variable {X : Cx} {W : Wd} {Wx : WX}
theorem RepTs.get {th : List Addr} {H : Hp} : ∀ {ds : List D} {vs : List V} {i : Nat} {d : D}, RepTs W th H ds vs → ds[i]? = some d → ∃ v, vs[i]? = some v ∧ RepT W th H d v
  | [], _, i, d, _, e => by simp at e
  | x :: ds, _, 0, d, ⟨v, r, e1, h1, h2⟩, e => by simp at e; subst e; exact ⟨v, by rw [e1]; rfl, h1⟩
  | x :: ds, _, i + 1, d, ⟨v, r, e1, h1, h2⟩, e => by
    obtain ⟨w, e2, r2⟩ := RepTs.get (i := i) h2 (by simpa using e)
    exact ⟨w, by rw [e1]; simpa using e2, r2⟩
theorem RepTs.set {th : List Addr} {H : Hp} {d : D} {v : V} (r : RepT W th H d v) : ∀ {ds : List D} {vs : List V} (j : Nat), RepTs W th H ds vs → RepTs W th H (ds.set j d) (vs.set j v)
  | [], _, j, h => by have h : _ = _ := h; subst h; exact rfl
  | x :: ds, _, 0, ⟨u, z, e, h1, h2⟩ => by subst e; exact ⟨v, z, rfl, r, h2⟩
  | x :: ds, _, j + 1, ⟨u, z, e, h1, h2⟩ => by subst e; exact ⟨u, z.set j v, rfl, h1, RepTs.set r j h2⟩
theorem RepTs.snoc {th : List Addr} {H : Hp} {d : D} {v : V} (r : RepT W th H d v) : ∀ {ds : List D} {vs : List V}, RepTs W th H ds vs → RepTs W th H (ds ++ [d]) (vs ++ [v])
  | [], _, h => by have h : _ = _ := h; subst h; exact ⟨v, [], rfl, r, rfl⟩
  | x :: ds, _, ⟨u, z, e, h1, h2⟩ => by subst e; exact ⟨u, z ++ [v], rfl, h1, RepTs.snoc r h2⟩
theorem insD_at {th : List Addr} {H : Hp} {eta : List MO} {d : D} {v : V} {c : Nat} {ds : List D} (S : SRh W th H eta) (R : RepT W th H d v) (h : insD eta d = some (c, ds)) :
    ∃ a dx vs, v = .ref a ∧ Rd H a (.ins (W.cl c) dx ((W.fld c).zip vs)) ∧ vs.length ≤ (W.fld c).length ∧ RepTs W th H ds vs := by
  cases d with
  | obj c' ds' =>
    cases h
    obtain ⟨a, o, dx, vs, rfl, e, l, r⟩ := R
    exact ⟨a, dx, vs, rfl, .inr ⟨o, e⟩, by omega, RepTs.of r⟩
  | ref n =>
    obtain ⟨a, ea, rfl⟩ := R
    unfold insD at h
    dsimp only at h
    cases q : eta[n]? with
    | none => rw [q] at h; cases h
    | some mo =>
      rw [q] at h
      cases mo with
      | ins c' ds' =>
        cases h
        obtain ⟨b, ho, e1, e2, dx, vs, rfl, l, r⟩ := S.obj n _ q
        rw [ea] at e1; cases e1
        exact ⟨a, dx, vs, rfl, .inl e2, l, r⟩
      | _ => cases h
  | _ => cases h
/-- its object in the heap -/
theorem ins_inst {pins : List (Addr × Obj)} {σ : L2.St} {H : Hp} {s : Shared} {a C dx : Addr} {fs : List (Str × V)} (I : Inv X pins σ H s) (e : Rd H a (.ins C dx fs)) :
    ∃ od, PySem.W.InstAt s.heap a (PySem.W.instObj C dx) C (some od) ∧ ∀ f, fs.lookup f = none → PySem.W.lookIn f od = some none := by
  obtain ⟨_, _, ne, ob, mA, n, r, _⟩ := (show ObjOk X.prog X.w H s.heap a (.ins C dx fs) from e.ok I.hok)
  obtain ⟨od, J, hl⟩ := ObjM.look (C := C) ⟨ob, n, ne⟩
  exact ⟨od, J, fun f hf => by have hr := r f; rw [hf] at hr; rw [hl f, RelO.none_of hr]⟩
theorem getattr_rd {pins : List (Addr × Obj)} {σ : L2.St} {H : Hp} {s : Shared} {a C dx : Addr} {fs : List (Str × V)} {f : Str} {v : V} {b : Bool} {A : Around} {E : Value → Shared → Prop} {Q : Value → Shared → Prop} (I : Inv X pins σ H s) (e : Rd H a (.ins C dx fs)) (c : Cls X.K C) (n : NoAttr X.K C f) (l : fs.lookup f = some v)
    (h : ∀ u s', Inv X pins σ H s' → RelV v u → Q u s') : wpAny (model X.prog X.w) A (getAttr (.ref a) f b) Q E s := by
  obtain ⟨_, _, ne, ob, mA, n', r, _⟩ := (show ObjOk X.prog X.w H s.heap a (.ins C dx fs) from e.ok I.hok)
  have hr := r f
  rw [l] at hr
  obtain ⟨u, hu, ru⟩ := RelO.some_of hr
  have hx : RF.CT 0 0 := trivial
  exact L2.get_map (mA := mA) I.kIn ⟨ob, n', ne⟩ (c.get f) c.hd n hu (handed_of ru) (h u _ (I.tok _) ru)
/-! fields read -/
def fldOQ (f : Str) (cs : List Nat) (Q : QA) : QA := fun d eta => match insD eta d with
  | some (c, ds) => cs.contains c = true ∧ (match fldIx f c with
    | some j => (match ds[j]? with
      | some x => Q x eta
      | none => False)
    | none => False)
  | none => False
def aFld (f : Str) (cs : List Nat) (t : TEa) : TEa := fun rho eta Q EX => t rho eta (fldOQ f cs Q) EX
theorem ea_fld {e : Expr} {t : TEa} {pos : Pos} {f : Str} {cs : List Nat} (T : ∀ c, cs.contains c = true → InsC X.K W c) (he : EA X W Wx e t) (hb : attributeBase e f X.env (eval e X.env) = eval e X.env := by rfl) :
    EA X W Wx (.Attribute e f pos) (aFld f cs t) := by
  refine ⟨fun pins s σ H th rho eta Qa EX I S x h => ?_⟩
  refine attr_of hb (thn (he.run pins s σ H th rho eta _ EX I S x h) fun u s1 ⟨v, th1, H1, d, eta1, I1, r1, g1, S1, R1, q1⟩ => ?_)
  unfold fldOQ at q1
  split at q1
  · rename_i c ds hd
    obtain ⟨hc, q1⟩ := q1
    split at q1
    · rename_i j hj
      split at q1
      · rename_i y hy
        obtain ⟨a, dx, vs, rfl, ea, hl, Rs⟩ := insD_at S1.hp R1 hd
        obtain rfl : u = Value.ref a := r1
        have tc := T c hc
        obtain ⟨w, ew, rw'⟩ := RepTs.get Rs hy
        have hm := fldIx_mem hj
        refine getattr_rd I1 ea tc.cl (tc.no f hm.1) (lookup_zipP (j := j) (v := w) (by rw [tc.fl]; exact hj) ew) fun u' s2 I2 ru => ?_
        exact ⟨w, th1, H1, y, eta1, I2, ru, g1, S1, rw', q1⟩
      · exact q1.elim
    · exact q1.elim
  · exact q1.elim
/-! a field stored -/
def sFldA (f : Str) (cs : List Nat) (to te : TEa) : TSa := fun Dn rho eta EX => te rho eta (fun y eta1 => to rho eta1 (fun d eta2 => match d with
  | .ref n => (match eta2[n]? with
    | some (.ins c ds) => cs.contains c = true ∧ (match fldIx f c with
      | some j => j ≤ ds.length ∧ Dn.nx rho (eta2.set n (.ins c (if j < ds.length then ds.set j y else ds ++ [y])))
      | none => False)
    | _ => False)
  | _ => False) EX) EX
theorem sa_fldset {o e : Expr} {to te : TEa} {p' pos : Pos} {f : Str} {cs : List Nat} (T : ∀ c, cs.contains c = true → InsC X.K W c) (ho : EA X W Wx o to) (he : EA X W Wx e te)
    (hs : swapsWith e (some (.Attribute o f p')) pos.line X.env = pure false := by rfl) : SA X W Wx (.Assign [.Attribute o f p'] e pos) (sFldA f cs to te) := by
  refine ⟨fun pins s σ H th rho eta Dn EX I S xo h => ?_⟩
  refine plainObj_wpAny_Assign_Attribute (thn (he.run pins s σ H th rho eta _ EX I S xo h) fun u s1 ⟨y, th1, H1, dy, eta1, I1, r1, g1, S1, R1, q1⟩ =>
    thn (ho.run pins s1 σ H1 th1 rho eta1 _ EX I1 S1 (xo.mono g1 S1.hp) q1) fun ov s2 ⟨x, th2, H2, d, eta2, I2, r2, g2, S2, R2, q2⟩ => ?_) hs
  have g12 := g1.trans' S1.hp g2
  have Ry := R1.mono g2
  cases d with
  | ref n =>
    obtain ⟨a, ea, rfl⟩ := R2
    dsimp only at q2
    cases q : eta2[n]? with
    | none => rw [q] at q2; exact q2.elim
    | some mo =>
      rw [q] at q2
      cases mo with
      | ins c ds =>
        dsimp only at q2
        obtain ⟨hc, q2⟩ := q2
        split at q2
        · rename_i j hj
          obtain ⟨hjl, q2⟩ := q2
          obtain ⟨b, ho', e1, e2, dx, vs, rfl, l, Rs⟩ := S2.hp.obj n _ q
          rw [ea] at e1; cases e1
          obtain rfl : ov = Value.ref a := r2
          have tc := T c hc
          have hm := fldIx_mem hj
          have hlen := RepTs.length Rs
          refine setattr_ok I2 e2 tc.cl (tc.no f hm.1) (by rw [List.length_zip, tc.fl]; have := tc.hf; omega) r1 fun s3 I3 => ?_
          rw [putF_zip (j := j) (by rw [tc.fl]; exact hj) (by omega)] at I3
          have rep : ∀ H', RepTs W th2 H' ds vs → RepT W th2 H' dy y → RepM W th2 H' (.ins c (if j < ds.length then ds.set j dy else ds ++ [dy])) (.ins (W.cl c) dx ((W.fld c).zip (if j < vs.length then vs.set j y else vs ++ [y]))) := fun H' Rs' Ry' => by
            refine ⟨dx, _, rfl, ?_, ?_⟩
            · rw [tc.fl]
              split
              · rw [List.length_set, ← tc.fl]; exact l
              · rw [List.length_append, List.length_singleton]; have := hm.2; omega
            · rw [hlen]
              split
              · exact RepTs.set Ry' j Rs'
              · exact RepTs.snoc Ry' Rs'
          have nf : ∀ u, H2 a = some u → ¬ Fz u := fun u e => by rw [e2] at e; cases e; exact fun z => z
          have W0 := S2.hp.write (n := n) (mo := .gone) (o := .ins (W.cl c) dx ((W.fld c).zip (if j < vs.length then vs.set j y else vs ++ [y]))) ea nf trivial
          have W1 := S2.hp.write (n := n) (mo := .ins c (if j < ds.length then ds.set j dy else ds ++ [dy])) ea nf (rep _ (RepTs.mono W0.2 Rs) (Ry.mono W0.2))
          exact ⟨σ, th2, _, rho, _, I3, g12.trans' S2.hp W1.2, S2.mono W1.2 W1.1, q2⟩
        · exact q2.elim
      | _ => exact q2.elim
  | _ => exact q2.elim
/-! methods by class -/
abbrev Tbl := List (Nat × SpA)
def MTab (X : Cx) (W : Wd) (m : Str) (j : Nat) (tbl : Tbl) : Prop := ∀ c S, tbl.lookup c = some S → ∃ g k, Meth X.K (W.cl c) m g ∧ InsC X.K W c ∧ (fldNames c).contains m = false ∧ FnR X.prog X.w X.K X.mg X.base (L2.CX X.prog X.w) k g (spOf W S) ∧ k ≤ j
theorem mt_nil {m : Str} {j : Nat} : MTab X W m j [] := fun c S h => by cases h
theorem mt_cons {m : Str} {j c k : Nat} {g : Addr} {S : SpA} {tbl : Tbl} (M : Meth X.K (W.cl c) m g) (T : InsC X.K W c) (F : FnR X.prog X.w X.K X.mg X.base (L2.CX X.prog X.w) k g (spOf W S)) (r : MTab X W m j tbl) (hn : (fldNames c).contains m = false := by rfl) (hk : k ≤ j := by decide) : MTab X W m j ((c, S) :: tbl) := fun c' S' h => by
  rw [List.lookup_cons] at h
  by_cases e : c' = c
  · subst e
    simp at h
    subst h
    exact ⟨g, k, M, T, hn, F, hk⟩
  · have e2 : (c' == c) = false := by simpa using e
    rw [e2] at h
    exact r c' S' h
/-- the promise of the method for the data d -/
def tblD (tbl : Tbl) (eta : List MO) (d : D) : Option SpA := (insD eta d).bind fun q => tbl.lookup q.1
theorem tblD_at {m : Str} {j : Nat} {tbl : Tbl} {pins : List (Addr × Obj)} {σ : L2.St} {H : Hp} {s : Shared} {th : List Addr} {eta : List MO} {d : D} {v : V} {u : Value} {S : SpA} (T : MTab X W m j tbl) (I : Inv X pins σ H s) (Sr : SRh W th H eta) (R : RepT W th H d v) (r : RelV v u) (h : tblD tbl eta d = some S) :
    ∃ a c g k od dx, v = .ref a ∧ u = .ref a ∧ Meth X.K (W.cl c) m g ∧ InsC X.K W c ∧ PySem.W.InstAt s.heap a (PySem.W.instObj (W.cl c) dx) (W.cl c) (some od) ∧ PySem.W.lookIn m od = some none ∧ FnR X.prog X.w X.K X.mg X.base (L2.CX X.prog X.w) k g (spOf W S) ∧ k ≤ j ∧ tbl.lookup c = some S := by
  unfold tblD at h
  cases q : insD eta d with
  | none => rw [q] at h; cases h
  | some p =>
    rw [q] at h
    obtain ⟨c, ds⟩ := p
    obtain ⟨g, k, M, tc, hn, F, hk⟩ := T c S h
    obtain ⟨a, dx, vs, rfl, ea, hl, Rs⟩ := insD_at Sr R q
    obtain rfl : u = Value.ref a := r
    obtain ⟨od, J, hlk⟩ := ins_inst I ea
    exact ⟨a, c, g, k, od, dx, rfl, rfl, M, tc, J, hlk m (lookup_zipN (by rw [tc.fl]; exact hn)), F, hk, h⟩
def mthQ (tbl : Tbl) (t : TAa) (rho : Rho) (Q : QA) (EX : EXA) : QA := fun d eta1 => match tblD tbl eta1 d with
  | some S => t rho eta1 (fun ds eta2 => raCall S (d :: ds) rho eta2 Q EX) EX
  | none => False
def aMth (tbl : Tbl) (ta : TEa) (t : TAa) : TEa := fun rho eta Q EX => ta rho eta (mthQ tbl t rho Q EX) EX
theorem ea_mth {j : Nat} {m : Str} {tbl : Tbl} {o e : Expr} {es : List Expr} {ta : TEa} {t : TAa} {apos pos : Pos} {pl : Sem Bool} (T : MTab X W m j tbl) (he : EA X W Wx o ta) (hr : Room j X.A) (tk : Takes X Wx) (ha : AA X W Wx (e :: es) t)
    (hst : starEach (e :: es) X.env = (false, eval e X.env) :: starEach es X.env := by rfl) (hpl : (backTo pos (starEach es X.env)).any (·.1) = false := by rfl)
    (ht : eval (.Call (.Attribute o m apos) (e :: es) [] pos) X.env = (eval o X.env >>= fun ov => standAt apos.atName >>= fun _ => holding [ov] (getMethod ov m pl) >>= fun q =>
      callWith pos q.1 q.2 (backTo pos (starEach (e :: es) X.env)) (backToKw pos (keywordEach [] X.env))) := by rfl) : EA X W Wx (.Call (.Attribute o m apos) (e :: es) [] pos) (aMth tbl ta t) := by
  refine ⟨fun pins s σ H th rho eta Qa EX I Sr xo h => ?_⟩
  refine PySem.W.methodCall_KW (pl := pl) (thn (he.run pins s σ H th rho eta _ EX I Sr xo h) fun u s1 ⟨x, th1, H1, d, eta1, I1, r1, g1, S1, R1, q1⟩ => ?_) ht
  unfold mthQ at q1
  split at q1
  · rename_i S hS
    obtain ⟨a, c, g, k, od, dx, rfl, rfl, M, tc, J, hl, F, hk, _⟩ := tblD_at T I1 S1.hp R1 r1 hS
    refine PySem.W.method_fn I1.kIn J (PySem.W.plainGet_of (tc.cl.get m)).1 (PySem.W.plainGet_of (tc.cl.get m)).2 M.at_ (beq_iff_eq.mp M.fn) ?_ ?_
    · show (PySem.W.lookIn m od).map (·.isSome) = some false
      rw [hl]; rfl
    · refine PySem.W.callWith_K (first := [.ref a]) (h₀ := X.base) I1.ok.mod.kin M.kp (thn (ha.run pos pins s1 σ H1 th1 rho eta1 _ EX I1 S1 (xo.mono g1 S1.hp) q1) fun us s2 ⟨ws, th2, H2, ds, eta2, I2, r2, g2, S2, R2, q2⟩ => ⟨I2.kIn, ?_⟩) hst hpl
      have g12 := g1.trans' S1.hp g2
      refine thn (cl_fn F (hr.mono hk) tk pins s2 σ H2 th2 rho eta2 (.ref a :: ws) (.ref a :: us) (d :: ds) Qa EX I2 S2 (xo.mono g12 S2.hp) (.cons rfl r2) ⟨_, _, rfl, R1.mono g2, R2⟩ q2) fun w s3 ⟨z, th3, H3, d3, eta3, I3, r3, g3, S3, R3, q3⟩ => ?_
      exact ⟨z, th3, H3, d3, eta3, I3, r3, g12.trans' S2.hp g3, S3, R3, q3⟩
  · exact q1.elim
theorem ea_mth0 {j : Nat} {m : Str} {tbl : Tbl} {o : Expr} {ta : TEa} {apos pos : Pos} {pl : Sem Bool} (T : MTab X W m j tbl) (he : EA X W Wx o ta) (hr : Room j X.A) (tk : Takes X Wx)
    (ht : eval (.Call (.Attribute o m apos) [] [] pos) X.env = (eval o X.env >>= fun ov => standAt apos.atName >>= fun _ => holding [ov] (getMethod ov m pl) >>= fun q =>
      callWith pos q.1 q.2 (backTo pos (starEach [] X.env)) (backToKw pos (keywordEach [] X.env))) := by rfl) : EA X W Wx (.Call (.Attribute o m apos) [] [] pos) (aMth tbl ta aNil) := by
  refine ⟨fun pins s σ H th rho eta Qa EX I Sr xo h => ?_⟩
  refine PySem.W.methodCall_KW (pl := pl) (thn (he.run pins s σ H th rho eta _ EX I Sr xo h) fun u s1 ⟨x, th1, H1, d, eta1, I1, r1, g1, S1, R1, q1⟩ => ?_) ht
  unfold mthQ at q1
  split at q1
  · rename_i S hS
    obtain ⟨a, c, g, k, od, dx, rfl, rfl, M, tc, J, hl, F, hk, _⟩ := tblD_at T I1 S1.hp R1 r1 hS
    refine PySem.W.method_fn I1.kIn J (PySem.W.plainGet_of (tc.cl.get m)).1 (PySem.W.plainGet_of (tc.cl.get m)).2 M.at_ (beq_iff_eq.mp M.fn) ?_ ?_
    · show (PySem.W.lookIn m od).map (·.isSome) = some false
      rw [hl]; rfl
    · refine PySem.W.callWith_K0 (first := [.ref a]) I1.kIn M.kp ?_
      refine thn (cl_fn F (hr.mono hk) tk pins s1 σ H1 th1 rho eta1 [.ref a] [.ref a] [d] Qa EX I1 S1 (xo.mono g1 S1.hp) (.cons rfl .nil) ⟨_, _, rfl, R1, rfl⟩ q1) fun w s3 ⟨z, th3, H3, d3, eta3, I3, r3, g3, S3, R3, q3⟩ => ?_
      exact ⟨z, th3, H3, d3, eta3, I3, r3, g1.trans' S1.hp g3, S3, R3, q3⟩
  · exact q1.elim
/-! a new instance -/
def raNew (c : Nat) (S : SpA) : RNa := fun ds rho eta Q EX => raCall S (.ref eta.length :: ds) rho (eta ++ [.ins c []]) (fun d eta1 => d = .non ∧ Q (.ref eta.length) eta1) EX
theorem cl_new {c k : Nat} {C f : Addr} {S : SpA} (hC : W.cl c = C) (M : Mk X.K C f) (F : FnR X.prog X.w X.K X.mg X.base (L2.CX X.prog X.w) k f (spOf W S)) (hr : Room (k + 1) X.A) (tk : Takes X Wx) : ClA X W Wx (.ref C) (raNew c S) := by
  intro pins s σ H th rho eta xs us ds Qa EX I Sr xo rx Rd hq
  have hN := I.hok.fresh (Nat.le_refl s.heap.objs.size)
  have hX := I.hok.fresh (Nat.le_succ s.heap.objs.size)
  have ne : s.heap.objs.size ≠ s.heap.objs.size + 1 := Nat.ne_of_lt (Nat.lt_succ_self _)
  have I2 := Inv.made (C := C) I
  have g1 : Grow th H th (upd H s.heap.objs.size (.own (s.heap.objs.size + 1))) := Grow.new hN
  have S1 := Sr.hp.new (o := .own (s.heap.objs.size + 1)) hN
  have hX1 : (upd H s.heap.objs.size (.own (s.heap.objs.size + 1))) (s.heap.objs.size + 1) = none := by rw [upd_ne (Ne.symm ne)]; exact hX
  have S2 := S1.push (o := .ins C s.heap.objs.size []) (mo := .ins c []) hX1 ⟨s.heap.objs.size, [], by rw [hC, List.zip_nil_right], Nat.zero_le _, rfl⟩
  have g2 := g1.trans' S1 (Grow.push (o := .ins C s.heap.objs.size []) hX1)
  have R2 : RepTs W (th ++ [s.heap.objs.size + 1]) (upd (upd H s.heap.objs.size (.own (s.heap.objs.size + 1))) (s.heap.objs.size + 1) (.ins C s.heap.objs.size [])) (.ref eta.length :: ds) (.ref (s.heap.objs.size + 1) :: xs) :=
    ⟨_, _, rfl, RepT.push Sr.hp, RepTs.mono g2 Rd⟩
  have Sr2 := Sr.mono g2 S2
  have r2 : Vals (V.ref (s.heap.objs.size + 1) :: xs) (Value.ref (s.heap.objs.size + 1) :: us) := .cons rfl rx
  refine wpAny_call (make_map (f := f) I.kIn M.makes M.init (beq_iff_eq.mp M.fn) (codeAny_mono (F _ X.stack _ _ (Value.ref (s.heap.objs.size + 1) :: us) _ _ (WE Wx σ) (hr.make C us []) (I2.env0.make C us []) r2 (sp_raCall Sr2 (xo.mono g2 S2) R2 hq)) fun r s' hq' => ?_))
  cases r with
  | error e => exact passAt tk σ pins _ _ e s' I2 hq'
  | ok fl =>
    cases fl with
    | ret u =>
      obtain ⟨v, H', I3, rv, th', d', eta', g3, S', R', rfl, q⟩ := I2.after hq'
      have e : v = .non := R'
      subst e
      exact ⟨rv, .ref (s.heap.objs.size + 1), th', H', _, eta', I3, rfl, g2.trans' S2 g3, S', RepT.mono g3 (d := .ref eta.length) (RepT.push Sr.hp), q⟩
    | next => exact False.elim hq'
    | brk => exact False.elim hq'
    | cont => exact False.elim hq'
/-! an instance becomes data -/
def frzIQ (Q : QA) : QA := fun d eta => match d with
  | .ref n => (match eta[n]? with
    | some (.ins c ds) => ds.all D.im = true ∧ ds.length = (fldNames c).length ∧ Q (.obj c ds) (eta.set n .gone)
    | _ => False)
  | d => Q d eta
def aFrzI (t : TEa) : TEa := fun rho eta Q EX => t rho eta (frzIQ Q) EX
theorem ea_frzI {e : Expr} {t : TEa} (hf : W.fld = fldNames) (h : EA X W Wx e t) : EA X W Wx e (aFrzI t) := ⟨fun pins s σ H th rho eta Qa EX I S x ht => by
  refine thn (h.run pins s σ H th rho eta (frzIQ Qa) EX I S x ht) fun u s' ⟨v, th', H', d, eta', I', r, g, S', R, q⟩ => ?_
  cases d with
  | ref n =>
    obtain ⟨a, ea, rfl⟩ := R
    cases hn : eta'[n]? with
    | none => simp only [frzIQ, hn] at q
    | some mo =>
      obtain ⟨b, ho, e1, e2, rm⟩ := S'.hp.obj n mo hn
      rw [ea] at e1; cases e1
      cases mo with
      | ins c ds =>
        simp only [frzIQ, hn] at q
        obtain ⟨him, hlen, q⟩ := q
        obtain ⟨dx, vs, rfl, l, rs⟩ := rm
        obtain ⟨od, I2, g2, S2⟩ := freeze_one I' S' ea e2 trivial (fun z => z)
        exact ⟨.ref a, th', _, .obj c ds, _, I2, r, g.trans' S'.hp g2, S2, ⟨a, od, dx, vs, rfl, upd_same, by rw [hf, ← hlen]; exact RepTs.length rs, Reps.mono g2.pers _ _ (RepTs.im rs him)⟩, q⟩
      | _ => simp only [frzIQ, hn] at q
  | _ => exact ⟨v, th', H', _, eta', I', r, g, S', R, q⟩⟩
end
end RF
set_option maxRecDepth 100000
set_option maxHeartbeats 4000000
namespace RF
open PySem PySem.Spec PyProof.Rows L2
/-! ### dicts as data -/
def keyD : D → Option Key
  | .int i => some (.inl i)
  | .str x => some (.inr x)
  | _ => none
def kget : List Key → List D → Key → Option D
  | k' :: ks, d :: ds, k => if k' = k then some d else kget ks ds k
  | _, _, _ => none
def kset : List Key → List D → Key → D → List D
  | k' :: ks, d :: ds, k, x => if k' = k then x :: kset ks ds k x else d :: kset ks ds k x
  | _, ds, _, _ => ds
def dctD (eta : List MO) : D → Option (List Key × List D)
  | .fd ks ds => some (ks, ds)
  | .ref n => (match eta[n]? with
    | some (.dct ks ds) => some (ks, ds)
    | _ => none)
  | _ => none
section
variable {X : Cx} {W : Wd} {Wx : WX}
theorem dctD_at {th : List Addr} {H : Hp} {eta : List MO} {d : D} {v : V} {ks : List Key} {ds : List D} (S : SRh W th H eta) (R : RepT W th H d v) (h : dctD eta d = some (ks, ds)) :
    ∃ a vs, v = .ref a ∧ Rd H a (.dK (ks.zip vs)) ∧ ks.length = vs.length ∧ Reps W H ds vs := by
  cases d with
  | fd ks' ds' =>
    cases h
    obtain ⟨a, o, vs, rfl, e, l, r⟩ := R
    exact ⟨a, vs, rfl, .inr ⟨o, e⟩, l, r⟩
  | ref n =>
    obtain ⟨a, ea, rfl⟩ := R
    unfold dctD at h
    dsimp only at h
    cases q : eta[n]? with
    | none => rw [q] at h; cases h
    | some mo =>
      rw [q] at h
      cases mo with
      | dct ks' ds' =>
        cases h
        obtain ⟨b, ho, e1, e2, vs, rfl, l, r⟩ := S.obj n _ q
        rw [ea] at e1; cases e1
        exact ⟨a, vs, rfl, .inl e2, l, r⟩
      | _ => cases h
  | _ => cases h
theorem keyD_at {th : List Addr} {H : Hp} {d : D} {v : V} {k : Key} (R : RepT W th H d v) (h : keyD d = some k) : v = kV k := by
  cases d with
  | int i => cases h; exact R
  | str x => cases h; exact R
  | _ => cases h
theorem kget_at {H : Hp} {k : Key} : ∀ {ks : List Key} {ds : List D} {vs : List V}, Reps W H ds vs → (∀ d, kget ks ds k = some d → ∃ v, valV (ks.zip vs) k = some v ∧ Rep W H d v) ∧ (kget ks ds k = none → valV (ks.zip vs) k = none)
  | [], ds, vs, _ => ⟨fun d h => by simp [kget] at h, fun _ => by simp [valV]⟩
  | k' :: ks, [], vs, h => by have h : vs = _ := h; subst h; exact ⟨fun d h => by simp [kget] at h, fun _ => by simp [valV]⟩
  | k' :: ks, d :: ds, vs, ⟨v, r, e, h1, h2⟩ => by
    subst e
    have ih := kget_at (k := k) (ks := ks) h2
    by_cases q : k' = k
    · refine ⟨fun d' h => ?_, fun h => ?_⟩
      · simp only [kget, if_pos q, Option.some.injEq] at h
        subst h
        exact ⟨v, by rw [List.zip_cons_cons]; exact valV_pos q, h1⟩
      · simp [kget, q] at h
    · refine ⟨fun d' h => ?_, fun h => ?_⟩
      · simp only [kget, if_neg q] at h
        obtain ⟨w, e, r'⟩ := ih.1 d' h
        exact ⟨w, by rw [List.zip_cons_cons, valV_neg q]; exact e, r'⟩
      · simp only [kget, if_neg q] at h
        rw [List.zip_cons_cons, valV_neg q]; exact ih.2 h
theorem kget_some {H : Hp} {k : Key} {ks : List Key} {ds : List D} {vs : List V} (R : Reps W H ds vs) : (valV (ks.zip vs) k).isSome = (kget ks ds k).isSome := by
  cases q : kget ks ds k with
  | none => rw [(kget_at R).2 q]; rfl
  | some d => obtain ⟨v, e, _⟩ := (kget_at R).1 d q; rw [e]; rfl
theorem kset_at {H : Hp} {k : Key} {x : D} {y : V} (Rx : Rep W H x y) : ∀ {ks : List Key} {ds : List D} {vs : List V}, ks.length = vs.length → Reps W H ds vs → ∃ ws, (ks.zip vs).map (fun kv => if kv.1 = k then (kv.1, y) else kv) = ks.zip ws ∧ ks.length = ws.length ∧ Reps W H (kset ks ds k x) ws
  | [], ds, vs, l, h => ⟨vs, by simp, l, h⟩
  | k' :: ks, [], vs, l, h => by have h : vs = _ := h; subst h; simp at l
  | k' :: ks, d :: ds, vs, l, ⟨v, r, e, h1, h2⟩ => by
    subst e
    obtain ⟨ws, e1, l1, r1⟩ := kset_at (k := k) Rx (ks := ks) (by simpa using l) h2
    by_cases q : k' = k
    · exact ⟨y :: ws, by simp [List.zip_cons_cons, q, e1], by simp [l1], by simp only [kset, if_pos q]; exact ⟨y, ws, rfl, Rx, r1⟩⟩
    · exact ⟨v :: ws, by simp [List.zip_cons_cons, q, e1], by simp [l1], by simp only [kset, if_neg q]; exact ⟨v, ws, rfl, h1, r1⟩⟩
/-- the dict behind d[k] = x -/
def kput (ks : List Key) (ds : List D) (k : Key) (x : D) : MO := if (kget ks ds k).isSome then .dct ks (kset ks ds k x) else .dct (ks ++ [k]) (ds ++ [x])
theorem kput_at {th : List Addr} {H : Hp} {k : Key} {x : D} {y : V} {ks : List Key} {ds : List D} {vs : List V} (l : ks.length = vs.length) (R : Reps W H ds vs) (Rx : Rep W H x y) : RepM W th H (kput ks ds k x) (.dK (putK (ks.zip vs) k y)) := by
  unfold kput putK
  rw [valV_any, kget_some R]
  cases q : (kget ks ds k).isSome with
  | true =>
    rw [if_pos rfl, if_pos rfl]
    obtain ⟨ws, e1, l1, r1⟩ := kset_at (k := k) Rx l R
    exact ⟨ws, by rw [e1], l1, r1⟩
  | false =>
    rw [if_neg Bool.false_ne_true, if_neg Bool.false_ne_true]
    refine ⟨vs ++ [y], ?_, by simp [l], Reps.snoc Rx R⟩
    show HO.dK _ = HO.dK _
    rw [List.zip_append l]; rfl
/-! d[k] -/
def raIx1 : R2a := fun d e rho eta Q EX => match dctD eta d with
  | some (ks, ds) => (match keyD e with
    | some k => (match kget ks ds k with
      | some x => Q x eta
      | none => False)
    | none => False)
  | none => (match d with
    | .str x => (match e with
      | .int i => (match L2.atI x.cps.toList i with
        | some c => x.length ≤ sizeLine ∧ Q (.str ⟨#[c]⟩) eta
        | none => False)
      | _ => False)
    | _ => raIxS d e rho eta Q EX)
theorem ixa_dict (hu : X.A.units + 64 < cLine) : IxA X W Wx (fun d e rho eta Q EX => ∃ ks ds k x, dctD eta d = some (ks, ds) ∧ keyD e = some k ∧ kget ks ds k = some x ∧ Q x eta) := by
  intro value slice pins s σ H th rho eta x y v u d e Qa EX I S xo rx ry Rd Re ⟨ks, ds, k, z, h1, h2, h3, q⟩ hsl
  obtain ⟨a, vs, rfl, e1, l, Rs⟩ := dctD_at S.hp Rd h1
  obtain rfl : v = Value.ref a := rx
  have ey := keyD_at Re h2
  subst ey
  obtain ⟨w, ew, rw'⟩ := (kget_at Rs).1 z h3
  have G : DGet H a (kV k) (some w) := .inl ⟨_, k, e1, rfl, ew.symm⟩
  have hT := dict_typeIs I G
  have fin : wpAny (model X.prog X.w) X.A (subscripted slice false (.ref a) u) (fun r s3 => wpAny (model X.prog X.w) X.A (letTemporaryGo value (.ref a) r >>= fun _ => pure r) (EPa X W pins σ th H rho Qa) X.xe s3) X.xe s := by
    rw [hsl]
    exact wpAny_operating (d_getItem (by omega) I G ry fun w' s' I' r' => wpAny_bind (wpAny_letTemporaryGo (wpAny_pure ⟨w, th, H, z, eta, I', r', Grow.refl _ _, S, RepT.of rw', q⟩)))
  unfold subscriptTail
  refine wpAny_bind ?_
  rw [getitemInPython_of_ne (hT.not_modules)]
  refine wpAny_bind (wpAny_specialOf hT (PySem.F.slot_dict_getitem.lookup) ?_)
  first
    | exact wpAny_pure (wpAny_bind (fin))
    | exact wpAny_bind (wpAny_pure (wpAny_bind (fin)))
    | exact wpAny_bind (fin)
theorem ixa_str : IxA X W Wx (fun d e rho eta Q EX => ∃ x i c, d = .str x ∧ e = .int i ∧ L2.atI x.cps.toList i = some c ∧ x.length ≤ sizeLine ∧ Q (.str ⟨#[c]⟩) eta) := .of ix_str fun σ H th rho eta x y d e Qa EX S Rd Re ⟨z, i, c, e1, e2, h, hz, q⟩ => by
  subst e1 e2
  have e3 : x = _ := Rd
  have e4 : y = _ := Re
  exact ⟨z, i, c, e3, e4, hz, h, hereC (d := .str _) S rfl q⟩
theorem ixa_1 (hu : X.A.units + 64 < cLine) : IxA X W Wx raIx1 := by
  intro value slice pins s σ H th rho eta x y v u d e Qa EX I S xo rx ry Rd Re hr hsl
  unfold raIx1 at hr
  split at hr
  · rename_i ks ds h1
    split at hr
    · rename_i k h2
      split at hr
      · rename_i z h3
        exact ixa_dict hu value slice pins s σ H th rho eta x y v u d e Qa EX I S xo rx ry Rd Re ⟨ks, ds, k, z, h1, h2, h3, hr⟩ hsl
      · exact hr.elim
    · exact hr.elim
  · split at hr
    · split at hr
      · split at hr
        · rename_i c hc
          exact ixa_str value slice pins s σ H th rho eta x y v u _ _ Qa EX I S xo rx ry Rd Re ⟨_, _, c, rfl, rfl, hc, hr.1, hr.2⟩ hsl
        · exact hr.elim
      · exact hr.elim
    · exact ixa_seq value slice pins s σ H th rho eta x y v u _ _ Qa EX I S xo rx ry Rd Re hr hsl
/-! own __getitem__ -/
structure OwnS (K : PySem.W.Frag) (C : Addr) (m : Str) : Prop where
  nq : PySem.W.noSeq K C = true
  fi : ∀ g, PySem.W.findIn K (.ref C) m = some (some (.ref g)) → PySem.W.fnIn K g = true
def raIxU (tbl : Tbl) : R2a := fun d e rho eta Q EX => match tblD tbl eta d with
  | some S => raCall S [d, e] rho eta Q EX
  | none => raIx1 d e rho eta Q EX
theorem ea_ixu {j : Nat} {tbl : Tbl} {a b : Expr} {ta tb : TEa} {pos : Pos} (hu : X.A.units + 64 < cLine) (T : MTab X W "__getitem__" j tbl) (ho : ∀ c S, tbl.lookup c = some S → OwnS X.K (W.cl c) "__getitem__") (hr : Room (j + 1) X.A) (tk : Takes X Wx) (ha : EA X W Wx a ta) (hb : EA X W Wx b tb)
    (hs : PlainIx b := by exact fun _ _ => rfl) (hs2 : ∀ o i : Value, subscripted b true o i = runValue (.builtin "lifetime.subscript" ⟨[o, i], []⟩) := by exact fun _ _ => rfl) : EA X W Wx (.Subscript a b pos) (aOp (raIxU tbl) ta tb) := by
  refine ⟨fun pins s σ H th rho eta Qa EX I S x h => ?_⟩
  refine Subscript_ (thn (ha.run pins s σ H th rho eta _ EX I S x h) fun v s1 ⟨xv, th1, H1, d, eta1, I1, r1, g1, S1, R1, q1⟩ => ?_)
  refine thn (hb.run pins s1 σ H1 th1 rho eta1 _ EX I1 S1 (x.mono g1 S1.hp) q1) fun u s2 ⟨yv, th2, H2, e, eta2, I2, r2, g2, S2, R2, q2⟩ => ?_
  have g12 := g1.trans' S1.hp g2
  have R1' := R1.mono g2
  have xo := x.mono g12 S2.hp
  unfold raIxU at q2
  dsimp only at q2
  refine wpAny_mono (Q := EPa X W pins σ th2 H2 rho Qa) (E := X.xe) ?_ (fun w s3 ⟨z, th3, H3, d3, eta3, I3, r3, g3, S3, R3, q3⟩ => ⟨z, th3, H3, d3, eta3, I3, r3, g12.trans' S2.hp g3, S3, R3, q3⟩) fun _ _ z => z
  split at q2
  · rename_i Sp hS
    obtain ⟨p, c, g, k, od, dx, rfl, rfl, M, tc, J, hl, F, hk, hc⟩ := tblD_at T I2 S2.hp R1' r1 hS
    obtain ⟨m0, F0⟩ := I2.fr
    have hcl := cl_fn_at (A' := X.A.in1) F ((hr.mono (by omega : k + 1 ≤ j + 1)).in1) tk (fun I => I.env0.in1) pins s2 σ H2 th2 rho eta2 [.ref p, yv] [.ref p, u] [d, e] Qa EX I2 S2 xo (.cons rfl (.cons r2 .nil)) ⟨_, _, rfl, R1', _, _, rfl, R2, rfl⟩ q2
    exact PySem.W.sub_K F0 I2.ok.mod.kin J M.at_ ((ho c Sp hc).fi g M.at_) M.fn hcl (hs2 _ _)
  · exact ixa_1 hu a b pins s2 σ H2 th2 rho eta2 xv yv v u d e Qa EX I2 S2 xo r1 r2 R1' R2 q2 (hs _ _)
/-! d[k] = x -/
def raSetU (tbl : Tbl) : R3a := fun d e f rho eta R EX => match tblD tbl eta d with
  | some S => raCall S [d, e, f] rho eta (fun _ eta1 => R eta1) EX
  | none => (match d with
    | .ref n => (match eta[n]? with
      | some (.dct ks ds) => (match keyD e with
        | some k => f.im = true ∧ ks.length < 100000 ∧ R (eta.set n (kput ks ds k f))
        | none => False)
      | _ => raSetL d e f rho eta R EX)
    | _ => False)
theorem seta_u {j : Nat} {tbl : Tbl} (hu : X.A.units + 64 < cLine) (T : MTab X W "__setitem__" j tbl) (ho : ∀ c S, tbl.lookup c = some S → OwnS X.K (W.cl c) "__setitem__") (hr : Room j X.A) (tk : Takes X Wx) : SetA X W Wx (raSetU tbl) := by
  intro pins s σ H th rho eta x y z v u w d e f Qa EX I S xo rx ry rz Rd Re Rf hq
  unfold raSetU at hq
  split at hq
  · rename_i Sp hS
    obtain ⟨p, c, g, k, od, dx, rfl, rfl, M, tc, J, hl, F, hk, hc⟩ := tblD_at T I S.hp Rd rx hS
    obtain ⟨m0, F0⟩ := I.fr
    refine PySem.W.ksp_setItem F0 I.ok.mod.kin J (ho c Sp hc).nq M.at_ M.fn ?_
    refine thn (cl_fn F (hr.mono hk) tk pins s σ H th rho eta [.ref p, y, z] [.ref p, u, w] [d, e, f] _ EX I S xo (.cons rfl (.cons ry (.cons rz .nil))) ⟨_, _, rfl, Rd, _, _, rfl, Re, _, _, rfl, Rf, rfl⟩ hq) fun r s' ⟨_, th', H', _, eta', I', _, g', S', _, q⟩ => ⟨th', H', eta', I', g', S', q⟩
  · split at hq
    · rename_i n hno
      split at hq
      · rename_i ks ds hn
        split at hq
        · rename_i k hk
          obtain ⟨fi, hz, hq⟩ := hq
          obtain ⟨a, ea, rfl⟩ := Rd
          obtain ⟨b, ho', e1, e2, vs, rfl, l, Rs⟩ := S.hp.obj n _ hn
          rw [ea] at e1; cases e1
          obtain rfl : v = Value.ref a := rx
          have ey := keyD_at Re hk
          subst ey
          have nf : ∀ u, H a = some u → ¬ Fz u := fun u e => by rw [e2] at e; cases e; exact fun z => z
          refine d_setItem (by omega) I (DPut.k e2 (by rw [List.length_zip, ← l, Nat.min_self]; exact sizeK hz)) ry rz fun s' I' => ?_
          have W0 := S.hp.write (n := n) (mo := .gone) (o := .dK (putK (ks.zip vs) k z)) ea nf trivial
          have W1 := S.hp.write (n := n) (mo := kput ks ds k f) (o := .dK (putK (ks.zip vs) k z)) ea nf (kput_at l (Reps.mono W0.2.pers _ _ Rs) (Rep.mono W0.2.pers _ _ (Rf.im fi)))
          exact ⟨th, _, _, I', W1.2, S.mono W1.2 W1.1, hq⟩
        · exact hq.elim
      · exact seta_list pins s σ H th rho eta x y z v u w _ e f Qa EX I S xo rx ry rz Rd Re Rf hq
    · exact hq.elim
/-! x in d -/
def raInU (neg : Bool) (tbl : Tbl) : R2a := fun e d rho eta Q EX => match tblD tbl eta d with
  | some S => raCall S [d, e] rho eta (fun r eta1 => match r with
    | .bl b => Q (.bl (if neg then !b else b)) eta1
    | _ => False) EX
  | none => (match dctD eta d with
    | some (ks, ds) => (match keyD e with
      | some k => Q (.bl (if neg then !(kget ks ds k).isSome else (kget ks ds k).isSome)) eta
      | none => False)
    | none => False)
theorem oa_inU {j : Nat} {tbl : Tbl} (hu : X.A.units + 64 < cLine) (T : MTab X W "__contains__" j tbl) (hr : Room j X.A) (tk : Takes X Wx) (neg : Bool) : OpA X W Wx (compareOp (if neg then .NotIn else .In)) (raInU neg tbl) := by
  intro pins s σ H th rho eta y x u v e d Qa EX I S xo ry rx Re Rd hq
  unfold raInU at hq
  split at hq
  · rename_i Sp hS
    obtain ⟨p, c, g, k, od, dx, rfl, rfl, M, tc, J, hl, F, hk, hc⟩ := tblD_at T I S.hp Rd rx hS
    obtain ⟨m0, F0⟩ := I.fr
    have hcl := cl_fn F (hr.mono hk) tk pins s σ H th rho eta [.ref p, y] [.ref p, u] [d, e] _ EX I S xo (.cons rfl (.cons ry .nil)) ⟨_, _, rfl, Rd, _, _, rfl, Re, rfl⟩ hq
    have fin : ∀ r s', EPa X W pins σ th H rho (fun r eta1 => match r with | .bl b => Qa (.bl (if neg then !b else b)) eta1 | _ => False) r s' → wpAny (model X.prog X.w) X.A (truthy r) (fun b s2 => EPa X W pins σ th H rho Qa (.bool (if neg then !b else b)) s2) X.xe s' := fun r s' ⟨z, th', H', d', eta', I', rv, g', S', R', q⟩ => by
      cases d' with
      | bl b =>
        have e1 : z = .bl b := R'
        subst e1
        obtain rfl : r = Value.bool b := rv
        exact wpAny_pure ⟨.bl _, th', H', .bl _, eta', I', rfl, g', S', rfl, q⟩
      | _ => exact q.elim
    cases neg with
    | false => exact PySem.W.in_K F0 I.ok.mod.kin J M.at_ M.fn (thn hcl fun r s' h => fin r s' h)
    | true => exact PySem.W.notIn_K F0 I.ok.mod.kin J M.at_ M.fn (thn hcl fun r s' h => fin r s' h)
  · split at hq
    · rename_i ks ds h1
      split at hq
      · rename_i k h2
        obtain ⟨a, vs, rfl, e1, l, Rs⟩ := dctD_at S.hp Rd h1
        obtain rfl : v = Value.ref a := rx
        have ey := keyD_at Re h2
        subst ey
        have G : DGet H a (kV k) (valV (ks.zip vs) k) := .inl ⟨_, k, e1, rfl, rfl⟩
        cases neg with
        | false => exact d_in (by omega) I G ry fun s' I' => ⟨.bl _, th, H, .bl _, eta, I', rfl, Grow.refl _ _, S, by show V.bl _ = V.bl _; rw [kget_some Rs]; rfl, hq⟩
        | true => exact d_notIn (by omega) I G ry fun s' I' => ⟨.bl _, th, H, .bl _, eta, I', rfl, Grow.refl _ _, S, by show V.bl _ = V.bl _; rw [kget_some Rs]; rfl, hq⟩
      · exact hq.elim
    · exact hq.elim
/-! len(d) -/
def raLenU (tbl : Tbl) : RNa := fun ds rho eta Q EX => match ds with
  | [d] => (match tblD tbl eta d with
    | some S => raCall S [d] rho eta (fun r eta1 => match r with
      | .int i => (0 ≤ i ∧ i < 1000000) ∧ Q (.int i) eta1
      | _ => False) EX
    | none => (match dctD eta d with
      | some (ks, es) => Q (.int ks.length) eta
      | none => raLen ds rho eta Q EX))
  | _ => False
theorem ca_lenU {j : Nat} {tbl : Tbl} (T : MTab X W "__len__" j tbl) (hr : Room (j + 1) X.A) (tk : Takes X Wx) : ClA X W Wx (.builtin "len") (raLenU tbl) := by
  intro pins s σ H th rho eta xs us ds Qa EX I S xo rx Rd hq
  unfold raLenU at hq
  split at hq
  · rename_i d
    obtain ⟨v, rfl, R1⟩ := Rd.one
    obtain ⟨u, rfl, r1⟩ := vals1 rx
    split at hq
    · rename_i Sp hS
      obtain ⟨p, c, g, k, od, dx, rfl, rfl, M, tc, J, hl, F, hk, hc⟩ := tblD_at T I S.hp R1 r1 hS
      obtain ⟨m0, F0⟩ := I.fr
      refine PySem.W.len_K F0 I.ok.mod.kin J M.at_ M.fn (thn (cl_fn_at (A' := X.A.in1) F ((hr.mono (by omega : k + 1 ≤ j + 1)).in1) tk (fun I => I.env0.in1) pins s σ H th rho eta [.ref p] [.ref p] [d] _ EX I S xo (.cons rfl .nil) ⟨_, _, rfl, R1, rfl⟩ hq) fun r s' ⟨z, th', H', d', eta', I', rv, g', S', R', q⟩ => ?_)
      cases d' with
      | int i =>
        have e1 : z = .int i := R'
        subst e1
        obtain ⟨t, rfl⟩ := rv
        exact ⟨⟨q.1.1, by have := q.1.2; omega⟩, .int i, th', H', .int i, eta', I'.tok _, ⟨_, rfl⟩, g', S', rfl, q.2⟩
      | _ => exact q.elim
    · split at hq
      · rename_i ks es h1
        obtain ⟨a, vs, rfl, e1, l, Rs⟩ := dctD_at S.hp R1 h1
        obtain rfl : u = Value.ref a := r1
        refine d_len I e1 fun t s' I' => ⟨.int ks.length, th, H, .int ks.length, eta, I', ⟨t, ?_⟩, Grow.refl _ _, S, rfl, hq⟩
        rw [List.length_zip, ← l, Nat.min_self]
      · exact ca_len pins s σ H th rho eta [v] [u] [d] Qa EX I S xo rx Rd hq
  · exact hq.elim
end
end RF
set_option maxRecDepth 100000
set_option maxHeartbeats 4000000
namespace RF
open PySem PySem.Spec PyProof.Rows L2
/-! ### what is walked, by its data -/
def kD : Key → D
  | .inl i => .int i
  | .inr x => .str x
def walkL : D → Option (List D)
  | .fl ds => some ds
  | .tup ds => some ds
  | .et => some []
  | .fd ks ds => some (ks.map kD)
  | _ => none
/-- the default () -/
def EmpT (K : PySem.W.Frag) (W : Wd) : Prop := ∀ H : Hp, SqT K H W.emp []
section
variable {X : Cx} {W : Wd} {Wx : WX}
theorem jok_sq {K : PySem.W.Frag} {a : Addr} {th : List Addr} {H : Hp} {ds : List D} {vs : List V} (h : ∀ H', Pers H H' → SqT K H' a vs) (R : Reps W H ds vs) : JOk W (Itt K a) th H ds := by
  intro th' H' g i
  have q := h H' g.pers
  refine ⟨fun d e => ?_, fun hl => ⟨vs, q, by rw [← R.length]; exact hl⟩⟩
  obtain ⟨v, e1, r⟩ := R.get e
  refine ⟨⟨vs, v, q, e1⟩, fun x H'' hy => ?_⟩
  obtain ⟨e2, hy⟩ := hy
  subst e2
  have ex := hy vs q
  rw [e1] at ex; cases ex
  exact ⟨fun _ _ z _ => z, fun th2 eta2 S2 => ⟨S2, Grow.refl _ _⟩, Rep.mono g.pers _ _ r⟩
theorem kD_rep {H : Hp} (k : Key) : Rep W H (kD k) (kV k) := by cases k <;> exact rfl
theorem jok_keys {a : Addr} {th : List Addr} {H : Hp} {o : Obj} {ks : List Key} {vs : List V} (h : H a = some (.frz o (.dK (ks.zip vs)))) (l : ks.length = vs.length) : JOk W (Itk a o (ks.zip vs)) th H (ks.map kD) := by
  intro th' H' g i
  have h' := g.pers a _ h trivial
  have hl : (ks.zip vs).length = ks.length := by rw [List.length_zip, ← l, Nat.min_self]
  refine ⟨fun d e => ?_, fun hle => ⟨h', by rw [hl]; simpa using hle⟩⟩
  rw [List.getElem?_map] at e
  cases q : ks[i]? with
  | none => rw [q] at e; cases e
  | some k =>
    rw [q] at e
    cases e
    have hi : i < ks.length := (List.getElem?_eq_some_iff.mp q).1
    refine ⟨⟨h', by rw [hl]; exact hi⟩, fun x H'' hy => ?_⟩
    obtain ⟨rfl, k', v', e1, rfl⟩ := hy
    have e2 : k' = k := by
      have z : (ks.zip vs)[i]? = some (k, vs[i]'(by omega)) := by
        rw [List.getElem?_zip_eq_some]
        exact ⟨q, List.getElem?_eq_getElem _⟩
      rw [z] at e1
      cases e1; rfl
    subst e2
    exact ⟨fun _ _ z _ => z, fun th2 eta2 S2 => ⟨S2, Grow.refl _ _⟩, kD_rep k'⟩
theorem walkL_iter {pins : List (Addr × Obj)} {σ : L2.St} {H : Hp} {s : Shared} {th : List Addr} {d : D} {v : V} {u : Value} {ds : List D} {tg : Expr} {R' : It → Hp → Prop} (he : EmpT X.K W) (I : Inv X pins σ H s) (R : RepT W th H d v) (r : RelV v u) (h : walkL d = some ds)
    (q : ∀ J, JOk W J th H ds → R' J H) : wpAny (model X.prog X.w) X.A (pyIter u) (PIE X pins σ tg R') X.xe s := by
  cases d with
  | fl es =>
    cases h
    obtain ⟨a, o, vs, rfl, e, Rs⟩ := R
    obtain rfl : u = Value.ref a := r
    obtain ⟨its, rv, p, hz⟩ := I.list (.inl (.inr ⟨o, e⟩))
    exact wpAny_pyIter_list p.isList (pi_one (tk := s.toks) I _ (turn_list a _) ⟨_, Heap.get?_push_size _ rfl, rfl, rfl⟩ (q _ (jok_list e Rs)))
  | tup es =>
    cases h
    obtain ⟨a, vs, rfl, e, Rs⟩ := R
    obtain rfl : u = Value.ref a := r
    obtain ⟨its, rv, p, hz⟩ := I.tuple (SqT.of e)
    exact wpAny_pyIter_tuple (show s.heap.IsTuple a its.toArray from p) (pi_one (tk := s.toks) I _ (turn_tuple a _) ⟨_, Heap.get?_push_size _ rfl, rfl, rfl⟩ (q _ (jok_sq (fun H' p => .inl (.inl (p a _ e trivial))) Rs)))
  | et =>
    cases h
    have e : v = _ := R
    subst e
    obtain rfl : u = Value.ref W.emp := r
    obtain ⟨its, rv, p, hz⟩ := I.tuple (he H)
    exact wpAny_pyIter_tuple (show s.heap.IsTuple W.emp its.toArray from p) (pi_one (tk := s.toks) I _ (turn_tuple W.emp _) ⟨_, Heap.get?_push_size _ rfl, rfl, rfl⟩ (q _ (jok_sq (ds := []) (vs := []) (fun H' p => he H') rfl)))
  | fd ks es =>
    cases h
    obtain ⟨a, o, vs, rfl, e, l, Rs⟩ := R
    obtain rfl : u = Value.ref a := r
    obtain ⟨hs, hgd, hx, es', ep, ws, hdt, hsz, kv, hm⟩ := I.frzK e
    refine iter_keys hs hgd hx hdt (pi_one (tk := s.toks) I _ (turn_keys _ hdt) ⟨_, Heap.get?_push_size _ rfl, rfl, ?_⟩ (q _ (jok_keys e l)))
    rw [hsz] <;> rfl
  | _ => cases h
/-! ### own __iter__: return iter(self.f) -/
def KitO (d it : Addr) (o : Obj) (n : Nat) : HO := .ext fun h => ∃ es ep, o.data = .dict es ep ∧ h.IsKeyIter it d 0 n ep
theorem kitO_ok {P : Program} {w : World} {H : Hp} {h : Heap} {d it : Addr} {o : Obj} {n ep : Nat} {es : Array DictEntry} (hd : o.data = .dict es ep) (e : h.IsKeyIter it d 0 n ep) : ObjOk P w H h it (KitO d it o n) :=
  ⟨⟨es, ep, hd, e⟩, let ⟨oi, z, _⟩ := e; ⟨oi, z⟩, fun h1 h2 ⟨es', ep', q1, q2⟩ k => ⟨es', ep', q1, q2.at fun oi z => k oi z⟩⟩
theorem call_iterK : CallR X (.builtin "iter") (fun xs H Q => ∃ d o kvs, xs = [.ref d] ∧ H d = some (.frz o (.dK kvs)) ∧ ∀ it, H it = none → X.s_0.heap.objs.size ≤ it → Q (.ref it) (upd H it (KitO d it o kvs.length))) := by
  intro pins s σ H xs us Q I r h
  obtain ⟨d, o, kvs, rfl, e, q⟩ := h
  obtain ⟨u, rfl, ru⟩ := vals1 r
  cases ru
  obtain ⟨hs, hgd, hx, es', ep, ws, hdt, hsz, kv, hm⟩ := I.frzK e
  refine Calls.call_function_entry (by decide +kernel) (by decide +kernel) PySem.W.kdk_entry_iter (PySem.W.kdk_args_iter _) ?_
  unfold Builtin.«iter»
  refine wpAny_bind (m := someArgs "iter" 1 2 _) (wpAny_of_eq (a := [Value.ref d]) (by first | rfl | kernel_rfl!) ?_)
  refine wpAny_bind (m := pyIter (.ref d)) (iter_keys hs hgd hx hdt ?_)
  refine wpAny_pure ⟨_, rfl, ?_⟩
  refine ⟨.ref s.heap.objs.size, _, I.laid (t' := s.toks) (fun b u e => Heap.get?_push_of_some _ e) (Nat.le_refl _) (kitO_ok hdt ⟨_, Heap.get?_push_size _ rfl, rfl, ?_⟩), rfl, q _ (I.hok.fresh (Nat.le_refl _)) I.sz⟩
  rw [hsz] <;> rfl
/-- e.f of an instance, known or not -/
def tFldR (K : PySem.W.Frag) (ta : TE) (f : Str) : TE := fun σ H Q => ta σ H fun x H1 => ∃ a C dx fs v, x = .ref a ∧ Rd H1 a (.ins C dx fs) ∧ Cls K C ∧ NoAttr K C f ∧ fs.lookup f = some v ∧ Q v H1
theorem pe_fldR {e : Expr} {ta : TE} {f : Str} {pos : Pos} (he : PE X e ta) (hb : attributeBase e f X.env (eval e X.env) = eval e X.env := by rfl) : PE X (.Attribute e f pos) (tFldR X.K ta f) :=
  ⟨fun pins s σ H Q I h => attr_of hb (thn (he.run pins s σ H _ I h) fun u s1 ⟨x, H1, I1, rx, a, C, dx, fs, v, ex, ea, c, n, l, q⟩ => by
    subst ex
    obtain rfl : u = Value.ref a := rx
    exact getattr_rd I1 ea c n l fun u' s2 I2 ru => ⟨v, H1, I2, ru, q⟩)⟩
def spIter (K : PySem.W.Frag) (f : Str) (n : Nat) : Sp := fun vs H Q _ => ∃ a C dx fs d o kvs, vs = [.ref a] ∧ Rd H a (.ins C dx fs) ∧ Cls K C ∧ NoAttr K C f ∧ fs.lookup f = some (.ref d) ∧ H d = some (.frz o (.dK kvs)) ∧ ∀ it, H it = none → n ≤ it → Q (.ref it) (upd H it (KitO d it o kvs.length))
/-- a promise that knows the size of the heap at the call -/
def FnN (P : Program) (w : World) (K : PySem.W.Frag) (mg : Str → Option Value) (base : Heap) (k : Nat) (f : Addr) (sp : Nat → Sp) : Prop :=
  ∀ (A : Around) (outer : List Env) (s : Shared) (H : Hp) (us : List Value) (vs : List V) (Q : VK) (E : XK), Room k A → Env0 P w K mg base A outer s H → Vals vs us → sp s.heap.objs.size vs H Q E → codeAny (model P w) A (.call (.ref f) ⟨us, []⟩) (CR (L2.CX P w) outer P w H s Q E) s
theorem fnN_of {P : Program} {w : World} {K : PySem.W.Frag} {mg : Str → Option Value} {base : Heap} {k : Nat} {x qual : Str} {params : Arguments} {body : List Stmt} {scope : Scope} {dvs : List V} {kws : List (Str × V)} {f : Addr} {fd : FuncData} {N ps : List Str} {sp : Nat → Sp}
    (F : FunD K x qual params body scope dvs kws f fd) (Sc : FnScope N ps scope) (b : Binds K fd ps []) (len : ∀ n vs H Q E, sp n vs H Q E → vs.length = ps.length)
    (hbody : ∀ (cdv : Value) (A : Around) (outer : List Env) (s : Shared) (H : Hp) (vs : List V) (Q : VK) (E : XK), Room k (A.deeper (envOfC qual scope s.heap.objs.size f cdv)) → sp s.heap.objs.size vs H Q E →
      ∃ t, PSs (cxOf (L2.CX P w) P w K mg base N qual scope f cdv A outer s H E) body t ∧ t { nx := fun _ H' => Q .non H', rt := Q } (start N vs) H) : FnN P w K mg base (k + 1) f sp := by
  intro A outer s H us vs Q E room e0 rv hsp
  obtain ⟨oc, od, dV, kV, doc, pm, an, cdv, ct, osl, rfl, look, code, _, _⟩ := F.ex
  have hlen := len _ _ _ _ _ hsp
  have inK : K.In s.heap := e0.mod.kin.keeps fun b o e => (e0.bs b o e).1
  have bnd := b s us inK (by rw [List.append_nil, ← rv.length]; exact hlen)
  rw [List.append_nil] at bnd
  have nl : s.heap.NoLimit := e0.mod.nolimit.keeps fun b o e => (e0.bs b o e).1
  have kinds : ∀ y ∈ ps.zip us, scope.names.lookup y.1 = some .local ∨ (scope.names.lookup y.1 = some .cell ∧ ((cellsFrom (s.heap.objs.size + 1) scope.names []).lookup y.1).isSome = true) := fun ⟨n, v⟩ hy => by
    rcases Sc.par n (List.of_mem_zip hy).1 with q | q
    · exact .inl q
    · exact .inr ⟨q, PySem.W.cellsFrom_some _ _ _ (.inl q)⟩
  refine codeAny_call_function room.depth (inK _ _ look) rfl Sc.co Sc.gen rfl (PySem.W.codeRec_of inK code) (bnd _ _ _ _ ?_)
  refine wpAny_newFunctionEnv_cells Sc.kind kinds fun env he s1 ic => ?_
  subst he
  refine ⟨nl.keeps ic.toInCall.keep, codeAny_func ?_⟩
  obtain ⟨t, ht, hq⟩ := hbody cdv A outer s H vs Q E (room.deeper _) hsp
  have I : Inv (cxOf (L2.CX P w) P w K mg base N qual scope f cdv A outer s H E) [] (start N vs) H s1 := inv_start Sc room.hd e0 hlen rv ic
  refine wpAny_mono (ht.run [] s1 (start N vs) H _ I hq) (fun fl s' hs => ?_) fun e s' hs => hs
  cases fl with
  | ret u => obtain ⟨v, σ', H', J, r1, q⟩ := hs; exact ⟨v, H', J.os, J.bare, J.base, J.hok, r1, q⟩
  | next => obtain ⟨σ', H', J, q⟩ := hs; exact ⟨V.non, H', J.os, J.bare, J.base, J.hok, rfl, q⟩
  | brk => obtain ⟨_, _, _, q⟩ := hs; exact q.elim
  | cont => obtain ⟨_, _, _, q⟩ := hs; exact q.elim
/-- THE RULE for such a def -/
theorem ok_iter {P : Program} {w : World} {K : PySem.W.Frag} {mg : Str → Option Value} {base : Heap} {qual : Str} {params : Arguments} {scope : Scope} {dvs : List V} {kws : List (Str × V)} {g : Addr} {fd : FuncData} {f sf : Str} {N : List Str} {p1 p2 p3 p4 p5 : Pos}
    (F : FunD K "__iter__" qual params [.Return (some (.Call (.Name "iter" p1) [.Attribute (.Name sf p2) f p3] [] p4)) p5] scope dvs kws g fd) (Sc : FnScope N [sf] scope) (b : Binds K fd [sf] []) (hm : mg "iter" = none)
    (hgl : ∀ (cdv : Value) (A : Around) (outer : List Env) (s : Shared) (H : Hp) (E : XK), Gl (cxOf (L2.CX P w) P w K mg base N qual scope g cdv A outer s H E) "iter" := by intros; rfl) (hN : N[0]? = some sf := by rfl) (hv : scope.names.lookup sf = some .local := by rfl)
    (hb : ∀ env : Env, attributeBase (.Name sf p2) f env (eval (.Name sf p2) env) = eval (.Name sf p2) env := by intro env; rfl) (hd : (sf == ("__debug__" : Str)) = false := by decide) (hcd : (sf == ("__classdict__" : Str)) = false := by decide) :
    FnN P w K mg base 1 g (spIter K f) := by
  refine fnN_of F Sc b (fun n vs H Q E h => ?_) fun cdv A outer s H vs Q E hr h => ?_
  · obtain ⟨a, C, dx, fs, d, o, kvs, rfl, _⟩ := h
    rfl
  · refine ⟨_, pss_one (ps_ret (pe_callB call_iterK (hgl cdv A outer s H E) hm (by first | rfl | decide +kernel) (pa_cons (pe_fldR (pe_var (i := 0) hN (Or.inl hv) hd hcd) (hb _)) pa_nil))), ?_⟩
    obtain ⟨a, C, dx, fs, d, o, kvs, rfl, ea, c, n, l, e, q⟩ := h
    exact ⟨.ref a, by unfold L2.start; rfl, a, C, dx, fs, .ref d, rfl, ea, c, n, l, d, o, kvs, rfl, e, q⟩
theorem pyIter_own {M : Model} {A : Around} {E : Value → Shared → Prop} {s : Shared} {K : PySem.W.Frag} {x C f : Addr} {ox : Obj} {od : Option Obj} {Q : Value → Shared → Prop} (Xk : K.In s.heap) (J : PySem.W.InstAt s.heap x ox C od) (hs : PySem.W.findIn K (.ref C) "__iter__" = some (some (.ref f))) (hf : PySem.W.isFn K (.ref f) = true)
    (h : wpAny M A (call (.ref f) [.ref x]) (fun it s' => s'.TypeIs it "dict_keyiterator" ∧ Q it s') E s) : wpAny M A (pyIter (.ref x)) Q E s := by
  have tail : ∀ it s', s'.TypeIs it "dict_keyiterator" ∧ Q it s' → wpAny M A (specialOf it "__next__" >>= fun r => match r with
      | none => (do rule "iter.non-iterator"; raiseError "TypeError" s!"iter() returned non-iterator of type '{← typeNameOf it}'" : Sem Value)
      | some _ => pure it) Q E s' := fun it s' ⟨hT, q⟩ =>
    wpAny_bind (wpAny_specialOf hT F.slot_dict_keyiterator_next.lookup (wpAny_pure q))
  unfold pyIter
  refine wpAny_bind (wpAny_bind (J.type.here ((PySem.W.looks_findIn Xk hs).here ?_)))
  dsimp only
  refine wpAny_bind ?_
  unfold callSpecialIfBoundUnlessNone? bindSpecialIfBound?
  refine wpAny_holding (wpAny_bind (wpAny_bind (wpAny_bind (J.type.here ((PySem.W.looks_findIn Xk hs).here ?_)))))
  refine wpAny_bind (wpAny_askSetting (wpAny_ite ?_))
  have hb := PySem.W.bind_fn (M := M) Xk (.ref x) (beq_iff_eq.mp hf)
  split
  · exact wpAny_bind (hb.here (wpAny_pure (by exact wpAny_bind (wpAny_mono h (fun it s' z => wpAny_pure (tail it s' z)) fun _ _ z => z))))
  · exact wpAny_tryCatch (wpAny_bind (hb.here (wpAny_pure (by exact wpAny_bind (wpAny_mono h (fun it s' z => wpAny_pure (tail it s' z)) fun _ _ z => z)))))
abbrev Itb := List (Nat × Str)
def ITab (X : Cx) (W : Wd) (j : Nat) (itb : Itb) : Prop := ∀ c f, itb.lookup c = some f → ∃ g k, Meth X.K (W.cl c) "__iter__" g ∧ InsC X.K W c ∧ FnN X.prog X.w X.K X.mg X.base k g (spIter X.K f) ∧ k ≤ j
theorem it_nil {j : Nat} : ITab X W j [] := fun c f h => by cases h
theorem it_cons {j c k : Nat} {g : Addr} {f : Str} {itb : Itb} (M : Meth X.K (W.cl c) "__iter__" g) (T : InsC X.K W c) (F : FnN X.prog X.w X.K X.mg X.base k g (spIter X.K f)) (r : ITab X W j itb) (hk : k ≤ j := by decide) : ITab X W j ((c, f) :: itb) := fun c' f' h => by
  rw [List.lookup_cons] at h
  by_cases e : c' = c
  · subst e
    simp at h
    subst h
    exact ⟨g, k, M, T, F, hk⟩
  · have e2 : (c' == c) = false := by simpa using e
    rw [e2] at h
    exact r c' f' h
/-- the goods of an instance -/
def iterD (itb : Itb) (eta : List MO) (d : D) : Option (List D) := match insD eta d with
  | some (c, ds) => (match itb.lookup c with
    | some f => (match fldIx f c with
      | some j => (match ds[j]? with
        | some (.fd ks _) => some (ks.map kD)
        | _ => none)
      | none => none)
    | none => none)
  | none => none
theorem own_iter_at {A' : Around} {j : Nat} {itb : Itb} {pins : List (Addr × Obj)} {σ : L2.St} {H : Hp} {s : Shared} {th : List Addr} {eta : List MO} {d : D} {v : V} {u : Value} {ds : List D} {Q : Value → Shared → Prop} (T : ITab X W j itb) (hr : Room j A') (tk : Takes X Wx) (he : Env0 X.prog X.w X.K X.mg X.base A' X.stack s H) (I : Inv X pins σ H s) (S : SRh W th H eta) (R : RepT W th H d v) (r : RelV v u) (h : iterD itb eta d = some ds)
    (q : ∀ (it : Addr) (s' : Shared) (da : Addr) (o : Obj) (ks : List Key) (vs : List V) (ep : Nat) (es : Array DictEntry), Inv X pins σ H s' → o.data = .dict es ep → s'.heap.IsKeyIter it da 0 (ks.zip vs).length ep → FpOk X pins H it → H da = some (.frz o (.dK (ks.zip vs))) → ks.length = vs.length → ds = ks.map kD → Q (.ref it) s') : wpAny (model X.prog X.w) A' (pyIter u) Q X.xe s := by
  unfold iterD at h
  split at h
  · rename_i c fs hd
    split at h
    · rename_i f hf
      split at h
      · rename_i i hi
        split at h
        · rename_i ks ws hw
          cases h
          obtain ⟨g, k, M, tc, F, hk⟩ := T c f hf
          obtain ⟨a, dx, vs, rfl, ea, hl, Rs⟩ := insD_at S R hd
          obtain rfl : u = Value.ref a := r
          obtain ⟨od, J, hlk⟩ := ins_inst I ea
          obtain ⟨wv, ew, Rw⟩ := RepTs.get Rs hw
          obtain ⟨da, o, vs2, rfl, ed, l, Rs2⟩ := Rw
          have hm := fldIx_mem hi
          have hlook : ((W.fld c).zip vs).lookup f = some (.ref da) := lookup_zipP (j := i) (by rw [tc.fl]; exact hi) ew
          have sp : spIter X.K f s.heap.objs.size [.ref a] H (fun v H' => ∃ it, v = .ref it ∧ H it = none ∧ s.heap.objs.size ≤ it ∧ H' = upd H it (KitO da it o (ks.zip vs2).length)) (WE Wx σ) := ⟨a, _, dx, _, da, o, _, rfl, ea, tc.cl, tc.no f hm.1, hlook, ed, fun it hit hle => ⟨it, rfl, hit, hle, rfl⟩⟩
          refine pyIter_own I.kIn J M.at_ M.fn (wpAny_call (codeAny_mono (F A' X.stack s H [.ref a] [.ref a] _ (WE Wx σ) (hr.mono hk) he (.cons rfl .nil) sp) fun rr s' hq => ?_))
          cases rr with
          | error e => exact passAt tk σ pins H s e s' I hq
          | ok fl =>
            cases fl with
            | ret z =>
              obtain ⟨v1, H1, I1, rv1, it, rfl, hit, hnew, rfl⟩ := I.after hq
              obtain rfl : z = Value.ref it := rv1
              obtain ⟨⟨es', ep', hdt, hki⟩, _⟩ := I1.hok it _ upd_same
              refine ⟨hki.typeIs, q it s' da o ks vs2 ep' es' ?_ hdt hki ?_ ed l rfl⟩
              · have I2 := ItX.inv_drop I1 (a := it) upd_same
                rw [ItX.dropH_upd hit] at I2
                exact I2
              · have z := ItX.inv_fp I1 (a := it) upd_same (Nat.le_trans I.sz hnew)
                rw [ItX.dropH_upd hit] at z
                exact z
            | next => exact False.elim hq
            | brk => exact False.elim hq
            | cont => exact False.elim hq
        · cases h
      · cases h
    · cases h
  · cases h
theorem iterD_iter {j : Nat} {itb : Itb} {pins : List (Addr × Obj)} {σ : L2.St} {H : Hp} {s : Shared} {th : List Addr} {rho : Rho} {eta : List MO} {EX : EXA} {d : D} {v : V} {u : Value} {ds : List D} {tg : Expr} {R' : It → Hp → Prop} (T : ITab X W j itb) (hr : Room j X.A) (tk : Takes X Wx) (I : Inv X pins σ H s) (S : SRh W th H eta) (R : RepT W th H d v) (r : RelV v u) (h : iterD itb eta d = some ds)
    (q : ∀ J, JOk W J th H ds → R' J H) : wpAny (model X.prog X.w) X.A (pyIter u) (PIE X pins σ tg R') X.xe s :=
  own_iter_at T hr tk I.env0 I S R r h fun it s' da o ks vs ep es I' hdt hki hf ed l e => by
    subst e
    refine ⟨it, [it], _, Itk da o (ks.zip vs), H, rfl, I', turn_keys it hdt, hki, fun b hb => ?_, q _ (jok_keys ed l)⟩
    have e : b = it := by simpa using hb
    subst e
    exact hf
def walkU (itb : Itb) (eta : List MO) (d : D) : Option (List D) := match walkL d with
  | some ds => some ds
  | none => iterD itb eta d
def itmU (itb : Itb) (R : List D → List MO → Prop) : QA := fun d eta => match walkU itb eta d with
  | some ds => R ds eta
  | none => False
def aItU (itb : Itb) (t : TEa) : TIa := fun rho eta R EX => t rho eta (itmU itb R) EX
theorem ia_u {j : Nat} {itb : Itb} {tg l : Expr} {t : TEa} (he : EmpT X.K W) (T : ITab X W j itb) (hr : Room j X.A) (tk : Takes X Wx) (h : EA X W Wx l t) : IA X W Wx tg l (aItU itb t) := ⟨fun pins s σ H th rho eta R EX I S xo ht => by
  refine thn (h.run pins s σ H th rho eta _ EX I S xo ht) fun u s1 ⟨v, th1, H1, d, eta1, I1, r1, g1, S1, R1, q1⟩ => ?_
  unfold itmU at q1
  split at q1
  · rename_i ds hw
    unfold walkU at hw
    split at hw
    · rename_i ds' hw'
      cases hw
      exact walkL_iter he I1 R1 r1 hw' fun J jo => ⟨th1, ds, eta1, g1, S1, jo, q1⟩
    · exact iterD_iter (EX := EX) (rho := rho) T hr tk I1 S1.hp R1 r1 hw fun J jo => ⟨th1, ds, eta1, g1, S1, jo, q1⟩
  · exact q1.elim⟩
theorem i_itU {itb : Itb} {t : TEa} {rho : Rho} {eta : List MO} {R : List D → List MO → Prop} {EX : EXA} (h : t rho eta (itmU itb R) EX) : aItU itb t rho eta R EX := h
theorem i_itmU {itb : Itb} {eta : List MO} {R : List D → List MO → Prop} {d : D} {ds : List D} (hw : walkU itb eta d = some ds) (h : R ds eta) : itmU itb R d eta := by
  unfold itmU; rw [hw]; exact h
end
end RF
set_option maxRecDepth 100000
set_option maxHeartbeats 4000000
namespace RF
open PySem PySem.Spec PyProof.Rows L2
/-! ### dict comprehensions: the new dict is data -/
def kpK (ks : List Key) (vs : List D) (k : Key) : List Key := if (kget ks vs k).isSome then ks else ks ++ [k]
def kpV (ks : List Key) (vs : List D) (k : Key) (x : D) : List D := if (kget ks vs k).isSome then kset ks vs k x else vs ++ [x]
theorem kput_eq (ks : List Key) (vs : List D) (k : Key) (x : D) : kput ks vs k x = .dct (kpK ks vs k) (kpV ks vs k x) := by
  unfold kput kpK kpV
  split <;> rfl
theorem kpK_le (ks : List Key) (vs : List D) (k : Key) : (kpK ks vs k).length ≤ ks.length + 1 := by
  unfold kpK; split <;> simp
def aDcG (ga : TGa) (tt : TTa) (tk tv : TEa) (rho : Rho) (Q : List Key → List D → List MO → Prop) : List D → List Key → List D → List MO → Prop
  | [], ks, vs, eta => Q ks vs eta
  | d :: ds, ks, vs, eta => ga d rho eta fun rho1 eta1 => tt rho1 eta1 (fun b eta2 => if b = true then tk rho1 eta2 (fun kd eta3 => tv rho1 eta3 (fun y eta4 => match keyD kd with
    | some k => y.im = true ∧ aDcG ga tt tk tv rho Q ds (kpK ks vs k) (kpV ks vs k y) eta4
    | none => False) (fun _ _ _ => False)) (fun _ _ _ => False) else aDcG ga tt tk tv rho Q ds ks vs eta2) (fun _ _ _ => False)
def aDc (ti : TIa) (ga : TGa) (tt : TTa) (tk tv : TEa) (vs : List Nat) : TEa := fun rho eta Q EX => ti rho eta (fun ds eta1 => ds.length ≤ 100000 ∧ aDcG ga tt tk tv (wipA rho vs) (fun ks es eta2 => Q (.fd ks es) eta2) ds [] [] eta1) EX
section
variable {X : Cx} {W : Wd} {Wx : WX}
theorem ea_dc {kx vx tg iter : Expr} {ifs : List Expr} {scope : Scope} {own : List (Str × Nat)} {pos : Pos} {ti : TIa} {g : TG} {ga : TGa} {tt : TTa} {tk tv : TEa} (hc : X.calm = true) (hN : X.N.Nodup) (hi : IA X W Wx tg iter ti) (ok : BlkOk X.N X.env.scope scope own)
    (hg : ∀ (s : Shared) (H : Hp) (C : Addr) (cl : List (Str × Addr)) (fp : List Addr), PG (X.blk s H scope (compEnvC scope cl C X.env) fp) tg g) (hk : GBk W (own.map (·.2)) g ga)
    (ht : ∀ (s : Shared) (H : Hp) (C : Addr) (cl : List (Str × Addr)) (fp : List Addr), TsA (X.blk s H scope (compEnvC scope cl C X.env) fp) W W0 ifs tt)
    (hkx : ∀ (s : Shared) (H : Hp) (C : Addr) (cl : List (Str × Addr)) (fp : List Addr), EA (X.blk s H scope (compEnvC scope cl C X.env) fp) W W0 kx tk)
    (he : ∀ (s : Shared) (H : Hp) (C : Addr) (cl : List (Str × Addr)) (fp : List Addr), EA (X.blk s H scope (compEnvC scope cl C X.env) fp) W W0 vx tv) (hs : ∀ x, foldedSetIterable iter X.env x = pure x := by intro _; rfl) :
    EA X W Wx (.DictComp kx vx [⟨tg, iter, ifs, 0⟩] scope pos) (aDc ti ga tt tk tv (own.map (·.2))) := by
  refine .of (pe_fz (pe_dc hc hN hi.pi ok hg (fun s H C cl fp => (ht s H C cl fp).pts) (fun s H C cl fp => (hkx s H C cl fp).pe) (fun s H C cl fp => (he s H C cl fp).pe) hs)) fun σ H th rho eta Qa EX S xo hq => ?_
  refine ⟨th, rho, eta, _, EX, S, xo, hq, fun J th1 H1 ds eta1 g1 S1 jo q => ?_⟩
  obtain ⟨hlen, q⟩ := q
  intro D hD
  have hD1 : D ∉ th1 := fun z => by obtain ⟨o, e⟩ := S1.hp.there D z; rw [hD] at e; cases e
  let Inv2 : Nat → Hp → Prop := fun i H2 => ∃ th2 eta2 ks acc accD, Grow th1 H1 th2 H2 ∧ SRh W th2 H2 eta2 ∧ D ∉ th2 ∧ H2 D = some (.dK (ks.zip acc)) ∧ ks.length = acc.length ∧ Reps W H2 accD acc ∧ ks.length ≤ i ∧ i ≤ ds.length ∧
    aDcG ga tt tk tv (wipA rho (own.map (·.2))) (fun ks es eta2 => Qa (.fd ks es) eta2) (ds.drop i) ks accD eta2
  refine ⟨fun i m H2 => m = ds.length - i ∧ Inv2 i H2, ⟨ds.length, rfl, th1, eta1, [], [], [], Grow.new hD, S1.hp.new hD, hD1, upd_same, rfl, rfl, by simp, Nat.zero_le _, by simpa using q⟩, ?_⟩
  rintro i m H2 ⟨rfl, th2, eta2, ks, acc, accD, g2, S2, hD2, eD, lk, Racc, hacc, hil, q2⟩
  obtain ⟨jg, js⟩ := jo th2 H2 g2 i
  cases e : ds[i]? with
  | none =>
    have hl : ds.length ≤ i := List.getElem?_eq_none_iff.mp e
    rw [List.drop_eq_nil_of_le hl] at q2
    refine .inl ⟨js hl, D, _, rfl, eD, trivial, fun od => ?_⟩
    obtain ⟨pf, S3⟩ := S2.aside (o' := .frz od (.dK (ks.zip acc))) hD2 eD (fun z => z)
    have g3 := g2.aside (o := .frz od (.dK (ks.zip acc))) hD
    have g13 := g1.trans' S1.hp g3
    exact ⟨th2, .fd ks accD, eta2, g13, ⟨fun i d e => let ⟨v, e1, r⟩ := S.var i d e; ⟨v, e1, r.mono g13⟩, S.le, S3⟩, ⟨D, od, acc, rfl, upd_same, lk, Reps.mono pf _ _ Racc⟩, q2⟩
  | some d =>
    obtain ⟨hgo, hy⟩ := jg d e
    have hlt : i < ds.length := (List.getElem?_eq_some_iff.mp e).1
    rw [drop_get e] at q2
    refine .inr ⟨hgo, Inv2 (i + 1), fun H' q => ⟨ds.length - (i + 1), by omega, rfl, q⟩, fun x H' hyl => ?_⟩
    obtain ⟨py, hk2, Rx⟩ := hy x H' hyl
    obtain ⟨S2h, g3⟩ := hk2 th2 eta2 S2
    have Sw : SR W th2 H2 (wipe σ (own.map (·.2))) (wipA rho (own.map (·.2))) eta2 := wipA_sr (S1.mono g2 S2) _
    have Sw3 := Sw.mono g3 S2h
    have eD3 : H' D = some (.dK (ks.zip acc)) := g3.keep D _ eD (.inl hD2)
    refine hk _ H' th2 _ eta2 x d _ _ Sw3 Rx q2 fun σ2 rho2 hw S4 q4 => ⟨by rw [hw, wipe_wipe], th2, rho2, eta2, _, _, S4, XOk.none, q4, fun th5 H5 b eta5 g5 S5 q5 => ?_⟩
    have eD5 : H5 D = some (.dK (ks.zip acc)) := g5.keep D _ eD3 (.inl hD2)
    have hD5 : D ∉ th5 := g5.notin hD2 eD3
    have g25 : Grow th1 H1 th5 H5 := g2.trans' S2 (g3.trans' S2h g5)
    have p25 : Pers H2 H5 := fun a o h f => g5.pers a o (py a o h f) f
    cases b with
    | false =>
      rw [if_neg Bool.false_ne_true] at q5
      dsimp only
      rw [if_neg Bool.false_ne_true]
      exact ⟨th5, eta5, ks, acc, accD, g25, S5.hp, hD5, eD5, lk, Reps.mono p25 _ _ Racc, by omega, hlt, q5⟩
    | true =>
      rw [if_pos rfl] at q5
      dsimp only
      rw [if_pos rfl]
      refine ⟨th5, rho2, eta5, _, _, S5, XOk.none, q5, fun th6 H6 ky dk eta6 g6 S6 Rk q6 => ?_⟩
      have eD6 : H6 D = some (.dK (ks.zip acc)) := g6.keep D _ eD5 (.inl hD5)
      have hD6 : D ∉ th6 := g6.notin hD5 eD5
      refine ⟨th6, rho2, eta6, _, _, S6, XOk.none, q6, fun th7 H7 y dy eta7 g7 S7 Ry q7 => ?_⟩
      split at q7
      · rename_i k hk'
        obtain ⟨yi, q7⟩ := q7
        have eD7 : H7 D = some (.dK (ks.zip acc)) := g7.keep D _ eD6 (.inl hD6)
        have hD7 : D ∉ th7 := g7.notin hD6 eD6
        have Racc7 : Reps W H7 accD acc := Reps.mono g7.pers _ _ (Reps.mono g6.pers _ _ (Reps.mono p25 _ _ Racc))
        have hsz : (ks.zip acc).length < sizeLine := sizeK (by rw [List.length_zip, ← lk, Nat.min_self]; omega)
        refine ⟨ks.zip acc, k, keyD_at Rk hk', eD7, hsz, ?_⟩
        obtain ⟨p8, S8⟩ := S7.hp.aside (o' := .dK (putK (ks.zip acc) k y)) hD7 eD7 (fun z => z)
        have RM := kput_at (th := th7) (k := k) lk (Reps.mono p8 _ _ Racc7) (Rep.mono p8 _ _ (Ry.im yi))
        rw [kput_eq] at RM
        obtain ⟨ws, ew, lw, Rw⟩ := RM
        have ew2 : putK (ks.zip acc) k y = (kpK ks accD k).zip ws := by injection ew
        refine ⟨th7, eta7, kpK ks accD k, ws, kpV ks accD k dy, ((g25.trans' S5.hp g6).trans' S6.hp g7).aside hD, S8, hD7, by rw [← ew2]; exact upd_same, lw, Rw, ?_, hlt, q7⟩
        have := kpK_le ks accD k
        omega
      · exact q7.elim
/-! ### list(x), x an own instance walked by its dict's keys -/
theorem klist_loop {pins : List (Addr × Obj)} {σ : L2.St} {A1 : Around} {S it da : Addr} {o : Obj} {kvs : List (Key × V)} {es : Array DictEntry} {ep : Nat} {Rs : Result → Shared → Prop} (hh : A1.handled = none) (hdt : o.data = .dict es ep) :
    ∀ (m i : Nat) (acc : List V) (H : Hp) (s : Shared), m + i = kvs.length → Inv X pins σ H s → H S = some (.lst acc) → acc.length + m ≤ 100000 → H da = some (.frz o (.dK kvs)) → s.heap.IsKeyIter it da i kvs.length ep → FpOk X pins H it →
      (∀ s', Inv X pins σ (upd H S (.lst (acc ++ (kvs.drop i).map fun kv => kV kv.1))) s' → Rs (.ok (.ret .none)) s') → codeAny (model X.prog X.w) A1 (.builtin "list.extend.loop" ⟨[.ref S, .ref it, .none], []⟩) Rs s
  | 0, i, acc, H, s, hm, I, hS, hz, hda, st, hf, fin => by
    refine codeAny_builtin PySem.F.entry_extend_loop ?_
    rw [Around.under_plainId PySem.F.plain_extend_loop _]
    obtain ⟨f0, f1, f2, f3, f4, f5⟩ := hf
    obtain ⟨hs, hgd, hx, es', ep', vs, hdt', hsz, kv, hmm⟩ := I.frzK hda
    obtain ⟨rfl, rfl⟩ := dict_ep hdt hdt'
    refine wpAny_bind (m := pyNext (.ref it)) (next_key_end hh st hgd hdt hsz (by omega) fun h' eb => ?_)
    refine wpAny_pure ?_
    have I1 := I.turned (t' := s.toks) (fun b ob hb e => eb b ob hb e) f0 f1 f3 f4 f5
    refine fin _ ?_
    rw [List.drop_eq_nil_of_le (by omega)]
    have e : upd H S (.lst (acc ++ [].map fun (kv : Key × V) => kV kv.1)) = H := by
      funext b
      by_cases hb : b = S
      · rw [hb, upd_same, hS]; simp
      · rw [upd_ne hb]
    rw [e]
    exact I1
  | m + 1, i, acc, H, s, hm, I, hS, hz, hda, st, hf, fin => by
    refine codeAny_builtin PySem.F.entry_extend_loop ?_
    rw [Around.under_plainId PySem.F.plain_extend_loop _]
    have hf0 := hf
    obtain ⟨f0, f1, f2, f3, f4, f5⟩ := hf
    obtain ⟨hs, hgd, hx, es9, ep9, vs, hdt', hsz, kv, hmm⟩ := I.frzK hda
    obtain ⟨e8, e9⟩ := dict_ep hdt hdt'
    subst e8 e9
    have hl : kvs.length = vs.length := Paired.length kv
    have hi : i < kvs.length := by omega
    obtain ⟨⟨k, v⟩, hkv⟩ : ∃ p, kvs[i]? = some p := ⟨kvs[i], List.getElem?_eq_getElem hi⟩
    obtain ⟨u, hu, ru⟩ := kv_get kv hkv
    rw [hl] at st
    refine wpAny_bind (m := pyNext (.ref it)) (wpAny_pyNext_dict_item st hmm hu fun key h' hkey st' sb => ?_)
    have I1 : Inv X pins σ H { s with heap := h' } := I.turned (t' := s.toks) (fun b ob hb e => (sb.2 b hb).trans e) f0 f1 f3 f4 f5
    have rk : RelV (kV k) key := relV_key (show keyIs k key = true from hkey)
    obtain ⟨z, its, c, r2, hl2, e2⟩ := I1.lstM hS
    have hne : S ≠ it := fun z => by rw [z, f0] at hS; cases hS
    show wpAny _ _ (updateSeq S (·.push key) >>= _) _ _ _
    have hzl : its.length + 1 ≤ sizeLine := by rw [sizeLine_eq]; omega
    refine wpAny_bind (wpAny_updateSeq e2 rfl (wpAny_pure ⟨plainId_quiet PySem.F.plain_extend_loop _, ?_⟩) (by rw [List.size_toArray]; omega) (by show (its.toArray.push key).size ≤ sizeLine + 1; rw [Array.size_push, List.size_toArray]; omega))
    have I2 := I1.lset (f := (·.push key)) (its' := its ++ [key]) (ys := acc ++ [kV k]) (t' := s.toks) hS e2 (by simp) (r2.append (.cons rk .nil)) (by rw [List.length_append, List.length_singleton]; omega)
    have hda2 : upd H S (.lst (acc ++ [kV k])) da = some (.frz o (.dK kvs)) := by
      rw [upd_ne (fun z => by rw [z, hS] at hda; cases hda)]; exact hda
    have st2 : (h'.update S (Obj.mapSeq (·.push key))).IsKeyIter it da (i + 1) kvs.length ep9 := by
      rw [hl]
      exact st'.at fun ob e => by rw [Heap.get?_update_ne _ _ _ _ (Ne.symm hne)]; exact e
    refine klist_loop hh hdt m (i + 1) (acc ++ [kV k]) _ _ (by omega) I2 upd_same (by simp; omega) hda2 st2 ⟨by rw [upd_ne (Ne.symm hne)]; exact f0, f1, f2, f3, f4, f5⟩ fun s' I' => fin s' ?_
    rw [upd_upd] at I'
    rw [drop_get hkv, List.map_cons]
    rw [List.append_assoc] at I'
    exact I'
end
end RF
set_option maxRecDepth 100000
set_option maxHeartbeats 4000000
namespace RF
open PySem PySem.Spec PyProof.Rows L2
section
variable {X : Cx} {W : Wd} {Wx : WX}
/-! ### list(x) -/
theorem own_len_hint {M : Model} {A : Around} {E : Value → Shared → Prop} {s : Shared} {K : PySem.W.Frag} {a C g : Addr} {ox : Obj} {od : Option Obj} {Q : Bool → Shared → Prop} (hK : K.In s.heap) (J : PySem.W.InstAt s.heap a ox C od) (hs : PySem.W.findIn K (.ref C) "__len__" = some (some (.ref g)))
    (h : wpAny M A (call (.builtin "len") [.ref a]) (fun r s' => ∃ (i : Int) (t : Tok), r = .int i t ∧ (0 ≤ i ∧ i < 1000000) ∧ Q (i != 0) s') (fun _ _ => False) s) : wpAny M A (Builtin.List.listLengthHint (.ref a)) Q E s := by
  unfold Builtin.List.listLengthHint
  refine wpAny_bind (wpAny_bind (J.type.here ((PySem.W.looks_findIn hK hs).here ?_)))
  refine PySem.W.KFB.if_not rfl ?_
  refine PySem.W.KFB.if_so rfl ?_
  refine wpAny_bind (wpAny_rule ?_)
  refine wpAny_bind (wpAny_attempt (wpAny_mono h (fun r s' hr => ?_) fun _ _ z => z.elim))
  obtain ⟨i, t, rfl, hi, q⟩ := hr
  refine wpAny_bind (m := asInt? _) (wpAny_pure ?_)
  dsimp only
  have hz : Builtin.List.listTooLong i.toNat = false := by
    unfold Builtin.List.listTooLong
    rw [decide_eq_false_iff_not, sizeLine_eq]
    omega
  rw [if_neg (by rw [hz]; exact Bool.false_ne_true)]
  exact wpAny_pure q
theorem Inv.pinned {pins : List (Addr × Obj)} {σ : L2.St} {H : Hp} {s : Shared} {it : Addr} {o : Obj} (I : Inv X pins σ H s) (f : FpOk X pins H it) (e : s.heap.get? it = some o) (hd : ∀ v, o.data ≠ .cell v) : Inv X ((it, o) :: pins) σ H s := by
  refine ⟨I.ok, I.os, I.bare, I.base, I.loc, I.cell, I.free, I.freeC, fun p hp => ?_, I.hok, I.len⟩
  rcases List.mem_append.mp hp with hp | hp
  · exact I.pin p (List.mem_append_left _ hp)
  · rcases List.mem_cons.mp hp with rfl | hp
    · exact ⟨e, f.1, f.2.1, f.2.2.1, hd⟩
    · exact I.pin p (List.mem_append_right _ hp)
theorem Inv.unpinned {pins : List (Addr × Obj)} {σ : L2.St} {H : Hp} {s : Shared} {it : Addr} {o : Obj} (I : Inv X ((it, o) :: pins) σ H s) : Inv X pins σ H s ∧ s.heap.get? it = some o ∧ H it = none := by
  have z := I.pin (it, o) (List.mem_append_right _ List.mem_cons_self)
  refine ⟨⟨I.ok, I.os, I.bare, I.base, I.loc, I.cell, I.free, I.freeC, fun p hp => ?_, I.hok, I.len⟩, z.1, z.2.1⟩
  rcases List.mem_append.mp hp with hp | hp
  · exact I.pin p (List.mem_append_left _ hp)
  · exact I.pin p (List.mem_append_right _ (List.mem_cons_of_mem _ hp))
/-- len of an own instance, anywhere, nothing raised -/
theorem own_len_at {A' : Around} {j : Nat} {tbl : Tbl} {pins : List (Addr × Obj)} {σ : L2.St} {H : Hp} {s : Shared} {th : List Addr} {rho : Rho} {eta : List MO} {d : D} {v : V} {u : Value} {S : SpA} {Qa : QA} (T : MTab X W "__len__" j tbl) (hr : Room (j + 1) A') (he : ∀ {pins : List (Addr × Obj)} {σ : L2.St} {H : Hp} {s : Shared}, Inv X pins σ H s → Env0 X.prog X.w X.K X.mg X.base A' X.stack s H)
    (I : Inv X pins σ H s) (Sr : SR W th H σ rho eta) (R : RepT W th H d v) (r : RelV v u) (hS : tblD tbl eta d = some S) (hq : raCall S [d] rho eta (fun z eta1 => ∃ i, z = .int i ∧ (0 ≤ i ∧ i < 1000000) ∧ Qa (.int i) eta1) (fun _ _ _ => False)) :
    wpAny (model X.prog X.w) A' (call (.builtin "len") [u]) (fun r s' => ∃ (i : Int) (t : Tok), r = .int i t ∧ (0 ≤ i ∧ i < 1000000) ∧ ∃ th' H' eta', Inv X pins σ H' s' ∧ Grow th H th' H' ∧ SR W th' H' σ rho eta' ∧ Qa (.int i) eta') (fun _ _ => False) s := by
  obtain ⟨p, c, g, k, od, dx, rfl, rfl, M, tc, J, hl, F, hk, hc⟩ := tblD_at T I Sr.hp R r hS
  obtain ⟨m0, F0⟩ := I.fr
  have hr1 : Room k A'.in1 := (hr.mono (by omega : k + 1 ≤ j + 1)).in1
  refine PySem.W.len_K F0 I.ok.mod.kin J M.at_ M.fn (wpAny_call (codeAny_mono (F A'.in1 X.stack s H [.ref p] [.ref p] _ (WE W0 σ) hr1 (he I).in1 (.cons rfl .nil) (sp_raCall (Wx := W0) (EX := fun _ _ _ => False) Sr XOk.none (show RepTs W th H [d] [.ref p] from ⟨_, _, rfl, R, rfl⟩) hq)) fun rr s' h => ?_))
  cases rr with
  | error e =>
    obtain ⟨_, _, _, _, _, _, _, _, _, _, _, _, z⟩ := h
    exact z.elim
  | ok fl =>
    cases fl with
    | ret z =>
      obtain ⟨v', H', I', rv, th', d', eta', g', S', R', i, rfl, hi, q⟩ := I.after h
      have e1 : v' = .int i := R'
      subst e1
      obtain ⟨t, rfl⟩ := rv
      exact ⟨⟨hi.1, by omega⟩, i, _, rfl, hi, th', H', eta', I'.tok _, g', S', q⟩
    | next => exact False.elim h
    | brk => exact False.elim h
    | cont => exact False.elim h
def raListU (tbl : Tbl) (itb : Itb) : RNa := fun ds rho eta Q EX => match ds with
  | [d] => (match iterD itb eta d with
    | some es => es.length ≤ 100000 ∧ (match tblD tbl eta d with
      | some S => raCall S [d] rho eta (fun r eta1 => ∃ i, r = .int i ∧ (0 ≤ i ∧ i < 1000000) ∧ eta1 = eta) (fun _ _ _ => False) ∧ Q (.fl es) eta
      | none => False)
    | none => (match d with
      | .fd ks vs => Q (.fl (ks.map kD)) eta
      | _ => raListF [d] rho eta Q EX))
  | _ => False
theorem reps_keys {H : Hp} : ∀ {ks : List Key}, Reps W H (ks.map kD) (ks.map kV)
  | [] => rfl
  | k :: ks => ⟨_, _, rfl, kD_rep k, reps_keys⟩
theorem zip_keys {ks : List Key} {vs : List V} (l : ks.length = vs.length) : ((ks.zip vs).map fun kv => kV kv.1) = ks.map kV := by
  have e : ((ks.zip vs).map fun kv => kV kv.1) = ((ks.zip vs).map Prod.fst).map kV := by rw [List.map_map]; rfl
  rw [e, List.map_fst_zip (by omega)]
theorem fin_list {pins : List (Addr × Obj)} {σ : L2.St} {H : Hp} {s' : Shared} {th : List Addr} {rho : Rho} {eta : List MO} {Qa : QA} {q : Addr} {es : List D} {vs : List V} (S : SR W th H σ rho eta) (hq : H q = none) (I : Inv X pins σ (upd H q (.lst vs)) s') (R : Reps W H es vs) (h : Qa (.fl es) eta) : EPa X W pins σ th H rho Qa (.ref q) s' := by
  obtain ⟨od, I2⟩ := I.lock (d := q) upd_same trivial
  rw [upd_upd] at I2
  exact ⟨.ref q, th, _, .fl es, eta, I2, rfl, Grow.new hq, S.mono (Grow.new hq) (S.hp.new hq), ⟨q, od, vs, rfl, upd_same, Reps.mono (Grow.new (th := th) hq).pers _ _ R⟩, h⟩
theorem ca_listU {j : Nat} {tbl : Tbl} {itb : Itb} (hc : X.calm = true) (T : MTab X W "__len__" j tbl) (Ti : ITab X W j itb) (hr : Room (j + 3) X.A) (tk : Takes X Wx) : ClA X W Wx (.type "list") (raListU tbl itb) := by
  intro pins s σ H th rho eta xs us ds Qa EX I Sr xo rx Rd hq
  unfold raListU at hq
  split at hq
  · rename_i d
    obtain ⟨v, rfl, R1⟩ := Rd.one
    obtain ⟨u, rfl, r1⟩ := vals1 rx
    split at hq
    · rename_i es hes
      obtain ⟨hz, hq⟩ := hq
      split at hq
      · rename_i S hS
        obtain ⟨hlen, hq⟩ := hq
        refine callType_codes (Q₁ := fun obj s1 => obj = .ref s.heap.objs.size ∧ s1 = { s with heap := s.heap.push { cls := .type "list", data := .seq #[] } }) PySem.F.called_list (PySem.F.typeCall_list_1 _) PySem.F.entry_list_init
          (code_list_new _ ⟨rfl, rfl⟩) fun obj s1 h1 => ?_
        obtain ⟨rfl, rfl⟩ := h1
        have hS0 : (s.heap.push { cls := .type "list", data := .seq #[] }).get? s.heap.objs.size = some { cls := .type "list", data := .seq #[] } := Heap.get?_push_size _ rfl
        refine ⟨⟨_, hS0, rfl⟩, PySem.F.args_list_init_2 _ _, ?_⟩
        have fr : H s.heap.objs.size = none := I.hok.fresh (Nat.le_refl _)
        have I1 : Inv X pins σ (upd H s.heap.objs.size (.lst [])) { s with heap := s.heap.push { cls := .type "list", data := .seq #[] } } := I.lnew (its := []) (t' := s.toks) .nil (Nat.zero_le _)
        refine wpAny_bind (m := Builtin.List.listItems (.ref s.heap.objs.size)) ?_
        unfold Builtin.List.listItems
        refine wpAny_bind (wpAny_seqItems hS0 rfl (wpAny_pure ?_))
        refine wpAny_bind (m := updateSeq s.heap.objs.size (fun _ => #[])) (wpAny_updateSeq hS0 rfl ?_)
        have I2 := I1.lset (f := fun _ => #[]) (its := []) (its' := []) (ys := []) (t' := s.toks) upd_same hS0 rfl .nil (Nat.zero_le _)
        rw [upd_upd] at I2
        refine wpAny_bind (m := letGo (#[] : Array Value).toList.reverse) (wpAny_letGo ?_)
        have g0 : Grow th H th (upd H s.heap.objs.size (.lst [])) := Grow.new fr
        have Sr2 : SR W th (upd H s.heap.objs.size (.lst [])) σ rho eta := Sr.mono g0 (Sr.hp.new fr)
        have R2 := R1.mono g0
        have hSth : s.heap.objs.size ∉ th := fun z => by obtain ⟨o, e⟩ := Sr.hp.there _ z; rw [fr] at e; cases e
        obtain ⟨a, c, g, k, od, dx, rfl, rfl, M, tc, J, hl, F, hk, hcT⟩ := tblD_at T I2 Sr2.hp R2 r1 hS
        have hne : s.heap.objs.size ≠ a := fun z => by
          obtain ⟨dd, dxx, vss, e0, e1, _⟩ := insD_at (ds := (insD eta d).get!.2) (c := (insD eta d).get!.1) Sr.hp R1 (by
            unfold tblD at hS
            cases q : insD eta d with
            | none => rw [q] at hS; cases hS
            | some p => rfl)
          cases e0
          rw [← z] at e1
          rcases e1 with e1 | ⟨_, e1⟩ <;> (rw [fr] at e1; cases e1)
        have sb1 : Room (j + 1) X.A.in1.in1 := hr.in1.in1
        unfold Builtin.List.listExtendWith
        refine wpAny_bind (J.type.here ?_)
        have n1 : Builtin.List.listSameRef (.ref s.heap.objs.size) (.ref a) = false := by simp [Builtin.List.listSameRef, hne]
        have n2 : (Value.ref (W.cl c) == Value.type "list") = false := rfl
        have n3 : (Value.ref (W.cl c) == Value.type "tuple") = false := rfl
        simp only [n1, n2, n3, Bool.or_false, Bool.false_eq_true, if_false]
        refine wpAny_bind (wpAny_mono (own_iter_at (A' := X.A.in1.in1) (Q := fun it s' => ∃ (itA : Addr) (da : Addr) (o : Obj) (ks : List Key) (ws : List V) (ep : Nat) (ees : Array DictEntry), it = .ref itA ∧ Inv X pins σ (upd H s.heap.objs.size (.lst [])) s' ∧ o.data = .dict ees ep ∧ s'.heap.IsKeyIter itA da 0 (ks.zip ws).length ep ∧ FpOk X pins (upd H s.heap.objs.size (.lst [])) itA ∧ (upd H s.heap.objs.size (.lst [])) da = some (.frz o (.dK (ks.zip ws))) ∧ ks.length = ws.length ∧ es = ks.map kD)
          Ti (sb1.mono (by omega)) tk (I2.env0.in1.in1) I2 Sr2.hp R2 r1 (by
            show iterD itb eta d = some es
            exact hes) fun it s' da o ks ws ep ees I' q1 q2 q3 q4 q5 q6 => ⟨it, da, o, ks, ws, ep, ees, rfl, I', q1, q2, q3, q4, q5, q6⟩) (fun itv s3 hit => ?_) fun e s3 z => z)
        obtain ⟨it, da, o, ks, ws, ep, ees, rfl, I3, hdt, hki, hf, hda, lk, rfl⟩ := hit
        obtain ⟨oi, hoi, hci, hdi⟩ := id hki
        have I4 := Inv.pinned I3 hf hoi (fun v z => by rw [hdi] at z; cases z)
        obtain ⟨a2, c2, g2', k2, od2, dx2, e2, e2', M2, tc2, J2, hl2, F2, hk2, hcT2⟩ := tblD_at T I4 Sr2.hp R2 r1 hS
        cases e2
        refine wpAny_bind (wpAny_holding (own_len_hint I4.kIn J2 M2.at_ (wpAny_mono (own_len_at (A' := X.A.in1.in1) (Qa := fun _ eta1 => eta1 = eta) T sb1 (fun I => I.env0.in1.in1) I4 Sr2 R2 r1 hS hlen) (fun r s4 hr4 => ?_) fun _ _ z => z)))
        obtain ⟨i, t, rfl, hi, th', H', eta', I5, g5, S5, rfl⟩ := hr4
        refine ⟨i, t, rfl, hi, ?_⟩
        obtain ⟨I6, hoi6, hit6⟩ := Inv.unpinned I5
        have hS6 : H' s.heap.objs.size = some (.lst []) := g5.keep _ _ upd_same (.inl hSth)
        have hda6 : H' da = some (.frz o (.dK (ks.zip ws))) := g5.keep _ _ hda (.inr trivial)
        have hf6 : FpOk X pins H' it := ⟨hit6, hf.2⟩
        have hki6 : s4.heap.IsKeyIter it da 0 (ks.zip ws).length ep := ⟨oi, hoi6, hci, hdi⟩
        have hzip : (ks.zip ws).length = ks.length := by rw [List.length_zip, ← lk, Nat.min_self]
        have hzk : ks.length ≤ 100000 := by simpa using hz
        have done : ∀ (H7 : Hp) (s7 : Shared), H7 = H' → Inv X pins σ H7 s7 → s7.heap.IsKeyIter it da 0 (ks.zip ws).length ep → codeAny (model X.prog X.w) X.A.in1 (.builtin "list.extend.loop" ⟨[.ref s.heap.objs.size, .ref it, .none], []⟩) (wants (fun r s₂ => r = .none ∧ EPa X W pins σ th H rho Qa (.ref s.heap.objs.size) s₂) X.xe) s7 := by
          rintro H7 s7 rfl I7 hk7
          refine klist_loop (A1 := X.A.in1) (I.ok.hd hc) hdt ks.length 0 [] H7 s7 (by rw [hzip]; rfl) I7 hS6 (by simpa using hzk) hda6 hk7 hf6 fun s8 I8 => ⟨rfl, ?_⟩
          rw [List.nil_append, List.drop_zero, zip_keys lk] at I8
          obtain ⟨od9, I9⟩ := I8.lock (d := s.heap.objs.size) upd_same trivial
          rw [upd_upd] at I9
          have gg : Grow th H th' H7 := g0.trans' Sr2.hp g5
          obtain ⟨pf, S9⟩ := S5.hp.aside (o' := .frz od9 (.lst (ks.map kV))) (g5.notin hSth upd_same) hS6 (fun z => z)
          have g9 : Grow th H th' (upd H7 s.heap.objs.size (.frz od9 (.lst (ks.map kV)))) := gg.aside fr
          exact ⟨.ref _, th', _, .fl (ks.map kD), eta', I9, rfl, g9, Sr.mono g9 S9, ⟨_, od9, _, rfl, upd_same, reps_keys⟩, hq⟩
        refine wpAny_ite_split (fun _ => ?_) (fun _ => wpAny_pure ⟨plainId_quiet PySem.F.plain_extend_loop _, done H' s4 rfl I6 hki6⟩)
        refine wpAny_bind (wpAny_rule ?_)
        obtain ⟨z7, its7, k7, r7, hl7, e7⟩ := I6.lstM hS6
        cases r7
        refine wpAny_bind (m := updateSeq s.heap.objs.size (·.push .none) >>= fun _ => updateSeq s.heap.objs.size (·.pop)) ?_
        refine wpAny_bind (wpAny_updateSeq e7 rfl ?_)
        have I8 := I6.lset (f := (·.push Value.none)) (its' := [Value.none]) (ys := [.non]) (t' := s4.toks) hS6 e7 (by simp) (.cons rfl .nil) (by rw [List.length_singleton, sizeLine_eq]; decide)
        obtain ⟨z8, its8, k8, r8, hl8, e8⟩ := I8.lstM upd_same
        obtain ⟨u8, rfl, ru8⟩ := r8.one
        refine wpAny_updateSeq e8 rfl ?_ (by show 1 ≤ sizeLine; rw [sizeLine_eq]; decide) (by show 0 ≤ sizeLine + 1; exact Nat.zero_le _)
        have I9 := I8.lset (f := (·.pop)) (its := [u8]) (its' := []) (ys := []) (t' := s4.toks) upd_same e8 (by rfl) .nil (Nat.zero_le _)
        rw [upd_upd] at I9
        have hH : upd H' s.heap.objs.size (.lst []) = H' := by
          funext b
          by_cases hb : b = s.heap.objs.size
          · rw [hb, upd_same, hS6]
          · rw [upd_ne hb]
        rw [hH] at I9
        have hnit : s.heap.objs.size ≠ it := fun z => by rw [z, hit6] at hS6; cases hS6
        exact wpAny_pure ⟨plainId_quiet PySem.F.plain_extend_loop _, done H' _ rfl I9 (hki6.at fun ob e => by
          rw [Heap.get?_update_ne _ _ _ _ (Ne.symm hnit), Heap.get?_update_ne _ _ _ _ (Ne.symm hnit)]; exact e)⟩
      · exact hq.elim
    · split at hq
      · rename_i ks ws hw
        obtain ⟨a, o, vs0, rfl, e, l, Rs⟩ := R1
        obtain rfl : u = Value.ref a := r1
        obtain ⟨lo, hgd, hx, es, ep, vs, hdt, hsz, kv, hat⟩ := I.frzK e
        have hl : (ks.zip vs0).length = vs.length := Paired.length kv
        have hz := (show ObjOk X.prog X.w H s.heap a (.dK (ks.zip vs0)) from (I.hok a _ e).2).1
        refine PySem.W.kdl_call (PySem.W.kdl_dict (knd := mixKind X.prog X.w) (kvs := vs) (ep := ep) lo) (I.ok.hd hc) hat (by omega) fun h' tk' acc' c' hkeep hS hacc => ?_
        have hI := I.laid (t' := tk') hkeep (Nat.le_refl _) (show ObjOk X.prog X.w _ _ s.heap.objs.size (.lst ((ks.zip vs0).map fun kv => kV kv.1)) from ⟨by rw [List.length_map]; exact hz, acc'.toList, c', ?_, by rw [Array.toArray_toList]; exact hS⟩)
        · rw [zip_keys l] at hI
          exact fin_list Sr (I.hok.fresh (Nat.le_refl _)) hI reps_keys hq
        · have el : acc'.toList.length = acc'.size := by simp
          refine vals_of_at (by rw [List.length_map, el, hacc.1, hl]) fun j x w h1 h2 => ?_
          obtain ⟨k, y, hky, hi⟩ := hacc.2 j w (by rw [← Array.getElem?_toList]; exact h2)
          have e1 : ((ks.zip vs0).map (·.1))[j]? = some k := by
            rw [KV.keys kv, List.getElem?_map, hky]; rfl
          have e3 : ((ks.zip vs0).map fun q => kV q.1) = ((ks.zip vs0).map (·.1)).map kV := by rw [List.map_map]; rfl
          have e2 : ((ks.zip vs0).map fun q => kV q.1)[j]? = some (kV k) := by rw [e3, List.getElem?_map, e1]; rfl
          rw [e2] at h1
          cases h1
          exact keyIs_rel hi
      · exact ca_listF pins s σ H th rho eta [v] [u] _ Qa EX I Sr xo rx Rd hq
  · exact hq.elim
end
end RF
set_option maxRecDepth 100000
set_option maxHeartbeats 4000000
namespace RF
open PySem PySem.Spec PyProof.Rows L2
section
variable {X : Cx} {W : Wd} {Wx : WX}
/-! ### sorted(texts) -/
def strsD : List D → Option (List Str)
  | [] => some []
  | .str x :: ds => (strsD ds).map (x :: ·)
  | _ => none
theorem strsD_eq : ∀ {ds : List D} {xs : List Str}, strsD ds = some xs → ds = xs.map .str
  | [], xs, h => by cases h; rfl
  | d :: ds, xs, h => by
    cases d with
    | str x =>
      simp only [strsD, Option.map_eq_some_iff] at h
      obtain ⟨ys, hy, rfl⟩ := h
      rw [strsD_eq hy]; rfl
    | _ => simp [strsD] at h
theorem reps_strs {H : Hp} : ∀ {xs : List Str} {vs : List V}, Reps W H (xs.map .str) vs → vs = xs.map V.str
  | [], vs, h => h
  | x :: xs, vs, ⟨v, r, e, h1, h2⟩ => by
    have h1 : v = _ := h1
    subst e h1
    rw [reps_strs h2]; rfl
theorem strs_reps {H : Hp} : ∀ {xs : List Str}, Reps W H (xs.map .str) (xs.map V.str)
  | [] => rfl
  | x :: xs => ⟨_, _, rfl, rfl, strs_reps⟩
def raSortS : RNa := fun ds rho eta Q EX => match ds with
  | [.fl es] => (match strsD es with
    | some xs => xs.length < 64 ∧ ∀ ys : List Str, ys.Perm xs → sortedS ys = true → Q (.fl (ys.map .str)) eta
    | none => False)
  | _ => False
theorem ca_sortS : ClA X W Wx (.builtin "sorted") raSortS := .of (CallR.fz cr_sortedS) fun σ H th rho eta xs ds Qa EX S R hr => by
  unfold raSortS at hr
  split at hr
  · rename_i es
    split at hr
    · rename_i zs hz
      obtain ⟨v, rfl, R1⟩ := R.one
      obtain ⟨a, o, vs, rfl, e, Rs⟩ := R1
      have e1 := strsD_eq hz
      subst e1
      have e2 := reps_strs Rs
      subst e2
      refine ⟨a, zs, rfl, .inl (.inr ⟨o, e⟩), hr.1, fun ys p hp hs np => ⟨p, _, rfl, upd_same, trivial, fun od => ⟨th, .fl (ys.map .str), eta, ?_⟩⟩⟩
      rw [upd_upd]
      exact ⟨Grow.new np, S.mono (Grow.new np) (S.hp.new np), ⟨p, od, _, rfl, upd_same, strs_reps⟩, hr.2 ys hp hs⟩
    · exact hr.elim
  · exact hr.elim
/-! ### str(text) -/
def raStr2 (r0 : RNa) : RNa := fun ds rho eta Q EX => match ds with
  | [.str x] => Q (.str x) eta
  | _ => r0 ds rho eta Q EX
theorem ca_str2 {r0 : RNa} (h0 : ClA X W Wx (.type "str") r0) : ClA X W Wx (.type "str") (raStr2 r0) := fun pins s σ H th rho eta xs us ds Qa EX I S xo rx R hr => by
  unfold raStr2 at hr
  split at hr
  · exact (ClA.of (X := X) (W := W) (Wx := Wx) (ra := fun ds rho eta Q EX => ∃ x, ds = [.str x] ∧ Q (.str x) eta) SkE.call_str_str fun σ H th rho eta xs ds Qa EX S R ⟨x, e, q⟩ => by
      subst e
      obtain ⟨v, rfl, R1⟩ := R.one
      have R1 : v = _ := R1
      subst R1
      exact ⟨x, rfl, hereC (d := .str x) S rfl q⟩) pins s σ H th rho eta xs us _ Qa EX I S xo rx R ⟨_, rfl, hr⟩
  · exact h0 pins s σ H th rho eta xs us _ Qa EX I S xo rx R hr
def aNone0 : RNa := fun _ _ _ _ _ => False
theorem ca_none {f : Value} : ClA X W Wx f aNone0 := fun _ _ _ _ _ _ _ _ _ _ _ _ _ _ _ _ _ h => h.elim
/-! ### slices -/
abbrev TOa := Rho → List MO → (Option Int → List MO → Prop) → EXA → Prop
structure OA (X : Cx) (W : Wd) (Wx : WX) (e : Option Expr) (t : TOa) : Prop where
  run : ∀ (pins : List (Addr × Obj)) (s : Shared) (σ : L2.St) (H : Hp) (th : List Addr) (rho : Rho) (eta : List MO) (Q : Option Int → List MO → Prop) (EX : EXA), Inv X pins σ H s → SR W th H σ rho eta → XOk W Wx th H EX → t rho eta Q EX →
    wpAny (model X.prog X.w) X.A (evalPart e X.env) (fun u s' => ∃ o th' H' eta', Inv X pins σ H' s' ∧ IsPart u o ∧ Grow th H th' H' ∧ SR W th' H' σ rho eta' ∧ Q o eta') X.xe s
def aPN : TOa := fun _ eta Q _ => Q none eta
def aPS (t : TEa) : TOa := fun rho eta Q EX => t rho eta (fun d eta1 => match d with
  | .int i => Q (some i) eta1
  | _ => False) EX
theorem oo_none : OA X W Wx none aPN := ⟨fun pins s σ H th rho eta Q EX I S xo h => by
  rw [evalPart_none]
  exact wpAny_pure ⟨none, th, H, eta, I, .none, Grow.refl _ _, S, h⟩⟩
theorem oo_some {e : Expr} {t : TEa} (h : EA X W Wx e t) : OA X W Wx (some e) (aPS t) := ⟨fun pins s σ H th rho eta Q EX I S xo hq => by
  rw [evalPart_some]
  refine thn (h.run pins s σ H th rho eta _ EX I S xo hq) fun u s1 ⟨v, th1, H1, d, eta1, I1, r1, g1, S1, R1, q1⟩ => ?_
  cases d with
  | int i =>
    have e1 : v = .int i := R1
    subst e1
    obtain ⟨t, rfl⟩ := r1
    exact ⟨some i, th1, H1, eta1, I1, .int i t, g1, S1, q1⟩
  | _ => exact q1.elim⟩
def cutD (ds : List D) (lo hi : Option Int) : List D := (ds.drop (HT.sIx ds.length 0 lo)).take (HT.sIx ds.length ds.length hi - HT.sIx ds.length 0 lo)
theorem Reps.drop {H : Hp} : ∀ {ds : List D} {vs : List V} (n : Nat), Reps W H ds vs → Reps W H (ds.drop n) (vs.drop n)
  | ds, vs, 0, h => by simpa using h
  | [], vs, n + 1, h => by have h : vs = _ := h; subst h; exact rfl
  | d :: ds, vs, n + 1, ⟨v, r, e, h1, h2⟩ => by subst e; simpa using Reps.drop n h2
theorem Reps.take {H : Hp} : ∀ {ds : List D} {vs : List V} (n : Nat), Reps W H ds vs → Reps W H (ds.take n) (vs.take n)
  | ds, vs, 0, h => by simp; exact rfl
  | [], vs, n + 1, h => by have h : vs = _ := h; subst h; exact rfl
  | d :: ds, vs, n + 1, ⟨v, r, e, h1, h2⟩ => by subst e; exact ⟨v, r.take n, rfl, h1, Reps.take n h2⟩
theorem cut_reps {H : Hp} {ds : List D} {vs : List V} (lo hi : Option Int) (R : Reps W H ds vs) : Reps W H (cutD ds lo hi) (cutV vs lo hi) := by
  unfold cutD cutV
  rw [R.length]
  exact Reps.take _ (Reps.drop _ R)
def slD (eta : List MO) : D → Option (List D)
  | .fl ds => some ds
  | .ref n => (match eta[n]? with
    | some (.lst ds) => some ds
    | _ => none)
  | _ => none
theorem slD_at {th : List Addr} {H : Hp} {eta : List MO} {d : D} {v : V} {ds : List D} (S : SRh W th H eta) (R : RepT W th H d v) (h : slD eta d = some ds) : ∃ a vs, v = .ref a ∧ SqL X.K H a vs ∧ Reps W H ds vs := by
  cases d with
  | fl es =>
    cases h
    obtain ⟨a, o, vs, rfl, e, r⟩ := R
    exact ⟨a, vs, rfl, .inl (.inr ⟨o, e⟩), r⟩
  | ref n =>
    obtain ⟨a, ea, rfl⟩ := R
    unfold slD at h
    dsimp only at h
    cases q : eta[n]? with
    | none => rw [q] at h; cases h
    | some mo =>
      rw [q] at h
      cases mo with
      | lst es =>
        cases h
        obtain ⟨b, ho, e1, e2, vs, rfl, r⟩ := S.obj n _ q
        rw [ea] at e1; cases e1
        exact ⟨a, vs, rfl, .inl (.inl e2), r⟩
      | _ => cases h
  | _ => cases h
def aSl (t : TEa) (tl th : TOa) : TEa := fun rho eta Q EX => t rho eta (fun d eta1 => tl rho eta1 (fun lo eta2 => th rho eta2 (fun hi eta3 => match slD eta3 d with
  | some ds => Q (.fl (cutD ds lo hi)) eta3
  | none => False) EX) EX) EX
theorem ea_sl {e : Expr} {lo hi : Option Expr} {p2 pos : Pos} {t : TEa} {tl tu : TOa} (he : EA X W Wx e t) (hl : OA X W Wx lo tl) (hu : OA X W Wx hi tu) : EA X W Wx (.Subscript e (.Slice lo hi none p2) pos) (aSl t tl tu) := by
  refine ⟨fun pins s σ H th rho eta Qa EX I S xo h => ?_⟩
  refine Subscript_ (thn (he.run pins s σ H th rho eta _ EX I S xo h) fun v s1 ⟨x, th1, H1, d, eta1, I1, r1, g1, S1, R1, q1⟩ => ?_)
  refine wpAny_Slice (thn (hl.run pins s1 σ H1 th1 rho eta1 _ EX I1 S1 (xo.mono g1 S1.hp) q1) fun vl s2 ⟨l, th2, H2, eta2, I2, pl, g2, S2, q2⟩ => ?_)
  have g12 := g1.trans' S1.hp g2
  refine thn (hu.run pins s2 σ H2 th2 rho eta2 _ EX I2 S2 (xo.mono g12 S2.hp) q2) fun vu s3 ⟨u, th3, H3, eta3, I3, pu, g3, S3, q3⟩ => ?_
  have g123 := g12.trans' S2.hp g3
  have R3 := (R1.mono g2).mono g3
  rw [evalPart_none]
  refine wpAny_pure ?_
  split at q3
  · rename_i ds hds
    obtain ⟨a, vs, rfl, sq, Rs⟩ := slD_at (X := X) S3.hp R3 hds
    have I4 : Inv X pins σ H3 { s3 with heap := s3.heap.push { cls := .type "slice", data := .fields #[vl, vu, .none] } } := I3.kept (t' := s3.toks) fun b o q => Heap.get?_push_of_some _ q
    obtain ⟨T, id, hT, ht, hg⟩ := sl_list pins _ σ H3 (.ref a) v vl vu l u s3.heap.objs.size (fun v' H' => ∃ p, H3 p = none ∧ v' = .ref p ∧ H' = upd H3 p (.lst (cutV vs l u))) I4 r1 (Heap.IsSliceOf.new ..) pl pu ⟨a, vs, rfl, sq, fun p hp => ⟨p, hp, rfl, rfl⟩⟩
    refine tail_any (ops := [.ref s3.heap.objs.size, v]) ht hT (thn hg fun w s4 ⟨v', H', I', r', p, hp, ev, eH⟩ => ?_) (by with_unfolding_all rfl)
    subst ev eH
    obtain ⟨od, I5⟩ := I'.lock (d := p) upd_same trivial
    rw [upd_upd] at I5
    have gn : Grow th3 H3 th3 (upd H3 p (.frz od (.lst (cutV vs l u)))) := Grow.new hp
    exact ⟨.ref p, th3, _, .fl (cutD ds l u), eta3, I5, r', g123.trans' S3.hp gn, S3.mono gn (S3.hp.new hp), ⟨p, od, _, rfl, upd_same, Reps.mono gn.pers _ _ (cut_reps l u Rs)⟩, q3⟩
  · exact q3.elim
/-! ### list * int -/
def raRep : R2a := fun d e rho eta Q EX => match d, e with
  | .ref n, .int k => (match eta[n]? with
    | some (.lst ds) => 0 ≤ k ∧ k ≤ 1000 ∧ ds.length ≤ 1000 ∧ Q (.fl (List.replicate k.toNat ds).flatten) eta
    | _ => False)
  | .int i, .int j => IntMulOk i j ∧ Q (.int (i * j)) eta
  | _, _ => False
theorem Reps.append2 {H : Hp} : ∀ {ds es : List D} {vs us : List V}, Reps W H ds vs → Reps W H es us → Reps W H (ds ++ es) (vs ++ us)
  | [], es, vs, us, h, k => by have h : vs = _ := h; subst h; exact k
  | d :: ds, es, vs, us, ⟨v, r, e, h1, h2⟩, k => by subst e; exact ⟨v, r ++ us, rfl, h1, Reps.append2 h2 k⟩
theorem rep_reps {H : Hp} {ds : List D} {vs : List V} (R : Reps W H ds vs) : ∀ n : Nat, Reps W H (List.replicate n ds).flatten (List.replicate n vs).flatten
  | 0 => rfl
  | n + 1 => by
    rw [List.replicate_succ, List.replicate_succ, List.flatten_cons, List.flatten_cons]
    exact Reps.append2 R (rep_reps R n)
theorem oa_rep : OpA X W Wx (binaryOp .Mult) raRep := fun pins s σ H th rho eta x y v u d e Qa EX I S xo rx ry Rd Re hr => by
  unfold raRep at hr
  split at hr
  · rename_i n k
    split at hr
    · rename_i ds hn
      obtain ⟨h0, h1, h2, hr⟩ := hr
      obtain ⟨a, ea, rfl⟩ := Rd
      have ey : y = .int k := Re
      subst ey
      obtain ⟨b, ho, e1, e2, vs, rfl, Rs⟩ := S.hp.obj n _ hn
      rw [ea] at e1; cases e1
      have hlen : vs.length * k.toNat ≤ 1000 * 1000 := Nat.mul_le_mul (by rw [← Rs.length]; exact h2) (by omega)
      refine thn (op_rep pins s σ H (.ref a) (.int k) v u (fun v' H' => ∃ p, H p = none ∧ v' = .ref p ∧ H' = upd H p (.lst (List.replicate k.toNat vs).flatten)) I rx ry ⟨a, k, vs, rfl, rfl, e2, by omega, by omega, by rw [sizeLine_eq]; omega, fun p hp => ⟨p, hp, rfl, rfl⟩⟩) fun w s4 ⟨v', H', I', r', p, hp, ev, eH⟩ => ?_
      subst ev eH
      obtain ⟨od, I5⟩ := I'.lock (d := p) upd_same trivial
      rw [upd_upd] at I5
      have gn : Grow th H th (upd H p (.frz od (.lst (List.replicate k.toNat vs).flatten))) := Grow.new hp
      exact ⟨.ref p, th, _, .fl _, eta, I5, r', gn, S.mono gn (S.hp.new hp), ⟨p, od, _, rfl, upd_same, Reps.mono gn.pers _ _ (rep_reps Rs k.toNat)⟩, hr⟩
    · exact hr.elim
  · exact oa_mul pins s σ H th rho eta x y v u _ _ Qa EX I S xo rx ry Rd Re hr
  · exact hr.elim
/-! ### methods of built-in types -/
/-- o.m(e, ..) by values -/
abbrev RMa := D → List D → Rho → List MO → QA → EXA → Prop
def MtA (X : Cx) (W : Wd) (Wx : WX) (T id : String) (r : RMa) : Prop :=
  ∀ (pins : List (Addr × Obj)) (s : Shared) (σ : L2.St) (H : Hp) (th : List Addr) (rho : Rho) (eta : List MO) (x : V) (xs : List V) (v : Value) (us : List Value) (d : D) (ds : List D) (Qa : QA) (EX : EXA), Inv X pins σ H s → SR W th H σ rho eta → XOk W Wx th H EX → RelV x v → Vals xs us → RepT W th H d x → RepTs W th H ds xs →
    r d ds rho eta Qa EX → wpAny (model X.prog X.w) X.A (call (.builtin id) (v :: us)) (EPa X W pins σ th H rho Qa) X.xe s
/-- the value is of the built-in type T -/
def TyD (X : Cx) (W : Wd) (T : String) (f : List MO → D → Bool) : Prop := ∀ (pins : List (Addr × Obj)) (s : Shared) (σ : L2.St) (H : Hp) (th : List Addr) (rho : Rho) (eta : List MO) (d : D) (x : V) (v : Value), Inv X pins σ H s → SR W th H σ rho eta → RepT W th H d x → RelV x v → f eta d = true → tyV X.K T x H
def mtQ (f : List MO → D → Bool) (r : RMa) (t : TAa) (rho : Rho) (Q : QA) (EX : EXA) : QA := fun d eta1 => f eta1 d = true ∧ t rho eta1 (fun ds eta2 => r d ds rho eta2 Q EX) EX
def aBm (f : List MO → D → Bool) (r : RMa) (to : TEa) (t : TAa) : TEa := fun rho eta Q EX => to rho eta (mtQ f r t rho Q EX) EX
theorem ea_bm {o e : Expr} {es : List Expr} {to : TEa} {t : TAa} {name : Str} {apos cpos : Pos} {T id : String} {f : List MO → D → Bool} {r : RMa} (pa : PlainAttrs T) (slot : Slot T name id) (hty : typeOf (.builtin id) = pure (.type "method_descriptor")) (hf : TyD X W T f) (hm : MtA X W Wx T id r) (ho : EA X W Wx o to) (ha : AA X W Wx (e :: es) t)
    (hbase : attributeBase o name X.env (eval o X.env) = eval o X.env := by rfl)
    (hfew : ((backTo cpos (starEach (e :: es) X.env)).all (fun x => !x.1) && (backToKw cpos (keywordEach [] X.env)).all (fun x => x.1.isSome) && decide ((e :: es).length + ([] : List Keyword).length + (if ([] : List Keyword).isEmpty then 0 else 1) < 30)) = true := by rfl)
    (hline : (apos.endLine == cpos.line) = true := by rfl) (hs : starEach (e :: es) X.env = (false, eval e X.env) :: starEach es X.env := by rfl) (hplain : (backTo cpos (starEach es X.env)).any (·.1) = false := by rfl) :
    EA X W Wx (.Call (.Attribute o name apos) (e :: es) [] cpos) (aBm f r to t) := by
  refine ⟨fun pins s σ H th rho eta Qa EX I S xo h => ?_⟩
  refine wpAny_Call_method_late hbase hfew hline rfl (thn (ho.run pins s σ H th rho eta _ EX I S xo h) fun v s1 ⟨x, th1, H1, d, eta1, I1, r1, g1, S1, R1, fd, q1⟩ => ?_)
  obtain ⟨h1, h2⟩ := tyV_is I1 r1 (hf pins s1 σ H1 th1 rho eta1 d x v I1 S1 R1 r1 fd)
  refine ⟨T, id, pa, slot, hty, h1, h2, ?_⟩
  have hA := ha.run cpos pins s1 σ H1 th1 rho eta1 _ EX I1 S1 (xo.mono g1 S1.hp) q1
  rw [hs] at hA ⊢
  refine Calls.callWith_builtin (by show (false || (backTo cpos (starEach es X.env)).any (·.1)) = false; rw [hplain] <;> rfl) (Calls.evalArgs_plain ?_)
  refine thn hA fun us s2 ⟨vs, th2, H2, ds, eta2, I2, r2, g2, S2, R2, q2⟩ => ?_
  have g12 := g1.trans' S1.hp g2
  exact thn (hm pins s2 σ H2 th2 rho eta2 x vs v us d ds Qa EX I2 S2 (xo.mono g12 S2.hp) r1 r2 (R1.mono g2) R2 q2) fun w s3 ⟨z, th3, H3, d3, eta3, I3, r3, g3, S3, R3, q3⟩ => ⟨z, th3, H3, d3, eta3, I3, r3, g12.trans' S2.hp g3, S3, R3, q3⟩
theorem ea_bm0 {o : Expr} {to : TEa} {name : Str} {apos cpos : Pos} {T id : String} {f : List MO → D → Bool} {r : RMa} (pa : PlainAttrs T) (slot : Slot T name id) (hty : typeOf (.builtin id) = pure (.type "method_descriptor")) (hf : TyD X W T f) (hm : MtA X W Wx T id r) (ho : EA X W Wx o to)
    (hbase : attributeBase o name X.env (eval o X.env) = eval o X.env := by rfl) (hline : (apos.endLine == cpos.line) = true := by rfl) : EA X W Wx (.Call (.Attribute o name apos) [] [] cpos) (aBm f r to aNil) := by
  refine ⟨fun pins s σ H th rho eta Qa EX I S xo h => ?_⟩
  refine wpAny_Call_method0_late hbase hline (thn (ho.run pins s σ H th rho eta _ EX I S xo h) fun v s1 ⟨x, th1, H1, d, eta1, I1, r1, g1, S1, R1, fd, q1⟩ => ?_)
  obtain ⟨h1, h2⟩ := tyV_is I1 r1 (hf pins s1 σ H1 th1 rho eta1 d x v I1 S1 R1 r1 fd)
  refine ⟨T, id, pa, slot, hty, h1, h2, Calls.callWith_builtin rfl (PySem.evalArgs_none ?_)⟩
  exact thn (hm pins s1 σ H1 th1 rho eta1 x [] v [] d [] Qa EX I1 S1 (xo.mono g1 S1.hp) r1 .nil R1 rfl q1) fun w s3 ⟨z, th3, H3, d3, eta3, I3, r3, g3, S3, R3, q3⟩ => ⟨z, th3, H3, d3, eta3, I3, r3, g1.trans' S1.hp g3, S3, R3, q3⟩
def isLst (eta : List MO) (d : D) : Bool := (slD eta d).isSome
theorem ty_lst : TyD X W "list" isLst := fun pins s σ H th rho eta d x v I S R r h => by
  unfold isLst at h
  obtain ⟨ds, hd⟩ := Option.isSome_iff_exists.mp h
  obtain ⟨a, vs, rfl, sq, _⟩ := slD_at (X := X) S.hp R hd
  exact .inl ⟨rfl, vs, sq⟩
/-- l.append(y) -/
def raAppend : RMa := fun d ds rho eta Q EX => match d, ds with
  | .ref n, [y] => (match eta[n]? with
    | some (.lst es) => y.im = true ∧ es.length < 100000 ∧ Q .non (eta.set n (.lst (es ++ [y])))
    | _ => False)
  | _, _ => False
theorem ma_append : MtA X W Wx "list" "list.append" raAppend := fun pins s σ H th rho eta x xs v us d ds Qa EX I S xo rx rs Rd Rs hr => by
  unfold raAppend at hr
  split at hr
  · rename_i n y
    split at hr
    · rename_i es hn
      obtain ⟨yi, hz, hr⟩ := hr
      obtain ⟨a, ea, rfl⟩ := Rd
      obtain ⟨vy, rfl, Ry⟩ := Rs.one
      obtain ⟨b, ho, e1, e2, vs, rfl, Rv⟩ := S.hp.obj n _ hn
      rw [ea] at e1; cases e1
      refine thn (mt_append pins s σ H (.ref a) [vy] v us (fun v' H' => v' = .non ∧ H' = upd H a (.lst (vs ++ [vy]))) I rx rs ⟨a, vs, vy, rfl, rfl, e2, by rw [← Rv.length]; exact sizeK hz, rfl, rfl⟩) fun w s' ⟨v', H', I', r', ev, eH⟩ => ?_
      subst ev eH
      have nf : ∀ u, H a = some u → ¬ Fz u := fun u e => by rw [e2] at e; cases e; exact fun z => z
      have W0 := S.hp.write (n := n) (mo := .gone) (o := .lst (vs ++ [vy])) ea nf trivial
      have W1 := S.hp.write (n := n) (mo := .lst (es ++ [y])) (o := .lst (vs ++ [vy])) ea nf ⟨_, rfl, Reps.snoc (Rep.mono W0.2.pers _ _ (Ry.im yi)) (Reps.mono W0.2.pers _ _ Rv)⟩
      exact ⟨.non, th, _, .non, _, I', r', W1.2, S.mono W1.2 W1.1, rfl, hr⟩
    · exact hr.elim
  · exact hr.elim
/-- l.pop() -/
def raPop : RMa := fun d ds rho eta Q EX => match d, ds with
  | .ref n, [] => (match eta[n]? with
    | some (.lst es) => (match es[es.length - 1]? with
      | some y => Q y (eta.set n (.lst es.dropLast))
      | none => False)
    | _ => False)
  | _, _ => False
theorem Reps.dropLast {H : Hp} {ds : List D} {vs : List V} (R : Reps W H ds vs) : Reps W H ds.dropLast vs.dropLast := by
  rw [List.dropLast_eq_take, List.dropLast_eq_take, R.length]
  exact Reps.take _ R
theorem ma_pop : MtA X W Wx "list" "list.pop" raPop := fun pins s σ H th rho eta x xs v us d ds Qa EX I S xo rx rs Rd Rs hr => by
  unfold raPop at hr
  split at hr
  · rename_i n
    split at hr
    · rename_i es hn
      split at hr
      · rename_i y hy
        obtain ⟨a, ea, rfl⟩ := Rd
        have Rs : xs = [] := Rs
        subst Rs
        obtain ⟨b, ho, e1, e2, vs, rfl, Rv⟩ := S.hp.obj n _ hn
        rw [ea] at e1; cases e1
        obtain ⟨vy, evy, Ry⟩ := Rv.get hy
        refine thn (mt_pop pins s σ H (.ref a) [] v us (fun v' H' => v' = vy ∧ H' = upd H a (.lst vs.dropLast)) I rx rs ⟨a, vs, vy, rfl, rfl, e2, by rw [← Rv.length]; exact evy, rfl, rfl⟩) fun w s' ⟨v', H', I', r', ev, eH⟩ => ?_
        subst ev eH
        have nf : ∀ u, H a = some u → ¬ Fz u := fun u e => by rw [e2] at e; cases e; exact fun z => z
        have W0 := S.hp.write (n := n) (mo := .gone) (o := .lst vs.dropLast) ea nf trivial
        have W1 := S.hp.write (n := n) (mo := .lst es.dropLast) (o := .lst vs.dropLast) ea nf ⟨_, rfl, Reps.mono W0.2.pers _ _ (Reps.dropLast Rv)⟩
        exact ⟨v', th, _, y, _, I', r', W1.2, S.mono W1.2 W1.1, RepT.of (Rep.mono W1.2.pers _ _ Ry), hr⟩
      · exact hr.elim
    · exact hr.elim
  · exact hr.elim
/-- l.index(text) -/
def strIx : List Str → Str → Option Nat
  | [], _ => none
  | x :: xs, y => if x = y then some 0 else (strIx xs y).map (· + 1)
theorem strIx_at : ∀ {xs : List Str} {y : Str} {j : Nat}, strIx xs y = some j → xs[j]? = some y ∧ ∀ m z, m < j → xs[m]? = some z → z ≠ y
  | [], y, j, h => by cases h
  | x :: xs, y, j, h => by
    unfold strIx at h
    split at h
    · rename_i e; cases h; exact ⟨by simp [e], fun m z hm => absurd hm (by omega)⟩
    · rename_i e
      rw [Option.map_eq_some_iff] at h
      obtain ⟨i, hi, rfl⟩ := h
      obtain ⟨h1, h2⟩ := strIx_at hi
      refine ⟨by simpa using h1, fun m z hm hz => ?_⟩
      cases m with
      | zero => simp at hz; rw [← hz]; exact e
      | succ m => exact h2 m z (by omega) (by simpa using hz)
def raIndexS : RMa := fun d ds rho eta Q EX => match d, ds with
  | .fl es, [.str y] => (match strsD es with
    | some xs => (match strIx xs y with
      | some j => Q (.int j) eta
      | none => False)
    | none => False)
  | _, _ => False
theorem ma_indexS : MtA X W Wx "list" "list.index" raIndexS := fun pins s σ H th rho eta x xs v us d ds Qa EX I S xo rx rs Rd Rs hr => by
  unfold raIndexS at hr
  split at hr
  · rename_i es y
    split at hr
    · rename_i zs hz
      split at hr
      · rename_i j hj
        obtain ⟨a, o, vs, rfl, e, Rv⟩ := Rd
        obtain ⟨vy, rfl, Ry⟩ := Rs.one
        have Ry : vy = .str y := Ry
        have e1 := strsD_eq hz
        subst e1 Ry
        have e2 := reps_strs Rv
        subst e2
        obtain ⟨h1, h2⟩ := strIx_at hj
        refine thn (mt_index pins s σ H (.ref a) [.str y] v us (fun v' H' => v' = .int j ∧ H' = H) I rx rs ⟨a, zs.map V.str, .str y, j, .str y, rfl, rfl, .inl (.inr ⟨o, e⟩), rfl, ?_, by rw [List.getElem?_map, h1]; rfl, ?_, fun m z' hm hz' => ?_, rfl, rfl⟩) fun w s' ⟨v', H', I', r', ev, eH⟩ => ?_
        · rw [List.all_eq_true]
          intro z hz
          obtain ⟨q, _, rfl⟩ := List.mem_map.mp hz
          rfl
        · show (y == y) = true
          simp
        · rw [List.getElem?_map] at hz'
          cases q : zs[m]? with
          | none => rw [q] at hz'; cases hz'
          | some z =>
            rw [q] at hz'
            cases hz'
            show (z == y) = false
            have := h2 m z hm q
            simpa using this
        · subst ev eH
          exact EPa.here (d := .int _) I' S r' rfl hr
      · exact hr.elim
    · exact hr.elim
  · exact hr.elim
/-! ### min, max of two ints -/
def raMin2 : RNa := fun ds _ eta Q _ => match ds with
  | [.int i, .int j] => Q (.int (if j < i then j else i)) eta
  | _ => False
theorem ca_min2 (hc : X.calm = true) : ClA X W Wx (.builtin "min") raMin2 := .of (call_min2 hc) fun σ H th rho eta xs ds Qa EX S R hr => by
  unfold raMin2 at hr
  split at hr
  · rename_i i j
    obtain ⟨v, w, rfl, R1, R2⟩ := R.two
    have R1 : v = _ := R1
    have R2 : w = _ := R2
    subst R1 R2
    exact ⟨i, j, rfl, hereC (d := .int _) S rfl hr⟩
  · exact hr.elim
/-! ### dict displays -/
def aDct0 : TEa := fun _ eta Q _ => Q (.ref eta.length) (eta ++ [.dct [] []])
theorem ea_dct0 {pos : Pos} : EA X W Wx (.Dict [] [] pos) aDct0 := .of pe_dnewK fun σ H th rho eta Qa EX S x h p hp => by
  have P := S.hp.push (mo := .dct [] []) (o := .dK []) hp ⟨[], rfl, rfl, rfl⟩
  exact ⟨th ++ [p], _, _, Grow.push hp, S.mono (Grow.push hp) P, RepT.push S.hp, h⟩
end
end RF
set_option maxRecDepth 100000
set_option maxHeartbeats 4000000
namespace RF
open PySem PySem.Spec PyProof.Rows L2
/-! ### methods that say super(): the class's own cell -/
structure SupM (P : Program) (K : PySem.W.Frag) (D f cc cda : Addr) (x qual : Str) (params : Arguments) (body : List Stmt) (scope : Scope) (fd : FuncData) : Prop where
  fn : ∃ (oc : Value) (od an : Option Addr) (dV kV doc pm ct : Value) (osl : Array (Option Value)), fd = PySem.W.fnX x qual params body scope [("__class__", cc)] dV kV doc pm an (.ref cda) ct ∧ K.lookup f = some ⟨oc, od, .func fd, osl⟩
  code : PySem.W.codeIn K (.ref cda) qual = true
  cell : ∃ cl cld csl, K.lookup cc = some ⟨cl, cld, .cell (some (.ref D)), csl⟩
  file : ∃ (oc : Obj) (vs : Array Value) (fl : Str) (tf : Tok), K.lookup cda = some oc ∧ oc.data = .fields vs ∧ vs[2]? = some (.str fl tf) ∧ ((P.main.file : Str) == fl) = true
  cls : ∃ cdD, PySem.W.clsIn K D = some cdD
  top : (P.main.scope.names.lookup ("super" : Str)).isSome = false
abbrev SupM.nf (x qual : Str) (params : Arguments) (body : List Stmt) (scope : Scope) (cc cda : Addr) : NdefX.NF := ⟨x, qual, params, body, scope, [("__class__", cc)], cda⟩
/-- what a body of that kind is worth, run where it stands -/
def EndT (X : Cx) (Q : VK) (fl : Flow) (s' : Shared) : Prop := match fl with
  | .ret u => ∃ v σ' H', Inv X [] σ' H' s' ∧ RelV v u ∧ Q v H'
  | .next => ∃ σ' H', Inv X [] σ' H' s' ∧ Q .non H'
  | _ => False
section
variable {P : Program} {w : World} {K : PySem.W.Frag} {mg : Str → Option Value} {base : Heap} {D f cc cda : Addr} {x qual : Str} {params : Arguments} {body : List Stmt} {scope : Scope} {fd : FuncData}
theorem supM_fn {k : Nat} {N ps : List Str} {sp : Sp} (M : SupM P K D f cc cda x qual params body scope fd) (Sc : NdefX.NScope N ps ["__class__"] scope) (len : ∀ vs H Q E, sp vs H Q E → vs.length = ps.length)
    (hbody : ∀ (A : Around) (outer : List Env) (s : Shared) (H : Hp) (vs : List V) (Q : VK) (E : XK), Room k (A.deeper (NdefX.envF (SupM.nf x qual params body scope cc cda) f s.heap.objs.size)) → sp vs H Q E → ∀ s1,
      Inv (NdefX.ncx (L2.CX P w) P w K mg base N (SupM.nf x qual params body scope cc cda) f A outer s H E) [] (NdefX.startF N vs [some (.ref D)]) H s1 →
      _root_.PySem.wpAt (model P w) (A.deeper (NdefX.envF (SupM.nf x qual params body scope cc cda) f s.heap.objs.size)) (.func body (NdefX.envF (SupM.nf x qual params body scope cc cda) f s.heap.objs.size)) (execs body (NdefX.envF (SupM.nf x qual params body scope cc cda) f s.heap.objs.size))
        (EndT (NdefX.ncx (L2.CX P w) P w K mg base N (SupM.nf x qual params body scope cc cda) f A outer s H E) Q) (NdefX.ncx (L2.CX P w) P w K mg base N (SupM.nf x qual params body scope cc cda) f A outer s H E).xe s1) :
    FnOk P w K mg base (L2.CX P w) (k + 1) f fd ps sp := by
  refine ⟨len, fun A outer s H args us vs Q E room e0 hb r hsp => ?_⟩
  have hl := len _ _ _ _ hsp
  have inK : K.In s.heap := e0.mod.kin.keeps fun b o e => (e0.bs b o e).1
  have nl : s.heap.NoLimit := e0.mod.nolimit.keeps fun b o e => (e0.bs b o e).1
  obtain ⟨oc, od, an, dV, kV, doc, pm, ct, osl, rfl, look⟩ := M.fn
  obtain ⟨cl, cld, csl, hcell⟩ := M.cell
  have hcc : base.get? cc = some ⟨cl, cld, .cell (some (.ref D)), csl⟩ := e0.mod.kin _ _ hcell
  have C : NdefX.CellsAt [("__class__", cc)] ["__class__"] [some (.ref D)] s.heap H := by
    have look1 : ∀ (y : Str) (c : Addr), ([("__class__", cc)] : List (Str × Addr)).lookup y = some c → y = "__class__" ∧ c = cc := fun y c e => by
      rw [List.lookup_cons] at e
      by_cases q : y = "__class__"
      · rw [q] at e; simp at e; exact ⟨q, e.symm⟩
      · have q2 : (y == ("__class__" : Str)) = false := by simpa using q
        rw [q2] at e; cases e
    refine ⟨rfl, fun y c e => ?_, fun a b c e1 e2 => (look1 a c e1).1.trans (look1 b c e2).1.symm, fun i y e => ?_⟩
    · obtain ⟨_, rfl⟩ := look1 y c e
      exact ⟨(e0.bs _ _ hcc).2, _, _, (e0.bs _ _ hcc).1, rfl⟩
    · cases i with
      | zero =>
        simp at e
        subst e
        exact ⟨cc, rfl, fun v hv => by
          simp at hv
          subst hv
          exact ⟨.ref D, rfl, _, (e0.bs _ _ hcc).1, rfl⟩⟩
      | succ i => simp at e
  refine PySem.ks_codeAny_call_defAt (fd := PySem.W.fnX x qual params body scope [("__class__", cc)] dV kV doc pm an (.ref cda) ct) (body := body) (binds := ps.zip us) room.depth (inK _ _ look) rfl nl (PySem.W.codeRec_of inK M.code) rfl hb Sc.nocell (fun y hy => Sc.par y.1 (List.of_mem_zip hy).1) (fun h1 hns kp => ?_) Sc.co Sc.gen Sc.kind
  have I := NdefX.inv_startN (CX := L2.CX P w) (K := K) (mg := mg) (base := base) (E := E) (f := f) (F := SupM.nf x qual params body scope cc cda) (tk := s.toks + (ps.zip us).length) Sc room.hd e0 hl r C hns kp
  refine PySem.wpAt_mono (hbody A outer s H vs Q E (room.deeper _) hsp _ I) (fun fl s' hs => ?_) fun e s' hs => hs
  cases fl with
  | ret u => obtain ⟨v, σ', H', J, rv, q⟩ := hs; exact ⟨v, H', J.os, J.bare, J.base, J.hok, rv, q⟩
  | next => obtain ⟨σ', H', J, q⟩ := hs; exact ⟨V.non, H', J.os, J.bare, J.base, J.hok, rfl, q⟩
  | brk => exact hs.elim
  | cont => exact hs.elim
end
/-! ### super().__init__(text) of an exception that is being made -/
structure SupX (K : PySem.W.Frag) (C D : Addr) : Prop where
  oex : OexC K C
  sub : PySem.W.mroIn K C (.ref D) = some true
  alo : PySem.W.ks_superIn K C D "__init__" = some (some (.builtin "ValueError.__init__"))
  isv : PySem.W.subIn K (.ref C) (.type "ValueError") = some true
  opq : PySem.W.nsIn K cStatics "thirdparty.any" = some none
theorem call_bwV {prog : Program} {w : World} {A : Around} {E : Value → Shared → Prop} {h : Heap} {g : Array GenState} {d : Drawn} {t : Nat} {os : OsState} {nm q : Str} {C N : Addr} {bs bm : List Value} {hdct : Bool} {sn : List Str} {sub : List Value} {ab : Bool} {col : Option Bool} {dd : Option Addr} {k0 k1 k2 k3 k5 : Option Value} {u e t0 : Addr} {rest : List Value} {Q : Value → Shared → Prop}
    (hC : h.get? C = some (excClassObj nm q C N bs bm hdct sn sub ab col dd k0 k1 k2 k3 k5 "ValueError.__new__")) (he : h.get? e = some (PySem.HandSPX.excO C t0)) (hu : h.get? u = some (PySem.W.kxs_mw "ValueError.__init__" e)) (hrest : rest.length ≤ sizeLine)
    (hq : ∀ h' t1, (∀ b o, b ≠ e → h.get? b = some o → h'.get? b = some o) → h'.get? e = some (PySem.HandSPX.excO C t1) → Q .none ⟨h', g, d, t, os⟩) :
    wpAny (model prog w) A (call (.ref u) rest) Q E ⟨h, g, d, t, os⟩ := by
  refine wpAny_call (codeAny_of_tree ?_)
  show wpAny _ A.in1 (callAny (.ref u) ⟨rest, []⟩) _ _ _
  simp only [callAny]
  refine wpAny_bind (wpAny_load hu ?_)
  simp only [PySem.W.kxs_mw, (by decide : (Value.type "method-wrapper" == Value.type "method" || Value.type "method-wrapper" == Value.type "builtin_function_or_method" || Value.type "method-wrapper" == Value.type "method-wrapper") = true), if_true]
  refine PySem.W.KFB.if_so (by decide) ?_
  refine wpAny_bind (ESX.check_bound F.excBase_ValueError hC he rfl ?_)
  refine wpAny_bind (wpAny_pure (wpAny_pure ?_))
  refine ⟨Code.quiet_builtin _ (by decide +kernel), codeAny_builtin F.excBase_ValueError.initEntry ?_⟩
  rw [Around.under_plainId F.excBase_ValueError.init.plain _]
  wp_walk
  refine hq _ h.objs.size (fun b o hb ho => ?_) ?_
  · rw [Heap.get?_update_other _ _ (Ne.symm hb)]; exact Heap.get?_push_of_some _ ho
  · rw [Heap.get?_update_self _ (Heap.get?_push_of_some _ he) rfl]; rfl
section
variable {X : Cx} {pins : List (Addr × Obj)} {σ : L2.St} {H : Hp} {s : Shared} {D f cc cda : Addr} {x qual : Str} {params : Arguments} {body : List Stmt} {scope : Scope} {fd : FuncData}
theorem sup_init {L : Addr} {a C : Addr} {i : Nat} {m : Str} {j : Nat} {sf : Str} {p0 p1 p2 p3 p4 p5 : Pos} (M : SupM X.prog X.K D f cc cda x qual params body scope fd) (hE : X.env = PySem.W.envX qual scope L f (.ref cda) [("__class__", cc)]) (hm : X.mg "super" = none)
    (hks : scope.names.lookup ("super" : Str) = some .globalImplicit) (hkc : scope.names.lookup ("__class__" : Str) = some .free) (har : ∃ ar, (params.posonlyargs ++ params.args).head? = some ar ∧ ar.arg = sf) (hv : scope.names.lookup sf = some .local) (hN : X.N[i]? = some sf) (hN2 : ∃ i2 : Nat, X.N[i2]? = some ("__class__" : Str) ∧ σ[i2]? = some (some (.ref D)))
    (T : SupX X.K C D) (I : Inv X pins σ H s) (hs : σ[i]? = some (some (.ref a))) (ha : H a = some (exo a C none))
    {pl : Sem Bool} (hsw : swapsWith (.Call (.Attribute (.Call (.Name "super" p0) [] [] p1) "__init__" p2) [.Constant (.str m) j p3] [] p4) none p5.line X.env = pure false := by rfl) (hi : interactive X.env = false := by rfl)
    (he : eval (.Call (.Attribute (.Call (.Name "super" p0) [] [] p1) "__init__" p2) [.Constant (.str m) j p3] [] p4) X.env = (attributeBase (.Call (.Name "super" p0) [] [] p1) "__init__" X.env (eval (.Call (.Name "super" p0) [] [] p1) X.env) >>= fun ov =>
      standAt p2.atName >>= fun _ => holding [ov] (getMethod ov "__init__" pl) >>= fun q => callWith p4 q.1 q.2 (backTo p4 (starEach [.Constant (.str m) j p3] X.env)) []) := by rfl) :
    _root_.PySem.wpAt (model X.prog X.w) X.A (.func body X.env) (exec (.Expr (.Call (.Attribute (.Call (.Name "super" p0) [] [] p1) "__init__" p2) [.Constant (.str m) j p3] [] p4) p5) X.env) (fun fl s' => fl = .next ∧ Inv X pins σ H s') X.xe s := by
  obtain ⟨oc, od, an, dV, kV, doc, pm, ct, osl, rfl, look⟩ := M.fn
  obtain ⟨cl, cld, csl, hcell⟩ := M.cell
  obtain ⟨ocd, vs, fl, tf, hcda, hcdd, hvs, hfile⟩ := M.file
  obtain ⟨cdD, hD⟩ := M.cls
  obtain ⟨ar, har1, rfl⟩ := har
  obtain ⟨nm, q, Nn, bs, bm, sn, sub, ab, col, dd, k0, k1, k2, k3, k5, hC, hbm⟩ := T.oex.cls
  have hcl : PySem.W.clsIn X.K C = some { name := nm, bases := bs, mro := .ref C :: bm, ns := Nn, qualname := q, hasDict := true, slotNames := sn, subclasses := sub, abstract := ab, collection := col, hasDel := false } := by unfold PySem.W.clsIn; rw [hC] <;> rfl
  refine PySem.ks_wpAt_Expr_any ?_ hi hsw
  refine PySem.ks_wpAt_MethodCall (pl := pl) ?_ he
  have kE : ∀ y, X.env.kindOf y = scope.names.lookup y := fun y => by rw [hE]; rfl
  have hk : X.env.scope.kind = .function := I.ok.kind
  have inK := I.kIn
  obtain ⟨oD, hD1, hD2⟩ : ∃ oD, s.heap.get? D = some oD ∧ oD.data = .cls cdD := by
    unfold PySem.W.clsIn at hD
    split at hD
    · rename_i c d cd' sl ho
      cases hD
      exact ⟨_, inK _ _ ho, rfl⟩
    · cases hD
  obtain ⟨t1, hx⟩ := exo_at I.hok ha
  obtain ⟨mb, hb1, hb2⟩ := I.mod.blt
  refine PySem.ks_wpAt_super_base (env := X.env) (by rw [kE]; exact hks) (by rw [kE]; exact hkc) (by decide) (by rw [hE]) (inK _ _ look) rfl har1 (by rw [hE]) (inK _ _ hcda) hcdd hvs hfile M.top ?_
  have G1 : s.heap.Ns X.env.globals X.mg := by rw [I.ok.glob]; exact I.mod.glob.keeps I.bk
  have B1 : s.heap.Ns X.env.builtins mb := by rw [I.ok.blt]; exact hb1.keeps I.bk
  refine PySem.W.ks_loadName_global hk (by rw [kE]; exact hks) (Calls.loadGlobal_builtin G1 hm B1 ((hb2 _ (by decide)).trans (by first | boot_by_name | rfl | kernel_rfl)) ⟨rfl, ?_⟩)
  refine wpAny_loadName_free hk (by rw [kE]; exact hkc) (c := cc) (by rw [hE]; rfl) ⟨_, inK _ _ hcell, rfl⟩ ?_
  obtain ⟨mm, hns, hl⟩ := I.loc
  obtain ⟨u, ru, lk⟩ := hl i ar.arg (.ref a) hN hs (.inl (by rw [hE]; exact hv))
  obtain rfl : u = Value.ref a := ru
  have hmm : X.env.kindOf ar.arg = some .local ∧ mm ar.arg = some (.ref a) := by
    rcases lk with z | ⟨z, _⟩
    · exact z
    · rw [kE, hv] at z
      rcases z with z | z <;> cases z
  refine wpAny_loadName_local hk hmm.1 hns hmm.2 ?_
  obtain ⟨hp, g, d, t, os⟩ := s
  refine PySem.ks_wpAny_isType_cls hD1 hD2 ⟨rfl, ?_⟩
  have J0 : PySem.W.InstAt hp a { cls := .ref C, dict := none, data := .fields #[.ref t1, .none, .none, .none, .bool false, .none] } C none := ⟨hx, rfl, rfl, trivial⟩
  refine PySem.ks_wpAny_call_super hD1 hD2 hx rfl (fun c z => nomatch z) (PySem.W.looks_mroIn inK T.sub) (fun h1 hso kp => ?_)
  have inK1 : X.K.In h1 := inK.keeps kp
  have I1 : Inv X pins σ H ⟨h1, g, d, t, os⟩ := I.kept (t' := t) kp
  have alo := T.alo
  unfold PySem.W.ks_superIn at alo
  rw [hcl] at alo
  have hI : PySem.W.Looks (model X.prog X.w) h1 (isInstance (.ref a) (.type "ValueError")) true := (J0.type.keeps kp).andThen (PySem.W.looks_subIn inK1 T.isv)
  refine PySem.W.kxs_getMethod PySem.W.kxs_ValueError hso (PySem.W.looks_opaque inK1 T.opq) (l₀ := .ref C :: bm) ?_ rfl inK1 alo hI (PySem.W.ks_ne inK J0 hcl) (by decide) ?_
  · exact fun A Q E s k q => wpAny_bind ((PySem.W.looks_clsIn inK1 hcl) A _ E s k (wpAny_pure q))
  have hu0 : (h1.push (PySem.W.kxs_mw "ValueError.__init__" a)).get? h1.objs.size = some (PySem.W.kxs_mw "ValueError.__init__" a) := Heap.get?_push_at rfl rfl
  have I2 : Inv X pins σ H ⟨h1.push (PySem.W.kxs_mw "ValueError.__init__" a), g, d, t + 1, os⟩ := I1.kept (t' := t + 1) fun b o e => Heap.get?_push_of_some _ e
  have I3 := Inv.pinned (o := PySem.W.kxs_mw "ValueError.__init__" a) I2 (I1.fpOk (b := h1.objs.size) (H' := H) (Nat.le_refl _) (I1.hok.fresh (Nat.le_refl _))) hu0 (fun v z => nomatch z)
  refine PySem.W.kxs_callWith (i := "ValueError.__init__") (x := a) (by rfl) ?_
  refine PySem.Calls.evalArgs_plain ?_
  refine thn ((pa_cons (X := X) (e := .Constant (.str m) j p3) pe_str pa_nil (by rfl)).run p4 _ _ σ H (fun vs H' => vs = [V.str m] ∧ H' = H) I3 (show [V.str m] = [V.str m] ∧ H = H from ⟨rfl, rfl⟩)) fun us s4 ⟨ws, H4, I4, r4, ew, eH⟩ => ?_
  subst ew eH
  obtain ⟨I5, hu5, _⟩ := Inv.unpinned I4
  refine ⟨hu5, ?_⟩
  obtain ⟨h4, g4, d4, t4, os4⟩ := s4
  obtain ⟨t5, hx5⟩ := exo_at I5.hok ha
  obtain ⟨u6, rfl, ru6⟩ := r4.one
  refine call_bwV (I5.kIn _ _ hC) hx5 hu5 (by show 1 ≤ sizeLine; rw [sizeLine_eq]; decide) fun h6 t6 kp6 hx6 => ⟨rfl, ?_⟩
  have J := I5.write (t' := t4) (x := a) (e := a) (o := exo a C none) (by rw [ha]; exact True.intro) (.inl rfl) kp6 ⟨_, hx6⟩ (exo_ok hx6)
  have eu : upd H4 a (exo a C none) = H4 := by
    funext b
    by_cases hb : b = a
    · rw [hb, upd_same, ha]
    · rw [upd_ne hb]
  rw [eu] at J
  exact J
end
end RF
set_option maxRecDepth 100000
set_option maxHeartbeats 4000000
namespace RF
open PySem PySem.Spec PyProof.Rows L2
/-! ### own exceptions with fields -/
/-- what __init__ of such a class promises: L the fields, the last stored first -/
def spX (K : PySem.W.Frag) (D : Addr) (L : List Str) : Sp := fun vs H Q _ => ∃ (a C : Addr) (ys : List V), vs = .ref a :: ys ∧ ys.length = L.length ∧ H a = some (exo a C none) ∧ SupX K C D ∧ (∀ f ∈ L, PySem.W.findIn K (.ref C) f = some none) ∧
  ∀ dx, H dx = none → dx ≠ a → Q .non (upd (upd H dx (exd dx (L.zip ys.reverse))) a (exo a C (some dx)))
section
variable {P : Program} {w : World} {K : PySem.W.Frag} {mg : Str → Option Value} {base : Heap} {D f cc cda : Addr} {x qual : Str} {params : Arguments} {scope : Scope} {fd : FuncData}
theorem ok_exc1 {N : List Str} {sf y g m : Str} {j : Nat} {p0 p1 p2 p3 p4 p5 q1 q2 q3 q4 : Pos} {body : List Stmt} (hbd : body = [.Expr (.Call (.Attribute (.Call (.Name "super" p0) [] [] p1) "__init__" p2) [.Constant (.str m) j p3] [] p4) p5, .Assign [.Attribute (.Name sf q1) g q2] (.Name y q3) q4])
    (M : SupM P K D f cc cda x qual params body scope fd)
    (Sc : NdefX.NScope N [sf, y] ["__class__"] scope) (hm : mg "super" = none) (hN : N = [sf, y, "__class__"]) (hks : scope.names.lookup ("super" : Str) = some .globalImplicit) (har : ∃ ar, (params.posonlyargs ++ params.args).head? = some ar ∧ ar.arg = sf)
    (hX : ∀ (A : Around) (outer : List Env) (s : Shared) (H : Hp) (E : XK), interactive (NdefX.ncx (L2.CX P w) P w K mg base N (SupM.nf x qual params body scope cc cda) f A outer s H E).env = false ∧
      swapsWith (.Call (.Attribute (.Call (.Name "super" p0) [] [] p1) "__init__" p2) [.Constant (.str m) j p3] [] p4) none p5.line (NdefX.ncx (L2.CX P w) P w K mg base N (SupM.nf x qual params body scope cc cda) f A outer s H E).env = pure false ∧
      swapsWith (.Name y q3) (some (.Attribute (.Name sf q1) g q2)) q4.line (NdefX.ncx (L2.CX P w) P w K mg base N (SupM.nf x qual params body scope cc cda) f A outer s H E).env = pure false ∧
      ∃ pl : Sem Bool, eval (.Call (.Attribute (.Call (.Name "super" p0) [] [] p1) "__init__" p2) [.Constant (.str m) j p3] [] p4) (NdefX.ncx (L2.CX P w) P w K mg base N (SupM.nf x qual params body scope cc cda) f A outer s H E).env =
        (attributeBase (.Call (.Name "super" p0) [] [] p1) "__init__" (NdefX.ncx (L2.CX P w) P w K mg base N (SupM.nf x qual params body scope cc cda) f A outer s H E).env (eval (.Call (.Name "super" p0) [] [] p1) (NdefX.ncx (L2.CX P w) P w K mg base N (SupM.nf x qual params body scope cc cda) f A outer s H E).env) >>= fun ov =>
        standAt p2.atName >>= fun _ => holding [ov] (getMethod ov "__init__" pl) >>= fun q => callWith p4 q.1 q.2 (backTo p4 (starEach [.Constant (.str m) j p3] (NdefX.ncx (L2.CX P w) P w K mg base N (SupM.nf x qual params body scope cc cda) f A outer s H E).env)) []))
    (hd1 : (sf == ("__debug__" : Str)) = false := by decide) (hd2 : (sf == ("__classdict__" : Str)) = false := by decide) (hd3 : (y == ("__debug__" : Str)) = false := by decide) (hd4 : (y == ("__classdict__" : Str)) = false := by decide) :
    FnOk P w K mg base (L2.CX P w) 1 f fd [sf, y] (spX K D [g]) := by
  subst hN
  refine supM_fn M Sc (fun vs H Q E h => ?_) fun A outer s H vs Q E hr h s1 I => ?_
  · obtain ⟨a, C, ys, rfl, hl, _⟩ := h
    simp [hl]
  · obtain ⟨a, C, ys, rfl, hl, ha, T, hno, q⟩ := h
    obtain ⟨i1, w1, w2, pl, he⟩ := hX A outer s H E
    match ys, hl with
    | [v], _ =>
      have hv := Sc.par sf (by simp)
      have hv2 := Sc.par y (by simp)
      have h0 := sup_init (X := NdefX.ncx (L2.CX P w) P w K mg base [sf, y, "__class__"] (SupM.nf x qual params body scope cc cda) f A outer s H E) (i := 0) M rfl hm hks (Sc.frk _ (by simp)) har hv rfl ⟨2, rfl, rfl⟩ T I rfl ha w1 i1 he
      have hps := pss_one (X := NdefX.ncx (L2.CX P w) P w K mg base [sf, y, "__class__"] (SupM.nf x qual params body scope cc cda) f A outer s H E) (ps_ost (pos := q4) (f := g) (p' := q2) (pe_var (pos := q1) (i := 0) (x := sf) rfl (Or.inl hv) hd1 hd2) (pe_var (pos := q3) (i := 1) (x := y) rfl (Or.inl hv2) hd3 hd4) w2)
      subst hbd
      refine PySem.ks_wpAt_execs_cons (PySem.wpAt_mono h0 (fun fl s2 h2 => ?_) fun _ _ z => z)
      obtain ⟨rfl, I2⟩ := h2
      refine wpAt_of_wpAny ?_
      refine wpAny_mono (hps.run [] s2 _ H ⟨fun _ H' => Q .non H', Q, fun _ _ => False, fun _ _ => False⟩ I2 ⟨v, rfl, .ref a, rfl, a, C, rfl, T.oex, hno g (by simp), .inl ⟨ha, fun dx n ne => q dx n ne⟩⟩) (fun fl s3 h3 => ?_) fun _ _ z => z
      cases fl with
      | next => obtain ⟨σ', H', J, q⟩ := h3; exact ⟨σ', H', J, q⟩
      | ret u => obtain ⟨v, σ', H', J, r, q⟩ := h3; exact ⟨v, σ', H', J, r, q⟩
      | brk => obtain ⟨_, _, _, z⟩ := h3; exact z.elim
      | cont => obtain ⟨_, _, _, z⟩ := h3; exact z.elim
end
/-- the class C of such exceptions -/
structure XIf (K : PySem.W.Frag) (W : Wd) (c d : Nat) : Prop where
  sup : SupX K (W.cl c) (W.cl d)
  ini : PySem.W.findIn K (.ref (W.cl c)) "__init__" = some (some (.ref (adrOf (PySem.W.findIn K (.ref (W.cl d)) "__init__"))))
  no : ∀ f ∈ fldNames c, PySem.W.findIn K (.ref (W.cl c)) f = some none
  fl : W.fld c = fldNames c
section
variable {X : Cx} {W : Wd} {Wx : WX}
def sRaiseE (c : Nat) (dfl : List D) (t : TAa) : TSa := fun _ rho eta EX => t rho eta (fun ds eta1 => (ds ++ dfl).all D.im = true ∧ (ds ++ dfl).length = (fldNames c).length ∧ ds ++ dfl ≠ [] ∧ EX ⟨c, (ds ++ dfl).reverse⟩ rho eta1) EX
theorem Reps.rev {H : Hp} : ∀ {ds : List D} {vs : List V}, Reps W H ds vs → Reps W H ds.reverse vs.reverse
  | [], vs, h => by have h : vs = _ := h; subst h; exact rfl
  | d :: ds, vs, ⟨v, r, e, h1, h2⟩ => by subst e; rw [List.reverse_cons, List.reverse_cons]; exact Reps.snoc h1 (Reps.rev h2)
theorem passesF : Passes (L2.CX X.prog X.w) X (fun _ _ _ => False) := fun pins σ H s e s' I h => by
  obtain ⟨_, _, _, _, _, _, _, _, _, _, _, _, z⟩ := h
  exact z.elim
theorem sa_raiseE {c d k : Nat} {fI : Addr} {fd : FuncData} {ps : List Str} {x : Str} {e : Expr} {es : List Expr} {t : TAa} {ds : List Value} {dfl : List D} {dvs : List V} {p p2 pos : Pos} (hc : X.calm = true) (tk : Takes X Wx) (T : XIf X.K W c d) (hI : PySem.W.findIn X.K (.ref (W.cl d)) "__init__" = some (some (.ref fI))) (hfn : PySem.W.isFn X.K (.ref fI) = true)
    (F : FnOk X.prog X.w X.K X.mg X.base (L2.CX X.prog X.w) k fI fd ps (spX X.K (W.cl d) (fldNames c))) (hr : Room (k + 1) X.A) (hb : Binds X.K fd ps ds) (hd : Vals dvs ds) (hdf : ∀ H : Hp, Reps W H dfl dvs) (hm : X.mg x = some (.ref (W.cl c))) (ha : AA X W Wx (e :: es) t) (hg : Gl X x := by rfl)
    (hdb : (x == ("__debug__" : Str)) = false := by decide) (he : starEach (e :: es) X.env = (false, eval e X.env) :: starEach es X.env := by rfl) (hpl : (backTo p2 (starEach es X.env)).any (·.1) = false := by rfl) :
    SA X W Wx (.Raise (some (.Call (.Name x p) (e :: es) [] p2)) none pos) (sRaiseE c dfl t) := by
  have hin := T.ini
  rw [adrOf_eq hI] at hin
  refine .of (ps_raise hc tk (pmk_oex T.sup.oex hin (beq_iff_eq.mp hfn) F hr hb hd passesF hg hm ha.pa hdb he hpl)) fun σ H th rho eta DA EX S xo h => ?_
  refine ⟨th, rho, eta, _, EX, S, xo, h, fun th1 H1 vs es' eta1 g1 S1 R1 q1 => ?_⟩
  obtain ⟨him, hlen, hne, q1⟩ := q1
  have him1 : es'.all D.im = true := by rw [List.all_append, Bool.and_eq_true] at him; exact him.1
  have Rv := RepTs.im R1 him1
  have Rall : Reps W H1 (es' ++ dfl) (vs ++ dvs) := Reps.append2 Rv (hdf H1)
  have hlv := Rall.length
  have hn1000 : vs.length ≤ 1000 := by
    have e1 := Rv.length
    have e2 : (fldNames c).length ≤ 10 := by
      unfold fldNames; split <;> simp
    rw [List.length_append] at hlen
    omega
  refine ⟨hn1000, fun a hna => ?_⟩
  refine ⟨a, W.cl c, vs ++ dvs, rfl, by omega, upd_same, T.sup, T.no, fun dx hdx hne' => ?_⟩
  have hdx1 : H1 dx = none := by rw [upd_ne hne'] at hdx; exact hdx
  have hada : ∀ b, b ≠ a → b ≠ dx → (upd (L2.del (upd (upd (upd H1 a (exo a (W.cl c) none)) dx (exd dx ((fldNames c).zip (vs ++ dvs).reverse))) a (exo a (W.cl c) (some dx))) a) dx (.xd ((fldNames c).zip (vs ++ dvs).reverse))) b = H1 b := fun b h1 h2 => by
    rw [upd_ne h2, del_ne h1, upd_ne h1, upd_ne h2, upd_ne h1]
  refine ⟨rfl, dx, (fldNames c).zip (vs ++ dvs).reverse, upd_same, by rw [upd_ne hne', upd_same], hdx1, ?_⟩
  have eH : upd (L2.del (upd (upd (upd H1 a (exo a (W.cl c) none)) dx (exd dx ((fldNames c).zip (vs ++ dvs).reverse))) a (exo a (W.cl c) (some dx))) a) dx (.xd ((fldNames c).zip (vs ++ dvs).reverse)) = upd H1 dx (.xd ((fldNames c).zip (vs ++ dvs).reverse)) := by
    funext b
    by_cases h2 : b = dx
    · rw [h2, upd_same, upd_same]
    · by_cases h1 : b = a
      · rw [h1, upd_ne (Ne.symm hne'), upd_ne (Ne.symm hne'), del_same, hna]
      · rw [hada b h1 h2, upd_ne h2]
  rw [eH]
  have gn : Grow th1 H1 th1 (upd H1 dx (.xd ((fldNames c).zip (vs ++ dvs).reverse))) := Grow.new hdx1
  refine xo ⟨c, (es' ++ dfl).reverse⟩ rho eta1 th1 _ σ _ _ q1 (g1.trans' S1.hp gn) (S1.mono gn (S1.hp.new hdx1)) ⟨rfl, .inr ⟨dx, (vs ++ dvs).reverse, fun z => hne (List.reverse_eq_nil_iff.mp z), rfl, by rw [T.fl]; exact upd_same, by rw [T.fl, List.length_reverse]; omega, Reps.mono gn.pers _ _ (Reps.rev Rall)⟩⟩
/-! ### e.f of the caught exception -/
def XFs (K : PySem.W.Frag) (W : Wd) (f : Str) (cs : List Nat) : Prop := ∀ c, cs.contains c = true → XfC K (W.cl c) ∧ PySem.W.findIn K (.ref (W.cl c)) f = some none ∧ W.fld c = fldNames c
def xfQ (f : Str) (cs : List Nat) (W : Wd) (a : Addr) (cls : Value) (dx : Option Addr) (Q : QA) : QA := fun d eta => match d with
  | .exn a' d' k vs => a' = a ∧ d' = dx ∧ cls = .ref (W.cl k) ∧ cs.contains k = true ∧ (match fldIx f k with
    | some j => (match vs[j]? with
      | some y => ((fldNames k).take j).contains f = false ∧ Q y eta
      | none => False)
    | none => False)
  | _ => False
def aXf (f : Str) (cs : List Nat) (W : Wd) (a : Addr) (cls : Value) (dx : Option Addr) (t : TEa) : TEa := fun rho eta Q EX => t rho eta (xfQ f cs W a cls dx Q) EX
theorem ea_xf {X : Cx} {Wx : WX} {a : Addr} {oe : Obj} {cls : Value} {dx : Option Addr} {pn : List (Addr × Obj)} {e : Expr} {t : TEa} {pos : Pos} {f : Str} {cs : List Nat} (T : XFs X.K W f cs) (hz : Zc cls dx oe) (hf : ∃ vs, oe.data = .fields vs) (he : EA (X.suite a ((a, oe) :: pn)) W Wx e t)
    (hb : attributeBase e f X.env (eval e X.env) = eval e X.env := by rfl) : EA (X.suite a ((a, oe) :: pn)) W Wx (.Attribute e f pos) (aXf f cs W a cls dx t) := by
  refine ⟨fun pins s σ H th rho eta Qa EX I S xo h => ?_⟩
  refine attr_of hb (thn (he.run pins s σ H th rho eta _ EX I S xo h) fun u s1 ⟨v, th1, H1, d, eta1, I1, r1, g1, S1, R1, q1⟩ => ?_)
  unfold xfQ at q1
  split at q1
  · rename_i a' d' k vs
    obtain ⟨rfl, rfl, rfl, hk, q1⟩ := q1
    split at q1
    · rename_i j hj
      split at q1
      · rename_i y hy
        obtain ⟨hno, q1⟩ := q1
        obtain ⟨tx, tn, tf⟩ := T k hk
        obtain ⟨od, J, _, hfld⟩ := exn_inst I1 hz hf R1
        obtain ⟨hjl, ej, _⟩ := List.findIdx?_eq_some_iff_getElem.mp hj
        have ej2 : (fldNames k)[j]? = some f := by rw [List.getElem?_eq_getElem hjl]; congr 1; simpa using ej
        obtain ⟨o, u', z, rfl, hlk, ru, rz⟩ := hfld f j y hy (by rw [tf]; exact ej2) (by rw [tf]; exact hno)
        have ev : v = .ref a' := R1.1
        subst ev
        obtain rfl : u = Value.ref a' := r1
        exact HandSPX.exc_get I1.kIn J tx.ga tx.gg tx.exC (PySem.W.findObj_own tx.hdC tn rfl hlk) (handed_of ru) ⟨z, th1, H1, y, eta1, I1.tok _, ru, g1, S1, RepT.of rz, q1⟩
      · exact q1.elim
    · exact q1.elim
  · exact q1.elim
end
end RF
set_option maxRecDepth 100000
set_option maxHeartbeats 4000000
namespace RF
open PySem PySem.Spec PyProof.Rows L2
/-! ### a dict that stands still while an expression walks it -/
def hideR (rho : Rho) : Rho := rho.map fun o => match o with
  | some d => if d.im then some d else none
  | none => none
def flat1 : D → Bool
  | .int _ => true
  | .bl _ => true
  | .str _ => true
  | .non => true
  | _ => false
def flatL : D → Bool
  | .fl ds => ds.all flat1
  | d => flat1 d
def aLock (i : Nat) (t : TEa) : TEa := fun rho eta Q EX => match rho[i]? with
  | some (some (.ref n)) => (match eta[n]? with
    | some (.dct ks ds) => t ((hideR rho).set i (some (.fd ks ds))) [] (fun d _ => flatL d = true ∧ Q d eta) (fun _ _ _ => False)
    | _ => t rho eta Q EX)
  | _ => t rho eta Q EX
section
variable {X : Cx} {W : Wd} {Wx : WX}
theorem SR.hide {th : List Addr} {H H1 : Hp} {σ : L2.St} {rho : Rho} {eta : List MO} (S : SR W th H σ rho eta) (p : Pers H H1) : SR W [] H1 σ (hideR rho) [] := by
  refine ⟨fun i d e => ?_, by unfold hideR; simpa using S.le, rfl, by simp, fun n mo e => by simp at e⟩
  unfold hideR at e
  rw [List.getElem?_map] at e
  cases q : rho[i]? with
  | none => rw [q] at e; cases e
  | some o =>
    rw [q] at e
    cases o with
    | none => simp at e
    | some d' =>
      simp only [Option.map_some, Option.some.injEq] at e
      split at e
      · rename_i him
        cases e
        obtain ⟨v, e1, r⟩ := S.var i _ q
        exact ⟨v, e1, RepT.of (Rep.mono p _ _ (r.im him))⟩
      · cases e
theorem SR.setR {th : List Addr} {H : Hp} {σ : L2.St} {rho : Rho} {eta : List MO} {i : Nat} {d : D} {v : V} (S : SR W th H σ rho eta) (e : σ[i]? = some (some v)) (r : RepT W th H d v) : SR W th H σ (rho.set i (some d)) eta := by
  refine ⟨fun j d' e' => ?_, by simpa using S.le, S.hp⟩
  by_cases h : i = j
  · subst h
    by_cases hl : i < rho.length
    · rw [List.getElem?_set_self hl] at e'; cases e'; exact ⟨v, e, r⟩
    · rw [List.getElem?_eq_none (by simpa using hl)] at e'; cases e'
  · rw [List.getElem?_set_ne h] at e'
    exact S.var j d' e'
theorem flat_rep {H H' : Hp} {d : D} {v : V} (f : flat1 d = true) (r : Rep W H d v) : Rep W H' d v := by
  cases d <;> first | exact r | cases f
theorem flat_reps {H H' : Hp} : ∀ {ds : List D} {vs : List V}, ds.all flat1 = true → Reps W H ds vs → Reps W H' ds vs
  | [], _, _, h => h
  | d :: ds, _, f, ⟨v, r, e, h1, h2⟩ => by
    rw [List.all_cons, Bool.and_eq_true] at f
    exact ⟨v, r, e, flat_rep f.1 h1, flat_reps f.2 h2⟩
theorem ea_lock {e : Expr} {t : TEa} (i : Nat) (h : EA X W Wx e t) : EA X W Wx e (aLock i t) := by
  refine ⟨fun pins s σ H th rho eta Qa EX I S xo hq => ?_⟩
  unfold aLock at hq
  split at hq
  · rename_i n hn
    split at hq
    · rename_i ks ds hm
      obtain ⟨v0, ev, a, ea, rfl⟩ := S.var i _ hn
      obtain ⟨b, ho, e1, e2, vs, rfl, l, Rs⟩ := S.hp.obj n _ hm
      rw [ea] at e1; cases e1
      obtain ⟨od, I1⟩ := I.lock e2 trivial
      have p1 : Pers H (upd H a (.frz od (.dK (ks.zip vs)))) := fun b u e f => by
        rw [upd_ne (fun z => by rw [z, e2] at e; cases e; exact f)]; exact e
      have S1 := (S.hide p1).setR (d := .fd ks ds) ev ⟨a, od, vs, rfl, upd_same, l, Reps.mono p1 _ _ Rs⟩
      refine thn (h.run pins s σ _ [] _ [] _ (fun _ _ _ => False) I1 S1 (fun _ _ _ _ _ _ _ _ h => h.elim) hq) fun u s' ⟨v, th', H', d, eta', I', r, g, S', R, fl, q⟩ => ?_
      have eA : H' a = some (.frz od (.dK (ks.zip vs))) := g.keep a _ upd_same (.inr trivial)
      have I2 := I'.unlock eA (I.nofrz e2 trivial)
      have keep : ∀ c u, H c = some u → (upd H' a (.dK (ks.zip vs))) c = some u := fun c u e => by
        by_cases hc : c = a
        · subst hc; rw [upd_same, ← e2, e]
        · rw [upd_ne hc]
          exact g.keep c u (by rw [upd_ne hc]; exact e) (.inl (by simp))
      have G : Grow th H th (upd H' a (.dK (ks.zip vs))) := ⟨⟨[], by simp, fun _ z => by simp at z⟩, fun c u e _ => keep c u e⟩
      have Sh : SRh W th (upd H' a (.dK (ks.zip vs))) eta := ⟨S.hp.len, S.hp.nd, fun m mo e => by
        obtain ⟨c, hc, q1, q2, q3⟩ := S.hp.obj m mo e
        exact ⟨c, hc, q1, keep c _ q2, q3.pers G.pers⟩⟩
      refine ⟨v, th, _, d, eta, I2, r, G, S.mono G Sh, ?_, q⟩
      cases d with
      | fl es =>
        obtain ⟨D, o, ws, rfl, eD, Rw⟩ := R
        have nD : D ≠ a := fun z => by rw [z, eA] at eD; cases eD
        exact ⟨D, o, ws, rfl, by rw [upd_ne nD]; exact eD, flat_reps fl Rw⟩
      | ref m => cases fl
      | _ => first | exact R | cases fl
    · exact h.run pins s σ H th rho eta Qa EX I S xo hq
  · exact h.run pins s σ H th rho eta Qa EX I S xo hq
/-! ### a dict comprehension whose dict will change -/
theorem RepT.ext {th t : List Addr} {H : Hp} {d : D} {v : V} (h : RepT W th H d v) : RepT W (th ++ t) H d v := by
  cases d with
  | ref n => obtain ⟨a, e, r⟩ := h; exact ⟨a, by rw [List.getElem?_append_left (List.getElem?_eq_some_iff.mp e).1]; exact e, r⟩
  | _ => exact h
theorem RepTs.ext {th t : List Addr} {H : Hp} : ∀ {ds : List D} {vs : List V}, RepTs W th H ds vs → RepTs W (th ++ t) H ds vs
  | [], _, h => h
  | d :: ds, _, ⟨v, r, e, h1, h2⟩ => ⟨v, r, e, h1.ext, RepTs.ext h2⟩
theorem RepM.ext {th t : List Addr} {H : Hp} {mo : MO} {ho : HO} (h : RepM W th H mo ho) : RepM W (th ++ t) H mo ho := by
  cases mo with
  | ins c ds => obtain ⟨dx, vs, e, l, r⟩ := h; exact ⟨dx, vs, e, l, r.ext⟩
  | _ => exact h
theorem SRh.addO {th : List Addr} {H : Hp} {eta : List MO} {a : Addr} {o : HO} {mo : MO} (S : SRh W th H eta) (hD : a ∉ th) (e : H a = some o) (r : RepM W (th ++ [a]) H mo o) : SRh W (th ++ [a]) H (eta ++ [mo]) := by
  refine ⟨by simp [S.len], ?_, fun n m e' => ?_⟩
  · rw [List.nodup_append]
    exact ⟨S.nd, by simp, fun x hx y hy => by simp at hy; rw [hy]; rintro rfl; exact hD hx⟩
  · by_cases h : n < eta.length
    · rw [List.getElem?_append_left h] at e'
      obtain ⟨b, ho, e1, e2, r2⟩ := S.obj n m e'
      exact ⟨b, ho, by rw [List.getElem?_append_left (by rw [← S.len]; exact h)]; exact e1, e2, r2.ext⟩
    · rw [List.getElem?_append_right (by omega)] at e'
      have h0 : n = eta.length := by
        have := (List.getElem?_eq_some_iff.mp e').1
        simp at this; omega
      subst h0
      simp at e'
      subst e'
      exact ⟨a, o, by rw [S.len]; simp, e, r⟩
def aDcM (ti : TIa) (ga : TGa) (tt : TTa) (tk tv : TEa) (vs : List Nat) : TEa := fun rho eta Q EX => ti rho eta (fun ds eta1 => ds.length ≤ 100000 ∧ aDcG ga tt tk tv (wipA rho vs) (fun ks es eta2 => Q (.ref eta2.length) (eta2 ++ [.dct ks es])) ds [] [] eta1) EX
theorem ea_dcM {kx vx tg iter : Expr} {ifs : List Expr} {scope : Scope} {own : List (Str × Nat)} {pos : Pos} {ti : TIa} {g : TG} {ga : TGa} {tt : TTa} {tk tv : TEa} (hc : X.calm = true) (hN : X.N.Nodup) (hi : IA X W Wx tg iter ti) (ok : BlkOk X.N X.env.scope scope own)
    (hg : ∀ (s : Shared) (H : Hp) (C : Addr) (cl : List (Str × Addr)) (fp : List Addr), PG (X.blk s H scope (compEnvC scope cl C X.env) fp) tg g) (hk : GBk W (own.map (·.2)) g ga)
    (ht : ∀ (s : Shared) (H : Hp) (C : Addr) (cl : List (Str × Addr)) (fp : List Addr), TsA (X.blk s H scope (compEnvC scope cl C X.env) fp) W W0 ifs tt)
    (hkx : ∀ (s : Shared) (H : Hp) (C : Addr) (cl : List (Str × Addr)) (fp : List Addr), EA (X.blk s H scope (compEnvC scope cl C X.env) fp) W W0 kx tk)
    (he : ∀ (s : Shared) (H : Hp) (C : Addr) (cl : List (Str × Addr)) (fp : List Addr), EA (X.blk s H scope (compEnvC scope cl C X.env) fp) W W0 vx tv) (hs : ∀ x, foldedSetIterable iter X.env x = pure x := by intro _; rfl) :
    EA X W Wx (.DictComp kx vx [⟨tg, iter, ifs, 0⟩] scope pos) (aDcM ti ga tt tk tv (own.map (·.2))) := by
  refine .of ((pe_dc hc hN hi.pi ok hg (fun s H C cl fp => (ht s H C cl fp).pts) (fun s H C cl fp => (hkx s H C cl fp).pe) (fun s H C cl fp => (he s H C cl fp).pe) hs)) fun σ H th rho eta Qa EX S xo hq => ?_
  refine ⟨th, rho, eta, _, EX, S, xo, hq, fun J th1 H1 ds eta1 g1 S1 jo q => ?_⟩
  obtain ⟨hlen, q⟩ := q
  intro D hD
  have hD1 : D ∉ th1 := fun z => by obtain ⟨o, e⟩ := S1.hp.there D z; rw [hD] at e; cases e
  let Inv2 : Nat → Hp → Prop := fun i H2 => ∃ th2 eta2 ks acc accD, Grow th1 H1 th2 H2 ∧ SRh W th2 H2 eta2 ∧ D ∉ th2 ∧ H2 D = some (.dK (ks.zip acc)) ∧ ks.length = acc.length ∧ Reps W H2 accD acc ∧ ks.length ≤ i ∧ i ≤ ds.length ∧
    aDcG ga tt tk tv (wipA rho (own.map (·.2))) (fun ks es eta2 => Qa (.ref eta2.length) (eta2 ++ [.dct ks es])) (ds.drop i) ks accD eta2
  refine ⟨fun i m H2 => m = ds.length - i ∧ Inv2 i H2, ⟨ds.length, rfl, th1, eta1, [], [], [], Grow.new hD, S1.hp.new hD, hD1, upd_same, rfl, rfl, by simp, Nat.zero_le _, by simpa using q⟩, ?_⟩
  rintro i m H2 ⟨rfl, th2, eta2, ks, acc, accD, g2, S2, hD2, eD, lk, Racc, hacc, hil, q2⟩
  obtain ⟨jg, js⟩ := jo th2 H2 g2 i
  cases e : ds[i]? with
  | none =>
    have hl : ds.length ≤ i := List.getElem?_eq_none_iff.mp e
    rw [List.drop_eq_nil_of_le hl] at q2
    have P := S2.addO (mo := .dct ks accD) hD2 eD ⟨acc, rfl, lk, Racc⟩
    have g3 : Grow th1 H1 (th2 ++ [D]) H2 := by
      obtain ⟨⟨t, et, ht⟩, kp⟩ := g2
      exact ⟨⟨t ++ [D], by rw [et, List.append_assoc], fun b hb => by
        rcases List.mem_append.mp hb with z | z
        · exact ht b z
        · simp at z; rw [z]; exact hD⟩, kp⟩
    have g13 := g1.trans' S1.hp g3
    exact .inl ⟨js hl, th2 ++ [D], .ref eta2.length, eta2 ++ [.dct ks accD], g13, ⟨fun i d e => let ⟨v, e1, r⟩ := S.var i d e; ⟨v, e1, r.mono g13⟩, S.le, P⟩, ⟨D, by rw [S2.len]; simp, rfl⟩, q2⟩
  | some d =>
    obtain ⟨hgo, hy⟩ := jg d e
    have hlt : i < ds.length := (List.getElem?_eq_some_iff.mp e).1
    rw [drop_get e] at q2
    refine .inr ⟨hgo, Inv2 (i + 1), fun H' q => ⟨ds.length - (i + 1), by omega, rfl, q⟩, fun x H' hyl => ?_⟩
    obtain ⟨py, hk2, Rx⟩ := hy x H' hyl
    obtain ⟨S2h, g3⟩ := hk2 th2 eta2 S2
    have Sw : SR W th2 H2 (wipe σ (own.map (·.2))) (wipA rho (own.map (·.2))) eta2 := wipA_sr (S1.mono g2 S2) _
    have Sw3 := Sw.mono g3 S2h
    have eD3 : H' D = some (.dK (ks.zip acc)) := g3.keep D _ eD (.inl hD2)
    refine hk _ H' th2 _ eta2 x d _ _ Sw3 Rx q2 fun σ2 rho2 hw S4 q4 => ⟨by rw [hw, wipe_wipe], th2, rho2, eta2, _, _, S4, XOk.none, q4, fun th5 H5 b eta5 g5 S5 q5 => ?_⟩
    have eD5 : H5 D = some (.dK (ks.zip acc)) := g5.keep D _ eD3 (.inl hD2)
    have hD5 : D ∉ th5 := g5.notin hD2 eD3
    have g25 : Grow th1 H1 th5 H5 := g2.trans' S2 (g3.trans' S2h g5)
    have p25 : Pers H2 H5 := fun a o h f => g5.pers a o (py a o h f) f
    cases b with
    | false =>
      rw [if_neg Bool.false_ne_true] at q5
      dsimp only
      rw [if_neg Bool.false_ne_true]
      exact ⟨th5, eta5, ks, acc, accD, g25, S5.hp, hD5, eD5, lk, Reps.mono p25 _ _ Racc, by omega, hlt, q5⟩
    | true =>
      rw [if_pos rfl] at q5
      dsimp only
      rw [if_pos rfl]
      refine ⟨th5, rho2, eta5, _, _, S5, XOk.none, q5, fun th6 H6 ky dk eta6 g6 S6 Rk q6 => ?_⟩
      have eD6 : H6 D = some (.dK (ks.zip acc)) := g6.keep D _ eD5 (.inl hD5)
      have hD6 : D ∉ th6 := g6.notin hD5 eD5
      refine ⟨th6, rho2, eta6, _, _, S6, XOk.none, q6, fun th7 H7 y dy eta7 g7 S7 Ry q7 => ?_⟩
      split at q7
      · rename_i k hk'
        obtain ⟨yi, q7⟩ := q7
        have eD7 : H7 D = some (.dK (ks.zip acc)) := g7.keep D _ eD6 (.inl hD6)
        have hD7 : D ∉ th7 := g7.notin hD6 eD6
        have Racc7 : Reps W H7 accD acc := Reps.mono g7.pers _ _ (Reps.mono g6.pers _ _ (Reps.mono p25 _ _ Racc))
        have hsz : (ks.zip acc).length < sizeLine := sizeK (by rw [List.length_zip, ← lk, Nat.min_self]; omega)
        refine ⟨ks.zip acc, k, keyD_at Rk hk', eD7, hsz, ?_⟩
        obtain ⟨p8, S8⟩ := S7.hp.aside (o' := .dK (putK (ks.zip acc) k y)) hD7 eD7 (fun z => z)
        have RM := kput_at (th := th7) (k := k) lk (Reps.mono p8 _ _ Racc7) (Rep.mono p8 _ _ (Ry.im yi))
        rw [kput_eq] at RM
        obtain ⟨ws, ew, lw, Rw⟩ := RM
        have ew2 : putK (ks.zip acc) k y = (kpK ks accD k).zip ws := by injection ew
        refine ⟨th7, eta7, kpK ks accD k, ws, kpV ks accD k dy, ((g25.trans' S5.hp g6).trans' S6.hp g7).aside hD, S8, hD7, by rw [← ew2]; exact upd_same, lw, Rw, ?_, hlt, q7⟩
        have := kpK_le ks accD k
        omega
      · exact q7.elim
end
end RF
set_option maxRecDepth 100000
set_option maxHeartbeats 4000000
namespace RF
open PySem PySem.Spec PyProof.Rows L2
section
variable {X : Cx} {W : Wd} {Wx : WX}
/-! ### list(range(n)) -/
def rgD (n : Nat) : List D := (List.range n).map fun i => D.int (i : Nat)
theorem rg_reps {H : Hp} : ∀ (l : List Nat), Reps W H (l.map fun i => D.int (i : Nat)) (l.map fun i => V.int ((i : Nat) : Int))
  | [] => rfl
  | i :: l => ⟨_, _, rfl, rfl, rg_reps l⟩
def aLRg (t : TEa) : TEa := fun rho eta Q EX => t rho eta (fun d eta1 => match d with
  | .int n => 0 ≤ n ∧ n ≤ 16777216 ∧ Q (.fl (rgD n.toNat)) eta1
  | _ => False) EX
theorem ea_lrg {a : Expr} {t : TEa} {p p2 pos pos2 : Pos} (hc : X.calm = true) (hml : X.mg "list" = none) (hm : X.mg "range" = none) (h : EA X W Wx a t) (hg : Gl X "list" := by rfl) (hg2 : Gl X "range" := by rfl)
    (na : starEach [a] X.env = (false, eval a X.env) :: starEach [] X.env := by rfl) (na2 : starEach [.Call (.Name "range" p2) [a] [] pos2] X.env = (false, eval (.Call (.Name "range" p2) [a] [] pos2) X.env) :: starEach [] X.env := by rfl) :
    EA X W Wx (.Call (.Name "list" p) [.Call (.Name "range" p2) [a] [] pos2] [] pos) (aLRg t) :=
  .of (pe_fz (pe_listRg (p := p) hc hg hml (prg_1 (p := p2) hg2 hm h.pe na) na2)) fun σ H th rho eta Qa EX S x hq => by
    refine ⟨th, rho, eta, _, EX, S, x, hq, fun th1 H1 v d eta1 g S1 R q => ?_⟩
    cases d with
    | int n =>
      have e : v = .int n := R
      obtain ⟨h0, h1, q⟩ := q
      refine ⟨n, e, RgOk.of_le (by omega) (by omega) (by omega) (by omega), fun p hp => ⟨p, _, rfl, upd_same, trivial, fun od => ⟨th1, .fl (rgD n.toNat), eta1, ?_⟩⟩⟩
      rw [upd_upd]
      refine ⟨g.trans' S1.hp (Grow.new hp), S1.mono (Grow.new hp) (S1.hp.new hp), ⟨p, od, _, rfl, upd_same, ?_⟩, q⟩
      have e2 : rgV 0 n = (List.range n.toNat).map fun i => V.int ((i : Nat) : Int) := by
        unfold rgV
        rw [Int.sub_zero]
        refine List.map_congr_left fun i _ => ?_
        rw [Int.zero_add]
      rw [e2]
      exact rg_reps _
    | _ => exact q.elim
/-! ### a text in a list of texts -/
theorem inV_strs {x : Str} : ∀ {xs : List Str}, inV (.str x) (xs.map V.str) = xs.contains x
  | [] => rfl
  | y :: xs => by
    have ih := inV_strs (x := x) (xs := xs)
    unfold inV at ih ⊢
    rw [List.map_cons, List.any_cons, List.contains_cons, ih]
    congr 1
    show decide (y = x) = (x == y)
    by_cases h : y = x
    · subst h; simp
    · have h2 : (x == y) = false := by simpa using fun z => h (Eq.symm z)
      rw [h2]; simpa using h
theorem flat_strs : ∀ {xs : List Str}, (xs.map V.str).all flatV = true
  | [] => rfl
  | x :: xs => by rw [List.map_cons, List.all_cons, flat_strs]; rfl
def raInS (neg : Bool) (r0 : R2a) : R2a := fun e d rho eta Q EX => match e, (slD eta d).bind strsD with
  | .str x, some xs => Q (.bl (if neg then !xs.contains x else xs.contains x)) eta
  | e, _ => r0 e d rho eta Q EX
theorem oa_inS {neg : Bool} {r0 : R2a} (h0 : OpA X W Wx (compareOp (if neg then .NotIn else .In)) r0) : OpA X W Wx (compareOp (if neg then .NotIn else .In)) (raInS neg r0) := by
  intro pins s σ H th rho eta y x u v e d Qa EX I S xo ry rx Re Rd hq
  unfold raInS at hq
  split at hq
  · rename_i z xs hs
    cases hl : slD eta d with
    | none => rw [hl] at hs; cases hs
    | some ds =>
      rw [hl] at hs
      have hs : strsD ds = some xs := hs
      obtain ⟨a, vs, rfl, hsq, Rs⟩ := slD_at (X := X) S.hp Rd hl
      have e1 := strsD_eq hs
      subst e1
      have e2 := reps_strs Rs
      subst e2
      have e3 : y = .str z := Re
      subst e3
      have hr : rIn X.K neg (.str z) (.ref a) H (fun v H' => H' = H ∧ v = .bl (if neg then !xs.contains z else xs.contains z)) := ⟨a, _, rfl, .inl hsq, rfl, flat_strs, rfl, by rw [inV_strs]⟩
      have fin : ∀ r s', EP X pins σ (fun v H' => H' = H ∧ v = .bl (if neg then !xs.contains z else xs.contains z)) r s' → EPa X W pins σ th H rho Qa r s' := fun r s' ⟨v, H', I', rv, e1, e2⟩ => by
        subst e1 e2
        exact ⟨_, th, _, .bl _, eta, I', rv, Grow.refl _ _, S, rfl, hq⟩
      cases neg with
      | false => exact wpAny_mono (op_in_seq pins s σ H _ _ u v _ I ry rx hr) fin fun _ _ z => z
      | true => exact wpAny_mono (op_notIn_seq pins s σ H _ _ u v _ I ry rx hr) fin fun _ _ z => z
  · exact h0 pins s σ H th rho eta y x u v _ d Qa EX I S xo ry rx Re Rd hq
/-! ### isinstance of own instances -/
structure IsK (K : PySem.W.Frag) (C : Addr) (u : Value) (b : Bool) : Prop where
  cl : Cls K C
  ic : PySem.W.isClsIn K C = true
  si : SlX.SIsi K C
  ans : PySem.W.kitOne K (.ref C) u = some b
def IsO (K : PySem.W.Frag) (W : Wd) (yes no : List Nat) (u : Value) : Prop := ∀ k, (yes.contains k = true → IsK K (W.cl k) u true) ∧ (no.contains k = true → IsK K (W.cl k) u false)
def raIsiO (c : D) (yes no : List Nat) (r0 : RNa) : RNa := fun ds rho eta Q EX => match ds with
  | [d, c'] => (match insD eta d with
    | some (k, _) => c' = c ∧ (if yes.contains k then Q (.bl true) eta else if no.contains k then Q (.bl false) eta else False)
    | none => r0 [d, c'] rho eta Q EX)
  | _ => False
theorem ca_isiO {c : D} {u : Value} {yes no : List Nat} {r0 : RNa} (hc : ClsD W c u) (hk : IsO X.K W yes no u) (h0 : ClA X W Wx (.builtin "isinstance") r0) : ClA X W Wx (.builtin "isinstance") (raIsiO c yes no r0) := by
  intro pins s σ H th rho eta xs us ds Qa EX I S xo rx Rd hq
  unfold raIsiO at hq
  split at hq
  · rename_i d c'
    split at hq
    · rename_i k es hd
      obtain ⟨ec, hq⟩ := hq
      subst ec
      obtain ⟨x, y, rfl, Rx, Ry⟩ := Rd.two
      obtain ⟨u1, u2, rfl, r1, r2⟩ := vals2 rx
      have e2 := clsD_val hc Ry r2
      subst e2
      obtain ⟨a, dx, vs, rfl, ea, hl, Rs⟩ := insD_at S.hp Rx hd
      obtain rfl : u1 = Value.ref a := r1
      obtain ⟨od, J, hlk⟩ := ins_inst I ea
      have fin : ∀ b, IsK X.K (W.cl k) u2 b → Qa (.bl b) eta → wpAny (model X.prog X.w) X.A (call (.builtin "isinstance") [.ref a, u2]) (EPa X W pins σ th H rho Qa) X.xe s := fun b ik q =>
        PySem.W.kia_one (OwX.kitx_slt ik.ic (ik.cl.get _) ik.si.ca ik.si.cn ik.si.ct ik.si.cm) I.kIn J ik.ans (fun z => nomatch z) fun tk => EPa.here (v := .bl b) (d := .bl b) (I.tok tk) S rfl rfl q
      split at hq
      · rename_i hy
        exact fin true ((hk k).1 hy) hq
      · split at hq
        · rename_i hn
          exact fin false ((hk k).2 hn) hq
        · exact hq.elim
    · exact h0 pins s σ H th rho eta xs us _ Qa EX I S xo rx Rd hq
  · exact hq.elim
/-! ### {k: v} -/
def aDisp1 (tk tv : TEa) : TEa := fun rho eta Q EX => tk rho eta (fun kd eta1 => tv rho eta1 (fun y eta2 => match keyD kd with
  | some k => y.im = true ∧ Q (.fd [k] [y]) eta2
  | none => False) EX) EX
theorem ea_disp1 {k v : Expr} {tk tv : TEa} {pos : Pos} (hk : EA X W Wx k tk) (hv : EA X W Wx v tv) : EA X W Wx (.Dict [some k] [v] pos) (aDisp1 tk tv) :=
  .of (pe_fz (pe_disp (pps_cons hk.pe hv.pe pps_nil) rfl rfl (by simp) (by simp))) fun σ H th rho eta Qa EX S x hq => by
    intro p hp
    have g0 : Grow th H th (upd H p (.dK [])) := Grow.new hp
    have S0 := S.mono g0 (S.hp.new hp)
    have hpt : p ∉ th := fun z => by obtain ⟨o, e⟩ := S.hp.there p z; rw [hp] at e; cases e
    refine ⟨th, rho, eta, _, EX, S0, x.mono g0 S0.hp, hq, fun th1 H1 v1 d1 eta1 g1 S1 R1 q1 => ?_⟩
    refine ⟨th1, rho, eta1, _, EX, S1, (x.mono g0 S0.hp).mono g1 S1.hp, q1, fun th2 H2 v2 d2 eta2 g2 S2 R2 q2 => ?_⟩
    have e2 : H2 p = some (.dK []) := g2.keep p _ (g1.keep p _ upd_same (.inl hpt)) (.inl (g1.notin hpt upd_same))
    have hp2 : p ∉ th2 := g2.notin (g1.notin hpt upd_same) (g1.keep p _ upd_same (.inl hpt))
    split at q2
    · rename_i ky hky
      obtain ⟨yi, q2⟩ := q2
      have ek := keyD_at (R1.mono g2) hky
      refine ⟨e2, [(ky, v2)], by rw [ek]; rfl, by simp, p, _, rfl, upd_same, trivial, fun od => ?_⟩
      rw [upd_upd]
      obtain ⟨pf, S3⟩ := S2.hp.aside (o' := .frz od (.dK (mergeK [] [(ky, v2)]))) hp2 e2 (fun z => z)
      have gg := (g0.trans' S0.hp (g1.trans' S1.hp g2)).aside (o := .frz od (.dK (mergeK [] [(ky, v2)]))) hp
      refine ⟨th2, .fd [ky] [d2], eta2, ?_, ?_, ⟨p, od, [v2], rfl, upd_same, rfl, v2, [], rfl, Rep.mono pf _ _ (R2.im yi), rfl⟩, q2⟩
      · exact gg
      · exact S.mono gg S3
    · exact q2.elim
/-! ### defaults, static methods -/
def optS (S : SpA) (n : Nat) (dfl : D) : SpA := fun ds eta Q E => if ds.length = n then S (ds ++ [dfl]) eta Q E else S ds eta Q E
theorem fnR_opt {P : Program} {w : World} {K : PySem.W.Frag} {mg : Str → Option Value} {base : Heap} {k n : Nat} {f : Addr} {fd : FuncData} {ps : List Str} {S : SpA} {dfl : D} {vd : V} {dv : List Value} (F : FnOk P w K mg base (L2.CX P w) k f fd ps (spOf W S)) (b : Binds K fd ps []) (b1 : Binds K fd ps dv) (hd : Vals [vd] dv) (hr : ∀ H, Rep W H dfl vd) (hn : ps.length = n + 1) :
    FnR P w K mg base (L2.CX P w) k f (spOf W (optS S n dfl)) := by
  intro A outer s H us vs Q E hr' e0 r hs
  obtain ⟨th, ds, eta, Qa, EXa, Sh, R, hS, kq, ke⟩ := hs
  unfold optS at hS
  split at hS
  · refine (F.raw b1 hd) A outer s H us vs Q E hr' e0 r ⟨th, ds ++ [dfl], eta, Qa, EXa, Sh, RepTs.snoc (RepT.of (hr H)) R, hS, kq, ke⟩
  · exact (F.raw b .nil) A outer s H us vs Q E hr' e0 r (by show spOf W S (vs ++ []) H Q E; rw [List.append_nil]; exact ⟨th, ds, eta, Qa, EXa, Sh, R, hS, kq, ke⟩)
/-- C.m is a static method: its def at g -/
structure SMet (K : PySem.W.Frag) (C : Addr) (m : Str) (mc : Value) (p g : Addr) : Prop where
  rd : ClX.CRead K C mc
  at_ : PySem.W.findCls K (.ref C) mc m = some (.get (.builtin "staticmethod.__get__") (.ref p) .none (.ref C))
  rc : ∃ rest, PySem.W.recIn K p "staticmethod" = some (.ref g :: rest)
  kp : PySem.W.keepIn K (.ref g) = true
def aStat (c : Nat) (S : SpA) (ta : TEa) (t : TAa) : TEa := fun rho eta Q EX => ta rho eta (fun d eta1 => d = .cls c ∧ t rho eta1 (fun ds eta2 => raCall S ds rho eta2 Q EX) EX) EX
theorem ea_stat {c j : Nat} {m : Str} {mc : Value} {p g : Addr} {S : SpA} {o e : Expr} {es : List Expr} {ta : TEa} {t : TAa} {apos pos : Pos} {pl : Sem Bool} (T : SMet X.K (W.cl c) m mc p g) (F : FnR X.prog X.w X.K X.mg X.base (L2.CX X.prog X.w) j g (spOf W S)) (he : EA X W Wx o ta) (hr : Room j X.A) (tk : Takes X Wx) (ha : AA X W Wx (e :: es) t)
    (hst : starEach (e :: es) X.env = (false, eval e X.env) :: starEach es X.env := by rfl) (hpl : (backTo pos (starEach es X.env)).any (·.1) = false := by rfl)
    (ht : eval (.Call (.Attribute o m apos) (e :: es) [] pos) X.env = (eval o X.env >>= fun ov => standAt apos.atName >>= fun _ => holding [ov] (getMethod ov m pl) >>= fun q =>
      callWith pos q.1 q.2 (backTo pos (starEach (e :: es) X.env)) (backToKw pos (keywordEach [] X.env))) := by rfl) : EA X W Wx (.Call (.Attribute o m apos) (e :: es) [] pos) (aStat c S ta t) := by
  refine ⟨fun pins s σ H th rho eta Qa EX I Sr xo h => ?_⟩
  refine PySem.W.methodCall_KW (pl := pl) (thn (he.run pins s σ H th rho eta _ EX I Sr xo h) fun u s1 ⟨x, th1, H1, d, eta1, I1, r1, g1, S1, R1, q1⟩ => ?_) ht
  obtain ⟨rfl, q1⟩ := q1
  have e1 : x = .ref (W.cl c) := R1
  subst e1
  obtain rfl : u = Value.ref (W.cl c) := r1
  obtain ⟨rest, hp⟩ := T.rc
  refine PySem.W.method_cls I1.kIn T.rd.ga (PySem.W.cls_bind I1.kIn T.rd.rd T.at_ (wpAny_call (PySem.W.sm_get (s := { s1 with toks := s1.toks + 1 }) I1.kIn hp (PySem.W.handed_on rfl ?_))))
  have I2 : Inv X pins σ H1 { s1 with toks := s1.toks + 1 } := I1.tok _
  refine PySem.W.callWith_K (first := []) (h₀ := X.base) I2.ok.mod.kin T.kp (thn (ha.run pos pins _ σ H1 th1 rho eta1 _ EX I2 S1 (xo.mono g1 S1.hp) q1) fun us s2 ⟨ws, th2, H2, ds, eta2, I3, r2, g2, S2, R2, q2⟩ => ⟨I3.kIn, ?_⟩) hst hpl
  have g12 := g1.trans' S1.hp g2
  refine thn (cl_fn F hr tk pins s2 σ H2 th2 rho eta2 ws us ds Qa EX I3 S2 (xo.mono g12 S2.hp) r2 R2 q2) fun w s3 ⟨z, th3, H3, d3, eta3, I4, r3, g3, S3, R3, q3⟩ => ?_
  exact ⟨z, th3, H3, d3, eta3, I4, r3, g12.trans' S2.hp g3, S3, R3, q3⟩
end
end RF
set_option maxRecDepth 100000
set_option maxHeartbeats 4000000
namespace RF
open PySem PySem.Spec PyProof.Rows L2
/-! ### further functions of the text: methods with __class__ cells, static methods -/
abbrev FnV : Type := Option (Str × Str × Arguments × FuncBody × Scope × Addr × List Str × Addr)
def fnV (K : PySem.W.Frag) (a : Addr) : FnV := match K.lookup a with
  | some ⟨_, _, .func fd, _⟩ => some (fd.name, fd.qualname, fd.params, fd.body, fd.scope, fd.globals, fd.closure.map (·.1), fd.builtins)
  | _ => none
/-- its address, its text, the names of its cells -/
structure XD where
  adr : PySem.W.Frag → Addr
  name : Str
  qual : Str
  params : Arguments
  body : List Stmt
  scope : Scope
  cl : List Str
def XD.val (d : XD) : FnV := some (d.name, d.qual, d.params, .stmts d.body, d.scope, mainGlobals, d.cl, builtinsNs)
/-- the def of a static method -/
def smA (c : Str) (m : Str) (K : PySem.W.Frag) : Addr := match PySem.W.recIn K (He.ma K (He.ga K c) m) "staticmethod" with
  | some (.ref g :: _) => g
  | _ => 0
abbrev AlG : Type := AlF × List FnV
/-- .. the interpreter's own statics with them -/
def asX (g : Addr → Option Obj) (n : Nat) : List Addr := He.asD g n ++ [cStatics]
def obsX (n : Nat) (fn : List He.DefD) (xs : List XD) (ex : PySem.W.Frag → Bool) (g : Addr → Option Obj) : AlG := ((He.obsD [] fn (frL g (asX g n)), ex (frL g (asX g n))), xs.map fun d => fnV (frL g (asX g n)) (d.adr (frL g (asX g n))))
def valX (fn : List He.DefD) (xs : List XD) : AlG := (valF fn, xs.map XD.val)
structure SaysX (fn : List He.DefD) (xs : List XD) (ex : PySem.W.Frag → Bool) (K : PySem.W.Frag) : Prop where
  f : SaysF fn ex K
  x : (xs.map fun d => fnV K (d.adr K)) = xs.map XD.val
def hookX (n : Nat) (fn : List He.DefD) (xs : List XD) (ex : PySem.W.Frag → Bool) : PySem.W.Hook where
  α := AlG
  obs := fun s => obsX n fn xs ex s.heap.get?
  val := fun _ => valX fn xs
  says := fun _ h => ∃ K : PySem.W.Frag, K.In h ∧ SaysX fn xs ex K
  of := fun _ _ e => ⟨_, frL_in, ⟨congrArg (fun z : AlG => z.1.1) e, congrArg (fun z : AlG => z.1.2) e, frL_no⟩, congrArg (fun z : AlG => z.2) e⟩
  keeps := fun _ _ _ ⟨K, hK, c⟩ k => ⟨K, PySem.W.Frag.In.keeps hK k, c⟩
theorem obsX_eq {n : Nat} {fn : List He.DefD} {xs : List XD} {ex : PySem.W.Frag → Bool} {g : Addr → Option Obj} {s : Shared} (h : ∀ a, g a = s.heap.get? a) : obsX n fn xs ex g = (hookX n fn xs ex).obs s := by
  have e : g = s.heap.get? := funext h
  rw [e] <;> rfl
theorem SaysX.at_ {fn : List He.DefD} {xs : List XD} {ex : PySem.W.Frag → Bool} {K : PySem.W.Frag} (c : SaysX fn xs ex K) (i : Nat) {d : XD} (h : xs[i]? = some d := by rfl) : fnV K (d.adr K) = d.val := by
  have e2 : (xs.map fun d => fnV K (d.adr K))[i]? = (xs.map XD.val)[i]? := by rw [c.x]
  rw [List.getElem?_map, List.getElem?_map, h] at e2
  exact Option.some.inj e2
/-- the rest of what a static method's def must have -/
def stB (K : PySem.W.Frag) (a : Addr) (qual : Str) (dfl : List He.Dv) : Bool := PySem.W.keepIn K (.ref a) && (match K.lookup a with
  | some ⟨_, _, .func fd, _⟩ => PySem.W.codeIn K fd.code qual && He.dflB K fd.defaults (dfl.map (He.Dv.v K))
  | _ => false)
theorem st_funD {K : PySem.W.Frag} {d : XD} {dfl : List He.Dv} (e : fnV K (d.adr K) = d.val) (hc : d.cl = []) (c : stB K (d.adr K) d.qual dfl = true) : ∃ fd, FunD K d.name d.qual d.params d.body d.scope (dfl.map (He.Dv.v K)) [] (d.adr K) fd := by
  obtain ⟨kp, c2⟩ := Bool.and_eq_true_iff.mp c
  unfold fnV at e
  cases q : K.lookup (d.adr K) with
  | none => rw [q] at c2; cases c2
  | some o =>
    obtain ⟨oc, od, dt, osl⟩ := o
    rw [q] at c2 e
    cases dt with
    | func fd =>
      obtain ⟨n1, n2, n3, n4, n5, n6, n7, n8, n9, n10, n11, n12, n13, n14, n15⟩ := fd
      have e2 : (some (n1, n2, n3, n4, n5, n6, n7.map (·.1), n15) : FnV) = some (d.name, d.qual, d.params, .stmts d.body, d.scope, mainGlobals, d.cl, builtinsNs) := e
      simp only [Option.some.injEq, Prod.mk.injEq] at e2
      obtain ⟨h1, h2, h3, h4, h5, h6, h7, h8⟩ := e2
      rw [hc] at h7
      have h7' : n7 = [] := List.map_eq_nil_iff.mp h7
      subst h1 h2 h3 h4 h5 h6 h7' h8
      have c3 : (PySem.W.codeIn K n13 d.qual && He.dflB K n8 (dfl.map (He.Dv.v K))) = true := c2
      obtain ⟨k1, k2⟩ := Bool.and_eq_true_iff.mp c3
      exact ⟨_, ⟨oc, od, n8, n9, n10, n11, n12, n13, n14, osl, rfl, q, k1, He.dflB_ok k2, .inl rfl⟩, kp⟩
    | _ => cases c2
/-- .. of a method with a __class__ cell -/
def supB (file : Str) (K : PySem.W.Frag) (a D : Addr) (qual : Str) : Bool := match K.lookup a with
  | some ⟨_, _, .func fd, _⟩ => (match fd.code, fd.closure with
    | .ref cda, [(_, cc)] => PySem.W.codeIn K (.ref cda) qual && ((match K.lookup cc with
      | some ⟨_, _, .cell (some (.ref D')), _⟩ => D' == D
      | _ => false) && ((match K.lookup cda with
        | some ⟨_, _, .fields vs, _⟩ => (match (vs[2]? : Option Value) with
          | some (Value.str fl _) => file == fl
          | _ => false)
        | _ => false) && ((PySem.W.clsIn K D).isSome && (match fd.defaults, fd.kwdefaults with
        | .none, .none => true
        | _, _ => false))))
    | _, _ => false)
  | _ => false
theorem sup_of {P : Program} {K : PySem.W.Frag} {d : XD} {D : Addr} (e : fnV K (d.adr K) = d.val) (hc : d.cl = [("__class__" : Str)]) (c : supB P.main.file K (d.adr K) D d.qual = true) (top : (P.main.scope.names.lookup ("super" : Str)).isSome = false) :
    ∃ fd cc cda, SupM P K D (d.adr K) cc cda d.name d.qual d.params d.body d.scope fd ∧ fd.defaults = .none ∧ fd.kwdefaults = .none := by
  unfold fnV at e
  unfold supB at c
  cases q : K.lookup (d.adr K) with
  | none => rw [q] at c; cases c
  | some o =>
    obtain ⟨oc, od, dt, osl⟩ := o
    rw [q] at c e
    cases dt with
    | func fd =>
      obtain ⟨n1, n2, n3, n4, n5, n6, n7, n8, n9, n10, n11, n12, n13, n14, n15⟩ := fd
      have e2 : (some (n1, n2, n3, n4, n5, n6, n7.map (·.1), n15) : FnV) = some (d.name, d.qual, d.params, .stmts d.body, d.scope, mainGlobals, d.cl, builtinsNs) := e
      simp only [Option.some.injEq, Prod.mk.injEq] at e2
      obtain ⟨h1, h2, h3, h4, h5, h6, h7, h8⟩ := e2
      rw [hc] at h7
      subst h1 h2 h3 h4 h5 h6 h8
      dsimp only at c
      split at c
      · rename_i cda nm cc
        have hn : nm = ("__class__" : Str) := by simpa using h7
        subst hn
        obtain ⟨c1, c2⟩ := Bool.and_eq_true_iff.mp c
        obtain ⟨c3, c4⟩ := Bool.and_eq_true_iff.mp c2
        obtain ⟨c5, c6'⟩ := Bool.and_eq_true_iff.mp c4
        obtain ⟨c6, c7⟩ := Bool.and_eq_true_iff.mp c6'
        have c8 : n8 = .none ∧ n9 = .none := by
          split at c7
          · exact ⟨rfl, rfl⟩
          · cases c7
        refine ⟨_, cc, cda, ⟨⟨oc, od, n12, n8, n9, n10, n11, n14, osl, rfl, q⟩, c1, ?_, ?_, Option.isSome_iff_exists.mp c6, top⟩, c8.1, c8.2⟩
        · split at c3
          · rename_i x1 x2 D' x3 hl
            exact ⟨x1, x2, x3, by rw [hl, beq_iff_eq.mp c3]⟩
          · cases c3
        · split at c5
          · rename_i x1 x2 vs x3 hl
            split at c5
            · rename_i fl tf hv
              exact ⟨_, vs, fl, tf, hl, rfl, hv, c5⟩
            · cases c5
          · cases c5
      · cases c
    | _ => cases c
/-! ### Bool checks of classes -/
def insB (K : PySem.W.Frag) (c : Nat) : Bool := let C := (WK K).cl c
  PySem.W.plainGet K C Str.empty && (PySem.W.hasDictIn K C && (PySem.W.plainOver K C && (decide (PySem.W.findIn K (.ref C) "__setattr__" = some (some (.builtin "object.__setattr__"))) && ((fldNames c).all (fun f => decide (PySem.W.findIn K (.ref C) f = some none)) && decide ((fldNames c).length < 1000)))))
theorem insB_ok {K : PySem.W.Frag} {c : Nat} (h : insB K c = true) : InsC K (WK K) c := by
  unfold insB at h
  simp only [Bool.and_eq_true, decide_eq_true_eq, List.all_eq_true] at h
  exact ⟨⟨h.1, h.2.1, h.2.2.1, h.2.2.2.1⟩, h.2.2.2.2.1, rfl, h.2.2.2.2.2⟩
def ownSB (K : PySem.W.Frag) (C : Addr) (m : Str) : Bool := PySem.W.noSeq K C && PySem.W.fnIn K (adrOf (PySem.W.findIn K (.ref C) m))
theorem ownSB_ok {K : PySem.W.Frag} {C : Addr} {m : Str} (h : ownSB K C m = true) : OwnS K C m := by
  unfold ownSB at h
  simp only [Bool.and_eq_true] at h
  exact ⟨h.1, fun g e => by have := h.2; rw [adrOf_eq e] at this; exact this⟩
def empB (K : PySem.W.Frag) : Bool := match K.lookup (empK K) with
  | some ⟨.type c, _, .seq its _, _⟩ => decide (c = "tuple") && decide (its.toList = [])
  | _ => false
theorem empB_ok {K : PySem.W.Frag} (h : empB K = true) : EmpT K (WK K) := by
  intro H
  unfold empB at h
  split at h
  · rename_i c od its n sl q
    simp only [Bool.and_eq_true, decide_eq_true_eq] at h
    obtain ⟨h1, h2⟩ := h
    refine .inr ⟨_, its, n, q, by rw [h1], rfl, ?_, by rw [h2]; exact .nil⟩
    have : its.size = 0 := by rw [← Array.length_toList, h2]; rfl
    rw [this]; exact Nat.zero_le _
  · cases h
def iskB (K : PySem.W.Frag) (k : Nat) (u : Value) (b : Bool) : Bool := insB K k && (PySem.W.isClsIn K ((WK K).cl k) && (sisiB K ((WK K).cl k) && decide (PySem.W.kitOne K (.ref ((WK K).cl k)) u = some b)))
def isoB (K : PySem.W.Frag) (yes no : List Nat) (u : Value) : Bool := yes.all (fun k => iskB K k u true) && no.all (fun k => iskB K k u false)
theorem iskB_ok {K : PySem.W.Frag} {k : Nat} {u : Value} {b : Bool} (h : iskB K k u b = true) : IsK K ((WK K).cl k) u b := by
  unfold iskB at h
  simp only [Bool.and_eq_true, decide_eq_true_eq] at h
  exact ⟨(insB_ok h.1).cl, h.2.1, sisiB_ok h.2.2.1, h.2.2.2⟩
theorem isoB_ok {K : PySem.W.Frag} {yes no : List Nat} {u : Value} (h : isoB K yes no u = true) : IsO K (WK K) yes no u := by
  unfold isoB at h
  simp only [Bool.and_eq_true, List.all_eq_true] at h
  exact fun k => ⟨fun e => iskB_ok (h.1 k (by simpa using e)), fun e => iskB_ok (h.2 k (by simpa using e))⟩
def smetB (K : PySem.W.Frag) (c : Str) (m : Str) : Bool := let C := He.ga K c
  let p := He.ma K C m
  PySem.W.readsIn K C (.type "type") && (decide (PySem.W.specialIn K (.ref C) "__getattribute__" = some (some (.builtin "type.__getattribute__"))) && ((match PySem.W.findCls K (.ref C) (.type "type") m with
    | some (.get (.builtin b) (.ref p') .none (.ref C')) => decide (b = "staticmethod.__get__") && (p' == p && C' == C)
    | _ => false) && ((match PySem.W.recIn K p "staticmethod" with
    | some (.ref _ :: _) => true
    | _ => false) && PySem.W.keepIn K (.ref (smA c m K)))))
theorem smetB_ok {K : PySem.W.Frag} {c m : Str} (h : smetB K c m = true) : SMet K (He.ga K c) m (.type "type") (He.ma K (He.ga K c) m) (smA c m K) := by
  unfold smetB at h
  simp only [Bool.and_eq_true, decide_eq_true_eq] at h
  obtain ⟨h1, h2, h3, h4, h5⟩ := h
  refine ⟨⟨h1, h2⟩, ?_, ?_, h5⟩
  · split at h3
    · rename_i b p' C' e
      simp only [Bool.and_eq_true, decide_eq_true_eq, beq_iff_eq] at h3
      obtain ⟨rfl, rfl, rfl⟩ := h3
      exact e
    · cases h3
  · unfold smA
    split at h4
    · rename_i g rest e
      exact ⟨rest, by rw [e]⟩
    · cases h4
def oexB (K : PySem.W.Frag) (C : Addr) : Bool := (match K.lookup C with
  | some ⟨.type "type", _, .cls cd, sl⟩ => (match cd.mro, sl.toList with
    | .ref C' :: bm, [_, _, _, _, some (.builtin n), _] => C' == C && (n == "ValueError.__new__" && (!cd.hasDel && (cd.hasDict && PySem.HandSPX.refsVE bm)))
    | _, _ => false)
  | _ => false) && (decide (PySem.W.findIn K (.ref C) "__setattr__" = some (some (.builtin "object.__setattr__"))) && (decide (PySem.W.subIn K (.ref C) (.type "BaseException") = some true) && (decide (PySem.W.typeIn K (.ref C) = some (.type "type")) && PySem.W.keepIn K (.ref C))))
theorem oexB_ok {K : PySem.W.Frag} {C : Addr} (h : oexB K C = true) : OexC K C := by
  unfold oexB at h
  simp only [Bool.and_eq_true, decide_eq_true_eq] at h
  obtain ⟨q, h2, h3, h4, h5⟩ := h
  refine ⟨?_, h2, h3, h4, h5⟩
  split at q
  · rename_i dd cd sl ho
    split at q
    · rename_i C' bm k0 k1 k2 k3 n k5 hm hs
      simp only [Bool.and_eq_true, beq_iff_eq, Bool.not_eq_true'] at q
      obtain ⟨rfl, rfl, hdel, hdict, hr⟩ := q
      obtain ⟨nm, bs, mro, ns, qn, hd, sn, sub, ab, col, del⟩ := cd
      dsimp only at hm hdel hdict
      subst hm hdel hdict
      have hsl : sl = #[k0, k1, k2, k3, some (.builtin "ValueError.__new__"), k5] := by
        obtain ⟨l⟩ := sl
        simp only at hs
        rw [hs]
      subst hsl
      exact ⟨nm, qn, ns, bs, bm, sn, sub, ab, col, dd, k0, k1, k2, k3, k5, ho, hr⟩
    · cases q
  · cases q
def xifB (K : PySem.W.Frag) (c d : Nat) : Bool := let C := (WK K).cl c
  let D := (WK K).cl d
  oexB K C && (decide (PySem.W.mroIn K C (.ref D) = some true) && (decide (PySem.W.ks_superIn K C D "__init__" = some (some (.builtin "ValueError.__init__"))) && (decide (PySem.W.subIn K (.ref C) (.type "ValueError") = some true) && (decide (PySem.W.nsIn K cStatics "thirdparty.any" = some none) && (decide (PySem.W.findIn K (.ref C) "__init__" = some (some (.ref (adrOf (PySem.W.findIn K (.ref D) "__init__"))))) && (fldNames c).all (fun f => decide (PySem.W.findIn K (.ref C) f = some none)))))))
theorem xifB_ok {K : PySem.W.Frag} {c d : Nat} (h : xifB K c d = true) : XIf K (WK K) c d := by
  unfold xifB at h
  simp only [Bool.and_eq_true, decide_eq_true_eq, List.all_eq_true] at h
  obtain ⟨h1, h2, h3, h4, h5, h6, h7⟩ := h
  exact ⟨⟨oexB_ok h1, h2, h3, h4, h5⟩, h6, h7, rfl⟩
def xfsB (K : PySem.W.Frag) (f : Str) (cs : List Nat) : Bool := cs.all fun c => xfB K ((WK K).cl c) && decide (PySem.W.findIn K (.ref ((WK K).cl c)) f = some none)
theorem xfsB_ok {K : PySem.W.Frag} {f : Str} {cs : List Nat} (h : xfsB K f cs = true) : XFs K (WK K) f cs := by
  unfold xfsB at h
  simp only [List.all_eq_true, Bool.and_eq_true, decide_eq_true_eq] at h
  exact fun c hc => ⟨xfB_ok (h c (by simpa using hc)).1, (h c (by simpa using hc)).2, rfl⟩
theorem insT {X : Cx} {W : Wd} {c : Nat} (h : InsC X.K W c) : ∀ c', [c].contains c' = true → InsC X.K W c' := fun c' e => by
  have : c' = c := by simpa using e
  rw [this]; exact h
theorem ownT0 {K : PySem.W.Frag} {W : Wd} {m : Str} : ∀ c S, (([] : Tbl)).lookup c = some S → OwnS K (W.cl c) m := fun c S h => by cases h
theorem ownT1 {K : PySem.W.Frag} {W : Wd} {m : Str} {k : Nat} {S0 : SpA} (h : OwnS K (W.cl k) m) : ∀ c S, ([(k, S0)] : Tbl).lookup c = some S → OwnS K (W.cl c) m := fun c S e => by
  rw [List.lookup_cons] at e
  by_cases q : c = k
  · subst q; exact h
  · have q2 : (c == k) = false := by simpa using q
    rw [q2] at e; cases e
theorem insT2 {K : PySem.W.Frag} {W : Wd} {cs : List Nat} (h : ∀ c ∈ cs, InsC K W c) : ∀ c', cs.contains c' = true → InsC K W c' := fun c' e => h c' (by simpa using e)
end RF
set_option maxRecDepth 100000
set_option maxHeartbeats 4000000
namespace RF
open PySem PySem.Spec PyProof.Rows L2
section
variable {Dn : EndsA} {rho : Rho} {eta : List MO} {EX : EXA} {Q : QA} {QL : List D → List MO → Prop} {QB : Bool → List MO → Prop} {t u : TSa} {ta tb : TEa} {tt uu : TTa} {tl : TAa} {d e : D}
/-! fields -/
theorem i_af {f : Str} {cs : List Nat} (h : ta rho eta (fldOQ f cs Q) EX) : aFld f cs ta rho eta Q EX := h
theorem i_afQ {f : Str} {cs : List Nat} {c j : Nat} {ds : List D} {x : D} (hd : insD eta d = some (c, ds)) (hc : cs.contains c = true) (hj : fldIx f c = some j) (hx : ds[j]? = some x) (h : Q x eta) : fldOQ f cs Q d eta := by
  unfold fldOQ; simp only [hd, hj, hx]; exact ⟨hc, h⟩
def fsQ (f : Str) (cs : List Nat) (y : D) (Dn : EndsA) (rho : Rho) : QA := fun d eta2 => match d with
  | .ref n => (match eta2[n]? with
    | some (.ins c ds) => cs.contains c = true ∧ (match fldIx f c with
      | some j => j ≤ ds.length ∧ Dn.nx rho (eta2.set n (.ins c (if j < ds.length then ds.set j y else ds ++ [y])))
      | none => False)
    | _ => False)
  | _ => False
theorem i_fset {f : Str} {cs : List Nat} {to te : TEa} (h : te rho eta (fun y eta1 => to rho eta1 (fsQ f cs y Dn rho) EX) EX) : sFldA f cs to te Dn rho eta EX := h
theorem i_fsNew {f : Str} {cs : List Nat} {y : D} {n c : Nat} {ds : List D} (hn : eta[n]? = some (.ins c ds)) (hc : cs.contains c = true) (hj : fldIx f c = some ds.length) (h : Dn.nx rho (eta.set n (.ins c (ds ++ [y])))) : fsQ f cs y Dn rho (.ref n) eta := by
  unfold fsQ; simp only [hn, hj]
  exact ⟨hc, Nat.le_refl _, by rw [if_neg (Nat.lt_irrefl _)]; exact h⟩
theorem i_fsOld {f : Str} {cs : List Nat} {y : D} {n c j : Nat} {ds : List D} (hn : eta[n]? = some (.ins c ds)) (hc : cs.contains c = true) (hj : fldIx f c = some j) (hl : Nat.blt j ds.length = true) (h : Dn.nx rho (eta.set n (.ins c (ds.set j y)))) : fsQ f cs y Dn rho (.ref n) eta := by
  have hl2 : j < ds.length := Nat.le_of_ble_eq_true hl
  unfold fsQ; simp only [hn, hj]
  exact ⟨hc, Nat.le_of_lt hl2, by rw [if_pos hl2]; exact h⟩
/-! methods -/
theorem i_mth {tbl : Tbl} {t : TAa} (h : ta rho eta (mthQ tbl t rho Q EX) EX) : aMth tbl ta t rho eta Q EX := h
theorem i_mthQ {tbl : Tbl} {t : TAa} {S : SpA} (hS : tblD tbl eta d = some S) (h : t rho eta (fun ds eta2 => raCall S (d :: ds) rho eta2 Q EX) EX) : mthQ tbl t rho Q EX d eta := by
  unfold mthQ; rw [hS]; exact h
theorem i_stat {c : Nat} {S : SpA} {t : TAa} (h : ta rho eta (fun d eta1 => d = .cls c ∧ t rho eta1 (fun ds eta2 => raCall S ds rho eta2 Q EX) EX) EX) : aStat c S ta t rho eta Q EX := h
theorem i_statQ {c : Nat} {A : Prop} (a : A) : (D.cls c = D.cls c) ∧ A := ⟨rfl, a⟩
/-! new instances, freezing -/
def newQ (n : Nat) (Q : QA) : QA := fun d eta1 => d = .non ∧ Q (.ref n) eta1
theorem i_new {c n : Nat} {S : SpA} {ds : List D} {eta' : List MO} (hn : eta.length = n) (he : eta ++ [.ins c []] = eta') (h : raCall S (.ref n :: ds) rho eta' (newQ n Q) EX) : raNew c S ds rho eta Q EX := by
  subst hn he; exact h
theorem i_newQ {n : Nat} (h : Q (.ref n) eta) : newQ n Q .non eta := ⟨rfl, h⟩
theorem i_frzI (h : ta rho eta (frzIQ Q) EX) : aFrzI ta rho eta Q EX := h
theorem i_frzIQ {n c : Nat} {ds : List D} (hn : eta[n]? = some (.ins c ds)) (h1 : ds.all D.im = true) (h2 : ds.length = (fldNames c).length) (h : Q (.obj c ds) (eta.set n .gone)) : frzIQ Q (.ref n) eta := by
  unfold frzIQ; simp only [hn]; exact ⟨h1, h2, h⟩
theorem i_frz (h : ta rho eta (frzQ Q) EX) : aFrz ta rho eta Q EX := h
theorem i_frzL {n : Nat} {ds : List D} (hn : eta[n]? = some (.lst ds)) (h : Q (.fl ds) (eta.set n .gone)) : frzQ Q (.ref n) eta := by
  unfold frzQ; simp only [hn]; exact h
theorem i_frzD {n : Nat} {ks : List Key} {ds : List D} (hn : eta[n]? = some (.dct ks ds)) (h : Q (.fd ks ds) (eta.set n .gone)) : frzQ Q (.ref n) eta := by
  unfold frzQ; simp only [hn]; exact h
/-! subscripts -/
theorem i_ixO {tbl : Tbl} {S : SpA} (hS : tblD tbl eta d = some S) (h : raCall S [d, e] rho eta Q EX) : raIxU tbl d e rho eta Q EX := by
  unfold raIxU; rw [hS]; exact h
theorem i_ixN {tbl : Tbl} (hS : tblD tbl eta d = none) (h : raIx1 d e rho eta Q EX) : raIxU tbl d e rho eta Q EX := by
  unfold raIxU; rw [hS]; exact h
theorem i_ix1D {ks : List Key} {ds : List D} {k : Key} {x : D} (h1 : dctD eta d = some (ks, ds)) (h2 : keyD e = some k) (h3 : kget ks ds k = some x) (h : Q x eta) : raIx1 d e rho eta Q EX := by
  unfold raIx1; simp only [h1, h2, h3]; exact h
theorem i_ix1F {ds : List D} (h : raIxS (.fl ds) e rho eta Q EX) : raIx1 (.fl ds) e rho eta Q EX := h
theorem i_ix1T {ds : List D} (h : raIxS (.tup ds) e rho eta Q EX) : raIx1 (.tup ds) e rho eta Q EX := h
theorem i_ix1R {n : Nat} {ds : List D} (hn : eta[n]? = some (.lst ds)) (h : raIxS (.ref n) e rho eta Q EX) : raIx1 (.ref n) e rho eta Q EX := by
  unfold raIx1 dctD; simp only [hn]; exact h
theorem i_ix1S {x : Str} {i : Int} {c : Nat} (hx : L2.atI x.cps.toList i = some c) (hl : x.length ≤ sizeLine) (h : Q (.str ⟨#[c]⟩) eta) : raIx1 (.str x) (.int i) rho eta Q EX := by
  unfold raIx1 dctD; simp only [hx]; exact ⟨hl, h⟩
theorem i_ssO {tbl : Tbl} {S : SpA} {R : List MO → Prop} {f : D} (hS : tblD tbl eta d = some S) (h : raCall S [d, e, f] rho eta (fun _ eta1 => R eta1) EX) : raSetU tbl d e f rho eta R EX := by
  unfold raSetU; rw [hS]; exact h
theorem i_ssD {tbl : Tbl} {R : List MO → Prop} {f : D} {n : Nat} {ks : List Key} {ds : List D} {k : Key} (hS : tblD tbl eta (.ref n) = none) (hn : eta[n]? = some (.dct ks ds)) (hk : keyD e = some k) (hf : f.im = true) (hl : ks.length < 100000) (h : R (eta.set n (kput ks ds k f))) : raSetU tbl (.ref n) e f rho eta R EX := by
  unfold raSetU; rw [hS]; simp only [hn, hk]; exact ⟨hf, hl, h⟩
theorem i_ssL {tbl : Tbl} {R : List MO → Prop} {f : D} {n : Nat} {ds : List D} (hS : tblD tbl eta (.ref n) = none) (hn : eta[n]? = some (.lst ds)) (h : raSetL (.ref n) e f rho eta R EX) : raSetU tbl (.ref n) e f rho eta R EX := by
  unfold raSetU; rw [hS]; simp only [hn]; exact h
/-! in, len, list -/
def inOQ (neg : Bool) (Q : QA) : QA := fun r eta1 => match r with
  | .bl b => Q (.bl (if neg then !b else b)) eta1
  | _ => False
theorem i_inO {neg : Bool} {tbl : Tbl} {S : SpA} (hS : tblD tbl eta d = some S) (h : raCall S [d, e] rho eta (inOQ neg Q) EX) : raInU neg tbl e d rho eta Q EX := by
  unfold raInU; rw [hS]; exact h
theorem i_inOQ {neg b : Bool} (h : Q (.bl (if neg then !b else b)) eta) : inOQ neg Q (.bl b) eta := h
theorem i_inD {neg : Bool} {tbl : Tbl} {ks : List Key} {ds : List D} {k : Key} (hS : tblD tbl eta d = none) (h1 : dctD eta d = some (ks, ds)) (h2 : keyD e = some k) (h : Q (.bl (if neg then !(kget ks ds k).isSome else (kget ks ds k).isSome)) eta) : raInU neg tbl e d rho eta Q EX := by
  unfold raInU; rw [hS]; simp only [h1, h2]; exact h
theorem i_inS {neg : Bool} {r0 : R2a} {x : Str} {ds : List D} {xs : List Str} (h1 : slD eta d = some ds) (h2 : strsD ds = some xs) (h : Q (.bl (if neg then !xs.contains x else xs.contains x)) eta) : raInS neg r0 (.str x) d rho eta Q EX := by
  unfold raInS; rw [h1]; simp only [Option.bind_some, h2]; exact h
theorem i_inSN {neg : Bool} {r0 : R2a} (h1 : slD eta d = none) (h : r0 e d rho eta Q EX) : raInS neg r0 e d rho eta Q EX := by
  unfold raInS; rw [h1]; cases e <;> exact h
def lenOQ (Q : QA) : QA := fun r eta1 => match r with
  | .int i => (0 ≤ i ∧ i < 1000000) ∧ Q (.int i) eta1
  | _ => False
theorem i_lenO {tbl : Tbl} {S : SpA} (hS : tblD tbl eta d = some S) (h : raCall S [d] rho eta (lenOQ Q) EX) : raLenU tbl [d] rho eta Q EX := by
  unfold raLenU; simp only [hS]; exact h
theorem i_lenOQ {i : Int} (hi : 0 ≤ i ∧ i < 1000000) (h : Q (.int i) eta) : lenOQ Q (.int i) eta := ⟨hi, h⟩
theorem i_lenD {tbl : Tbl} {ks : List Key} {ds : List D} (hS : tblD tbl eta d = none) (h1 : dctD eta d = some (ks, ds)) (h : Q (.int ks.length) eta) : raLenU tbl [d] rho eta Q EX := by
  unfold raLenU; simp only [hS, h1]; exact h
theorem i_lenN {tbl : Tbl} (hS : tblD tbl eta d = none) (h1 : dctD eta d = none) (h : raLen [d] rho eta Q EX) : raLenU tbl [d] rho eta Q EX := by
  unfold raLenU; simp only [hS, h1]; exact h
theorem i_listO {tbl : Tbl} {itb : Itb} {S : SpA} {es : List D} (hi : iterD itb eta d = some es) (hl : es.length ≤ 100000) (hS : tblD tbl eta d = some S) (h1 : raCall S [d] rho eta (fun r eta1 => ∃ i, r = .int i ∧ (0 ≤ i ∧ i < 1000000) ∧ eta1 = eta) (fun _ _ _ => False)) (h : Q (.fl es) eta) : raListU tbl itb [d] rho eta Q EX := by
  unfold raListU; simp only [hi, hS]; exact ⟨hl, h1, h⟩
theorem i_listM {xs : List D} (hs : seqD eta d = some xs) (h : Q (.ref eta.length) (eta ++ [.lst xs])) : raListM [d] rho eta Q EX := by
  unfold raListM; simp only [hs]; exact h
/-! further -/
def slQ (lo hi : Option Int) (Q : QA) (d : D) : List MO → Prop := fun eta3 => match slD eta3 d with
  | some ds => Q (.fl (cutD ds lo hi)) eta3
  | none => False
theorem i_sl {tl' th' : TOa} (h : ta rho eta (fun d eta1 => tl' rho eta1 (fun lo eta2 => th' rho eta2 (fun hi eta3 => slQ lo hi Q d eta3) EX) EX) EX) : aSl ta tl' th' rho eta Q EX := h
theorem i_pn {QO : Option Int → List MO → Prop} (h : QO none eta) : aPN rho eta QO EX := h
def psQ (QO : Option Int → List MO → Prop) : QA := fun d eta1 => match d with
  | .int i => QO (some i) eta1
  | _ => False
theorem i_ps {QO : Option Int → List MO → Prop} (h : ta rho eta (psQ QO) EX) : aPS ta rho eta QO EX := h
theorem i_psQ {QO : Option Int → List MO → Prop} {i : Int} (h : QO (some i) eta) : psQ QO (.int i) eta := h
theorem i_slF {ds : List D} {lo hi : Option Int} (h : Q (.fl (cutD ds lo hi)) eta) : slQ lo hi Q (.fl ds) eta := h
theorem i_slR {n : Nat} {ds : List D} {lo hi : Option Int} (hn : eta[n]? = some (.lst ds)) (h : Q (.fl (cutD ds lo hi)) eta) : slQ lo hi Q (.ref n) eta := by
  unfold slQ slD; simp only [hn]; exact h
theorem i_bm {f : List MO → D → Bool} {r : RMa} {t : TAa} (h : ta rho eta (mtQ f r t rho Q EX) EX) : aBm f r ta t rho eta Q EX := h
theorem i_mtQ {f : List MO → D → Bool} {r : RMa} {t : TAa} (hf : f eta d = true) (h : t rho eta (fun ds eta2 => r d ds rho eta2 Q EX) EX) : mtQ f r t rho Q EX d eta := ⟨hf, h⟩
theorem i_append {n : Nat} {es : List D} {y : D} (hn : eta[n]? = some (.lst es)) (hy : y.im = true) (hl : es.length < 100000) (h : Q .non (eta.set n (.lst (es ++ [y])))) : raAppend (.ref n) [y] rho eta Q EX := by
  unfold raAppend; simp only [hn]; exact ⟨hy, hl, h⟩
theorem i_index {es : List D} {xs : List Str} {y : Str} {j : Nat} (h1 : strsD es = some xs) (h2 : strIx xs y = some j) (h : Q (.int j) eta) : raIndexS (.fl es) [.str y] rho eta Q EX := by
  unfold raIndexS; simp only [h1, h2]; exact h
theorem i_sort {es : List D} {xs : List Str} (h1 : strsD es = some xs) (hl : xs.length < 64) (h : ∀ ys : List Str, ys.Perm xs → sortedS ys = true → Q (.fl (ys.map .str)) eta) : raSortS [.fl es] rho eta Q EX := by
  unfold raSortS; simp only [h1]; exact ⟨hl, h⟩
theorem i_str2 {r0 : RNa} {x : Str} (h : Q (.str x) eta) : raStr2 r0 [.str x] rho eta Q EX := h
theorem i_min2 {i j : Int} (h : Q (.int (if j < i then j else i)) eta) : raMin2 [.int i, .int j] rho eta Q EX := h
theorem i_dct0 {n : Nat} {eta' : List MO} (hn : eta.length = n) (he : eta ++ [.dct [] []] = eta') (h : Q (.ref n) eta') : aDct0 rho eta Q EX := by subst hn he; exact h
theorem i_rep {n : Nat} {k : Int} {ds : List D} (hn : eta[n]? = some (.lst ds)) (h0 : 0 ≤ k ∧ k ≤ 1000 ∧ ds.length ≤ 1000) (h : Q (.fl (List.replicate k.toNat ds).flatten) eta) : raRep (.ref n) (.int k) rho eta Q EX := by
  unfold raRep; simp only [hn]; exact ⟨h0.1, h0.2.1, h0.2.2, h⟩
theorem i_repI {i j : Int} (hm : IntMulOk i j) (h : Q (.int (i * j)) eta) : raRep (.int i) (.int j) rho eta Q EX := ⟨hm, h⟩
def lrgQ (Q : QA) : QA := fun d eta1 => match d with
  | .int n => 0 ≤ n ∧ n ≤ 16777216 ∧ Q (.fl (rgD n.toNat)) eta1
  | _ => False
theorem i_lrg (h : ta rho eta (lrgQ Q) EX) : aLRg ta rho eta Q EX := h
theorem i_lrgQ {n : Int} (h0 : 0 ≤ n ∧ n ≤ 16777216) (h : Q (.fl (rgD n.toNat)) eta) : lrgQ Q (.int n) eta := ⟨h0.1, h0.2, h⟩
theorem i_isiO {c : D} {yes no : List Nat} {r0 : RNa} {k : Nat} {ds : List D} (hd : insD eta d = some (k, ds)) (hy : yes.contains k = true) (h : Q (.bl true) eta) : raIsiO c yes no r0 [d, c] rho eta Q EX := by
  unfold raIsiO; simp only [hd, hy, if_true]; exact ⟨trivial, h⟩
theorem i_isiON {c : D} {yes no : List Nat} {r0 : RNa} {k : Nat} {ds : List D} (hd : insD eta d = some (k, ds)) (hy : yes.contains k = false) (hn : no.contains k = true) (h : Q (.bl false) eta) : raIsiO c yes no r0 [d, c] rho eta Q EX := by
  unfold raIsiO; simp only [hd, hy, hn, if_true, Bool.false_eq_true, if_false]; exact ⟨trivial, h⟩
theorem i_isiOB {c : D} {yes no : List Nat} {r0 : RNa} (hd : insD eta d = none) (h : r0 [d, c] rho eta Q EX) : raIsiO c yes no r0 [d, c] rho eta Q EX := by
  unfold raIsiO; simp only [hd]; exact h
def dispQ (k : D) (Q : QA) : QA := fun y eta2 => match keyD k with
  | some k => y.im = true ∧ Q (.fd [k] [y]) eta2
  | none => False
theorem i_disp (h : ta rho eta (fun kd eta1 => tb rho eta1 (dispQ kd Q) EX) EX) : aDisp1 ta tb rho eta Q EX := h
theorem i_dispQ {k : Key} (hk : keyD e = some k) (hd : d.im = true) (h : Q (.fd [k] [d]) eta) : dispQ e Q d eta := by
  unfold dispQ; simp only [hk]; exact ⟨hd, h⟩
theorem i_lockR {i n : Nat} {t : TEa} {ks : List Key} {ds : List D} (hr : rho[i]? = some (some (.ref n))) (hn : eta[n]? = some (.dct ks ds)) (h : t ((hideR rho).set i (some (.fd ks ds))) [] (fun d _ => flatL d = true ∧ Q d eta) (fun _ _ _ => False)) : aLock i t rho eta Q EX := by
  unfold aLock; simp only [hr, hn]; exact h
theorem i_lockI {i n c : Nat} {t : TEa} {ds : List D} (hr : rho[i]? = some (some (.ref n))) (hn : eta[n]? = some (.ins c ds)) (h : t rho eta Q EX) : aLock i t rho eta Q EX := by
  unfold aLock; simp only [hr, hn]; exact h
theorem i_lockN {i : Nat} {t : TEa} (hr : rho[i]? = some (some d)) (hd : d.im = true) (h : t rho eta Q EX) : aLock i t rho eta Q EX := by
  unfold aLock; simp only [hr]
  cases d <;> first | exact h | cases hd
theorem i_raiseE {c : Nat} {dfl : List D} {t : TAa} (h : t rho eta (fun ds eta1 => (ds ++ dfl).all D.im = true ∧ (ds ++ dfl).length = (fldNames c).length ∧ ds ++ dfl ≠ [] ∧ EX ⟨c, (ds ++ dfl).reverse⟩ rho eta1) EX) : sRaiseE c dfl t Dn rho eta EX := h
theorem i_xf {f : Str} {cs : List Nat} {W : Wd} {a : Addr} {cls : Value} {dx : Option Addr} (h : ta rho eta (xfQ f cs W a cls dx Q) EX) : aXf f cs W a cls dx ta rho eta Q EX := h
theorem i_xfQ {f : Str} {cs : List Nat} {W : Wd} {a : Addr} {dx : Option Addr} {k j : Nat} {vs : List D} {y : D} (hk : cs.contains k = true) (hj : fldIx f k = some j) (hy : vs[j]? = some y) (hn : ((fldNames k).take j).contains f = false) (h : Q y eta) : xfQ f cs W a (.ref (W.cl k)) dx Q (.exn a dx k vs) eta := by
  unfold xfQ; simp only [hj, hy]; exact ⟨trivial, trivial, trivial, hk, hn, h⟩
theorem i_dc {ti : TIa} {ga : TGa} {tk tv : TEa} {vs : List Nat} (h : ti rho eta (fun ds eta1 => ds.length ≤ 100000 ∧ aDcG ga tt tk tv (wipA rho vs) (fun ks es eta2 => Q (.fd ks es) eta2) ds [] [] eta1) EX) : aDc ti ga tt tk tv vs rho eta Q EX := h
theorem i_dcM {ti : TIa} {ga : TGa} {tk tv : TEa} {vs : List Nat} (h : ti rho eta (fun ds eta1 => ds.length ≤ 100000 ∧ aDcG ga tt tk tv (wipA rho vs) (fun ks es eta2 => Q (.ref eta2.length) (eta2 ++ [.dct ks es])) ds [] [] eta1) EX) : aDcM ti ga tt tk tv vs rho eta Q EX := h
/-! calls with objects among the arguments -/
def cQG (rs : List Nat) (Q : QA) (eta : List MO) : QA := fun d sub => clA sub = true ∧ Q (bkD rs eta.length d) (wbA rs sub 0 eta)
def cXG (rs : List Nat) (EX : EXA) (rho : Rho) (eta : List MO) : Ex → List MO → Prop := fun ex sub => clA sub = true ∧ EX ex rho (wbA rs sub 0 eta)
theorem i_fnG {S : SpA} {ds ds' : List D} {rs : List Nat} {sub : List MO} (hr : refsOf ds = rs) (ho : okC rs eta = true) (e1 : ds.map (renD rs) = ds') (e2 : (rs.map fun r => (eta[r]?).getD .gone) = sub) (h : S ds' sub (cQG rs Q eta) (cXG rs EX rho eta)) : raCall S ds rho eta Q EX := by
  subst hr e1 e2; exact ⟨ho, h⟩
theorem i_wb {rs : List Nat} {sub eta' : List MO} {d' : D} (hc : clA sub = true) (e1 : bkD rs eta.length d = d') (e2 : wbA rs sub 0 eta = eta') (h : Q d' eta') : cQG rs Q eta d sub := by
  subst e1 e2; exact ⟨hc, h⟩
theorem i_wbX {rs : List Nat} {sub eta' : List MO} {ex : Ex} (hc : clA sub = true) (e2 : wbA rs sub 0 eta = eta') (h : EX ex rho eta') : cXG rs EX rho eta ex sub := by
  subst e2; exact ⟨hc, h⟩
end
/-! ### comprehensions over texts -/
section
variable {rho : Rho} {eta : List MO}
/-- [f(d) for d in ds if p(d)] -/
theorem lcg_fm {ga : TGa} {tt : TTa} {te : TEa} {Q : List D → List MO → Prop} (p : D → Bool) (f : D → D) {ds acc : List D} (him : ∀ d ∈ ds, p d = true → (f d).im = true)
    (h : ∀ d ∈ ds, ∀ (R : QA) (Z : List MO → Prop), (p d = true → R (f d) eta) → (p d = false → Z eta) → ga d rho eta fun r1 e1 => tt r1 e1 (fun b e2 => if b = true then te r1 e2 R (fun _ _ _ => False) else Z e2) (fun _ _ _ => False))
    (hq : Q (acc ++ (ds.filter p).map f) eta) : aLcG ga tt te rho Q ds acc eta := by
  induction ds generalizing acc with
  | nil => simpa [aLcG] using hq
  | cons d ds ih =>
    refine h d List.mem_cons_self (fun y e3 => y.im = true ∧ aLcG ga tt te rho Q ds (acc ++ [y]) e3) (fun e2 => aLcG ga tt te rho Q ds acc e2) (fun hp => ⟨him d List.mem_cons_self hp, ?_⟩) (fun hp => ?_)
    · exact ih (fun d hd => him d (List.mem_cons_of_mem _ hd)) (fun d hd => h d (List.mem_cons_of_mem _ hd)) (by simpa [List.filter_cons, hp] using hq)
    · exact ih (fun d hd => him d (List.mem_cons_of_mem _ hd)) (fun d hd => h d (List.mem_cons_of_mem _ hd)) (by simpa [List.filter_cons, hp] using hq)
theorem kget_none {f : Str → D} {k : Str} : ∀ {xs : List Str}, k ∉ xs → kget (xs.map Sum.inr : List Key) (xs.map f) (Sum.inr k) = none
  | [], _ => rfl
  | x :: xs, h => by
    simp only [List.mem_cons, not_or] at h
    simp only [List.map_cons, kget]
    rw [if_neg (fun z => h.1 (by injection z with z; exact z.symm))]
    exact kget_none h.2
theorem kget_map {f : Str → D} {k : Str} : ∀ {xs : List Str}, k ∈ xs → kget (xs.map Sum.inr : List Key) (xs.map f) (Sum.inr k) = some (f k)
  | x :: xs, h => by
    simp only [List.map_cons, kget]
    by_cases e : x = k
    · rw [if_pos (by rw [e]), e]
    · rw [if_neg (fun z => e (by injection z))]
      exact kget_map ((List.mem_cons.mp h).resolve_left (fun z => e z.symm))
/-- {x: f(x) for x in xs if p(x)}, the names distinct -/
theorem dcg_fm {ga : TGa} {tt : TTa} {tk tv : TEa} {Q : List Key → List D → List MO → Prop} (p : Str → Bool) (f : Str → D) {xs done : List Str} (hnd : (done ++ xs).Nodup) (him : ∀ x ∈ xs, p x = true → (f x).im = true)
    (h : ∀ x ∈ xs, ∀ (R : D → QA) (Z : List MO → Prop), (p x = true → R (.str x) (f x) eta) → (p x = false → Z eta) → ga (.str x) rho eta fun r1 e1 => tt r1 e1 (fun b e2 => if b = true then tk r1 e2 (fun kd e3 => tv r1 e3 (R kd) (fun _ _ _ => False)) (fun _ _ _ => False) else Z e2) (fun _ _ _ => False))
    (hq : Q (((done ++ xs).filter p).map Sum.inr) (((done ++ xs).filter p).map f) eta) : aDcG ga tt tk tv rho Q (xs.map .str) ((done.filter p).map Sum.inr) ((done.filter p).map f) eta := by
  induction xs generalizing done with
  | nil => simpa [aDcG] using hq
  | cons x xs ih =>
    have hx : x ∉ done.filter p := fun z => by
      have h1 := (List.mem_filter.mp z).1
      exact (List.nodup_append.mp hnd).2.2 x h1 x List.mem_cons_self rfl
    have hnd2 : ((done ++ [x]) ++ xs).Nodup := by simpa using hnd
    have hq2 : Q ((((done ++ [x]) ++ xs).filter p).map Sum.inr) ((((done ++ [x]) ++ xs).filter p).map f) eta := by simpa using hq
    have ih2 := ih hnd2 (fun d hd => him d (List.mem_cons_of_mem _ hd)) (fun d hd => h d (List.mem_cons_of_mem _ hd)) hq2
    refine h x List.mem_cons_self (fun kd y e4 => match keyD kd with
      | some k => y.im = true ∧ aDcG ga tt tk tv rho Q (xs.map .str) (kpK ((done.filter p).map Sum.inr) ((done.filter p).map f) k) (kpV ((done.filter p).map Sum.inr) ((done.filter p).map f) k y) e4
      | none => False) (fun e2 => aDcG ga tt tk tv rho Q (xs.map .str) ((done.filter p).map Sum.inr) ((done.filter p).map f) e2) (fun hp => ?_) (fun hp => ?_)
    · refine ⟨him x List.mem_cons_self hp, ?_⟩
      have e1 : kget ((done.filter p).map Sum.inr : List Key) ((done.filter p).map f) (Sum.inr x) = none := kget_none hx
      show aDcG ga tt tk tv rho Q (xs.map .str) (kpK _ _ (Sum.inr x)) (kpV _ _ (Sum.inr x) (f x)) eta
      unfold kpK kpV
      rw [e1]
      simpa [List.filter_append, hp] using ih2
    · simpa [List.filter_append, hp] using ih2
end
end RF
set_option maxRecDepth 100000
set_option maxHeartbeats 4000000
namespace RF
open PySem PySem.Spec PyProof.Rows L2
theorem bt_sorted : bootBuiltins ("sorted" : Str) = some (.builtin "sorted") := by decide +kernel
theorem bt_min : bootBuiltins ("min" : Str) = some (.builtin "min") := by decide +kernel
/-- __init__ of an exception class with fields: where it stands, what it promises -/
def XInit (P : Program) (w : World) (K : PySem.W.Frag) (mg : Str → Option Value) (base : Heap) (W : Wd) (d : Nat) (ps L : List Str) : Prop :=
  ∃ fd, FnOk P w K mg base (L2.CX P w) 1 (adrOf (PySem.W.findIn K (.ref (W.cl d)) "__init__")) fd ps (spX K (W.cl d) L) ∧ Binds K fd ps []
section
variable {X : Cx} {W : Wd} {Wx : WX}
theorem sa_raiseX {c d j : Nat} {ps : List Str} {x : Str} {e : Expr} {es : List Expr} {t : TAa} {p p2 pos : Pos} (hc : X.calm = true) (tk : Takes X Wx) (T : XIf X.K W c d) (M : Meth X.K (W.cl d) "__init__" (adrOf (PySem.W.findIn X.K (.ref (W.cl d)) "__init__")))
    (F : XInit X.prog X.w X.K X.mg X.base W d ps (fldNames c)) (hr : Room j X.A) (hm : X.mg x = some (.ref (W.cl c))) (ha : AA X W Wx (e :: es) t) (hj : 2 ≤ j := by decide) (hg : Gl X x := by rfl)
    (hdb : (x == ("__debug__" : Str)) = false := by decide) (he : starEach (e :: es) X.env = (false, eval e X.env) :: starEach es X.env := by rfl) (hpl : (backTo p2 (starEach es X.env)).any (·.1) = false := by rfl) :
    SA X W Wx (.Raise (some (.Call (.Name x p) (e :: es) [] p2)) none pos) (sRaiseE c [] t) := by
  obtain ⟨fd, F, b⟩ := F
  exact sa_raiseE hc tk T M.at_ M.fn F (hr.mono hj) b .nil (fun _ => rfl) hm ha hg hdb he hpl
end
end RF
set_option maxRecDepth 100000
set_option maxHeartbeats 4000000
namespace RF
open PySem PySem.Spec PyProof.Rows L2
/-! ### name = [..] on one line -/
section
variable {X : Cx} {W : Wd} {Wx : WX}
theorem ps_fzS {st : Stmt} {t : TS} (h : PS X st t) : PS X st (fun Dn σ H => t { Dn with nx := fun σ' H' => ∃ a u, H' a = some u ∧ Mut (some u) ∧ ∀ od, Dn.nx σ' (upd H' a (.frz od u)) } σ H) := by
  refine ⟨fun pins s σ H D I hw => ?_⟩
  refine thn (h.run pins s σ H _ I hw) fun f s1 q => ?_
  cases f with
  | next =>
    obtain ⟨σ', H', I2, a, u, e, mu, q⟩ := q
    obtain ⟨od, I3⟩ := I2.lock e mu
    exact ⟨σ', _, I3, q od⟩
  | brk => exact q
  | cont => exact q
  | ret v => exact q
theorem lc_rd {own : List (Str × Nat)} {ti : TIa} {g : TG} {ga : TGa} {tt : TTa} {te : TEa} {σ : L2.St} {H : Hp} {th : List Addr} {rho : Rho} {eta : List MO} {Qa : QA} {EX : EXA} {R : VK} (hk : GBk W (own.map (·.2)) g ga) (S : SR W th H σ rho eta) (xo : XOk W Wx th H EX)
    (hq : aLc ti ga tt te (own.map (·.2)) rho eta Qa EX) (hR : ∀ v H', (∃ a u, v = V.ref a ∧ H' a = some u ∧ Mut (some u) ∧ ∀ od, ∃ th' d eta', Grow th H th' (upd H' a (.frz od u)) ∧ SR W th' (upd H' a (.frz od u)) σ rho eta' ∧ RepT W th' (upd H' a (.frz od u)) d v ∧ Qa d eta') → R v H') :
    tLc (lftI W Wx ti) g (lftT W W0 tt) (lftE W W0 te) (own.map (·.2)) σ H R := by
  refine ⟨th, rho, eta, _, EX, S, xo, hq, fun J th1 H1 ds eta1 g1 S1 jo q => ?_⟩
  obtain ⟨hlen, q⟩ := q
  intro D hD
  have hD1 : D ∉ th1 := fun z => by obtain ⟨o, e⟩ := S1.hp.there D z; rw [hD] at e; cases e
  let Inv2 : Nat → Hp → Prop := fun i H2 => ∃ th2 eta2 acc accD, Grow th1 H1 th2 H2 ∧ SRh W th2 H2 eta2 ∧ D ∉ th2 ∧ H2 D = some (.lst acc) ∧ Reps W H2 accD acc ∧ acc.length ≤ i ∧ i ≤ ds.length ∧
    aLcG ga tt te (wipA rho (own.map (·.2))) (fun acc eta2 => Qa (.fl acc) eta2) (ds.drop i) accD eta2
  refine ⟨fun i m H2 => m = ds.length - i ∧ Inv2 i H2, ⟨ds.length, rfl, th1, eta1, [], [], Grow.new hD, S1.hp.new hD, hD1, upd_same, rfl, by simp, Nat.zero_le _, by simpa using q⟩, ?_⟩
  rintro i m H2 ⟨rfl, th2, eta2, acc, accD, g2, S2, hD2, eD, Racc, hacc, hil, q2⟩
  obtain ⟨jg, js⟩ := jo th2 H2 g2 i
  cases e : ds[i]? with
  | none =>
    have hl : ds.length ≤ i := List.getElem?_eq_none_iff.mp e
    rw [List.drop_eq_nil_of_le hl] at q2
    refine .inl ⟨js hl, hR _ _ ⟨D, _, rfl, eD, trivial, fun od => ?_⟩⟩
    obtain ⟨pf, S3⟩ := S2.aside (o' := .frz od (.lst acc)) hD2 eD (fun z => z)
    have g3 := g2.aside (o := .frz od (.lst acc)) hD
    exact ⟨th2, .fl accD, eta2, g1.trans' S1.hp g3, S1.mono g3 S3 |> fun z => ⟨fun i d e => let ⟨v, e1, r⟩ := S.var i d e; ⟨v, e1, r.mono (g1.trans' S1.hp g3)⟩, S.le, S3⟩, ⟨D, od, acc, rfl, upd_same, Reps.mono pf _ _ Racc⟩, q2⟩
  | some d =>
    obtain ⟨hgo, hy⟩ := jg d e
    have hlt : i < ds.length := (List.getElem?_eq_some_iff.mp e).1
    rw [drop_get e] at q2
    refine .inr ⟨hgo, Inv2 (i + 1), fun H' q => ⟨ds.length - (i + 1), by omega, rfl, q⟩, fun x H' hyl => ?_⟩
    obtain ⟨py, hk2, Rx⟩ := hy x H' hyl
    obtain ⟨S2h, g3⟩ := hk2 th2 eta2 S2
    have Sw : SR W th2 H2 (wipe σ (own.map (·.2))) (wipA rho (own.map (·.2))) eta2 := wipA_sr (S1.mono g2 S2) _
    have Sw3 := Sw.mono g3 S2h
    have eD3 : H' D = some (.lst acc) := g3.keep D _ eD (.inl hD2)
    refine hk _ H' th2 _ eta2 x d _ _ Sw3 Rx q2 fun σ2 rho2 hw S4 q4 => ⟨by rw [hw, wipe_wipe], th2, rho2, eta2, _, _, S4, XOk.none, q4, fun th5 H5 b eta5 g5 S5 q5 => ?_⟩
    have eD5 : H5 D = some (.lst acc) := g5.keep D _ eD3 (.inl hD2)
    have hD5 : D ∉ th5 := g5.notin hD2 eD3
    have g25 : Grow th1 H1 th5 H5 := g2.trans' S2 (g3.trans' S2h g5)
    have p25 : Pers H2 H5 := fun a o h f => g5.pers a o (py a o h f) f
    cases b with
    | false =>
      rw [if_neg Bool.false_ne_true] at q5
      dsimp only
      rw [if_neg Bool.false_ne_true]
      exact ⟨th5, eta5, acc, accD, g25, S5.hp, hD5, eD5, Reps.mono p25 _ _ Racc, by omega, hlt, q5⟩
    | true =>
      rw [if_pos rfl] at q5
      dsimp only
      rw [if_pos rfl]
      refine ⟨th5, rho2, eta5, _, _, S5, XOk.none, q5, fun th6 H6 y dy eta6 g6 S6 Ry q6 => ?_⟩
      obtain ⟨yi, q6⟩ := q6
      have eD6 : H6 D = some (.lst acc) := g6.keep D _ eD5 (.inl hD5)
      have hD6 : D ∉ th6 := g6.notin hD5 eD5
      refine ⟨acc, eD6, sizeK (by omega), ?_⟩
      obtain ⟨p7, S7⟩ := S6.hp.aside (o' := .lst (acc ++ [y])) hD6 eD6 (fun z => z)
      refine ⟨th6, eta6, acc ++ [y], accD ++ [dy], (g25.trans' S5.hp g6).aside hD, S7, hD6, upd_same, ?_, by simp; omega, hlt, q6⟩
      exact Reps.snoc (Rep.mono p7 _ _ (Ry.im yi)) (Reps.mono p7 _ _ (Reps.mono g6.pers _ _ (Reps.mono p25 _ _ Racc)))
theorem sa_setLc {i : Nat} {y : Str} {py : Pos} {elt tg iter : Expr} {ifs : List Expr} {scope : Scope} {own : List (Str × Nat)} {pos spos : Pos} {ti : TIa} {g : TG} {ga : TGa} {tt : TTa} {te : TEa} (hy : X.N[i]? = some y) (hyl : X.env.scope.names.lookup y = some .local) (hc : X.calm = true) (hN : X.N.Nodup) (hi : IA X W Wx tg iter ti) (ok : BlkOk X.N X.env.scope scope own)
    (hg : ∀ (s : Shared) (H : Hp) (C : Addr) (cl : List (Str × Addr)) (fp : List Addr), PG (X.blk s H scope (compEnvC scope cl C X.env) fp) tg g) (hk : GBk W (own.map (·.2)) g ga)
    (ht : ∀ (s : Shared) (H : Hp) (C : Addr) (cl : List (Str × Addr)) (fp : List Addr), TsA (X.blk s H scope (compEnvC scope cl C X.env) fp) W W0 ifs tt)
    (he : ∀ (s : Shared) (H : Hp) (C : Addr) (cl : List (Str × Addr)) (fp : List Addr), EA (X.blk s H scope (compEnvC scope cl C X.env) fp) W W0 elt te) (hsw : swapsWith (.ListComp elt [⟨tg, iter, ifs, 0⟩] scope pos) (some (.Name y py)) spos.line X.env = pure true := by rfl) (hs : ∀ x, foldedSetIterable iter X.env x = pure x := by intro _; rfl) :
    SA X W Wx (.Assign [.Name y py] (.ListComp elt [⟨tg, iter, ifs, 0⟩] scope pos) spos) (aSet i (aLc ti ga tt te (own.map (·.2)))) :=
  .of (ps_fzS (ps_setLc hc hN hy hyl hsw hi.pi ok hg (fun s H C cl fp => (ht s H C cl fp).pts) (fun s H C cl fp => (he s H C cl fp).pe) hs)) fun σ H th rho eta DA EX S xo h => by
    refine lc_rd (R := fun x H1 => gName i x σ H1 _) hk S xo h fun v H' ⟨a, u, e, h1, mu, q⟩ => ?_
    refine ⟨a, u, h1, mu, fun od => ?_⟩
    obtain ⟨th', d, eta', g1, S1, R1, q1⟩ := q od
    exact ⟨th', _, eta', g1, S1.set i R1, q1⟩
end
end RF
set_option maxRecDepth 100000
set_option maxHeartbeats 4000000
namespace RF
open PySem PySem.Spec PyProof.Rows L2
theorem IsNum.im0 {e : D} {b : Rat} (h : IsNum e b) : e.im = true := by
  rcases h with rfl | ⟨i, rfl, _⟩ <;> rfl
theorem RB.zero3 : RB 3000 (0 : Rat) := ⟨by decide, by decide⟩
/-! ### the order of texts -/
def sle (a b : Str) : Prop := ltCps b.cps.toList a.cps.toList = false
theorem sle_iff {a b : Str} : sle a b ↔ ¬ b.cps.toList < a.cps.toList := by
  unfold sle
  rw [ltCps_eq]; simp
theorem sle_antisymm {a b : Str} (h1 : sle a b) (h2 : sle b a) : a = b := by
  rw [sle_iff] at h1 h2
  have e : a.cps.toList = b.cps.toList := List.le_antisymm h1 h2
  cases a; cases b
  simp only [Str.mk.injEq]
  exact Array.toList_inj.mp e
theorem sle_trans {a b c : Str} (h1 : sle a b) (h2 : sle b c) : sle a c := by
  rw [sle_iff] at *
  exact List.le_trans (α := Nat) (l₁ := a.cps.toList) (l₂ := b.cps.toList) (l₃ := c.cps.toList) h1 h2
theorem rising_pw : ∀ {p : Str} {l : List Str}, risingS p l = true → (p :: l).Pairwise sle
  | p, [], _ => by simp
  | p, x :: r, h => by
    have h : (!ltCps x.cps.toList p.cps.toList && risingS x r) = true := h
    rw [Bool.and_eq_true] at h
    have h1 : sle p x := by unfold sle; simpa using h.1
    have ih := rising_pw h.2
    rw [List.pairwise_cons]
    refine ⟨fun y hy => ?_, ih⟩
    rcases List.mem_cons.mp hy with rfl | hy
    · exact h1
    · exact sle_trans h1 ((List.pairwise_cons.mp ih).1 y hy)
theorem sorted_pw {l : List Str} (h : sortedS l = true) : l.Pairwise sle := by
  cases l with
  | nil => simp
  | cons x r => exact rising_pw h
theorem sorted_of {l : List Str} (h : l.Pairwise sle) : sortedS l = true := sortedS_of_pairwise l h
theorem pw_perm_eq : ∀ {l m : List Str}, l.Pairwise sle → m.Pairwise sle → l.Perm m → l = m
  | [], m, _, _, p => by rw [List.nil_perm.mp p]
  | x :: l, m, h1, h2, p => by
    cases m with
    | nil => exact absurd p (by simp)
    | cons y m =>
      have hx : x ∈ y :: m := p.subset List.mem_cons_self
      have hy : y ∈ x :: l := p.symm.subset List.mem_cons_self
      have e : x = y := by
        rcases List.mem_cons.mp hx with e | hx
        · exact e
        · rcases List.mem_cons.mp hy with e | hy
          · exact e.symm
          · exact sle_antisymm ((List.pairwise_cons.mp h1).1 y hy) ((List.pairwise_cons.mp h2).1 x hx)
      subst e
      rw [pw_perm_eq (List.pairwise_cons.mp h1).2 (List.pairwise_cons.mp h2).2 (List.perm_cons x |>.mp p)]
theorem sorted_eq {l m : List Str} (h1 : sortedS l = true) (h2 : sortedS m = true) (p : l.Perm m) : l = m := pw_perm_eq (sorted_pw h1) (sorted_pw h2) p
theorem sorted_filter {l : List Str} (p : Str → Bool) (h : sortedS l = true) : sortedS (l.filter p) = true := sorted_of ((sorted_pw h).sublist List.filter_sublist)
theorem sorted_mem {l m : List Str} (h1 : sortedS l = true) (h2 : sortedS m = true) (n1 : l.Nodup) (n2 : m.Nodup) (h : ∀ x, x ∈ l ↔ x ∈ m) : l = m :=
  sorted_eq h1 h2 ((List.perm_ext_iff_of_nodup n1 n2).mpr h)
theorem strsD_map : ∀ (xs : List Str), strsD (xs.map D.str) = some xs
  | [] => rfl
  | x :: xs => by simp [strsD, strsD_map xs]
section
variable {rho : Rho} {eta : List MO} {EX : EXA} {Q : QA} {d e : D}
theorem i_inDF {tbl : Tbl} {ks : List Key} {ds : List D} {k : Key} (hS : tblD tbl eta d = none) (h1 : dctD eta d = some (ks, ds)) (h2 : keyD e = some k) (h : Q (.bl (kget ks ds k).isSome) eta) : raInU false tbl e d rho eta Q EX := i_inD hS h1 h2 h
theorem i_inDT {tbl : Tbl} {ks : List Key} {ds : List D} {k : Key} (hS : tblD tbl eta d = none) (h1 : dctD eta d = some (ks, ds)) (h2 : keyD e = some k) (h : Q (.bl (!(kget ks ds k).isSome)) eta) : raInU true tbl e d rho eta Q EX := i_inD hS h1 h2 h
theorem i_inSF {r0 : R2a} {x : Str} {ds : List D} {xs : List Str} (h1 : slD eta d = some ds) (h2 : strsD ds = some xs) (h : Q (.bl (xs.contains x)) eta) : raInS false r0 (.str x) d rho eta Q EX := i_inS h1 h2 h
theorem i_inST {r0 : R2a} {x : Str} {ds : List D} {xs : List Str} (h1 : slD eta d = some ds) (h2 : strsD ds = some xs) (h : Q (.bl (!xs.contains x)) eta) : raInS true r0 (.str x) d rho eta Q EX := i_inS h1 h2 h
theorem i_inOF {b : Bool} (h : Q (.bl b) eta) : inOQ false Q (.bl b) eta := h
theorem i_inOT {b : Bool} (h : Q (.bl (!b)) eta) : inOQ true Q (.bl b) eta := h
end
theorem i_seqP {t u : TSa} {Dn : EndsA} {rho : Rho} {eta : List MO} {EX : EXA} (P : Rho → List MO → Prop) (h1 : ∀ R : Rho → List MO → Prop, (∀ r e, P r e → R r e) → t { Dn with nx := R } rho eta EX) (h2 : ∀ r e, P r e → u Dn r e EX) : aSeq t u Dn rho eta EX := h1 _ h2
theorem eqd_strs {x y : Str} : D.eqd (.str x) (.str y) = decide (x = y) := by
  show (x == y) = _
  rw [Bool.eq_iff_iff]; simp
section
variable {rho : Rho} {eta : List MO} {EX : EXA} {Q : QA}
theorem i_eqS {x y : Str} (h1 : PyData.strOk x = true) (h2 : PyData.strOk y = true) (h : Q (.bl (decide (x = y))) eta) : raEq (.str x) (.str y) rho eta Q EX := i_eq h1 h2 (by show Q (.bl (D.eqd (.str x) (.str y))) eta; rw [eqd_strs]; exact h)
theorem i_neS {x y : Str} (h1 : PyData.strOk x = true) (h2 : PyData.strOk y = true) (h : Q (.bl (!decide (x = y))) eta) : raNe (.str x) (.str y) rho eta Q EX := i_ne h1 h2 (by show Q (.bl (!D.eqd (.str x) (.str y))) eta; rw [eqd_strs]; exact h)
end
theorem pls_strs {n : Nat} : ∀ {xs : List Str}, (∀ x ∈ xs, PyData.strOk x = true) → D.pls n (xs.map .str) = true
  | [], _ => by simp [D.pls]
  | x :: xs, h => by
    rw [List.map_cons, D.pls, Bool.and_eq_true]
    exact ⟨by cases n <;> exact h x List.mem_cons_self, pls_strs fun y hy => h y (List.mem_cons_of_mem _ hy)⟩
theorem kget_out {k : Str} : ∀ {xs : List Str} {vs : List D}, k ∉ xs → kget (xs.map Sum.inr : List Key) vs (Sum.inr k) = none
  | [], vs, _ => by simp [kget]
  | x :: xs, [], h => by simp [kget]
  | x :: xs, v :: vs, h => by
    simp only [List.mem_cons, not_or] at h
    simp only [List.map_cons, kget]
    rw [if_neg (fun z => h.1 (by injection z with z; exact z.symm))]
    exact kget_out h.2
theorem kput_new {k : Str} {d : D} {xs : List Str} {vs : List D} (h : k ∉ xs) : kput (xs.map Sum.inr) vs (Sum.inr k) d = .dct ((xs ++ [k]).map Sum.inr) (vs ++ [d]) := by
  unfold kput; rw [kget_out h]; simp
theorem i_optS {S : SpA} {n : Nat} {dfl : D} {ds : List D} {eta : List MO} {Q : QA} {E : Ex → List MO → Prop} (hn : Nat.beq ds.length n = false) (h : S ds eta Q E) : optS S n dfl ds eta Q E := by
  unfold optS; rw [if_neg (fun z => by rw [z, Nat.beq_refl] at hn; cases hn)]; exact h
theorem i_optD {S : SpA} {n : Nat} {dfl : D} {ds : List D} {eta : List MO} {Q : QA} {E : Ex → List MO → Prop} (hn : Nat.beq ds.length n = true) (h : S (ds ++ [dfl]) eta Q E) : optS S n dfl ds eta Q E := by
  unfold optS; rw [if_pos (Nat.eq_of_beq_eq_true hn)]; exact h
/-- a ratio as the law tells it -/
def ratT (q : Rat) : D := .tup [.int q.num, .int q.den]
theorem i_ixP0 {q : Rat} {rho : Rho} {eta : List MO} {EX : EXA} {Q : QA} (h : Q (.int q.num) eta) : raIx1 (ratT q) (.int 0) rho eta Q EX := h
theorem i_ixP1 {q : Rat} {rho : Rho} {eta : List MO} {EX : EXA} {Q : QA} (h : Q (.int q.den) eta) : raIx1 (ratT q) (.int 1) rho eta Q EX := h
/-- every list of names can be put in order -/
theorem sle_total (a b : Str) : sle a b ∨ sle b a := by
  by_cases h : sle a b
  · exact .inl h
  · refine .inr ?_
    rw [sle_iff] at h ⊢
    intro z
    exact absurd (List.lt_asymm z) (by simpa using h)
theorem ins_ex (x : Str) : ∀ l : List Str, l.Pairwise sle → ∃ m : List Str, m.Perm (x :: l) ∧ m.Pairwise sle
  | [], _ => ⟨[x], .refl _, by simp⟩
  | y :: l, h => by
    rcases sle_total x y with q | q
    · refine ⟨x :: y :: l, .refl _, ?_⟩
      rw [List.pairwise_cons]
      refine ⟨fun z hz => ?_, h⟩
      rcases List.mem_cons.mp hz with rfl | hz
      · exact q
      · exact sle_trans q ((List.pairwise_cons.mp h).1 z hz)
    · obtain ⟨m, hp, hm⟩ := ins_ex x l (List.pairwise_cons.mp h).2
      refine ⟨y :: m, (hp.cons y).trans (.swap x y l), ?_⟩
      rw [List.pairwise_cons]
      refine ⟨fun z hz => ?_, hm⟩
      rcases List.mem_cons.mp (hp.subset hz) with rfl | hz
      · exact q
      · exact (List.pairwise_cons.mp h).1 z hz
theorem ord_ex : ∀ l : List Str, ∃ m : List Str, m.Perm l ∧ sortedS m = true
  | [] => ⟨[], .refl _, rfl⟩
  | x :: l => by
    obtain ⟨m, hp, hs⟩ := ord_ex l
    obtain ⟨m2, hp2, hs2⟩ := ins_ex x m (sorted_pw hs)
    exact ⟨m2, hp2.trans (hp.cons x), sorted_of hs2⟩
/-! ### what a Bundle holds -/
def bD (ns : List Str) (F : Str → Rat) : D := .fd (ns.map Sum.inr) (ns.map fun x => .rat (F x))
structure Bun (ns : List Str) (F : Str → Rat) : Prop where
  so : sortedS ns = true
  nd : ns.Nodup
  nn : ∀ x, 0 ≤ F x
  mem : ∀ x, x ∈ ns ↔ 0 < F x
  rb : ∀ x, RB 3000 (F x)
  len : ns.length < 60
  ok : ∀ x ∈ ns, PyData.strOk x = true
def updF (F : Str → Rat) (g : Str) (v : Rat) : Str → Rat := fun x => if x = g then v else F x
theorem Bun.uniq {ns ms : List Str} {F : Str → Rat} (h1 : Bun ns F) (h2 : Bun ms F) : ns = ms := sorted_mem h1.so h2.so h1.nd h2.nd fun x => by rw [h1.mem, h2.mem]
theorem Bun.zero {ns : List Str} {F : Str → Rat} (h : Bun ns F) {x : Str} (hx : x ∉ ns) : F x = 0 := by
  have h1 := h.nn x
  have h2 : ¬ 0 < F x := fun z => hx ((h.mem x).mpr z)
  exact Rat.le_antisymm (Rat.not_lt.mp h2) h1
/-- a Bundle among a callee's arguments: frozen, or the object with the number n -/
def IsBn (n : Nat) (d : D) (sub : List MO) (ns : List Str) (F : Str → Rat) : Prop := (d = .obj 17 [bD ns F] ∧ sub = []) ∨ (d = .ref n ∧ sub = [.ins 17 [bD ns F]])
theorem bD_walk {ns : List Str} {F : Str → Rat} {itb : Itb} {eta : List MO} : walkU itb eta (bD ns F) = some (ns.map .str) := by
  show some ((ns.map Sum.inr : List Key).map kD) = _
  rw [List.map_map]; rfl
theorem bD_get {ns : List Str} {F : Str → Rat} {g : Str} (h : g ∈ ns) : kget (ns.map Sum.inr) (ns.map fun x => D.rat (F x)) (Sum.inr g) = some (.rat (F g)) := kget_map (f := fun x => D.rat (F x)) h
theorem bD_none {ns : List Str} {F : Str → Rat} {g : Str} (h : g ∉ ns) : kget (ns.map Sum.inr) (ns.map fun x => D.rat (F x)) (Sum.inr g) = none := kget_none (f := fun x => D.rat (F x)) h
theorem bD_congr {ns : List Str} {F G : Str → Rat} (h : ∀ x ∈ ns, F x = G x) : bD ns F = bD ns G := by
  unfold bD
  congr 1
  exact List.map_congr_left fun x hx => by rw [h x hx]
/-! ### a dict of names and numbers -/
structure DN (ns : List Str) (vs : List D) (F : Str → Rat) : Prop where
  nd : ns.Nodup
  len : ns.length = vs.length
  im : vs.all D.im = true
  get : ∀ x ∈ ns, ∃ e, kget (ns.map Sum.inr) vs (Sum.inr x) = some e ∧ IsNum e (F x)
theorem kget_app {k : Str} {ys : List Str} {ws : List D} : ∀ {xs : List Str} {vs : List D}, xs.length = vs.length → kget ((xs ++ ys).map Sum.inr : List Key) (vs ++ ws) (Sum.inr k) = if k ∈ xs then kget (xs.map Sum.inr : List Key) vs (Sum.inr k) else kget (ys.map Sum.inr : List Key) ws (Sum.inr k)
  | [], [], _ => by simp
  | x :: xs, v :: vs, h => by
    have ih := kget_app (k := k) (ys := ys) (ws := ws) (xs := xs) (vs := vs) (by simpa using h)
    simp only [List.cons_append, List.map_cons, kget]
    by_cases e : x = k
    · subst e; simp
    · have e1 : ¬ (Sum.inr x : Key) = Sum.inr k := fun z => e (by injection z)
      rw [if_neg e1, if_neg e1, ih]
      by_cases hk : k ∈ xs
      · rw [if_pos hk, if_pos (List.mem_cons_of_mem _ hk)]
      · rw [if_neg hk, if_neg (by simp only [List.mem_cons, not_or]; exact ⟨fun z => e z.symm, hk⟩)]
theorem kget_kset {k j : Str} {d : D} : ∀ {xs : List Str} {vs : List D}, xs.length = vs.length → kget (xs.map Sum.inr : List Key) (kset (xs.map Sum.inr) vs (Sum.inr k) d) (Sum.inr j) = if j = k ∧ k ∈ xs then some d else kget (xs.map Sum.inr : List Key) vs (Sum.inr j)
  | [], [], _ => by simp [kget]
  | x :: xs, v :: vs, h => by
    have ih := kget_kset (k := k) (j := j) (d := d) (xs := xs) (vs := vs) (by simpa using h)
    by_cases e : x = k
    · subst e
      have e2 : kset ((x :: xs).map Sum.inr : List Key) (v :: vs) (Sum.inr x) d = d :: kset (xs.map Sum.inr) vs (Sum.inr x) d := by simp [kset]
      rw [e2]
      simp only [List.map_cons, kget]
      by_cases hj : j = x
      · subst hj; simp
      · have e1 : ¬ (Sum.inr x : Key) = Sum.inr j := fun z => hj (by injection z with z; exact z.symm)
        rw [if_neg e1, if_neg e1, ih]
        simp [hj]
    · have e1 : ¬ (Sum.inr x : Key) = Sum.inr k := fun z => e (by injection z)
      have e2 : kset ((x :: xs).map Sum.inr : List Key) (v :: vs) (Sum.inr k) d = v :: kset (xs.map Sum.inr) vs (Sum.inr k) d := by simp only [List.map_cons, kset]; rw [if_neg e1]
      rw [e2]
      simp only [List.map_cons, kget]
      by_cases hj : x = j
      · subst hj
        rw [if_pos rfl, if_pos rfl, if_neg (fun z => e z.1)]
      · have e3 : ¬ (Sum.inr x : Key) = Sum.inr j := fun z => hj (by injection z)
        rw [if_neg e3, if_neg e3, ih]
        by_cases hk : j = k
        · subst hk
          by_cases hm : j ∈ xs
          · simp [hm]
          · rw [if_neg (fun z => hm z.2), if_neg (fun z => by rcases List.mem_cons.mp z.2 with q | q; exact e q.symm; exact hm q)]
        · simp [hk]
theorem kset_len {k : Str} {d : D} : ∀ {xs : List Key} {vs : List D}, (kset xs vs (Sum.inr k) d).length = vs.length
  | [], vs => by simp [kset]
  | x :: xs, [] => by simp [kset]
  | x :: xs, v :: vs => by simp only [kset]; split <;> simp [kset_len]
theorem kset_im {k : Str} {d : D} (hd : d.im = true) : ∀ {xs : List Key} {vs : List D}, vs.all D.im = true → (kset xs vs (Sum.inr k) d).all D.im = true
  | [], vs, h => by simpa [kset] using h
  | x :: xs, [], h => by simp [kset]
  | x :: xs, v :: vs, h => by
    simp only [List.all_cons, Bool.and_eq_true] at h
    simp only [kset]
    split
    · simp [hd, kset_im hd h.2]
    · simp [h.1, kset_im hd h.2]
/-- d[x] = e -/
theorem DN.put {ns : List Str} {vs : List D} {F : Str → Rat} {x : Str} {e : D} {v : Rat} (h : DN ns vs F) (he : IsNum e v) : ∃ ns' vs', kput (ns.map Sum.inr) vs (Sum.inr x) e = .dct (ns'.map Sum.inr) vs' ∧ DN ns' vs' (updF F x v) ∧ ns' = if x ∈ ns then ns else ns ++ [x] := by
  have eim : e.im = true := by rcases he with rfl | ⟨i, rfl, _⟩ <;> rfl
  by_cases hx : x ∈ ns
  · obtain ⟨e0, h1, _⟩ := h.get x hx
    refine ⟨ns, kset (ns.map Sum.inr) vs (Sum.inr x) e, ?_, ⟨h.nd, by rw [kset_len]; exact h.len, kset_im eim h.im, fun y hy => ?_⟩, by rw [if_pos hx]⟩
    · unfold kput; rw [h1]; rfl
    · rw [kget_kset h.len]
      by_cases q : y = x
      · subst q
        rw [if_pos ⟨rfl, hx⟩]
        exact ⟨e, rfl, by unfold updF; rw [if_pos rfl]; exact he⟩
      · rw [if_neg (fun z => q z.1)]
        obtain ⟨e1, h2, h3⟩ := h.get y hy
        exact ⟨e1, h2, by unfold updF; rw [if_neg q]; exact h3⟩
  · refine ⟨ns ++ [x], vs ++ [e], ?_, ⟨?_, by simp [h.len], by simp [h.im, eim], fun y hy => ?_⟩, by rw [if_neg hx]⟩
    · unfold kput; rw [kget_out hx]; simp
    · rw [List.nodup_append]
      exact ⟨h.nd, by simp, fun a ha b hb => by simp at hb; rw [hb]; rintro rfl; exact hx ha⟩
    · rw [kget_app h.len]
      by_cases q : y ∈ ns
      · rw [if_pos q]
        obtain ⟨e1, h2, h3⟩ := h.get y q
        exact ⟨e1, h2, by unfold updF; rw [if_neg (fun z => hx (by rw [← z]; exact q))]; exact h3⟩
      · rw [if_neg q]
        have e1 : y = x := by
          rcases List.mem_append.mp hy with z | z
          · exact absurd z q
          · simpa using z
        subst e1
        exact ⟨e, by simp [kget], by unfold updF; rw [if_pos rfl]; exact he⟩
theorem DN.nil {F : Str → Rat} : DN [] [] F := ⟨by simp, rfl, rfl, fun x h => by simp at h⟩
theorem DN.congr {ns : List Str} {vs : List D} {F G : Str → Rat} (h : DN ns vs F) (e : ∀ x ∈ ns, F x = G x) : DN ns vs G := ⟨h.nd, h.len, h.im, fun x hx => by
  obtain ⟨d, h1, h2⟩ := h.get x hx
  exact ⟨d, h1, by rw [← e x hx]; exact h2⟩⟩
end RF
set_option maxRecDepth 100000
set_option maxHeartbeats 0
namespace RF
open PySem PySem.Spec PyProof.Rows L2
def topS (i : Nat) : Stmt := PySem.Challenge.pw_risingfill_k05_bundle_amounts.main.body.getD i (.Pass ⟨0, 0, 0, 0⟩)
def exB (K : PySem.W.Frag) : Bool := [ratB K ((WK K).cl 0),
  empB K,
  freeB K "str",
  freeB K "sorted",
  freeB K "range",
  mkB K ((WK K).cl 17),
  gloB K "Bundle" (.ref ((WK K).cl 17)),
  methB K ((WK K).cl 17) "__getitem__",
  insB K 17,
  ownSB K ((WK K).cl 17) "__getitem__",
  methB K ((WK K).cl 17) "__contains__",
  methB K ((WK K).cl 17) "__setitem__",
  ownSB K ((WK K).cl 17) "__setitem__",
  freeB K "list",
  gloB K "Ratio" (.ref ((WK K).cl 0)),
  PySem.W.keepIn K (.ref ((WK K).cl 0)),
  freeB K "int",
  freeB K "min",
  smetB K "Bundle" "single",
  freeB K "len",
  freeB K "abs",
  freeB K "sum",
  xinB K ((WK K).cl 2),
  gloB K "ZeroBottom" (.ref ((WK K).cl 2)),
  gloB K "gcd" (.builtin "math.gcd"),
  ownCB K ((WK K).cl 0) "__lt__",
  ownCB K ((WK K).cl 0) "__gt__",
  xifB K 9 8,
  methB K ((WK K).cl 8) "__init__",
  gloB K "InvalidAmount" (.ref ((WK K).cl 9)),
  methB K ((WK K).cl 17) "__iter__",
  freeB K "iter",
  isiB K ((WK K).cl 0) [.ref ((WK K).cl 0)] isRat,
  freeB K "isinstance",
  freeB K "super",
  isoB K [17] [] (.ref ((WK K).cl 17)),
  methB K ((WK K).cl 17) "__len__",
  isiB K ((WK K).cl 0) [.type "int"] isInt,
  isiB K ((WK K).cl 0) [.type "bool"] isBool,
  freeB K "bool",
  isexB K (WK K) [11] [1, 2, 3, 4, 6, 8, 9, 10, 12] (.ref ((WK K).cl 11)),
  gloB K "FlatMeasure" (.ref ((WK K).cl 11)),
  isexB K (WK K) [12] [1, 2, 3, 4, 6, 8, 9, 10, 11] (.ref ((WK K).cl 12)),
  gloB K "UnknownGood" (.ref ((WK K).cl 12)),
  isexB K (WK K) [10] [1, 2, 3, 4, 6, 8, 9, 12, 11] (.ref ((WK K).cl 10)),
  gloB K "Shortage" (.ref ((WK K).cl 10)),
  isexB K (WK K) [9] [1, 2, 3, 4, 6, 8, 10, 12, 11] (.ref ((WK K).cl 9)),
  isexB K (WK K) [1, 2, 3, 4, 6, 8, 9, 10, 12, 11] [] (.ref ((WK K).cl 1)),
  gloB K "FillError" (.ref ((WK K).cl 1)),
  xfsB K "good" [8, 9, 10, 12, 11],
  exmB K (WK K) [8, 9, 10, 12, 11] [1, 2, 3, 4, 6] (.ref ((WK K).cl 8)),
  gloB K "GoodError" (.ref ((WK K).cl 8)),
  exmB K (WK K) [9] [1, 2, 3, 4, 6, 8, 10, 12, 11] (.ref ((WK K).cl 9)),
  gloB K "_law_tape" (.ref (He.ga K "_law_tape")),
  gloB K "_law_take" (.ref (He.ga K "_law_take")),
  gloB K "_law_word" (.ref (He.ga K "_law_word")),
  gloB K "_law_names" (.ref (He.ga K "_law_names")),
  gloB K "_law_gcd" (.ref (He.ga K "_law_gcd")),
  gloB K "_law_low" (.ref (He.ga K "_law_low")),
  gloB K "_law_amount" (.ref (He.ga K "_law_amount")),
  gloB K "_law_need" (.ref (He.ga K "_law_need")),
  gloB K "_law_number" (.ref (He.ga K "_law_number")),
  gloB K "_law_dict" (.ref (He.ga K "_law_dict")),
  gloB K "ordered" (.ref (He.ga K "ordered")),
  gloB K "as_ratio" (.ref (He.ga K "as_ratio")),
  gloB K "_law_whole" (.ref (He.ga K "_law_whole")),
  gloB K "_law_pair" (.ref (He.ga K "_law_pair")),
  gloB K "_law_read" (.ref (He.ga K "_law_read")),
  gloB K "_law_set_refused" (.ref (He.ga K "_law_set_refused")),
  gloB K "_law_made_refused" (.ref (He.ga K "_law_made_refused")),
  gloB K "_law_single_refused" (.ref (He.ga K "_law_single_refused")),
  gloB K "law" (.ref (He.ga K "law")),
  supB PySem.Challenge.rw_risingfill_k05_bundle_amounts.prog.main.file K (adrOf (PySem.W.findIn K (.ref ((WK K).cl 8)) "__init__")) ((WK K).cl 8) "GoodError.__init__",
  stB K (smA "Bundle" "single" K) "Bundle.single" [.int 1]].all id
def dD_l_tape : He.DefD := ⟨("_law_tape", none), "_law_tape", "_law_tape", defArgs (topS 19), defBody (topS 19), defScope (topS 19), [], []⟩
def dD_l_take : He.DefD := ⟨("_law_take", none), "_law_take", "_law_take", defArgs (topS 20), defBody (topS 20), defScope (topS 20), [], []⟩
def dD_l_word : He.DefD := ⟨("_law_word", none), "_law_word", "_law_word", defArgs (topS 25), defBody (topS 25), defScope (topS 25), [], []⟩
def dD_l_names : He.DefD := ⟨("_law_names", none), "_law_names", "_law_names", defArgs (topS 26), defBody (topS 26), defScope (topS 26), [], []⟩
def dD_l_gcd : He.DefD := ⟨("_law_gcd", none), "_law_gcd", "_law_gcd", defArgs (topS 22), defBody (topS 22), defScope (topS 22), [], []⟩
def dD_l_low : He.DefD := ⟨("_law_low", none), "_law_low", "_law_low", defArgs (topS 23), defBody (topS 23), defScope (topS 23), [], []⟩
def dD_l_amount : He.DefD := ⟨("_law_amount", none), "_law_amount", "_law_amount", defArgs (topS 27), defBody (topS 27), defScope (topS 27), [], []⟩
def dD_l_need : He.DefD := ⟨("_law_need", none), "_law_need", "_law_need", defArgs (topS 28), defBody (topS 28), defScope (topS 28), [], []⟩
def dD_Ratio_init : He.DefD := ⟨("Ratio", some "__init__"), "__init__", "Ratio.__init__", defArgs (inClass (topS 13) 1), defBody (inClass (topS 13) 1), defScope (inClass (topS 13) 1), [.int 1], []⟩
def dD_l_number : He.DefD := ⟨("_law_number", none), "_law_number", "_law_number", defArgs (topS 29), defBody (topS 29), defScope (topS 29), [], []⟩
def dD_l_dict : He.DefD := ⟨("_law_dict", none), "_law_dict", "_law_dict", defArgs (topS 30), defBody (topS 30), defScope (topS 30), [], []⟩
def dD_Bundle_iter : He.DefD := ⟨("Bundle", some "__iter__"), "__iter__", "Bundle.__iter__", defArgs (inClass (topS 17) 4), defBody (inClass (topS 17) 4), defScope (inClass (topS 17) 4), [], []⟩
def dD_ordered : He.DefD := ⟨("ordered", none), "ordered", "ordered", defArgs (topS 16), defBody (topS 16), defScope (topS 16), [], []⟩
def dD_as_ratio : He.DefD := ⟨("as_ratio", none), "as_ratio", "as_ratio", defArgs (topS 14), defBody (topS 14), defScope (topS 14), [], []⟩
def dD_Ratio_lt : He.DefD := ⟨("Ratio", some "__lt__"), "__lt__", "Ratio.__lt__", defArgs (inClass (topS 13) 18), defBody (inClass (topS 13) 18), defScope (inClass (topS 13) 18), [], []⟩
def dD_Ratio_gt : He.DefD := ⟨("Ratio", some "__gt__"), "__gt__", "Ratio.__gt__", defArgs (inClass (topS 13) 20), defBody (inClass (topS 13) 20), defScope (inClass (topS 13) 20), [], []⟩
def dD_Bundle_getitem : He.DefD := ⟨("Bundle", some "__getitem__"), "__getitem__", "Bundle.__getitem__", defArgs (inClass (topS 17) 2), defBody (inClass (topS 17) 2), defScope (inClass (topS 17) 2), [], []⟩
def xD_GoodError_init : XD := ⟨fun K => adrOf (PySem.W.findIn K (.ref ((WK K).cl 8)) "__init__"), "__init__", "GoodError.__init__", defArgs (inClass (topS 7) 0), defBody (inClass (topS 7) 0), defScope (inClass (topS 7) 0), ["__class__"]⟩
def dD_Bundle_init : He.DefD := ⟨("Bundle", some "__init__"), "__init__", "Bundle.__init__", defArgs (inClass (topS 17) 0), defBody (inClass (topS 17) 0), defScope (inClass (topS 17) 0), [.adr (He.dflAt ("Bundle", some "__init__") 0)], []⟩
def dD_l_whole : He.DefD := ⟨("_law_whole", none), "_law_whole", "_law_whole", defArgs (topS 21), defBody (topS 21), defScope (topS 21), [], []⟩
def dD_l_pair : He.DefD := ⟨("_law_pair", none), "_law_pair", "_law_pair", defArgs (topS 24), defBody (topS 24), defScope (topS 24), [], []⟩
def dD_Bundle_len : He.DefD := ⟨("Bundle", some "__len__"), "__len__", "Bundle.__len__", defArgs (inClass (topS 17) 6), defBody (inClass (topS 17) 6), defScope (inClass (topS 17) 6), [], []⟩
def dD_l_read : He.DefD := ⟨("_law_read", none), "_law_read", "_law_read", defArgs (topS 31), defBody (topS 31), defScope (topS 31), [], []⟩
def dD_Bundle_contains : He.DefD := ⟨("Bundle", some "__contains__"), "__contains__", "Bundle.__contains__", defArgs (inClass (topS 17) 5), defBody (inClass (topS 17) 5), defScope (inClass (topS 17) 5), [], []⟩
def dD_Bundle_setitem : He.DefD := ⟨("Bundle", some "__setitem__"), "__setitem__", "Bundle.__setitem__", defArgs (inClass (topS 17) 3), defBody (inClass (topS 17) 3), defScope (inClass (topS 17) 3), [], []⟩
def dD_l_set_refused : He.DefD := ⟨("_law_set_refused", none), "_law_set_refused", "_law_set_refused", defArgs (topS 32), defBody (topS 32), defScope (topS 32), [], []⟩
def dD_l_made_refused : He.DefD := ⟨("_law_made_refused", none), "_law_made_refused", "_law_made_refused", defArgs (topS 33), defBody (topS 33), defScope (topS 33), [], []⟩
def xD_Bundle_single : XD := ⟨smA "Bundle" "single", "single", "Bundle.single", defArgs (inClass (topS 17) 1), defBody (inClass (topS 17) 1), defScope (inClass (topS 17) 1), []⟩
def dD_l_single_refused : He.DefD := ⟨("_law_single_refused", none), "_law_single_refused", "_law_single_refused", defArgs (topS 34), defBody (topS 34), defScope (topS 34), [], []⟩
def dD_law : He.DefD := ⟨("law", none), "law", "law", defArgs (topS 35), defBody (topS 35), defScope (topS 35), [], []⟩
def fnL : List He.DefD := [dD_l_tape, dD_l_take, dD_l_word, dD_l_names, dD_l_gcd, dD_l_low, dD_l_amount, dD_l_need, dD_Ratio_init, dD_l_number, dD_l_dict, dD_Bundle_iter, dD_ordered, dD_as_ratio, dD_Ratio_lt, dD_Ratio_gt, dD_Bundle_getitem, dD_Bundle_init, dD_l_whole, dD_l_pair, dD_Bundle_len, dD_l_read, dD_Bundle_contains, dD_Bundle_setitem, dD_l_set_refused, dD_l_made_refused, dD_l_single_refused, dD_law]
def xdL : List XD := [xD_GoodError_init, xD_Bundle_single]
abbrev HR : PySem.W.OpenRow := PySem.W.OpenLaw.row PySem.Challenge.rw_risingfill_k05_bundle_amounts
abbrev qv : Program := PySem.W.view HR.prog [0, 35]
def hnames : List PySem.Str := ([("FillError" : PySem.Str), ("ZeroBottom" : PySem.Str), ("ZeroDivisor" : PySem.Str), ("InvalidFactor" : PySem.Str), ("EmptyDemand" : PySem.Str), ("GoodError" : PySem.Str), ("InvalidAmount" : PySem.Str), ("Shortage" : PySem.Str), ("UnknownGood" : PySem.Str), ("FlatMeasure" : PySem.Str), ("Ratio" : PySem.Str), ("as_ratio" : PySem.Str), ("ordered" : PySem.Str), ("Bundle" : PySem.Str), ("_law_tape" : PySem.Str), ("_law_take" : PySem.Str), ("_law_whole" : PySem.Str), ("_law_gcd" : PySem.Str), ("_law_low" : PySem.Str), ("_law_pair" : PySem.Str), ("_law_word" : PySem.Str), ("_law_names" : PySem.Str), ("_law_amount" : PySem.Str), ("_law_need" : PySem.Str), ("_law_number" : PySem.Str), ("_law_dict" : PySem.Str), ("_law_read" : PySem.Str), ("_law_set_refused" : PySem.Str), ("_law_made_refused" : PySem.Str), ("_law_single_refused" : PySem.Str)] : List PySem.Str)
abbrev hkF : PySem.W.Hook := hookX 6 fnL xdL exB
def obH (s : PySem.W.SharedT) : AlG := obsX 6 fnL xdL exB (HandSHeadRun.getT s)
theorem obH_eq (s : PySem.W.SharedT) : obH s = hkF.obs s.abs := obsX_eq (HandSHeadRun.getT_eq s)
theorem hrun (w : World) : HandSHeadRun.RunEqI HR qv hkF obH 12000 hnames w := by
  unfold HandSHeadRun.RunEqI
  kernel_rfl
end RF
set_option maxRecDepth 100000
set_option maxHeartbeats 4000000
namespace RF
open PySem PySem.Spec PyProof.Rows L2
structure Txt (K : PySem.W.Frag) (mg : Str → Option Value) (W : Wd) : Prop where
  rc : RatC K (W.cl 0) (adrOf (PySem.W.findIn K (.ref (W.cl 0)) "top")) (adrOf (PySem.W.findIn K (.ref (W.cl 0)) "bottom")) (adrOf (PySem.W.findIn K (.ref (W.cl 0)) "__init__"))
  emp : EmpT K W
  no_str : mg "str" = none
  no_sorted : mg "sorted" = none
  no_range : mg "range" = none
  mk_17 : Mk K (W.cl 17) (adrOf (PySem.W.findIn K (.ref (W.cl 17)) "__init__"))
  mg_Bundle : mg "Bundle" = some (.ref (W.cl 17))
  wf : W.fld = fldNames
  mth_17_getitem : Meth K (W.cl 17) "__getitem__" (adrOf (PySem.W.findIn K (.ref (W.cl 17)) "__getitem__"))
  ic_17 : InsC K W 17
  os_17_getitem : OwnS K (W.cl 17) "__getitem__"
  mth_17_contains : Meth K (W.cl 17) "__contains__" (adrOf (PySem.W.findIn K (.ref (W.cl 17)) "__contains__"))
  mth_17_setitem : Meth K (W.cl 17) "__setitem__" (adrOf (PySem.W.findIn K (.ref (W.cl 17)) "__setitem__"))
  os_17_setitem : OwnS K (W.cl 17) "__setitem__"
  no_list : mg "list" = none
  mg_Ratio : mg "Ratio" = some (.ref (W.cl 0))
  kp_Ratio : PySem.W.keepIn K (.ref (W.cl 0)) = true
  no_int : mg "int" = none
  no_min : mg "min" = none
  sm_Bundle_single : SMet K (W.cl 17) "single" (.type "type") (He.ma K (He.ga K "Bundle") "single") (smA "Bundle" "single" K)
  no_len : mg "len" = none
  no_abs : mg "abs" = none
  no_sum : mg "sum" = none
  xi_ZeroBottom : XIn K (W.cl 2)
  mg_ZeroBottom : mg "ZeroBottom" = some (.ref (W.cl 2))
  mg_gcd : mg "gcd" = some (.builtin "math.gcd")
  oc_lt : OwnC K (W.cl 0) "__lt__" (adrOf (PySem.W.findIn K (.ref (W.cl 0)) "__lt__"))
  oc_gt : OwnC K (W.cl 0) "__gt__" (adrOf (PySem.W.findIn K (.ref (W.cl 0)) "__gt__"))
  xif_9 : XIf K W 9 8
  mth_8_init : Meth K (W.cl 8) "__init__" (adrOf (PySem.W.findIn K (.ref (W.cl 8)) "__init__"))
  mg_InvalidAmount : mg "InvalidAmount" = some (.ref (W.cl 9))
  mth_17_iter : Meth K (W.cl 17) "__iter__" (adrOf (PySem.W.findIn K (.ref (W.cl 17)) "__iter__"))
  no_iter : mg "iter" = none
  is_Ratio : IsiOk K (W.cl 0) isRat [.ref (W.cl 0)]
  no_isinstance : mg "isinstance" = none
  no_super : mg "super" = none
  io_17 : IsO K W [17] [] (.ref (W.cl 17))
  mth_17_len : Meth K (W.cl 17) "__len__" (adrOf (PySem.W.findIn K (.ref (W.cl 17)) "__len__"))
  is_int : IsiOk K (W.cl 0) isInt [.type "int"]
  is_bool : IsiOk K (W.cl 0) isBool [.type "bool"]
  no_bool : mg "bool" = none
  ie_FlatMeasure : IsEx K W (exT [11] [1, 2, 3, 4, 6, 8, 9, 10, 12]) (.ref (W.cl 11))
  mg_FlatMeasure : mg "FlatMeasure" = some (.ref (W.cl 11))
  ie_UnknownGood : IsEx K W (exT [12] [1, 2, 3, 4, 6, 8, 9, 10, 11]) (.ref (W.cl 12))
  mg_UnknownGood : mg "UnknownGood" = some (.ref (W.cl 12))
  ie_Shortage : IsEx K W (exT [10] [1, 2, 3, 4, 6, 8, 9, 12, 11]) (.ref (W.cl 10))
  mg_Shortage : mg "Shortage" = some (.ref (W.cl 10))
  ie_InvalidAmount : IsEx K W (exT [9] [1, 2, 3, 4, 6, 8, 10, 12, 11]) (.ref (W.cl 9))
  ie_FillError : IsEx K W (exT [1, 2, 3, 4, 6, 8, 9, 10, 12, 11] []) (.ref (W.cl 1))
  mg_FillError : mg "FillError" = some (.ref (W.cl 1))
  xf_good : XFs K W "good" [8, 9, 10, 12, 11]
  xm_GoodError : Exm K W (exT [8, 9, 10, 12, 11] [1, 2, 3, 4, 6]) (.ref (W.cl 8))
  mg_GoodError : mg "GoodError" = some (.ref (W.cl 8))
  xm_InvalidAmount : Exm K W (exT [9] [1, 2, 3, 4, 6, 8, 10, 12, 11]) (.ref (W.cl 9))
section
variable {P : Program} {w : World} {K : PySem.W.Frag} {mg : Str → Option Value} {base : Heap} {W : Wd}
theorem sc_l_tape : FnScope ["_law_script", "_law_seed", "_law_k"] ["_law_script"] (defScope (topS 19)) := ⟨rfl, rfl, rfl, by decide +kernel, rfl, by decide +kernel, by decide +kernel⟩
def r_l_tape (W : Wd) : TSa :=
    (aSeq (aSet 1 (aCall raSum (aCons (aLc (aRng1 (aCons (aCall raLen (aCons (aVar 0) aNil)) aNil)) (aGN 2) aYes (aOp raMul0 (aCall raAbs (aCons (aOp raIxS (aVar 0) (aVar 2)) aNil)) (aOp raAdd0 (aVar 2) (aC (.int 1)))) [2]) aNil)))
    (aRet (aLst (aCons (aCall raListF (aCons (aVar 0) aNil)) (aCons (aC (.int 0)) (aCons (aC (.int 0)) (aCons (aC (.int 0)) (aCons (aOp raMod0 (aCall raInt (aCons (aVar 1) aNil)) (aC (.int 2147483647))) aNil))))))))
theorem ok_l_tape (T : Txt K mg W)  {f : Addr} {fd : FuncData} {dvs : List V} {kws : List (Str × V)} {S : SpA} (F : FunD K "_law_tape" "_law_tape" (defArgs (topS 19)) (defBody (topS 19)) (defScope (topS 19)) dvs kws f fd) (hS : Keeps 1 3 S (r_l_tape W)) : FnOk P w K mg base (L2.CX P w) 3 f fd ["_law_script"] (spOf W S) :=
  have nd := sc_l_tape.nd
  ok_by F sc_l_tape hS fun cdv A outer s H E hr hu tk po => by
    exact (ss_cons (sa_set (i := 1) nd rfl (Or.inl rfl) (ea_callB (ca_sum rfl) T.no_sum bt_sum (aa_cons (ea_lc (own := [("_law_k", 2)]) (g := gName 2) rfl nd (ia_range1 T.no_range (aa_cons (ea_callB ca_len T.no_len bt_len (aa_cons (ea_var 0) aa_nil)) aa_nil)) (blkOk_by (N := ["_law_script", "_law_seed", "_law_k"]) (sc := defScope (topS 19)) (by decide +kernel)) (fun _ _ _ _ _ => pg_name (i := 2) nd rfl (Or.inl rfl)) (gk_name (by decide)) (fun _ _ _ _ _ => ts_nil) (fun _ _ _ _ _ => (ea_op oa_mul0 (ea_callB ca_abs T.no_abs bt_abs (aa_cons (ea_ix ixa_seq (ea_var 0) (ea_var 2)) aa_nil)) (ea_op oa_add0 (ea_var 2) ea_int)))) aa_nil)))
      (ss_one (sa_ret (ea_lst (aa_cons (ea_callTy ca_listF T.no_list bt_list (aa_cons (ea_var 0) aa_nil)) (aa_cons ea_int (aa_cons ea_int (aa_cons ea_int (aa_cons (ea_op oa_mod0 (ea_callTy ca_int T.no_int bt_int (aa_cons (ea_var 1) aa_nil)) ea_int) aa_nil)))))))))
theorem sc_l_take : FnScope ["_law_tape_here", "_law_many", "_law_fresh", "_law_value", "_law_digit"] ["_law_tape_here", "_law_many"] (defScope (topS 20)) := ⟨rfl, rfl, rfl, by decide +kernel, rfl, by decide +kernel, by decide +kernel⟩
def r_l_take (W : Wd) : TSa :=
    (aSeq (sSub raSetL (aVar 0) (aC (.int 3)) (aOp raAdd0 (aOp raIxS (aVar 0) (aC (.int 3))) (aC (.int 1))))
    (aSeq (aSet 2 (aAndV (aOp raEq (aOp raIxS (aVar 0) (aC (.int 2))) (aC (.int 0))) (aOp raLt0 (aOp raIxS (aVar 0) (aC (.int 1))) (aCall raLen (aCons (aOp raIxS (aVar 0) (aC (.int 0))) aNil)))))
    (aSeq (aIfS (aTst (aVar 2)) (aSeq (sSub raSetL (aVar 0) (aC (.int 2)) (aCall raAbs (aCons (aOp raIxS (aOp raIxS (aVar 0) (aC (.int 0))) (aOp raIxS (aVar 0) (aC (.int 1)))) aNil)))
    (sSub raSetL (aVar 0) (aC (.int 1)) (aOp raAdd0 (aOp raIxS (aVar 0) (aC (.int 1))) (aC (.int 1))))) aNext)
    (aSeq (aIfS (aOr (aTst (aVar 2)) (aTst (aOp raGt0 (aOp raIxS (aVar 0) (aC (.int 2))) (aC (.int 0))))) (aSeq (aSet 4 (aOp raMod0 (aCall raInt (aCons (aOp raIxS (aVar 0) (aC (.int 2))) aNil)) (aVar 1)))
    (aSeq (sSub raSetL (aVar 0) (aC (.int 2)) (aOp raDiv0 (aOp raIxS (aVar 0) (aC (.int 2))) (aVar 1)))
    (aRet (aVar 4)))) aNext)
    (aSeq (aSet 3 (aOp raMul0 (aOp raIxS (aVar 0) (aC (.int 3))) (aOp raAdd0 (aOp raIxS (aVar 0) (aC (.int 3))) (aOp raIxS (aVar 0) (aC (.int 4))))))
    (aSeq (aIfS (aTst (aOp raGt0 (aOp raIxS (aVar 0) (aC (.int 4))) (aC (.int 0)))) (aSeq (aSet 3 (aOp raMod0 (aCall raInt (aCons (aOp raAdd0 (aOp raMul0 (aVar 3) (aC (.int 48271))) (aOp raIxS (aVar 0) (aC (.int 4)))) aNil)) (aC (.int 2147483647))))
    (aSet 3 (aOp raDiv0 (aOp raMod0 (aCall raInt (aCons (aOp raAdd0 (aOp raMul0 (aVar 3) (aC (.int 16807))) (aOp raIxS (aVar 0) (aC (.int 3)))) aNil)) (aC (.int 2147483629))) (aC (.int 8))))) aNext)
    (aRet (aOp raMod0 (aCall raInt (aCons (aVar 3) aNil)) (aVar 1)))))))))
theorem ok_l_take (T : Txt K mg W)  {f : Addr} {fd : FuncData} {dvs : List V} {kws : List (Str × V)} {S : SpA} (F : FunD K "_law_take" "_law_take" (defArgs (topS 20)) (defBody (topS 20)) (defScope (topS 20)) dvs kws f fd) (hS : Keeps 2 5 S (r_l_take W)) : FnOk P w K mg base (L2.CX P w) 3 f fd ["_law_tape_here", "_law_many"] (spOf W S) :=
  have nd := sc_l_take.nd
  ok_by F sc_l_take hS fun cdv A outer s H E hr hu tk po => by
    exact (ss_cons (sa_sub seta_list (ea_var 0) ea_int (ea_op oa_add0 (ea_ix ixa_seq (ea_var 0) ea_int) ea_int))
      (ss_cons (sa_set (i := 2) nd rfl (Or.inl rfl) (ea_and (ea_cmp (oa_eq hu) (ea_ix ixa_seq (ea_var 0) ea_int) ea_int) (ea_one (ea_cmp oa_lt0 (ea_ix ixa_seq (ea_var 0) ea_int) (ea_callB ca_len T.no_len bt_len (aa_cons (ea_ix ixa_seq (ea_var 0) ea_int) aa_nil))))))
      (ss_cons (sa_if (ta_val (ea_var 2)) (ss_cons (sa_sub seta_list (ea_var 0) ea_int (ea_callB ca_abs T.no_abs bt_abs (aa_cons (ea_ix ixa_seq (ea_ix ixa_seq (ea_var 0) ea_int) (ea_ix ixa_seq (ea_var 0) ea_int)) aa_nil)))
      (ss_one (sa_sub seta_list (ea_var 0) ea_int (ea_op oa_add0 (ea_ix ixa_seq (ea_var 0) ea_int) ea_int)))) ss_nil)
      (ss_cons (sa_if (wa_or (ta_val (ea_var 2)) (wa_or1 (ta_cmp oa_gt0 (ea_ix ixa_seq (ea_var 0) ea_int) ea_int))).ta (ss_cons (sa_set (i := 4) nd rfl (Or.inl rfl) (ea_op oa_mod0 (ea_callTy ca_int T.no_int bt_int (aa_cons (ea_ix ixa_seq (ea_var 0) ea_int) aa_nil)) (ea_var 1)))
      (ss_cons (sa_sub seta_list (ea_var 0) ea_int (ea_op oa_div0 (ea_ix ixa_seq (ea_var 0) ea_int) (ea_var 1)))
      (ss_one (sa_ret (ea_var 4))))) ss_nil)
      (ss_cons (sa_set (i := 3) nd rfl (Or.inl rfl) (ea_op oa_mul0 (ea_ix ixa_seq (ea_var 0) ea_int) (ea_op oa_add0 (ea_ix ixa_seq (ea_var 0) ea_int) (ea_ix ixa_seq (ea_var 0) ea_int))))
      (ss_cons (sa_if (ta_cmp oa_gt0 (ea_ix ixa_seq (ea_var 0) ea_int) ea_int) (ss_cons (sa_set (i := 3) nd rfl (Or.inl rfl) (ea_op oa_mod0 (ea_callTy ca_int T.no_int bt_int (aa_cons (ea_op oa_add0 (ea_op oa_mul0 (ea_var 3) ea_int) (ea_ix ixa_seq (ea_var 0) ea_int)) aa_nil)) ea_int))
      (ss_one (sa_set (i := 3) nd rfl (Or.inl rfl) (ea_op oa_div0 (ea_op oa_mod0 (ea_callTy ca_int T.no_int bt_int (aa_cons (ea_op oa_add0 (ea_op oa_mul0 (ea_var 3) ea_int) (ea_ix ixa_seq (ea_var 0) ea_int)) aa_nil)) ea_int) ea_int)))) ss_nil)
      (ss_one (sa_ret (ea_op oa_mod0 (ea_callTy ca_int T.no_int bt_int (aa_cons (ea_var 3) aa_nil)) (ea_var 1))))))))))
theorem sc_l_word : FnScope ["_law_number_here", "_law_signs", "_law_word_here", "_law_k"] ["_law_number_here"] (defScope (topS 25)) := ⟨rfl, rfl, rfl, by decide +kernel, rfl, by decide +kernel, by decide +kernel⟩
def r_l_word (W : Wd) : TSa :=
    (aSeq (aSet 1 (aC (.str "0123456789ABCDEFGHIJKLMNOPQRSTUVWXYZ_abcdefghijklmnopqrstuvwxyz")))
    (aSeq (aSet 2 (aC (.str "")))
    (aSeq (aFor (aRng1 (aCons (aC (.int 8)) aNil)) (aGN 3) (aIfS (aTst (aOp raGt0 (aVar 0) (aC (.int 0)))) (aSeq (aSet 2 (aOp raAddC (aVar 2) (aOp raIx1 (aVar 1) (aOp raMod0 (aCall raInt (aCons (aOp raSub0 (aVar 0) (aC (.int 1))) aNil)) (aC (.int 63))))))
    (aSet 0 (aOp raDiv0 (aOp raSub0 (aVar 0) (aC (.int 1))) (aC (.int 63))))) aNext))
    (aRet (aVar 2)))))
theorem ok_l_word (T : Txt K mg W)  {f : Addr} {fd : FuncData} {dvs : List V} {kws : List (Str × V)} {S : SpA} (F : FunD K "_law_word" "_law_word" (defArgs (topS 25)) (defBody (topS 25)) (defScope (topS 25)) dvs kws f fd) (hS : Keeps 1 4 S (r_l_word W)) : FnOk P w K mg base (L2.CX P w) 3 f fd ["_law_number_here"] (spOf W S) :=
  have nd := sc_l_word.nd
  ok_by F sc_l_word hS fun cdv A outer s H E hr hu tk po => by
    exact (ss_cons (sa_set (i := 1) nd rfl (Or.inl rfl) ea_str)
      (ss_cons (sa_set (i := 2) nd rfl (Or.inl rfl) ea_str)
      (ss_cons (sa_for po rfl (ia_range1 T.no_range (aa_cons ea_int aa_nil)) (ga_name (i := 3) nd rfl (Or.inl rfl)) (ss_one (sa_if (ta_cmp oa_gt0 (ea_var 0) ea_int) (ss_cons (sa_set (i := 2) nd rfl (Or.inl rfl) (ea_op oa_addC (ea_var 2) (ea_ix (ixa_1 hu) (ea_var 1) (ea_op oa_mod0 (ea_callTy ca_int T.no_int bt_int (aa_cons (ea_op oa_sub0 (ea_var 0) ea_int) aa_nil)) ea_int))))
      (ss_one (sa_set (i := 0) nd rfl (Or.inl rfl) (ea_op oa_div0 (ea_op oa_sub0 (ea_var 0) ea_int) ea_int)))) ss_nil)))
      (ss_one (sa_ret (ea_var 2))))))
theorem sc_l_names : FnScope ["_law_tape_here", "_law_many", "_law_first", "_law_step", "_law_left", "_law_names_here", "_law_k", "_law_place"] ["_law_tape_here", "_law_many"] (defScope (topS 26)) := ⟨rfl, rfl, rfl, by decide +kernel, rfl, by decide +kernel, by decide +kernel⟩
def r_l_names (W : Wd) (S_l_take : SpA) (S_l_word : SpA) : TSa :=
    (aSeq (aSet 2 (aOp raAddC (aC (.int 1)) (aCall (raCall S_l_take) (aCons (aVar 0) (aCons (aOp raIx1 (aFl (aCons (aOp raPow0 (aC (.int 10)) (aC (.int 9))) (aCons (aC (.int 200)) aNil))) (aCall (raCall S_l_take) (aCons (aVar 0) (aCons (aC (.int 2)) aNil)))) aNil)))))
    (aSeq (aSet 3 (aOp raMul0 (aOp raIx1 (aFl (aCons (aC (.int 1)) (aCons (aC (.int 63)) (aCons (aC (.int 3969)) (aCons (aC (.int 250047)) aNil))))) (aCall (raCall S_l_take) (aCons (aVar 0) (aCons (aC (.int 4)) aNil)))) (aOp raAddC (aC (.int 1)) (aCall (raCall S_l_take) (aCons (aVar 0) (aCons (aC (.int 5)) aNil))))))
    (aSeq (aSet 4 (aLRg (aVar 1)))
    (aSeq (aSet 5 (aLst aNil))
    (aSeq (aFor (aRng1 (aCons (aVar 1) aNil)) (aGN 6) (aSeq (aSet 7 (aCall (raCall S_l_take) (aCons (aVar 0) (aCons (aCall (raLenU []) (aCons (aVar 4) aNil)) aNil))))
    (aSeq (aDrop (aBm isLst raAppend (aVar 5) (aCons (aCall (raCall S_l_word) (aCons (aOp raAddC (aVar 2) (aOp raMul0 (aVar 3) (aOp raIx1 (aVar 4) (aVar 7)))) aNil)) aNil)))
    (aSet 4 (aOp raAddC (aSl (aVar 4) aPN (aPS (aVar 7))) (aSl (aVar 4) (aPS (aOp raAddC (aVar 7) (aC (.int 1)))) aPN))))))
    (aRet (aFrz (aVar 5))))))))
theorem ok_l_names (T : Txt K mg W) {S_l_take : SpA} {S_l_word : SpA} (h_l_take : Has P w K mg base W "_law_take" 3 S_l_take) (h_l_word : Has P w K mg base W "_law_word" 3 S_l_word) {f : Addr} {fd : FuncData} {dvs : List V} {kws : List (Str × V)} {S : SpA} (F : FunD K "_law_names" "_law_names" (defArgs (topS 26)) (defBody (topS 26)) (defScope (topS 26)) dvs kws f fd) (hS : Keeps 2 8 S (r_l_names W S_l_take S_l_word)) : FnOk P w K mg base (L2.CX P w) 4 f fd ["_law_tape_here", "_law_many"] (spOf W S) :=
  have nd := sc_l_names.nd
  ok_by F sc_l_names hS fun cdv A outer s H E hr hu tk po => by
    exact (ss_cons (sa_set (i := 2) nd rfl (Or.inl rfl) (ea_op oa_addC ea_int (ea_callH h_l_take hr tk (aa_cons (ea_var 0) (aa_cons (ea_ix (ixa_1 hu) (ea_fl (aa_cons (ea_op oa_pow0 ea_int ea_int) (aa_cons ea_int aa_nil))) (ea_callH h_l_take hr tk (aa_cons (ea_var 0) (aa_cons ea_int aa_nil)))) aa_nil)))))
      (ss_cons (sa_set (i := 3) nd rfl (Or.inl rfl) (ea_op oa_mul0 (ea_ix (ixa_1 hu) (ea_fl (aa_cons ea_int (aa_cons ea_int (aa_cons ea_int (aa_cons ea_int aa_nil))))) (ea_callH h_l_take hr tk (aa_cons (ea_var 0) (aa_cons ea_int aa_nil)))) (ea_op oa_addC ea_int (ea_callH h_l_take hr tk (aa_cons (ea_var 0) (aa_cons ea_int aa_nil))))))
      (ss_cons (sa_set (i := 4) nd rfl (Or.inl rfl) (ea_lrg rfl T.no_list T.no_range (ea_var 1)))
      (ss_cons (sa_set (i := 5) nd rfl (Or.inl rfl) (ea_lst aa_nil))
      (ss_cons (sa_for po rfl (ia_range1 T.no_range (aa_cons (ea_var 1) aa_nil)) (ga_name (i := 6) nd rfl (Or.inl rfl)) (ss_cons (sa_set (i := 7) nd rfl (Or.inl rfl) (ea_callH h_l_take hr tk (aa_cons (ea_var 0) (aa_cons (ea_callB (ca_lenU (mt_nil (j := 0)) (hr.mono (by decide)) tk) T.no_len bt_len (aa_cons (ea_var 4) aa_nil)) aa_nil))))
      (ss_cons (sa_expr (ea_bm PySem.F.plainAttrs_list PySem.F.slot_list_append PySem.F.type_list_append ty_lst ma_append (ea_var 5) (aa_cons (ea_callH h_l_word hr tk (aa_cons (ea_op oa_addC (ea_var 2) (ea_op oa_mul0 (ea_var 3) (ea_ix (ixa_1 hu) (ea_var 4) (ea_var 7)))) aa_nil)) aa_nil)))
      (ss_one (sa_set (i := 4) nd rfl (Or.inl rfl) (ea_op oa_addC (ea_sl (ea_var 4) oo_none (oo_some (ea_var 7))) (ea_sl (ea_var 4) (oo_some (ea_op oa_addC (ea_var 7) ea_int)) oo_none)))))))
      (ss_one (sa_ret (ea_frz (ea_var 5)))))))))
theorem sc_l_gcd : FnScope ["_law_a", "_law_b"] ["_law_a", "_law_b"] (defScope (topS 22)) := ⟨rfl, rfl, rfl, by decide +kernel, rfl, by decide +kernel, by decide +kernel⟩
def r_l_gcd (W : Wd) : TSa :=
    (aSeq (aSet 0 (aCall raAbs (aCons (aVar 0) aNil)))
    (aSeq (aSet 1 (aCall raAbs (aCons (aVar 1) aNil)))
    (aSeq (aWh (aTst (aOp raGt0 (aVar 1) (aC (.int 0)))) (aPar 0 1 (aCons (aVar 1) (aCons (aOp raMod0 (aCall raInt (aCons (aVar 0) aNil)) (aVar 1)) aNil))))
    (aRet (aVar 0)))))
theorem ok_l_gcd (T : Txt K mg W)  {f : Addr} {fd : FuncData} {dvs : List V} {kws : List (Str × V)} {S : SpA} (F : FunD K "_law_gcd" "_law_gcd" (defArgs (topS 22)) (defBody (topS 22)) (defScope (topS 22)) dvs kws f fd) (hS : Keeps 2 2 S (r_l_gcd W)) : FnOk P w K mg base (L2.CX P w) 3 f fd ["_law_a", "_law_b"] (spOf W S) :=
  have nd := sc_l_gcd.nd
  ok_by F sc_l_gcd hS fun cdv A outer s H E hr hu tk po => by
    exact (ss_cons (sa_set (i := 0) nd rfl (Or.inl rfl) (ea_callB ca_abs T.no_abs bt_abs (aa_cons (ea_var 0) aa_nil)))
      (ss_cons (sa_set (i := 1) nd rfl (Or.inl rfl) (ea_callB ca_abs T.no_abs bt_abs (aa_cons (ea_var 1) aa_nil)))
      (ss_cons (sa_while po (ta_cmp oa_gt0 (ea_var 1) ea_int) (ss_one (sa_par (i := 0) (j := 1) rfl nd rfl rfl (by decide) rfl rfl (aa_cons (ea_var 1) (aa_cons (ea_op oa_mod0 (ea_callTy ca_int T.no_int bt_int (aa_cons (ea_var 0) aa_nil)) (ea_var 1)) aa_nil)))))
      (ss_one (sa_ret (ea_var 0))))))
theorem sc_l_low : FnScope ["_law_top", "_law_bottom", "_law_common"] ["_law_top", "_law_bottom"] (defScope (topS 23)) := ⟨rfl, rfl, rfl, by decide +kernel, rfl, by decide +kernel, by decide +kernel⟩
def r_l_low (W : Wd) (S_l_gcd : SpA) : TSa :=
    (aSeq (aSet 2 (aCall (raCall S_l_gcd) (aCons (aVar 0) (aCons (aVar 1) aNil))))
    (aRet (aTup (aCons (aOp raDiv0 (aVar 0) (aVar 2)) (aCons (aOp raDiv0 (aVar 1) (aVar 2)) aNil)))))
theorem ok_l_low (T : Txt K mg W) {S_l_gcd : SpA} (h_l_gcd : Has P w K mg base W "_law_gcd" 3 S_l_gcd) {f : Addr} {fd : FuncData} {dvs : List V} {kws : List (Str × V)} {S : SpA} (F : FunD K "_law_low" "_law_low" (defArgs (topS 23)) (defBody (topS 23)) (defScope (topS 23)) dvs kws f fd) (hS : Keeps 2 3 S (r_l_low W S_l_gcd)) : FnOk P w K mg base (L2.CX P w) 4 f fd ["_law_top", "_law_bottom"] (spOf W S) :=
  have nd := sc_l_low.nd
  ok_by F sc_l_low hS fun cdv A outer s H E hr hu tk po => by
    exact (ss_cons (sa_set (i := 2) nd rfl (Or.inl rfl) (ea_callH h_l_gcd hr tk (aa_cons (ea_var 0) (aa_cons (ea_var 1) aa_nil))))
      (ss_one (sa_ret (ea_tup (aa_cons (ea_op oa_div0 (ea_var 0) (ea_var 2)) (aa_cons (ea_op oa_div0 (ea_var 1) (ea_var 2)) aa_nil))))))
theorem sc_l_amount : FnScope ["_law_tape_here", "_law_kind", "_law_top", "_law_bottom"] ["_law_tape_here"] (defScope (topS 27)) := ⟨rfl, rfl, rfl, by decide +kernel, rfl, by decide +kernel, by decide +kernel⟩
def r_l_amount (W : Wd) (S_l_take : SpA) (S_l_low : SpA) : TSa :=
    (aSeq (aSet 1 (aCall (raCall S_l_take) (aCons (aVar 0) (aCons (aC (.int 9)) aNil))))
    (aSeq (aSet 2 (aOp raAdd0 (aC (.int 1)) (aCall (raCall S_l_take) (aCons (aVar 0) (aCons (aOp raIx1 (aFl (aCons (aC (.int 12)) (aCons (aC (.int 12)) (aCons (aC (.int 12)) (aCons (aC (.int 12)) (aCons (aC (.int 12)) (aCons (aC (.int 12)) (aCons (aC (.int 1000)) (aCons (aC (.int 1000)) (aCons (aOp raPow0 (aC (.int 10)) (aC (.int 15))) aNil)))))))))) (aVar 1)) aNil)))))
    (aSeq (aSet 3 (aC (.int 1)))
    (aSeq (aIfS (aTst (aOp raEq (aCall (raCall S_l_take) (aCons (aVar 0) (aCons (aC (.int 4)) aNil))) (aC (.int 3)))) (aSet 3 (aOp raAdd0 (aC (.int 1)) (aCall (raCall S_l_take) (aCons (aVar 0) (aCons (aC (.int 24)) aNil))))) aNext)
    (aRet (aCall (raCall S_l_low) (aCons (aVar 2) (aCons (aVar 3) aNil))))))))
theorem ok_l_amount (T : Txt K mg W) {S_l_take : SpA} {S_l_low : SpA} (h_l_take : Has P w K mg base W "_law_take" 3 S_l_take) (h_l_low : Has P w K mg base W "_law_low" 4 S_l_low) {f : Addr} {fd : FuncData} {dvs : List V} {kws : List (Str × V)} {S : SpA} (F : FunD K "_law_amount" "_law_amount" (defArgs (topS 27)) (defBody (topS 27)) (defScope (topS 27)) dvs kws f fd) (hS : Keeps 1 4 S (r_l_amount W S_l_take S_l_low)) : FnOk P w K mg base (L2.CX P w) 5 f fd ["_law_tape_here"] (spOf W S) :=
  have nd := sc_l_amount.nd
  ok_by F sc_l_amount hS fun cdv A outer s H E hr hu tk po => by
    exact (ss_cons (sa_set (i := 1) nd rfl (Or.inl rfl) (ea_callH h_l_take hr tk (aa_cons (ea_var 0) (aa_cons ea_int aa_nil))))
      (ss_cons (sa_set (i := 2) nd rfl (Or.inl rfl) (ea_op oa_add0 ea_int (ea_callH h_l_take hr tk (aa_cons (ea_var 0) (aa_cons (ea_ix (ixa_1 hu) (ea_fl (aa_cons ea_int (aa_cons ea_int (aa_cons ea_int (aa_cons ea_int (aa_cons ea_int (aa_cons ea_int (aa_cons ea_int (aa_cons ea_int (aa_cons (ea_op oa_pow0 ea_int ea_int) aa_nil)))))))))) (ea_var 1)) aa_nil)))))
      (ss_cons (sa_set (i := 3) nd rfl (Or.inl rfl) ea_int)
      (ss_cons (sa_if (ta_cmp (oa_eq hu) (ea_callH h_l_take hr tk (aa_cons (ea_var 0) (aa_cons ea_int aa_nil))) ea_int) (ss_one (sa_set (i := 3) nd rfl (Or.inl rfl) (ea_op oa_add0 ea_int (ea_callH h_l_take hr tk (aa_cons (ea_var 0) (aa_cons ea_int aa_nil)))))) ss_nil)
      (ss_one (sa_ret (ea_callH h_l_low hr tk (aa_cons (ea_var 2) (aa_cons (ea_var 3) aa_nil)))))))))
theorem sc_l_need : FnScope ["_law_tape_here"] ["_law_tape_here"] (defScope (topS 28)) := ⟨rfl, rfl, rfl, by decide +kernel, rfl, by decide +kernel, by decide +kernel⟩
def r_l_need (W : Wd) (S_l_take : SpA) (S_l_amount : SpA) : TSa :=
    (aSeq (aIfS (aTst (aOp raEq (aCall (raCall S_l_take) (aCons (aVar 0) (aCons (aC (.int 3)) aNil))) (aC (.int 0)))) (aRet (aTup (aCons (aC (.int 0)) (aCons (aC (.int 1)) aNil)))) aNext)
    (aRet (aCall (raCall S_l_amount) (aCons (aVar 0) aNil))))
theorem ok_l_need (T : Txt K mg W) {S_l_take : SpA} {S_l_amount : SpA} (h_l_take : Has P w K mg base W "_law_take" 3 S_l_take) (h_l_amount : Has P w K mg base W "_law_amount" 5 S_l_amount) {f : Addr} {fd : FuncData} {dvs : List V} {kws : List (Str × V)} {S : SpA} (F : FunD K "_law_need" "_law_need" (defArgs (topS 28)) (defBody (topS 28)) (defScope (topS 28)) dvs kws f fd) (hS : Keeps 1 1 S (r_l_need W S_l_take S_l_amount)) : FnOk P w K mg base (L2.CX P w) 6 f fd ["_law_tape_here"] (spOf W S) :=
  have nd := sc_l_need.nd
  ok_by F sc_l_need hS fun cdv A outer s H E hr hu tk po => by
    exact (ss_cons (sa_if (ta_cmp (oa_eq hu) (ea_callH h_l_take hr tk (aa_cons (ea_var 0) (aa_cons ea_int aa_nil))) ea_int) (ss_one (sa_ret (ea_tup (aa_cons ea_int (aa_cons ea_int aa_nil))))) ss_nil)
      (ss_one (sa_ret (ea_callH h_l_amount hr tk (aa_cons (ea_var 0) aa_nil)))))
theorem sc_Ratio_init : FnScope ["self", "top", "bottom", "common"] ["self", "top", "bottom"] (defScope (inClass (topS 13) 1)) := ⟨rfl, rfl, rfl, by decide +kernel, rfl, by decide +kernel, by decide +kernel⟩
theorem ok_Ratio_init (T : Txt K mg W) {f : Addr} {fd : FuncData} {dvs : List V} {kws : List (Str × V)} (F : FunD K "__init__" "Ratio.__init__" (defArgs (inClass (topS 13) 1)) (defBody (inClass (topS 13) 1)) (defScope (inClass (topS 13) 1)) dvs kws f fd) : FnOk P w K mg base (L2.CX P w) 1 f fd ["self", "top", "bottom"] (spRI (W.cl 0) (W.cl 2)) := by
  have nd := sc_Ratio_init.nd
  refine F.ok sc_Ratio_init (fun vs H Q E h => ?_) (fun cdv A outer s H vs Q E hr h => ⟨tRI K (W.cl 2) E, ?_, pure_rinit T.rc h⟩)
  · obtain ⟨p, dx, t, b, rfl, _⟩ := h
    rfl
  · have tk : Takes (cxOf (L2.CX P w) P w K mg base ["self", "top", "bottom", "common"] "Ratio.__init__" (defScope (inClass (topS 13) 1)) f cdv A outer s H E) (fun cls d _ H => E cls d H) := takes_of rfl rfl rfl rfl
    exact pss_cons (ps_if (pt_cmpR op_eq (pv 2) pe_int (nomark _)) (pss_one (ps_raise rfl tk (T.xi_ZeroBottom.pmk T.mg_ZeroBottom))) pss_nil)
      (pss_cons (ps_set (i := 3) nd rfl (Or.inl rfl) (pe_callBfun cr_gcd rfl T.mg_gcd (pa_cons (pv 1) (pa_cons (pv 2) pa_nil))))
      (pss_cons (ps_if (pt_cmpR op_lt (pv 2) pe_int (nomark _)) (pss_one (ps_set (i := 3) nd rfl (Or.inl rfl) (pe_un un_neg (pv 3)))) pss_nil)
      (pss_cons (SlX.ps_sl (pv 0) (pe_op op_fdivF (pv 1) (pv 3)))
      (pss_one (SlX.ps_sl (pv 0) (pe_op op_fdivF (pv 2) (pv 3)))))))
theorem sc_l_number : FnScope ["_law_tape_here", "_law_pair_here"] ["_law_tape_here", "_law_pair_here"] (defScope (topS 29)) := ⟨rfl, rfl, rfl, by decide +kernel, rfl, by decide +kernel, by decide +kernel⟩
def r_l_number (W : Wd) (S_l_take : SpA) : TSa :=
    (aSeq (aIfS (aAnd (aTst (aOp raEq (aOp raIx1 (aVar 1) (aC (.int 1))) (aC (.int 1)))) (aTst (aOp raGt0 (aCall (raCall S_l_take) (aCons (aVar 0) (aCons (aC (.int 3)) aNil))) (aC (.int 0))))) (aRet (aOp raIx1 (aVar 1) (aC (.int 0)))) aNext)
    (aRet (aCall (raRat 2) (aCons (aOp raIx1 (aVar 1) (aC (.int 0))) (aCons (aOp raIx1 (aVar 1) (aC (.int 1))) aNil)))))
theorem ok_l_number (T : Txt K mg W) {S_l_take : SpA} (h_l_take : Has P w K mg base W "_law_take" 3 S_l_take) (h_Ratio_init : FnR P w K mg base (L2.CX P w) 1 (adrOf (PySem.W.findIn K (.ref (W.cl 0)) "__init__")) (spRI2 (W.cl 0) (W.cl 2))) {f : Addr} {fd : FuncData} {dvs : List V} {kws : List (Str × V)} {S : SpA} (F : FunD K "_law_number" "_law_number" (defArgs (topS 29)) (defBody (topS 29)) (defScope (topS 29)) dvs kws f fd) (hS : Keeps 2 2 S (r_l_number W S_l_take)) : FnOk P w K mg base (L2.CX P w) 5 f fd ["_law_tape_here", "_law_pair_here"] (spOf W S) :=
  have nd := sc_l_number.nd
  ok_by F sc_l_number hS fun cdv A outer s H E hr hu tk po => by
    exact (ss_cons (sa_if (wa_and (ta_cmp (oa_eq hu) (ea_ix (ixa_1 hu) (ea_var 1) ea_int) ea_int) (wa_and1 (ta_cmp oa_gt0 (ea_callH h_l_take hr tk (aa_cons (ea_var 0) (aa_cons ea_int aa_nil))) ea_int))).ta (ss_one (sa_ret (ea_ix (ixa_1 hu) (ea_var 1) ea_int))) ss_nil)
      (ss_one (sa_ret (ea_callF (cl_rat (zb := 2) T.rc rfl rfl h_Ratio_init (hr.mono (by decide)) tk) T.mg_Ratio T.kp_Ratio (aa_cons (ea_ix (ixa_1 hu) (ea_var 1) ea_int) (aa_cons (ea_ix (ixa_1 hu) (ea_var 1) ea_int) aa_nil))))))
theorem sc_l_dict : FnScope ["_law_tape_here", "_law_order", "_law_goods", "_law_row", "_law_keep", "_law_told", "_law_name", "_law_pair_here"] ["_law_tape_here", "_law_order", "_law_goods", "_law_row", "_law_keep"] (defScope (topS 30)) := ⟨rfl, rfl, rfl, by decide +kernel, rfl, by decide +kernel, by decide +kernel⟩
def r_l_dict (W : Wd) (S_l_number : SpA) : TSa :=
    (aSeq (aSet 5 aDct0)
    (aSeq (aFor (aIt (aVar 1)) (aGN 6) (aSeq (aSet 7 (aOp raIx1 (aVar 3) (aBm isLst raIndexS (aVar 2) (aCons (aVar 6) aNil))))
    (aIfS (aOr (aTst (aOp raGt0 (aOp raIx1 (aVar 7) (aC (.int 0))) (aC (.int 0)))) (aTst (aVar 4))) (sSub (raSetU []) (aVar 5) (aVar 6) (aCall (raCall S_l_number) (aCons (aVar 0) (aCons (aVar 7) aNil)))) aNext)))
    (aRet (aVar 5))))
theorem ok_l_dict (T : Txt K mg W) {S_l_number : SpA} (h_l_number : Has P w K mg base W "_law_number" 5 S_l_number) {f : Addr} {fd : FuncData} {dvs : List V} {kws : List (Str × V)} {S : SpA} (F : FunD K "_law_dict" "_law_dict" (defArgs (topS 30)) (defBody (topS 30)) (defScope (topS 30)) dvs kws f fd) (hS : Keeps 5 8 S (r_l_dict W S_l_number)) : FnOk P w K mg base (L2.CX P w) 6 f fd ["_law_tape_here", "_law_order", "_law_goods", "_law_row", "_law_keep"] (spOf W S) :=
  have nd := sc_l_dict.nd
  ok_by F sc_l_dict hS fun cdv A outer s H E hr hu tk po => by
    exact (ss_cons (sa_set (i := 5) nd rfl (Or.inl rfl) ea_dct0)
      (ss_cons (sa_for po rfl (ia_list (ea_var 1)) (ga_name (i := 6) nd rfl (Or.inl rfl)) (ss_cons (sa_set (i := 7) nd rfl (Or.inl rfl) (ea_ix (ixa_1 hu) (ea_var 3) (ea_bm PySem.F.plainAttrs_list PySem.F.slot_list_index PySem.F.type_list_index ty_lst ma_indexS (ea_var 2) (aa_cons (ea_var 6) aa_nil))))
      (ss_one (sa_if (wa_or (ta_cmp oa_gt0 (ea_ix (ixa_1 hu) (ea_var 7) ea_int) ea_int) (wa_or1 (ta_val (ea_var 4)))).ta (ss_one (sa_sub (seta_u hu (mt_nil (j := 0)) ownT0 (hr.mono (by decide)) tk) (ea_var 5) (ea_var 6) (ea_callH h_l_number hr tk (aa_cons (ea_var 0) (aa_cons (ea_var 7) aa_nil))))) ss_nil))))
      (ss_one (sa_ret (ea_var 5)))))
theorem sc_Bundle_iter : FnScope ["self"] ["self"] (defScope (inClass (topS 17) 4)) := ⟨rfl, rfl, rfl, by decide +kernel, rfl, by decide +kernel, by decide +kernel⟩
theorem sc_ordered : FnScope ["names", "name"] ["names"] (defScope (topS 16)) := ⟨rfl, rfl, rfl, by decide +kernel, rfl, by decide +kernel, by decide +kernel⟩
def r_ordered (W : Wd) : TSa :=
    (aRet (aCall raSortS (aCons (aLock 0 (aLc (aItU [(17, "amounts")] (aVar 0)) (aGN 1) aYes (aCall (raStr2 aNone0) (aCons (aVar 1) aNil)) [1])) aNil)))
theorem ok_ordered (T : Txt K mg W) (h_Bundle_iter : FnN P w K mg base 1 (adrOf (PySem.W.findIn K (.ref (W.cl 17)) "__iter__")) (spIter K "amounts")) {f : Addr} {fd : FuncData} {dvs : List V} {kws : List (Str × V)} {S : SpA} (F : FunD K "ordered" "ordered" (defArgs (topS 16)) (defBody (topS 16)) (defScope (topS 16)) dvs kws f fd) (hS : Keeps 1 2 S (r_ordered W)) : FnOk P w K mg base (L2.CX P w) 5 f fd ["names"] (spOf W S) :=
  have nd := sc_ordered.nd
  ok_by F sc_ordered hS fun cdv A outer s H E hr hu tk po => by
    exact (ss_one (sa_ret (ea_callB ca_sortS T.no_sorted bt_sorted (aa_cons (ea_lock 0 (ea_lc (own := [("name", 1)]) (g := gName 1) rfl nd (ia_u T.emp (it_cons T.mth_17_iter T.ic_17 h_Bundle_iter (it_nil (j := 1))) (hr.mono (by decide)) tk (ea_var 0)) (blkOk_by (N := ["names", "name"]) (sc := defScope (topS 16)) (by decide +kernel)) (fun _ _ _ _ _ => pg_name (i := 1) nd rfl (Or.inl rfl)) (gk_name (by decide)) (fun _ _ _ _ _ => ts_nil) (fun _ _ _ _ _ => (ea_callTy (ca_str2 ca_none) T.no_str bt_str (aa_cons (ea_var 1) aa_nil))))) aa_nil))))
theorem sc_as_ratio : FnScope ["number"] ["number"] (defScope (topS 14)) := ⟨rfl, rfl, rfl, by decide +kernel, rfl, by decide +kernel, by decide +kernel⟩
def r_as_ratio (W : Wd) : TSa :=
    (aSeq (aIfS (aTst (aCall (raIsi (.cls 0) isRat) (aCons (aVar 0) (aCons (aC (.cls 0)) aNil)))) (aRet (aVar 0)) aNext)
    (aRet (aCall (raRat 2) (aCons (aVar 0) aNil))))
theorem ok_as_ratio (T : Txt K mg W) (h_Ratio_init : FnR P w K mg base (L2.CX P w) 1 (adrOf (PySem.W.findIn K (.ref (W.cl 0)) "__init__")) (spRI2 (W.cl 0) (W.cl 2))) {f : Addr} {fd : FuncData} {dvs : List V} {kws : List (Str × V)} {S : SpA} (F : FunD K "as_ratio" "as_ratio" (defArgs (topS 14)) (defBody (topS 14)) (defScope (topS 14)) dvs kws f fd) (hS : Keeps 1 1 S (r_as_ratio W)) : FnOk P w K mg base (L2.CX P w) 5 f fd ["number"] (spOf W S) :=
  have nd := sc_as_ratio.nd
  ok_by F sc_as_ratio hS fun cdv A outer s H E hr hu tk po => by
    exact (ss_cons (sa_if (ta_val (ea_callB (ca_isi (c := .cls 0) (f := isRat) T.rc rfl rfl T.is_Ratio) T.no_isinstance bt_isinstance (aa_cons (ea_var 0) (aa_cons (ea_cls rfl T.mg_Ratio) aa_nil)))) (ss_one (sa_ret (ea_var 0))) ss_nil)
      (ss_one (sa_ret (ea_callF (cl_rat (zb := 2) T.rc rfl rfl h_Ratio_init (hr.mono (by decide)) tk) T.mg_Ratio T.kp_Ratio (aa_cons (ea_var 0) aa_nil)))))
theorem sc_Ratio_lt : FnScope ["self", "other", "right"] ["self", "other"] (defScope (inClass (topS 13) 18)) := ⟨rfl, rfl, rfl, by decide +kernel, rfl, by decide +kernel, by decide +kernel⟩
def r_Ratio_lt (W : Wd) (S_as_ratio : SpA) : TSa :=
    (aSeq (aSet 2 (aCall (raCall S_as_ratio) (aCons (aVar 1) aNil)))
    (aRet (aOp raLt0 (aOp raMul0 (aFldR false (aVar 0)) (aFldR true (aVar 2))) (aOp raMul0 (aFldR false (aVar 2)) (aFldR true (aVar 0))))))
theorem ok_Ratio_lt (T : Txt K mg W) {S_as_ratio : SpA} (h_as_ratio : Has P w K mg base W "as_ratio" 5 S_as_ratio) {f : Addr} {fd : FuncData} {dvs : List V} {kws : List (Str × V)} {S : SpA} (F : FunD K "__lt__" "Ratio.__lt__" (defArgs (inClass (topS 13) 18)) (defBody (inClass (topS 13) 18)) (defScope (inClass (topS 13) 18)) dvs kws f fd) (hS : Keeps 2 3 S (r_Ratio_lt W S_as_ratio)) : FnOk P w K mg base (L2.CX P w) 6 f fd ["self", "other"] (spOf W S) :=
  have nd := sc_Ratio_lt.nd
  ok_by F sc_Ratio_lt hS fun cdv A outer s H E hr hu tk po => by
    exact (ss_cons (sa_set (i := 2) nd rfl (Or.inl rfl) (ea_callH h_as_ratio hr tk (aa_cons (ea_var 1) aa_nil)))
      (ss_one (sa_ret (ea_cmp oa_lt0 (ea_op oa_mul0 (ea_fldR (b := false) T.rc rfl (ea_var 0) T.rc.sT rfl) (ea_fldR (b := true) T.rc rfl (ea_var 2) T.rc.sB rfl)) (ea_op oa_mul0 (ea_fldR (b := false) T.rc rfl (ea_var 2) T.rc.sT rfl) (ea_fldR (b := true) T.rc rfl (ea_var 0) T.rc.sB rfl))))))
theorem sc_Ratio_gt : FnScope ["self", "other", "right"] ["self", "other"] (defScope (inClass (topS 13) 20)) := ⟨rfl, rfl, rfl, by decide +kernel, rfl, by decide +kernel, by decide +kernel⟩
def r_Ratio_gt (W : Wd) (S_as_ratio : SpA) : TSa :=
    (aSeq (aSet 2 (aCall (raCall S_as_ratio) (aCons (aVar 1) aNil)))
    (aRet (aOp raGt0 (aOp raMul0 (aFldR false (aVar 0)) (aFldR true (aVar 2))) (aOp raMul0 (aFldR false (aVar 2)) (aFldR true (aVar 0))))))
theorem ok_Ratio_gt (T : Txt K mg W) {S_as_ratio : SpA} (h_as_ratio : Has P w K mg base W "as_ratio" 5 S_as_ratio) {f : Addr} {fd : FuncData} {dvs : List V} {kws : List (Str × V)} {S : SpA} (F : FunD K "__gt__" "Ratio.__gt__" (defArgs (inClass (topS 13) 20)) (defBody (inClass (topS 13) 20)) (defScope (inClass (topS 13) 20)) dvs kws f fd) (hS : Keeps 2 3 S (r_Ratio_gt W S_as_ratio)) : FnOk P w K mg base (L2.CX P w) 6 f fd ["self", "other"] (spOf W S) :=
  have nd := sc_Ratio_gt.nd
  ok_by F sc_Ratio_gt hS fun cdv A outer s H E hr hu tk po => by
    exact (ss_cons (sa_set (i := 2) nd rfl (Or.inl rfl) (ea_callH h_as_ratio hr tk (aa_cons (ea_var 1) aa_nil)))
      (ss_one (sa_ret (ea_cmp oa_gt0 (ea_op oa_mul0 (ea_fldR (b := false) T.rc rfl (ea_var 0) T.rc.sT rfl) (ea_fldR (b := true) T.rc rfl (ea_var 2) T.rc.sB rfl)) (ea_op oa_mul0 (ea_fldR (b := false) T.rc rfl (ea_var 2) T.rc.sT rfl) (ea_fldR (b := true) T.rc rfl (ea_var 0) T.rc.sB rfl))))))
theorem sc_Bundle_getitem : FnScope ["self", "good"] ["self", "good"] (defScope (inClass (topS 17) 2)) := ⟨rfl, rfl, rfl, by decide +kernel, rfl, by decide +kernel, by decide +kernel⟩
def r_Bundle_getitem (W : Wd) : TSa :=
    (aSeq (aIfS (aTst (aOp (raInS false (raInU false [])) (aVar 1) (aFld "amounts" [17] (aVar 0)))) (aRet (aOp raIx1 (aFld "amounts" [17] (aVar 0)) (aVar 1))) aNext)
    (aRet (aCall (raRat 2) (aCons (aC (.int 0)) aNil))))
theorem ok_Bundle_getitem (T : Txt K mg W) (h_Ratio_init : FnR P w K mg base (L2.CX P w) 1 (adrOf (PySem.W.findIn K (.ref (W.cl 0)) "__init__")) (spRI2 (W.cl 0) (W.cl 2))) {f : Addr} {fd : FuncData} {dvs : List V} {kws : List (Str × V)} {S : SpA} (F : FunD K "__getitem__" "Bundle.__getitem__" (defArgs (inClass (topS 17) 2)) (defBody (inClass (topS 17) 2)) (defScope (inClass (topS 17) 2)) dvs kws f fd) (hS : Keeps 2 2 S (r_Bundle_getitem W)) : FnOk P w K mg base (L2.CX P w) 5 f fd ["self", "good"] (spOf W S) :=
  have nd := sc_Bundle_getitem.nd
  ok_by F sc_Bundle_getitem hS fun cdv A outer s H E hr hu tk po => by
    exact (ss_cons (sa_if (ta_cmp (oa_inS (neg := false) (oa_inU hu (mt_nil (j := 0)) (hr.mono (by decide)) tk false)) (ea_var 1) (ea_fld (f := "amounts") (cs := [17]) (insT T.ic_17) (ea_var 0))) (ss_one (sa_ret (ea_ix (ixa_1 hu) (ea_fld (f := "amounts") (cs := [17]) (insT T.ic_17) (ea_var 0)) (ea_var 1)))) ss_nil)
      (ss_one (sa_ret (ea_callF (cl_rat (zb := 2) T.rc rfl rfl h_Ratio_init (hr.mono (by decide)) tk) T.mg_Ratio T.kp_Ratio (aa_cons ea_int aa_nil)))))
theorem sc_Bundle_init : FnScope ["self", "amounts", "good"] ["self", "amounts"] (defScope (inClass (topS 17) 0)) := ⟨rfl, rfl, rfl, by decide +kernel, rfl, by decide +kernel, by decide +kernel⟩
def r_Bundle_init (W : Wd) (S_ordered : SpA) (S_Ratio_lt : SpA) (S_Ratio_gt : SpA) (S_Bundle_getitem : SpA) (S_as_ratio : SpA) : TSa :=
    (aSeq (aFor (aItU [] (aCall (raCall S_ordered) (aCons (aVar 1) aNil))) (aGN 2) (aIfS (aTst (aOp (raW raLt0 S_Ratio_lt S_Ratio_gt) (aOp (raIxU [(17, S_Bundle_getitem)]) (aVar 1) (aVar 2)) (aC (.int 0)))) (sRaiseE 9 [] (aCons (aVar 2) aNil)) aNext))
    (sFldA "amounts" [17] (aVar 0) (aDc (aItU [] (aCall (raCall S_ordered) (aCons (aVar 1) aNil))) (aGN 2) (aTst (aOp (raW raGt0 S_Ratio_gt S_Ratio_lt) (aOp (raIxU [(17, S_Bundle_getitem)]) (aVar 1) (aVar 2)) (aC (.int 0)))) (aVar 2) (aCall (raCall S_as_ratio) (aCons (aOp (raIxU [(17, S_Bundle_getitem)]) (aVar 1) (aVar 2)) aNil)) [2])))
theorem ok_Bundle_init (T : Txt K mg W) {S_ordered : SpA} {S_Ratio_lt : SpA} {S_Ratio_gt : SpA} {S_Bundle_getitem : SpA} {S_as_ratio : SpA} (h_ordered : Has P w K mg base W "ordered" 5 S_ordered) (h_Ratio_lt : FnR P w K mg base (L2.CX P w) 6 (adrOf (PySem.W.findIn K (.ref (W.cl 0)) "__lt__")) (spOf W S_Ratio_lt)) (h_Ratio_gt : FnR P w K mg base (L2.CX P w) 6 (adrOf (PySem.W.findIn K (.ref (W.cl 0)) "__gt__")) (spOf W S_Ratio_gt)) (h_Bundle_getitem : FnR P w K mg base (L2.CX P w) 5 (adrOf (PySem.W.findIn K (.ref (W.cl 17)) "__getitem__")) (spOf W S_Bundle_getitem)) (hx_8 : XInit P w K mg base W 8 ["self", "good"] ["good"]) (h_as_ratio : Has P w K mg base W "as_ratio" 5 S_as_ratio) {f : Addr} {fd : FuncData} {dvs : List V} {kws : List (Str × V)} {S : SpA} (F : FunD K "__init__" "Bundle.__init__" (defArgs (inClass (topS 17) 0)) (defBody (inClass (topS 17) 0)) (defScope (inClass (topS 17) 0)) dvs kws f fd) (hS : Keeps 2 3 S (r_Bundle_init W S_ordered S_Ratio_lt S_Ratio_gt S_Bundle_getitem S_as_ratio)) : FnOk P w K mg base (L2.CX P w) 10 f fd ["self", "amounts"] (spOf W S) :=
  have nd := sc_Bundle_init.nd
  ok_by F sc_Bundle_init hS fun cdv A outer s H E hr hu tk po => by
    exact (ss_cons (sa_for po rfl (ia_u T.emp (it_nil (j := 0)) (hr.mono (by decide)) tk (ea_callH h_ordered hr tk (aa_cons (ea_var 1) aa_nil))) (ga_name (i := 2) nd rfl (Or.inl rfl)) (ss_one (sa_if (ta_cmp (oa_w oa_lt0 (oa_cmpL (m := "__lt__") (fun _ _ => rfl) rfl rfl T.oc_lt h_Ratio_lt (hr.mono (by decide)) tk) (oa_cmpR (m := "__gt__") icmp_lt (fun _ _ => rfl) rfl rfl T.oc_gt h_Ratio_gt (hr.mono (by decide)) tk)) (ea_ixu hu (mt_cons T.mth_17_getitem T.ic_17 h_Bundle_getitem (mt_nil (j := 5))) (ownT1 T.os_17_getitem) (hr.mono (by decide)) tk (ea_var 1) (ea_var 2)) ea_int) (ss_one (sa_raiseX rfl tk T.xif_9 T.mth_8_init hx_8 hr T.mg_InvalidAmount (aa_cons (ea_var 2) aa_nil))) ss_nil)))
      (ss_one (sa_fldset (f := "amounts") (cs := [17]) (insT T.ic_17) (ea_var 0) (ea_dc (own := [("good", 2)]) (g := gName 2) rfl nd (ia_u T.emp (it_nil (j := 0)) (hr.mono (by decide)) tk (ea_callH h_ordered hr tk (aa_cons (ea_var 1) aa_nil))) (blkOk_by (N := ["self", "amounts", "good"]) (sc := defScope (inClass (topS 17) 0)) (by decide +kernel)) (fun _ _ _ _ _ => pg_name (i := 2) nd rfl (Or.inl rfl)) (gk_name (by decide)) (fun _ _ _ _ _ => ts_one (ta_cmp (oa_w oa_gt0 (oa_cmpL (m := "__gt__") (fun _ _ => rfl) rfl rfl T.oc_gt h_Ratio_gt (hr.mono (by decide)) takes0) (oa_cmpR (m := "__lt__") icmp_gt (fun _ _ => rfl) rfl rfl T.oc_lt h_Ratio_lt (hr.mono (by decide)) takes0)) (ea_ixu hu (mt_cons T.mth_17_getitem T.ic_17 h_Bundle_getitem (mt_nil (j := 5))) (ownT1 T.os_17_getitem) (hr.mono (by decide)) takes0 (ea_var 1) (ea_var 2)) ea_int)) (fun _ _ _ _ _ => (ea_var 2)) (fun _ _ _ _ _ => (ea_callH h_as_ratio hr takes0 (aa_cons (ea_ixu hu (mt_cons T.mth_17_getitem T.ic_17 h_Bundle_getitem (mt_nil (j := 5))) (ownT1 T.os_17_getitem) (hr.mono (by decide)) takes0 (ea_var 1) (ea_var 2)) aa_nil)))))))
theorem sc_l_whole : FnScope ["_law_x"] ["_law_x"] (defScope (topS 21)) := ⟨rfl, rfl, rfl, by decide +kernel, rfl, by decide +kernel, by decide +kernel⟩
def r_l_whole (W : Wd) : TSa :=
    (aRet (aAndV (aCall (raIsi (.ty "int") isInt) (aCons (aVar 0) (aCons (aC (.ty "int")) aNil))) (aNotV (aCall (raIsi (.ty "bool") isBool) (aCons (aVar 0) (aCons (aC (.ty "bool")) aNil))))))
theorem ok_l_whole (T : Txt K mg W)  {f : Addr} {fd : FuncData} {dvs : List V} {kws : List (Str × V)} {S : SpA} (F : FunD K "_law_whole" "_law_whole" (defArgs (topS 21)) (defBody (topS 21)) (defScope (topS 21)) dvs kws f fd) (hS : Keeps 1 1 S (r_l_whole W)) : FnOk P w K mg base (L2.CX P w) 3 f fd ["_law_x"] (spOf W S) :=
  have nd := sc_l_whole.nd
  ok_by F sc_l_whole hS fun cdv A outer s H E hr hu tk po => by
    exact (ss_one (sa_ret (ea_and (ea_callB (ca_isi (c := .ty "int") (f := isInt) T.rc rfl rfl T.is_int) T.no_isinstance bt_isinstance (aa_cons (ea_var 0) (aa_cons (ea_ty T.no_int bt_int) aa_nil))) (ea_one (ea_not (ea_callB (ca_isi (c := .ty "bool") (f := isBool) T.rc rfl rfl T.is_bool) T.no_isinstance bt_isinstance (aa_cons (ea_var 0) (aa_cons (ea_ty T.no_bool bt_bool) aa_nil))))))))
theorem sc_l_pair : FnScope ["_law_ratio"] ["_law_ratio"] (defScope (topS 24)) := ⟨rfl, rfl, rfl, by decide +kernel, rfl, by decide +kernel, by decide +kernel⟩
def r_l_pair (W : Wd) (S_l_whole : SpA) (S_l_gcd : SpA) : TSa :=
    (aSeq (aIfS (aOr (aNot (aTst (aCall (raIsi (.cls 0) isRat) (aCons (aVar 0) (aCons (aC (.cls 0)) aNil))))) (aOr (aNot (aTst (aCall (raCall S_l_whole) (aCons (aFldR false (aVar 0)) aNil)))) (aNot (aTst (aCall (raCall S_l_whole) (aCons (aFldR true (aVar 0)) aNil)))))) (aRet (aC .non)) aNext)
    (aSeq (aIfS (aOr (aTst (aOp raLt0 (aFldR true (aVar 0)) (aC (.int 1)))) (aTst (aOp raNe (aCall (raCall S_l_gcd) (aCons (aFldR false (aVar 0)) (aCons (aFldR true (aVar 0)) aNil))) (aC (.int 1))))) (aRet (aC .non)) aNext)
    (aRet (aTup (aCons (aFldR false (aVar 0)) (aCons (aFldR true (aVar 0)) aNil))))))
theorem ok_l_pair (T : Txt K mg W) {S_l_whole : SpA} {S_l_gcd : SpA} (h_l_whole : Has P w K mg base W "_law_whole" 3 S_l_whole) (h_l_gcd : Has P w K mg base W "_law_gcd" 3 S_l_gcd) {f : Addr} {fd : FuncData} {dvs : List V} {kws : List (Str × V)} {S : SpA} (F : FunD K "_law_pair" "_law_pair" (defArgs (topS 24)) (defBody (topS 24)) (defScope (topS 24)) dvs kws f fd) (hS : Keeps 1 1 S (r_l_pair W S_l_whole S_l_gcd)) : FnOk P w K mg base (L2.CX P w) 4 f fd ["_law_ratio"] (spOf W S) :=
  have nd := sc_l_pair.nd
  ok_by F sc_l_pair hS fun cdv A outer s H E hr hu tk po => by
    exact (ss_cons (sa_if (wa_or (ta_not (ta_val (ea_callB (ca_isi (c := .cls 0) (f := isRat) T.rc rfl rfl T.is_Ratio) T.no_isinstance bt_isinstance (aa_cons (ea_var 0) (aa_cons (ea_cls rfl T.mg_Ratio) aa_nil))))) (wa_or (ta_not (ta_val (ea_callH h_l_whole hr tk (aa_cons (ea_fldR (b := false) T.rc rfl (ea_var 0) T.rc.sT rfl) aa_nil)))) (wa_or1 (ta_not (ta_val (ea_callH h_l_whole hr tk (aa_cons (ea_fldR (b := true) T.rc rfl (ea_var 0) T.rc.sB rfl) aa_nil))))))).ta (ss_one (sa_ret ea_non)) ss_nil)
      (ss_cons (sa_if (wa_or (ta_cmp oa_lt0 (ea_fldR (b := true) T.rc rfl (ea_var 0) T.rc.sB rfl) ea_int) (wa_or1 (ta_cmp (oa_ne hu) (ea_callH h_l_gcd hr tk (aa_cons (ea_fldR (b := false) T.rc rfl (ea_var 0) T.rc.sT rfl) (aa_cons (ea_fldR (b := true) T.rc rfl (ea_var 0) T.rc.sB rfl) aa_nil))) ea_int))).ta (ss_one (sa_ret ea_non)) ss_nil)
      (ss_one (sa_ret (ea_tup (aa_cons (ea_fldR (b := false) T.rc rfl (ea_var 0) T.rc.sT rfl) (aa_cons (ea_fldR (b := true) T.rc rfl (ea_var 0) T.rc.sB rfl) aa_nil)))))))
theorem sc_Bundle_len : FnScope ["self"] ["self"] (defScope (inClass (topS 17) 6)) := ⟨rfl, rfl, rfl, by decide +kernel, rfl, by decide +kernel, by decide +kernel⟩
def r_Bundle_len (W : Wd) : TSa :=
    (aRet (aCall (raLenU []) (aCons (aFld "amounts" [17] (aVar 0)) aNil)))
theorem ok_Bundle_len (T : Txt K mg W)  {f : Addr} {fd : FuncData} {dvs : List V} {kws : List (Str × V)} {S : SpA} (F : FunD K "__len__" "Bundle.__len__" (defArgs (inClass (topS 17) 6)) (defBody (inClass (topS 17) 6)) (defScope (inClass (topS 17) 6)) dvs kws f fd) (hS : Keeps 1 1 S (r_Bundle_len W)) : FnOk P w K mg base (L2.CX P w) 3 f fd ["self"] (spOf W S) :=
  have nd := sc_Bundle_len.nd
  ok_by F sc_Bundle_len hS fun cdv A outer s H E hr hu tk po => by
    exact (ss_one (sa_ret (ea_callB (ca_lenU (mt_nil (j := 0)) (hr.mono (by decide)) tk) T.no_len bt_len (aa_cons (ea_fld (f := "amounts") (cs := [17]) (insT T.ic_17) (ea_var 0)) aa_nil))))
theorem sc_l_read : FnScope ["_law_bundle", "_law_goods", "_law_row", "_law_pair_here", "_law_good", "_law_k"] ["_law_bundle", "_law_goods"] (defScope (topS 31)) := ⟨rfl, rfl, rfl, by decide +kernel, rfl, by decide +kernel, by decide +kernel⟩
def r_l_read (W : Wd) (S_Bundle_getitem : SpA) (S_l_pair : SpA) (S_Bundle_len : SpA) : TSa :=
    (aSeq (aIfS (aNot (aTst (aCall (raIsiO (.cls 17) [17] [] aNone0) (aCons (aVar 0) (aCons (aC (.cls 17)) aNil))))) (aRet (aC .non)) aNext)
    (aSeq (aSet 2 (aLc (aItU [] (aVar 1)) (aGN 4) aYes (aCall (raCall S_l_pair) (aCons (aOp (raIxU [(17, S_Bundle_getitem)]) (aVar 0) (aVar 4)) aNil)) [4]))
    (aSeq (aFor (aItU [] (aVar 2)) (aGN 3) (aIfS (aOr (aTst (aOp (raIs false) (aVar 3) (aC .non))) (aTst (aOp raLt0 (aOp raIx1 (aVar 3) (aC (.int 0))) (aC (.int 0))))) (aRet (aC .non)) aNext))
    (aSeq (aIfS (aOr (aTst (aOp raNe (aCall (raListU [(17, S_Bundle_len)] [(17, "amounts")]) (aCons (aVar 0) aNil)) (aLc (aRng1 (aCons (aCall (raLenU []) (aCons (aVar 1) aNil)) aNil)) (aGN 5) (aTst (aOp raGt0 (aOp raIx1 (aOp raIx1 (aVar 2) (aVar 5)) (aC (.int 0))) (aC (.int 0)))) (aOp raIx1 (aVar 1) (aVar 5)) [5]))) (aTst (aOp raNe (aCall (raLenU [(17, S_Bundle_len)]) (aCons (aVar 0) aNil)) (aCall (raLenU []) (aCons (aCall (raListU [(17, S_Bundle_len)] [(17, "amounts")]) (aCons (aVar 0) aNil)) aNil))))) (aRet (aC .non)) aNext)
    (aRet (aVar 2))))))
theorem ok_l_read (T : Txt K mg W) {S_Bundle_getitem : SpA} {S_l_pair : SpA} {S_Bundle_len : SpA} (h_Bundle_getitem : FnR P w K mg base (L2.CX P w) 5 (adrOf (PySem.W.findIn K (.ref (W.cl 17)) "__getitem__")) (spOf W S_Bundle_getitem)) (h_l_pair : Has P w K mg base W "_law_pair" 4 S_l_pair) (h_Bundle_len : FnR P w K mg base (L2.CX P w) 3 (adrOf (PySem.W.findIn K (.ref (W.cl 17)) "__len__")) (spOf W S_Bundle_len)) (h_Bundle_iter : FnN P w K mg base 1 (adrOf (PySem.W.findIn K (.ref (W.cl 17)) "__iter__")) (spIter K "amounts")) {f : Addr} {fd : FuncData} {dvs : List V} {kws : List (Str × V)} {S : SpA} (F : FunD K "_law_read" "_law_read" (defArgs (topS 31)) (defBody (topS 31)) (defScope (topS 31)) dvs kws f fd) (hS : Keeps 2 6 S (r_l_read W S_Bundle_getitem S_l_pair S_Bundle_len)) : FnOk P w K mg base (L2.CX P w) 9 f fd ["_law_bundle", "_law_goods"] (spOf W S) :=
  have nd := sc_l_read.nd
  ok_by F sc_l_read hS fun cdv A outer s H E hr hu tk po => by
    exact (ss_cons (sa_if (ta_not (ta_val (ea_callB (ca_isiO (c := .cls 17) rfl T.io_17 ca_none) T.no_isinstance bt_isinstance (aa_cons (ea_var 0) (aa_cons (ea_cls rfl T.mg_Bundle) aa_nil))))) (ss_one (sa_ret ea_non)) ss_nil)
      (ss_cons (sa_set (i := 2) nd rfl (Or.inr rfl) (ea_lc (own := [("_law_good", 4)]) (g := gName 4) rfl nd (ia_u T.emp (it_nil (j := 0)) (hr.mono (by decide)) tk (ea_var 1)) (blkOk_by (N := ["_law_bundle", "_law_goods", "_law_row", "_law_pair_here", "_law_good", "_law_k"]) (sc := defScope (topS 31)) (by decide +kernel)) (fun _ _ _ _ _ => pg_name (i := 4) nd rfl (Or.inl rfl)) (gk_name (by decide)) (fun _ _ _ _ _ => ts_nil) (fun _ _ _ _ _ => (ea_callH h_l_pair hr takes0 (aa_cons (ea_ixu hu (mt_cons T.mth_17_getitem T.ic_17 h_Bundle_getitem (mt_nil (j := 5))) (ownT1 T.os_17_getitem) (hr.mono (by decide)) takes0 (ea_var 0) (ea_var 4)) aa_nil)))))
      (ss_cons (sa_for po rfl (ia_u T.emp (it_nil (j := 0)) (hr.mono (by decide)) tk (ea_var 2)) (ga_name (i := 3) nd rfl (Or.inl rfl)) (ss_one (sa_if (wa_or (ta_cmp oa_is (ea_var 3) ea_non) (wa_or1 (ta_cmp oa_lt0 (ea_ix (ixa_1 hu) (ea_var 3) ea_int) ea_int))).ta (ss_one (sa_ret ea_non)) ss_nil)))
      (ss_cons (sa_if (wa_or (ta_cmp (oa_ne hu) (ea_callTy (ca_listU rfl (mt_cons T.mth_17_len T.ic_17 h_Bundle_len (mt_nil (j := 3))) (it_cons T.mth_17_iter T.ic_17 h_Bundle_iter (it_nil (j := 3))) (hr.mono (by decide)) tk) T.no_list bt_list (aa_cons (ea_var 0) aa_nil)) (ea_lc (own := [("_law_k", 5)]) (g := gName 5) rfl nd (ia_range1 T.no_range (aa_cons (ea_callB (ca_lenU (mt_nil (j := 0)) (hr.mono (by decide)) tk) T.no_len bt_len (aa_cons (ea_var 1) aa_nil)) aa_nil)) (blkOk_by (N := ["_law_bundle", "_law_goods", "_law_row", "_law_pair_here", "_law_good", "_law_k"]) (sc := defScope (topS 31)) (by decide +kernel)) (fun _ _ _ _ _ => pg_name (i := 5) nd rfl (Or.inl rfl)) (gk_name (by decide)) (fun _ _ _ _ _ => ts_one (ta_cmp oa_gt0 (ea_ix (ixa_1 hu) (ea_ix (ixa_1 hu) (ea_var 2) (ea_var 5)) ea_int) ea_int)) (fun _ _ _ _ _ => (ea_ix (ixa_1 hu) (ea_var 1) (ea_var 5))))) (wa_or1 (ta_cmp (oa_ne hu) (ea_callB (ca_lenU (mt_cons T.mth_17_len T.ic_17 h_Bundle_len (mt_nil (j := 3))) (hr.mono (by decide)) tk) T.no_len bt_len (aa_cons (ea_var 0) aa_nil)) (ea_callB (ca_lenU (mt_nil (j := 0)) (hr.mono (by decide)) tk) T.no_len bt_len (aa_cons (ea_callTy (ca_listU rfl (mt_cons T.mth_17_len T.ic_17 h_Bundle_len (mt_nil (j := 3))) (it_cons T.mth_17_iter T.ic_17 h_Bundle_iter (it_nil (j := 3))) (hr.mono (by decide)) tk) T.no_list bt_list (aa_cons (ea_var 0) aa_nil)) aa_nil))))).ta (ss_one (sa_ret ea_non)) ss_nil)
      (ss_one (sa_ret (ea_var 2)))))))
theorem sc_Bundle_contains : FnScope ["self", "good"] ["self", "good"] (defScope (inClass (topS 17) 5)) := ⟨rfl, rfl, rfl, by decide +kernel, rfl, by decide +kernel, by decide +kernel⟩
def r_Bundle_contains (W : Wd) : TSa :=
    (aRet (aOp (raInS false (raInU false [])) (aVar 1) (aFld "amounts" [17] (aVar 0))))
theorem ok_Bundle_contains (T : Txt K mg W)  {f : Addr} {fd : FuncData} {dvs : List V} {kws : List (Str × V)} {S : SpA} (F : FunD K "__contains__" "Bundle.__contains__" (defArgs (inClass (topS 17) 5)) (defBody (inClass (topS 17) 5)) (defScope (inClass (topS 17) 5)) dvs kws f fd) (hS : Keeps 2 2 S (r_Bundle_contains W)) : FnOk P w K mg base (L2.CX P w) 3 f fd ["self", "good"] (spOf W S) :=
  have nd := sc_Bundle_contains.nd
  ok_by F sc_Bundle_contains hS fun cdv A outer s H E hr hu tk po => by
    exact (ss_one (sa_ret (ea_cmp (oa_inS (neg := false) (oa_inU hu (mt_nil (j := 0)) (hr.mono (by decide)) tk false)) (ea_var 1) (ea_fld (f := "amounts") (cs := [17]) (insT T.ic_17) (ea_var 0)))))
theorem sc_Bundle_setitem : FnScope ["self", "good", "number", "amount", "kept", "name"] ["self", "good", "number"] (defScope (inClass (topS 17) 3)) := ⟨rfl, rfl, rfl, by decide +kernel, rfl, by decide +kernel, by decide +kernel⟩
def r_Bundle_setitem (W : Wd) (S_as_ratio : SpA) (S_Ratio_lt : SpA) (S_Ratio_gt : SpA) (S_ordered : SpA) : TSa :=
    (aSeq (aSet 3 (aCall (raCall S_as_ratio) (aCons (aVar 2) aNil)))
    (aSeq (aIfS (aTst (aOp (raW raLt0 S_Ratio_lt S_Ratio_gt) (aVar 3) (aC (.int 0)))) (sRaiseE 9 [] (aCons (aVar 1) aNil)) aNext)
    (aSeq (aSet 4 (aDcM (aItU [] (aFld "amounts" [17] (aVar 0))) (aGN 5) (aTst (aOp raNe (aVar 5) (aVar 1))) (aVar 5) (aOp raIx1 (aFld "amounts" [17] (aVar 0)) (aVar 5)) [5]))
    (aSeq (aIfS (aTst (aOp (raW raGt0 S_Ratio_gt S_Ratio_lt) (aVar 3) (aC (.int 0)))) (sSub (raSetU []) (aVar 4) (aVar 1) (aVar 3)) aNext)
    (sFldA "amounts" [17] (aVar 0) (aDc (aIt (aCall (raCall S_ordered) (aCons (aVar 4) aNil))) (aGN 5) aYes (aVar 5) (aOp raIx1 (aVar 4) (aVar 5)) [5]))))))
theorem ok_Bundle_setitem (T : Txt K mg W) {S_as_ratio : SpA} {S_Ratio_lt : SpA} {S_Ratio_gt : SpA} {S_ordered : SpA} (h_as_ratio : Has P w K mg base W "as_ratio" 5 S_as_ratio) (h_Ratio_lt : FnR P w K mg base (L2.CX P w) 6 (adrOf (PySem.W.findIn K (.ref (W.cl 0)) "__lt__")) (spOf W S_Ratio_lt)) (h_Ratio_gt : FnR P w K mg base (L2.CX P w) 6 (adrOf (PySem.W.findIn K (.ref (W.cl 0)) "__gt__")) (spOf W S_Ratio_gt)) (hx_8 : XInit P w K mg base W 8 ["self", "good"] ["good"]) (h_ordered : Has P w K mg base W "ordered" 5 S_ordered) {f : Addr} {fd : FuncData} {dvs : List V} {kws : List (Str × V)} {S : SpA} (F : FunD K "__setitem__" "Bundle.__setitem__" (defArgs (inClass (topS 17) 3)) (defBody (inClass (topS 17) 3)) (defScope (inClass (topS 17) 3)) dvs kws f fd) (hS : Keeps 3 6 S (r_Bundle_setitem W S_as_ratio S_Ratio_lt S_Ratio_gt S_ordered)) : FnOk P w K mg base (L2.CX P w) 10 f fd ["self", "good", "number"] (spOf W S) :=
  have nd := sc_Bundle_setitem.nd
  ok_by F sc_Bundle_setitem hS fun cdv A outer s H E hr hu tk po => by
    exact (ss_cons (sa_set (i := 3) nd rfl (Or.inl rfl) (ea_callH h_as_ratio hr tk (aa_cons (ea_var 2) aa_nil)))
      (ss_cons (sa_if (ta_cmp (oa_w oa_lt0 (oa_cmpL (m := "__lt__") (fun _ _ => rfl) rfl rfl T.oc_lt h_Ratio_lt (hr.mono (by decide)) tk) (oa_cmpR (m := "__gt__") icmp_lt (fun _ _ => rfl) rfl rfl T.oc_gt h_Ratio_gt (hr.mono (by decide)) tk)) (ea_var 3) ea_int) (ss_one (sa_raiseX rfl tk T.xif_9 T.mth_8_init hx_8 hr T.mg_InvalidAmount (aa_cons (ea_var 1) aa_nil))) ss_nil)
      (ss_cons (sa_set (i := 4) nd rfl (Or.inr rfl) (ea_dcM (own := [("name", 5)]) (g := gName 5) rfl nd (ia_u T.emp (it_nil (j := 0)) (hr.mono (by decide)) tk (ea_fld (f := "amounts") (cs := [17]) (insT T.ic_17) (ea_var 0))) (blkOk_by (N := ["self", "good", "number", "amount", "kept", "name"]) (sc := defScope (inClass (topS 17) 3)) (by decide +kernel)) (fun _ _ _ _ _ => pg_name (i := 5) nd rfl (Or.inl rfl)) (gk_name (by decide)) (fun _ _ _ _ _ => ts_one (ta_cmp (oa_ne hu) (ea_var 5) (ea_var 1))) (fun _ _ _ _ _ => (ea_var 5)) (fun _ _ _ _ _ => (ea_ix (ixa_1 hu) (ea_fld (f := "amounts") (cs := [17]) (insT T.ic_17) (ea_var 0)) (ea_var 5)))))
      (ss_cons (sa_if (ta_cmp (oa_w oa_gt0 (oa_cmpL (m := "__gt__") (fun _ _ => rfl) rfl rfl T.oc_gt h_Ratio_gt (hr.mono (by decide)) tk) (oa_cmpR (m := "__lt__") icmp_gt (fun _ _ => rfl) rfl rfl T.oc_lt h_Ratio_lt (hr.mono (by decide)) tk)) (ea_var 3) ea_int) (ss_one (sa_sub (seta_u hu (mt_nil (j := 0)) ownT0 (hr.mono (by decide)) tk) (ea_var 4) (ea_var 1) (ea_var 3))) ss_nil)
      (ss_one (sa_fldset (f := "amounts") (cs := [17]) (insT T.ic_17) (ea_var 0) (ea_dc (own := [("name", 5)]) (g := gName 5) rfl nd (ia_list (ea_callH h_ordered hr tk (aa_cons (ea_var 4) aa_nil))) (blkOk_by (N := ["self", "good", "number", "amount", "kept", "name"]) (sc := defScope (inClass (topS 17) 3)) (by decide +kernel)) (fun _ _ _ _ _ => pg_name (i := 5) nd rfl (Or.inl rfl)) (gk_name (by decide)) (fun _ _ _ _ _ => ts_nil) (fun _ _ _ _ _ => (ea_var 5)) (fun _ _ _ _ _ => (ea_ix (ixa_1 hu) (ea_var 4) (ea_var 5))))))))))
theorem sc_l_set_refused : FnScope ["_law_bundle", "_law_good", "_law_number_here", "e", "_law_others"] ["_law_bundle", "_law_good", "_law_number_here"] (defScope (topS 32)) := ⟨rfl, rfl, rfl, by decide +kernel, rfl, by decide +kernel, by decide +kernel⟩
def r_l_set_refused (W : Wd) (S_Bundle_setitem : SpA) : TSa :=
    (aSeq (aTryAs W (exT [8, 9, 10, 12, 11] [1, 2, 3, 4, 6]) 3 (sSub (raSetU [(17, S_Bundle_setitem)]) (aVar 0) (aVar 1) (aVar 2)) (fun a cls d => (aSeq (aSet 4 (aFl (aCons (aCall (raIsE W a cls d (exT [10] [1, 2, 3, 4, 6, 8, 9, 12, 11]) (.cls 10)) (aCons (aVar 3) (aCons (aC (.cls 10)) aNil))) (aCons (aCall (raIsE W a cls d (exT [12] [1, 2, 3, 4, 6, 8, 9, 10, 11]) (.cls 12)) (aCons (aVar 3) (aCons (aC (.cls 12)) aNil))) (aCons (aCall (raIsE W a cls d (exT [11] [1, 2, 3, 4, 6, 8, 9, 10, 12]) (.cls 11)) (aCons (aVar 3) (aCons (aC (.cls 11)) aNil))) aNil)))))
    (aRet (aAndV (aCall (raIsE W a cls d (exT [9] [1, 2, 3, 4, 6, 8, 10, 12, 11]) (.cls 9)) (aCons (aVar 3) (aCons (aC (.cls 9)) aNil))) (aAndV (aCall (raIsE W a cls d (exT [1, 2, 3, 4, 6, 8, 9, 10, 12, 11] []) (.cls 1)) (aCons (aVar 3) (aCons (aC (.cls 1)) aNil))) (aAndV (aOp raEq (aVar 4) (aOp raRep (aLst (aCons (aC (.bl false)) aNil)) (aC (.int 3)))) (aOp raEq (aXf "good" [8, 9, 10, 12, 11] W a cls d (aVar 3)) (aVar 1)))))))))
    (aRet (aC (.bl false))))
theorem ok_l_set_refused (T : Txt K mg W) {S_Bundle_setitem : SpA} (h_Bundle_setitem : FnR P w K mg base (L2.CX P w) 10 (adrOf (PySem.W.findIn K (.ref (W.cl 17)) "__setitem__")) (spOf W S_Bundle_setitem)) {f : Addr} {fd : FuncData} {dvs : List V} {kws : List (Str × V)} {S : SpA} (F : FunD K "_law_set_refused" "_law_set_refused" (defArgs (topS 32)) (defBody (topS 32)) (defScope (topS 32)) dvs kws f fd) (hS : Keeps 3 5 S (r_l_set_refused W S_Bundle_setitem)) : FnOk P w K mg base (L2.CX P w) 14 f fd ["_law_bundle", "_law_good", "_law_number_here"] (spOf W S) :=
  have nd := sc_l_set_refused.nd
  ok_by F sc_l_set_refused hS fun cdv A outer s H E hr hu tk po => by
    exact (ss_cons (sa_try_as (i := 3) (m := (exT [8, 9, 10, 12, 11] [1, 2, 3, 4, 6])) (u := fun a cls d => (aSeq (aSet 4 (aFl (aCons (aCall (raIsE W a cls d (exT [10] [1, 2, 3, 4, 6, 8, 9, 12, 11]) (.cls 10)) (aCons (aVar 3) (aCons (aC (.cls 10)) aNil))) (aCons (aCall (raIsE W a cls d (exT [12] [1, 2, 3, 4, 6, 8, 9, 10, 11]) (.cls 12)) (aCons (aVar 3) (aCons (aC (.cls 12)) aNil))) (aCons (aCall (raIsE W a cls d (exT [11] [1, 2, 3, 4, 6, 8, 9, 10, 12]) (.cls 11)) (aCons (aVar 3) (aCons (aC (.cls 11)) aNil))) aNil)))))
    (aRet (aAndV (aCall (raIsE W a cls d (exT [9] [1, 2, 3, 4, 6, 8, 10, 12, 11]) (.cls 9)) (aCons (aVar 3) (aCons (aC (.cls 9)) aNil))) (aAndV (aCall (raIsE W a cls d (exT [1, 2, 3, 4, 6, 8, 9, 10, 12, 11] []) (.cls 1)) (aCons (aVar 3) (aCons (aC (.cls 1)) aNil))) (aAndV (aOp raEq (aVar 4) (aOp raRep (aLst (aCons (aC (.bl false)) aNil)) (aC (.int 3)))) (aOp raEq (aXf "good" [8, 9, 10, 12, 11] W a cls d (aVar 3)) (aVar 1)))))))) T.xm_GoodError ⟨rfl, by decide, .inl T.mg_GoodError⟩ tk rfl (fun Wx' pn xe tk' po' => (ss_one (sa_sub (seta_u hu (mt_cons T.mth_17_setitem T.ic_17 h_Bundle_setitem (mt_nil (j := 10))) (ownT1 T.os_17_setitem) (hr.mono (by decide)) tk') (ea_var 0) (ea_var 1) (ea_var 2)))) (fun a oe cls d pn hz hf => (ss_cons (sa_set (i := 4) nd rfl (Or.inl rfl) (ea_fl (aa_cons (ea_callB (ca_isE (c := (.cls 10)) rfl T.ie_Shortage hz hf) T.no_isinstance bt_isinstance (aa_cons (ea_var 3) (aa_cons (ea_cls rfl T.mg_Shortage) aa_nil))) (aa_cons (ea_callB (ca_isE (c := (.cls 12)) rfl T.ie_UnknownGood hz hf) T.no_isinstance bt_isinstance (aa_cons (ea_var 3) (aa_cons (ea_cls rfl T.mg_UnknownGood) aa_nil))) (aa_cons (ea_callB (ca_isE (c := (.cls 11)) rfl T.ie_FlatMeasure hz hf) T.no_isinstance bt_isinstance (aa_cons (ea_var 3) (aa_cons (ea_cls rfl T.mg_FlatMeasure) aa_nil))) aa_nil)))))
      (ss_one (sa_ret (ea_and (ea_callB (ca_isE (c := (.cls 9)) rfl T.ie_InvalidAmount hz hf) T.no_isinstance bt_isinstance (aa_cons (ea_var 3) (aa_cons (ea_cls rfl T.mg_InvalidAmount) aa_nil))) (ea_and (ea_callB (ca_isE (c := (.cls 1)) rfl T.ie_FillError hz hf) T.no_isinstance bt_isinstance (aa_cons (ea_var 3) (aa_cons (ea_cls rfl T.mg_FillError) aa_nil))) (ea_and (ea_cmp (oa_eq hu) (ea_var 4) (ea_op oa_rep (ea_lst (aa_cons ea_bl aa_nil)) ea_int)) (ea_one (ea_cmp (oa_eq hu) (ea_xf (f := "good") (cs := [8, 9, 10, 12, 11]) T.xf_good hz hf (ea_var 3)) (ea_var 1)))))))))) nd)
      (ss_one (sa_ret ea_bl)))
theorem sc_l_made_refused : FnScope ["_law_amounts", "_law_good", "e"] ["_law_amounts", "_law_good"] (defScope (topS 33)) := ⟨rfl, rfl, rfl, by decide +kernel, rfl, by decide +kernel, by decide +kernel⟩
def r_l_made_refused (W : Wd) (S_Bundle_init : SpA) : TSa :=
    (aSeq (aTryAs W (exT [9] [1, 2, 3, 4, 6, 8, 10, 12, 11]) 2 (aDrop (aFrzI (aCall (raNew 17 (optS S_Bundle_init 1 .et)) (aCons (aVar 0) aNil)))) (fun a cls d => (aRet (aOp raEq (aXf "good" [8, 9, 10, 12, 11] W a cls d (aVar 2)) (aVar 1)))))
    (aRet (aC (.bl false))))
theorem ok_l_made_refused (T : Txt K mg W) {S_Bundle_init : SpA} (h_Bundle_init : FnR P w K mg base (L2.CX P w) 10 (adrOf (PySem.W.findIn K (.ref (W.cl 17)) "__init__")) (spOf W (optS S_Bundle_init 1 .et))) {f : Addr} {fd : FuncData} {dvs : List V} {kws : List (Str × V)} {S : SpA} (F : FunD K "_law_made_refused" "_law_made_refused" (defArgs (topS 33)) (defBody (topS 33)) (defScope (topS 33)) dvs kws f fd) (hS : Keeps 2 3 S (r_l_made_refused W S_Bundle_init)) : FnOk P w K mg base (L2.CX P w) 14 f fd ["_law_amounts", "_law_good"] (spOf W S) :=
  have nd := sc_l_made_refused.nd
  ok_by F sc_l_made_refused hS fun cdv A outer s H E hr hu tk po => by
    exact (ss_cons (sa_try_as (i := 2) (m := (exT [9] [1, 2, 3, 4, 6, 8, 10, 12, 11])) (u := fun a cls d => (aRet (aOp raEq (aXf "good" [8, 9, 10, 12, 11] W a cls d (aVar 2)) (aVar 1)))) T.xm_InvalidAmount ⟨rfl, by decide, .inl T.mg_InvalidAmount⟩ tk rfl (fun Wx' pn xe tk' po' => (ss_one (sa_expr (ea_frzI T.wf (ea_callF (cl_new (c := 17) rfl T.mk_17 h_Bundle_init (hr.mono (by decide)) tk') T.mg_Bundle T.mk_17.kp (aa_cons (ea_var 0) aa_nil)))))) (fun a oe cls d pn hz hf => (ss_one (sa_ret (ea_cmp (oa_eq hu) (ea_xf (f := "good") (cs := [8, 9, 10, 12, 11]) T.xf_good hz hf (ea_var 2)) (ea_var 1))))) nd)
      (ss_one (sa_ret ea_bl)))
theorem sc_Bundle_single : FnScope ["good", "amount"] ["good", "amount"] (defScope (inClass (topS 17) 1)) := ⟨rfl, rfl, rfl, by decide +kernel, rfl, by decide +kernel, by decide +kernel⟩
def r_Bundle_single (W : Wd) (S_Bundle_init : SpA) : TSa :=
    (aRet (aFrzI (aCall (raNew 17 (optS S_Bundle_init 1 .et)) (aCons (aDisp1 (aVar 0) (aVar 1)) aNil))))
theorem ok_Bundle_single (T : Txt K mg W) {S_Bundle_init : SpA} (h_Bundle_init : FnR P w K mg base (L2.CX P w) 10 (adrOf (PySem.W.findIn K (.ref (W.cl 17)) "__init__")) (spOf W (optS S_Bundle_init 1 .et))) {f : Addr} {fd : FuncData} {dvs : List V} {kws : List (Str × V)} {S : SpA} (F : FunD K "single" "Bundle.single" (defArgs (inClass (topS 17) 1)) (defBody (inClass (topS 17) 1)) (defScope (inClass (topS 17) 1)) dvs kws f fd) (hS : Keeps 2 2 S (r_Bundle_single W S_Bundle_init)) : FnOk P w K mg base (L2.CX P w) 14 f fd ["good", "amount"] (spOf W S) :=
  have nd := sc_Bundle_single.nd
  ok_by F sc_Bundle_single hS fun cdv A outer s H E hr hu tk po => by
    exact (ss_one (sa_ret (ea_frzI T.wf (ea_callF (cl_new (c := 17) rfl T.mk_17 h_Bundle_init (hr.mono (by decide)) tk) T.mg_Bundle T.mk_17.kp (aa_cons (ea_disp1 (ea_var 0) (ea_var 1)) aa_nil)))))
theorem sc_l_single_refused : FnScope ["_law_good", "_law_number_here", "e"] ["_law_good", "_law_number_here"] (defScope (topS 34)) := ⟨rfl, rfl, rfl, by decide +kernel, rfl, by decide +kernel, by decide +kernel⟩
def r_l_single_refused (W : Wd) (S_Bundle_single : SpA) : TSa :=
    (aSeq (aTryAs W (exT [9] [1, 2, 3, 4, 6, 8, 10, 12, 11]) 2 (aDrop (aStat 17 (optS S_Bundle_single 1 (.int 1)) (aC (.cls 17)) (aCons (aVar 0) (aCons (aVar 1) aNil)))) (fun a cls d => (aRet (aOp raEq (aXf "good" [8, 9, 10, 12, 11] W a cls d (aVar 2)) (aVar 0)))))
    (aRet (aC (.bl false))))
theorem ok_l_single_refused (T : Txt K mg W) {S_Bundle_single : SpA} (h_Bundle_single : FnR P w K mg base (L2.CX P w) 14 (smA "Bundle" "single" K) (spOf W (optS S_Bundle_single 1 (.int 1)))) {f : Addr} {fd : FuncData} {dvs : List V} {kws : List (Str × V)} {S : SpA} (F : FunD K "_law_single_refused" "_law_single_refused" (defArgs (topS 34)) (defBody (topS 34)) (defScope (topS 34)) dvs kws f fd) (hS : Keeps 2 3 S (r_l_single_refused W S_Bundle_single)) : FnOk P w K mg base (L2.CX P w) 18 f fd ["_law_good", "_law_number_here"] (spOf W S) :=
  have nd := sc_l_single_refused.nd
  ok_by F sc_l_single_refused hS fun cdv A outer s H E hr hu tk po => by
    exact (ss_cons (sa_try_as (i := 2) (m := (exT [9] [1, 2, 3, 4, 6, 8, 10, 12, 11])) (u := fun a cls d => (aRet (aOp raEq (aXf "good" [8, 9, 10, 12, 11] W a cls d (aVar 2)) (aVar 0)))) T.xm_InvalidAmount ⟨rfl, by decide, .inl T.mg_InvalidAmount⟩ tk rfl (fun Wx' pn xe tk' po' => (ss_one (sa_expr (ea_stat T.sm_Bundle_single h_Bundle_single (ea_cls rfl T.mg_Bundle) (hr.mono (by decide)) tk' (aa_cons (ea_var 0) (aa_cons (ea_var 1) aa_nil)))))) (fun a oe cls d pn hz hf => (ss_one (sa_ret (ea_cmp (oa_eq hu) (ea_xf (f := "good") (cs := [8, 9, 10, 12, 11]) T.xf_good hz hf (ea_var 2)) (ea_var 0))))) nd)
      (ss_one (sa_ret ea_bl)))
theorem sc_law : FnScope ["_law_script", "_law_tape_here", "_law_many", "_law_order", "_law_strange", "_law_known", "_law_goods", "_law_wider", "_law_row", "_law_given", "_law_bundle", "_law_copy", "_law_held", "_law_place", "_law_value", "_law_later", "_law_at", "_law_other", "_law_wrong", "_law_zeros", "_law_alone", "_law_one", "_law_k", "_law_good", "_law_name"] ["_law_script"] (defScope (topS 35)) := ⟨rfl, rfl, rfl, by decide +kernel, rfl, by decide +kernel, by decide +kernel⟩
def r_law (W : Wd) (S_l_tape : SpA) (S_l_take : SpA) (S_l_names : SpA) (S_l_need : SpA) (S_l_dict : SpA) (S_Bundle_init : SpA) (S_l_read : SpA) (S_Bundle_getitem : SpA) (S_l_pair : SpA) (S_Bundle_contains : SpA) (S_l_number : SpA) (S_Bundle_setitem : SpA) (S_l_set_refused : SpA) (S_l_made_refused : SpA) (S_Bundle_single : SpA) (S_l_single_refused : SpA) : TSa :=
    (aSeq (aSet 1 (aCall (raCall S_l_tape) (aCons (aVar 0) aNil)))
    (aSeq (aSet 2 (aOp raAddC (aC (.int 1)) (aCall (raCall S_l_take) (aCons (aVar 1) (aCons (aC (.int 6)) aNil)))))
    (aSeq (aSet 3 (aCall (raCall S_l_names) (aCons (aVar 1) (aCons (aOp raAddC (aVar 2) (aC (.int 1))) aNil))))
    (aSeq (aSet 4 (aOp raIx1 (aVar 3) (aVar 2)))
    (aSeq (aSet 5 (aSl (aVar 3) aPN (aPS (aVar 2))))
    (aSeq (aSet 6 (aCall raSortS (aCons (aLc (aItU [] (aVar 5)) (aGN 24) aYes (aCall (raStr2 aNone0) (aCons (aVar 24) aNil)) [24]) aNil)))
    (aSeq (aSet 7 (aCall raSortS (aCons (aLc (aItU [] (aVar 3)) (aGN 24) aYes (aCall (raStr2 aNone0) (aCons (aVar 24) aNil)) [24]) aNil)))
    (aSeq (aSet 8 (aLc (aRng1 (aCons (aVar 2) aNil)) (aGN 22) aYes (aCall (raCall S_l_need) (aCons (aVar 1) aNil)) [22]))
    (aSeq (aSet 9 (aCall (raCall S_l_dict) (aCons (aVar 1) (aCons (aVar 5) (aCons (aVar 6) (aCons (aVar 8) (aCons (aOp raEq (aCall (raCall S_l_take) (aCons (aVar 1) (aCons (aC (.int 2)) aNil))) (aC (.int 1))) aNil)))))))
    (aSeq (aSet 10 (aCall (raNew 17 (optS S_Bundle_init 1 .et)) (aCons (aVar 9) aNil)))
    (aSeq (aSet 11 (aFrzI (aCall (raNew 17 (optS S_Bundle_init 1 .et)) (aCons (aVar 10) aNil))))
    (aSeq (sSub (raSetU []) (aVar 9) (aVar 4) (aC (.int 5)))
    (aSeq (sSub (raSetU []) (aVar 9) (aOp raIx1 (aVar 6) (aC (.int 0))) (aC (.int 777)))
    (aSeq (aIfS (aOr (aTst (aOp raNe (aCall (raCall S_l_read) (aCons (aVar 10) (aCons (aVar 6) aNil))) (aVar 8))) (aOr (aTst (aOp raNe (aCall (raCall S_l_read) (aCons (aVar 11) (aCons (aVar 6) aNil))) (aVar 8))) (aTst (aOp raNe (aCall (raCall S_l_pair) (aCons (aOp (raIxU [(17, S_Bundle_getitem)]) (aVar 10) (aVar 4)) aNil)) (aTup (aCons (aC (.int 0)) (aCons (aC (.int 1)) aNil))))))) (aRet (aC (.bl false))) aNext)
    (aSeq (aSet 12 (aLc (aItU [] (aVar 3)) (aGN 23) (aTst (aOp (raInS false (raInU false [(17, S_Bundle_contains)])) (aVar 23) (aVar 10))) (aVar 23) [23]))
    (aSeq (aIfS (aTst (aOp raNe (aVar 12) (aLc (aItU [] (aVar 3)) (aGN 23) (aAnd (aTst (aOp (raInS false (raInU false [])) (aVar 23) (aVar 6))) (aTst (aOp raGt0 (aOp raIx1 (aOp raIx1 (aVar 8) (aBm isLst raIndexS (aVar 6) (aCons (aVar 23) aNil))) (aC (.int 0))) (aC (.int 0))))) (aVar 23) [23]))) (aRet (aC (.bl false))) aNext)
    (aSeq (aSet 13 (aCall (raCall S_l_take) (aCons (aVar 1) (aCons (aVar 2) aNil))))
    (aSeq (aSet 14 (aCall (raCall S_l_need) (aCons (aVar 1) aNil)))
    (aSeq (sSub (raSetU [(17, S_Bundle_setitem)]) (aVar 10) (aOp raIx1 (aVar 6) (aVar 13)) (aCall (raCall S_l_number) (aCons (aVar 1) (aCons (aVar 14) aNil))))
    (aSeq (aSet 15 (aCall raListM (aCons (aVar 8) aNil)))
    (aSeq (sSub (raSetU []) (aVar 15) (aVar 13) (aVar 14))
    (aSeq (aIfS (aOr (aTst (aOp raNe (aCall (raCall S_l_read) (aCons (aVar 10) (aCons (aVar 6) aNil))) (aVar 15))) (aTst (aOp raNe (aCall (raCall S_l_read) (aCons (aVar 11) (aCons (aVar 6) aNil))) (aVar 8)))) (aRet (aC (.bl false))) aNext)
    (aSeq (aIfS (aNot (aTst (aCall (raCall S_l_set_refused) (aCons (aVar 10) (aCons (aOp raIx1 (aVar 6) (aVar 13)) (aCons (aOp raSub0 (aUn raNeg (aC (.int 1))) (aCall (raCall S_l_take) (aCons (aVar 1) (aCons (aC (.int 9)) aNil)))) aNil)))))) (aRet (aC (.bl false))) aNext)
    (aSeq (aIfS (aNot (aTst (aCall (raCall S_l_set_refused) (aCons (aVar 10) (aCons (aVar 4) (aCons (aCall (raRat 2) (aCons (aUn raNeg (aC (.int 1))) (aCons (aOp raAddC (aC (.int 1)) (aCall (raCall S_l_take) (aCons (aVar 1) (aCons (aC (.int 9)) aNil)))) aNil))) aNil)))))) (aRet (aC (.bl false))) aNext)
    (aSeq (sSub (raSetU [(17, S_Bundle_setitem)]) (aVar 10) (aVar 4) (aCall (raRat 2) (aCons (aC (.int 1)) (aCons (aC (.int 2)) aNil))))
    (aSeq (aSet 16 (aBm isLst raIndexS (aVar 7) (aCons (aVar 4) aNil)))
    (aSeq (aIfS (aTst (aOp raNe (aCall (raCall S_l_read) (aCons (aVar 10) (aCons (aVar 7) aNil))) (aOp raAddC (aOp raAddC (aSl (aVar 15) aPN (aPS (aVar 16))) (aFl (aCons (aTup (aCons (aC (.int 1)) (aCons (aC (.int 2)) aNil))) aNil))) (aSl (aVar 15) (aPS (aVar 16)) aPN)))) (aRet (aC (.bl false))) aNext)
    (aSeq (sSub (raSetU [(17, S_Bundle_setitem)]) (aVar 10) (aVar 4) (aC (.int 0)))
    (aSeq (aIfS (aOr (aTst (aOp raNe (aCall (raCall S_l_read) (aCons (aVar 10) (aCons (aVar 6) aNil))) (aVar 15))) (aOr (aTst (aOp (raInS false (raInU false [(17, S_Bundle_contains)])) (aVar 4) (aVar 10))) (aTst (aOp raNe (aCall (raCall S_l_read) (aCons (aFrzI (aCall (raNew 17 (optS S_Bundle_init 1 .et)) (aCons (aVar 10) aNil))) (aCons (aVar 6) aNil))) (aVar 15))))) (aRet (aC (.bl false))) aNext)
    (aSeq (aSet 17 (aCall (raCall S_l_take) (aCons (aVar 1) (aCons (aVar 2) aNil))))
    (aSeq (aSet 18 (aCall (raCall S_l_dict) (aCons (aVar 1) (aCons (aVar 5) (aCons (aVar 6) (aCons (aVar 8) (aCons (aC (.bl true)) aNil)))))))
    (aSeq (sSub (raSetU []) (aVar 18) (aOp raIx1 (aVar 6) (aVar 13)) (aUn raNeg (aC (.int 1))))
    (aSeq (sSub (raSetU []) (aVar 18) (aOp raIx1 (aVar 6) (aVar 17)) (aCall (raRat 2) (aCons (aUn raNeg (aC (.int 1))) (aCons (aC (.int 3)) aNil))))
    (aSeq (aIfS (aNot (aTst (aCall (raCall S_l_made_refused) (aCons (aVar 18) (aCons (aOp raIx1 (aVar 6) (aCall raMin2 (aCons (aCall raInt (aCons (aVar 13) aNil)) (aCons (aCall raInt (aCons (aVar 17) aNil)) aNil)))) aNil))))) (aRet (aC (.bl false))) aNext)
    (aSeq (aSet 19 (aLc (aRng1 (aCons (aVar 2) aNil)) (aGN 22) aYes (aTup (aCons (aC (.int 0)) (aCons (aC (.int 1)) aNil))) [22]))
    (aSeq (aIfS (aOr (aTst (aOp raNe (aCall (raCall S_l_read) (aCons (aFrzI (aCall (raNew 17 (optS S_Bundle_init 1 .et)) aNil)) (aCons (aVar 6) aNil))) (aVar 19))) (aTst (aOp raNe (aCall (raCall S_l_read) (aCons (aFrzI (aCall (raNew 17 (optS S_Bundle_init 1 .et)) (aCons (aFrz aDct0) aNil))) (aCons (aVar 6) aNil))) (aVar 19)))) (aRet (aC (.bl false))) aNext)
    (aSeq (aSet 20 (aCall raListM (aCons (aVar 19) aNil)))
    (aSeq (sSub (raSetU []) (aVar 20) (aVar 13) (aVar 14))
    (aSeq (aSet 21 (aCall raListM (aCons (aVar 19) aNil)))
    (aSeq (sSub (raSetU []) (aVar 21) (aVar 17) (aTup (aCons (aC (.int 1)) (aCons (aC (.int 1)) aNil))))
    (aSeq (aIfS (aTst (aOp raNe (aCall (raCall S_l_read) (aCons (aStat 17 (optS S_Bundle_single 1 (.int 1)) (aC (.cls 17)) (aCons (aOp raIx1 (aVar 6) (aVar 13)) (aCons (aCall (raCall S_l_number) (aCons (aVar 1) (aCons (aVar 14) aNil))) aNil))) (aCons (aVar 6) aNil))) (aVar 20))) (aRet (aC (.bl false))) aNext)
    (aRet (aAndV (aOp raEq (aCall (raCall S_l_read) (aCons (aStat 17 (optS S_Bundle_single 1 (.int 1)) (aC (.cls 17)) (aCons (aOp raIx1 (aVar 6) (aVar 17)) aNil)) (aCons (aVar 6) aNil))) (aVar 21)) (aCall (raCall S_l_single_refused) (aCons (aVar 4) (aCons (aUn raNeg (aC (.int 2))) aNil))))))))))))))))))))))))))))))))))))))))))))))
theorem ok_law (T : Txt K mg W) {S_l_tape : SpA} {S_l_take : SpA} {S_l_names : SpA} {S_l_need : SpA} {S_l_dict : SpA} {S_Bundle_init : SpA} {S_l_read : SpA} {S_Bundle_getitem : SpA} {S_l_pair : SpA} {S_Bundle_contains : SpA} {S_l_number : SpA} {S_Bundle_setitem : SpA} {S_l_set_refused : SpA} {S_l_made_refused : SpA} {S_Bundle_single : SpA} {S_l_single_refused : SpA} (h_l_tape : Has P w K mg base W "_law_tape" 3 S_l_tape) (h_l_take : Has P w K mg base W "_law_take" 3 S_l_take) (h_l_names : Has P w K mg base W "_law_names" 4 S_l_names) (h_l_need : Has P w K mg base W "_law_need" 6 S_l_need) (h_l_dict : Has P w K mg base W "_law_dict" 6 S_l_dict) (h_Bundle_init : FnR P w K mg base (L2.CX P w) 10 (adrOf (PySem.W.findIn K (.ref (W.cl 17)) "__init__")) (spOf W (optS S_Bundle_init 1 .et))) (h_l_read : Has P w K mg base W "_law_read" 9 S_l_read) (h_Bundle_getitem : FnR P w K mg base (L2.CX P w) 5 (adrOf (PySem.W.findIn K (.ref (W.cl 17)) "__getitem__")) (spOf W S_Bundle_getitem)) (h_l_pair : Has P w K mg base W "_law_pair" 4 S_l_pair) (h_Bundle_contains : FnR P w K mg base (L2.CX P w) 3 (adrOf (PySem.W.findIn K (.ref (W.cl 17)) "__contains__")) (spOf W S_Bundle_contains)) (h_l_number : Has P w K mg base W "_law_number" 5 S_l_number) (h_Bundle_setitem : FnR P w K mg base (L2.CX P w) 10 (adrOf (PySem.W.findIn K (.ref (W.cl 17)) "__setitem__")) (spOf W S_Bundle_setitem)) (h_l_set_refused : Has P w K mg base W "_law_set_refused" 14 S_l_set_refused) (h_Ratio_init : FnR P w K mg base (L2.CX P w) 1 (adrOf (PySem.W.findIn K (.ref (W.cl 0)) "__init__")) (spRI2 (W.cl 0) (W.cl 2))) (h_l_made_refused : Has P w K mg base W "_law_made_refused" 14 S_l_made_refused) (h_Bundle_single : FnR P w K mg base (L2.CX P w) 14 (smA "Bundle" "single" K) (spOf W (optS S_Bundle_single 1 (.int 1)))) (h_l_single_refused : Has P w K mg base W "_law_single_refused" 18 S_l_single_refused) {f : Addr} {fd : FuncData} {dvs : List V} {kws : List (Str × V)} {S : SpA} (F : FunD K "law" "law" (defArgs (topS 35)) (defBody (topS 35)) (defScope (topS 35)) dvs kws f fd) (hS : Keeps 1 25 S (r_law W S_l_tape S_l_take S_l_names S_l_need S_l_dict S_Bundle_init S_l_read S_Bundle_getitem S_l_pair S_Bundle_contains S_l_number S_Bundle_setitem S_l_set_refused S_l_made_refused S_Bundle_single S_l_single_refused)) : FnOk P w K mg base (L2.CX P w) 19 f fd ["_law_script"] (spOf W S) :=
  have nd := sc_law.nd
  ok_by F sc_law hS fun cdv A outer s H E hr hu tk po => by
    exact (ss_cons (sa_set (i := 1) nd rfl (Or.inr rfl) (ea_callH h_l_tape hr tk (aa_cons (ea_var 0) aa_nil)))
      (ss_cons (sa_set (i := 2) nd rfl (Or.inl rfl) (ea_op oa_addC ea_int (ea_callH h_l_take hr tk (aa_cons (ea_var 1) (aa_cons ea_int aa_nil)))))
      (ss_cons (sa_set (i := 3) nd rfl (Or.inl rfl) (ea_callH h_l_names hr tk (aa_cons (ea_var 1) (aa_cons (ea_op oa_addC (ea_var 2) ea_int) aa_nil))))
      (ss_cons (sa_set (i := 4) nd rfl (Or.inl rfl) (ea_ix (ixa_1 hu) (ea_var 3) (ea_var 2)))
      (ss_cons (sa_set (i := 5) nd rfl (Or.inl rfl) (ea_sl (ea_var 3) oo_none (oo_some (ea_var 2))))
      (ss_cons (sa_set (i := 6) nd rfl (Or.inr rfl) (ea_callB ca_sortS T.no_sorted bt_sorted (aa_cons (ea_lc (own := [("_law_name", 24)]) (g := gName 24) rfl nd (ia_u T.emp (it_nil (j := 0)) (hr.mono (by decide)) tk (ea_var 5)) (blkOk_by (N := ["_law_script", "_law_tape_here", "_law_many", "_law_order", "_law_strange", "_law_known", "_law_goods", "_law_wider", "_law_row", "_law_given", "_law_bundle", "_law_copy", "_law_held", "_law_place", "_law_value", "_law_later", "_law_at", "_law_other", "_law_wrong", "_law_zeros", "_law_alone", "_law_one", "_law_k", "_law_good", "_law_name"]) (sc := defScope (topS 35)) (by decide +kernel)) (fun _ _ _ _ _ => pg_name (i := 24) nd rfl (Or.inl rfl)) (gk_name (by decide)) (fun _ _ _ _ _ => ts_nil) (fun _ _ _ _ _ => (ea_callTy (ca_str2 ca_none) T.no_str bt_str (aa_cons (ea_var 24) aa_nil)))) aa_nil)))
      (ss_cons (sa_set (i := 7) nd rfl (Or.inl rfl) (ea_callB ca_sortS T.no_sorted bt_sorted (aa_cons (ea_lc (own := [("_law_name", 24)]) (g := gName 24) rfl nd (ia_u T.emp (it_nil (j := 0)) (hr.mono (by decide)) tk (ea_var 3)) (blkOk_by (N := ["_law_script", "_law_tape_here", "_law_many", "_law_order", "_law_strange", "_law_known", "_law_goods", "_law_wider", "_law_row", "_law_given", "_law_bundle", "_law_copy", "_law_held", "_law_place", "_law_value", "_law_later", "_law_at", "_law_other", "_law_wrong", "_law_zeros", "_law_alone", "_law_one", "_law_k", "_law_good", "_law_name"]) (sc := defScope (topS 35)) (by decide +kernel)) (fun _ _ _ _ _ => pg_name (i := 24) nd rfl (Or.inl rfl)) (gk_name (by decide)) (fun _ _ _ _ _ => ts_nil) (fun _ _ _ _ _ => (ea_callTy (ca_str2 ca_none) T.no_str bt_str (aa_cons (ea_var 24) aa_nil)))) aa_nil)))
      (ss_cons (sa_set (i := 8) nd rfl (Or.inr rfl) (ea_lc (own := [("_law_k", 22)]) (g := gName 22) rfl nd (ia_range1 T.no_range (aa_cons (ea_var 2) aa_nil)) (blkOk_by (N := ["_law_script", "_law_tape_here", "_law_many", "_law_order", "_law_strange", "_law_known", "_law_goods", "_law_wider", "_law_row", "_law_given", "_law_bundle", "_law_copy", "_law_held", "_law_place", "_law_value", "_law_later", "_law_at", "_law_other", "_law_wrong", "_law_zeros", "_law_alone", "_law_one", "_law_k", "_law_good", "_law_name"]) (sc := defScope (topS 35)) (by decide +kernel)) (fun _ _ _ _ _ => pg_name (i := 22) nd rfl (Or.inl rfl)) (gk_name (by decide)) (fun _ _ _ _ _ => ts_nil) (fun _ _ _ _ _ => (ea_callH h_l_need hr takes0 (aa_cons (ea_var 1) aa_nil)))))
      (ss_cons (sa_set (i := 9) nd rfl (Or.inl rfl) (ea_callH h_l_dict hr tk (aa_cons (ea_var 1) (aa_cons (ea_var 5) (aa_cons (ea_var 6) (aa_cons (ea_var 8) (aa_cons (ea_cmp (oa_eq hu) (ea_callH h_l_take hr tk (aa_cons (ea_var 1) (aa_cons ea_int aa_nil))) ea_int) aa_nil)))))))
      (ss_cons (sa_set (i := 10) nd rfl (Or.inr rfl) (ea_callF (cl_new (c := 17) rfl T.mk_17 h_Bundle_init (hr.mono (by decide)) tk) T.mg_Bundle T.mk_17.kp (aa_cons (ea_var 9) aa_nil)))
      (ss_cons (sa_set (i := 11) nd rfl (Or.inl rfl) (ea_frzI T.wf (ea_callF (cl_new (c := 17) rfl T.mk_17 h_Bundle_init (hr.mono (by decide)) tk) T.mg_Bundle T.mk_17.kp (aa_cons (ea_var 10) aa_nil))))
      (ss_cons (sa_sub (seta_u hu (mt_nil (j := 0)) ownT0 (hr.mono (by decide)) tk) (ea_var 9) (ea_var 4) ea_int)
      (ss_cons (sa_sub (seta_u hu (mt_nil (j := 0)) ownT0 (hr.mono (by decide)) tk) (ea_var 9) (ea_ix (ixa_1 hu) (ea_var 6) ea_int) ea_int)
      (ss_cons (sa_if (wa_or (ta_cmp (oa_ne hu) (ea_callH h_l_read hr tk (aa_cons (ea_var 10) (aa_cons (ea_var 6) aa_nil))) (ea_var 8)) (wa_or (ta_cmp (oa_ne hu) (ea_callH h_l_read hr tk (aa_cons (ea_var 11) (aa_cons (ea_var 6) aa_nil))) (ea_var 8)) (wa_or1 (ta_cmp (oa_ne hu) (ea_callH h_l_pair hr tk (aa_cons (ea_ixu hu (mt_cons T.mth_17_getitem T.ic_17 h_Bundle_getitem (mt_nil (j := 5))) (ownT1 T.os_17_getitem) (hr.mono (by decide)) tk (ea_var 10) (ea_var 4)) aa_nil)) (ea_tup (aa_cons ea_int (aa_cons ea_int aa_nil))))))).ta (ss_one (sa_ret ea_bl)) ss_nil)
      (ss_cons (sa_setLc (i := 12) (own := [("_law_good", 23)]) (g := gName 23) rfl rfl rfl nd (ia_u T.emp (it_nil (j := 0)) (hr.mono (by decide)) tk (ea_var 3)) (blkOk_by (N := ["_law_script", "_law_tape_here", "_law_many", "_law_order", "_law_strange", "_law_known", "_law_goods", "_law_wider", "_law_row", "_law_given", "_law_bundle", "_law_copy", "_law_held", "_law_place", "_law_value", "_law_later", "_law_at", "_law_other", "_law_wrong", "_law_zeros", "_law_alone", "_law_one", "_law_k", "_law_good", "_law_name"]) (sc := defScope (topS 35)) (by decide +kernel)) (fun _ _ _ _ _ => pg_name (i := 23) nd rfl (Or.inl rfl)) (gk_name (by decide)) (fun _ _ _ _ _ => ts_one (ta_cmp (oa_inS (neg := false) (oa_inU hu (mt_cons T.mth_17_contains T.ic_17 h_Bundle_contains (mt_nil (j := 3))) (hr.mono (by decide)) takes0 false)) (ea_var 23) (ea_var 10))) (fun _ _ _ _ _ => (ea_var 23)))
      (ss_cons (sa_if (ta_cmp (oa_ne hu) (ea_var 12) (ea_lc (own := [("_law_good", 23)]) (g := gName 23) rfl nd (ia_u T.emp (it_nil (j := 0)) (hr.mono (by decide)) tk (ea_var 3)) (blkOk_by (N := ["_law_script", "_law_tape_here", "_law_many", "_law_order", "_law_strange", "_law_known", "_law_goods", "_law_wider", "_law_row", "_law_given", "_law_bundle", "_law_copy", "_law_held", "_law_place", "_law_value", "_law_later", "_law_at", "_law_other", "_law_wrong", "_law_zeros", "_law_alone", "_law_one", "_law_k", "_law_good", "_law_name"]) (sc := defScope (topS 35)) (by decide +kernel)) (fun _ _ _ _ _ => pg_name (i := 23) nd rfl (Or.inl rfl)) (gk_name (by decide)) (fun _ _ _ _ _ => ts_one (wa_and (ta_cmp (oa_inS (neg := false) (oa_inU hu (mt_nil (j := 0)) (hr.mono (by decide)) takes0 false)) (ea_var 23) (ea_var 6)) (wa_and1 (ta_cmp oa_gt0 (ea_ix (ixa_1 hu) (ea_ix (ixa_1 hu) (ea_var 8) (ea_bm PySem.F.plainAttrs_list PySem.F.slot_list_index PySem.F.type_list_index ty_lst ma_indexS (ea_var 6) (aa_cons (ea_var 23) aa_nil))) ea_int) ea_int))).ta) (fun _ _ _ _ _ => (ea_var 23)))) (ss_one (sa_ret ea_bl)) ss_nil)
      (ss_cons (sa_set (i := 13) nd rfl (Or.inl rfl) (ea_callH h_l_take hr tk (aa_cons (ea_var 1) (aa_cons (ea_var 2) aa_nil))))
      (ss_cons (sa_set (i := 14) nd rfl (Or.inl rfl) (ea_callH h_l_need hr tk (aa_cons (ea_var 1) aa_nil)))
      (ss_cons (sa_sub (seta_u hu (mt_cons T.mth_17_setitem T.ic_17 h_Bundle_setitem (mt_nil (j := 10))) (ownT1 T.os_17_setitem) (hr.mono (by decide)) tk) (ea_var 10) (ea_ix (ixa_1 hu) (ea_var 6) (ea_var 13)) (ea_callH h_l_number hr tk (aa_cons (ea_var 1) (aa_cons (ea_var 14) aa_nil))))
      (ss_cons (sa_set (i := 15) nd rfl (Or.inl rfl) (ea_callTy ca_listM T.no_list bt_list (aa_cons (ea_var 8) aa_nil)))
      (ss_cons (sa_sub (seta_u hu (mt_nil (j := 0)) ownT0 (hr.mono (by decide)) tk) (ea_var 15) (ea_var 13) (ea_var 14))
      (ss_cons (sa_if (wa_or (ta_cmp (oa_ne hu) (ea_callH h_l_read hr tk (aa_cons (ea_var 10) (aa_cons (ea_var 6) aa_nil))) (ea_var 15)) (wa_or1 (ta_cmp (oa_ne hu) (ea_callH h_l_read hr tk (aa_cons (ea_var 11) (aa_cons (ea_var 6) aa_nil))) (ea_var 8)))).ta (ss_one (sa_ret ea_bl)) ss_nil)
      (ss_cons (sa_if (ta_not (ta_val (ea_callH h_l_set_refused hr tk (aa_cons (ea_var 10) (aa_cons (ea_ix (ixa_1 hu) (ea_var 6) (ea_var 13)) (aa_cons (ea_op oa_sub0 (ea_un ua_neg ea_int) (ea_callH h_l_take hr tk (aa_cons (ea_var 1) (aa_cons ea_int aa_nil)))) aa_nil)))))) (ss_one (sa_ret ea_bl)) ss_nil)
      (ss_cons (sa_if (ta_not (ta_val (ea_callH h_l_set_refused hr tk (aa_cons (ea_var 10) (aa_cons (ea_var 4) (aa_cons (ea_callF (cl_rat (zb := 2) T.rc rfl rfl h_Ratio_init (hr.mono (by decide)) tk) T.mg_Ratio T.kp_Ratio (aa_cons (ea_un ua_neg ea_int) (aa_cons (ea_op oa_addC ea_int (ea_callH h_l_take hr tk (aa_cons (ea_var 1) (aa_cons ea_int aa_nil)))) aa_nil))) aa_nil)))))) (ss_one (sa_ret ea_bl)) ss_nil)
      (ss_cons (sa_sub (seta_u hu (mt_cons T.mth_17_setitem T.ic_17 h_Bundle_setitem (mt_nil (j := 10))) (ownT1 T.os_17_setitem) (hr.mono (by decide)) tk) (ea_var 10) (ea_var 4) (ea_callF (cl_rat (zb := 2) T.rc rfl rfl h_Ratio_init (hr.mono (by decide)) tk) T.mg_Ratio T.kp_Ratio (aa_cons ea_int (aa_cons ea_int aa_nil))))
      (ss_cons (sa_set (i := 16) nd rfl (Or.inl rfl) (ea_bm PySem.F.plainAttrs_list PySem.F.slot_list_index PySem.F.type_list_index ty_lst ma_indexS (ea_var 7) (aa_cons (ea_var 4) aa_nil)))
      (ss_cons (sa_if (ta_cmp (oa_ne hu) (ea_callH h_l_read hr tk (aa_cons (ea_var 10) (aa_cons (ea_var 7) aa_nil))) (ea_op oa_addC (ea_op oa_addC (ea_sl (ea_var 15) oo_none (oo_some (ea_var 16))) (ea_fl (aa_cons (ea_tup (aa_cons ea_int (aa_cons ea_int aa_nil))) aa_nil))) (ea_sl (ea_var 15) (oo_some (ea_var 16)) oo_none))) (ss_one (sa_ret ea_bl)) ss_nil)
      (ss_cons (sa_sub (seta_u hu (mt_cons T.mth_17_setitem T.ic_17 h_Bundle_setitem (mt_nil (j := 10))) (ownT1 T.os_17_setitem) (hr.mono (by decide)) tk) (ea_var 10) (ea_var 4) ea_int)
      (ss_cons (sa_if (wa_or (ta_cmp (oa_ne hu) (ea_callH h_l_read hr tk (aa_cons (ea_var 10) (aa_cons (ea_var 6) aa_nil))) (ea_var 15)) (wa_or (ta_cmp (oa_inS (neg := false) (oa_inU hu (mt_cons T.mth_17_contains T.ic_17 h_Bundle_contains (mt_nil (j := 3))) (hr.mono (by decide)) tk false)) (ea_var 4) (ea_var 10)) (wa_or1 (ta_cmp (oa_ne hu) (ea_callH h_l_read hr tk (aa_cons (ea_frzI T.wf (ea_callF (cl_new (c := 17) rfl T.mk_17 h_Bundle_init (hr.mono (by decide)) tk) T.mg_Bundle T.mk_17.kp (aa_cons (ea_var 10) aa_nil))) (aa_cons (ea_var 6) aa_nil))) (ea_var 15))))).ta (ss_one (sa_ret ea_bl)) ss_nil)
      (ss_cons (sa_set (i := 17) nd rfl (Or.inl rfl) (ea_callH h_l_take hr tk (aa_cons (ea_var 1) (aa_cons (ea_var 2) aa_nil))))
      (ss_cons (sa_set (i := 18) nd rfl (Or.inl rfl) (ea_callH h_l_dict hr tk (aa_cons (ea_var 1) (aa_cons (ea_var 5) (aa_cons (ea_var 6) (aa_cons (ea_var 8) (aa_cons ea_bl aa_nil)))))))
      (ss_cons (sa_sub (seta_u hu (mt_nil (j := 0)) ownT0 (hr.mono (by decide)) tk) (ea_var 18) (ea_ix (ixa_1 hu) (ea_var 6) (ea_var 13)) (ea_un ua_neg ea_int))
      (ss_cons (sa_sub (seta_u hu (mt_nil (j := 0)) ownT0 (hr.mono (by decide)) tk) (ea_var 18) (ea_ix (ixa_1 hu) (ea_var 6) (ea_var 17)) (ea_callF (cl_rat (zb := 2) T.rc rfl rfl h_Ratio_init (hr.mono (by decide)) tk) T.mg_Ratio T.kp_Ratio (aa_cons (ea_un ua_neg ea_int) (aa_cons ea_int aa_nil))))
      (ss_cons (sa_if (ta_not (ta_val (ea_callH h_l_made_refused hr tk (aa_cons (ea_var 18) (aa_cons (ea_ix (ixa_1 hu) (ea_var 6) (ea_callB (ca_min2 rfl) T.no_min bt_min (aa_cons (ea_callTy ca_int T.no_int bt_int (aa_cons (ea_var 13) aa_nil)) (aa_cons (ea_callTy ca_int T.no_int bt_int (aa_cons (ea_var 17) aa_nil)) aa_nil)))) aa_nil))))) (ss_one (sa_ret ea_bl)) ss_nil)
      (ss_cons (sa_setLc (i := 19) (own := [("_law_k", 22)]) (g := gName 22) rfl rfl rfl nd (ia_range1 T.no_range (aa_cons (ea_var 2) aa_nil)) (blkOk_by (N := ["_law_script", "_law_tape_here", "_law_many", "_law_order", "_law_strange", "_law_known", "_law_goods", "_law_wider", "_law_row", "_law_given", "_law_bundle", "_law_copy", "_law_held", "_law_place", "_law_value", "_law_later", "_law_at", "_law_other", "_law_wrong", "_law_zeros", "_law_alone", "_law_one", "_law_k", "_law_good", "_law_name"]) (sc := defScope (topS 35)) (by decide +kernel)) (fun _ _ _ _ _ => pg_name (i := 22) nd rfl (Or.inl rfl)) (gk_name (by decide)) (fun _ _ _ _ _ => ts_nil) (fun _ _ _ _ _ => (ea_tup (aa_cons ea_int (aa_cons ea_int aa_nil)))))
      (ss_cons (sa_if (wa_or (ta_cmp (oa_ne hu) (ea_callH h_l_read hr tk (aa_cons (ea_frzI T.wf (ea_callF0 (cl_new (c := 17) rfl T.mk_17 h_Bundle_init (hr.mono (by decide)) tk) T.mg_Bundle T.mk_17.kp)) (aa_cons (ea_var 6) aa_nil))) (ea_var 19)) (wa_or1 (ta_cmp (oa_ne hu) (ea_callH h_l_read hr tk (aa_cons (ea_frzI T.wf (ea_callF (cl_new (c := 17) rfl T.mk_17 h_Bundle_init (hr.mono (by decide)) tk) T.mg_Bundle T.mk_17.kp (aa_cons (ea_frz ea_dct0) aa_nil))) (aa_cons (ea_var 6) aa_nil))) (ea_var 19)))).ta (ss_one (sa_ret ea_bl)) ss_nil)
      (ss_cons (sa_set (i := 20) nd rfl (Or.inl rfl) (ea_callTy ca_listM T.no_list bt_list (aa_cons (ea_var 19) aa_nil)))
      (ss_cons (sa_sub (seta_u hu (mt_nil (j := 0)) ownT0 (hr.mono (by decide)) tk) (ea_var 20) (ea_var 13) (ea_var 14))
      (ss_cons (sa_set (i := 21) nd rfl (Or.inl rfl) (ea_callTy ca_listM T.no_list bt_list (aa_cons (ea_var 19) aa_nil)))
      (ss_cons (sa_sub (seta_u hu (mt_nil (j := 0)) ownT0 (hr.mono (by decide)) tk) (ea_var 21) (ea_var 17) (ea_tup (aa_cons ea_int (aa_cons ea_int aa_nil))))
      (ss_cons (sa_if (ta_cmp (oa_ne hu) (ea_callH h_l_read hr tk (aa_cons (ea_stat T.sm_Bundle_single h_Bundle_single (ea_cls rfl T.mg_Bundle) (hr.mono (by decide)) tk (aa_cons (ea_ix (ixa_1 hu) (ea_var 6) (ea_var 13)) (aa_cons (ea_callH h_l_number hr tk (aa_cons (ea_var 1) (aa_cons (ea_var 14) aa_nil))) aa_nil))) (aa_cons (ea_var 6) aa_nil))) (ea_var 20)) (ss_one (sa_ret ea_bl)) ss_nil)
      (ss_one (sa_ret (ea_and (ea_cmp (oa_eq hu) (ea_callH h_l_read hr tk (aa_cons (ea_stat T.sm_Bundle_single h_Bundle_single (ea_cls rfl T.mg_Bundle) (hr.mono (by decide)) tk (aa_cons (ea_ix (ixa_1 hu) (ea_var 6) (ea_var 17)) aa_nil)) (aa_cons (ea_var 6) aa_nil))) (ea_var 21)) (ea_one (ea_callH h_l_single_refused hr tk (aa_cons (ea_var 4) (aa_cons (ea_un ua_neg ea_int) aa_nil))))))))))))))))))))))))))))))))))))))))))))))))
end
end RF
set_option maxRecDepth 100000
set_option maxHeartbeats 4000000
namespace RF
open PySem PySem.Spec PyProof.Rows L2
local macro_rules | `(tactic| walk_at "rd0") => `(tactic| first
  | ((with_reducible refine' i_var ?h1 ?_); (case h1 => rfl))
  | with_reducible refine i_cons ?_
  | with_reducible refine i_c ?_
  | with_reducible refine i_nil ?_
  | with_reducible refine i_call ?_
  | with_reducible refine i_op ?_
  | with_reducible refine i_set ?_
  | with_reducible refine i_if ?_
  | with_reducible refine i_tst ?_
  | with_reducible refine i_tstQ ?_
  | with_reducible refine i_tt ?_
  | with_reducible refine i_ff ?_
  | with_reducible refine i_nt ?_
  | with_reducible refine i_nf ?_
  | with_reducible refine i_and ?_
  | with_reducible refine i_or ?_
  | with_reducible refine i_not ?_
  | with_reducible refine i_andV ?_
  | with_reducible refine i_orV ?_
  | with_reducible refine i_notV ?_
  | with_reducible refine i_andQ ?_
  | with_reducible refine i_orQ ?_
  | with_reducible refine i_notQ ?_
  | with_reducible refine i_ret ?_
  | with_reducible refine i_next ?_
  | with_reducible refine i_sub ?_
  | ((with_reducible refine' i_setL ?h1 ?h2 ?h3 ?_); (case h1 => rfl); (case h2 => rfl); (case h3 => rfl))
  | ((with_reducible refine' i_ixR ?h1 ?h2 ?_); (case h1 => rfl); (case h2 => rfl))
  | ((with_reducible refine' i_ixF ?h1 ?_); (case h1 => rfl))
  | ((with_reducible refine' i_ixT ?h1 ?_); (case h1 => rfl))
  | with_reducible refine i_eqI ?_
  | with_reducible refine i_neI ?_
  | with_reducible refine i_add ?_
  | with_reducible refine i_subI ?_
  | with_reducible refine i_cmp ?_
  | with_reducible refine i_neg ?_
  | with_reducible refine i_un ?_
  | with_reducible refine i_fld ?_
  | with_reducible refine i_fldT ?_
  | with_reducible refine i_fldB ?_
  | with_reducible refine i_abs ?_
  | with_reducible refine i_intI ?_
  | with_reducible refine i_intB ?_
  | with_reducible refine i_boolI ?_
  | with_reducible refine i_boolB ?_
  | with_reducible refine i_lenF ?_
  | with_reducible refine i_lenT ?_
  | ((with_reducible refine' i_lenR ?h1 ?_); (case h1 => rfl))
  | with_reducible refine i_gcd ?_
  | with_reducible refine i_listF ?_
  | with_reducible refine i_rat1 ?_
  | ((with_reducible refine' i_isi ?h1 ?_); (case h1 => rfl))
  | with_reducible refine i_tup ?_
  | with_reducible refine i_fl ?_
  | with_reducible refine i_lst ?_
  | ((with_reducible refine' i_ok ?h1 ?_); (case h1 => rfl))
  | with_reducible refine i_isNon ?_
  | with_reducible refine i_notNon ?_
  | ((with_reducible refine' i_isO ?h1 ?_); (case h1 => rfl))
  | ((with_reducible refine' i_notO ?h1 ?_); (case h1 => rfl))
  | with_reducible refine i_ifE ?_
  | with_reducible refine i_drop ?_
  | with_reducible refine i_retN ?_
  | with_reducible refine i_par ?_
  | with_reducible refine i_parQ ?_
  | with_reducible refine i_asg ?_
  | with_reducible refine i_gn ?_
  | ((with_reducible refine' i_gt ?h1 ?_); (case h1 => rfl))
  | with_reducible refine i_gsc ?_
  | with_reducible refine i_gsn ?_
  | with_reducible refine i_raise ?_
  | with_reducible refine i_tryas ?_
  | with_reducible refine i_tryonly ?_
  | with_reducible refine i_for ?_
  | with_reducible refine i_it ?_
  | with_reducible refine i_items ?_
  | with_reducible refine i_rng1 ?_
  | with_reducible refine i_rng2 ?_
  | with_reducible refine i_lc ?_
  | with_reducible refine i_yes ?_
  | with_reducible refine i_brk ?_
  | with_reducible refine i_cnt ?_
  | with_reducible refine i_join ?_
  | with_reducible refine i_jsN ?_
  | with_reducible refine i_jsC ?_
  | with_reducible refine i_fmt ?_
  | with_reducible refine i_strR ?_
  | ((with_reducible refine' i_mod ?h1 ?_); (case h1 => first | decide | omega))
  | ((with_reducible refine' i_mul ?h1 ?_); (case h1 => first | (refine mul_r ?_ ?_ <;> omega) | (refine mul_l ?_ ?_ <;> omega)))
  | ((with_reducible refine' i_div ?h1 ?_); (case h1 => refine cfd_of ?_ ?_ <;> omega))
  | with_reducible refine i_addCI ?_
  | with_reducible refine i_ixP0 ?_
  | with_reducible refine i_ixP1 ?_
  | with_reducible refine i_af ?_
  | ((with_reducible refine' i_afQ ?h1 ?h2 ?h3 ?h4 ?_); (case h1 => rfl); (case h2 => rfl); (case h3 => rfl); (case h4 => rfl))
  | with_reducible refine i_fset ?_
  | ((with_reducible refine' i_fsNew ?h1 ?h2 ?h3 ?_); (case h1 => rfl); (case h2 => rfl); (case h3 => rfl))
  | ((with_reducible refine' i_fsOld ?h1 ?h2 ?h3 ?h4 ?_); (case h1 => rfl); (case h2 => rfl); (case h3 => rfl); (case h4 => rfl))
  | with_reducible refine i_mth ?_
  | ((with_reducible refine' i_mthQ ?h1 ?_); (case h1 => rfl))
  | with_reducible refine i_stat ?_
  | with_reducible refine i_statQ ?_
  | ((with_reducible refine' i_new ?h1 ?h2 ?_); (case h1 => first | (simp only [List.length_cons, List.length_nil, Nat.zero_add, Nat.reduceAdd]; rfl) | rfl); (case h2 => first | (simp only [List.cons_append, List.nil_append]; rfl) | rfl))
  | with_reducible refine i_newQ ?_
  | with_reducible refine i_frzI ?_
  | ((with_reducible refine' i_frzIQ ?h1 ?h2 ?h3 ?_); (case h1 => rfl); (case h2 => rfl); (case h3 => rfl))
  | with_reducible refine i_frz ?_
  | ((with_reducible refine' i_frzL ?h1 ?_); (case h1 => rfl))
  | ((with_reducible refine' i_frzD ?h1 ?_); (case h1 => rfl))
  | ((with_reducible refine' i_ixO ?h1 ?_); (case h1 => rfl))
  | ((with_reducible refine' i_ixN ?h1 ?_); (case h1 => rfl))
  | with_reducible refine i_ix1F ?_
  | with_reducible refine i_ix1T ?_
  | ((with_reducible refine' i_ix1R ?h1 ?_); (case h1 => rfl))
  | ((with_reducible refine' i_ssO ?h1 ?_); (case h1 => rfl))
  | ((with_reducible refine' i_ssL ?h1 ?h2 ?_); (case h1 => rfl); (case h2 => rfl))
  | ((with_reducible refine' i_inO ?h1 ?_); (case h1 => rfl))
  | with_reducible refine i_inOF ?_
  | with_reducible refine i_inOT ?_
  | ((with_reducible refine' i_inSN ?h1 ?_); (case h1 => rfl))
  | ((with_reducible refine' i_inSF ?h1 ?h2 ?_); (case h1 => rfl); (case h2 => exact strsD_map _))
  | ((with_reducible refine' i_inST ?h1 ?h2 ?_); (case h1 => rfl); (case h2 => exact strsD_map _))
  | ((with_reducible refine' i_inDF ?h1 ?h2 ?h3 ?_); (case h1 => rfl); (case h2 => rfl); (case h3 => rfl))
  | ((with_reducible refine' i_inDT ?h1 ?h2 ?h3 ?_); (case h1 => rfl); (case h2 => rfl); (case h3 => rfl))
  | ((with_reducible refine' i_lenO ?h1 ?_); (case h1 => rfl))
  | ((with_reducible refine' i_lenD ?h1 ?h2 ?_); (case h1 => rfl); (case h2 => rfl))
  | ((with_reducible refine' i_lenN ?h1 ?h2 ?_); (case h1 => rfl); (case h2 => rfl))
  | with_reducible refine i_sl ?_
  | with_reducible refine i_pn ?_
  | with_reducible refine i_ps ?_
  | with_reducible refine i_psQ ?_
  | with_reducible refine i_slF ?_
  | ((with_reducible refine' i_slR ?h1 ?_); (case h1 => rfl))
  | with_reducible refine i_bm ?_
  | ((with_reducible refine' i_mtQ ?h1 ?_); (case h1 => rfl))
  | with_reducible refine i_str2 ?_
  | with_reducible refine i_min2 ?_
  | ((with_reducible refine' i_dct0 ?h1 ?h2 ?_); (case h1 => first | (simp only [List.length_cons, List.length_nil, Nat.zero_add, Nat.reduceAdd]; rfl) | rfl); (case h2 => first | (simp only [List.cons_append, List.nil_append]; rfl) | rfl))
  | with_reducible refine i_lrg ?_
  | ((with_reducible refine' i_isiO ?h1 ?h2 ?_); (case h1 => rfl); (case h2 => rfl))
  | ((with_reducible refine' i_isiON ?h1 ?h2 ?h3 ?_); (case h1 => rfl); (case h2 => rfl); (case h3 => rfl))
  | ((with_reducible refine' i_isiOB ?h1 ?_); (case h1 => rfl))
  | with_reducible refine i_disp ?_
  | ((with_reducible refine' i_dispQ ?h1 ?h2 ?_); (case h1 => rfl); (case h2 => rfl))
  | with_reducible refine i_raiseE ?_
  | with_reducible refine i_xf ?_
  | ((with_reducible refine' i_xfQ ?h1 ?h2 ?h3 ?h4 ?_); (case h1 => rfl); (case h2 => rfl); (case h3 => rfl); (case h4 => rfl))
  | with_reducible refine i_dc ?_
  | with_reducible refine i_dcM ?_
  | with_reducible refine i_itU ?_
  | ((with_reducible refine' i_itmU ?h1 ?_); (case h1 => first | exact bD_walk | rfl))
  | ((with_reducible refine' i_listM ?h1 ?_); (case h1 => rfl))
  | ((with_reducible refine' i_lockR ?h1 ?h2 ?_); (case h1 => rfl); (case h2 => rfl))
  | ((with_reducible refine' i_lockI ?h1 ?h2 ?_); (case h1 => rfl); (case h2 => rfl))
  | ((with_reducible refine' i_lockN ?h1 ?h2 ?_); (case h1 => rfl); (case h2 => rfl))
  | ((with_reducible refine' i_wb ?h1 ?h2 ?h3 ?_); (case h1 => rfl); (case h2 => first | (simp only [bkD, refsOf, List.getElem?_cons_zero, List.getElem?_cons_succ, List.getElem?_nil, List.length_cons, List.length_nil, Nat.reduceAdd, Nat.reduceSub, Nat.zero_add]; rfl) | rfl); (case h3 => first | (simp [wbA, fnd, refsOf, renD]; rfl) | rfl))
  | ((with_reducible refine' i_wbX ?h1 ?h3 ?_); (case h1 => rfl); (case h3 => first | (simp [wbA, fnd, refsOf, renD]; rfl) | rfl))
  | with_reducible refine i_strQ ?_)
local macro_rules | `(tactic| walk_at "rd1") => `(tactic| first
  | walk_at "rd0"
  | ((with_reducible refine' i_seqN ?h1 ?h2 ?_); (case h1 => first | (simp only [startA, List.map_cons, List.map_nil, List.length_cons, List.length_nil, List.replicate_succ, List.replicate_zero, List.cons_append, List.nil_append, List.set_cons_succ, List.set_cons_zero, Nat.zero_add, Nat.reduceAdd, Nat.reduceSub]; rfl) | rfl); (case h2 => first | (simp only [startA, List.map_cons, List.map_nil, List.length_cons, List.length_nil, List.replicate_succ, List.replicate_zero, List.cons_append, List.nil_append, List.set_cons_succ, List.set_cons_zero, Nat.zero_add, Nat.reduceAdd, Nat.reduceSub]; rfl) | rfl)))
local macro_rules | `(tactic| walk_at "rd") => `(tactic| repeat walk_at "rd1")
local macro_rules | `(tactic| walk_at "rds") => `(tactic| repeat walk_at "rd0")

/-! ### the tape -/
structure Tape where
  sc : List Int
  i : Int
  cur : Int
  cnt : Int
  seed : Int
def Tape.ds (T : Tape) : List D := [.fl (T.sc.map .int), .int T.i, .int T.cur, .int T.cnt, .int T.seed]
structure Tape.ok (T : Tape) (n : Int) : Prop where
  i : 0 ≤ T.i
  cur : 0 ≤ T.cur
  cnt : 0 ≤ T.cnt
  cn : T.cnt ≤ n
  s0 : 0 ≤ T.seed
  s1 : T.seed < 2147483647
theorem Tape.ok.le {T : Tape} {n m : Int} (h : T.ok n) (hm : n ≤ m) : T.ok m := ⟨h.i, h.cur, h.cnt, Int.le_trans h.cn hm, h.s0, h.s1⟩
theorem fmod_rng {a m : Int} (hm : 0 < m) : 0 ≤ a.fmod m ∧ a.fmod m < m := ⟨Int.fmod_nonneg_of_pos a hm, Int.fmod_lt_of_pos a hm⟩
theorem fdiv_nn {a m : Int} (ha : 0 ≤ a) (hm : 0 < m) : 0 ≤ a.fdiv m := Int.fdiv_nonneg ha (Int.le_of_lt hm)
theorem atI_of {l : List D} {i : Int} (h0 : 0 ≤ i) (h1 : i < l.length) : ∃ x, l[i.toNat]? = some x ∧ L2.atI l i = some x := by
  have hl : i.toNat < l.length := by omega
  refine ⟨l[i.toNat], List.getElem?_eq_getElem hl, ?_⟩
  unfold L2.atI L2.ixN
  rw [if_pos h0, if_pos h1]
  exact List.getElem?_eq_getElem hl
theorem atI_ints {l : List Int} {i : Int} (h0 : 0 ≤ i) (h1 : i < l.length) : ∃ z, L2.atI (l.map D.int) i = some (.int z) := by
  obtain ⟨x, e, h⟩ := atI_of (l := l.map D.int) h0 (by simpa using h1)
  rw [List.getElem?_map] at e
  cases q : l[i.toNat]? with
  | none => rw [q] at e; cases e
  | some z => rw [q] at e; cases e; exact ⟨z, h⟩

def S_l_tape : SpA := fun ds eta Q _ => ∃ ns : List Int, ds = [.fl (ns.map .int)] ∧ eta = [] ∧ ns.length ≤ 63 ∧ ∀ T : Tape, T.ok 0 → Q (.ref 0) [.lst T.ds]
theorem m_l_tape : S_l_tape.Mono := fun _ _ _ _ _ _ h _ ⟨ns, e1, e2, h1, k⟩ => ⟨ns, e1, e2, h1, fun T a => h _ _ (k T a)⟩
theorem intsD_map (l : List Int) : intsD (l.map D.int) = some l := by
  induction l with
  | nil => rfl
  | cons x l ih => simp [intsD, ih]
theorem k_l_tape {W : Wd} : Keeps 1 3 S_l_tape (r_l_tape W) := by
  rintro ds eta Qa EXa ⟨ns, rfl, rfl, hl, k⟩
  refine ⟨rfl, ?_⟩
  unfold r_l_tape
  walk_at "rd"
  refine i_rngQ (by simp only [List.length_map]; omega) ?_
  have e : (↑(List.map D.int ns).length : Int).toNat = ns.length := by simp
  rw [e]
  refine ⟨by rw [rngL_len]; omega, ?_⟩
  refine lcg_i (fun rest acc eta => eta = [] ∧ ∃ j, j ≤ ns.length ∧ rest = rngL j (ns.length - j) ∧ ∃ l : List Int, acc = l.map D.int) ⟨rfl, 0, Nat.zero_le _, rfl, [], rfl⟩ ?_ ?_
  · rintro d rest acc eta ⟨rfl, j, hj, e, l, rfl⟩ K hK
    have hlt : j < ns.length := by
      refine Nat.lt_of_not_le fun z => ?_
      rw [show ns.length - j = 0 by omega] at e
      cases e
    rw [show ns.length - j = (ns.length - (j + 1)) + 1 by omega] at e
    obtain ⟨rfl, rfl⟩ : d = .int j ∧ rest = rngL (j + 1) (ns.length - (j + 1)) := by cases e; exact ⟨rfl, rfl⟩
    obtain ⟨z, hz⟩ := atI_ints (l := ns) (i := (j : Int)) (by omega) (by omega)
    walk_at "rd"
    refine i_ixF hz ?_
    walk_at "rd"
    exact ⟨rfl, hK _ _ ⟨rfl, j + 1, hlt, rfl, l ++ [(if z < 0 then -z else z) * ((j : Int) + 1)], by simp⟩⟩
  · rintro acc eta ⟨rfl, j, hj, e, l, rfl⟩
    walk_at "rd"
    refine i_sum (intsD_map l) ?_
    walk_at "rd"
    refine ⟨rfl, rfl, k ⟨ns, 0, 0, 0, l.sum.fmod 2147483647⟩ ⟨Int.le_refl 0, Int.le_refl 0, Int.le_refl 0, Int.le_refl 0, (fmod_rng (by decide)).1, (fmod_rng (by decide)).2⟩⟩

def S_l_take : SpA := fun ds eta Q _ => ∃ (T : Tape) (n m : Int), ds = [.ref 0, .int m] ∧ eta = [.lst T.ds] ∧ T.ok n ∧ n < 1000000000000 ∧ 0 < m ∧ m < 10000000000000000 ∧
  ∀ (d : Int) (T' : Tape), T'.ok (n + 1) → 0 ≤ d → d < m → Q (.int d) [.lst T'.ds]
theorem m_l_take : S_l_take.Mono := fun _ _ _ _ _ _ h _ ⟨T, n, m, e1, e2, h1, h2, h3, h4, k⟩ => ⟨T, n, m, e1, e2, h1, h2, h3, h4, fun d T' a b c => h _ _ (k d T' a b c)⟩
theorem k_l_take {W : Wd} : Keeps 2 5 S_l_take (r_l_take W) := by
  rintro ds eta Qa EXa ⟨T, n, m, rfl, rfl, ok, hn, hm, hm2, k⟩
  refine ⟨rfl, ?_⟩
  obtain ⟨i0, c0, n0, n1, s0, s1⟩ := ok
  have fin : ∀ (d : Int) (T' : Tape), T'.ok (n + 1) → 0 ≤ d → d < m → exitQ 1 Qa (.int d) [.lst T'.ds] := fun d T' a b c => ⟨rfl, k d T' a b c⟩
  unfold r_l_take
  walk_at "rd"
  refine i_iteD (fun h => ?_) (fun h => ?_)
  · walk_at "rd"
    refine i_iteD (fun h2 => ?_) (fun h2 => ?_)
    · rw [List.length_map] at h2
      obtain ⟨z, hz⟩ := atI_ints i0 h2
      walk_at "rd"
      refine i_ixF hz ?_
      walk_at "rd"
      refine i_posD (by rw [List.length_map]; exact h2) ?_
      walk_at "rd"
      have hz0 : 0 ≤ (if z < 0 then -z else z) := by split <;> omega
      exact fin _ ⟨T.sc, T.i + 1, (if z < 0 then -z else z).fdiv m, T.cnt + 1, T.seed⟩ ⟨by show 0 ≤ T.i + 1; omega, fdiv_nn hz0 hm, by show 0 ≤ T.cnt + 1; omega, by show T.cnt + 1 ≤ n + 1; omega, s0, s1⟩ (fmod_rng hm).1 (fmod_rng hm).2
    · walk_at "rd"
      refine i_negD (by simpa using h2) ?_
      walk_at "rd"
      refine i_negD (by omega) ?_
      walk_at "rd"
      refine i_iteD (fun h3 => ?_) (fun h3 => ?_)
      · walk_at "rd"
        exact fin _ ⟨T.sc, T.i, T.cur, T.cnt + 1, T.seed⟩ ⟨i0, c0, by show 0 ≤ T.cnt + 1; omega, by show T.cnt + 1 ≤ n + 1; omega, s0, s1⟩ (fmod_rng hm).1 (fmod_rng hm).2
      · walk_at "rd"
        exact fin _ ⟨T.sc, T.i, T.cur, T.cnt + 1, T.seed⟩ ⟨i0, c0, by show 0 ≤ T.cnt + 1; omega, by show T.cnt + 1 ≤ n + 1; omega, s0, s1⟩ (fmod_rng hm).1 (fmod_rng hm).2
  · walk_at "rd"
    refine i_posD (by omega) ?_
    walk_at "rd"
    exact fin _ ⟨T.sc, T.i, T.cur.fdiv m, T.cnt + 1, T.seed⟩ ⟨i0, fdiv_nn c0 hm, by show 0 ≤ T.cnt + 1; omega, by show T.cnt + 1 ≤ n + 1; omega, s0, s1⟩ (fmod_rng hm).1 (fmod_rng hm).2

/-! ### words: numbers in base 63 without a zero -/
def signsS : Str := "0123456789ABCDEFGHIJKLMNOPQRSTUVWXYZ_abcdefghijklmnopqrstuvwxyz"
def sgc (d : Nat) : Nat := signsS.cps.toList.getD d 0
def dig : Nat → Nat → List Nat
  | 0, _ => []
  | f + 1, n => if n = 0 then [] else (n - 1) % 63 :: dig f ((n - 1) / 63)
def digB : Nat → Nat
  | 0 => 1
  | f + 1 => 63 * digB f + 1
def digV : List Nat → Nat
  | [] => 0
  | d :: l => d + 1 + 63 * digV l
theorem dig_val : ∀ (f n : Nat), n < digB f → digV (dig f n) = n
  | 0, n, h => by
    have h : n < 1 := h
    show 0 = n
    omega
  | f + 1, n, h => by
    have h : n < 63 * digB f + 1 := h
    unfold dig
    split
    · subst n; rfl
    · have ih := dig_val f ((n - 1) / 63) (by omega)
      show (n - 1) % 63 + 1 + 63 * digV (dig f ((n - 1) / 63)) = n
      rw [ih]
      omega
theorem dig_lt : ∀ (f n : Nat), ∀ d ∈ dig f n, d < 63
  | 0, n, d, h => by simp [dig] at h
  | f + 1, n, d, h => by
    unfold dig at h
    split at h
    · simp at h
    · rcases List.mem_cons.mp h with rfl | h
      · omega
      · exact dig_lt f _ d h
theorem dig_len : ∀ (f n : Nat), (dig f n).length ≤ f
  | 0, n => by simp [dig]
  | f + 1, n => by
    unfold dig
    split
    · simp
    · have := dig_len f ((n - 1) / 63)
      simp; omega
theorem sgc_facts : ((List.range 63).all fun a => (sgc a < 128) && (signsS.cps.toList[a]? == some (sgc a)) && (List.range 63).all fun b => !(sgc a == sgc b) || a == b) = true := by decide +kernel
theorem sgc_at {a : Nat} (h : a < 63) : sgc a < 128 ∧ signsS.cps.toList[a]? = some (sgc a) ∧ ∀ b, b < 63 → sgc a = sgc b → a = b := by
  have z := List.all_eq_true.mp sgc_facts a (List.mem_range.mpr h)
  simp only [Bool.and_eq_true, decide_eq_true_eq, beq_iff_eq, List.all_eq_true] at z
  refine ⟨z.1.1, z.1.2, fun b hb e => ?_⟩
  have z2 := z.2 b (List.mem_range.mpr hb)
  simp only [Bool.or_eq_true, Bool.not_eq_true', beq_iff_eq, beq_eq_false_iff_ne, ne_eq] at z2
  exact z2.resolve_left fun q => q e
theorem sgc_inj : ∀ {l m : List Nat}, (∀ d ∈ l, d < 63) → (∀ d ∈ m, d < 63) → l.map sgc = m.map sgc → l = m
  | [], [], _, _, _ => rfl
  | [], _ :: _, _, _, h => by simp at h
  | _ :: _, [], _, _, h => by simp at h
  | a :: l, b :: m, h1, h2, h => by
    simp only [List.map_cons, List.cons.injEq] at h
    rw [(sgc_at (h1 a List.mem_cons_self)).2.2 b (h2 b List.mem_cons_self) h.1, sgc_inj (fun d hd => h1 d (List.mem_cons_of_mem _ hd)) (fun d hd => h2 d (List.mem_cons_of_mem _ hd)) h.2]
def wrd (l : List Nat) : Str := ⟨(l.map sgc).toArray⟩
def wordS (n : Nat) : Str := wrd (dig 8 n)
theorem wordS_inj {n m : Nat} (hn : n < 1000000000000) (hm : m < 1000000000000) (h : wordS n = wordS m) : n = m := by
  have hb : 1000000000000 < digB 8 := by decide
  have e : dig 8 n = dig 8 m := by
    refine sgc_inj (dig_lt 8 n) (dig_lt 8 m) ?_
    have h2 : (⟨((dig 8 n).map sgc).toArray⟩ : Str) = ⟨((dig 8 m).map sgc).toArray⟩ := h
    simp only [Str.mk.injEq] at h2
    simpa using congrArg Array.toList h2
  have e1 := dig_val 8 n (by omega)
  have e2 := dig_val 8 m (by omega)
  rw [← e1, ← e2, e]
theorem wrd_ok {l : List Nat} (h : ∀ d ∈ l, d < 63) : PyData.strOk (wrd l) = true := by
  unfold PyData.strOk wrd
  simp only [List.all_toArray, List.all_map, List.all_eq_true, Function.comp, decide_eq_true_eq]
  intro d hd
  have := (sgc_at (h d hd)).1
  omega
theorem wordS_ok (n : Nat) : PyData.strOk (wordS n) = true := wrd_ok (dig_lt 8 n)
theorem wrd_snoc (l : List Nat) (d : Nat) : wrd l ++ ⟨#[sgc d]⟩ = wrd (l ++ [d]) := by
  show (⟨(l.map sgc).toArray ++ #[sgc d]⟩ : Str) = ⟨((l ++ [d]).map sgc).toArray⟩
  simp
theorem wrd_len (l : List Nat) : (wrd l).length = l.length := by
  show ((l.map sgc).toArray).size = _
  simp
def S_l_word : SpA := fun ds eta Q _ => ∃ n : Int, ds = [.int n] ∧ eta = [] ∧ 0 ≤ n ∧ Q (.str (wordS n.toNat)) []
theorem m_l_word : S_l_word.Mono := fun _ _ _ _ _ _ h _ ⟨n, e1, e2, h1, k⟩ => ⟨n, e1, e2, h1, h _ _ k⟩
theorem k_l_word {W : Wd} : Keeps 1 4 S_l_word (r_l_word W) := by
  rintro ds eta Qa EXa ⟨n, rfl, rfl, hn, k⟩
  refine ⟨rfl, ?_⟩
  unfold r_l_word
  walk_at "rd"
  refine i_rngQ (by decide) ?_
  refine loop_i (fun rest r e => e = [] ∧ ∃ (j : Nat) (m : Int) (pre : List Nat) (z : Option D), j ≤ 8 ∧ 0 ≤ m ∧ rest = rngL j (8 - j) ∧ r = [some (.int m), some (.str signsS), some (.str (wrd pre)), z] ∧ pre.length ≤ j ∧ pre ++ dig (8 - j) m.toNat = dig 8 n.toNat) ⟨rfl, 0, n, [], none, by decide, hn, rfl, rfl, by decide, rfl⟩ ?_ ?_
  · rintro d rest rho eta ⟨rfl, j, m, pre, z, hj, hm, e, rfl, hpl, hd⟩ K hK
    have hlt : j < 8 := by
      refine Nat.lt_of_not_le fun q => ?_
      rw [show 8 - j = 0 by omega] at e
      cases e
    rw [show 8 - j = (8 - (j + 1)) + 1 by omega] at e hd
    obtain ⟨rfl, rfl⟩ : d = .int j ∧ rest = rngL (j + 1) (8 - (j + 1)) := by cases e; exact ⟨rfl, rfl⟩
    walk_at "rd"
    by_cases hp : 0 < m
    · refine i_posD hp ?_
      walk_at "rd"
      obtain ⟨a, ha, ha63⟩ : ∃ a : Nat, a = (m.toNat - 1) % 63 ∧ a < 63 := ⟨_, rfl, by omega⟩
      have em : (m - 1).fmod 63 = (a : Int) := by rw [Int.fmod_eq_emod_of_nonneg _ (by decide)]; omega
      have ed : (m - 1).fdiv 63 = (((m.toNat - 1) / 63 : Nat) : Int) := by rw [Int.fdiv_eq_ediv_of_nonneg _ (by decide)]; omega
      obtain ⟨f1, f2, f3⟩ := sgc_at ha63
      refine i_ix1S (c := sgc a) ?_ ?_ ?_
      · rw [em]
        have hl : signsS.cps.toList.length = 63 := by decide +kernel
        unfold L2.atI L2.ixN
        rw [if_pos (by omega), if_pos (by rw [hl]; omega)]
        simpa using f2
      · have hl : signsS.length = 63 := by decide +kernel
        rw [hl]
        exact Nat.le_trans (by decide) sizeLine_big
      walk_at "rd"
      refine i_addCS ?_ ?_
      · rw [wrd_len]
        exact Nat.le_trans (show pre.length + 1 ≤ 1000000 by omega) sizeLine_big
      rw [wrd_snoc]
      walk_at "rd"
      refine hK _ _ ⟨rfl, j + 1, (m - 1).fdiv 63, pre ++ [a], _, hlt, by rw [ed]; omega, rfl, rfl, by simp; omega, ?_⟩
      rw [← hd, List.append_assoc]
      congr 1
      show a :: dig (8 - (j + 1)) _ = _
      rw [show dig (8 - (j + 1) + 1) m.toNat = if m.toNat = 0 then [] else (m.toNat - 1) % 63 :: dig (8 - (j + 1)) ((m.toNat - 1) / 63) from rfl, if_neg (by omega), ← ha, ed]
      rfl
    · refine i_negD hp ?_
      walk_at "rd"
      have hm0 : m = 0 := by omega
      subst hm0
      refine hK _ _ ⟨rfl, j + 1, 0, pre, _, hlt, by decide, rfl, rfl, by omega, ?_⟩
      rw [← hd]
      congr 1
      cases (8 - (j + 1)) <;> rfl
  · rintro r e ⟨rfl, j, m, pre, z, hj, hm, e, rfl, hpl, hd⟩
    have hj8 : j = 8 := by
      refine Nat.le_antisymm hj (Nat.le_of_not_lt fun q => ?_)
      rw [show 8 - j = (8 - (j + 1)) + 1 by omega] at e
      cases e
    subst hj8
    have e1 : pre = dig 8 n.toNat := by rw [← hd]; simp [dig]
    subst e1
    walk_at "rd"
    exact ⟨rfl, k⟩

/-! ### names -/
theorem cut_lo {l : List D} {i : Int} (h0 : 0 ≤ i) (h1 : i ≤ l.length) : cutD l none (some i) = l.take i.toNat := by
  unfold cutD
  have e1 : HT.sIx l.length 0 none = 0 := rfl
  have e2 : HT.sIx l.length l.length (some i) = i.toNat := by
    show (if i < 0 then (i + (l.length : Int)).toNat else min i.toNat l.length) = _
    rw [if_neg (by omega), Nat.min_eq_left (by omega)]
  rw [e1, e2]; simp
theorem cut_hi {l : List D} {i : Int} (h0 : 0 ≤ i) (h1 : i ≤ l.length) : cutD l (some i) none = l.drop i.toNat := by
  unfold cutD
  have e1 : HT.sIx l.length l.length none = l.length := rfl
  have e2 : HT.sIx l.length 0 (some i) = i.toNat := by
    show (if i < 0 then (i + (l.length : Int)).toNat else min i.toNat l.length) = _
    rw [if_neg (by omega), Nat.min_eq_left (by omega)]
  rw [e1, e2, List.take_of_length_le (by simp)]
theorem at_nat {l : List D} {p : Nat} {x : D} (h : l[p]? = some x) : L2.atI l (p : Int) = some x := by
  have hp := (List.getElem?_eq_some_iff.mp h).1
  unfold L2.atI L2.ixN
  rw [if_pos (by omega), if_pos (by omega)]
  simpa using h
def nmW (a s : Int) (l : Int) : Str := wordS (a + s * l).toNat
def S_l_names : SpA := fun ds eta Q _ => ∃ (T : Tape) (n m : Int), ds = [.ref 0, .int m] ∧ eta = [.lst T.ds] ∧ T.ok n ∧ n < 100000000000 ∧ 0 ≤ m ∧ m ≤ 20 ∧
  ∀ (xs : List Str) (T' : Tape), T'.ok (n + 4 + m) → xs.Nodup → (xs.length : Int) = m → (∀ x ∈ xs, PyData.strOk x = true) → Q (.fl (xs.map .str)) [.lst T'.ds]
theorem m_l_names : S_l_names.Mono := fun _ _ _ _ _ _ h _ ⟨T, n, m, e1, e2, h1, h2, h3, h4, k⟩ => ⟨T, n, m, e1, e2, h1, h2, h3, h4, fun d T' a b c d => h _ _ (k _ T' a b c d)⟩
theorem nmW_nodup {a s : Int} {ls : List Int} (ha : 1 ≤ a) (ha2 : a ≤ 1000000000) (hs : 1 ≤ s) (hs2 : s ≤ 10000000) (hl : ∀ l ∈ ls, 0 ≤ l ∧ l < 20) (hn : ls.Nodup) : (ls.map (nmW a s)).Nodup := by
  refine List.pairwise_map.mpr (hn.imp_of_mem fun {x y} hx hy hne z => hne ?_)
  have h1 := hl x hx
  have h2 := hl y hy
  have b : ∀ l : Int, 0 ≤ l → l < 20 → 0 ≤ s * l ∧ s * l ≤ 200000000 := fun l h0 h1 => by
    refine ⟨Int.mul_nonneg (by omega) h0, ?_⟩
    calc s * l ≤ 10000000 * l := Int.mul_le_mul_of_nonneg_right hs2 h0
      _ ≤ 200000000 := by omega
  have b1 := b x h1.1 h1.2
  have b2 := b y h2.1 h2.2
  have e := wordS_inj (by omega) (by omega) z
  have e2 : s * x = s * y := by omega
  exact Int.eq_of_mul_eq_mul_left (by omega) e2
theorem k_l_names {W : Wd} : Keeps 2 8 S_l_names (r_l_names W S_l_take S_l_word) := by
  rintro ds eta Qa EXa ⟨T, n, m, rfl, rfl, ok, hn, hm, hm2, k⟩
  refine ⟨rfl, ?_⟩
  unfold r_l_names
  walk_at "rd"
  refine i_pow ⟨by decide, by decide, by decide⟩ ?_
  walk_at "rd"
  refine i_fn1 m_l_take rfl rfl rfl ⟨T, n, 2, rfl, rfl, ok, by omega, by decide, by decide, fun d T1 ok1 d0 d1 => ⟨_, rfl, rfl, rfl, ?_⟩⟩
  have sz : ∃ b : Int, L2.atI [D.int ((10 : Int) ^ (9 : Int).toNat), .int 200] d = some (.int b) ∧ 0 < b ∧ b ≤ 1000000000 := by
    have hd : d = 0 ∨ d = 1 := by omega
    rcases hd with rfl | rfl
    · exact ⟨(10 : Int) ^ (9 : Int).toNat, rfl, by decide, by decide⟩
    · exact ⟨200, rfl, by decide, by decide⟩
  obtain ⟨b, hb, b0, b1⟩ := sz
  walk_at "rd"
  refine i_ixF hb ?_
  walk_at "rd"
  refine i_fn1 m_l_take rfl rfl rfl ⟨T1, n + 1, b, rfl, rfl, ok1, by omega, b0, by omega, fun x T2 ok2 x0 x1 => ⟨_, rfl, rfl, rfl, ?_⟩⟩
  walk_at "rd"
  refine i_fn1 m_l_take rfl rfl rfl ⟨T2, n + 1 + 1, 4, rfl, rfl, ok2, by omega, by decide, by decide, fun y T3 ok3 y0 y1 => ⟨_, rfl, rfl, rfl, ?_⟩⟩
  have sz : ∃ c : Int, L2.atI [D.int 1, .int 63, .int 3969, .int 250047] y = some (.int c) ∧ 1 ≤ c ∧ c ≤ 250047 := by
    have hd : y = 0 ∨ y = 1 ∨ y = 2 ∨ y = 3 := by omega
    rcases hd with rfl | rfl | rfl | rfl
    · exact ⟨1, rfl, by decide, by decide⟩
    · exact ⟨63, rfl, by decide, by decide⟩
    · exact ⟨3969, rfl, by decide, by decide⟩
    · exact ⟨250047, rfl, by decide, by decide⟩
  obtain ⟨c, hc, c0, c1⟩ := sz
  walk_at "rd"
  refine i_ixF hc ?_
  walk_at "rd"
  refine i_fn1 m_l_take rfl rfl rfl ⟨T3, n + 1 + 1 + 1, 5, rfl, rfl, ok3, by omega, by decide, by decide, fun z T4 ok4 z0 z1 => ⟨_, rfl, rfl, rfl, ?_⟩⟩
  walk_at "rd"
  obtain ⟨a, ha, a0, a1⟩ : ∃ a : Int, 1 + x = a ∧ 1 ≤ a ∧ a ≤ 1000000000 := ⟨_, rfl, by omega, by omega⟩
  obtain ⟨s, hs, s0, s1⟩ : ∃ s : Int, c * (1 + z) = s ∧ 1 ≤ s ∧ s ≤ 10000000 := by
    have hz : z = 0 ∨ z = 1 ∨ z = 2 ∨ z = 3 ∨ z = 4 := by omega
    rcases hz with rfl | rfl | rfl | rfl | rfl <;> exact ⟨_, rfl, by omega, by omega⟩
  rw [ha, hs]
  refine i_lrgQ ⟨hm, by omega⟩ ?_
  walk_at "rd"
  refine i_rngQ (by omega) ?_
  refine loop_i (fun rest r e => ∃ (j : Nat) (T : Tape) (L ls : List Int) (z6 z7 : Option D), j ≤ m.toNat ∧ rest = rngL j (m.toNat - j) ∧ T.ok (n + 4 + j) ∧ L.length = m.toNat - j ∧ ls.length = j ∧ (ls ++ L).Nodup ∧ (∀ l ∈ ls ++ L, 0 ≤ l ∧ l < 20) ∧
    e = [.lst T.ds, .lst (ls.map fun l => D.str (nmW a s l))] ∧ r = [some (.ref 0), some (.int m), some (.int a), some (.int s), some (.fl (L.map .int)), some (.ref 1), z6, z7]) ⟨0, T4, (List.range m.toNat).map (fun i => ((i : Nat) : Int)), [], none, none, Nat.zero_le _, rfl, ok4.le (by omega), by simp, rfl, ?_, ?_, rfl, ?_⟩ ?_ ?_
  · rw [List.nil_append]
    refine List.pairwise_map.mpr (List.nodup_range.imp fun {x y} h z => h (by omega))
  · intro l hl
    rw [List.nil_append] at hl
    obtain ⟨i, hi, rfl⟩ := List.mem_map.mp hl
    have := List.mem_range.mp hi
    omega
  · unfold rgD
    rw [List.map_map]; rfl
  · rintro d rest rho eta ⟨j, T, L, ls, z6, z7, hj, e, okT, hL, hls, hnd, hb, rfl, rfl⟩ K hK
    have hlt : j < m.toNat := by
      refine Nat.lt_of_not_le fun q => ?_
      rw [show m.toNat - j = 0 by omega] at e
      cases e
    rw [show m.toNat - j = (m.toNat - (j + 1)) + 1 by omega] at e
    obtain ⟨rfl, rfl⟩ : d = .int j ∧ rest = rngL (j + 1) (m.toNat - (j + 1)) := by cases e; exact ⟨rfl, rfl⟩
    walk_at "rd"
    rw [List.length_map]
    refine i_fn1 m_l_take rfl rfl rfl ⟨T, n + 4 + j, _, rfl, rfl, okT, by omega, by omega, by omega, fun p T' ok' p0 p1 => ⟨_, rfl, rfl, rfl, ?_⟩⟩
    walk_at "rd"
    obtain ⟨q, rfl⟩ : ∃ q : Nat, p = (q : Int) := ⟨p.toNat, by omega⟩
    have hq : q < L.length := by omega
    obtain ⟨x, hx⟩ : ∃ x, L[q]? = some x := ⟨L[q], List.getElem?_eq_getElem hq⟩
    have hxm : x ∈ L := List.mem_of_getElem? hx
    have hxb := hb x (List.mem_append_right _ hxm)
    have sx : 0 ≤ s * x := Int.mul_nonneg (by omega) hxb.1
    refine i_ixF (at_nat (p := q) (x := .int x) (by rw [List.getElem?_map, hx]; rfl)) ?_
    walk_at "rd"
    refine i_fn0 m_l_word rfl ⟨_, rfl, rfl, by omega, rfl, rfl, ?_⟩
    walk_at "rd"
    refine i_append rfl rfl (by rw [List.length_map]; omega) ?_
    walk_at "rd"
    rw [cut_lo (by omega) (by rw [List.length_map]; omega), cut_hi (by omega) (by rw [List.length_map]; omega)]
    have e1 : ((q : Int)).toNat = q := by omega
    have e2 : ((q : Int) + 1).toNat = q + 1 := by omega
    rw [e1, e2]
    refine i_addCL ?_ ?_
    · rw [List.length_take, List.length_drop, List.length_map]
      exact Nat.ble_eq_true_of_le (by omega)
    have hsplit : L = L.take q ++ x :: L.drop (q + 1) := by
      have h1 : L.drop q = x :: L.drop (q + 1) := by
        rw [List.drop_eq_getElem_cons hq]
        have : L[q] = x := by
          have := List.getElem?_eq_getElem hq
          rw [hx] at this; exact (Option.some.inj this).symm
        rw [this]
      rw [← h1, List.take_append_drop]
    have hperm : ((ls ++ [x]) ++ (L.take q ++ L.drop (q + 1))).Perm (ls ++ L) := by
      conv => rhs; rw [hsplit]
      rw [List.append_assoc]
      refine List.Perm.append_left ls ?_
      exact (List.perm_middle (l₁ := L.take q) (a := x) (l₂ := L.drop (q + 1))).symm
    refine hK _ _ ⟨j + 1, T', L.take q ++ L.drop (q + 1), ls ++ [x], some (.int j), some (.int q), hlt, rfl, ok'.le (by omega), ?_, by simp [hls], (List.Perm.nodup_iff hperm).mpr hnd, fun l hl => hb l (hperm.subset hl), ?_, ?_⟩
    · rw [List.length_append, List.length_take, List.length_drop]
      omega
    · rw [List.map_append]
      rfl
    · rw [List.map_append, List.map_take, List.map_drop]
      rfl
  · rintro r e ⟨j, T, L, ls, z6, z7, hj, e, okT, hL, hls, hnd, hb, rfl, rfl⟩
    have hjm : j = m.toNat := by
      refine Nat.le_antisymm hj (Nat.le_of_not_lt fun q => ?_)
      rw [show m.toNat - j = (m.toNat - (j + 1)) + 1 by omega] at e
      cases e
    walk_at "rd"
    refine ⟨rfl, ?_⟩
    have hn1 : ls.Nodup := (List.nodup_append.mp hnd).1
    have z := k (ls.map (nmW a s)) T (okT.le (by omega)) (nmW_nodup a0 a1 s0 s1 (fun l hl => hb l (List.mem_append_left _ hl)) hn1) (by rw [List.length_map]; omega) (fun x hx => by
      obtain ⟨l, _, rfl⟩ := List.mem_map.mp hx
      exact wordS_ok _)
    rw [List.map_map] at z
    exact z

/-! ### gcd, lowest terms -/
def S_l_gcd : SpA := fun ds eta Q _ => ∃ a b : Int, ds = [.int a, .int b] ∧ eta = [] ∧ Q (.int ((Nat.gcd a.natAbs b.natAbs : Nat) : Int)) []
theorem m_l_gcd : S_l_gcd.Mono := fun _ _ _ _ _ _ h _ ⟨a, b, e1, e2, k⟩ => ⟨a, b, e1, e2, h _ _ k⟩
theorem abs_nat (a : Int) : (if a < 0 then -a else a) = (a.natAbs : Int) := by split <;> omega
theorem gcd_step (a b : Nat) (hb : 0 < b) : Nat.gcd a b = Nat.gcd b (a % b) := by
  rw [Nat.gcd_comm a b, Nat.gcd_rec b a, Nat.gcd_comm]
theorem k_l_gcd {W : Wd} : Keeps 2 2 S_l_gcd (r_l_gcd W) := by
  rintro ds eta Qa EXa ⟨a, b, rfl, rfl, k⟩
  refine ⟨rfl, ?_⟩
  unfold r_l_gcd
  walk_at "rd"
  rw [abs_nat, abs_nat]
  refine wh_i (fun m rho eta => eta = [] ∧ ∃ x y : Nat, rho = [some (.int x), some (.int y)] ∧ y < m ∧ Nat.gcd x y = Nat.gcd a.natAbs b.natAbs) (b.natAbs + 1) ⟨rfl, a.natAbs, b.natAbs, rfl, Nat.lt_succ_self _, rfl⟩ ?_ ?_
  · rintro r e ⟨_, x, y, _, h, _⟩; omega
  · rintro m r e ⟨rfl, x, y, rfl, hy, hg⟩ K hK
    walk_at "rd"
    refine i_iteD (fun h => ?_) (fun h => ?_)
    · walk_at "rd"
      refine hK _ _ ⟨rfl, y, x % y, ?_, ?_, ?_⟩
      · show [some (D.int y), some (D.int ((x : Int).fmod y))] = _
        rw [Int.fmod_eq_emod_of_nonneg _ (by omega)]
        rfl
      · have := Nat.mod_lt x (show 0 < y by omega)
        omega
      · rw [← hg, ← gcd_step x y (by omega)]
    · walk_at "rd"
      have : y = 0 := by omega
      subst this
      rw [Nat.gcd_zero_right] at hg
      refine ⟨rfl, ?_⟩
      rw [hg]
      exact k

def S_l_low : SpA := fun ds eta Q _ => ∃ a b : Int, ds = [.int a, .int b] ∧ eta = [] ∧ 0 < b ∧ DivOk b ∧ Q (.tup [.int (Rat.divInt a b).num, .int (Rat.divInt a b).den]) []
theorem m_l_low : S_l_low.Mono := fun _ _ _ _ _ _ h _ ⟨a, b, e1, e2, h1, h2, k⟩ => ⟨a, b, e1, e2, h1, h2, h _ _ k⟩
theorem k_l_low {W : Wd} : Keeps 2 3 S_l_low (r_l_low W S_l_gcd) := by
  rintro ds eta Qa EXa ⟨a, b, rfl, rfl, hb, hd, k⟩
  refine ⟨rfl, ?_⟩
  unfold r_l_low
  walk_at "rd"
  refine i_fn0 m_l_gcd rfl ⟨a, b, rfl, rfl, rfl, rfl, ?_⟩
  have e : ((Nat.gcd a.natAbs b.natAbs : Nat) : Int) = rG a b := by unfold rG; rw [if_neg (by omega)]
  have hb' : b ≠ 0 := by omega
  obtain ⟨e1, e2⟩ := fdiv_gcd_num (t := a) hb'
  rw [e]
  walk_at "rd"
  refine i_div (rG_cfd _ hb' hd) ?_
  walk_at "rd"
  refine i_div (rG_cfd _ hb' hd) ?_
  walk_at "rd"
  refine ⟨rfl, ?_⟩
  rw [e1, e2]
  exact k

/-! ### amounts, needs, numbers -/
def S_l_amount : SpA := fun ds eta Q _ => ∃ (T : Tape) (n : Int), ds = [.ref 0] ∧ eta = [.lst T.ds] ∧ T.ok n ∧ n < 100000000000 ∧ ∀ (q : Rat) (T' : Tape), T'.ok (n + 4) → 0 < q → RB 50 q → Q (ratT q) [.lst T'.ds]
theorem m_l_amount : S_l_amount.Mono := fun _ _ _ _ _ _ h _ ⟨T, n, e1, e2, h1, h2, k⟩ => ⟨T, n, e1, e2, h1, h2, fun d T' a b c => h _ _ (k d T' a b c)⟩
theorem divInt_pos' {a b : Int} (ha : 0 < a) (hb : 0 < b) : 0 < Rat.divInt a b := by
  have h : 0 < (Rat.divInt a b).num := by
    have hd := (Rat.divInt a b).den_pos
    have e : (Rat.divInt a b).num * b = a * (Rat.divInt a b).den := by
      have e0 : Rat.divInt (Rat.divInt a b).num (Rat.divInt a b).den = Rat.divInt a b := Rat.num_divInt_den _
      exact (Rat.divInt_eq_divInt_iff (by omega) (by omega)).mp e0
    have h2 : 0 < (Rat.divInt a b).num * b := by rw [e]; exact Int.mul_pos ha (by omega)
    exact Int.pos_of_mul_pos_left h2 hb
  rw [Rat.lt_iff]
  show (0 : Int) * _ < _ * 1
  omega
theorem k_l_amount {W : Wd} : Keeps 1 4 S_l_amount (r_l_amount W S_l_take S_l_low) := by
  rintro ds eta Qa EXa ⟨T, n, rfl, rfl, ok, hn, k⟩
  refine ⟨rfl, ?_⟩
  unfold r_l_amount
  walk_at "rd"
  refine i_fn1 m_l_take rfl rfl rfl ⟨T, n, 9, rfl, rfl, ok, by omega, by decide, by decide, fun d T1 ok1 d0 d1 => ⟨_, rfl, rfl, rfl, ?_⟩⟩
  walk_at "rd"
  refine i_pow ⟨by decide, by decide, by decide⟩ ?_
  walk_at "rd"
  have sz : ∃ b : Int, L2.atI [D.int 12, .int 12, .int 12, .int 12, .int 12, .int 12, .int 1000, .int 1000, .int ((10 : Int) ^ (15 : Int).toNat)] d = some (.int b) ∧ 0 < b ∧ b ≤ 1000000000000000 := by
    have hd : d = 0 ∨ d = 1 ∨ d = 2 ∨ d = 3 ∨ d = 4 ∨ d = 5 ∨ d = 6 ∨ d = 7 ∨ d = 8 := by omega
    rcases hd with rfl | rfl | rfl | rfl | rfl | rfl | rfl | rfl | rfl
    · exact ⟨12, rfl, by decide, by decide⟩
    · exact ⟨12, rfl, by decide, by decide⟩
    · exact ⟨12, rfl, by decide, by decide⟩
    · exact ⟨12, rfl, by decide, by decide⟩
    · exact ⟨12, rfl, by decide, by decide⟩
    · exact ⟨12, rfl, by decide, by decide⟩
    · exact ⟨1000, rfl, by decide, by decide⟩
    · exact ⟨1000, rfl, by decide, by decide⟩
    · exact ⟨(10 : Int) ^ (15 : Int).toNat, rfl, by decide, by decide⟩
  obtain ⟨b, hb, b0, b1⟩ := sz
  refine i_ixF hb ?_
  walk_at "rd"
  refine i_fn1 m_l_take rfl rfl rfl ⟨T1, n + 1, b, rfl, rfl, ok1, by omega, b0, by omega, fun x T2 ok2 x0 x1 => ⟨_, rfl, rfl, rfl, ?_⟩⟩
  walk_at "rd"
  refine i_fn1 m_l_take rfl rfl rfl ⟨T2, n + 1 + 1, 4, rfl, rfl, ok2, by omega, by decide, by decide, fun y T3 ok3 y0 y1 => ⟨_, rfl, rfl, rfl, ?_⟩⟩
  walk_at "rd"
  have fin : ∀ (c : Int) (T' : Tape), T'.ok (n + 4) → 0 < c → c ≤ 24 → exitQ 1 Qa (.tup [.int (Rat.divInt (1 + x) c).num, .int (Rat.divInt (1 + x) c).den]) [.lst T'.ds] := fun c T' ok' c0 c1 => ⟨rfl, k (Rat.divInt (1 + x) c) T' ok' (divInt_pos' (by omega) c0) (RB.divInt (by omega) (by omega) (by omega))⟩
  refine i_iteD (fun h => ?_) (fun h => ?_)
  · walk_at "rd"
    refine i_fn1 m_l_take rfl rfl rfl ⟨T3, n + 1 + 1 + 1, 24, rfl, rfl, ok3, by omega, by decide, by decide, fun z T4 ok4 z0 z1 => ⟨_, rfl, rfl, rfl, ?_⟩⟩
    walk_at "rd"
    refine i_fn0 m_l_low rfl ⟨1 + x, 1 + z, rfl, rfl, by omega, divOk_of (by omega), rfl, rfl, ?_⟩
    exact fin (1 + z) T4 (ok4.le (by omega)) (by omega) (by omega)
  · walk_at "rd"
    refine i_fn0 m_l_low rfl ⟨1 + x, 1, rfl, rfl, by omega, divOk_of (by omega), rfl, rfl, ?_⟩
    exact fin 1 T3 (ok3.le (by omega)) (by omega) (by omega)

def S_l_need : SpA := fun ds eta Q _ => ∃ (T : Tape) (n : Int), ds = [.ref 0] ∧ eta = [.lst T.ds] ∧ T.ok n ∧ n < 10000000000 ∧ ∀ (q : Rat) (T' : Tape), T'.ok (n + 5) → 0 ≤ q → RB 50 q → Q (ratT q) [.lst T'.ds]
theorem m_l_need : S_l_need.Mono := fun _ _ _ _ _ _ h _ ⟨T, n, e1, e2, h1, h2, k⟩ => ⟨T, n, e1, e2, h1, h2, fun d T' a b c => h _ _ (k d T' a b c)⟩
theorem k_l_need {W : Wd} : Keeps 1 1 S_l_need (r_l_need W S_l_take S_l_amount) := by
  rintro ds eta Qa EXa ⟨T, n, rfl, rfl, ok, hn, k⟩
  refine ⟨rfl, ?_⟩
  unfold r_l_need
  walk_at "rd"
  refine i_fn1 m_l_take rfl rfl rfl ⟨T, n, 3, rfl, rfl, ok, by omega, by decide, by decide, fun d T1 ok1 d0 d1 => ⟨_, rfl, rfl, rfl, ?_⟩⟩
  walk_at "rd"
  refine i_iteD (fun h => ?_) (fun h => ?_)
  · walk_at "rd"
    exact ⟨rfl, k 0 T1 (ok1.le (by omega)) Rat.le_refl ⟨by decide, by decide⟩⟩
  · walk_at "rd"
    refine i_fn1 m_l_amount rfl rfl rfl ⟨T1, n + 1, rfl, rfl, ok1, by omega, fun q T2 ok2 q0 hq => ⟨_, rfl, rfl, rfl, ?_⟩⟩
    exact ⟨rfl, k q T2 (ok2.le (by omega)) (Rat.le_of_lt q0) hq⟩

def S_l_number : SpA := fun ds eta Q _ => ∃ (T : Tape) (n : Int) (q : Rat), ds = [.ref 0, ratT q] ∧ eta = [.lst T.ds] ∧ T.ok n ∧ n < 100000000000 ∧ RB 50 q ∧ ∀ (e : D) (T' : Tape), T'.ok (n + 1) → IsNum e q → Q e [.lst T'.ds]
theorem m_l_number : S_l_number.Mono := fun _ _ _ _ _ _ h _ ⟨T, n, q, e1, e2, h1, h2, h3, k⟩ => ⟨T, n, q, e1, e2, h1, h2, h3, fun e T' a b => h _ _ (k e T' a b)⟩
theorem k_l_number {W : Wd} : Keeps 2 2 S_l_number (r_l_number W S_l_take) := by
  rintro ds eta Qa EXa ⟨T, n, q, rfl, rfl, ok, hn, hq, k⟩
  refine ⟨rfl, ?_⟩
  unfold r_l_number
  have hd := q.den_pos
  have other : ∀ T' : Tape, T'.ok (n + 1) → exitQ 1 Qa (.rat (Rat.divInt q.num q.den)) [.lst T'.ds] := fun T' ok' => by
    rw [Rat.num_divInt_den]
    exact ⟨rfl, k _ T' ok' (.inl rfl)⟩
  walk_at "rd"
  refine i_iteD (fun h => ?_) (fun h => ?_)
  · walk_at "rd"
    refine i_fn1 m_l_take rfl rfl rfl ⟨T, n, 3, rfl, rfl, ok, by omega, by decide, by decide, fun d T1 ok1 d0 d1 => ⟨_, rfl, rfl, rfl, ?_⟩⟩
    walk_at "rd"
    refine i_iteD (fun h2 => ?_) (fun h2 => ?_)
    · walk_at "rd"
      refine ⟨rfl, k (.int q.num) T1 ok1 (.inr ⟨q.num, rfl, ?_⟩)⟩
      have : q.den = 1 := by omega
      exact Rat.ext rfl this
    · walk_at "rd"
      refine i_rat (by omega) (divB hq.den (by decide) (by decide)) ?_
      exact other T1 ok1
  · walk_at "rd"
    refine i_rat (by omega) (divB hq.den (by decide) (by decide)) ?_
    exact other T (ok.le (by omega))

/-! ### dicts that the law makes -/
theorem strIx_mem : ∀ {xs : List Str} {y : Str}, y ∈ xs → ∃ j, strIx xs y = some j ∧ xs[j]? = some y ∧ j < xs.length
  | x :: xs, y, h => by
    unfold strIx
    by_cases e : x = y
    · subst e; exact ⟨0, by simp, rfl, by simp⟩
    · rw [if_neg e]
      obtain ⟨j, h1, h2, h3⟩ := strIx_mem (xs := xs) ((List.mem_cons.mp h).resolve_left fun z => e z.symm)
      exact ⟨j + 1, by rw [h1]; rfl, by simpa using h2, by simp; omega⟩
theorem num_gt {q : Rat} : decide (0 < q.num) = decide (0 < q) := by
  rw [decide_eq_decide, Rat.lt_iff]
  show (0 < q.num) ↔ ((0 : Int) * _ < q.num * 1)
  omega
theorem num_lt {q : Rat} : decide (q.num < 0) = decide (q < 0) := by
  rw [decide_eq_decide, Rat.lt_iff]
  show (q.num < 0) ↔ (q.num * 1 < (0 : Int) * _)
  omega
theorem updF_self {F : Str → Rat} {x : Str} : updF F x (F x) = F := by
  funext y
  unfold updF
  split
  · rename_i e; rw [e]
  · rfl
def S_l_dict : SpA := fun ds eta Q _ => ∃ (T : Tape) (n : Int) (order goods : List Str) (F : Str → Rat) (keep : Bool), ds = [.ref 0, .fl (order.map .str), .fl (goods.map .str), .fl (goods.map fun x => ratT (F x)), .bl keep] ∧ eta = [.lst T.ds] ∧ T.ok n ∧ n < 10000000000 ∧ order.Nodup ∧ order.length ≤ 50 ∧ (∀ x ∈ order, x ∈ goods ∧ RB 50 (F x)) ∧
  ∀ (ns : List Str) (vs : List D) (T' : Tape), T'.ok (n + 50) → DN ns vs F → (∀ x, x ∈ ns ↔ x ∈ order ∧ (keep = true ∨ 0 < F x)) → Q (.ref 1) [.lst T'.ds, .dct (ns.map Sum.inr) vs]
theorem m_l_dict : S_l_dict.Mono := fun _ _ _ _ _ _ h _ ⟨T, n, o, g, F, kp, e1, e2, h1, h2, h3, h4, h5, k⟩ => ⟨T, n, o, g, F, kp, e1, e2, h1, h2, h3, h4, h5, fun ns vs T' a b c => h _ _ (k ns vs T' a b c)⟩
theorem k_l_dict {W : Wd} : Keeps 5 8 S_l_dict (r_l_dict W S_l_number) := by
  rintro ds eta Qa EXa ⟨T, n, order, goods, F, keep, rfl, rfl, ok, hn, hnd, hl, hgo, k⟩
  refine ⟨rfl, ?_⟩
  unfold r_l_dict
  walk_at "rd"
  refine loop_i (fun rest r e => ∃ (pre post ns : List Str) (vs : List D) (T : Tape) (z6 z7 : Option D), order = pre ++ post ∧ rest = post.map .str ∧ T.ok (n + pre.length) ∧ DN ns vs F ∧ (∀ x, x ∈ ns ↔ x ∈ pre ∧ (keep = true ∨ 0 < F x)) ∧ ns.length ≤ pre.length ∧
    e = [.lst T.ds, .dct (ns.map Sum.inr) vs] ∧ r = [some (.ref 0), some (.fl (order.map .str)), some (.fl (goods.map .str)), some (.fl (goods.map fun x => ratT (F x))), some (.bl keep), some (.ref 1), z6, z7]) ⟨[], order, [], [], T, none, none, rfl, rfl, ok.le (by simp), DN.nil, by simp, by simp, rfl, rfl⟩ ?_ ?_
  · rintro d rest rho eta ⟨pre, post, ns, vs, T, z6, z7, e1, e2, okT, hD, hm, hnl, rfl, rfl⟩ K hK
    cases post with
    | nil => cases e2
    | cons x post =>
      obtain ⟨rfl, rfl⟩ : d = .str x ∧ rest = post.map .str := by cases e2; exact ⟨rfl, rfl⟩
      have hx : x ∈ order := by rw [e1]; simp
      have hxp : x ∉ pre := fun z => by
        rw [e1] at hnd
        exact (List.nodup_append.mp hnd).2.2 x z x List.mem_cons_self rfl
      obtain ⟨hxg, hxr⟩ := hgo x hx
      have hpl : pre.length < order.length := by rw [e1]; simp
      obtain ⟨j, hj1, hj2, hj3⟩ := strIx_mem hxg
      walk_at "rd"
      refine i_index (strsD_map goods) hj1 ?_
      walk_at "rd"
      refine i_ixF (at_nat (p := j) (x := ratT (F x)) (by rw [List.getElem?_map, hj2]; rfl)) ?_
      walk_at "rd"
      have hnext : ∀ (ns' : List Str) (vs' : List D) (T' : Tape), T'.ok (n + pre.length + 1) → DN ns' vs' F → (∀ y, y ∈ ns' ↔ y ∈ pre ++ [x] ∧ (keep = true ∨ 0 < F y)) → ns'.length ≤ pre.length + 1 → K [some (.ref 0), some (.fl (order.map .str)), some (.fl (goods.map .str)), some (.fl (goods.map fun x => ratT (F x))), some (.bl keep), some (.ref 1), some (.str x), some (ratT (F x))] [.lst T'.ds, .dct (ns'.map Sum.inr) vs'] := fun ns' vs' T' a b c d =>
        hK _ _ ⟨pre ++ [x], post, ns', vs', T', _, _, by simp [e1], rfl, a.le (by simp; omega), b, c, by simp; omega, rfl, rfl⟩
      have hput : (keep = true ∨ 0 < F x) → raCall S_l_number [.ref 0, ratT (F x)] [some (.ref 0), some (.fl (order.map .str)), some (.fl (goods.map .str)), some (.fl (goods.map fun x => ratT (F x))), some (.bl keep), some (.ref 1), some (.str x), some (ratT (F x))] [.lst T.ds, .dct (ns.map Sum.inr) vs] (fun f eta1 => aVar 5 [some (.ref 0), some (.fl (order.map .str)), some (.fl (goods.map .str)), some (.fl (goods.map fun x => ratT (F x))), some (.bl keep), some (.ref 1), some (.str x), some (ratT (F x))] eta1 (fun d eta2 => aVar 6 [some (.ref 0), some (.fl (order.map .str)), some (.fl (goods.map .str)), some (.fl (goods.map fun x => ratT (F x))), some (.bl keep), some (.ref 1), some (.str x), some (ratT (F x))] eta2 (fun e eta3 => raSetU [] d e f [some (.ref 0), some (.fl (order.map .str)), some (.fl (goods.map .str)), some (.fl (goods.map fun x => ratT (F x))), some (.bl keep), some (.ref 1), some (.str x), some (ratT (F x))] eta3 (fun eta4 => K [some (.ref 0), some (.fl (order.map .str)), some (.fl (goods.map .str)), some (.fl (goods.map fun x => ratT (F x))), some (.bl keep), some (.ref 1), some (.str x), some (ratT (F x))] eta4) (exitX 1 EXa)) (exitX 1 EXa)) (exitX 1 EXa)) (exitX 1 EXa) := fun hcond => by
        refine i_fn1 m_l_number rfl rfl rfl ⟨T, n + pre.length, F x, rfl, rfl, okT, by omega, hxr, fun e T' ok' he => ⟨_, rfl, rfl, he.im0, ?_⟩⟩
        walk_at "rd"
        have hxn : x ∉ ns := fun z => hxp ((hm x).mp z).1
        obtain ⟨ns', vs', p1, p2, p3⟩ := hD.put (x := x) he
        rw [updF_self] at p2
        rw [if_neg hxn] at p3
        refine i_ssD (k := Sum.inr x) rfl rfl rfl he.im0 (by rw [List.length_map]; omega) ?_
        rw [p1]
        refine hnext ns' vs' T' ok' p2 (fun y => ?_) (by rw [p3]; simp; omega)
        rw [p3, List.mem_append, List.mem_append, hm]
        constructor
        · rintro (h | h)
          · exact ⟨.inl h.1, h.2⟩
          · simp at h; subst h; exact ⟨.inr (by simp), hcond⟩
        · rintro ⟨h | h, h2⟩
          · exact .inl ⟨h, h2⟩
          · exact .inr h
      rw [show decide ((0 : Int) < (F x).num) = decide (0 < F x) from num_gt]
      refine i_iteD (fun h => ?_) (fun h => ?_)
      · walk_at "rd"
        exact hput (.inr h)
      · walk_at "rd"
        cases hk : keep with
        | true =>
          subst hk
          walk_at "rd"
          exact hput (.inl rfl)
        | false =>
          subst hk
          walk_at "rd"
          refine hnext ns vs T (okT.le (by omega)) hD (fun y => ?_) (by omega)
          rw [hm, List.mem_append]
          constructor
          · rintro ⟨a, b⟩; exact ⟨.inl a, b⟩
          · rintro ⟨a | a, b⟩
            · exact ⟨a, b⟩
            · simp at a; subst a
              rcases b with b | b
              · cases b
              · exact absurd b h
  · rintro r e ⟨pre, post, ns, vs, T, z6, z7, e1, e2, okT, hD, hm, hnl, rfl, rfl⟩
    have : post = [] := by simpa using e2.symm
    subst this
    simp only [List.append_nil] at e1
    subst e1
    walk_at "rd"
    exact ⟨rfl, rfl, k ns vs T (okT.le (by omega)) hD hm⟩

/-! ### names in order -/
/-- what ordered() is given, as its only argument: the names ns -/
def OrdS (d : D) (eta : List MO) (ns : List Str) : Prop := (∃ vs, d = .ref 0 ∧ eta = [.dct (ns.map Sum.inr) vs] ∧ ns.length = vs.length) ∨ (∃ F, IsBn 0 d eta ns F) ∨ (d = .et ∧ eta = [] ∧ ns = []) ∨ (∃ vs, d = .fd (ns.map Sum.inr) vs ∧ eta = [])
def S_ordered : SpA := fun ds eta Q _ => ∃ (d : D) (ns : List Str), ds = [d] ∧ OrdS d eta ns ∧ ns.length < 64 ∧ ∀ ys : List Str, ys.Perm ns → sortedS ys = true → Q (.fl (ys.map .str)) eta
theorem m_ordered : S_ordered.Mono := fun _ _ _ _ _ _ h _ ⟨d, ns, e1, h1, h2, k⟩ => ⟨d, ns, e1, h1, h2, fun ys a b => h _ _ (k ys a b)⟩
theorem lc_str {rho : Rho} {eta : List MO} {Q : List D → List MO → Prop} {i : Nat} {ns : List Str} (hi : i < rho.length) (hq : Q (ns.map .str) eta) : aLcG (aGN i) aYes (aCall (raStr2 aNone0) (aCons (aVar i) aNil)) rho Q (ns.map .str) [] eta := by
  refine lcg_map (fun d => d) (fun d hd => ?_) (fun d hd R Z h => ?_) (by rw [List.nil_append, List.map_id']; exact hq)
  · obtain ⟨x, _, rfl⟩ := List.mem_map.mp hd; rfl
  · obtain ⟨x, _, rfl⟩ := List.mem_map.mp hd
    refine i_gn (i_yes (i_tt (i_call (i_cons (i_var (d := .str x) (by rw [List.getElem?_set_self hi]) (i_nil (i_str2 h)))))))
theorem k_ordered {W : Wd} : Keeps 1 2 S_ordered (r_ordered W) := by
  rintro ds eta Qa EXa ⟨d, ns, rfl, hs, hl, k⟩
  refine ⟨rfl, ?_⟩
  have fin : ∀ {R : QA} (eta' : List MO), (∀ ys : List Str, ys.Perm ns → sortedS ys = true → R (.fl (ys.map .str)) eta') → raSortS [.fl (ns.map .str)] [] eta' R (fun _ _ _ => False) := fun eta' h => i_sort (strsD_map ns) hl h
  have hk : (ns.map Sum.inr : List Key).map kD = ns.map .str := by rw [List.map_map]; rfl
  have hn : ns.length ≤ 100000 := by omega
  unfold r_ordered
  rcases hs with ⟨vs, rfl, rfl, hv⟩ | ⟨F, ⟨rfl, rfl⟩ | ⟨rfl, rfl⟩⟩ | ⟨rfl, rfl, rfl⟩ | ⟨vs, rfl, rfl⟩
  · walk_at "rd"
    rw [hk]
    refine ⟨by simpa using hn, lc_str (by simp [wipA, hideR, startA]) ⟨?_, ?_⟩⟩
    · show (ns.map D.str).all flat1 = true
      rw [List.all_map, List.all_eq_true]
      exact fun _ _ => rfl
    · walk_at "rd"
      exact i_sort (strsD_map ns) hl fun ys a b => ⟨rfl, k ys a b⟩
  · walk_at "rd"
    rw [hk]
    refine ⟨by simpa using hn, lc_str (by simp [wipA, startA]) ?_⟩
    walk_at "rd"
    exact i_sort (strsD_map ns) hl fun ys a b => ⟨rfl, k ys a b⟩
  · walk_at "rd"
    rw [hk]
    refine ⟨by simpa using hn, lc_str (by simp [wipA, startA]) ?_⟩
    walk_at "rd"
    exact i_sort (strsD_map ns) hl fun ys a b => ⟨rfl, k ys a b⟩
  · walk_at "rd"
    refine ⟨by simp, lc_str (ns := []) (by simp [wipA, startA]) ?_⟩
    walk_at "rd"
    exact i_sort (strsD_map []) hl fun ys a b => ⟨rfl, k ys a b⟩
  · walk_at "rd"
    rw [hk]
    refine ⟨by simpa using hn, lc_str (by simp [wipA, startA]) ?_⟩
    walk_at "rd"
    exact i_sort (strsD_map ns) hl fun ys a b => ⟨rfl, k ys a b⟩

/-! ### numbers as Ratios -/
def S_as_ratio : SpA := fun ds eta Q _ => ∃ (e : D) (b : Rat), ds = [e] ∧ eta = [] ∧ IsNum e b ∧ Q (.rat b) []
theorem m_as_ratio : S_as_ratio.Mono := fun _ _ _ _ _ _ h _ ⟨e, b, e1, e2, h1, k⟩ => ⟨e, b, e1, e2, h1, h _ _ k⟩
theorem k_as_ratio {W : Wd} : Keeps 1 1 S_as_ratio (r_as_ratio W) := by
  rintro ds eta Qa EXa ⟨e, b, rfl, rfl, he, k⟩
  refine ⟨rfl, ?_⟩
  unfold r_as_ratio
  rcases he with rfl | ⟨i, rfl, rfl⟩
  · walk_at "rd"
    exact ⟨rfl, k⟩
  · walk_at "rd"
    exact ⟨rfl, k⟩
theorem IsNum.im {e : D} {b : Rat} (h : IsNum e b) : [e].all D.im = true := by
  rcases h with rfl | ⟨i, rfl, _⟩ <;> rfl
theorem IsNum.im1 {a : Rat} {e : D} {b : Rat} (h : IsNum e b) : [D.rat a, e].all D.im = true := by
  rcases h with rfl | ⟨i, rfl, _⟩ <;> rfl
theorem IsNum.ir {e : D} {b : Rat} (h : IsNum e b) : isIntRat e = some true := by
  rcases h with rfl | ⟨i, rfl, _⟩ <;> rfl

def S_Ratio_lt : SpA := fun ds eta Q _ => ∃ (a b : Rat) (e : D), ds = [.rat a, e] ∧ eta = [] ∧ IsNum e b ∧ RB 4000 a ∧ RB 4000 b ∧ Q (.bl (decide (a.num * b.den < b.num * a.den))) []
theorem m_Ratio_lt : S_Ratio_lt.Mono := fun _ _ _ _ _ _ h _ ⟨a, b, e, e1, e2, h1, h2, h3, k⟩ => ⟨a, b, e, e1, e2, h1, h2, h3, h _ _ k⟩
theorem k_Ratio_lt {W : Wd} : Keeps 2 3 S_Ratio_lt (r_Ratio_lt W S_as_ratio) := by
  rintro ds eta Qa EXa ⟨a, b, e, rfl, rfl, he, ha, hb, k⟩
  refine ⟨rfl, ?_⟩
  unfold r_Ratio_lt
  walk_at "rd"
  refine i_fn0 m_as_ratio he.im ⟨e, b, rfl, rfl, he, rfl, rfl, ?_⟩
  walk_at "rd"
  refine i_mul (mulB ha.num hb.den (by decide)) ?_
  walk_at "rd"
  refine i_mul (mulB hb.num ha.den (by decide)) ?_
  walk_at "rd"
  exact ⟨rfl, k⟩

def S_Ratio_gt : SpA := fun ds eta Q _ => ∃ (a b : Rat) (e : D), ds = [.rat a, e] ∧ eta = [] ∧ IsNum e b ∧ RB 4000 a ∧ RB 4000 b ∧ Q (.bl (decide (b.num * a.den < a.num * b.den))) []
theorem m_Ratio_gt : S_Ratio_gt.Mono := fun _ _ _ _ _ _ h _ ⟨a, b, e, e1, e2, h1, h2, h3, k⟩ => ⟨a, b, e, e1, e2, h1, h2, h3, h _ _ k⟩
theorem k_Ratio_gt {W : Wd} : Keeps 2 3 S_Ratio_gt (r_Ratio_gt W S_as_ratio) := by
  rintro ds eta Qa EXa ⟨a, b, e, rfl, rfl, he, ha, hb, k⟩
  refine ⟨rfl, ?_⟩
  unfold r_Ratio_gt
  walk_at "rd"
  refine i_fn0 m_as_ratio he.im ⟨e, b, rfl, rfl, he, rfl, rfl, ?_⟩
  walk_at "rd"
  refine i_mul (mulB ha.num hb.den (by decide)) ?_
  walk_at "rd"
  refine i_mul (mulB hb.num ha.den (by decide)) ?_
  walk_at "rd"
  exact ⟨rfl, k⟩

/-! ### Bundle -/
def S_Bundle_getitem : SpA := fun ds eta Q _ => ∃ (d : D) (g : Str) (ns : List Str) (F : Str → Rat), ds = [d, .str g] ∧ IsBn 0 d eta ns F ∧ Bun ns F ∧ Q (.rat (F g)) eta
theorem m_Bundle_getitem : S_Bundle_getitem.Mono := fun _ _ _ _ _ _ h _ ⟨d, g, ns, F, e1, h1, h2, k⟩ => ⟨d, g, ns, F, e1, h1, h2, h _ _ k⟩
theorem i_ix1B {rho : Rho} {eta : List MO} {EX : EXA} {Q : QA} {ns : List Str} {F : Str → Rat} {g : Str} (hg : g ∈ ns) (h : Q (.rat (F g)) eta) : raIx1 (bD ns F) (.str g) rho eta Q EX :=
  i_ix1D (ks := ns.map Sum.inr) (ds := ns.map fun x => .rat (F x)) (k := Sum.inr g) rfl rfl (bD_get hg) h
theorem rat0 : ((0 : Int) : Rat) = 0 := rfl
theorem k_Bundle_getitem {W : Wd} : Keeps 2 2 S_Bundle_getitem (r_Bundle_getitem W) := by
  rintro ds eta Qa EXa ⟨d, g, ns, F, rfl, hd, hB, k⟩
  refine ⟨rfl, ?_⟩
  unfold r_Bundle_getitem
  rcases hd with ⟨rfl, rfl⟩ | ⟨rfl, rfl⟩
  all_goals
    walk_at "rd"
    by_cases hg : g ∈ ns
    · rw [bD_get hg, Option.isSome_some]
      walk_at "rd"
      refine i_ix1B hg ?_
      exact ⟨rfl, k⟩
    · rw [bD_none hg, Option.isSome_none]
      walk_at "rd"
      rw [hB.zero hg] at k
      exact ⟨rfl, k⟩

/-! ### Bundle(..) -/
theorem RB.m3 {q : Rat} (h : RB 3000 q) : RB 4000 q := h.mono (by decide)
theorem RB.zero : RB 4000 (0 : Rat) := ⟨by decide, by decide⟩
theorem lt_zero_num {a : Rat} : (a.num * (((0 : Int) : Rat)).den < (((0 : Int) : Rat)).num * a.den) ↔ a < 0 := (Rat.lt_iff a 0).symm
theorem gt_zero_num {a : Rat} : ((((0 : Int) : Rat)).num * a.den < a.num * (((0 : Int) : Rat)).den) ↔ 0 < a := (Rat.lt_iff 0 a).symm
theorem int_lt0 {i : Int} : decide (i < 0) = decide ((i : Rat) < 0) := by
  rw [decide_eq_decide]
  exact (Rat.intCast_lt_intCast (a := i) (b := 0)).symm
theorem int_gt0 {i : Int} : decide (0 < i) = decide (0 < (i : Rat)) := by
  rw [decide_eq_decide]
  exact (Rat.intCast_lt_intCast (a := 0) (b := i)).symm
section
variable {rho : Rho} {eta : List MO} {EX : EXA} {Q : QA} {e : D} {b : Rat}
theorem num_lt0 (h : IsNum e b) (hb : RB 3000 b) (q : Q (.bl (decide (b < 0))) eta) : raW raLt0 S_Ratio_lt S_Ratio_gt e (.int 0) rho eta Q EX := by
  rcases h with rfl | ⟨i, rfl, rfl⟩
  · refine i_wRI (i_fn0 m_Ratio_lt rfl ⟨b, _, _, rfl, rfl, .inr ⟨0, rfl, rfl⟩, hb.m3, RB.zero, rfl, rfl, ?_⟩)
    rw [show decide (b.num * (((0 : Int) : Rat)).den < (((0 : Int) : Rat)).num * b.den) = decide (b < 0) from decide_eq_decide.mpr lt_zero_num]
    exact q
  · refine i_wII (i_cmp ?_)
    rw [← int_lt0] at q
    exact q
theorem num_gt0 (h : IsNum e b) (hb : RB 3000 b) (q : Q (.bl (decide (0 < b))) eta) : raW raGt0 S_Ratio_gt S_Ratio_lt e (.int 0) rho eta Q EX := by
  rcases h with rfl | ⟨i, rfl, rfl⟩
  · refine i_wRI (i_fn0 m_Ratio_gt rfl ⟨b, _, _, rfl, rfl, .inr ⟨0, rfl, rfl⟩, hb.m3, RB.zero, rfl, rfl, ?_⟩)
    rw [show decide ((((0 : Int) : Rat)).num * b.den < b.num * (((0 : Int) : Rat)).den) = decide (0 < b) from decide_eq_decide.mpr gt_zero_num]
    exact q
  · refine i_wII (i_cmp ?_)
    rw [← int_gt0] at q
    exact q
/-- what Bundle(..) is made from: the names dom, their amounts F -/
def Src (src : D) (sub : List MO) (dom : List Str) (F : Str → Rat) : Prop :=
  (∃ vs, src = .ref 1 ∧ sub = [.dct (dom.map Sum.inr) vs] ∧ DN dom vs F) ∨ (IsBn 1 src sub dom F ∧ Bun dom F) ∨ (src = .et ∧ sub = [] ∧ dom = []) ∨ (∃ vs, src = .fd (dom.map Sum.inr) vs ∧ sub = [] ∧ DN dom vs F)
theorem src_ord {src : D} {sub : List MO} {dom : List Str} {F : Str → Rat} {m0 : MO} (hs : Src src sub dom F) (hl : dom.length < 64) (k : ∀ ys : List Str, ys.Perm dom → sortedS ys = true → Q (.fl (ys.map .str)) (m0 :: sub)) : raCall S_ordered [src] rho (m0 :: sub) Q EX := by
  rcases hs with ⟨vs, rfl, rfl, hd⟩ | ⟨⟨rfl, rfl⟩ | ⟨rfl, rfl⟩, hB⟩ | ⟨rfl, rfl, rfl⟩ | ⟨vs, rfl, rfl, hd⟩
  · exact i_fnG rfl rfl rfl rfl ⟨.ref 0, dom, rfl, .inl ⟨vs, rfl, rfl, hd.len⟩, hl, fun ys a b => i_wb rfl rfl rfl (k ys a b)⟩
  · exact i_fnG rfl rfl rfl rfl ⟨_, dom, rfl, .inr (.inl ⟨F, .inl ⟨rfl, rfl⟩⟩), hl, fun ys a b => i_wb rfl rfl rfl (k ys a b)⟩
  · exact i_fnG rfl rfl rfl rfl ⟨.ref 0, dom, rfl, .inr (.inl ⟨F, .inr ⟨rfl, rfl⟩⟩), hl, fun ys a b => i_wb rfl rfl rfl (k ys a b)⟩
  · exact i_fnG rfl rfl rfl rfl ⟨_, [], rfl, .inr (.inr (.inl ⟨rfl, rfl, rfl⟩)), hl, fun ys a b => i_wb rfl rfl rfl (k ys a b)⟩
  · exact i_fnG rfl rfl rfl rfl ⟨_, dom, rfl, .inr (.inr (.inr ⟨vs, rfl, rfl⟩)), hl, fun ys a b => i_wb rfl rfl rfl (k ys a b)⟩
theorem src_ix {src : D} {sub : List MO} {dom : List Str} {F : Str → Rat} {m0 : MO} {x : Str} (hs : Src src sub dom F) (hx : x ∈ dom) (k : ∀ e, IsNum e (F x) → Q e (m0 :: sub)) : raIxU [(17, S_Bundle_getitem)] src (.str x) rho (m0 :: sub) Q EX := by
  rcases hs with ⟨vs, rfl, rfl, hd⟩ | ⟨⟨rfl, rfl⟩ | ⟨rfl, rfl⟩, hB⟩ | ⟨rfl, rfl, rfl⟩ | ⟨vs, rfl, rfl, hd⟩
  · obtain ⟨e, h1, h2⟩ := hd.get x hx
    exact i_ixN rfl (i_ix1D (ks := dom.map Sum.inr) (ds := vs) (k := Sum.inr x) rfl rfl h1 (k e h2))
  · exact i_ixO rfl (i_fnG rfl rfl rfl rfl ⟨_, x, dom, F, rfl, .inl ⟨rfl, rfl⟩, hB, i_wb rfl rfl rfl (k _ (.inl rfl))⟩)
  · exact i_ixO rfl (i_fnG rfl rfl rfl rfl ⟨.ref 0, x, dom, F, rfl, .inr ⟨rfl, rfl⟩, hB, i_wb rfl rfl rfl (k _ (.inl rfl))⟩)
  · simp at hx
  · obtain ⟨e, h1, h2⟩ := hd.get x hx
    exact i_ixN rfl (i_ix1D (ks := dom.map Sum.inr) (ds := vs) (k := Sum.inr x) rfl rfl h1 (k e h2))
theorem Src.cl {src : D} {sub : List MO} {dom : List Str} {F : Str → Rat} (hs : Src src sub dom F) : clA sub = true := by
  rcases hs with ⟨vs, rfl, rfl, hd⟩ | ⟨⟨rfl, rfl⟩ | ⟨rfl, rfl⟩, hB⟩ | ⟨rfl, rfl, rfl⟩ | ⟨vs, rfl, rfl, hd⟩ <;> rfl
end
def S_Bundle_init : SpA := fun ds eta Q E => ∃ (src : D) (sub : List MO) (dom : List Str) (F : Str → Rat), ds = [.ref 0, src] ∧ eta = .ins 17 [] :: sub ∧ Src src sub dom F ∧ (∀ x, RB 3000 (F x)) ∧ (∀ x, x ∉ dom → F x = 0) ∧ dom.Nodup ∧ dom.length < 60 ∧ (∀ x ∈ dom, PyData.strOk x = true) ∧
  ((∀ x, 0 ≤ F x) → ∀ ns, Bun ns F → Q .non (.ins 17 [bD ns F] :: sub)) ∧ (∀ (ys : List Str) (g : Str), ys.Perm dom → sortedS ys = true → ys.find? (fun x => decide (F x < 0)) = some g → E ⟨9, [.str g]⟩ (.ins 17 [] :: sub))
theorem m_Bundle_init : S_Bundle_init.Mono := fun _ _ _ _ _ _ h h' ⟨src, sub, dom, F, e1, e2, h1, h2, h3, h4, h5, h6, k1, k2⟩ => ⟨src, sub, dom, F, e1, e2, h1, h2, h3, h4, h5, h6, fun a ns b => h _ _ (k1 a ns b), fun ys g a b c => h' _ _ (k2 ys g a b c)⟩
theorem k_Bundle_init {W : Wd} : Keeps 2 3 S_Bundle_init (r_Bundle_init W S_ordered S_Ratio_lt S_Ratio_gt S_Bundle_getitem S_as_ratio) := by
  rintro ds eta Qa EXa ⟨src, sub, dom, F, rfl, rfl, hs, hrb, hout, hnd, hlen, hok, k1, k2⟩
  refine ⟨rfl, ?_⟩
  have cl := hs.cl
  have tk : ∀ a b : MO, (a :: sub).take (b :: sub).length = a :: sub := fun a b => by simp
  unfold r_Bundle_init
  walk_at "rd"
  refine src_ord hs (by omega) fun ys hp hso => ?_
  walk_at "rd"
  have hys : ys.Nodup := (List.Perm.nodup_iff hp).mpr hnd
  refine loop_i (fun rest r e => e = .ins 17 [] :: sub ∧ (∃ z, r = [some (.ref 0), some src, z]) ∧ ∃ pre post, ys = pre ++ post ∧ rest = post.map .str ∧ ∀ x ∈ pre, 0 ≤ F x) ⟨rfl, ⟨_, rfl⟩, [], ys, rfl, rfl, by simp⟩ ?_ ?_
  · rintro d rest rho eta ⟨rfl, ⟨z, rfl⟩, pre, post, e1, e2, hpre⟩ K hK
    cases post with
    | nil => cases e2
    | cons x post =>
      obtain ⟨rfl, rfl⟩ : d = .str x ∧ rest = post.map .str := by cases e2; exact ⟨rfl, rfl⟩
      have hx : x ∈ dom := hp.subset (by rw [e1]; simp)
      walk_at "rd"
      refine src_ix hs hx fun e he => ?_
      walk_at "rd"
      refine num_lt0 he (hrb x) ?_
      walk_at "rd"
      by_cases hneg : F x < 0
      · refine i_posD hneg ?_
        walk_at "rd"
        refine ⟨rfl, rfl, by simp, ?_⟩
        refine ⟨?_, ?_⟩
        · rw [tk]; show (MO.cl (.ins 17 []) && clA sub) = true; rw [cl]; rfl
        · rw [tk]
          refine k2 ys x hp hso ?_
          rw [e1, List.find?_append]
          have h0 : pre.find? (fun x => decide (F x < 0)) = none := by
            rw [List.find?_eq_none]
            exact fun y hy z => by
              have h1 := hpre y hy
              exact absurd (of_decide_eq_true z) (Rat.not_lt.mpr h1)
          rw [h0]
          simp [hneg]
      · refine i_negD hneg ?_
        walk_at "rd"
        refine hK _ _ ⟨rfl, ⟨_, rfl⟩, pre ++ [x], post, by simp [e1], rfl, fun y hy => ?_⟩
        rcases List.mem_append.mp hy with h | h
        · exact hpre y h
        · simp at h; subst h; exact Rat.not_lt.mp hneg
  · rintro r e ⟨rfl, ⟨z, rfl⟩, pre, post, e1, e2, hpre⟩
    have : post = [] := by simpa using e2.symm
    subst this
    simp only [List.append_nil] at e1
    subst e1
    have hnn : ∀ x, 0 ≤ F x := fun x => by
      by_cases hx : x ∈ dom
      · exact hpre x (hp.symm.subset hx)
      · rw [hout x hx]; exact Rat.le_refl
    walk_at "rd"
    refine src_ord hs (by omega) fun ms hp2 hso2 => ?_
    have : ms = ys := sorted_eq hso2 hso (hp2.trans hp.symm)
    subst this
    walk_at "rd"
    refine ⟨by have := hp2.length_eq; simp only [List.length_map]; omega, ?_⟩
    refine dcg_fm (done := []) (fun x => decide (0 < F x)) (fun x => .rat (F x)) (by simpa using hys) (fun _ _ _ => rfl) (fun x hx R Z hR hZ => ?_) ?_
    · have hxd : x ∈ dom := hp2.subset hx
      walk_at "rd"
      refine src_ix hs hxd fun e he => ?_
      walk_at "rd"
      refine num_gt0 he (hrb x) ?_
      walk_at "rd"
      refine i_iteD (fun h => ?_) (fun h => ?_)
      · walk_at "rd"
        refine src_ix hs hxd fun e2 he2 => ?_
        walk_at "rd"
        refine i_fn0 m_as_ratio he2.im ⟨e2, _, rfl, rfl, he2, rfl, rfl, ?_⟩
        exact hR (by simpa using h)
      · exact hZ (by simpa using h)
    · walk_at "rd"
      have hB : Bun (ms.filter fun x => decide (0 < F x)) F := ⟨sorted_filter _ hso, hys.filter _, hnn, fun x => by
        rw [List.mem_filter]
        constructor
        · rintro ⟨_, h⟩; simpa using h
        · intro h
          refine ⟨?_, by simpa using h⟩
          by_cases hx : x ∈ dom
          · exact hp2.symm.subset hx
          · rw [hout x hx] at h; exact absurd h (by decide), hrb, by
        have h1 := List.length_filter_le (fun x => decide (0 < F x)) ms
        have := hp2.length_eq
        omega, fun x hx => hok x (hp2.subset (List.mem_filter.mp hx).1)⟩
      refine ⟨?_, ?_⟩
      · show clA (List.take (MO.ins 17 [] :: sub).length (MO.ins 17 [bD (ms.filter fun x => decide (0 < F x)) F] :: sub)) = true
        rw [tk]
        show (MO.cl (.ins 17 [bD (ms.filter fun x => decide (0 < F x)) F]) && clA sub) = true; rw [cl]; rfl
      · show Qa .non (List.take (MO.ins 17 [] :: sub).length (MO.ins 17 [bD (ms.filter fun x => decide (0 < F x)) F] :: sub))
        rw [tk]
        exact k1 hnn _ hB

/-! ### a Ratio's fields -/
def S_l_whole : SpA := fun ds eta Q _ => ∃ x : Int, ds = [.int x] ∧ eta = [] ∧ Q (.bl true) []
theorem m_l_whole : S_l_whole.Mono := fun _ _ _ _ _ _ h _ ⟨x, e1, e2, k⟩ => ⟨x, e1, e2, h _ _ k⟩
theorem k_l_whole {W : Wd} : Keeps 1 1 S_l_whole (r_l_whole W) := by
  rintro ds eta Qa EXa ⟨x, rfl, rfl, k⟩
  refine ⟨rfl, ?_⟩
  unfold r_l_whole
  walk_at "rd"
  exact ⟨rfl, k⟩

def S_l_pair : SpA := fun ds eta Q _ => ∃ q : Rat, ds = [.rat q] ∧ eta = [] ∧ Q (.tup [.int q.num, .int q.den]) []
theorem m_l_pair : S_l_pair.Mono := fun _ _ _ _ _ _ h _ ⟨x, e1, e2, k⟩ => ⟨x, e1, e2, h _ _ k⟩
theorem k_l_pair {W : Wd} : Keeps 1 1 S_l_pair (r_l_pair W S_l_whole S_l_gcd) := by
  rintro ds eta Qa EXa ⟨q, rfl, rfl, k⟩
  refine ⟨rfl, ?_⟩
  unfold r_l_pair
  walk_at "rd"
  refine i_fn0 m_l_whole rfl ⟨q.num, rfl, rfl, rfl, rfl, ?_⟩
  walk_at "rd"
  refine i_fn0 m_l_whole rfl ⟨q.den, rfl, rfl, rfl, rfl, ?_⟩
  walk_at "rd"
  have hd := q.den_pos
  refine i_negD (by omega) ?_
  walk_at "rd"
  refine i_fn0 m_l_gcd rfl ⟨q.num, q.den, rfl, rfl, rfl, rfl, ?_⟩
  walk_at "rd"
  refine i_negD ?_ ?_
  · have := q.reduced
    intro h
    apply h
    show ((Nat.gcd q.num.natAbs (q.den : Int).natAbs : Nat) : Int) = 1
    rw [show (q.den : Int).natAbs = q.den from rfl, this]; rfl
  walk_at "rd"
  exact ⟨rfl, k⟩

def S_Bundle_len : SpA := fun ds eta Q _ => ∃ (d : D) (ns : List Str) (F : Str → Rat), ds = [d] ∧ IsBn 0 d eta ns F ∧ Q (.int ns.length) eta
theorem m_Bundle_len : S_Bundle_len.Mono := fun _ _ _ _ _ _ h _ ⟨d, ns, F, e1, h1, k⟩ => ⟨d, ns, F, e1, h1, h _ _ k⟩
theorem k_Bundle_len {W : Wd} : Keeps 1 1 S_Bundle_len (r_Bundle_len W) := by
  rintro ds eta Qa EXa ⟨d, ns, F, rfl, hd, k⟩
  refine ⟨rfl, ?_⟩
  unfold r_Bundle_len
  rcases hd with ⟨rfl, rfl⟩ | ⟨rfl, rfl⟩
  all_goals
    walk_at "rd"
    rw [List.length_map]
    exact ⟨rfl, k⟩

/-! ### a Bundle read by the law -/
def S_l_read : SpA := fun ds eta Q _ => ∃ (d : D) (ns goods : List Str) (F : Str → Rat), ds = [d, .fl (goods.map .str)] ∧ IsBn 0 d eta ns F ∧ Bun ns F ∧ sortedS goods = true ∧ goods.Nodup ∧ (∀ x ∈ goods, PyData.strOk x = true) ∧ (∀ x, 0 < F x → x ∈ goods) ∧ goods.length ≤ 50 ∧ Q (.fl (goods.map fun x => ratT (F x))) eta
theorem m_l_read : S_l_read.Mono := fun _ _ _ _ _ _ h _ ⟨d, ns, goods, F, e1, h1, h2, h3, h4, h5, h6, h7, k⟩ => ⟨d, ns, goods, F, e1, h1, h2, h3, h4, h5, h6, h7, h _ _ k⟩
theorem bn_get {d : D} {sub : List MO} {ns : List Str} {F : Str → Rat} {x : Str} {rho : Rho} {EX : EXA} {Q : QA} (hd : IsBn 0 d sub ns F) (hB : Bun ns F) (q : Q (.rat (F x)) sub) : raIxU [(17, S_Bundle_getitem)] d (.str x) rho sub Q EX := by
  rcases hd with ⟨rfl, rfl⟩ | ⟨rfl, rfl⟩
  · exact i_ixO rfl (i_fnG rfl rfl rfl rfl ⟨_, x, ns, F, rfl, .inl ⟨rfl, rfl⟩, hB, i_wb rfl rfl rfl q⟩)
  · exact i_ixO rfl (i_fnG rfl rfl rfl rfl ⟨.ref 0, x, ns, F, rfl, .inr ⟨rfl, rfl⟩, hB, i_wb rfl rfl rfl q⟩)
theorem bn_len {d : D} {sub : List MO} {ns : List Str} {F : Str → Rat} {rho : Rho} {EX : EXA} {Q : QA} (hd : IsBn 0 d sub ns F) (q : Q (.int ns.length) sub) : raCall S_Bundle_len [d] rho sub Q EX := by
  rcases hd with ⟨rfl, rfl⟩ | ⟨rfl, rfl⟩
  · exact i_fnG rfl rfl rfl rfl ⟨_, ns, F, rfl, .inl ⟨rfl, rfl⟩, i_wb rfl rfl rfl q⟩
  · exact i_fnG rfl rfl rfl rfl ⟨.ref 0, ns, F, rfl, .inr ⟨rfl, rfl⟩, i_wb rfl rfl rfl q⟩
theorem bn_tbl {d : D} {sub : List MO} {ns : List Str} {F : Str → Rat} {S : SpA} (hd : IsBn 0 d sub ns F) : tblD [(17, S)] sub d = some S := by
  rcases hd with ⟨rfl, rfl⟩ | ⟨rfl, rfl⟩ <;> rfl
theorem bn_itr {d : D} {sub : List MO} {ns : List Str} {F : Str → Rat} (hd : IsBn 0 d sub ns F) : iterD [(17, "amounts")] sub d = some (ns.map .str) := by
  have h : (ns.map Sum.inr : List Key).map kD = ns.map .str := by rw [List.map_map]; rfl
  rcases hd with ⟨rfl, rfl⟩ | ⟨rfl, rfl⟩
  · show some ((ns.map Sum.inr : List Key).map kD) = _; rw [h]
  · show some ((ns.map Sum.inr : List Key).map kD) = _; rw [h]
theorem bn_list {d : D} {sub : List MO} {ns : List Str} {F : Str → Rat} {rho : Rho} {EX : EXA} {Q : QA} (hd : IsBn 0 d sub ns F) (hl : ns.length ≤ 100000) (q : Q (.fl (ns.map .str)) sub) : raListU [(17, S_Bundle_len)] [(17, "amounts")] [d] rho sub Q EX :=
  i_listO (bn_itr hd) (by simpa using hl) (bn_tbl hd) (bn_len hd ⟨_, rfl, ⟨by omega, by omega⟩, rfl⟩) q
theorem bn_ins {d : D} {sub : List MO} {ns : List Str} {F : Str → Rat} (hd : IsBn 0 d sub ns F) : insD sub d = some (17, [bD ns F]) := by
  rcases hd with ⟨rfl, rfl⟩ | ⟨rfl, rfl⟩ <;> rfl
theorem bn_cl {d : D} {sub : List MO} {ns : List Str} {F : Str → Rat} (hd : IsBn 0 d sub ns F) : clA sub = true := by
  rcases hd with ⟨rfl, rfl⟩ | ⟨rfl, rfl⟩ <;> rfl
theorem k_l_read {W : Wd} : Keeps 2 6 S_l_read (r_l_read W S_Bundle_getitem S_l_pair S_Bundle_len) := by
  rintro ds eta Qa EXa ⟨d, ns, goods, F, rfl, hd, hB, hso, hgn, hgo, hgm, hgl, k⟩
  refine ⟨rfl, ?_⟩
  have hns : ns = goods.filter fun x => decide (0 < F x) := sorted_mem hB.so (sorted_filter _ hso) hB.nd (hgn.filter _) fun x => by
    rw [List.mem_filter, hB.mem]
    simp only [decide_eq_true_eq]
    exact ⟨fun h => ⟨hgm x h, h⟩, fun h => h.2⟩
  have hnl := hB.len
  have tk : eta.take eta.length = eta := List.take_length
  have fin : exitQ eta.length Qa (.fl (goods.map fun x => ratT (F x))) eta := by
    refine ⟨by rw [tk]; exact bn_cl hd, ?_⟩
    show Qa (.fl (goods.map fun x => ratT (F x))) (eta.take eta.length)
    rw [tk]; exact k
  unfold r_l_read
  walk_at "rd"
  refine i_isiO (bn_ins hd) rfl ?_
  walk_at "rd"
  refine ⟨by simpa using (by omega : goods.length ≤ 100000), ?_⟩
  refine lcg_map (fun e => match e with | .str x => ratT (F x) | _ => .non) (fun e he => ?_) (fun e he R Z h => ?_) ?_
  · obtain ⟨x, _, rfl⟩ := List.mem_map.mp he; rfl
  · obtain ⟨x, _, rfl⟩ := List.mem_map.mp he
    walk_at "rd"
    refine bn_get hd hB ?_
    walk_at "rd"
    refine i_fn0 m_l_pair rfl ⟨F x, rfl, rfl, rfl, rfl, ?_⟩
    exact h
  rw [List.nil_append, List.map_map]
  have hrow : (goods.map ((fun e => match e with | .str x => ratT (F x) | _ => .non) ∘ D.str)) = goods.map fun x => ratT (F x) := rfl
  rw [hrow]
  walk_at "rd"
  refine loop_i (fun rest r e => e = eta ∧ (∃ z, r = [some d, some (.fl (goods.map .str)), some (.fl (goods.map fun x => ratT (F x))), z, none, none]) ∧ ∃ post : List Str, rest = post.map fun x => ratT (F x)) ⟨rfl, ⟨_, rfl⟩, goods, rfl⟩ ?_ ?_
  · rintro e rest rho eta' ⟨rfl, ⟨z, rfl⟩, post, e2⟩ K hK
    cases post with
    | nil => cases e2
    | cons x post =>
      obtain ⟨rfl, rfl⟩ : e = ratT (F x) ∧ rest = post.map fun x => ratT (F x) := by cases e2; exact ⟨rfl, rfl⟩
      walk_at "rd"
      rw [show decide ((F x).num < 0) = decide (F x < 0) from num_lt]
      refine i_negD (Rat.not_lt.mpr (hB.nn x)) ?_
      walk_at "rd"
      exact hK _ _ ⟨rfl, ⟨_, rfl⟩, post, rfl⟩
  · rintro r e ⟨rfl, ⟨z, rfl⟩, post, e2⟩
    walk_at "rd"
    refine bn_list hd (by omega) ?_
    walk_at "rd"
    rw [List.length_map]
    refine i_rngQ (by omega) ?_
    rw [show ((goods.length : Nat) : Int).toNat = goods.length by omega]
    refine ⟨by rw [rngL_len]; omega, ?_⟩
    refine lcg_i (fun rest acc e' => e' = e ∧ ∃ j, j ≤ goods.length ∧ rest = rngL j (goods.length - j) ∧ acc = ((goods.take j).filter fun x => decide (0 < F x)).map .str) ⟨rfl, 0, Nat.zero_le _, rfl, rfl⟩ ?_ ?_
    · rintro i rest acc e' ⟨rfl, j, hj, er, rfl⟩ K hK
      have hlt : j < goods.length := by
        refine Nat.lt_of_not_le fun q => ?_
        rw [show goods.length - j = 0 by omega] at er
        cases er
      rw [show goods.length - j = (goods.length - (j + 1)) + 1 by omega] at er
      obtain ⟨rfl, rfl⟩ : i = .int j ∧ rest = rngL (j + 1) (goods.length - (j + 1)) := by cases er; exact ⟨rfl, rfl⟩
      obtain ⟨x, hx⟩ : ∃ x, goods[j]? = some x := ⟨_, List.getElem?_eq_getElem hlt⟩
      have htk : goods.take (j + 1) = goods.take j ++ [x] := by
        rw [List.take_succ, hx]; rfl
      walk_at "rd"
      refine i_ixF (at_nat (p := j) (x := ratT (F x)) (by rw [List.getElem?_map, hx]; rfl)) ?_
      walk_at "rd"
      rw [show decide ((0 : Int) < (F x).num) = decide (0 < F x) from num_gt]
      refine i_iteD (fun h => ?_) (fun h => ?_)
      · walk_at "rd"
        refine i_ixF (at_nat (p := j) (x := .str x) (by rw [List.getElem?_map, hx]; rfl)) ?_
        refine ⟨rfl, hK _ _ ⟨rfl, j + 1, hlt, rfl, ?_⟩⟩
        rw [htk, List.filter_append, List.map_append]
        simp [h]
      · refine hK _ _ ⟨rfl, j + 1, hlt, rfl, ?_⟩
        rw [htk, List.filter_append, List.map_append]
        simp [h]
    · rintro acc e' ⟨rfl, j, hj, er, rfl⟩
      have hjn : j = goods.length := by
        refine Nat.le_antisymm hj (Nat.le_of_not_lt fun q => ?_)
        rw [show goods.length - j = (goods.length - (j + 1)) + 1 by omega] at er
        cases er
      subst hjn
      rw [List.take_length, ← hns]
      refine i_neR ?_ ?_
      · show D.pls 59 (ns.map .str) = true
        exact pls_strs fun x hx => hB.ok x hx
      walk_at "rd"
      refine i_lenO (bn_tbl hd) (bn_len hd (i_lenOQ ⟨by omega, by omega⟩ ?_))
      walk_at "rd"
      refine bn_list hd (by omega) ?_
      walk_at "rd"
      rw [List.length_map]
      refine i_negD (by simp) ?_
      walk_at "rd"
      exact fin

def S_Bundle_contains : SpA := fun ds eta Q _ => ∃ (d : D) (g : Str) (ns : List Str) (F : Str → Rat), ds = [d, .str g] ∧ IsBn 0 d eta ns F ∧ Bun ns F ∧ Q (.bl (decide (0 < F g))) eta
theorem m_Bundle_contains : S_Bundle_contains.Mono := fun _ _ _ _ _ _ h _ ⟨d, g, ns, F, e1, h1, h2, k⟩ => ⟨d, g, ns, F, e1, h1, h2, h _ _ k⟩
theorem k_Bundle_contains {W : Wd} : Keeps 2 2 S_Bundle_contains (r_Bundle_contains W) := by
  rintro ds eta Qa EXa ⟨d, g, ns, F, rfl, hd, hB, k⟩
  refine ⟨rfl, ?_⟩
  unfold r_Bundle_contains
  rcases hd with ⟨rfl, rfl⟩ | ⟨rfl, rfl⟩
  all_goals
    walk_at "rd"
    by_cases hg : g ∈ ns
    · rw [bD_get hg, Option.isSome_some]
      have h1 := (hB.mem g).mp hg
      refine ⟨rfl, ?_⟩
      rw [show decide (0 < F g) = true by simpa using h1] at k
      exact k
    · rw [bD_none hg, Option.isSome_none]
      have h1 : ¬ 0 < F g := fun z => hg ((hB.mem g).mpr z)
      refine ⟨rfl, ?_⟩
      rw [show decide (0 < F g) = false by simpa using h1] at k
      exact k

def S_Bundle_setitem : SpA := fun ds eta Q E => ∃ (g : Str) (e : D) (v : Rat) (ns : List Str) (F : Str → Rat), ds = [.ref 0, .str g, e] ∧ eta = [.ins 17 [bD ns F]] ∧ Bun ns F ∧ ns.length < 59 ∧ IsNum e v ∧ RB 3000 v ∧ PyData.strOk g = true ∧
  (0 ≤ v → ∀ ns', Bun ns' (updF F g v) → Q .non [.ins 17 [bD ns' (updF F g v)]]) ∧ (v < 0 → E ⟨9, [.str g]⟩ [.ins 17 [bD ns F]])
theorem m_Bundle_setitem : S_Bundle_setitem.Mono := fun _ _ _ _ _ _ h h' ⟨g, e, v, ns, F, e1, e2, h1, h2, h3, h4, h5, k1, k2⟩ => ⟨g, e, v, ns, F, e1, e2, h1, h2, h3, h4, h5, fun a ns b => h _ _ (k1 a ns b), fun a => h' _ _ (k2 a)⟩
theorem k_Bundle_setitem {W : Wd} : Keeps 3 6 S_Bundle_setitem (r_Bundle_setitem W S_as_ratio S_Ratio_lt S_Ratio_gt S_ordered) := by
  rintro ds eta Qa EXa ⟨g, e, v, ns, F, rfl, rfl, hB, hln, he, hv, hg, k1, k2⟩
  refine ⟨rfl, ?_⟩
  unfold r_Bundle_setitem
  walk_at "rd"
  refine i_fn0 m_as_ratio he.im ⟨e, v, rfl, rfl, he, rfl, rfl, ?_⟩
  walk_at "rd"
  refine num_lt0 (.inl rfl) hv ?_
  walk_at "rd"
  by_cases hneg : v < 0
  · refine i_posD hneg ?_
    walk_at "rd"
    exact ⟨rfl, rfl, by simp, rfl, k2 hneg⟩
  refine i_negD hneg ?_
  have hv0 : 0 ≤ v := Rat.not_lt.mp hneg
  walk_at "rd"
  refine ⟨by rw [List.length_map]; omega, ?_⟩
  refine dcg_fm (done := []) (fun x => !decide (x = g)) (fun x => .rat (F x)) (by simpa using hB.nd) (fun _ _ _ => rfl) (fun x hx R Z hR hZ => ?_) ?_
  · walk_at "rd"
    refine i_neS (hB.ok x hx) hg ?_
    walk_at "rd"
    by_cases hxg : x = g
    · rw [decide_eq_true hxg]
      walk_at "rd"
      exact hZ (by simp [hxg])
    · rw [decide_eq_false hxg]
      walk_at "rd"
      refine i_ix1B hx ?_
      exact hR (by simp [hxg])
  have hms : ([] ++ ns).filter (fun x => !decide (x = g)) = ns.filter (fun x => !decide (x = g)) := rfl
  rw [hms]
  obtain ⟨ms, hme⟩ : ∃ ms, ns.filter (fun x => !decide (x = g)) = ms := ⟨_, rfl⟩
  rw [hme]
  have hmn : ms.Nodup := by rw [← hme]; exact hB.nd.filter _
  have hmm : ∀ x, x ∈ ms ↔ x ∈ ns ∧ x ≠ g := fun x => by rw [← hme, List.mem_filter]; simp
  have hml : ms.length ≤ ns.length := by rw [← hme]; exact List.length_filter_le _ _
  have hmF : (ms.map fun x => D.rat (F x)) = ms.map fun x => D.rat (updF F g v x) := List.map_congr_left fun x hx => by unfold updF; rw [if_neg ((hmm x).mp hx).2]
  rw [hmF]
  walk_at "rds"
  dsimp only
  refine i_seqP (fun r e' => ∃ (km : List Str) (z : Option D), km.Nodup ∧ (∀ x, x ∈ km ↔ (x ∈ ms ∨ (0 < v ∧ x = g))) ∧ km.length < 60 ∧ r = [some (.ref 0), some (.str g), some e, some (.rat v), some (.ref 1), z] ∧ e' = [.ins 17 [bD ns F], .dct (km.map Sum.inr) (km.map fun x => .rat (updF F g v x))]) (fun R hR => ?_) ?_
  · walk_at "rd"
    refine num_gt0 (.inl rfl) hv ?_
    walk_at "rd"
    by_cases hpos : 0 < v
    · refine i_posD hpos ?_
      walk_at "rd"
      have hgm : g ∉ ms := fun z => ((hmm g).mp z).2 rfl
      refine i_ssD (k := Sum.inr g) rfl rfl rfl rfl (by rw [List.length_map]; omega) ?_
      rw [kput_new hgm]
      refine hR _ _ ⟨ms ++ [g], _, ?_, fun x => ?_, ?_, rfl, ?_⟩
      · rw [List.nodup_append]
        exact ⟨hmn, by simp, fun a ha b hb => by simp at hb; rw [hb]; rintro rfl; exact hgm ha⟩
      · rw [List.mem_append, List.mem_singleton]
        constructor
        · rintro (h | h)
          · exact .inl h
          · exact .inr ⟨hpos, h⟩
        · rintro (h | h)
          · exact .inl h
          · exact .inr h.2
      · simp; omega
      · rw [List.map_append, List.map_append]
        simp [updF]
    · refine i_negD hpos ?_
      walk_at "rd"
      exact hR _ _ ⟨ms, _, hmn, fun x => ⟨.inl, fun h => h.resolve_right fun z => hpos z.1⟩, by omega, rfl, rfl⟩
  · rintro r e' ⟨km, z, hkn, hkm, hkl, rfl, rfl⟩
    walk_at "rd"
    refine i_fnG rfl rfl rfl rfl ⟨.ref 0, km, rfl, .inl ⟨_, rfl, rfl, by simp⟩, by omega, fun ys hp hso => i_wb rfl rfl rfl ?_⟩
    walk_at "rd"
    have hyn : ys.Nodup := (List.Perm.nodup_iff hp).mpr hkn
    refine ⟨by have := hp.length_eq; rw [List.length_map]; omega, ?_⟩
    refine dcg_fm (done := []) (fun _ => true) (fun x => .rat (updF F g v x)) (by simpa using hyn) (fun _ _ _ => rfl) (fun x hx R Z hR hZ => ?_) ?_
    · walk_at "rd"
      have hxk : x ∈ km := hp.subset hx
      refine i_ix1D (ks := km.map Sum.inr) (ds := km.map fun x => .rat (updF F g v x)) (k := Sum.inr x) rfl rfl (bD_get hxk) ?_
      exact hR rfl
    · have e3 : ([] ++ ys).filter (fun _ => true) = ys := by simp
      rw [e3]
      walk_at "rd"
      have hB2 : Bun ys (updF F g v) := ⟨hso, hyn, fun x => by unfold updF; split; exact hv0; exact hB.nn x, fun x => by
        have h1 : x ∈ ys ↔ x ∈ km := hp.mem_iff
        rw [h1, hkm, hmm, hB.mem]
        unfold updF
        by_cases hx : x = g
        · subst hx
          rw [if_pos rfl]
          constructor
          · rintro (h | h)
            · exact absurd rfl h.2
            · exact h.1
          · intro h; exact .inr ⟨h, rfl⟩
        · rw [if_neg hx]
          constructor
          · rintro (h | h)
            · exact h.1
            · exact absurd h.2 hx
          · intro h; exact .inl ⟨h, hx⟩, fun x => by unfold updF; split; exact hv; exact hB.rb x, by have := hp.length_eq; omega, fun x hx => by
        have h1 := (hkm x).mp (hp.subset hx)
        rcases h1 with h | h
        · exact hB.ok x ((hmm x).mp h).1
        · rw [h.2]; exact hg⟩
      exact ⟨rfl, k1 hv0 _ hB2⟩

def S_l_set_refused : SpA := fun ds eta Q _ => ∃ (g : Str) (e : D) (v : Rat) (ns : List Str) (F : Str → Rat), ds = [.ref 0, .str g, e] ∧ eta = [.ins 17 [bD ns F]] ∧ Bun ns F ∧ ns.length < 59 ∧ IsNum e v ∧ RB 3000 v ∧ PyData.strOk g = true ∧ v < 0 ∧ Q (.bl true) eta
theorem m_l_set_refused : S_l_set_refused.Mono := fun _ _ _ _ _ _ h _ ⟨g, e, v, ns, F, e1, e2, h1, h2, h3, h4, h5, h6, k⟩ => ⟨g, e, v, ns, F, e1, e2, h1, h2, h3, h4, h5, h6, h _ _ k⟩
theorem k_l_set_refused {W : Wd} : Keeps 3 5 S_l_set_refused (r_l_set_refused W S_Bundle_setitem) := by
  rintro ds eta Qa EXa ⟨g, e, v, ns, F, rfl, rfl, hB, hln, he, hv, hg, hneg, k⟩
  refine ⟨rfl, ?_⟩
  unfold r_l_set_refused
  walk_at "rd"
  have ee := he.im0
  have e0 : refsOf [D.ref 0, D.str g, e] = [0] := refs_ref (by simp only [List.all_cons, List.all_nil, ee]; rfl)
  have e1 : [D.ref 0, D.str g, e].map (renD [0]) = [D.ref 0, D.str g, e] := by
    rw [List.map_cons, ren_im (by simp only [List.all_cons, List.all_nil, ee]; rfl)]; rfl
  refine i_fnG e0 rfl e1 rfl ⟨g, e, v, ns, F, rfl, rfl, hB, hln, he, hv, hg, fun h => absurd h (Rat.not_le.mpr hneg), fun _ => ?_⟩
  walk_at "rd"
  refine i_exas rfl fun a d hd => ?_
  walk_at "rd"
  refine i_isE rfl rfl ?_
  walk_at "rd"
  refine i_isE rfl rfl ?_
  walk_at "rd"
  refine i_isE rfl rfl ?_
  walk_at "rd"
  refine i_isE rfl rfl ?_
  walk_at "rd"
  refine i_isE rfl rfl ?_
  walk_at "rd"
  refine i_rep (ds := [.bl false]) rfl ⟨by decide, by decide, by decide⟩ ?_
  refine i_eqE rfl rfl ?_
  walk_at "rd"
  refine i_eqS hg hg ?_
  rw [decide_eq_true rfl]
  exact ⟨rfl, k⟩

def S_l_made_refused : SpA := fun ds eta Q _ => ∃ (g : Str) (dom : List Str) (vs : List D) (F : Str → Rat), ds = [.ref 0, .str g] ∧ eta = [.dct (dom.map Sum.inr) vs] ∧ DN dom vs F ∧ (∀ x, RB 3000 (F x)) ∧ (∀ x, x ∉ dom → F x = 0) ∧ dom.length < 60 ∧ (∀ x ∈ dom, PyData.strOk x = true) ∧ PyData.strOk g = true ∧
  (∀ ys : List Str, ys.Perm dom → sortedS ys = true → ys.find? (fun x => decide (F x < 0)) = some g) ∧ Q (.bl true) eta
theorem m_l_made_refused : S_l_made_refused.Mono := fun _ _ _ _ _ _ h _ ⟨g, dom, vs, F, e1, e2, h1, h2, h3, h4, h5, h6, h7, k⟩ => ⟨g, dom, vs, F, e1, e2, h1, h2, h3, h4, h5, h6, h7, h _ _ k⟩
theorem k_l_made_refused {W : Wd} : Keeps 2 3 S_l_made_refused (r_l_made_refused W S_Bundle_init) := by
  rintro ds eta Qa EXa ⟨g, dom, vs, F, rfl, rfl, hD, hrb, hout, hlen, hok, hg, hf, k⟩
  refine ⟨rfl, ?_⟩
  unfold r_l_made_refused
  walk_at "rd"
  refine i_fnG rfl rfl rfl rfl (i_optS rfl ?_)
  refine ⟨.ref 1, [.dct (dom.map Sum.inr) vs], dom, F, rfl, rfl, .inl ⟨vs, rfl, rfl, hD⟩, hrb, hout, hD.nd, hlen, hok, fun hnn ns hB => ?_, fun ys g' hp hso hf' => ?_⟩
  · have h1 := fun (ys : List Str) hp hso => hf ys hp hso
    exfalso
    have hms := ord_ex dom
    obtain ⟨ys, hp, hso⟩ := hms
    have h2 := h1 ys hp hso
    have h3 := List.find?_some h2
    exact absurd (hnn g) (Rat.not_le.mpr (of_decide_eq_true h3))
  · have e1 := hf ys hp hso
    rw [hf'] at e1
    cases e1
    refine i_wbX rfl rfl ?_
    refine i_exas rfl fun a d hd => ?_
    walk_at "rd"
    refine i_eqS hg hg ?_
    rw [decide_eq_true rfl]
    exact ⟨rfl, k⟩

def S_Bundle_single : SpA := fun ds eta Q E => ∃ (g : Str) (e : D) (v : Rat), ds = [.str g, e] ∧ eta = [] ∧ IsNum e v ∧ RB 3000 v ∧ PyData.strOk g = true ∧ (0 ≤ v → ∀ ns, Bun ns (updF (fun _ => 0) g v) → Q (.obj 17 [bD ns (updF (fun _ => 0) g v)]) []) ∧ (v < 0 → E ⟨9, [.str g]⟩ [])
theorem m_Bundle_single : S_Bundle_single.Mono := fun _ _ _ _ _ _ h h' ⟨g, e, v, e1, e2, h1, h2, h3, k1, k2⟩ => ⟨g, e, v, e1, e2, h1, h2, h3, fun a ns b => h _ _ (k1 a ns b), fun a => h' _ _ (k2 a)⟩
theorem DN.one {g : Str} {e : D} {v : Rat} {F : Str → Rat} (he : IsNum e v) : DN [g] [e] (updF F g v) := ⟨by simp, rfl, by simp only [List.all_cons, List.all_nil, Bool.and_true]; rcases he with rfl | ⟨i, rfl, _⟩ <;> rfl, fun x hx => by
  have : x = g := by simpa using hx
  subst this
  exact ⟨e, by simp [kget], by unfold updF; rw [if_pos rfl]; exact he⟩⟩
theorem perm_one {g : Str} {ys : List Str} (h : ys.Perm [g]) : ys = [g] := List.perm_singleton.mp h
theorem k_Bundle_single {W : Wd} : Keeps 2 2 S_Bundle_single (r_Bundle_single W S_Bundle_init) := by
  rintro ds eta Qa EXa ⟨g, e, v, rfl, rfl, he, hv, hg, k1, k2⟩
  refine ⟨rfl, ?_⟩
  unfold r_Bundle_single
  walk_at "rd"
  refine i_dispQ (k := Sum.inr g) rfl he.im0 ?_
  walk_at "rd"
  refine i_fnG rfl rfl rfl rfl (i_optS rfl ?_)
  refine ⟨.fd [Sum.inr g] [e], [], [g], updF (fun _ => 0) g v, rfl, rfl, .inr (.inr (.inr ⟨[e], rfl, rfl, DN.one he⟩)), fun x => ?_, fun x hx => ?_, by simp, by simp, fun x hx => ?_, fun hnn ns hB => ?_, fun ys g' hp hso hf => ?_⟩
  · unfold updF; split
    · exact hv
    · exact RB.zero3
  · unfold updF; rw [if_neg (by simpa using hx)]
  · have : x = g := by simpa using hx
    rw [this]; exact hg
  · have hv0 : 0 ≤ v := by have := hnn g; unfold updF at this; rwa [if_pos rfl] at this
    walk_at "rd"
    exact ⟨rfl, k1 hv0 ns hB⟩
  · have e1 := perm_one hp
    subst e1
    have e2 : updF (fun _ => (0 : Rat)) g v g = v := by unfold updF; rw [if_pos rfl]
    simp only [List.find?_cons, List.find?_nil, e2] at hf
    split at hf
    · rename_i h1
      have h2 : v < 0 := by simpa using h1
      cases hf
      exact i_wbX rfl rfl ⟨rfl, k2 h2⟩
    · cases hf

def S_l_single_refused : SpA := fun ds eta Q _ => ∃ (g : Str) (e : D) (v : Rat), ds = [.str g, e] ∧ eta = [] ∧ IsNum e v ∧ RB 3000 v ∧ PyData.strOk g = true ∧ v < 0 ∧ Q (.bl true) []
theorem m_l_single_refused : S_l_single_refused.Mono := fun _ _ _ _ _ _ h _ ⟨g, e, v, e1, e2, h1, h2, h3, h4, k⟩ => ⟨g, e, v, e1, e2, h1, h2, h3, h4, h _ _ k⟩
theorem k_l_single_refused {W : Wd} : Keeps 2 3 S_l_single_refused (r_l_single_refused W S_Bundle_single) := by
  rintro ds eta Qa EXa ⟨g, e, v, rfl, rfl, he, hv, hg, hneg, k⟩
  refine ⟨rfl, ?_⟩
  unfold r_l_single_refused
  walk_at "rd"
  have ee := he.im0
  have e0 : refsOf [D.str g, e] = [] := refs_im (by simp only [List.all_cons, List.all_nil, ee]; rfl)
  have e1 : [D.str g, e].map (renD []) = [D.str g, e] := ren_im (by simp only [List.all_cons, List.all_nil, ee]; rfl)
  refine i_fnG e0 rfl e1 rfl (i_optS rfl ?_)
  refine ⟨g, e, v, rfl, rfl, he, hv, hg, fun h => absurd h (Rat.not_le.mpr hneg), fun _ => i_wbX rfl rfl ?_⟩
  refine i_exas rfl fun a d hd => ?_
  walk_at "rd"
  refine i_eqS hg hg ?_
  rw [decide_eq_true rfl]
  exact ⟨rfl, k⟩

/-! ### Bundles in the law's walk -/
theorem set_self {α : Type} {l : List α} {n : Nat} {x : α} (h : l[n]? = some x) : l.set n x = l := by
  obtain ⟨hn, e⟩ := List.getElem?_eq_some_iff.mp h
  subst e
  exact List.set_getElem_self hn
/-- what the law knows of its list of goods -/
structure GD (goods : List Str) (F : Str → Rat) : Prop where
  so : sortedS goods = true
  nd : goods.Nodup
  ok : ∀ x ∈ goods, PyData.strOk x = true
  mem : ∀ x, 0 < F x → x ∈ goods
  len : goods.length ≤ 50
theorem GD.mono {goods : List Str} {F G : Str → Rat} (h : GD goods F) (e : ∀ x, 0 < G x → x ∈ goods) : GD goods G := ⟨h.so, h.nd, h.ok, e, h.len⟩
theorem GD.up {goods : List Str} {F : Str → Rat} {g : Str} {v : Rat} (h : GD goods F) (hg : g ∈ goods) : GD goods (updF F g v) := h.mono fun x hx => by
  unfold updF at hx
  split at hx
  · rename_i e; rw [e]; exact hg
  · exact h.mem x hx
theorem GD.bun {goods ns : List Str} {F : Str → Rat} (h : GD goods F) (hB : Bun ns F) : ns.length ≤ goods.length := by
  have e : ns = goods.filter fun x => decide (0 < F x) := sorted_mem hB.so (sorted_filter _ h.so) hB.nd (h.nd.filter _) fun x => by
    rw [List.mem_filter, hB.mem]
    simp only [decide_eq_true_eq]
    exact ⟨fun q => ⟨h.mem x q, q⟩, fun q => q.2⟩
  rw [e]; exact List.length_filter_le _ _
section
variable {rho : Rho} {eta : List MO} {EX : EXA} {Q : QA} {ns goods : List Str} {F : Str → Rat} {n : Nat}
theorem read_ref (hn : eta[n]? = some (.ins 17 [bD ns F])) (hB : Bun ns F) (G : GD goods F) (q : Q (.fl (goods.map fun x => ratT (F x))) eta) : raCall S_l_read [.ref n, .fl (goods.map .str)] rho eta Q EX :=
  i_fn1 m_l_read rfl hn rfl ⟨.ref 0, ns, goods, F, rfl, .inr ⟨rfl, rfl⟩, hB, G.so, G.nd, G.ok, G.mem, G.len, _, rfl, rfl, rfl, by rw [set_self hn]; exact q⟩
theorem read_obj (hB : Bun ns F) (G : GD goods F) (q : Q (.fl (goods.map fun x => ratT (F x))) eta) : raCall S_l_read [.obj 17 [bD ns F], .fl (goods.map .str)] rho eta Q EX :=
  i_fn0 m_l_read rfl ⟨_, ns, goods, F, rfl, .inl ⟨rfl, rfl⟩, hB, G.so, G.nd, G.ok, G.mem, G.len, rfl, rfl, q⟩
theorem get_ref {x : Str} (hn : eta[n]? = some (.ins 17 [bD ns F])) (hB : Bun ns F) (q : Q (.rat (F x)) eta) : raCall S_Bundle_getitem [.ref n, .str x] rho eta Q EX :=
  i_fn1 m_Bundle_getitem rfl hn rfl ⟨.ref 0, x, ns, F, rfl, .inr ⟨rfl, rfl⟩, hB, _, rfl, rfl, rfl, by rw [set_self hn]; exact q⟩
theorem has_ref {x : Str} (hn : eta[n]? = some (.ins 17 [bD ns F])) (hB : Bun ns F) (q : Q (.bl (decide (0 < F x))) eta) : raCall S_Bundle_contains [.ref n, .str x] rho eta Q EX :=
  i_fn1 m_Bundle_contains rfl hn rfl ⟨.ref 0, x, ns, F, rfl, .inr ⟨rfl, rfl⟩, hB, _, rfl, rfl, rfl, by rw [set_self hn]; exact q⟩
theorem set_ref {x : Str} {e : D} {v : Rat} (hn : eta[n]? = some (.ins 17 [bD ns F])) (hB : Bun ns F) (hl : ns.length < 59) (he : IsNum e v) (hv : RB 3000 v) (hx : PyData.strOk x = true) (h0 : 0 ≤ v) (q : ∀ ns', Bun ns' (updF F x v) → Q .non (eta.set n (.ins 17 [bD ns' (updF F x v)]))) : raCall S_Bundle_setitem [.ref n, .str x, e] rho eta Q EX := by
  refine i_fn1 m_Bundle_setitem ?_ hn rfl ⟨x, e, v, ns, F, rfl, rfl, hB, hl, he, hv, hx, fun _ ns' hB' => ⟨_, rfl, rfl, rfl, q ns' hB'⟩, fun h => absurd h (Rat.not_lt.mpr h0)⟩
  simp only [List.all_cons, List.all_nil, he.im0]; rfl
theorem refused_ref {x : Str} {e : D} {v : Rat} (hn : eta[n]? = some (.ins 17 [bD ns F])) (hB : Bun ns F) (hl : ns.length < 59) (he : IsNum e v) (hv : RB 3000 v) (hx : PyData.strOk x = true) (h0 : v < 0) (q : Q (.bl true) eta) : raCall S_l_set_refused [.ref n, .str x, e] rho eta Q EX := by
  refine i_fn1 m_l_set_refused ?_ hn rfl ⟨x, e, v, ns, F, rfl, rfl, hB, hl, he, hv, hx, h0, _, rfl, rfl, rfl, by rw [set_self hn]; exact q⟩
  simp only [List.all_cons, List.all_nil, he.im0]; rfl
theorem init_ok {src : D} {sub : List MO} {dom : List Str} {Q' : QA} {E : Ex → List MO → Prop} (hs : Src src sub dom F) (hrb : ∀ x, RB 3000 (F x)) (hout : ∀ x, x ∉ dom → F x = 0) (hnd : dom.Nodup) (hlen : dom.length < 60) (hok : ∀ x ∈ dom, PyData.strOk x = true) (hnn : ∀ x, 0 ≤ F x) (k : ∀ ns, Bun ns F → Q' .non (.ins 17 [bD ns F] :: sub)) : S_Bundle_init [.ref 0, src] (.ins 17 [] :: sub) Q' E :=
  ⟨src, sub, dom, F, rfl, rfl, hs, hrb, hout, hnd, hlen, hok, fun _ ns hB => k ns hB, fun ys g _ _ hf => by
    have h := List.find?_some hf
    exact absurd (of_decide_eq_true h) (Rat.not_lt.mpr (hnn g))⟩
theorem i_neRef {ds : List D} (hn : eta[n]? = some (.lst ds)) (hp : D.pls 59 ds = true) (h : Q (.bl false) eta) : raNe (.fl ds) (.ref n) rho eta Q EX := by
  have e : rsl eta (.ref n) = .fl ds := by unfold rsl; simp only [hn]
  refine i_ne hp (by rw [e]; exact hp) ?_
  rw [e]
  show Q (.bl (!D.eqd (.fl ds) (.fl ds))) eta
  rw [eqd_refl 60 (.fl ds) hp]
  exact h
theorem i_eqRef {ds : List D} (hn : eta[n]? = some (.lst ds)) (hp : D.pls 59 ds = true) (h : Q (.bl true) eta) : raEq (.fl ds) (.ref n) rho eta Q EX := by
  have e : rsl eta (.ref n) = .fl ds := by unfold rsl; simp only [hn]
  refine i_eq hp (by rw [e]; exact hp) ?_
  rw [e]
  show Q (.bl (D.eqd (.fl ds) (.fl ds))) eta
  rw [eqd_refl 60 (.fl ds) hp]
  exact h
end
theorem pls_rats {F : Str → Rat} {n : Nat} : ∀ {xs : List Str}, D.pls (n + 1) (xs.map fun x => ratT (F x)) = true
  | [] => by simp [D.pls]
  | x :: xs => by
    rw [List.map_cons, D.pls, Bool.and_eq_true]
    exact ⟨by simp [ratT, D.pl, D.pls], pls_rats⟩
theorem DN.bun {ns : List Str} {F : Str → Rat} (h : Bun ns F) : True := trivial
theorem lcs_fm {ga : TGa} {tt : TTa} {te : TEa} {rho : Rho} {eta : List MO} {Q : List D → List MO → Prop} (p : Str → Bool) {xs : List Str}
    (h : ∀ x ∈ xs, ∀ (R : QA) (Z : List MO → Prop), (p x = true → R (.str x) eta) → (p x = false → Z eta) → ga (.str x) rho eta fun r1 e1 => tt r1 e1 (fun b e2 => if b = true then te r1 e2 R (fun _ _ _ => False) else Z e2) (fun _ _ _ => False))
    (hq : Q ((xs.filter p).map .str) eta) : aLcG ga tt te rho Q (xs.map .str) [] eta := by
  refine lcg_fm (fun d => match d with | .str x => p x | _ => false) (fun d => d) (fun d hd _ => ?_) (fun d hd R Z h1 h2 => ?_) ?_
  · obtain ⟨x, _, rfl⟩ := List.mem_map.mp hd; rfl
  · obtain ⟨x, hx, rfl⟩ := List.mem_map.mp hd
    exact h x hx R Z h1 h2
  · rw [List.nil_append, List.map_id', List.filter_map]
    exact hq
theorem divInt_neg1 {a b : Int} (ha : a < 0) (hb : 0 < b) : Rat.divInt a b < 0 := by
  have h : (Rat.divInt a b).num < 0 := by
    have hd := (Rat.divInt a b).den_pos
    have e : (Rat.divInt a b).num * b = a * (Rat.divInt a b).den := by
      have e0 : Rat.divInt (Rat.divInt a b).num (Rat.divInt a b).den = Rat.divInt a b := Rat.num_divInt_den _
      exact (Rat.divInt_eq_divInt_iff (by omega) (by omega)).mp e0
    have h2 : (Rat.divInt a b).num * b < 0 := by rw [e]; exact Int.mul_neg_of_neg_of_pos ha (by omega)
    exact Int.not_le.mp fun z => absurd (Int.mul_nonneg z (by omega : 0 ≤ b)) (by omega)
  rw [Rat.lt_iff]
  show _ * (1 : Int) < 0 * _
  omega
theorem int_neg {i : Int} (h : i < 0) : (i : Rat) < 0 := Rat.intCast_lt_intCast.mpr h
theorem int_rb {i : Int} (h : i.natAbs < 2 ^ 50) : RB 3000 (i : Rat) := (RB.int (by decide) h).mono (by decide)
theorem divInt_rb {a b : Int} (hb : b ≠ 0) (h1 : a.natAbs < 2 ^ 50) (h2 : b.natAbs < 2 ^ 50) : RB 3000 (Rat.divInt a b) := (RB.divInt hb h1 h2).mono (by decide)
theorem SpA.Mono.opt {S : SpA} {n : Nat} {d : D} (h : S.Mono) : (optS S n d).Mono := fun ds eta Q Q' E E' h1 h2 z => by
  unfold optS at z ⊢
  split at z
  · rename_i e; rw [if_pos e]; exact h _ _ _ _ _ _ h1 h2 z
  · rename_i e; rw [if_neg e]; exact h _ _ _ _ _ _ h1 h2 z
abbrev zF : Str → Rat := fun _ => 0
theorem single_ok {rho : Rho} {eta : List MO} {EX : EXA} {Q : QA} {g : Str} {e : D} {v : Rat} (he : IsNum e v) (hv : RB 3000 v) (hg : PyData.strOk g = true) (h0 : 0 ≤ v) (q : ∀ ns, Bun ns (updF zF g v) → Q (.obj 17 [bD ns (updF zF g v)]) eta) : raCall (optS S_Bundle_single 1 (.int 1)) [.str g, e] rho eta Q EX :=
  i_fn0 m_Bundle_single.opt (by simp only [List.all_cons, List.all_nil, he.im0]; rfl) (i_optS rfl ⟨g, e, v, rfl, rfl, he, hv, hg, fun _ ns hB => ⟨rfl, rfl, q ns hB⟩, fun h => absurd h (Rat.not_lt.mpr h0)⟩)
theorem single_one {rho : Rho} {eta : List MO} {EX : EXA} {Q : QA} {g : Str} (hg : PyData.strOk g = true) (q : ∀ ns, Bun ns (updF zF g ((1 : Int) : Rat)) → Q (.obj 17 [bD ns (updF zF g ((1 : Int) : Rat))]) eta) : raCall (optS S_Bundle_single 1 (.int 1)) [.str g] rho eta Q EX :=
  i_fn0 m_Bundle_single.opt rfl (i_optD rfl ⟨g, .int 1, ((1 : Int) : Rat), rfl, rfl, .inr ⟨1, rfl, rfl⟩, ⟨by decide, by decide⟩, hg, fun _ ns hB => ⟨rfl, rfl, q ns hB⟩, fun h => absurd h (by decide)⟩)
theorem map_const_eq {α β γ : Type} (l : List α) (m : List β) (c : γ) (h : l.length = m.length) : (l.map fun _ => c) = m.map fun _ => c := by
  rw [List.map_const', List.map_const', h]
/-! rows -/
def rowF (goods : List Str) (rs : List Rat) : Str → Rat := fun x => match strIx goods x with
  | some j => rs.getD j 0
  | none => 0
theorem strIx_none : ∀ {xs : List Str} {y : Str}, y ∉ xs → strIx xs y = none
  | [], y, _ => rfl
  | x :: xs, y, h => by
    simp only [List.mem_cons, not_or] at h
    unfold strIx
    rw [if_neg (fun z => h.1 z.symm), strIx_none h.2]; rfl
theorem strIx_nth : ∀ {xs : List Str} {j : Nat} {y : Str}, xs.Nodup → xs[j]? = some y → strIx xs y = some j
  | [], j, y, _, h => by simp at h
  | x :: xs, 0, y, _, h => by
    simp at h; subst h
    unfold strIx; rw [if_pos rfl]
  | x :: xs, j + 1, y, hn, h => by
    have h1 : xs[j]? = some y := by simpa using h
    have hy : y ∈ xs := List.mem_of_getElem? h1
    unfold strIx
    rw [if_neg (fun z => (List.nodup_cons.mp hn).1 (by rw [z]; exact hy)), strIx_nth (List.nodup_cons.mp hn).2 h1]; rfl
theorem rowF_out {goods : List Str} {rs : List Rat} {x : Str} (h : x ∉ goods) : rowF goods rs x = 0 := by
  unfold rowF; rw [strIx_none h]
theorem rowF_nth {goods : List Str} {rs : List Rat} {j : Nat} {x : Str} (hn : goods.Nodup) (h : goods[j]? = some x) : rowF goods rs x = rs.getD j 0 := by
  unfold rowF; rw [strIx_nth hn h]
theorem rowF_map {goods : List Str} {rs : List Rat} (hn : goods.Nodup) (hl : goods.length = rs.length) : goods.map (rowF goods rs) = rs := by
  refine List.ext_getElem? fun j => ?_
  rw [List.getElem?_map]
  cases e : goods[j]? with
  | none =>
    have : goods.length ≤ j := List.getElem?_eq_none_iff.mp e
    rw [List.getElem?_eq_none (by omega)]; rfl
  | some x =>
    have hj := (List.getElem?_eq_some_iff.mp e).1
    rw [Option.map_some, rowF_nth hn e]
    rw [List.getElem?_eq_getElem (by omega), List.getD_eq_getElem?_getD, List.getElem?_eq_getElem (by omega)]; rfl
theorem rowF_P {goods : List Str} {rs : List Rat} (P : Rat → Prop) (h0 : P 0) (h : ∀ r ∈ rs, P r) (x : Str) : P (rowF goods rs x) := by
  unfold rowF
  split
  · rename_i j _
    rw [List.getD_eq_getElem?_getD]
    cases e : rs[j]? with
    | none => exact h0
    | some r => exact h r (List.mem_of_getElem? e)
  · exact h0
theorem map_set {goods : List Str} {F : Str → Rat} {p : Nat} {g : Str} {v : Rat} (hn : goods.Nodup) (hp : goods[p]? = some g) : (goods.map fun x => ratT (F x)).set p (ratT v) = goods.map fun x => ratT (updF F g v x) := by
  refine List.ext_getElem? fun j => ?_
  rw [List.getElem?_set, List.getElem?_map, List.getElem?_map]
  have hpl := (List.getElem?_eq_some_iff.mp hp).1
  by_cases e : p = j
  · subst e
    rw [if_pos rfl, if_pos (by simpa using hpl), hp]
    simp [updF]
  · rw [if_neg e]
    cases q : goods[j]? with
    | none => rfl
    | some x =>
      have hx : x ≠ g := fun z => by
        subst z
        exact e (by
          have h1 := strIx_nth hn hp
          have h2 := strIx_nth hn q
          rw [h1] at h2; exact Option.some.inj h2)
      simp [updF, hx]
theorem find_two {l : List Str} {i j : Nat} {x y : Str} (hn : l.Nodup) (hi : l[i]? = some x) (hj : l[j]? = some y) (p : Str → Bool) (hp : ∀ z, p z = true ↔ z = x ∨ z = y) : l.find? p = l[min i j]? := by
  induction l generalizing i j with
  | nil => simp at hi
  | cons a l ih =>
    rw [List.find?_cons]
    cases h : p a with
    | true =>
      have h0 : i = 0 ∨ j = 0 := by
        rcases (hp a).mp h with rfl | rfl
        · cases i with
          | zero => exact .inl rfl
          | succ i => exact absurd (List.mem_of_getElem? (by simpa using hi : l[i]? = some a)) (List.nodup_cons.mp hn).1
        · cases j with
          | zero => exact .inr rfl
          | succ j => exact absurd (List.mem_of_getElem? (by simpa using hj : l[j]? = some a)) (List.nodup_cons.mp hn).1
      have : min i j = 0 := by omega
      rw [this]; rfl
    | false =>
      have hx : a ≠ x := fun z => by rw [(hp a).mpr (.inl z)] at h; cases h
      have hy : a ≠ y := fun z => by rw [(hp a).mpr (.inr z)] at h; cases h
      cases i with
      | zero => simp at hi; exact absurd hi hx
      | succ i =>
        cases j with
        | zero => simp at hj; exact absurd hj hy
        | succ j =>
          have := ih (i := i) (j := j) (List.nodup_cons.mp hn).2 (by simpa using hi) (by simpa using hj)
          rw [this, show min (i + 1) (j + 1) = min i j + 1 by omega]
          rfl
/-- a sorted list with one name more -/
theorem wider_split {goods wider : List Str} {s : Str} {j : Nat} (h1 : sortedS goods = true) (h2 : sortedS wider = true) (hp : wider.Perm (s :: goods)) (hn : wider.Nodup) (hj : wider[j]? = some s) : wider = goods.take j ++ s :: goods.drop j := by
  have hjl := (List.getElem?_eq_some_iff.mp hj).1
  have hsplit : wider = wider.take j ++ s :: wider.drop (j + 1) := by
    have e : wider[j] = s := (List.getElem?_eq_some_iff.mp hj).2
    have h3 : wider.drop j = s :: wider.drop (j + 1) := by rw [List.drop_eq_getElem_cons hjl, e]
    rw [← h3, List.take_append_drop]
  have hpe : (wider.take j ++ wider.drop (j + 1)).Perm goods := by
    have h4 : (s :: (wider.take j ++ wider.drop (j + 1))).Perm (s :: goods) := by
      refine (List.perm_middle (l₁ := wider.take j) (a := s) (l₂ := wider.drop (j + 1))).symm.trans ?_
      rw [← hsplit]; exact hp
    exact (List.perm_cons s).mp h4
  have hso : sortedS (wider.take j ++ wider.drop (j + 1)) = true := sorted_of ((sorted_pw h2).sublist (by
    conv => rhs; rw [hsplit]
    exact List.Sublist.append_left (List.sublist_cons_self _ _) _))
  have e := sorted_eq hso h1 hpe
  have hl : (wider.take j).length = j := by rw [List.length_take]; omega
  have e1 : goods.take j = wider.take j := by rw [← e, List.take_append_of_le_length (by omega), List.take_of_length_le (by omega)]
  have e2 : goods.drop j = wider.drop (j + 1) := by
    rw [← e, List.drop_append_of_le_length (by omega), List.drop_of_length_le (by omega)]; rfl
  rw [e1, e2]; exact hsplit

/-! ### the law -/
def S_law : SpA := fun ds eta Q _ => ∃ ns : List Int, ds = [.fl (ns.map .int)] ∧ eta = [] ∧ ns.length ≤ 63 ∧ ∀ e, Q (.bl true) e
theorem k_law {W : Wd} : Keeps 1 25 S_law (r_law W S_l_tape S_l_take S_l_names S_l_need S_l_dict S_Bundle_init S_l_read S_Bundle_getitem S_l_pair S_Bundle_contains S_l_number S_Bundle_setitem S_l_set_refused S_l_made_refused S_Bundle_single S_l_single_refused) := by
  rintro ds eta Qa EXa ⟨ns, rfl, rfl, hl, k⟩
  refine ⟨rfl, ?_⟩
  unfold r_law
  walk_at "rd"
  refine i_fnN m_l_tape rfl ⟨ns, rfl, rfl, hl, fun T ok => ⟨rfl, _, rfl, rfl, ?_⟩⟩
  walk_at "rd"
  refine i_fn1 m_l_take rfl rfl rfl ⟨T, 0, 6, rfl, rfl, ok, by decide, by decide, by decide, fun m0 T1 ok1 m00 m01 => ⟨_, rfl, rfl, rfl, ?_⟩⟩
  walk_at "rd"
  obtain ⟨m, hm, m1, m6⟩ : ∃ m : Int, 1 + m0 = m ∧ 1 ≤ m ∧ m ≤ 6 := ⟨_, rfl, by omega, by omega⟩
  rw [hm]
  refine i_fn1 m_l_names rfl rfl rfl ⟨T1, 1, m + 1, rfl, rfl, ok1, by decide, by omega, by omega, fun order T2 ok2 hon hol hok => ⟨_, rfl, rfl, rfl, ?_⟩⟩
  have ok2 := ok2.le (m := 100) (by omega)
  walk_at "rd"
  obtain ⟨M, rfl⟩ : ∃ M : Nat, m = (M : Int) := ⟨m.toNat, by omega⟩
  have hoL : order.length = M + 1 := by omega
  obtain ⟨s, hs⟩ : ∃ s, order[M]? = some s := ⟨_, List.getElem?_eq_getElem (by omega)⟩
  refine i_ixF (at_nat (p := M) (x := .str s) (by rw [List.getElem?_map, hs]; rfl)) ?_
  walk_at "rd"
  rw [cut_lo (by omega) (by rw [List.length_map]; omega), show ((M : Nat) : Int).toNat = M by omega, ← List.map_take]
  walk_at "rd"
  obtain ⟨known, hk⟩ : ∃ known, order.take M = known := ⟨_, rfl⟩
  rw [hk]
  have hsplit : order = known ++ [s] := by
    have h1 : order.take (M + 1) = order := List.take_of_length_le (by omega)
    rw [← h1, List.take_succ, hs, hk]; rfl
  have hkl : known.length = M := by rw [← hk, List.length_take]; omega
  have hkn : known.Nodup := by rw [hsplit] at hon; exact (List.nodup_append.mp hon).1
  have hsk : s ∉ known := fun z => by rw [hsplit] at hon; exact (List.nodup_append.mp hon).2.2 s z s (by simp) rfl
  have hkok : ∀ x ∈ known, PyData.strOk x = true := fun x hx => hok x (by rw [hsplit]; exact List.mem_append_left _ hx)
  have hsok : PyData.strOk s = true := hok s (by rw [hsplit]; simp)
  refine ⟨by rw [List.length_map]; omega, lc_str (by simp [wipA]) ?_⟩
  walk_at "rd"
  refine i_sort (strsD_map known) (by omega) fun goods hgp hgso => ?_
  have hgn : goods.Nodup := (List.Perm.nodup_iff hgp).mpr hkn
  have hgl : goods.length = M := by rw [← hkl]; exact hgp.length_eq
  have hgok : ∀ x ∈ goods, PyData.strOk x = true := fun x hx => hkok x (hgp.subset hx)
  have hsg : s ∉ goods := fun z => hsk (hgp.subset z)
  walk_at "rd"
  refine ⟨by rw [List.length_map]; omega, lc_str (by simp [wipA]) ?_⟩
  walk_at "rd"
  refine i_sort (strsD_map order) (by omega) fun wider hwp hwso => ?_
  have hwn : wider.Nodup := (List.Perm.nodup_iff hwp).mpr hon
  have hwp2 : wider.Perm (s :: goods) := by
    refine hwp.trans ?_
    rw [hsplit]
    exact (List.perm_append_singleton s known).trans (hgp.symm.cons s)
  have hwok : ∀ x ∈ wider, PyData.strOk x = true := fun x hx => hok x (hwp.subset hx)
  walk_at "rd"
  refine i_rngQ (by omega) ?_
  rw [show ((M : Nat) : Int).toNat = M by omega]
  refine ⟨by rw [rngL_len]; omega, ?_⟩
  refine lcg_i (fun rest acc e => ∃ (j : Nat) (T : Tape) (rs : List Rat), j ≤ M ∧ rest = rngL j (M - j) ∧ T.ok (100 + 5 * j) ∧ rs.length = j ∧ (∀ r ∈ rs, 0 ≤ r ∧ RB 50 r) ∧ acc = rs.map ratT ∧ e = [.lst T.ds]) ⟨0, T2, [], Nat.zero_le _, rfl, ok2.le (by omega), rfl, by simp, rfl, rfl⟩ ?_ ?_
  · rintro d rest acc e ⟨j, T, rs, hj, er, okT, hrl, hr, rfl, rfl⟩ K hK
    have hlt : j < M := by
      refine Nat.lt_of_not_le fun q => ?_
      rw [show M - j = 0 by omega] at er
      cases er
    rw [show M - j = (M - (j + 1)) + 1 by omega] at er
    obtain ⟨rfl, rfl⟩ : d = .int j ∧ rest = rngL (j + 1) (M - (j + 1)) := by cases er; exact ⟨rfl, rfl⟩
    walk_at "rd"
    refine i_fn1 m_l_need rfl rfl rfl ⟨T, 100 + 5 * j, rfl, rfl, okT, by omega, fun q T' ok' q0 hq => ⟨_, rfl, rfl, rfl, ?_⟩⟩
    refine ⟨rfl, hK _ _ ⟨j + 1, T', rs ++ [q], hlt, rfl, ok'.le (by omega), by simp [hrl], fun r hr' => ?_, by simp, rfl⟩⟩
    rcases List.mem_append.mp hr' with h | h
    · exact hr r h
    · simp at h; subst h; exact ⟨q0, hq⟩
  rintro acc e ⟨j, T3, rs, hj, er, ok3, hrl, hr, rfl, rfl⟩
  have hjM : j = M := by
    refine Nat.le_antisymm hj (Nat.le_of_not_lt fun q => ?_)
    rw [show M - j = (M - (j + 1)) + 1 by omega] at er
    cases er
  subst hjM
  have ok3 := ok3.le (m := 200) (by omega)
  obtain ⟨F0, hF0⟩ : ∃ F0, rowF goods rs = F0 := ⟨_, rfl⟩
  have hrow : rs.map ratT = goods.map fun x => ratT (F0 x) := by
    have h1 := rowF_map (rs := rs) hgn (by omega)
    rw [hF0] at h1
    rw [← h1, List.map_map]; rfl
  rw [hrow]
  have F0nn : ∀ x, 0 ≤ F0 x := fun x => by rw [← hF0]; exact rowF_P (0 ≤ ·) Rat.le_refl (fun r h => (hr r h).1) x
  have F0rb : ∀ x, RB 50 (F0 x) := fun x => by rw [← hF0]; exact rowF_P (RB 50 ·) ⟨by decide, by decide⟩ (fun r h => (hr r h).2) x
  have F0out : ∀ x, x ∉ goods → F0 x = 0 := fun x h => by rw [← hF0]; exact rowF_out h
  have F0r3 : ∀ x, RB 3000 (F0 x) := fun x => (F0rb x).mono (by decide)
  have G0 : GD goods F0 := ⟨hgso, hgn, hgok, fun x hx => by
    by_cases h : x ∈ goods
    · exact h
    · rw [F0out x h] at hx; exact absurd hx (by decide), by omega⟩
  walk_at "rd"
  refine i_fn1 m_l_take rfl rfl rfl ⟨T3, 200, 2, rfl, rfl, ok3, by decide, by decide, by decide, fun kp T4 ok4 _ _ => ⟨_, rfl, rfl, rfl, ?_⟩⟩
  walk_at "rd"
  refine i_fnG rfl rfl rfl rfl ⟨T4, 200 + 1, known, goods, F0, decide (kp = 1), rfl, rfl, ok4, by decide, hkn, by omega, fun x hx => ⟨hgp.symm.subset hx, F0rb x⟩, fun ns0 vs0 T5 ok5 hD0 hm0 => ?_⟩
  have ok5 := ok5.le (m := 300) (by omega)
  have hns0 : ∀ x ∈ ns0, x ∈ known := fun x hx => ((hm0 x).mp hx).1
  have h0out : ∀ x, x ∉ ns0 → F0 x = 0 := fun x hx => by
    by_cases h1 : x ∈ goods
    · have h2 : ¬ 0 < F0 x := fun z => hx ((hm0 x).mpr ⟨hgp.subset h1, .inr z⟩)
      exact Rat.le_antisymm (Rat.not_lt.mp h2) (F0nn x)
    · exact F0out x h1
  have hlen0 : ns0.length ≤ known.length := by
    have h1 : ns0.Perm (known.filter fun x => decide (x ∈ ns0)) := (List.perm_ext_iff_of_nodup hD0.nd (hkn.filter _)).mpr fun x => by
      rw [List.mem_filter]; simp only [decide_eq_true_eq]
      exact ⟨fun h => ⟨hns0 x h, h⟩, fun h => h.2⟩
    rw [h1.length_eq]; exact List.length_filter_le _ _
  walk_at "rd"
  refine i_fnG rfl rfl rfl rfl (i_optS rfl (init_ok (dom := ns0) (.inl ⟨vs0, rfl, rfl, hD0⟩) F0r3 h0out hD0.nd (by omega) (fun x hx => hkok x (hns0 x hx)) F0nn fun b0 hB0 => ?_))
  walk_at "rd"
  refine i_fnG rfl rfl rfl rfl (i_optS rfl (init_ok (dom := b0) (.inr (.inl ⟨.inr ⟨rfl, rfl⟩, hB0⟩)) F0r3 (fun x hx => hB0.zero hx) hB0.nd hB0.len hB0.ok F0nn fun b1 hB1 => ?_))
  walk_at "rd"
  obtain ⟨ns1, vs1, p1, hD1, hn1⟩ := hD0.put (x := s) (e := .int 5) (v := 5) (.inr ⟨5, rfl, rfl⟩)
  refine i_ssD (k := Sum.inr s) rfl rfl rfl rfl (by rw [List.length_map]; omega) ?_
  rw [p1]
  walk_at "rd"
  obtain ⟨g0, hg0⟩ : ∃ g0, goods[0]? = some g0 := ⟨_, List.getElem?_eq_getElem (by omega)⟩
  refine i_ixF (at_nat (p := 0) (x := .str g0) (by rw [List.getElem?_map, hg0]; rfl)) ?_
  walk_at "rd"
  obtain ⟨ns2, vs2, p2, hD2, hn2⟩ := hD1.put (x := g0) (e := .int 777) (v := 777) (.inr ⟨777, rfl, rfl⟩)
  refine i_ssD (k := Sum.inr g0) rfl rfl rfl rfl (by
    rw [List.length_map]
    have := hD1.len
    rw [hn1]; split <;> simp <;> omega) ?_
  rw [p2]
  walk_at "rd"
  refine read_ref rfl hB0 G0 ?_
  walk_at "rd"
  refine i_neR (by exact pls_rats) ?_
  walk_at "rd"
  refine read_obj hB1 G0 ?_
  walk_at "rd"
  refine i_neR (by exact pls_rats) ?_
  walk_at "rd"
  refine get_ref rfl hB0 ?_
  walk_at "rd"
  refine i_fn0 m_l_pair rfl ⟨F0 s, rfl, rfl, rfl, rfl, ?_⟩
  walk_at "rd"
  refine i_neE (by rw [F0out s hsg]; rfl) rfl ?_
  walk_at "rd"
  refine ⟨by rw [List.length_map]; omega, ?_⟩
  refine lcs_fm (fun x => decide (0 < F0 x)) (fun x hx R Z hR hZ => ?_) ?_
  · walk_at "rd"
    refine has_ref rfl hB0 ?_
    walk_at "rd"
    refine i_iteD (fun h => ?_) (fun h => ?_)
    · walk_at "rd"
      exact hR (by simpa using h)
    · exact hZ (by simpa using h)
  walk_at "rd"
  refine ⟨by rw [List.length_map]; omega, ?_⟩
  refine lcs_fm (fun x => decide (0 < F0 x)) (fun x hx R Z hR hZ => ?_) ?_
  · walk_at "rd"
    by_cases hxg : x ∈ goods
    · rw [show goods.contains x = true by simpa using hxg]
      walk_at "rd"
      obtain ⟨q, hq1, hq2, hq3⟩ := strIx_mem hxg
      refine i_index (strsD_map goods) hq1 ?_
      walk_at "rd"
      refine i_ixF (at_nat (p := q) (x := ratT (F0 x)) (by rw [List.getElem?_map, hq2]; rfl)) ?_
      walk_at "rd"
      rw [show decide ((0 : Int) < (F0 x).num) = decide (0 < F0 x) from num_gt]
      refine i_iteD (fun h => ?_) (fun h => ?_)
      · walk_at "rd"
        exact hR (by simpa using h)
      · exact hZ (by simpa using h)
    · rw [show goods.contains x = false by simpa using hxg]
      walk_at "rd"
      refine hZ ?_
      rw [F0out x hxg]; rfl
  refine i_neR (by exact pls_strs fun x hx => hok x (List.mem_filter.mp hx).1) ?_
  walk_at "rd"
  refine i_fn1 m_l_take rfl rfl rfl ⟨T5, 300, j, rfl, rfl, ok5, by decide, by omega, by omega, fun p T6 ok6 p0 p1 => ⟨_, rfl, rfl, rfl, ?_⟩⟩
  walk_at "rd"
  refine i_fn1 m_l_need rfl rfl rfl ⟨T6, 300 + 1, rfl, rfl, ok6, by decide, fun v T7 ok7 v0 hv => ⟨_, rfl, rfl, rfl, ?_⟩⟩
  walk_at "rd"
  have hv3 : RB 3000 v := hv.mono (by decide)
  refine i_fn1 m_l_number rfl rfl rfl ⟨T7, 300 + 1 + 5, v, rfl, rfl, ok7, by decide, hv, fun e1 T8 ok8 he1 => ⟨_, rfl, rfl, he1.im0, ?_⟩⟩
  have ok8 := ok8.le (m := 400) (by decide)
  walk_at "rd"
  obtain ⟨P, rfl⟩ : ∃ P : Nat, p = (P : Int) := ⟨p.toNat, by omega⟩
  have hP : P < goods.length := by omega
  obtain ⟨g, hg⟩ : ∃ g, goods[P]? = some g := ⟨_, List.getElem?_eq_getElem hP⟩
  have hgm : g ∈ goods := List.mem_of_getElem? hg
  have hgo1 := hgok g hgm
  have hb0l := G0.bun hB0
  refine i_ixF (at_nat (p := P) (x := .str g) (by rw [List.getElem?_map, hg]; rfl)) ?_
  walk_at "rd"
  refine set_ref rfl hB0 (by omega) he1 hv3 hgo1 v0 fun b2 hB2 => ?_
  obtain ⟨F1, hF1⟩ : ∃ F1, updF F0 g v = F1 := ⟨_, rfl⟩
  rw [hF1] at hB2 ⊢
  have G1 : GD goods F1 := by rw [← hF1]; exact G0.up hgm
  walk_at "rd"
  refine' i_setL (j := P) ?hs1 ?hs2 ?hs3 ?_
  case hs1 => rfl
  case hs2 => rfl
  case hs3 =>
    rw [List.length_map]
    unfold ixN
    rw [if_pos (by omega), if_pos (by omega)]
    simp
  rw [map_set hgn hg, hF1]
  walk_at "rd"
  refine read_ref rfl hB2 G1 ?_
  walk_at "rd"
  refine i_neRef rfl pls_rats ?_
  walk_at "rd"
  refine read_obj hB1 G0 ?_
  walk_at "rd"
  refine i_neR (by exact pls_rats) ?_
  walk_at "rd"
  refine i_ixF (at_nat (p := P) (x := .str g) (by rw [List.getElem?_map, hg]; rfl)) ?_
  walk_at "rd"
  refine i_fn1 m_l_take rfl rfl rfl ⟨T8, 400, 9, rfl, rfl, ok8, by decide, by decide, by decide, fun q1 T9 ok9 q10 q11 => ⟨_, rfl, rfl, rfl, ?_⟩⟩
  walk_at "rd"
  have hb2l := G1.bun hB2
  refine refused_ref rfl hB2 (by omega) (.inr ⟨_, rfl, rfl⟩) (int_rb (by omega)) hgo1 (int_neg (by omega)) ?_
  walk_at "rd"
  refine i_fn1 m_l_take rfl rfl rfl ⟨T9, 400 + 1, 9, rfl, rfl, ok9, by decide, by decide, by decide, fun q2 T10 ok10 q20 q21 => ⟨_, rfl, rfl, rfl, ?_⟩⟩
  walk_at "rd"
  refine i_rat (by omega) (divOk_of (by omega)) ?_
  walk_at "rd"
  refine refused_ref rfl hB2 (by omega) (.inl rfl) (divInt_rb (by omega) (by decide) (by omega)) hsok (divInt_neg1 (by decide) (by omega)) ?_
  walk_at "rd"
  refine i_rat (by decide) (divOk_of (by decide)) ?_
  walk_at "rd"
  refine set_ref rfl hB2 (by omega) (.inl rfl) (divInt_rb (by decide) (by decide) (by decide)) hsok (Rat.le_of_lt (divInt_pos' (by decide) (by decide))) fun b3 hB3 => ?_
  obtain ⟨F2, hF2⟩ : ∃ F2, updF F1 s (Rat.divInt 1 2) = F2 := ⟨_, rfl⟩
  rw [hF2] at hB3 ⊢
  have hsw : s ∈ wider := hwp2.symm.subset (by simp)
  have hgw : ∀ x ∈ goods, x ∈ wider := fun x hx => hwp2.symm.subset (by simp [hx])
  have G2 : GD wider F2 := ⟨hwso, hwn, hwok, fun x hx => by
    rw [← hF2] at hx
    unfold updF at hx
    split at hx
    · rename_i e; rw [e]; exact hsw
    · exact hgw x (G1.mem x hx), by have := hwp.length_eq; omega⟩
  obtain ⟨at', ha1, ha2, ha3⟩ := strIx_mem hsw
  walk_at "rd"
  refine i_index (strsD_map wider) ha1 ?_
  walk_at "rd"
  refine read_ref rfl hB3 G2 ?_
  walk_at "rd"
  rw [cut_lo (by omega) (by rw [List.length_map]; have := hwp2.length_eq; simp at this; omega)]
  walk_at "rd"
  have hlg : goods.length + 1 = wider.length := by have := hwp2.length_eq; simp at this; omega
  refine i_addCL ?_ ?_
  · rw [List.length_take, List.length_map]
    exact Nat.ble_eq_true_of_le (by simp; omega)
  walk_at "rd"
  rw [cut_hi (by omega) (by rw [List.length_map]; omega), show ((at' : Nat) : Int).toNat = at' by omega]
  refine i_addCL ?_ ?_
  · rw [List.length_append, List.length_take, List.length_drop, List.length_map]
    exact Nat.ble_eq_true_of_le (by simp; omega)
  have hF12 : ∀ x ∈ goods, F2 x = F1 x := fun x hx => by rw [← hF2]; unfold updF; rw [if_neg (fun z => hsg (by rw [← z]; exact hx))]
  have hwide : (wider.map fun x => ratT (F2 x)) = ((goods.map fun x => ratT (F1 x)).take at' ++ [D.tup [.int 1, .int 2]]) ++ (goods.map fun x => ratT (F1 x)).drop at' := by
    have e1 := wider_split hgso hwso hwp2 hwn ha2
    have e2 : ∀ l : List Str, (∀ x ∈ l, x ∈ goods) → (l.map fun x => ratT (F2 x)) = l.map fun x => ratT (F1 x) := fun l hl => List.map_congr_left fun x hx => by rw [hF12 x (hl x hx)]
    have e3 : ratT (F2 s) = D.tup [.int 1, .int 2] := by rw [← hF2]; unfold updF; rw [if_pos rfl]; rfl
    conv => lhs; rw [e1]
    rw [List.map_append, List.map_cons, e3, e2 _ (fun x hx => List.mem_of_mem_take hx), e2 _ (fun x hx => List.mem_of_mem_drop hx), List.map_take, List.map_drop, List.append_assoc]
    rfl
  refine i_neE (congrArg D.fl hwide) ?_ ?_
  · rw [← hwide]; exact pls_rats
  walk_at "rd"
  have hb3l := G2.bun hB3
  refine set_ref rfl hB3 (by omega) (.inr ⟨0, rfl, rfl⟩) (int_rb (by decide)) hsok Rat.le_refl fun b4 hB4 => ?_
  have hF3 : updF F2 s ((0 : Int) : Rat) = F1 := by
    funext x
    unfold updF
    split
    · rename_i e
      subst e
      have h1 : ¬ 0 < F1 x := fun z => hsg (G1.mem x z)
      have h2 := hB2.nn x
      exact (Rat.le_antisymm (Rat.not_lt.mp h1) h2).symm
    · rename_i e
      rw [← hF2]; unfold updF; rw [if_neg e]
  rw [hF3] at hB4 ⊢
  walk_at "rd"
  refine read_ref rfl hB4 G1 ?_
  walk_at "rd"
  refine i_neRef rfl pls_rats ?_
  walk_at "rd"
  refine has_ref rfl hB4 ?_
  have hs0 : ¬ 0 < F1 s := fun z => hsg (G1.mem s z)
  rw [decide_eq_false hs0]
  walk_at "rd"
  have F1r3 : ∀ x, RB 3000 (F1 x) := hB4.rb
  refine i_fnG rfl rfl rfl rfl (i_optS rfl (init_ok (dom := b4) (.inr (.inl ⟨.inr ⟨rfl, rfl⟩, hB4⟩)) F1r3 (fun x hx => hB4.zero hx) hB4.nd hB4.len hB4.ok hB4.nn fun b5 hB5 => ?_))
  walk_at "rd"
  refine read_obj hB5 G1 ?_
  walk_at "rd"
  refine i_neRef rfl pls_rats ?_
  walk_at "rd"
  refine i_fn1 m_l_take rfl rfl rfl ⟨T10, 400 + 1 + 1, j, rfl, rfl, ok10, by decide, by omega, by omega, fun o T11 ok11 o0 o1 => ⟨_, rfl, rfl, rfl, ?_⟩⟩
  have ok11 := ok11.le (m := 500) (by decide)
  walk_at "rd"
  refine i_fnG rfl rfl rfl rfl ⟨T11, 500, known, goods, F0, true, rfl, rfl, ok11, by decide, hkn, by omega, fun x hx => ⟨hgp.symm.subset hx, F0rb x⟩, fun nsw vsw T12 ok12 hDw hmw => ?_⟩
  have ok12 := ok12.le (m := 600) (by decide)
  have hmw2 : ∀ x, x ∈ nsw ↔ x ∈ goods := fun x => by
    rw [hmw]
    exact ⟨fun h => hgp.symm.subset h.1, fun h => ⟨hgp.subset h, .inl rfl⟩⟩
  walk_at "rd"
  refine i_ixF (at_nat (p := P) (x := .str g) (by rw [List.getElem?_map, hg]; rfl)) ?_
  walk_at "rd"
  obtain ⟨nw1, vw1, w1, hDw1, hn1w⟩ := hDw.put (x := g) (e := .int (-1)) (v := ((-1 : Int) : Rat)) (.inr ⟨-1, rfl, rfl⟩)
  rw [if_pos ((hmw2 g).mpr hgm)] at hn1w
  subst hn1w
  have hnwl : nw1.length = goods.length := ((List.perm_ext_iff_of_nodup hDw1.nd hgn).mpr hmw2).length_eq
  refine i_ssD (k := Sum.inr g) rfl rfl rfl rfl (by rw [List.length_map]; omega) ?_
  rw [w1]
  walk_at "rd"
  refine i_rat (by decide) (divOk_of (by decide)) ?_
  walk_at "rd"
  obtain ⟨O, rfl⟩ : ∃ O : Nat, o = (O : Int) := ⟨o.toNat, by omega⟩
  have hO : O < goods.length := by omega
  obtain ⟨h, hh⟩ : ∃ h, goods[O]? = some h := ⟨_, List.getElem?_eq_getElem hO⟩
  have hhm : h ∈ goods := List.mem_of_getElem? hh
  refine i_ixF (at_nat (p := O) (x := .str h) (by rw [List.getElem?_map, hh]; rfl)) ?_
  walk_at "rd"
  obtain ⟨nw2, vw2, w2, hDw2, hn2w⟩ := hDw1.put (x := h) (e := .rat (Rat.divInt (-1) 3)) (v := Rat.divInt (-1) 3) (.inl rfl)
  rw [if_pos ((hmw2 h).mpr hhm)] at hn2w
  subst hn2w
  refine i_ssD (k := Sum.inr h) rfl rfl rfl rfl (by rw [List.length_map]; omega) ?_
  rw [w2]
  walk_at "rd"
  have hmin : (if (O : Int) < (P : Int) then (O : Int) else (P : Int)) = ((min P O : Nat) : Int) := by split <;> omega
  rw [hmin]
  obtain ⟨gx, hgx⟩ : ∃ gx, goods[min P O]? = some gx := ⟨_, List.getElem?_eq_getElem (by omega)⟩
  refine i_ixF (at_nat (p := min P O) (x := .str gx) (by rw [List.getElem?_map, hgx]; rfl)) ?_
  walk_at "rd"
  have hneg : ∀ x, updF (updF F0 g ((-1 : Int) : Rat)) h (Rat.divInt (-1) 3) x < 0 ↔ x = g ∨ x = h := fun x => by
    unfold updF
    by_cases h1 : x = h
    · rw [if_pos h1]; exact ⟨fun _ => .inr h1, fun _ => divInt_neg1 (by decide) (by decide)⟩
    · rw [if_neg h1]
      by_cases h2 : x = g
      · rw [if_pos h2]; exact ⟨fun _ => .inl h2, fun _ => int_neg (by decide)⟩
      · rw [if_neg h2]
        exact ⟨fun z => absurd z (Rat.not_lt.mpr (F0nn x)), fun z => by rcases z with z | z; exact absurd z h2; exact absurd z h1⟩
  refine i_fn1 m_l_made_refused rfl rfl rfl ⟨gx, nw2, vw2, _, rfl, rfl, hDw2, fun x => ?_, fun x hx => ?_, by omega, fun x hx => hgok x ((hmw2 x).mp hx), hgok gx (List.mem_of_getElem? hgx), fun ys hp hso => ?_, ⟨_, rfl, rfl, rfl, ?_⟩⟩
  · unfold updF
    split
    · exact divInt_rb (by decide) (by decide) (by decide)
    · split
      · exact int_rb (by decide)
      · exact F0r3 x
  · have hxg : x ∉ goods := fun z => hx ((hmw2 x).mpr z)
    unfold updF
    rw [if_neg (fun z => hxg (by rw [z]; exact hhm)), if_neg (fun z => hxg (by rw [z]; exact hgm))]
    exact F0out x hxg
  · have e1 : ys = goods := sorted_mem hso hgso ((List.Perm.nodup_iff hp).mpr hDw2.nd) hgn fun x => by rw [hp.mem_iff]; exact hmw2 x
    rw [e1, find_two hgn hg hh _ (fun z => by rw [decide_eq_true_eq]; exact hneg z)]
    exact hgx
  walk_at "rd"
  refine i_rngQ (by omega) ?_
  rw [show ((j : Nat) : Int).toNat = j by omega]
  refine ⟨by rw [rngL_len]; omega, ?_⟩
  refine lcg_map (fun _ => ratT 0) (fun d _ => rfl) (fun d _ R Z hR => ?_) ?_
  · walk_at "rd"
    exact hR
  have hz : (rngL 0 j).map (fun _ => ratT 0) = goods.map fun x => ratT (zF x) := map_const_eq _ _ _ (by rw [rngL_len]; omega)
  rw [List.nil_append, hz]
  have Gz : GD goods zF := G0.mono fun x hx => absurd (show (0 : Rat) < 0 from hx) (by decide)
  have zr3 : ∀ x, RB 3000 (zF x) := fun _ => RB.zero3
  walk_at "rd"
  refine i_fnG rfl rfl rfl rfl (i_optD rfl (init_ok (src := .et) (dom := []) (F := zF) (.inr (.inr (.inl ⟨rfl, rfl, rfl⟩))) zr3 (fun _ _ => rfl) (by simp) (by simp) (by simp) (fun _ => Rat.le_refl) fun z1 hZ1 => ?_))
  walk_at "rd"
  refine read_obj hZ1 Gz ?_
  walk_at "rd"
  refine i_neR (by exact pls_rats) ?_
  walk_at "rd"
  refine i_fnG rfl rfl rfl rfl (i_optS rfl (init_ok (dom := []) (F := zF) (.inr (.inr (.inr ⟨[], rfl, rfl, DN.nil⟩))) zr3 (fun _ _ => rfl) (by simp) (by simp) (by simp) (fun _ => Rat.le_refl) fun z2 hZ2 => ?_))
  walk_at "rd"
  refine read_obj hZ2 Gz ?_
  walk_at "rd"
  refine i_neR (by exact pls_rats) ?_
  walk_at "rd"
  refine' i_setL (j := P) ?hs4 ?hs5 ?hs6 ?_
  case hs4 => rfl
  case hs5 => rfl
  case hs6 =>
    rw [List.length_map]
    unfold ixN
    rw [if_pos (by omega), if_pos (by omega)]
    simp
  rw [map_set hgn hg]
  walk_at "rd"
  rw [show D.tup [.int 1, .int 1] = ratT ((1 : Int) : Rat) from rfl]
  refine' i_setL (j := O) ?hs7 ?hs8 ?hs9 ?_
  case hs7 => rfl
  case hs8 => rfl
  case hs9 =>
    rw [List.length_map]
    unfold ixN
    rw [if_pos (by omega), if_pos (by omega)]
    simp
  rw [map_set hgn hh]
  walk_at "rd"
  refine i_ixF (at_nat (p := P) (x := .str g) (by rw [List.getElem?_map, hg]; rfl)) ?_
  walk_at "rd"
  refine i_fn1 m_l_number rfl rfl rfl ⟨T12, 600, v, rfl, rfl, ok12, by decide, hv, fun e2 T13 ok13 he2 => ⟨_, rfl, rfl, he2.im0, ?_⟩⟩
  walk_at "rd"
  refine single_ok he2 hv3 hgo1 v0 fun s1 hS1 => ?_
  walk_at "rd"
  refine read_obj hS1 (Gz.up hgm) ?_
  walk_at "rd"
  refine i_neRef rfl pls_rats ?_
  walk_at "rd"
  refine i_ixF (at_nat (p := O) (x := .str h) (by rw [List.getElem?_map, hh]; rfl)) ?_
  walk_at "rd"
  refine single_one (hgok h hhm) fun s2 hS2 => ?_
  walk_at "rd"
  refine read_obj hS2 (Gz.up hhm) ?_
  walk_at "rd"
  refine i_eqRef rfl pls_rats ?_
  walk_at "rd"
  refine i_fn0 m_l_single_refused rfl ⟨s, .int (-2), ((-2 : Int) : Rat), rfl, rfl, .inr ⟨-2, rfl, rfl⟩, int_rb (by decide), hsok, int_neg (by decide), rfl, rfl, ?_⟩
  exact ⟨rfl, k _⟩

end RF
set_option maxRecDepth 100000
set_option maxHeartbeats 0
namespace RF
open PySem PySem.Spec PyProof.Rows L2
theorem exB_at {K : PySem.W.Frag} (h : exB K = true) {b : Bool} (hb : b ∈ [ratB K ((WK K).cl 0),
  empB K,
  freeB K "str",
  freeB K "sorted",
  freeB K "range",
  mkB K ((WK K).cl 17),
  gloB K "Bundle" (.ref ((WK K).cl 17)),
  methB K ((WK K).cl 17) "__getitem__",
  insB K 17,
  ownSB K ((WK K).cl 17) "__getitem__",
  methB K ((WK K).cl 17) "__contains__",
  methB K ((WK K).cl 17) "__setitem__",
  ownSB K ((WK K).cl 17) "__setitem__",
  freeB K "list",
  gloB K "Ratio" (.ref ((WK K).cl 0)),
  PySem.W.keepIn K (.ref ((WK K).cl 0)),
  freeB K "int",
  freeB K "min",
  smetB K "Bundle" "single",
  freeB K "len",
  freeB K "abs",
  freeB K "sum",
  xinB K ((WK K).cl 2),
  gloB K "ZeroBottom" (.ref ((WK K).cl 2)),
  gloB K "gcd" (.builtin "math.gcd"),
  ownCB K ((WK K).cl 0) "__lt__",
  ownCB K ((WK K).cl 0) "__gt__",
  xifB K 9 8,
  methB K ((WK K).cl 8) "__init__",
  gloB K "InvalidAmount" (.ref ((WK K).cl 9)),
  methB K ((WK K).cl 17) "__iter__",
  freeB K "iter",
  isiB K ((WK K).cl 0) [.ref ((WK K).cl 0)] isRat,
  freeB K "isinstance",
  freeB K "super",
  isoB K [17] [] (.ref ((WK K).cl 17)),
  methB K ((WK K).cl 17) "__len__",
  isiB K ((WK K).cl 0) [.type "int"] isInt,
  isiB K ((WK K).cl 0) [.type "bool"] isBool,
  freeB K "bool",
  isexB K (WK K) [11] [1, 2, 3, 4, 6, 8, 9, 10, 12] (.ref ((WK K).cl 11)),
  gloB K "FlatMeasure" (.ref ((WK K).cl 11)),
  isexB K (WK K) [12] [1, 2, 3, 4, 6, 8, 9, 10, 11] (.ref ((WK K).cl 12)),
  gloB K "UnknownGood" (.ref ((WK K).cl 12)),
  isexB K (WK K) [10] [1, 2, 3, 4, 6, 8, 9, 12, 11] (.ref ((WK K).cl 10)),
  gloB K "Shortage" (.ref ((WK K).cl 10)),
  isexB K (WK K) [9] [1, 2, 3, 4, 6, 8, 10, 12, 11] (.ref ((WK K).cl 9)),
  isexB K (WK K) [1, 2, 3, 4, 6, 8, 9, 10, 12, 11] [] (.ref ((WK K).cl 1)),
  gloB K "FillError" (.ref ((WK K).cl 1)),
  xfsB K "good" [8, 9, 10, 12, 11],
  exmB K (WK K) [8, 9, 10, 12, 11] [1, 2, 3, 4, 6] (.ref ((WK K).cl 8)),
  gloB K "GoodError" (.ref ((WK K).cl 8)),
  exmB K (WK K) [9] [1, 2, 3, 4, 6, 8, 10, 12, 11] (.ref ((WK K).cl 9)),
  gloB K "_law_tape" (.ref (He.ga K "_law_tape")),
  gloB K "_law_take" (.ref (He.ga K "_law_take")),
  gloB K "_law_word" (.ref (He.ga K "_law_word")),
  gloB K "_law_names" (.ref (He.ga K "_law_names")),
  gloB K "_law_gcd" (.ref (He.ga K "_law_gcd")),
  gloB K "_law_low" (.ref (He.ga K "_law_low")),
  gloB K "_law_amount" (.ref (He.ga K "_law_amount")),
  gloB K "_law_need" (.ref (He.ga K "_law_need")),
  gloB K "_law_number" (.ref (He.ga K "_law_number")),
  gloB K "_law_dict" (.ref (He.ga K "_law_dict")),
  gloB K "ordered" (.ref (He.ga K "ordered")),
  gloB K "as_ratio" (.ref (He.ga K "as_ratio")),
  gloB K "_law_whole" (.ref (He.ga K "_law_whole")),
  gloB K "_law_pair" (.ref (He.ga K "_law_pair")),
  gloB K "_law_read" (.ref (He.ga K "_law_read")),
  gloB K "_law_set_refused" (.ref (He.ga K "_law_set_refused")),
  gloB K "_law_made_refused" (.ref (He.ga K "_law_made_refused")),
  gloB K "_law_single_refused" (.ref (He.ga K "_law_single_refused")),
  gloB K "law" (.ref (He.ga K "law")),
  supB PySem.Challenge.rw_risingfill_k05_bundle_amounts.prog.main.file K (adrOf (PySem.W.findIn K (.ref ((WK K).cl 8)) "__init__")) ((WK K).cl 8) "GoodError.__init__",
  stB K (smA "Bundle" "single" K) "Bundle.single" [.int 1]]) : b = true := List.all_eq_true.mp h b hb
theorem txt_of {K : PySem.W.Frag} {h : Heap} {mg : Str → Option Value} (X : K.In h) (G : h.Ns mainGlobals mg) (e : exB K = true) : Txt K mg (WK K) where
  rc := ratB_ok (exB_at e (List.mem_cons_self))
  emp := empB_ok (exB_at e (List.mem_cons_of_mem _ (List.mem_cons_self)))
  no_str := freeB_ok X G (exB_at e (List.mem_cons_of_mem _ (List.mem_cons_of_mem _ (List.mem_cons_self))))
  no_sorted := freeB_ok X G (exB_at e (List.mem_cons_of_mem _ (List.mem_cons_of_mem _ (List.mem_cons_of_mem _ (List.mem_cons_self)))))
  no_range := freeB_ok X G (exB_at e (List.mem_cons_of_mem _ (List.mem_cons_of_mem _ (List.mem_cons_of_mem _ (List.mem_cons_of_mem _ (List.mem_cons_self))))))
  mk_17 := mkB_ok (exB_at e (List.mem_cons_of_mem _ (List.mem_cons_of_mem _ (List.mem_cons_of_mem _ (List.mem_cons_of_mem _ (List.mem_cons_of_mem _ (List.mem_cons_self)))))))
  mg_Bundle := gloB_ok X G (exB_at e (List.mem_cons_of_mem _ (List.mem_cons_of_mem _ (List.mem_cons_of_mem _ (List.mem_cons_of_mem _ (List.mem_cons_of_mem _ (List.mem_cons_of_mem _ (List.mem_cons_self))))))))
  mth_17_getitem := methB_ok (exB_at e (List.mem_cons_of_mem _ (List.mem_cons_of_mem _ (List.mem_cons_of_mem _ (List.mem_cons_of_mem _ (List.mem_cons_of_mem _ (List.mem_cons_of_mem _ (List.mem_cons_of_mem _ (List.mem_cons_self)))))))))
  ic_17 := insB_ok (exB_at e (List.mem_cons_of_mem _ (List.mem_cons_of_mem _ (List.mem_cons_of_mem _ (List.mem_cons_of_mem _ (List.mem_cons_of_mem _ (List.mem_cons_of_mem _ (List.mem_cons_of_mem _ (List.mem_cons_of_mem _ (List.mem_cons_self))))))))))
  os_17_getitem := ownSB_ok (exB_at e (List.mem_cons_of_mem _ (List.mem_cons_of_mem _ (List.mem_cons_of_mem _ (List.mem_cons_of_mem _ (List.mem_cons_of_mem _ (List.mem_cons_of_mem _ (List.mem_cons_of_mem _ (List.mem_cons_of_mem _ (List.mem_cons_of_mem _ (List.mem_cons_self)))))))))))
  mth_17_contains := methB_ok (exB_at e (List.mem_cons_of_mem _ (List.mem_cons_of_mem _ (List.mem_cons_of_mem _ (List.mem_cons_of_mem _ (List.mem_cons_of_mem _ (List.mem_cons_of_mem _ (List.mem_cons_of_mem _ (List.mem_cons_of_mem _ (List.mem_cons_of_mem _ (List.mem_cons_of_mem _ (List.mem_cons_self))))))))))))
  mth_17_setitem := methB_ok (exB_at e (List.mem_cons_of_mem _ (List.mem_cons_of_mem _ (List.mem_cons_of_mem _ (List.mem_cons_of_mem _ (List.mem_cons_of_mem _ (List.mem_cons_of_mem _ (List.mem_cons_of_mem _ (List.mem_cons_of_mem _ (List.mem_cons_of_mem _ (List.mem_cons_of_mem _ (List.mem_cons_of_mem _ (List.mem_cons_self)))))))))))))
  os_17_setitem := ownSB_ok (exB_at e (List.mem_cons_of_mem _ (List.mem_cons_of_mem _ (List.mem_cons_of_mem _ (List.mem_cons_of_mem _ (List.mem_cons_of_mem _ (List.mem_cons_of_mem _ (List.mem_cons_of_mem _ (List.mem_cons_of_mem _ (List.mem_cons_of_mem _ (List.mem_cons_of_mem _ (List.mem_cons_of_mem _ (List.mem_cons_of_mem _ (List.mem_cons_self))))))))))))))
  no_list := freeB_ok X G (exB_at e (List.mem_cons_of_mem _ (List.mem_cons_of_mem _ (List.mem_cons_of_mem _ (List.mem_cons_of_mem _ (List.mem_cons_of_mem _ (List.mem_cons_of_mem _ (List.mem_cons_of_mem _ (List.mem_cons_of_mem _ (List.mem_cons_of_mem _ (List.mem_cons_of_mem _ (List.mem_cons_of_mem _ (List.mem_cons_of_mem _ (List.mem_cons_of_mem _ (List.mem_cons_self)))))))))))))))
  mg_Ratio := gloB_ok X G (exB_at e (List.mem_cons_of_mem _ (List.mem_cons_of_mem _ (List.mem_cons_of_mem _ (List.mem_cons_of_mem _ (List.mem_cons_of_mem _ (List.mem_cons_of_mem _ (List.mem_cons_of_mem _ (List.mem_cons_of_mem _ (List.mem_cons_of_mem _ (List.mem_cons_of_mem _ (List.mem_cons_of_mem _ (List.mem_cons_of_mem _ (List.mem_cons_of_mem _ (List.mem_cons_of_mem _ (List.mem_cons_self))))))))))))))))
  kp_Ratio := (exB_at e (List.mem_cons_of_mem _ (List.mem_cons_of_mem _ (List.mem_cons_of_mem _ (List.mem_cons_of_mem _ (List.mem_cons_of_mem _ (List.mem_cons_of_mem _ (List.mem_cons_of_mem _ (List.mem_cons_of_mem _ (List.mem_cons_of_mem _ (List.mem_cons_of_mem _ (List.mem_cons_of_mem _ (List.mem_cons_of_mem _ (List.mem_cons_of_mem _ (List.mem_cons_of_mem _ (List.mem_cons_of_mem _ (List.mem_cons_self)))))))))))))))))
  no_int := freeB_ok X G (exB_at e (List.mem_cons_of_mem _ (List.mem_cons_of_mem _ (List.mem_cons_of_mem _ (List.mem_cons_of_mem _ (List.mem_cons_of_mem _ (List.mem_cons_of_mem _ (List.mem_cons_of_mem _ (List.mem_cons_of_mem _ (List.mem_cons_of_mem _ (List.mem_cons_of_mem _ (List.mem_cons_of_mem _ (List.mem_cons_of_mem _ (List.mem_cons_of_mem _ (List.mem_cons_of_mem _ (List.mem_cons_of_mem _ (List.mem_cons_of_mem _ (List.mem_cons_self))))))))))))))))))
  no_min := freeB_ok X G (exB_at e (List.mem_cons_of_mem _ (List.mem_cons_of_mem _ (List.mem_cons_of_mem _ (List.mem_cons_of_mem _ (List.mem_cons_of_mem _ (List.mem_cons_of_mem _ (List.mem_cons_of_mem _ (List.mem_cons_of_mem _ (List.mem_cons_of_mem _ (List.mem_cons_of_mem _ (List.mem_cons_of_mem _ (List.mem_cons_of_mem _ (List.mem_cons_of_mem _ (List.mem_cons_of_mem _ (List.mem_cons_of_mem _ (List.mem_cons_of_mem _ (List.mem_cons_of_mem _ (List.mem_cons_self)))))))))))))))))))
  sm_Bundle_single := smetB_ok (exB_at e (List.mem_cons_of_mem _ (List.mem_cons_of_mem _ (List.mem_cons_of_mem _ (List.mem_cons_of_mem _ (List.mem_cons_of_mem _ (List.mem_cons_of_mem _ (List.mem_cons_of_mem _ (List.mem_cons_of_mem _ (List.mem_cons_of_mem _ (List.mem_cons_of_mem _ (List.mem_cons_of_mem _ (List.mem_cons_of_mem _ (List.mem_cons_of_mem _ (List.mem_cons_of_mem _ (List.mem_cons_of_mem _ (List.mem_cons_of_mem _ (List.mem_cons_of_mem _ (List.mem_cons_of_mem _ (List.mem_cons_self))))))))))))))))))))
  no_len := freeB_ok X G (exB_at e (List.mem_cons_of_mem _ (List.mem_cons_of_mem _ (List.mem_cons_of_mem _ (List.mem_cons_of_mem _ (List.mem_cons_of_mem _ (List.mem_cons_of_mem _ (List.mem_cons_of_mem _ (List.mem_cons_of_mem _ (List.mem_cons_of_mem _ (List.mem_cons_of_mem _ (List.mem_cons_of_mem _ (List.mem_cons_of_mem _ (List.mem_cons_of_mem _ (List.mem_cons_of_mem _ (List.mem_cons_of_mem _ (List.mem_cons_of_mem _ (List.mem_cons_of_mem _ (List.mem_cons_of_mem _ (List.mem_cons_of_mem _ (List.mem_cons_self)))))))))))))))))))))
  no_abs := freeB_ok X G (exB_at e (List.mem_cons_of_mem _ (List.mem_cons_of_mem _ (List.mem_cons_of_mem _ (List.mem_cons_of_mem _ (List.mem_cons_of_mem _ (List.mem_cons_of_mem _ (List.mem_cons_of_mem _ (List.mem_cons_of_mem _ (List.mem_cons_of_mem _ (List.mem_cons_of_mem _ (List.mem_cons_of_mem _ (List.mem_cons_of_mem _ (List.mem_cons_of_mem _ (List.mem_cons_of_mem _ (List.mem_cons_of_mem _ (List.mem_cons_of_mem _ (List.mem_cons_of_mem _ (List.mem_cons_of_mem _ (List.mem_cons_of_mem _ (List.mem_cons_of_mem _ (List.mem_cons_self))))))))))))))))))))))
  no_sum := freeB_ok X G (exB_at e (List.mem_cons_of_mem _ (List.mem_cons_of_mem _ (List.mem_cons_of_mem _ (List.mem_cons_of_mem _ (List.mem_cons_of_mem _ (List.mem_cons_of_mem _ (List.mem_cons_of_mem _ (List.mem_cons_of_mem _ (List.mem_cons_of_mem _ (List.mem_cons_of_mem _ (List.mem_cons_of_mem _ (List.mem_cons_of_mem _ (List.mem_cons_of_mem _ (List.mem_cons_of_mem _ (List.mem_cons_of_mem _ (List.mem_cons_of_mem _ (List.mem_cons_of_mem _ (List.mem_cons_of_mem _ (List.mem_cons_of_mem _ (List.mem_cons_of_mem _ (List.mem_cons_of_mem _ (List.mem_cons_self)))))))))))))))))))))))
  xi_ZeroBottom := xinB_ok (exB_at e (List.mem_cons_of_mem _ (List.mem_cons_of_mem _ (List.mem_cons_of_mem _ (List.mem_cons_of_mem _ (List.mem_cons_of_mem _ (List.mem_cons_of_mem _ (List.mem_cons_of_mem _ (List.mem_cons_of_mem _ (List.mem_cons_of_mem _ (List.mem_cons_of_mem _ (List.mem_cons_of_mem _ (List.mem_cons_of_mem _ (List.mem_cons_of_mem _ (List.mem_cons_of_mem _ (List.mem_cons_of_mem _ (List.mem_cons_of_mem _ (List.mem_cons_of_mem _ (List.mem_cons_of_mem _ (List.mem_cons_of_mem _ (List.mem_cons_of_mem _ (List.mem_cons_of_mem _ (List.mem_cons_of_mem _ (List.mem_cons_self))))))))))))))))))))))))
  mg_ZeroBottom := gloB_ok X G (exB_at e (List.mem_cons_of_mem _ (List.mem_cons_of_mem _ (List.mem_cons_of_mem _ (List.mem_cons_of_mem _ (List.mem_cons_of_mem _ (List.mem_cons_of_mem _ (List.mem_cons_of_mem _ (List.mem_cons_of_mem _ (List.mem_cons_of_mem _ (List.mem_cons_of_mem _ (List.mem_cons_of_mem _ (List.mem_cons_of_mem _ (List.mem_cons_of_mem _ (List.mem_cons_of_mem _ (List.mem_cons_of_mem _ (List.mem_cons_of_mem _ (List.mem_cons_of_mem _ (List.mem_cons_of_mem _ (List.mem_cons_of_mem _ (List.mem_cons_of_mem _ (List.mem_cons_of_mem _ (List.mem_cons_of_mem _ (List.mem_cons_of_mem _ (List.mem_cons_self)))))))))))))))))))))))))
  mg_gcd := gloB_ok X G (exB_at e (List.mem_cons_of_mem _ (List.mem_cons_of_mem _ (List.mem_cons_of_mem _ (List.mem_cons_of_mem _ (List.mem_cons_of_mem _ (List.mem_cons_of_mem _ (List.mem_cons_of_mem _ (List.mem_cons_of_mem _ (List.mem_cons_of_mem _ (List.mem_cons_of_mem _ (List.mem_cons_of_mem _ (List.mem_cons_of_mem _ (List.mem_cons_of_mem _ (List.mem_cons_of_mem _ (List.mem_cons_of_mem _ (List.mem_cons_of_mem _ (List.mem_cons_of_mem _ (List.mem_cons_of_mem _ (List.mem_cons_of_mem _ (List.mem_cons_of_mem _ (List.mem_cons_of_mem _ (List.mem_cons_of_mem _ (List.mem_cons_of_mem _ (List.mem_cons_of_mem _ (List.mem_cons_self))))))))))))))))))))))))))
  oc_lt := ownCB_ok (exB_at e (List.mem_cons_of_mem _ (List.mem_cons_of_mem _ (List.mem_cons_of_mem _ (List.mem_cons_of_mem _ (List.mem_cons_of_mem _ (List.mem_cons_of_mem _ (List.mem_cons_of_mem _ (List.mem_cons_of_mem _ (List.mem_cons_of_mem _ (List.mem_cons_of_mem _ (List.mem_cons_of_mem _ (List.mem_cons_of_mem _ (List.mem_cons_of_mem _ (List.mem_cons_of_mem _ (List.mem_cons_of_mem _ (List.mem_cons_of_mem _ (List.mem_cons_of_mem _ (List.mem_cons_of_mem _ (List.mem_cons_of_mem _ (List.mem_cons_of_mem _ (List.mem_cons_of_mem _ (List.mem_cons_of_mem _ (List.mem_cons_of_mem _ (List.mem_cons_of_mem _ (List.mem_cons_of_mem _ (List.mem_cons_self)))))))))))))))))))))))))))
  oc_gt := ownCB_ok (exB_at e (List.mem_cons_of_mem _ (List.mem_cons_of_mem _ (List.mem_cons_of_mem _ (List.mem_cons_of_mem _ (List.mem_cons_of_mem _ (List.mem_cons_of_mem _ (List.mem_cons_of_mem _ (List.mem_cons_of_mem _ (List.mem_cons_of_mem _ (List.mem_cons_of_mem _ (List.mem_cons_of_mem _ (List.mem_cons_of_mem _ (List.mem_cons_of_mem _ (List.mem_cons_of_mem _ (List.mem_cons_of_mem _ (List.mem_cons_of_mem _ (List.mem_cons_of_mem _ (List.mem_cons_of_mem _ (List.mem_cons_of_mem _ (List.mem_cons_of_mem _ (List.mem_cons_of_mem _ (List.mem_cons_of_mem _ (List.mem_cons_of_mem _ (List.mem_cons_of_mem _ (List.mem_cons_of_mem _ (List.mem_cons_of_mem _ (List.mem_cons_self))))))))))))))))))))))))))))
  xif_9 := xifB_ok (exB_at e (List.mem_cons_of_mem _ (List.mem_cons_of_mem _ (List.mem_cons_of_mem _ (List.mem_cons_of_mem _ (List.mem_cons_of_mem _ (List.mem_cons_of_mem _ (List.mem_cons_of_mem _ (List.mem_cons_of_mem _ (List.mem_cons_of_mem _ (List.mem_cons_of_mem _ (List.mem_cons_of_mem _ (List.mem_cons_of_mem _ (List.mem_cons_of_mem _ (List.mem_cons_of_mem _ (List.mem_cons_of_mem _ (List.mem_cons_of_mem _ (List.mem_cons_of_mem _ (List.mem_cons_of_mem _ (List.mem_cons_of_mem _ (List.mem_cons_of_mem _ (List.mem_cons_of_mem _ (List.mem_cons_of_mem _ (List.mem_cons_of_mem _ (List.mem_cons_of_mem _ (List.mem_cons_of_mem _ (List.mem_cons_of_mem _ (List.mem_cons_of_mem _ (List.mem_cons_self)))))))))))))))))))))))))))))
  mth_8_init := methB_ok (exB_at e (List.mem_cons_of_mem _ (List.mem_cons_of_mem _ (List.mem_cons_of_mem _ (List.mem_cons_of_mem _ (List.mem_cons_of_mem _ (List.mem_cons_of_mem _ (List.mem_cons_of_mem _ (List.mem_cons_of_mem _ (List.mem_cons_of_mem _ (List.mem_cons_of_mem _ (List.mem_cons_of_mem _ (List.mem_cons_of_mem _ (List.mem_cons_of_mem _ (List.mem_cons_of_mem _ (List.mem_cons_of_mem _ (List.mem_cons_of_mem _ (List.mem_cons_of_mem _ (List.mem_cons_of_mem _ (List.mem_cons_of_mem _ (List.mem_cons_of_mem _ (List.mem_cons_of_mem _ (List.mem_cons_of_mem _ (List.mem_cons_of_mem _ (List.mem_cons_of_mem _ (List.mem_cons_of_mem _ (List.mem_cons_of_mem _ (List.mem_cons_of_mem _ (List.mem_cons_of_mem _ (List.mem_cons_self))))))))))))))))))))))))))))))
  mg_InvalidAmount := gloB_ok X G (exB_at e (List.mem_cons_of_mem _ (List.mem_cons_of_mem _ (List.mem_cons_of_mem _ (List.mem_cons_of_mem _ (List.mem_cons_of_mem _ (List.mem_cons_of_mem _ (List.mem_cons_of_mem _ (List.mem_cons_of_mem _ (List.mem_cons_of_mem _ (List.mem_cons_of_mem _ (List.mem_cons_of_mem _ (List.mem_cons_of_mem _ (List.mem_cons_of_mem _ (List.mem_cons_of_mem _ (List.mem_cons_of_mem _ (List.mem_cons_of_mem _ (List.mem_cons_of_mem _ (List.mem_cons_of_mem _ (List.mem_cons_of_mem _ (List.mem_cons_of_mem _ (List.mem_cons_of_mem _ (List.mem_cons_of_mem _ (List.mem_cons_of_mem _ (List.mem_cons_of_mem _ (List.mem_cons_of_mem _ (List.mem_cons_of_mem _ (List.mem_cons_of_mem _ (List.mem_cons_of_mem _ (List.mem_cons_of_mem _ (List.mem_cons_self)))))))))))))))))))))))))))))))
  mth_17_iter := methB_ok (exB_at e (List.mem_cons_of_mem _ (List.mem_cons_of_mem _ (List.mem_cons_of_mem _ (List.mem_cons_of_mem _ (List.mem_cons_of_mem _ (List.mem_cons_of_mem _ (List.mem_cons_of_mem _ (List.mem_cons_of_mem _ (List.mem_cons_of_mem _ (List.mem_cons_of_mem _ (List.mem_cons_of_mem _ (List.mem_cons_of_mem _ (List.mem_cons_of_mem _ (List.mem_cons_of_mem _ (List.mem_cons_of_mem _ (List.mem_cons_of_mem _ (List.mem_cons_of_mem _ (List.mem_cons_of_mem _ (List.mem_cons_of_mem _ (List.mem_cons_of_mem _ (List.mem_cons_of_mem _ (List.mem_cons_of_mem _ (List.mem_cons_of_mem _ (List.mem_cons_of_mem _ (List.mem_cons_of_mem _ (List.mem_cons_of_mem _ (List.mem_cons_of_mem _ (List.mem_cons_of_mem _ (List.mem_cons_of_mem _ (List.mem_cons_of_mem _ (List.mem_cons_self))))))))))))))))))))))))))))))))
  no_iter := freeB_ok X G (exB_at e (List.mem_cons_of_mem _ (List.mem_cons_of_mem _ (List.mem_cons_of_mem _ (List.mem_cons_of_mem _ (List.mem_cons_of_mem _ (List.mem_cons_of_mem _ (List.mem_cons_of_mem _ (List.mem_cons_of_mem _ (List.mem_cons_of_mem _ (List.mem_cons_of_mem _ (List.mem_cons_of_mem _ (List.mem_cons_of_mem _ (List.mem_cons_of_mem _ (List.mem_cons_of_mem _ (List.mem_cons_of_mem _ (List.mem_cons_of_mem _ (List.mem_cons_of_mem _ (List.mem_cons_of_mem _ (List.mem_cons_of_mem _ (List.mem_cons_of_mem _ (List.mem_cons_of_mem _ (List.mem_cons_of_mem _ (List.mem_cons_of_mem _ (List.mem_cons_of_mem _ (List.mem_cons_of_mem _ (List.mem_cons_of_mem _ (List.mem_cons_of_mem _ (List.mem_cons_of_mem _ (List.mem_cons_of_mem _ (List.mem_cons_of_mem _ (List.mem_cons_of_mem _ (List.mem_cons_self)))))))))))))))))))))))))))))))))
  is_Ratio := isiB_rat (exB_at e (List.mem_cons_of_mem _ (List.mem_cons_of_mem _ (List.mem_cons_of_mem _ (List.mem_cons_of_mem _ (List.mem_cons_of_mem _ (List.mem_cons_of_mem _ (List.mem_cons_of_mem _ (List.mem_cons_of_mem _ (List.mem_cons_of_mem _ (List.mem_cons_of_mem _ (List.mem_cons_of_mem _ (List.mem_cons_of_mem _ (List.mem_cons_of_mem _ (List.mem_cons_of_mem _ (List.mem_cons_of_mem _ (List.mem_cons_of_mem _ (List.mem_cons_of_mem _ (List.mem_cons_of_mem _ (List.mem_cons_of_mem _ (List.mem_cons_of_mem _ (List.mem_cons_of_mem _ (List.mem_cons_of_mem _ (List.mem_cons_of_mem _ (List.mem_cons_of_mem _ (List.mem_cons_of_mem _ (List.mem_cons_of_mem _ (List.mem_cons_of_mem _ (List.mem_cons_of_mem _ (List.mem_cons_of_mem _ (List.mem_cons_of_mem _ (List.mem_cons_of_mem _ (List.mem_cons_of_mem _ (List.mem_cons_self))))))))))))))))))))))))))))))))))
  no_isinstance := freeB_ok X G (exB_at e (List.mem_cons_of_mem _ (List.mem_cons_of_mem _ (List.mem_cons_of_mem _ (List.mem_cons_of_mem _ (List.mem_cons_of_mem _ (List.mem_cons_of_mem _ (List.mem_cons_of_mem _ (List.mem_cons_of_mem _ (List.mem_cons_of_mem _ (List.mem_cons_of_mem _ (List.mem_cons_of_mem _ (List.mem_cons_of_mem _ (List.mem_cons_of_mem _ (List.mem_cons_of_mem _ (List.mem_cons_of_mem _ (List.mem_cons_of_mem _ (List.mem_cons_of_mem _ (List.mem_cons_of_mem _ (List.mem_cons_of_mem _ (List.mem_cons_of_mem _ (List.mem_cons_of_mem _ (List.mem_cons_of_mem _ (List.mem_cons_of_mem _ (List.mem_cons_of_mem _ (List.mem_cons_of_mem _ (List.mem_cons_of_mem _ (List.mem_cons_of_mem _ (List.mem_cons_of_mem _ (List.mem_cons_of_mem _ (List.mem_cons_of_mem _ (List.mem_cons_of_mem _ (List.mem_cons_of_mem _ (List.mem_cons_of_mem _ (List.mem_cons_self)))))))))))))))))))))))))))))))))))
  no_super := freeB_ok X G (exB_at e (List.mem_cons_of_mem _ (List.mem_cons_of_mem _ (List.mem_cons_of_mem _ (List.mem_cons_of_mem _ (List.mem_cons_of_mem _ (List.mem_cons_of_mem _ (List.mem_cons_of_mem _ (List.mem_cons_of_mem _ (List.mem_cons_of_mem _ (List.mem_cons_of_mem _ (List.mem_cons_of_mem _ (List.mem_cons_of_mem _ (List.mem_cons_of_mem _ (List.mem_cons_of_mem _ (List.mem_cons_of_mem _ (List.mem_cons_of_mem _ (List.mem_cons_of_mem _ (List.mem_cons_of_mem _ (List.mem_cons_of_mem _ (List.mem_cons_of_mem _ (List.mem_cons_of_mem _ (List.mem_cons_of_mem _ (List.mem_cons_of_mem _ (List.mem_cons_of_mem _ (List.mem_cons_of_mem _ (List.mem_cons_of_mem _ (List.mem_cons_of_mem _ (List.mem_cons_of_mem _ (List.mem_cons_of_mem _ (List.mem_cons_of_mem _ (List.mem_cons_of_mem _ (List.mem_cons_of_mem _ (List.mem_cons_of_mem _ (List.mem_cons_of_mem _ (List.mem_cons_self))))))))))))))))))))))))))))))))))))
  io_17 := isoB_ok (exB_at e (List.mem_cons_of_mem _ (List.mem_cons_of_mem _ (List.mem_cons_of_mem _ (List.mem_cons_of_mem _ (List.mem_cons_of_mem _ (List.mem_cons_of_mem _ (List.mem_cons_of_mem _ (List.mem_cons_of_mem _ (List.mem_cons_of_mem _ (List.mem_cons_of_mem _ (List.mem_cons_of_mem _ (List.mem_cons_of_mem _ (List.mem_cons_of_mem _ (List.mem_cons_of_mem _ (List.mem_cons_of_mem _ (List.mem_cons_of_mem _ (List.mem_cons_of_mem _ (List.mem_cons_of_mem _ (List.mem_cons_of_mem _ (List.mem_cons_of_mem _ (List.mem_cons_of_mem _ (List.mem_cons_of_mem _ (List.mem_cons_of_mem _ (List.mem_cons_of_mem _ (List.mem_cons_of_mem _ (List.mem_cons_of_mem _ (List.mem_cons_of_mem _ (List.mem_cons_of_mem _ (List.mem_cons_of_mem _ (List.mem_cons_of_mem _ (List.mem_cons_of_mem _ (List.mem_cons_of_mem _ (List.mem_cons_of_mem _ (List.mem_cons_of_mem _ (List.mem_cons_of_mem _ (List.mem_cons_self)))))))))))))))))))))))))))))))))))))
  mth_17_len := methB_ok (exB_at e (List.mem_cons_of_mem _ (List.mem_cons_of_mem _ (List.mem_cons_of_mem _ (List.mem_cons_of_mem _ (List.mem_cons_of_mem _ (List.mem_cons_of_mem _ (List.mem_cons_of_mem _ (List.mem_cons_of_mem _ (List.mem_cons_of_mem _ (List.mem_cons_of_mem _ (List.mem_cons_of_mem _ (List.mem_cons_of_mem _ (List.mem_cons_of_mem _ (List.mem_cons_of_mem _ (List.mem_cons_of_mem _ (List.mem_cons_of_mem _ (List.mem_cons_of_mem _ (List.mem_cons_of_mem _ (List.mem_cons_of_mem _ (List.mem_cons_of_mem _ (List.mem_cons_of_mem _ (List.mem_cons_of_mem _ (List.mem_cons_of_mem _ (List.mem_cons_of_mem _ (List.mem_cons_of_mem _ (List.mem_cons_of_mem _ (List.mem_cons_of_mem _ (List.mem_cons_of_mem _ (List.mem_cons_of_mem _ (List.mem_cons_of_mem _ (List.mem_cons_of_mem _ (List.mem_cons_of_mem _ (List.mem_cons_of_mem _ (List.mem_cons_of_mem _ (List.mem_cons_of_mem _ (List.mem_cons_of_mem _ (List.mem_cons_self))))))))))))))))))))))))))))))))))))))
  is_int := isiB_int (exB_at e (List.mem_cons_of_mem _ (List.mem_cons_of_mem _ (List.mem_cons_of_mem _ (List.mem_cons_of_mem _ (List.mem_cons_of_mem _ (List.mem_cons_of_mem _ (List.mem_cons_of_mem _ (List.mem_cons_of_mem _ (List.mem_cons_of_mem _ (List.mem_cons_of_mem _ (List.mem_cons_of_mem _ (List.mem_cons_of_mem _ (List.mem_cons_of_mem _ (List.mem_cons_of_mem _ (List.mem_cons_of_mem _ (List.mem_cons_of_mem _ (List.mem_cons_of_mem _ (List.mem_cons_of_mem _ (List.mem_cons_of_mem _ (List.mem_cons_of_mem _ (List.mem_cons_of_mem _ (List.mem_cons_of_mem _ (List.mem_cons_of_mem _ (List.mem_cons_of_mem _ (List.mem_cons_of_mem _ (List.mem_cons_of_mem _ (List.mem_cons_of_mem _ (List.mem_cons_of_mem _ (List.mem_cons_of_mem _ (List.mem_cons_of_mem _ (List.mem_cons_of_mem _ (List.mem_cons_of_mem _ (List.mem_cons_of_mem _ (List.mem_cons_of_mem _ (List.mem_cons_of_mem _ (List.mem_cons_of_mem _ (List.mem_cons_of_mem _ (List.mem_cons_self)))))))))))))))))))))))))))))))))))))))
  is_bool := isiB_bool (exB_at e (List.mem_cons_of_mem _ (List.mem_cons_of_mem _ (List.mem_cons_of_mem _ (List.mem_cons_of_mem _ (List.mem_cons_of_mem _ (List.mem_cons_of_mem _ (List.mem_cons_of_mem _ (List.mem_cons_of_mem _ (List.mem_cons_of_mem _ (List.mem_cons_of_mem _ (List.mem_cons_of_mem _ (List.mem_cons_of_mem _ (List.mem_cons_of_mem _ (List.mem_cons_of_mem _ (List.mem_cons_of_mem _ (List.mem_cons_of_mem _ (List.mem_cons_of_mem _ (List.mem_cons_of_mem _ (List.mem_cons_of_mem _ (List.mem_cons_of_mem _ (List.mem_cons_of_mem _ (List.mem_cons_of_mem _ (List.mem_cons_of_mem _ (List.mem_cons_of_mem _ (List.mem_cons_of_mem _ (List.mem_cons_of_mem _ (List.mem_cons_of_mem _ (List.mem_cons_of_mem _ (List.mem_cons_of_mem _ (List.mem_cons_of_mem _ (List.mem_cons_of_mem _ (List.mem_cons_of_mem _ (List.mem_cons_of_mem _ (List.mem_cons_of_mem _ (List.mem_cons_of_mem _ (List.mem_cons_of_mem _ (List.mem_cons_of_mem _ (List.mem_cons_of_mem _ (List.mem_cons_self))))))))))))))))))))))))))))))))))))))))
  no_bool := freeB_ok X G (exB_at e (List.mem_cons_of_mem _ (List.mem_cons_of_mem _ (List.mem_cons_of_mem _ (List.mem_cons_of_mem _ (List.mem_cons_of_mem _ (List.mem_cons_of_mem _ (List.mem_cons_of_mem _ (List.mem_cons_of_mem _ (List.mem_cons_of_mem _ (List.mem_cons_of_mem _ (List.mem_cons_of_mem _ (List.mem_cons_of_mem _ (List.mem_cons_of_mem _ (List.mem_cons_of_mem _ (List.mem_cons_of_mem _ (List.mem_cons_of_mem _ (List.mem_cons_of_mem _ (List.mem_cons_of_mem _ (List.mem_cons_of_mem _ (List.mem_cons_of_mem _ (List.mem_cons_of_mem _ (List.mem_cons_of_mem _ (List.mem_cons_of_mem _ (List.mem_cons_of_mem _ (List.mem_cons_of_mem _ (List.mem_cons_of_mem _ (List.mem_cons_of_mem _ (List.mem_cons_of_mem _ (List.mem_cons_of_mem _ (List.mem_cons_of_mem _ (List.mem_cons_of_mem _ (List.mem_cons_of_mem _ (List.mem_cons_of_mem _ (List.mem_cons_of_mem _ (List.mem_cons_of_mem _ (List.mem_cons_of_mem _ (List.mem_cons_of_mem _ (List.mem_cons_of_mem _ (List.mem_cons_of_mem _ (List.mem_cons_self)))))))))))))))))))))))))))))))))))))))))
  ie_FlatMeasure := isexB_ok (exB_at e (List.mem_cons_of_mem _ (List.mem_cons_of_mem _ (List.mem_cons_of_mem _ (List.mem_cons_of_mem _ (List.mem_cons_of_mem _ (List.mem_cons_of_mem _ (List.mem_cons_of_mem _ (List.mem_cons_of_mem _ (List.mem_cons_of_mem _ (List.mem_cons_of_mem _ (List.mem_cons_of_mem _ (List.mem_cons_of_mem _ (List.mem_cons_of_mem _ (List.mem_cons_of_mem _ (List.mem_cons_of_mem _ (List.mem_cons_of_mem _ (List.mem_cons_of_mem _ (List.mem_cons_of_mem _ (List.mem_cons_of_mem _ (List.mem_cons_of_mem _ (List.mem_cons_of_mem _ (List.mem_cons_of_mem _ (List.mem_cons_of_mem _ (List.mem_cons_of_mem _ (List.mem_cons_of_mem _ (List.mem_cons_of_mem _ (List.mem_cons_of_mem _ (List.mem_cons_of_mem _ (List.mem_cons_of_mem _ (List.mem_cons_of_mem _ (List.mem_cons_of_mem _ (List.mem_cons_of_mem _ (List.mem_cons_of_mem _ (List.mem_cons_of_mem _ (List.mem_cons_of_mem _ (List.mem_cons_of_mem _ (List.mem_cons_of_mem _ (List.mem_cons_of_mem _ (List.mem_cons_of_mem _ (List.mem_cons_of_mem _ (List.mem_cons_self))))))))))))))))))))))))))))))))))))))))))
  mg_FlatMeasure := gloB_ok X G (exB_at e (List.mem_cons_of_mem _ (List.mem_cons_of_mem _ (List.mem_cons_of_mem _ (List.mem_cons_of_mem _ (List.mem_cons_of_mem _ (List.mem_cons_of_mem _ (List.mem_cons_of_mem _ (List.mem_cons_of_mem _ (List.mem_cons_of_mem _ (List.mem_cons_of_mem _ (List.mem_cons_of_mem _ (List.mem_cons_of_mem _ (List.mem_cons_of_mem _ (List.mem_cons_of_mem _ (List.mem_cons_of_mem _ (List.mem_cons_of_mem _ (List.mem_cons_of_mem _ (List.mem_cons_of_mem _ (List.mem_cons_of_mem _ (List.mem_cons_of_mem _ (List.mem_cons_of_mem _ (List.mem_cons_of_mem _ (List.mem_cons_of_mem _ (List.mem_cons_of_mem _ (List.mem_cons_of_mem _ (List.mem_cons_of_mem _ (List.mem_cons_of_mem _ (List.mem_cons_of_mem _ (List.mem_cons_of_mem _ (List.mem_cons_of_mem _ (List.mem_cons_of_mem _ (List.mem_cons_of_mem _ (List.mem_cons_of_mem _ (List.mem_cons_of_mem _ (List.mem_cons_of_mem _ (List.mem_cons_of_mem _ (List.mem_cons_of_mem _ (List.mem_cons_of_mem _ (List.mem_cons_of_mem _ (List.mem_cons_of_mem _ (List.mem_cons_of_mem _ (List.mem_cons_self)))))))))))))))))))))))))))))))))))))))))))
  ie_UnknownGood := isexB_ok (exB_at e (List.mem_cons_of_mem _ (List.mem_cons_of_mem _ (List.mem_cons_of_mem _ (List.mem_cons_of_mem _ (List.mem_cons_of_mem _ (List.mem_cons_of_mem _ (List.mem_cons_of_mem _ (List.mem_cons_of_mem _ (List.mem_cons_of_mem _ (List.mem_cons_of_mem _ (List.mem_cons_of_mem _ (List.mem_cons_of_mem _ (List.mem_cons_of_mem _ (List.mem_cons_of_mem _ (List.mem_cons_of_mem _ (List.mem_cons_of_mem _ (List.mem_cons_of_mem _ (List.mem_cons_of_mem _ (List.mem_cons_of_mem _ (List.mem_cons_of_mem _ (List.mem_cons_of_mem _ (List.mem_cons_of_mem _ (List.mem_cons_of_mem _ (List.mem_cons_of_mem _ (List.mem_cons_of_mem _ (List.mem_cons_of_mem _ (List.mem_cons_of_mem _ (List.mem_cons_of_mem _ (List.mem_cons_of_mem _ (List.mem_cons_of_mem _ (List.mem_cons_of_mem _ (List.mem_cons_of_mem _ (List.mem_cons_of_mem _ (List.mem_cons_of_mem _ (List.mem_cons_of_mem _ (List.mem_cons_of_mem _ (List.mem_cons_of_mem _ (List.mem_cons_of_mem _ (List.mem_cons_of_mem _ (List.mem_cons_of_mem _ (List.mem_cons_of_mem _ (List.mem_cons_of_mem _ (List.mem_cons_self))))))))))))))))))))))))))))))))))))))))))))
  mg_UnknownGood := gloB_ok X G (exB_at e (List.mem_cons_of_mem _ (List.mem_cons_of_mem _ (List.mem_cons_of_mem _ (List.mem_cons_of_mem _ (List.mem_cons_of_mem _ (List.mem_cons_of_mem _ (List.mem_cons_of_mem _ (List.mem_cons_of_mem _ (List.mem_cons_of_mem _ (List.mem_cons_of_mem _ (List.mem_cons_of_mem _ (List.mem_cons_of_mem _ (List.mem_cons_of_mem _ (List.mem_cons_of_mem _ (List.mem_cons_of_mem _ (List.mem_cons_of_mem _ (List.mem_cons_of_mem _ (List.mem_cons_of_mem _ (List.mem_cons_of_mem _ (List.mem_cons_of_mem _ (List.mem_cons_of_mem _ (List.mem_cons_of_mem _ (List.mem_cons_of_mem _ (List.mem_cons_of_mem _ (List.mem_cons_of_mem _ (List.mem_cons_of_mem _ (List.mem_cons_of_mem _ (List.mem_cons_of_mem _ (List.mem_cons_of_mem _ (List.mem_cons_of_mem _ (List.mem_cons_of_mem _ (List.mem_cons_of_mem _ (List.mem_cons_of_mem _ (List.mem_cons_of_mem _ (List.mem_cons_of_mem _ (List.mem_cons_of_mem _ (List.mem_cons_of_mem _ (List.mem_cons_of_mem _ (List.mem_cons_of_mem _ (List.mem_cons_of_mem _ (List.mem_cons_of_mem _ (List.mem_cons_of_mem _ (List.mem_cons_of_mem _ (List.mem_cons_self)))))))))))))))))))))))))))))))))))))))))))))
  ie_Shortage := isexB_ok (exB_at e (List.mem_cons_of_mem _ (List.mem_cons_of_mem _ (List.mem_cons_of_mem _ (List.mem_cons_of_mem _ (List.mem_cons_of_mem _ (List.mem_cons_of_mem _ (List.mem_cons_of_mem _ (List.mem_cons_of_mem _ (List.mem_cons_of_mem _ (List.mem_cons_of_mem _ (List.mem_cons_of_mem _ (List.mem_cons_of_mem _ (List.mem_cons_of_mem _ (List.mem_cons_of_mem _ (List.mem_cons_of_mem _ (List.mem_cons_of_mem _ (List.mem_cons_of_mem _ (List.mem_cons_of_mem _ (List.mem_cons_of_mem _ (List.mem_cons_of_mem _ (List.mem_cons_of_mem _ (List.mem_cons_of_mem _ (List.mem_cons_of_mem _ (List.mem_cons_of_mem _ (List.mem_cons_of_mem _ (List.mem_cons_of_mem _ (List.mem_cons_of_mem _ (List.mem_cons_of_mem _ (List.mem_cons_of_mem _ (List.mem_cons_of_mem _ (List.mem_cons_of_mem _ (List.mem_cons_of_mem _ (List.mem_cons_of_mem _ (List.mem_cons_of_mem _ (List.mem_cons_of_mem _ (List.mem_cons_of_mem _ (List.mem_cons_of_mem _ (List.mem_cons_of_mem _ (List.mem_cons_of_mem _ (List.mem_cons_of_mem _ (List.mem_cons_of_mem _ (List.mem_cons_of_mem _ (List.mem_cons_of_mem _ (List.mem_cons_of_mem _ (List.mem_cons_self))))))))))))))))))))))))))))))))))))))))))))))
  mg_Shortage := gloB_ok X G (exB_at e (List.mem_cons_of_mem _ (List.mem_cons_of_mem _ (List.mem_cons_of_mem _ (List.mem_cons_of_mem _ (List.mem_cons_of_mem _ (List.mem_cons_of_mem _ (List.mem_cons_of_mem _ (List.mem_cons_of_mem _ (List.mem_cons_of_mem _ (List.mem_cons_of_mem _ (List.mem_cons_of_mem _ (List.mem_cons_of_mem _ (List.mem_cons_of_mem _ (List.mem_cons_of_mem _ (List.mem_cons_of_mem _ (List.mem_cons_of_mem _ (List.mem_cons_of_mem _ (List.mem_cons_of_mem _ (List.mem_cons_of_mem _ (List.mem_cons_of_mem _ (List.mem_cons_of_mem _ (List.mem_cons_of_mem _ (List.mem_cons_of_mem _ (List.mem_cons_of_mem _ (List.mem_cons_of_mem _ (List.mem_cons_of_mem _ (List.mem_cons_of_mem _ (List.mem_cons_of_mem _ (List.mem_cons_of_mem _ (List.mem_cons_of_mem _ (List.mem_cons_of_mem _ (List.mem_cons_of_mem _ (List.mem_cons_of_mem _ (List.mem_cons_of_mem _ (List.mem_cons_of_mem _ (List.mem_cons_of_mem _ (List.mem_cons_of_mem _ (List.mem_cons_of_mem _ (List.mem_cons_of_mem _ (List.mem_cons_of_mem _ (List.mem_cons_of_mem _ (List.mem_cons_of_mem _ (List.mem_cons_of_mem _ (List.mem_cons_of_mem _ (List.mem_cons_of_mem _ (List.mem_cons_self)))))))))))))))))))))))))))))))))))))))))))))))
  ie_InvalidAmount := isexB_ok (exB_at e (List.mem_cons_of_mem _ (List.mem_cons_of_mem _ (List.mem_cons_of_mem _ (List.mem_cons_of_mem _ (List.mem_cons_of_mem _ (List.mem_cons_of_mem _ (List.mem_cons_of_mem _ (List.mem_cons_of_mem _ (List.mem_cons_of_mem _ (List.mem_cons_of_mem _ (List.mem_cons_of_mem _ (List.mem_cons_of_mem _ (List.mem_cons_of_mem _ (List.mem_cons_of_mem _ (List.mem_cons_of_mem _ (List.mem_cons_of_mem _ (List.mem_cons_of_mem _ (List.mem_cons_of_mem _ (List.mem_cons_of_mem _ (List.mem_cons_of_mem _ (List.mem_cons_of_mem _ (List.mem_cons_of_mem _ (List.mem_cons_of_mem _ (List.mem_cons_of_mem _ (List.mem_cons_of_mem _ (List.mem_cons_of_mem _ (List.mem_cons_of_mem _ (List.mem_cons_of_mem _ (List.mem_cons_of_mem _ (List.mem_cons_of_mem _ (List.mem_cons_of_mem _ (List.mem_cons_of_mem _ (List.mem_cons_of_mem _ (List.mem_cons_of_mem _ (List.mem_cons_of_mem _ (List.mem_cons_of_mem _ (List.mem_cons_of_mem _ (List.mem_cons_of_mem _ (List.mem_cons_of_mem _ (List.mem_cons_of_mem _ (List.mem_cons_of_mem _ (List.mem_cons_of_mem _ (List.mem_cons_of_mem _ (List.mem_cons_of_mem _ (List.mem_cons_of_mem _ (List.mem_cons_of_mem _ (List.mem_cons_self))))))))))))))))))))))))))))))))))))))))))))))))
  ie_FillError := isexB_ok (exB_at e (List.mem_cons_of_mem _ (List.mem_cons_of_mem _ (List.mem_cons_of_mem _ (List.mem_cons_of_mem _ (List.mem_cons_of_mem _ (List.mem_cons_of_mem _ (List.mem_cons_of_mem _ (List.mem_cons_of_mem _ (List.mem_cons_of_mem _ (List.mem_cons_of_mem _ (List.mem_cons_of_mem _ (List.mem_cons_of_mem _ (List.mem_cons_of_mem _ (List.mem_cons_of_mem _ (List.mem_cons_of_mem _ (List.mem_cons_of_mem _ (List.mem_cons_of_mem _ (List.mem_cons_of_mem _ (List.mem_cons_of_mem _ (List.mem_cons_of_mem _ (List.mem_cons_of_mem _ (List.mem_cons_of_mem _ (List.mem_cons_of_mem _ (List.mem_cons_of_mem _ (List.mem_cons_of_mem _ (List.mem_cons_of_mem _ (List.mem_cons_of_mem _ (List.mem_cons_of_mem _ (List.mem_cons_of_mem _ (List.mem_cons_of_mem _ (List.mem_cons_of_mem _ (List.mem_cons_of_mem _ (List.mem_cons_of_mem _ (List.mem_cons_of_mem _ (List.mem_cons_of_mem _ (List.mem_cons_of_mem _ (List.mem_cons_of_mem _ (List.mem_cons_of_mem _ (List.mem_cons_of_mem _ (List.mem_cons_of_mem _ (List.mem_cons_of_mem _ (List.mem_cons_of_mem _ (List.mem_cons_of_mem _ (List.mem_cons_of_mem _ (List.mem_cons_of_mem _ (List.mem_cons_of_mem _ (List.mem_cons_of_mem _ (List.mem_cons_self)))))))))))))))))))))))))))))))))))))))))))))))))
  mg_FillError := gloB_ok X G (exB_at e (List.mem_cons_of_mem _ (List.mem_cons_of_mem _ (List.mem_cons_of_mem _ (List.mem_cons_of_mem _ (List.mem_cons_of_mem _ (List.mem_cons_of_mem _ (List.mem_cons_of_mem _ (List.mem_cons_of_mem _ (List.mem_cons_of_mem _ (List.mem_cons_of_mem _ (List.mem_cons_of_mem _ (List.mem_cons_of_mem _ (List.mem_cons_of_mem _ (List.mem_cons_of_mem _ (List.mem_cons_of_mem _ (List.mem_cons_of_mem _ (List.mem_cons_of_mem _ (List.mem_cons_of_mem _ (List.mem_cons_of_mem _ (List.mem_cons_of_mem _ (List.mem_cons_of_mem _ (List.mem_cons_of_mem _ (List.mem_cons_of_mem _ (List.mem_cons_of_mem _ (List.mem_cons_of_mem _ (List.mem_cons_of_mem _ (List.mem_cons_of_mem _ (List.mem_cons_of_mem _ (List.mem_cons_of_mem _ (List.mem_cons_of_mem _ (List.mem_cons_of_mem _ (List.mem_cons_of_mem _ (List.mem_cons_of_mem _ (List.mem_cons_of_mem _ (List.mem_cons_of_mem _ (List.mem_cons_of_mem _ (List.mem_cons_of_mem _ (List.mem_cons_of_mem _ (List.mem_cons_of_mem _ (List.mem_cons_of_mem _ (List.mem_cons_of_mem _ (List.mem_cons_of_mem _ (List.mem_cons_of_mem _ (List.mem_cons_of_mem _ (List.mem_cons_of_mem _ (List.mem_cons_of_mem _ (List.mem_cons_of_mem _ (List.mem_cons_of_mem _ (List.mem_cons_self))))))))))))))))))))))))))))))))))))))))))))))))))
  xf_good := xfsB_ok (exB_at e (List.mem_cons_of_mem _ (List.mem_cons_of_mem _ (List.mem_cons_of_mem _ (List.mem_cons_of_mem _ (List.mem_cons_of_mem _ (List.mem_cons_of_mem _ (List.mem_cons_of_mem _ (List.mem_cons_of_mem _ (List.mem_cons_of_mem _ (List.mem_cons_of_mem _ (List.mem_cons_of_mem _ (List.mem_cons_of_mem _ (List.mem_cons_of_mem _ (List.mem_cons_of_mem _ (List.mem_cons_of_mem _ (List.mem_cons_of_mem _ (List.mem_cons_of_mem _ (List.mem_cons_of_mem _ (List.mem_cons_of_mem _ (List.mem_cons_of_mem _ (List.mem_cons_of_mem _ (List.mem_cons_of_mem _ (List.mem_cons_of_mem _ (List.mem_cons_of_mem _ (List.mem_cons_of_mem _ (List.mem_cons_of_mem _ (List.mem_cons_of_mem _ (List.mem_cons_of_mem _ (List.mem_cons_of_mem _ (List.mem_cons_of_mem _ (List.mem_cons_of_mem _ (List.mem_cons_of_mem _ (List.mem_cons_of_mem _ (List.mem_cons_of_mem _ (List.mem_cons_of_mem _ (List.mem_cons_of_mem _ (List.mem_cons_of_mem _ (List.mem_cons_of_mem _ (List.mem_cons_of_mem _ (List.mem_cons_of_mem _ (List.mem_cons_of_mem _ (List.mem_cons_of_mem _ (List.mem_cons_of_mem _ (List.mem_cons_of_mem _ (List.mem_cons_of_mem _ (List.mem_cons_of_mem _ (List.mem_cons_of_mem _ (List.mem_cons_of_mem _ (List.mem_cons_of_mem _ (List.mem_cons_self)))))))))))))))))))))))))))))))))))))))))))))))))))
  xm_GoodError := exmB_ok (exB_at e (List.mem_cons_of_mem _ (List.mem_cons_of_mem _ (List.mem_cons_of_mem _ (List.mem_cons_of_mem _ (List.mem_cons_of_mem _ (List.mem_cons_of_mem _ (List.mem_cons_of_mem _ (List.mem_cons_of_mem _ (List.mem_cons_of_mem _ (List.mem_cons_of_mem _ (List.mem_cons_of_mem _ (List.mem_cons_of_mem _ (List.mem_cons_of_mem _ (List.mem_cons_of_mem _ (List.mem_cons_of_mem _ (List.mem_cons_of_mem _ (List.mem_cons_of_mem _ (List.mem_cons_of_mem _ (List.mem_cons_of_mem _ (List.mem_cons_of_mem _ (List.mem_cons_of_mem _ (List.mem_cons_of_mem _ (List.mem_cons_of_mem _ (List.mem_cons_of_mem _ (List.mem_cons_of_mem _ (List.mem_cons_of_mem _ (List.mem_cons_of_mem _ (List.mem_cons_of_mem _ (List.mem_cons_of_mem _ (List.mem_cons_of_mem _ (List.mem_cons_of_mem _ (List.mem_cons_of_mem _ (List.mem_cons_of_mem _ (List.mem_cons_of_mem _ (List.mem_cons_of_mem _ (List.mem_cons_of_mem _ (List.mem_cons_of_mem _ (List.mem_cons_of_mem _ (List.mem_cons_of_mem _ (List.mem_cons_of_mem _ (List.mem_cons_of_mem _ (List.mem_cons_of_mem _ (List.mem_cons_of_mem _ (List.mem_cons_of_mem _ (List.mem_cons_of_mem _ (List.mem_cons_of_mem _ (List.mem_cons_of_mem _ (List.mem_cons_of_mem _ (List.mem_cons_of_mem _ (List.mem_cons_of_mem _ (List.mem_cons_self))))))))))))))))))))))))))))))))))))))))))))))))))))
  mg_GoodError := gloB_ok X G (exB_at e (List.mem_cons_of_mem _ (List.mem_cons_of_mem _ (List.mem_cons_of_mem _ (List.mem_cons_of_mem _ (List.mem_cons_of_mem _ (List.mem_cons_of_mem _ (List.mem_cons_of_mem _ (List.mem_cons_of_mem _ (List.mem_cons_of_mem _ (List.mem_cons_of_mem _ (List.mem_cons_of_mem _ (List.mem_cons_of_mem _ (List.mem_cons_of_mem _ (List.mem_cons_of_mem _ (List.mem_cons_of_mem _ (List.mem_cons_of_mem _ (List.mem_cons_of_mem _ (List.mem_cons_of_mem _ (List.mem_cons_of_mem _ (List.mem_cons_of_mem _ (List.mem_cons_of_mem _ (List.mem_cons_of_mem _ (List.mem_cons_of_mem _ (List.mem_cons_of_mem _ (List.mem_cons_of_mem _ (List.mem_cons_of_mem _ (List.mem_cons_of_mem _ (List.mem_cons_of_mem _ (List.mem_cons_of_mem _ (List.mem_cons_of_mem _ (List.mem_cons_of_mem _ (List.mem_cons_of_mem _ (List.mem_cons_of_mem _ (List.mem_cons_of_mem _ (List.mem_cons_of_mem _ (List.mem_cons_of_mem _ (List.mem_cons_of_mem _ (List.mem_cons_of_mem _ (List.mem_cons_of_mem _ (List.mem_cons_of_mem _ (List.mem_cons_of_mem _ (List.mem_cons_of_mem _ (List.mem_cons_of_mem _ (List.mem_cons_of_mem _ (List.mem_cons_of_mem _ (List.mem_cons_of_mem _ (List.mem_cons_of_mem _ (List.mem_cons_of_mem _ (List.mem_cons_of_mem _ (List.mem_cons_of_mem _ (List.mem_cons_of_mem _ (List.mem_cons_self)))))))))))))))))))))))))))))))))))))))))))))))))))))
  xm_InvalidAmount := exmB_ok (exB_at e (List.mem_cons_of_mem _ (List.mem_cons_of_mem _ (List.mem_cons_of_mem _ (List.mem_cons_of_mem _ (List.mem_cons_of_mem _ (List.mem_cons_of_mem _ (List.mem_cons_of_mem _ (List.mem_cons_of_mem _ (List.mem_cons_of_mem _ (List.mem_cons_of_mem _ (List.mem_cons_of_mem _ (List.mem_cons_of_mem _ (List.mem_cons_of_mem _ (List.mem_cons_of_mem _ (List.mem_cons_of_mem _ (List.mem_cons_of_mem _ (List.mem_cons_of_mem _ (List.mem_cons_of_mem _ (List.mem_cons_of_mem _ (List.mem_cons_of_mem _ (List.mem_cons_of_mem _ (List.mem_cons_of_mem _ (List.mem_cons_of_mem _ (List.mem_cons_of_mem _ (List.mem_cons_of_mem _ (List.mem_cons_of_mem _ (List.mem_cons_of_mem _ (List.mem_cons_of_mem _ (List.mem_cons_of_mem _ (List.mem_cons_of_mem _ (List.mem_cons_of_mem _ (List.mem_cons_of_mem _ (List.mem_cons_of_mem _ (List.mem_cons_of_mem _ (List.mem_cons_of_mem _ (List.mem_cons_of_mem _ (List.mem_cons_of_mem _ (List.mem_cons_of_mem _ (List.mem_cons_of_mem _ (List.mem_cons_of_mem _ (List.mem_cons_of_mem _ (List.mem_cons_of_mem _ (List.mem_cons_of_mem _ (List.mem_cons_of_mem _ (List.mem_cons_of_mem _ (List.mem_cons_of_mem _ (List.mem_cons_of_mem _ (List.mem_cons_of_mem _ (List.mem_cons_of_mem _ (List.mem_cons_of_mem _ (List.mem_cons_of_mem _ (List.mem_cons_of_mem _ (List.mem_cons_self))))))))))))))))))))))))))))))))))))))))))))))))))))))
  wf := rfl
theorem all_ok {P : Program} (eP : P = PySem.Challenge.rw_risingfill_k05_bundle_amounts.prog) {w : World} {K : PySem.W.Frag} {h : Heap} {mg : Str → Option Value} {fa : Addr} (X : K.In h) (G : h.Ns mainGlobals mg) (hfa : mg ("law" : Str) = some (.ref fa)) (c : SaysX fnL xdL exB K) :
    ∃ fd : FuncData, (∀ (s : Shared) (v : Value), BindsTo s fd ⟨[v], []⟩ [("_law_script", v)]) ∧ ∀ base : Heap, K.In base → base.Ns mainGlobals mg → FnOk P w K mg base (L2.CX P w) 19 fa fd ["_law_script"] (spOf (WK K) S_law) := by
  have T := txt_of X G c.f.ex
  obtain ⟨fd_GoodError_init, cc_GoodError_init, cda_GoodError_init, M_GoodError_init, e1_GoodError_init, e2_GoodError_init⟩ := sup_of (P := P) (d := xD_GoodError_init) (c.at_ 0) rfl (by rw [eP]; exact (exB_at c.f.ex (List.mem_cons_of_mem _ (List.mem_cons_of_mem _ (List.mem_cons_of_mem _ (List.mem_cons_of_mem _ (List.mem_cons_of_mem _ (List.mem_cons_of_mem _ (List.mem_cons_of_mem _ (List.mem_cons_of_mem _ (List.mem_cons_of_mem _ (List.mem_cons_of_mem _ (List.mem_cons_of_mem _ (List.mem_cons_of_mem _ (List.mem_cons_of_mem _ (List.mem_cons_of_mem _ (List.mem_cons_of_mem _ (List.mem_cons_of_mem _ (List.mem_cons_of_mem _ (List.mem_cons_of_mem _ (List.mem_cons_of_mem _ (List.mem_cons_of_mem _ (List.mem_cons_of_mem _ (List.mem_cons_of_mem _ (List.mem_cons_of_mem _ (List.mem_cons_of_mem _ (List.mem_cons_of_mem _ (List.mem_cons_of_mem _ (List.mem_cons_of_mem _ (List.mem_cons_of_mem _ (List.mem_cons_of_mem _ (List.mem_cons_of_mem _ (List.mem_cons_of_mem _ (List.mem_cons_of_mem _ (List.mem_cons_of_mem _ (List.mem_cons_of_mem _ (List.mem_cons_of_mem _ (List.mem_cons_of_mem _ (List.mem_cons_of_mem _ (List.mem_cons_of_mem _ (List.mem_cons_of_mem _ (List.mem_cons_of_mem _ (List.mem_cons_of_mem _ (List.mem_cons_of_mem _ (List.mem_cons_of_mem _ (List.mem_cons_of_mem _ (List.mem_cons_of_mem _ (List.mem_cons_of_mem _ (List.mem_cons_of_mem _ (List.mem_cons_of_mem _ (List.mem_cons_of_mem _ (List.mem_cons_of_mem _ (List.mem_cons_of_mem _ (List.mem_cons_of_mem _ (List.mem_cons_of_mem _ (List.mem_cons_of_mem _ (List.mem_cons_of_mem _ (List.mem_cons_of_mem _ (List.mem_cons_of_mem _ (List.mem_cons_of_mem _ (List.mem_cons_of_mem _ (List.mem_cons_of_mem _ (List.mem_cons_of_mem _ (List.mem_cons_of_mem _ (List.mem_cons_of_mem _ (List.mem_cons_of_mem _ (List.mem_cons_of_mem _ (List.mem_cons_of_mem _ (List.mem_cons_of_mem _ (List.mem_cons_of_mem _ (List.mem_cons_of_mem _ (List.mem_cons_of_mem _ (List.mem_cons_of_mem _ (List.mem_cons_of_mem _ (List.mem_cons_self))))))))))))))))))))))))))))))))))))))))))))))))))))))))))))))))))))))))))) (by rw [eP]; rfl)
  obtain ⟨fd_Bundle_single, F_Bundle_single⟩ := st_funD (d := xD_Bundle_single) (dfl := [.int 1]) (c.at_ 1) rfl (exB_at c.f.ex (List.mem_cons_of_mem _ (List.mem_cons_of_mem _ (List.mem_cons_of_mem _ (List.mem_cons_of_mem _ (List.mem_cons_of_mem _ (List.mem_cons_of_mem _ (List.mem_cons_of_mem _ (List.mem_cons_of_mem _ (List.mem_cons_of_mem _ (List.mem_cons_of_mem _ (List.mem_cons_of_mem _ (List.mem_cons_of_mem _ (List.mem_cons_of_mem _ (List.mem_cons_of_mem _ (List.mem_cons_of_mem _ (List.mem_cons_of_mem _ (List.mem_cons_of_mem _ (List.mem_cons_of_mem _ (List.mem_cons_of_mem _ (List.mem_cons_of_mem _ (List.mem_cons_of_mem _ (List.mem_cons_of_mem _ (List.mem_cons_of_mem _ (List.mem_cons_of_mem _ (List.mem_cons_of_mem _ (List.mem_cons_of_mem _ (List.mem_cons_of_mem _ (List.mem_cons_of_mem _ (List.mem_cons_of_mem _ (List.mem_cons_of_mem _ (List.mem_cons_of_mem _ (List.mem_cons_of_mem _ (List.mem_cons_of_mem _ (List.mem_cons_of_mem _ (List.mem_cons_of_mem _ (List.mem_cons_of_mem _ (List.mem_cons_of_mem _ (List.mem_cons_of_mem _ (List.mem_cons_of_mem _ (List.mem_cons_of_mem _ (List.mem_cons_of_mem _ (List.mem_cons_of_mem _ (List.mem_cons_of_mem _ (List.mem_cons_of_mem _ (List.mem_cons_of_mem _ (List.mem_cons_of_mem _ (List.mem_cons_of_mem _ (List.mem_cons_of_mem _ (List.mem_cons_of_mem _ (List.mem_cons_of_mem _ (List.mem_cons_of_mem _ (List.mem_cons_of_mem _ (List.mem_cons_of_mem _ (List.mem_cons_of_mem _ (List.mem_cons_of_mem _ (List.mem_cons_of_mem _ (List.mem_cons_of_mem _ (List.mem_cons_of_mem _ (List.mem_cons_of_mem _ (List.mem_cons_of_mem _ (List.mem_cons_of_mem _ (List.mem_cons_of_mem _ (List.mem_cons_of_mem _ (List.mem_cons_of_mem _ (List.mem_cons_of_mem _ (List.mem_cons_of_mem _ (List.mem_cons_of_mem _ (List.mem_cons_of_mem _ (List.mem_cons_of_mem _ (List.mem_cons_of_mem _ (List.mem_cons_of_mem _ (List.mem_cons_of_mem _ (List.mem_cons_of_mem _ (List.mem_cons_self)))))))))))))))))))))))))))))))))))))))))))))))))))))))))))))))))))))))))))
  obtain ⟨fd_l_tape, F_l_tape⟩ := c.f.d.def_ 0 (d := dD_l_tape) rfl
  obtain ⟨fd_l_take, F_l_take⟩ := c.f.d.def_ 1 (d := dD_l_take) rfl
  obtain ⟨fd_l_word, F_l_word⟩ := c.f.d.def_ 2 (d := dD_l_word) rfl
  obtain ⟨fd_l_names, F_l_names⟩ := c.f.d.def_ 3 (d := dD_l_names) rfl
  obtain ⟨fd_l_gcd, F_l_gcd⟩ := c.f.d.def_ 4 (d := dD_l_gcd) rfl
  obtain ⟨fd_l_low, F_l_low⟩ := c.f.d.def_ 5 (d := dD_l_low) rfl
  obtain ⟨fd_l_amount, F_l_amount⟩ := c.f.d.def_ 6 (d := dD_l_amount) rfl
  obtain ⟨fd_l_need, F_l_need⟩ := c.f.d.def_ 7 (d := dD_l_need) rfl
  obtain ⟨fd_Ratio_init, F_Ratio_init⟩ := c.f.d.def_ 8 (d := dD_Ratio_init) rfl
  rw [show He.fAd K dD_Ratio_init.at_ = adrOf (PySem.W.findIn K (.ref ((WK K).cl 0)) "__init__") from ma_eq] at F_Ratio_init
  obtain ⟨fd_l_number, F_l_number⟩ := c.f.d.def_ 9 (d := dD_l_number) rfl
  obtain ⟨fd_l_dict, F_l_dict⟩ := c.f.d.def_ 10 (d := dD_l_dict) rfl
  obtain ⟨fd_Bundle_iter, F_Bundle_iter⟩ := c.f.d.def_ 11 (d := dD_Bundle_iter) rfl
  rw [show He.fAd K dD_Bundle_iter.at_ = adrOf (PySem.W.findIn K (.ref ((WK K).cl 17)) "__iter__") from ma_eq] at F_Bundle_iter
  obtain ⟨fd_ordered, F_ordered⟩ := c.f.d.def_ 12 (d := dD_ordered) rfl
  obtain ⟨fd_as_ratio, F_as_ratio⟩ := c.f.d.def_ 13 (d := dD_as_ratio) rfl
  obtain ⟨fd_Ratio_lt, F_Ratio_lt⟩ := c.f.d.def_ 14 (d := dD_Ratio_lt) rfl
  rw [show He.fAd K dD_Ratio_lt.at_ = adrOf (PySem.W.findIn K (.ref ((WK K).cl 0)) "__lt__") from ma_eq] at F_Ratio_lt
  obtain ⟨fd_Ratio_gt, F_Ratio_gt⟩ := c.f.d.def_ 15 (d := dD_Ratio_gt) rfl
  rw [show He.fAd K dD_Ratio_gt.at_ = adrOf (PySem.W.findIn K (.ref ((WK K).cl 0)) "__gt__") from ma_eq] at F_Ratio_gt
  obtain ⟨fd_Bundle_getitem, F_Bundle_getitem⟩ := c.f.d.def_ 16 (d := dD_Bundle_getitem) rfl
  rw [show He.fAd K dD_Bundle_getitem.at_ = adrOf (PySem.W.findIn K (.ref ((WK K).cl 17)) "__getitem__") from ma_eq] at F_Bundle_getitem
  obtain ⟨fd_Bundle_init, F_Bundle_init⟩ := c.f.d.def_ 17 (d := dD_Bundle_init) rfl
  rw [show He.fAd K dD_Bundle_init.at_ = adrOf (PySem.W.findIn K (.ref ((WK K).cl 17)) "__init__") from ma_eq] at F_Bundle_init
  obtain ⟨fd_l_whole, F_l_whole⟩ := c.f.d.def_ 18 (d := dD_l_whole) rfl
  obtain ⟨fd_l_pair, F_l_pair⟩ := c.f.d.def_ 19 (d := dD_l_pair) rfl
  obtain ⟨fd_Bundle_len, F_Bundle_len⟩ := c.f.d.def_ 20 (d := dD_Bundle_len) rfl
  rw [show He.fAd K dD_Bundle_len.at_ = adrOf (PySem.W.findIn K (.ref ((WK K).cl 17)) "__len__") from ma_eq] at F_Bundle_len
  obtain ⟨fd_l_read, F_l_read⟩ := c.f.d.def_ 21 (d := dD_l_read) rfl
  obtain ⟨fd_Bundle_contains, F_Bundle_contains⟩ := c.f.d.def_ 22 (d := dD_Bundle_contains) rfl
  rw [show He.fAd K dD_Bundle_contains.at_ = adrOf (PySem.W.findIn K (.ref ((WK K).cl 17)) "__contains__") from ma_eq] at F_Bundle_contains
  obtain ⟨fd_Bundle_setitem, F_Bundle_setitem⟩ := c.f.d.def_ 23 (d := dD_Bundle_setitem) rfl
  rw [show He.fAd K dD_Bundle_setitem.at_ = adrOf (PySem.W.findIn K (.ref ((WK K).cl 17)) "__setitem__") from ma_eq] at F_Bundle_setitem
  obtain ⟨fd_l_set_refused, F_l_set_refused⟩ := c.f.d.def_ 24 (d := dD_l_set_refused) rfl
  obtain ⟨fd_l_made_refused, F_l_made_refused⟩ := c.f.d.def_ 25 (d := dD_l_made_refused) rfl
  obtain ⟨fd_l_single_refused, F_l_single_refused⟩ := c.f.d.def_ 26 (d := dD_l_single_refused) rfl
  obtain ⟨fd_law, F_law⟩ := c.f.d.def_ 27 (d := dD_law) rfl
  have e := hfa.symm.trans (gloB_ok X G (exB_at c.f.ex (List.mem_cons_of_mem _ (List.mem_cons_of_mem _ (List.mem_cons_of_mem _ (List.mem_cons_of_mem _ (List.mem_cons_of_mem _ (List.mem_cons_of_mem _ (List.mem_cons_of_mem _ (List.mem_cons_of_mem _ (List.mem_cons_of_mem _ (List.mem_cons_of_mem _ (List.mem_cons_of_mem _ (List.mem_cons_of_mem _ (List.mem_cons_of_mem _ (List.mem_cons_of_mem _ (List.mem_cons_of_mem _ (List.mem_cons_of_mem _ (List.mem_cons_of_mem _ (List.mem_cons_of_mem _ (List.mem_cons_of_mem _ (List.mem_cons_of_mem _ (List.mem_cons_of_mem _ (List.mem_cons_of_mem _ (List.mem_cons_of_mem _ (List.mem_cons_of_mem _ (List.mem_cons_of_mem _ (List.mem_cons_of_mem _ (List.mem_cons_of_mem _ (List.mem_cons_of_mem _ (List.mem_cons_of_mem _ (List.mem_cons_of_mem _ (List.mem_cons_of_mem _ (List.mem_cons_of_mem _ (List.mem_cons_of_mem _ (List.mem_cons_of_mem _ (List.mem_cons_of_mem _ (List.mem_cons_of_mem _ (List.mem_cons_of_mem _ (List.mem_cons_of_mem _ (List.mem_cons_of_mem _ (List.mem_cons_of_mem _ (List.mem_cons_of_mem _ (List.mem_cons_of_mem _ (List.mem_cons_of_mem _ (List.mem_cons_of_mem _ (List.mem_cons_of_mem _ (List.mem_cons_of_mem _ (List.mem_cons_of_mem _ (List.mem_cons_of_mem _ (List.mem_cons_of_mem _ (List.mem_cons_of_mem _ (List.mem_cons_of_mem _ (List.mem_cons_of_mem _ (List.mem_cons_of_mem _ (List.mem_cons_of_mem _ (List.mem_cons_of_mem _ (List.mem_cons_of_mem _ (List.mem_cons_of_mem _ (List.mem_cons_of_mem _ (List.mem_cons_of_mem _ (List.mem_cons_of_mem _ (List.mem_cons_of_mem _ (List.mem_cons_of_mem _ (List.mem_cons_of_mem _ (List.mem_cons_of_mem _ (List.mem_cons_of_mem _ (List.mem_cons_of_mem _ (List.mem_cons_of_mem _ (List.mem_cons_of_mem _ (List.mem_cons_of_mem _ (List.mem_cons_of_mem _ (List.mem_cons_of_mem _ (List.mem_cons_self))))))))))))))))))))))))))))))))))))))))))))))))))))))))))))))))))))))))))
  cases e
  have bL := FunD.bindsA (ps := ["_law_script"]) F_law fun _ _ _ _ _ _ us hl => match us, hl with | [_], _ => rfl
  refine ⟨fd_law, fun s v => bL s [v] rfl, fun base _ _ => ?_⟩
  have b_l_tape := FunD.bindsN (ps := ["_law_script"]) F_l_tape fun _ _ _ _ _ _ us hl => match us, hl with | [_], _ => rfl
  have h_l_tape : Has P w K mg base (WK K) "_law_tape" 3 S_l_tape := has_of (ok_l_tape T  F_l_tape k_l_tape) b_l_tape (gloB_ok X G (exB_at c.f.ex (List.mem_cons_of_mem _ (List.mem_cons_of_mem _ (List.mem_cons_of_mem _ (List.mem_cons_of_mem _ (List.mem_cons_of_mem _ (List.mem_cons_of_mem _ (List.mem_cons_of_mem _ (List.mem_cons_of_mem _ (List.mem_cons_of_mem _ (List.mem_cons_of_mem _ (List.mem_cons_of_mem _ (List.mem_cons_of_mem _ (List.mem_cons_of_mem _ (List.mem_cons_of_mem _ (List.mem_cons_of_mem _ (List.mem_cons_of_mem _ (List.mem_cons_of_mem _ (List.mem_cons_of_mem _ (List.mem_cons_of_mem _ (List.mem_cons_of_mem _ (List.mem_cons_of_mem _ (List.mem_cons_of_mem _ (List.mem_cons_of_mem _ (List.mem_cons_of_mem _ (List.mem_cons_of_mem _ (List.mem_cons_of_mem _ (List.mem_cons_of_mem _ (List.mem_cons_of_mem _ (List.mem_cons_of_mem _ (List.mem_cons_of_mem _ (List.mem_cons_of_mem _ (List.mem_cons_of_mem _ (List.mem_cons_of_mem _ (List.mem_cons_of_mem _ (List.mem_cons_of_mem _ (List.mem_cons_of_mem _ (List.mem_cons_of_mem _ (List.mem_cons_of_mem _ (List.mem_cons_of_mem _ (List.mem_cons_of_mem _ (List.mem_cons_of_mem _ (List.mem_cons_of_mem _ (List.mem_cons_of_mem _ (List.mem_cons_of_mem _ (List.mem_cons_of_mem _ (List.mem_cons_of_mem _ (List.mem_cons_of_mem _ (List.mem_cons_of_mem _ (List.mem_cons_of_mem _ (List.mem_cons_of_mem _ (List.mem_cons_of_mem _ (List.mem_cons_of_mem _ (List.mem_cons_of_mem _ (List.mem_cons_self)))))))))))))))))))))))))))))))))))))))))))))))))))))))) F_l_tape.kp
  have b_l_take := FunD.bindsN (ps := ["_law_tape_here", "_law_many"]) F_l_take fun _ _ _ _ _ _ us hl => match us, hl with | [_, _], _ => rfl
  have h_l_take : Has P w K mg base (WK K) "_law_take" 3 S_l_take := has_of (ok_l_take T  F_l_take k_l_take) b_l_take (gloB_ok X G (exB_at c.f.ex (List.mem_cons_of_mem _ (List.mem_cons_of_mem _ (List.mem_cons_of_mem _ (List.mem_cons_of_mem _ (List.mem_cons_of_mem _ (List.mem_cons_of_mem _ (List.mem_cons_of_mem _ (List.mem_cons_of_mem _ (List.mem_cons_of_mem _ (List.mem_cons_of_mem _ (List.mem_cons_of_mem _ (List.mem_cons_of_mem _ (List.mem_cons_of_mem _ (List.mem_cons_of_mem _ (List.mem_cons_of_mem _ (List.mem_cons_of_mem _ (List.mem_cons_of_mem _ (List.mem_cons_of_mem _ (List.mem_cons_of_mem _ (List.mem_cons_of_mem _ (List.mem_cons_of_mem _ (List.mem_cons_of_mem _ (List.mem_cons_of_mem _ (List.mem_cons_of_mem _ (List.mem_cons_of_mem _ (List.mem_cons_of_mem _ (List.mem_cons_of_mem _ (List.mem_cons_of_mem _ (List.mem_cons_of_mem _ (List.mem_cons_of_mem _ (List.mem_cons_of_mem _ (List.mem_cons_of_mem _ (List.mem_cons_of_mem _ (List.mem_cons_of_mem _ (List.mem_cons_of_mem _ (List.mem_cons_of_mem _ (List.mem_cons_of_mem _ (List.mem_cons_of_mem _ (List.mem_cons_of_mem _ (List.mem_cons_of_mem _ (List.mem_cons_of_mem _ (List.mem_cons_of_mem _ (List.mem_cons_of_mem _ (List.mem_cons_of_mem _ (List.mem_cons_of_mem _ (List.mem_cons_of_mem _ (List.mem_cons_of_mem _ (List.mem_cons_of_mem _ (List.mem_cons_of_mem _ (List.mem_cons_of_mem _ (List.mem_cons_of_mem _ (List.mem_cons_of_mem _ (List.mem_cons_of_mem _ (List.mem_cons_of_mem _ (List.mem_cons_self))))))))))))))))))))))))))))))))))))))))))))))))))))))))) F_l_take.kp
  have b_l_word := FunD.bindsN (ps := ["_law_number_here"]) F_l_word fun _ _ _ _ _ _ us hl => match us, hl with | [_], _ => rfl
  have h_l_word : Has P w K mg base (WK K) "_law_word" 3 S_l_word := has_of (ok_l_word T  F_l_word k_l_word) b_l_word (gloB_ok X G (exB_at c.f.ex (List.mem_cons_of_mem _ (List.mem_cons_of_mem _ (List.mem_cons_of_mem _ (List.mem_cons_of_mem _ (List.mem_cons_of_mem _ (List.mem_cons_of_mem _ (List.mem_cons_of_mem _ (List.mem_cons_of_mem _ (List.mem_cons_of_mem _ (List.mem_cons_of_mem _ (List.mem_cons_of_mem _ (List.mem_cons_of_mem _ (List.mem_cons_of_mem _ (List.mem_cons_of_mem _ (List.mem_cons_of_mem _ (List.mem_cons_of_mem _ (List.mem_cons_of_mem _ (List.mem_cons_of_mem _ (List.mem_cons_of_mem _ (List.mem_cons_of_mem _ (List.mem_cons_of_mem _ (List.mem_cons_of_mem _ (List.mem_cons_of_mem _ (List.mem_cons_of_mem _ (List.mem_cons_of_mem _ (List.mem_cons_of_mem _ (List.mem_cons_of_mem _ (List.mem_cons_of_mem _ (List.mem_cons_of_mem _ (List.mem_cons_of_mem _ (List.mem_cons_of_mem _ (List.mem_cons_of_mem _ (List.mem_cons_of_mem _ (List.mem_cons_of_mem _ (List.mem_cons_of_mem _ (List.mem_cons_of_mem _ (List.mem_cons_of_mem _ (List.mem_cons_of_mem _ (List.mem_cons_of_mem _ (List.mem_cons_of_mem _ (List.mem_cons_of_mem _ (List.mem_cons_of_mem _ (List.mem_cons_of_mem _ (List.mem_cons_of_mem _ (List.mem_cons_of_mem _ (List.mem_cons_of_mem _ (List.mem_cons_of_mem _ (List.mem_cons_of_mem _ (List.mem_cons_of_mem _ (List.mem_cons_of_mem _ (List.mem_cons_of_mem _ (List.mem_cons_of_mem _ (List.mem_cons_of_mem _ (List.mem_cons_of_mem _ (List.mem_cons_of_mem _ (List.mem_cons_self)))))))))))))))))))))))))))))))))))))))))))))))))))))))))) F_l_word.kp
  have b_l_names := FunD.bindsN (ps := ["_law_tape_here", "_law_many"]) F_l_names fun _ _ _ _ _ _ us hl => match us, hl with | [_, _], _ => rfl
  have h_l_names : Has P w K mg base (WK K) "_law_names" 4 S_l_names := has_of (ok_l_names T h_l_take h_l_word F_l_names k_l_names) b_l_names (gloB_ok X G (exB_at c.f.ex (List.mem_cons_of_mem _ (List.mem_cons_of_mem _ (List.mem_cons_of_mem _ (List.mem_cons_of_mem _ (List.mem_cons_of_mem _ (List.mem_cons_of_mem _ (List.mem_cons_of_mem _ (List.mem_cons_of_mem _ (List.mem_cons_of_mem _ (List.mem_cons_of_mem _ (List.mem_cons_of_mem _ (List.mem_cons_of_mem _ (List.mem_cons_of_mem _ (List.mem_cons_of_mem _ (List.mem_cons_of_mem _ (List.mem_cons_of_mem _ (List.mem_cons_of_mem _ (List.mem_cons_of_mem _ (List.mem_cons_of_mem _ (List.mem_cons_of_mem _ (List.mem_cons_of_mem _ (List.mem_cons_of_mem _ (List.mem_cons_of_mem _ (List.mem_cons_of_mem _ (List.mem_cons_of_mem _ (List.mem_cons_of_mem _ (List.mem_cons_of_mem _ (List.mem_cons_of_mem _ (List.mem_cons_of_mem _ (List.mem_cons_of_mem _ (List.mem_cons_of_mem _ (List.mem_cons_of_mem _ (List.mem_cons_of_mem _ (List.mem_cons_of_mem _ (List.mem_cons_of_mem _ (List.mem_cons_of_mem _ (List.mem_cons_of_mem _ (List.mem_cons_of_mem _ (List.mem_cons_of_mem _ (List.mem_cons_of_mem _ (List.mem_cons_of_mem _ (List.mem_cons_of_mem _ (List.mem_cons_of_mem _ (List.mem_cons_of_mem _ (List.mem_cons_of_mem _ (List.mem_cons_of_mem _ (List.mem_cons_of_mem _ (List.mem_cons_of_mem _ (List.mem_cons_of_mem _ (List.mem_cons_of_mem _ (List.mem_cons_of_mem _ (List.mem_cons_of_mem _ (List.mem_cons_of_mem _ (List.mem_cons_of_mem _ (List.mem_cons_of_mem _ (List.mem_cons_of_mem _ (List.mem_cons_self))))))))))))))))))))))))))))))))))))))))))))))))))))))))))) F_l_names.kp
  have b_l_gcd := FunD.bindsN (ps := ["_law_a", "_law_b"]) F_l_gcd fun _ _ _ _ _ _ us hl => match us, hl with | [_, _], _ => rfl
  have h_l_gcd : Has P w K mg base (WK K) "_law_gcd" 3 S_l_gcd := has_of (ok_l_gcd T  F_l_gcd k_l_gcd) b_l_gcd (gloB_ok X G (exB_at c.f.ex (List.mem_cons_of_mem _ (List.mem_cons_of_mem _ (List.mem_cons_of_mem _ (List.mem_cons_of_mem _ (List.mem_cons_of_mem _ (List.mem_cons_of_mem _ (List.mem_cons_of_mem _ (List.mem_cons_of_mem _ (List.mem_cons_of_mem _ (List.mem_cons_of_mem _ (List.mem_cons_of_mem _ (List.mem_cons_of_mem _ (List.mem_cons_of_mem _ (List.mem_cons_of_mem _ (List.mem_cons_of_mem _ (List.mem_cons_of_mem _ (List.mem_cons_of_mem _ (List.mem_cons_of_mem _ (List.mem_cons_of_mem _ (List.mem_cons_of_mem _ (List.mem_cons_of_mem _ (List.mem_cons_of_mem _ (List.mem_cons_of_mem _ (List.mem_cons_of_mem _ (List.mem_cons_of_mem _ (List.mem_cons_of_mem _ (List.mem_cons_of_mem _ (List.mem_cons_of_mem _ (List.mem_cons_of_mem _ (List.mem_cons_of_mem _ (List.mem_cons_of_mem _ (List.mem_cons_of_mem _ (List.mem_cons_of_mem _ (List.mem_cons_of_mem _ (List.mem_cons_of_mem _ (List.mem_cons_of_mem _ (List.mem_cons_of_mem _ (List.mem_cons_of_mem _ (List.mem_cons_of_mem _ (List.mem_cons_of_mem _ (List.mem_cons_of_mem _ (List.mem_cons_of_mem _ (List.mem_cons_of_mem _ (List.mem_cons_of_mem _ (List.mem_cons_of_mem _ (List.mem_cons_of_mem _ (List.mem_cons_of_mem _ (List.mem_cons_of_mem _ (List.mem_cons_of_mem _ (List.mem_cons_of_mem _ (List.mem_cons_of_mem _ (List.mem_cons_of_mem _ (List.mem_cons_of_mem _ (List.mem_cons_of_mem _ (List.mem_cons_of_mem _ (List.mem_cons_of_mem _ (List.mem_cons_of_mem _ (List.mem_cons_self)))))))))))))))))))))))))))))))))))))))))))))))))))))))))))) F_l_gcd.kp
  have b_l_low := FunD.bindsN (ps := ["_law_top", "_law_bottom"]) F_l_low fun _ _ _ _ _ _ us hl => match us, hl with | [_, _], _ => rfl
  have h_l_low : Has P w K mg base (WK K) "_law_low" 4 S_l_low := has_of (ok_l_low T h_l_gcd F_l_low k_l_low) b_l_low (gloB_ok X G (exB_at c.f.ex (List.mem_cons_of_mem _ (List.mem_cons_of_mem _ (List.mem_cons_of_mem _ (List.mem_cons_of_mem _ (List.mem_cons_of_mem _ (List.mem_cons_of_mem _ (List.mem_cons_of_mem _ (List.mem_cons_of_mem _ (List.mem_cons_of_mem _ (List.mem_cons_of_mem _ (List.mem_cons_of_mem _ (List.mem_cons_of_mem _ (List.mem_cons_of_mem _ (List.mem_cons_of_mem _ (List.mem_cons_of_mem _ (List.mem_cons_of_mem _ (List.mem_cons_of_mem _ (List.mem_cons_of_mem _ (List.mem_cons_of_mem _ (List.mem_cons_of_mem _ (List.mem_cons_of_mem _ (List.mem_cons_of_mem _ (List.mem_cons_of_mem _ (List.mem_cons_of_mem _ (List.mem_cons_of_mem _ (List.mem_cons_of_mem _ (List.mem_cons_of_mem _ (List.mem_cons_of_mem _ (List.mem_cons_of_mem _ (List.mem_cons_of_mem _ (List.mem_cons_of_mem _ (List.mem_cons_of_mem _ (List.mem_cons_of_mem _ (List.mem_cons_of_mem _ (List.mem_cons_of_mem _ (List.mem_cons_of_mem _ (List.mem_cons_of_mem _ (List.mem_cons_of_mem _ (List.mem_cons_of_mem _ (List.mem_cons_of_mem _ (List.mem_cons_of_mem _ (List.mem_cons_of_mem _ (List.mem_cons_of_mem _ (List.mem_cons_of_mem _ (List.mem_cons_of_mem _ (List.mem_cons_of_mem _ (List.mem_cons_of_mem _ (List.mem_cons_of_mem _ (List.mem_cons_of_mem _ (List.mem_cons_of_mem _ (List.mem_cons_of_mem _ (List.mem_cons_of_mem _ (List.mem_cons_of_mem _ (List.mem_cons_of_mem _ (List.mem_cons_of_mem _ (List.mem_cons_of_mem _ (List.mem_cons_of_mem _ (List.mem_cons_of_mem _ (List.mem_cons_self))))))))))))))))))))))))))))))))))))))))))))))))))))))))))))) F_l_low.kp
  have b_l_amount := FunD.bindsN (ps := ["_law_tape_here"]) F_l_amount fun _ _ _ _ _ _ us hl => match us, hl with | [_], _ => rfl
  have h_l_amount : Has P w K mg base (WK K) "_law_amount" 5 S_l_amount := has_of (ok_l_amount T h_l_take h_l_low F_l_amount k_l_amount) b_l_amount (gloB_ok X G (exB_at c.f.ex (List.mem_cons_of_mem _ (List.mem_cons_of_mem _ (List.mem_cons_of_mem _ (List.mem_cons_of_mem _ (List.mem_cons_of_mem _ (List.mem_cons_of_mem _ (List.mem_cons_of_mem _ (List.mem_cons_of_mem _ (List.mem_cons_of_mem _ (List.mem_cons_of_mem _ (List.mem_cons_of_mem _ (List.mem_cons_of_mem _ (List.mem_cons_of_mem _ (List.mem_cons_of_mem _ (List.mem_cons_of_mem _ (List.mem_cons_of_mem _ (List.mem_cons_of_mem _ (List.mem_cons_of_mem _ (List.mem_cons_of_mem _ (List.mem_cons_of_mem _ (List.mem_cons_of_mem _ (List.mem_cons_of_mem _ (List.mem_cons_of_mem _ (List.mem_cons_of_mem _ (List.mem_cons_of_mem _ (List.mem_cons_of_mem _ (List.mem_cons_of_mem _ (List.mem_cons_of_mem _ (List.mem_cons_of_mem _ (List.mem_cons_of_mem _ (List.mem_cons_of_mem _ (List.mem_cons_of_mem _ (List.mem_cons_of_mem _ (List.mem_cons_of_mem _ (List.mem_cons_of_mem _ (List.mem_cons_of_mem _ (List.mem_cons_of_mem _ (List.mem_cons_of_mem _ (List.mem_cons_of_mem _ (List.mem_cons_of_mem _ (List.mem_cons_of_mem _ (List.mem_cons_of_mem _ (List.mem_cons_of_mem _ (List.mem_cons_of_mem _ (List.mem_cons_of_mem _ (List.mem_cons_of_mem _ (List.mem_cons_of_mem _ (List.mem_cons_of_mem _ (List.mem_cons_of_mem _ (List.mem_cons_of_mem _ (List.mem_cons_of_mem _ (List.mem_cons_of_mem _ (List.mem_cons_of_mem _ (List.mem_cons_of_mem _ (List.mem_cons_of_mem _ (List.mem_cons_of_mem _ (List.mem_cons_of_mem _ (List.mem_cons_of_mem _ (List.mem_cons_of_mem _ (List.mem_cons_self)))))))))))))))))))))))))))))))))))))))))))))))))))))))))))))) F_l_amount.kp
  have b_l_need := FunD.bindsN (ps := ["_law_tape_here"]) F_l_need fun _ _ _ _ _ _ us hl => match us, hl with | [_], _ => rfl
  have h_l_need : Has P w K mg base (WK K) "_law_need" 6 S_l_need := has_of (ok_l_need T h_l_take h_l_amount F_l_need k_l_need) b_l_need (gloB_ok X G (exB_at c.f.ex (List.mem_cons_of_mem _ (List.mem_cons_of_mem _ (List.mem_cons_of_mem _ (List.mem_cons_of_mem _ (List.mem_cons_of_mem _ (List.mem_cons_of_mem _ (List.mem_cons_of_mem _ (List.mem_cons_of_mem _ (List.mem_cons_of_mem _ (List.mem_cons_of_mem _ (List.mem_cons_of_mem _ (List.mem_cons_of_mem _ (List.mem_cons_of_mem _ (List.mem_cons_of_mem _ (List.mem_cons_of_mem _ (List.mem_cons_of_mem _ (List.mem_cons_of_mem _ (List.mem_cons_of_mem _ (List.mem_cons_of_mem _ (List.mem_cons_of_mem _ (List.mem_cons_of_mem _ (List.mem_cons_of_mem _ (List.mem_cons_of_mem _ (List.mem_cons_of_mem _ (List.mem_cons_of_mem _ (List.mem_cons_of_mem _ (List.mem_cons_of_mem _ (List.mem_cons_of_mem _ (List.mem_cons_of_mem _ (List.mem_cons_of_mem _ (List.mem_cons_of_mem _ (List.mem_cons_of_mem _ (List.mem_cons_of_mem _ (List.mem_cons_of_mem _ (List.mem_cons_of_mem _ (List.mem_cons_of_mem _ (List.mem_cons_of_mem _ (List.mem_cons_of_mem _ (List.mem_cons_of_mem _ (List.mem_cons_of_mem _ (List.mem_cons_of_mem _ (List.mem_cons_of_mem _ (List.mem_cons_of_mem _ (List.mem_cons_of_mem _ (List.mem_cons_of_mem _ (List.mem_cons_of_mem _ (List.mem_cons_of_mem _ (List.mem_cons_of_mem _ (List.mem_cons_of_mem _ (List.mem_cons_of_mem _ (List.mem_cons_of_mem _ (List.mem_cons_of_mem _ (List.mem_cons_of_mem _ (List.mem_cons_of_mem _ (List.mem_cons_of_mem _ (List.mem_cons_of_mem _ (List.mem_cons_of_mem _ (List.mem_cons_of_mem _ (List.mem_cons_of_mem _ (List.mem_cons_of_mem _ (List.mem_cons_self))))))))))))))))))))))))))))))))))))))))))))))))))))))))))))))) F_l_need.kp
  obtain ⟨ds0, hd0, b0⟩ := FunD.binds1 (ps := ["self", "top", "bottom"]) F_Ratio_init 2 0 (by simp [He.DefD.dvs, dD_Ratio_init]) rfl fun _ _ _ _ _ _ _ us its hl hi => match us, hl, its, hi with | [_, _], _, [_], _ => ⟨_, rfl, rfl⟩
  obtain ⟨ds1, hd1, b1⟩ := FunD.binds1 (ps := ["self", "top", "bottom"]) F_Ratio_init 3 1 (by simp [He.DefD.dvs, dD_Ratio_init]) rfl fun _ _ _ _ _ _ _ us its hl hi => match us, hl, its, hi with | [_, _, _], _, [_], _ => ⟨_, rfl, rfl⟩
  have hd1 : Vals [] ds1 := hd1
  cases hd1
  have h_Ratio_init : FnR P w K mg base (L2.CX P w) 1 _ (spRI2 ((WK K).cl 0) ((WK K).cl 2)) := rinit_of (ok_Ratio_init T F_Ratio_init) b1 b0 hd0
  have b_l_number := FunD.bindsN (ps := ["_law_tape_here", "_law_pair_here"]) F_l_number fun _ _ _ _ _ _ us hl => match us, hl with | [_, _], _ => rfl
  have h_l_number : Has P w K mg base (WK K) "_law_number" 5 S_l_number := has_of (ok_l_number T h_l_take h_Ratio_init F_l_number k_l_number) b_l_number (gloB_ok X G (exB_at c.f.ex (List.mem_cons_of_mem _ (List.mem_cons_of_mem _ (List.mem_cons_of_mem _ (List.mem_cons_of_mem _ (List.mem_cons_of_mem _ (List.mem_cons_of_mem _ (List.mem_cons_of_mem _ (List.mem_cons_of_mem _ (List.mem_cons_of_mem _ (List.mem_cons_of_mem _ (List.mem_cons_of_mem _ (List.mem_cons_of_mem _ (List.mem_cons_of_mem _ (List.mem_cons_of_mem _ (List.mem_cons_of_mem _ (List.mem_cons_of_mem _ (List.mem_cons_of_mem _ (List.mem_cons_of_mem _ (List.mem_cons_of_mem _ (List.mem_cons_of_mem _ (List.mem_cons_of_mem _ (List.mem_cons_of_mem _ (List.mem_cons_of_mem _ (List.mem_cons_of_mem _ (List.mem_cons_of_mem _ (List.mem_cons_of_mem _ (List.mem_cons_of_mem _ (List.mem_cons_of_mem _ (List.mem_cons_of_mem _ (List.mem_cons_of_mem _ (List.mem_cons_of_mem _ (List.mem_cons_of_mem _ (List.mem_cons_of_mem _ (List.mem_cons_of_mem _ (List.mem_cons_of_mem _ (List.mem_cons_of_mem _ (List.mem_cons_of_mem _ (List.mem_cons_of_mem _ (List.mem_cons_of_mem _ (List.mem_cons_of_mem _ (List.mem_cons_of_mem _ (List.mem_cons_of_mem _ (List.mem_cons_of_mem _ (List.mem_cons_of_mem _ (List.mem_cons_of_mem _ (List.mem_cons_of_mem _ (List.mem_cons_of_mem _ (List.mem_cons_of_mem _ (List.mem_cons_of_mem _ (List.mem_cons_of_mem _ (List.mem_cons_of_mem _ (List.mem_cons_of_mem _ (List.mem_cons_of_mem _ (List.mem_cons_of_mem _ (List.mem_cons_of_mem _ (List.mem_cons_of_mem _ (List.mem_cons_of_mem _ (List.mem_cons_of_mem _ (List.mem_cons_of_mem _ (List.mem_cons_of_mem _ (List.mem_cons_of_mem _ (List.mem_cons_self)))))))))))))))))))))))))))))))))))))))))))))))))))))))))))))))) F_l_number.kp
  have b_l_dict := FunD.bindsN (ps := ["_law_tape_here", "_law_order", "_law_goods", "_law_row", "_law_keep"]) F_l_dict fun _ _ _ _ _ _ us hl => match us, hl with | [_, _, _, _, _], _ => rfl
  have h_l_dict : Has P w K mg base (WK K) "_law_dict" 6 S_l_dict := has_of (ok_l_dict T h_l_number F_l_dict k_l_dict) b_l_dict (gloB_ok X G (exB_at c.f.ex (List.mem_cons_of_mem _ (List.mem_cons_of_mem _ (List.mem_cons_of_mem _ (List.mem_cons_of_mem _ (List.mem_cons_of_mem _ (List.mem_cons_of_mem _ (List.mem_cons_of_mem _ (List.mem_cons_of_mem _ (List.mem_cons_of_mem _ (List.mem_cons_of_mem _ (List.mem_cons_of_mem _ (List.mem_cons_of_mem _ (List.mem_cons_of_mem _ (List.mem_cons_of_mem _ (List.mem_cons_of_mem _ (List.mem_cons_of_mem _ (List.mem_cons_of_mem _ (List.mem_cons_of_mem _ (List.mem_cons_of_mem _ (List.mem_cons_of_mem _ (List.mem_cons_of_mem _ (List.mem_cons_of_mem _ (List.mem_cons_of_mem _ (List.mem_cons_of_mem _ (List.mem_cons_of_mem _ (List.mem_cons_of_mem _ (List.mem_cons_of_mem _ (List.mem_cons_of_mem _ (List.mem_cons_of_mem _ (List.mem_cons_of_mem _ (List.mem_cons_of_mem _ (List.mem_cons_of_mem _ (List.mem_cons_of_mem _ (List.mem_cons_of_mem _ (List.mem_cons_of_mem _ (List.mem_cons_of_mem _ (List.mem_cons_of_mem _ (List.mem_cons_of_mem _ (List.mem_cons_of_mem _ (List.mem_cons_of_mem _ (List.mem_cons_of_mem _ (List.mem_cons_of_mem _ (List.mem_cons_of_mem _ (List.mem_cons_of_mem _ (List.mem_cons_of_mem _ (List.mem_cons_of_mem _ (List.mem_cons_of_mem _ (List.mem_cons_of_mem _ (List.mem_cons_of_mem _ (List.mem_cons_of_mem _ (List.mem_cons_of_mem _ (List.mem_cons_of_mem _ (List.mem_cons_of_mem _ (List.mem_cons_of_mem _ (List.mem_cons_of_mem _ (List.mem_cons_of_mem _ (List.mem_cons_of_mem _ (List.mem_cons_of_mem _ (List.mem_cons_of_mem _ (List.mem_cons_of_mem _ (List.mem_cons_of_mem _ (List.mem_cons_of_mem _ (List.mem_cons_self))))))))))))))))))))))))))))))))))))))))))))))))))))))))))))))))) F_l_dict.kp
  have b_Bundle_iter := FunD.bindsN (ps := ["self"]) F_Bundle_iter fun _ _ _ _ _ _ us hl => match us, hl with | [_], _ => rfl
  have h_Bundle_iter : FnN P w K mg base 1 (adrOf (PySem.W.findIn K (.ref ((WK K).cl 17)) "__iter__")) (spIter K "amounts") := ok_iter F_Bundle_iter sc_Bundle_iter b_Bundle_iter T.no_iter
  have b_ordered := FunD.bindsN (ps := ["names"]) F_ordered fun _ _ _ _ _ _ us hl => match us, hl with | [_], _ => rfl
  have h_ordered : Has P w K mg base (WK K) "ordered" 5 S_ordered := has_of (ok_ordered T h_Bundle_iter F_ordered k_ordered) b_ordered (gloB_ok X G (exB_at c.f.ex (List.mem_cons_of_mem _ (List.mem_cons_of_mem _ (List.mem_cons_of_mem _ (List.mem_cons_of_mem _ (List.mem_cons_of_mem _ (List.mem_cons_of_mem _ (List.mem_cons_of_mem _ (List.mem_cons_of_mem _ (List.mem_cons_of_mem _ (List.mem_cons_of_mem _ (List.mem_cons_of_mem _ (List.mem_cons_of_mem _ (List.mem_cons_of_mem _ (List.mem_cons_of_mem _ (List.mem_cons_of_mem _ (List.mem_cons_of_mem _ (List.mem_cons_of_mem _ (List.mem_cons_of_mem _ (List.mem_cons_of_mem _ (List.mem_cons_of_mem _ (List.mem_cons_of_mem _ (List.mem_cons_of_mem _ (List.mem_cons_of_mem _ (List.mem_cons_of_mem _ (List.mem_cons_of_mem _ (List.mem_cons_of_mem _ (List.mem_cons_of_mem _ (List.mem_cons_of_mem _ (List.mem_cons_of_mem _ (List.mem_cons_of_mem _ (List.mem_cons_of_mem _ (List.mem_cons_of_mem _ (List.mem_cons_of_mem _ (List.mem_cons_of_mem _ (List.mem_cons_of_mem _ (List.mem_cons_of_mem _ (List.mem_cons_of_mem _ (List.mem_cons_of_mem _ (List.mem_cons_of_mem _ (List.mem_cons_of_mem _ (List.mem_cons_of_mem _ (List.mem_cons_of_mem _ (List.mem_cons_of_mem _ (List.mem_cons_of_mem _ (List.mem_cons_of_mem _ (List.mem_cons_of_mem _ (List.mem_cons_of_mem _ (List.mem_cons_of_mem _ (List.mem_cons_of_mem _ (List.mem_cons_of_mem _ (List.mem_cons_of_mem _ (List.mem_cons_of_mem _ (List.mem_cons_of_mem _ (List.mem_cons_of_mem _ (List.mem_cons_of_mem _ (List.mem_cons_of_mem _ (List.mem_cons_of_mem _ (List.mem_cons_of_mem _ (List.mem_cons_of_mem _ (List.mem_cons_of_mem _ (List.mem_cons_of_mem _ (List.mem_cons_of_mem _ (List.mem_cons_of_mem _ (List.mem_cons_self)))))))))))))))))))))))))))))))))))))))))))))))))))))))))))))))))) F_ordered.kp
  have b_as_ratio := FunD.bindsN (ps := ["number"]) F_as_ratio fun _ _ _ _ _ _ us hl => match us, hl with | [_], _ => rfl
  have h_as_ratio : Has P w K mg base (WK K) "as_ratio" 5 S_as_ratio := has_of (ok_as_ratio T h_Ratio_init F_as_ratio k_as_ratio) b_as_ratio (gloB_ok X G (exB_at c.f.ex (List.mem_cons_of_mem _ (List.mem_cons_of_mem _ (List.mem_cons_of_mem _ (List.mem_cons_of_mem _ (List.mem_cons_of_mem _ (List.mem_cons_of_mem _ (List.mem_cons_of_mem _ (List.mem_cons_of_mem _ (List.mem_cons_of_mem _ (List.mem_cons_of_mem _ (List.mem_cons_of_mem _ (List.mem_cons_of_mem _ (List.mem_cons_of_mem _ (List.mem_cons_of_mem _ (List.mem_cons_of_mem _ (List.mem_cons_of_mem _ (List.mem_cons_of_mem _ (List.mem_cons_of_mem _ (List.mem_cons_of_mem _ (List.mem_cons_of_mem _ (List.mem_cons_of_mem _ (List.mem_cons_of_mem _ (List.mem_cons_of_mem _ (List.mem_cons_of_mem _ (List.mem_cons_of_mem _ (List.mem_cons_of_mem _ (List.mem_cons_of_mem _ (List.mem_cons_of_mem _ (List.mem_cons_of_mem _ (List.mem_cons_of_mem _ (List.mem_cons_of_mem _ (List.mem_cons_of_mem _ (List.mem_cons_of_mem _ (List.mem_cons_of_mem _ (List.mem_cons_of_mem _ (List.mem_cons_of_mem _ (List.mem_cons_of_mem _ (List.mem_cons_of_mem _ (List.mem_cons_of_mem _ (List.mem_cons_of_mem _ (List.mem_cons_of_mem _ (List.mem_cons_of_mem _ (List.mem_cons_of_mem _ (List.mem_cons_of_mem _ (List.mem_cons_of_mem _ (List.mem_cons_of_mem _ (List.mem_cons_of_mem _ (List.mem_cons_of_mem _ (List.mem_cons_of_mem _ (List.mem_cons_of_mem _ (List.mem_cons_of_mem _ (List.mem_cons_of_mem _ (List.mem_cons_of_mem _ (List.mem_cons_of_mem _ (List.mem_cons_of_mem _ (List.mem_cons_of_mem _ (List.mem_cons_of_mem _ (List.mem_cons_of_mem _ (List.mem_cons_of_mem _ (List.mem_cons_of_mem _ (List.mem_cons_of_mem _ (List.mem_cons_of_mem _ (List.mem_cons_of_mem _ (List.mem_cons_of_mem _ (List.mem_cons_self))))))))))))))))))))))))))))))))))))))))))))))))))))))))))))))))))) F_as_ratio.kp
  have b_Ratio_lt := FunD.bindsN (ps := ["self", "other"]) F_Ratio_lt fun _ _ _ _ _ _ us hl => match us, hl with | [_, _], _ => rfl
  have h_Ratio_lt : FnR P w K mg base (L2.CX P w) 6 _ (spOf (WK K) S_Ratio_lt) := fnR_of (ok_Ratio_lt T h_as_ratio F_Ratio_lt k_Ratio_lt) b_Ratio_lt
  have b_Ratio_gt := FunD.bindsN (ps := ["self", "other"]) F_Ratio_gt fun _ _ _ _ _ _ us hl => match us, hl with | [_, _], _ => rfl
  have h_Ratio_gt : FnR P w K mg base (L2.CX P w) 6 _ (spOf (WK K) S_Ratio_gt) := fnR_of (ok_Ratio_gt T h_as_ratio F_Ratio_gt k_Ratio_gt) b_Ratio_gt
  have b_Bundle_getitem := FunD.bindsN (ps := ["self", "good"]) F_Bundle_getitem fun _ _ _ _ _ _ us hl => match us, hl with | [_, _], _ => rfl
  have h_Bundle_getitem : FnR P w K mg base (L2.CX P w) 5 _ (spOf (WK K) S_Bundle_getitem) := fnR_of (ok_Bundle_getitem T h_Ratio_init F_Bundle_getitem k_Bundle_getitem) b_Bundle_getitem
  have b_x8 : Binds K fd_GoodError_init ["self", "good"] [] := by
    obtain ⟨oc, od, an, dV, kV, doc, pm, ct, osl, e, _⟩ := M_GoodError_init.fn
    subst e
    cases e1_GoodError_init
    cases e2_GoodError_init
    exact Binds.all fun us hl => match us, hl with | [_, _], _ => rfl
  have hx_8 : XInit P w K mg base (WK K) 8 ["self", "good"] ["good"] := ⟨fd_GoodError_init, ok_exc1 (N := ["self", "good", "__class__"]) rfl M_GoodError_init (NdefX.nscope_by (by decide +kernel)) T.no_super rfl rfl ⟨_, rfl, rfl⟩ (by intros; exact ⟨rfl, rfl, rfl, _, rfl⟩), b_x8⟩
  obtain ⟨ds0_Bundle_init, hd0_Bundle_init, b0_Bundle_init⟩ := FunD.binds1 (ps := ["self", "amounts"]) F_Bundle_init 1 0 (by simp [He.DefD.dvs, dD_Bundle_init]) rfl fun _ _ _ _ _ _ _ us its hl hi => match us, hl, its, hi with | [_], _, [_], _ => ⟨_, rfl, rfl⟩
  obtain ⟨ds1_Bundle_init, hd1_Bundle_init, b1_Bundle_init⟩ := FunD.binds1 (ps := ["self", "amounts"]) F_Bundle_init 2 1 (by simp [He.DefD.dvs, dD_Bundle_init]) rfl fun _ _ _ _ _ _ _ us its hl hi => match us, hl, its, hi with | [_, _], _, [_], _ => ⟨_, rfl, rfl⟩
  have hd1_Bundle_init : Vals [] ds1_Bundle_init := hd1_Bundle_init
  cases hd1_Bundle_init
  have h_Bundle_init : FnR P w K mg base (L2.CX P w) 10 _ (spOf (WK K) (optS S_Bundle_init 1 .et)) := fnR_opt (vd := .ref (empK K)) (ok_Bundle_init T h_ordered h_Ratio_lt h_Ratio_gt h_Bundle_getitem hx_8 h_as_ratio F_Bundle_init k_Bundle_init) b1_Bundle_init b0_Bundle_init hd0_Bundle_init (fun _ => rfl) rfl
  have b_l_whole := FunD.bindsN (ps := ["_law_x"]) F_l_whole fun _ _ _ _ _ _ us hl => match us, hl with | [_], _ => rfl
  have h_l_whole : Has P w K mg base (WK K) "_law_whole" 3 S_l_whole := has_of (ok_l_whole T  F_l_whole k_l_whole) b_l_whole (gloB_ok X G (exB_at c.f.ex (List.mem_cons_of_mem _ (List.mem_cons_of_mem _ (List.mem_cons_of_mem _ (List.mem_cons_of_mem _ (List.mem_cons_of_mem _ (List.mem_cons_of_mem _ (List.mem_cons_of_mem _ (List.mem_cons_of_mem _ (List.mem_cons_of_mem _ (List.mem_cons_of_mem _ (List.mem_cons_of_mem _ (List.mem_cons_of_mem _ (List.mem_cons_of_mem _ (List.mem_cons_of_mem _ (List.mem_cons_of_mem _ (List.mem_cons_of_mem _ (List.mem_cons_of_mem _ (List.mem_cons_of_mem _ (List.mem_cons_of_mem _ (List.mem_cons_of_mem _ (List.mem_cons_of_mem _ (List.mem_cons_of_mem _ (List.mem_cons_of_mem _ (List.mem_cons_of_mem _ (List.mem_cons_of_mem _ (List.mem_cons_of_mem _ (List.mem_cons_of_mem _ (List.mem_cons_of_mem _ (List.mem_cons_of_mem _ (List.mem_cons_of_mem _ (List.mem_cons_of_mem _ (List.mem_cons_of_mem _ (List.mem_cons_of_mem _ (List.mem_cons_of_mem _ (List.mem_cons_of_mem _ (List.mem_cons_of_mem _ (List.mem_cons_of_mem _ (List.mem_cons_of_mem _ (List.mem_cons_of_mem _ (List.mem_cons_of_mem _ (List.mem_cons_of_mem _ (List.mem_cons_of_mem _ (List.mem_cons_of_mem _ (List.mem_cons_of_mem _ (List.mem_cons_of_mem _ (List.mem_cons_of_mem _ (List.mem_cons_of_mem _ (List.mem_cons_of_mem _ (List.mem_cons_of_mem _ (List.mem_cons_of_mem _ (List.mem_cons_of_mem _ (List.mem_cons_of_mem _ (List.mem_cons_of_mem _ (List.mem_cons_of_mem _ (List.mem_cons_of_mem _ (List.mem_cons_of_mem _ (List.mem_cons_of_mem _ (List.mem_cons_of_mem _ (List.mem_cons_of_mem _ (List.mem_cons_of_mem _ (List.mem_cons_of_mem _ (List.mem_cons_of_mem _ (List.mem_cons_of_mem _ (List.mem_cons_of_mem _ (List.mem_cons_of_mem _ (List.mem_cons_self)))))))))))))))))))))))))))))))))))))))))))))))))))))))))))))))))))) F_l_whole.kp
  have b_l_pair := FunD.bindsN (ps := ["_law_ratio"]) F_l_pair fun _ _ _ _ _ _ us hl => match us, hl with | [_], _ => rfl
  have h_l_pair : Has P w K mg base (WK K) "_law_pair" 4 S_l_pair := has_of (ok_l_pair T h_l_whole h_l_gcd F_l_pair k_l_pair) b_l_pair (gloB_ok X G (exB_at c.f.ex (List.mem_cons_of_mem _ (List.mem_cons_of_mem _ (List.mem_cons_of_mem _ (List.mem_cons_of_mem _ (List.mem_cons_of_mem _ (List.mem_cons_of_mem _ (List.mem_cons_of_mem _ (List.mem_cons_of_mem _ (List.mem_cons_of_mem _ (List.mem_cons_of_mem _ (List.mem_cons_of_mem _ (List.mem_cons_of_mem _ (List.mem_cons_of_mem _ (List.mem_cons_of_mem _ (List.mem_cons_of_mem _ (List.mem_cons_of_mem _ (List.mem_cons_of_mem _ (List.mem_cons_of_mem _ (List.mem_cons_of_mem _ (List.mem_cons_of_mem _ (List.mem_cons_of_mem _ (List.mem_cons_of_mem _ (List.mem_cons_of_mem _ (List.mem_cons_of_mem _ (List.mem_cons_of_mem _ (List.mem_cons_of_mem _ (List.mem_cons_of_mem _ (List.mem_cons_of_mem _ (List.mem_cons_of_mem _ (List.mem_cons_of_mem _ (List.mem_cons_of_mem _ (List.mem_cons_of_mem _ (List.mem_cons_of_mem _ (List.mem_cons_of_mem _ (List.mem_cons_of_mem _ (List.mem_cons_of_mem _ (List.mem_cons_of_mem _ (List.mem_cons_of_mem _ (List.mem_cons_of_mem _ (List.mem_cons_of_mem _ (List.mem_cons_of_mem _ (List.mem_cons_of_mem _ (List.mem_cons_of_mem _ (List.mem_cons_of_mem _ (List.mem_cons_of_mem _ (List.mem_cons_of_mem _ (List.mem_cons_of_mem _ (List.mem_cons_of_mem _ (List.mem_cons_of_mem _ (List.mem_cons_of_mem _ (List.mem_cons_of_mem _ (List.mem_cons_of_mem _ (List.mem_cons_of_mem _ (List.mem_cons_of_mem _ (List.mem_cons_of_mem _ (List.mem_cons_of_mem _ (List.mem_cons_of_mem _ (List.mem_cons_of_mem _ (List.mem_cons_of_mem _ (List.mem_cons_of_mem _ (List.mem_cons_of_mem _ (List.mem_cons_of_mem _ (List.mem_cons_of_mem _ (List.mem_cons_of_mem _ (List.mem_cons_of_mem _ (List.mem_cons_of_mem _ (List.mem_cons_self))))))))))))))))))))))))))))))))))))))))))))))))))))))))))))))))))))) F_l_pair.kp
  have b_Bundle_len := FunD.bindsN (ps := ["self"]) F_Bundle_len fun _ _ _ _ _ _ us hl => match us, hl with | [_], _ => rfl
  have h_Bundle_len : FnR P w K mg base (L2.CX P w) 3 _ (spOf (WK K) S_Bundle_len) := fnR_of (ok_Bundle_len T  F_Bundle_len k_Bundle_len) b_Bundle_len
  have b_l_read := FunD.bindsN (ps := ["_law_bundle", "_law_goods"]) F_l_read fun _ _ _ _ _ _ us hl => match us, hl with | [_, _], _ => rfl
  have h_l_read : Has P w K mg base (WK K) "_law_read" 9 S_l_read := has_of (ok_l_read T h_Bundle_getitem h_l_pair h_Bundle_len h_Bundle_iter F_l_read k_l_read) b_l_read (gloB_ok X G (exB_at c.f.ex (List.mem_cons_of_mem _ (List.mem_cons_of_mem _ (List.mem_cons_of_mem _ (List.mem_cons_of_mem _ (List.mem_cons_of_mem _ (List.mem_cons_of_mem _ (List.mem_cons_of_mem _ (List.mem_cons_of_mem _ (List.mem_cons_of_mem _ (List.mem_cons_of_mem _ (List.mem_cons_of_mem _ (List.mem_cons_of_mem _ (List.mem_cons_of_mem _ (List.mem_cons_of_mem _ (List.mem_cons_of_mem _ (List.mem_cons_of_mem _ (List.mem_cons_of_mem _ (List.mem_cons_of_mem _ (List.mem_cons_of_mem _ (List.mem_cons_of_mem _ (List.mem_cons_of_mem _ (List.mem_cons_of_mem _ (List.mem_cons_of_mem _ (List.mem_cons_of_mem _ (List.mem_cons_of_mem _ (List.mem_cons_of_mem _ (List.mem_cons_of_mem _ (List.mem_cons_of_mem _ (List.mem_cons_of_mem _ (List.mem_cons_of_mem _ (List.mem_cons_of_mem _ (List.mem_cons_of_mem _ (List.mem_cons_of_mem _ (List.mem_cons_of_mem _ (List.mem_cons_of_mem _ (List.mem_cons_of_mem _ (List.mem_cons_of_mem _ (List.mem_cons_of_mem _ (List.mem_cons_of_mem _ (List.mem_cons_of_mem _ (List.mem_cons_of_mem _ (List.mem_cons_of_mem _ (List.mem_cons_of_mem _ (List.mem_cons_of_mem _ (List.mem_cons_of_mem _ (List.mem_cons_of_mem _ (List.mem_cons_of_mem _ (List.mem_cons_of_mem _ (List.mem_cons_of_mem _ (List.mem_cons_of_mem _ (List.mem_cons_of_mem _ (List.mem_cons_of_mem _ (List.mem_cons_of_mem _ (List.mem_cons_of_mem _ (List.mem_cons_of_mem _ (List.mem_cons_of_mem _ (List.mem_cons_of_mem _ (List.mem_cons_of_mem _ (List.mem_cons_of_mem _ (List.mem_cons_of_mem _ (List.mem_cons_of_mem _ (List.mem_cons_of_mem _ (List.mem_cons_of_mem _ (List.mem_cons_of_mem _ (List.mem_cons_of_mem _ (List.mem_cons_of_mem _ (List.mem_cons_of_mem _ (List.mem_cons_self)))))))))))))))))))))))))))))))))))))))))))))))))))))))))))))))))))))) F_l_read.kp
  have b_Bundle_contains := FunD.bindsN (ps := ["self", "good"]) F_Bundle_contains fun _ _ _ _ _ _ us hl => match us, hl with | [_, _], _ => rfl
  have h_Bundle_contains : FnR P w K mg base (L2.CX P w) 3 _ (spOf (WK K) S_Bundle_contains) := fnR_of (ok_Bundle_contains T  F_Bundle_contains k_Bundle_contains) b_Bundle_contains
  have b_Bundle_setitem := FunD.bindsN (ps := ["self", "good", "number"]) F_Bundle_setitem fun _ _ _ _ _ _ us hl => match us, hl with | [_, _, _], _ => rfl
  have h_Bundle_setitem : FnR P w K mg base (L2.CX P w) 10 _ (spOf (WK K) S_Bundle_setitem) := fnR_of (ok_Bundle_setitem T h_as_ratio h_Ratio_lt h_Ratio_gt hx_8 h_ordered F_Bundle_setitem k_Bundle_setitem) b_Bundle_setitem
  have b_l_set_refused := FunD.bindsN (ps := ["_law_bundle", "_law_good", "_law_number_here"]) F_l_set_refused fun _ _ _ _ _ _ us hl => match us, hl with | [_, _, _], _ => rfl
  have h_l_set_refused : Has P w K mg base (WK K) "_law_set_refused" 14 S_l_set_refused := has_of (ok_l_set_refused T h_Bundle_setitem F_l_set_refused k_l_set_refused) b_l_set_refused (gloB_ok X G (exB_at c.f.ex (List.mem_cons_of_mem _ (List.mem_cons_of_mem _ (List.mem_cons_of_mem _ (List.mem_cons_of_mem _ (List.mem_cons_of_mem _ (List.mem_cons_of_mem _ (List.mem_cons_of_mem _ (List.mem_cons_of_mem _ (List.mem_cons_of_mem _ (List.mem_cons_of_mem _ (List.mem_cons_of_mem _ (List.mem_cons_of_mem _ (List.mem_cons_of_mem _ (List.mem_cons_of_mem _ (List.mem_cons_of_mem _ (List.mem_cons_of_mem _ (List.mem_cons_of_mem _ (List.mem_cons_of_mem _ (List.mem_cons_of_mem _ (List.mem_cons_of_mem _ (List.mem_cons_of_mem _ (List.mem_cons_of_mem _ (List.mem_cons_of_mem _ (List.mem_cons_of_mem _ (List.mem_cons_of_mem _ (List.mem_cons_of_mem _ (List.mem_cons_of_mem _ (List.mem_cons_of_mem _ (List.mem_cons_of_mem _ (List.mem_cons_of_mem _ (List.mem_cons_of_mem _ (List.mem_cons_of_mem _ (List.mem_cons_of_mem _ (List.mem_cons_of_mem _ (List.mem_cons_of_mem _ (List.mem_cons_of_mem _ (List.mem_cons_of_mem _ (List.mem_cons_of_mem _ (List.mem_cons_of_mem _ (List.mem_cons_of_mem _ (List.mem_cons_of_mem _ (List.mem_cons_of_mem _ (List.mem_cons_of_mem _ (List.mem_cons_of_mem _ (List.mem_cons_of_mem _ (List.mem_cons_of_mem _ (List.mem_cons_of_mem _ (List.mem_cons_of_mem _ (List.mem_cons_of_mem _ (List.mem_cons_of_mem _ (List.mem_cons_of_mem _ (List.mem_cons_of_mem _ (List.mem_cons_of_mem _ (List.mem_cons_of_mem _ (List.mem_cons_of_mem _ (List.mem_cons_of_mem _ (List.mem_cons_of_mem _ (List.mem_cons_of_mem _ (List.mem_cons_of_mem _ (List.mem_cons_of_mem _ (List.mem_cons_of_mem _ (List.mem_cons_of_mem _ (List.mem_cons_of_mem _ (List.mem_cons_of_mem _ (List.mem_cons_of_mem _ (List.mem_cons_of_mem _ (List.mem_cons_of_mem _ (List.mem_cons_of_mem _ (List.mem_cons_self))))))))))))))))))))))))))))))))))))))))))))))))))))))))))))))))))))))) F_l_set_refused.kp
  have b_l_made_refused := FunD.bindsN (ps := ["_law_amounts", "_law_good"]) F_l_made_refused fun _ _ _ _ _ _ us hl => match us, hl with | [_, _], _ => rfl
  have h_l_made_refused : Has P w K mg base (WK K) "_law_made_refused" 14 S_l_made_refused := has_of (ok_l_made_refused T h_Bundle_init F_l_made_refused k_l_made_refused) b_l_made_refused (gloB_ok X G (exB_at c.f.ex (List.mem_cons_of_mem _ (List.mem_cons_of_mem _ (List.mem_cons_of_mem _ (List.mem_cons_of_mem _ (List.mem_cons_of_mem _ (List.mem_cons_of_mem _ (List.mem_cons_of_mem _ (List.mem_cons_of_mem _ (List.mem_cons_of_mem _ (List.mem_cons_of_mem _ (List.mem_cons_of_mem _ (List.mem_cons_of_mem _ (List.mem_cons_of_mem _ (List.mem_cons_of_mem _ (List.mem_cons_of_mem _ (List.mem_cons_of_mem _ (List.mem_cons_of_mem _ (List.mem_cons_of_mem _ (List.mem_cons_of_mem _ (List.mem_cons_of_mem _ (List.mem_cons_of_mem _ (List.mem_cons_of_mem _ (List.mem_cons_of_mem _ (List.mem_cons_of_mem _ (List.mem_cons_of_mem _ (List.mem_cons_of_mem _ (List.mem_cons_of_mem _ (List.mem_cons_of_mem _ (List.mem_cons_of_mem _ (List.mem_cons_of_mem _ (List.mem_cons_of_mem _ (List.mem_cons_of_mem _ (List.mem_cons_of_mem _ (List.mem_cons_of_mem _ (List.mem_cons_of_mem _ (List.mem_cons_of_mem _ (List.mem_cons_of_mem _ (List.mem_cons_of_mem _ (List.mem_cons_of_mem _ (List.mem_cons_of_mem _ (List.mem_cons_of_mem _ (List.mem_cons_of_mem _ (List.mem_cons_of_mem _ (List.mem_cons_of_mem _ (List.mem_cons_of_mem _ (List.mem_cons_of_mem _ (List.mem_cons_of_mem _ (List.mem_cons_of_mem _ (List.mem_cons_of_mem _ (List.mem_cons_of_mem _ (List.mem_cons_of_mem _ (List.mem_cons_of_mem _ (List.mem_cons_of_mem _ (List.mem_cons_of_mem _ (List.mem_cons_of_mem _ (List.mem_cons_of_mem _ (List.mem_cons_of_mem _ (List.mem_cons_of_mem _ (List.mem_cons_of_mem _ (List.mem_cons_of_mem _ (List.mem_cons_of_mem _ (List.mem_cons_of_mem _ (List.mem_cons_of_mem _ (List.mem_cons_of_mem _ (List.mem_cons_of_mem _ (List.mem_cons_of_mem _ (List.mem_cons_of_mem _ (List.mem_cons_of_mem _ (List.mem_cons_of_mem _ (List.mem_cons_self)))))))))))))))))))))))))))))))))))))))))))))))))))))))))))))))))))))))) F_l_made_refused.kp
  obtain ⟨ds0_Bundle_single, hd0_Bundle_single, b0_Bundle_single⟩ := FunD.binds1 (ps := ["good", "amount"]) F_Bundle_single 1 0 (by simp) rfl fun _ _ _ _ _ _ _ us its hl hi => match us, hl, its, hi with | [_], _, [_], _ => ⟨_, rfl, rfl⟩
  obtain ⟨ds1_Bundle_single, hd1_Bundle_single, b1_Bundle_single⟩ := FunD.binds1 (ps := ["good", "amount"]) F_Bundle_single 2 1 (by simp) rfl fun _ _ _ _ _ _ _ us its hl hi => match us, hl, its, hi with | [_, _], _, [_], _ => ⟨_, rfl, rfl⟩
  have hd1_Bundle_single : Vals [] ds1_Bundle_single := hd1_Bundle_single
  cases hd1_Bundle_single
  have h_Bundle_single : FnR P w K mg base (L2.CX P w) 14 (smA "Bundle" "single" K) (spOf (WK K) (optS S_Bundle_single 1 (.int 1))) := fnR_opt (vd := .int 1) (ok_Bundle_single T h_Bundle_init F_Bundle_single k_Bundle_single) b1_Bundle_single b0_Bundle_single hd0_Bundle_single (fun _ => rfl) rfl
  have b_l_single_refused := FunD.bindsN (ps := ["_law_good", "_law_number_here"]) F_l_single_refused fun _ _ _ _ _ _ us hl => match us, hl with | [_, _], _ => rfl
  have h_l_single_refused : Has P w K mg base (WK K) "_law_single_refused" 18 S_l_single_refused := has_of (ok_l_single_refused T h_Bundle_single F_l_single_refused k_l_single_refused) b_l_single_refused (gloB_ok X G (exB_at c.f.ex (List.mem_cons_of_mem _ (List.mem_cons_of_mem _ (List.mem_cons_of_mem _ (List.mem_cons_of_mem _ (List.mem_cons_of_mem _ (List.mem_cons_of_mem _ (List.mem_cons_of_mem _ (List.mem_cons_of_mem _ (List.mem_cons_of_mem _ (List.mem_cons_of_mem _ (List.mem_cons_of_mem _ (List.mem_cons_of_mem _ (List.mem_cons_of_mem _ (List.mem_cons_of_mem _ (List.mem_cons_of_mem _ (List.mem_cons_of_mem _ (List.mem_cons_of_mem _ (List.mem_cons_of_mem _ (List.mem_cons_of_mem _ (List.mem_cons_of_mem _ (List.mem_cons_of_mem _ (List.mem_cons_of_mem _ (List.mem_cons_of_mem _ (List.mem_cons_of_mem _ (List.mem_cons_of_mem _ (List.mem_cons_of_mem _ (List.mem_cons_of_mem _ (List.mem_cons_of_mem _ (List.mem_cons_of_mem _ (List.mem_cons_of_mem _ (List.mem_cons_of_mem _ (List.mem_cons_of_mem _ (List.mem_cons_of_mem _ (List.mem_cons_of_mem _ (List.mem_cons_of_mem _ (List.mem_cons_of_mem _ (List.mem_cons_of_mem _ (List.mem_cons_of_mem _ (List.mem_cons_of_mem _ (List.mem_cons_of_mem _ (List.mem_cons_of_mem _ (List.mem_cons_of_mem _ (List.mem_cons_of_mem _ (List.mem_cons_of_mem _ (List.mem_cons_of_mem _ (List.mem_cons_of_mem _ (List.mem_cons_of_mem _ (List.mem_cons_of_mem _ (List.mem_cons_of_mem _ (List.mem_cons_of_mem _ (List.mem_cons_of_mem _ (List.mem_cons_of_mem _ (List.mem_cons_of_mem _ (List.mem_cons_of_mem _ (List.mem_cons_of_mem _ (List.mem_cons_of_mem _ (List.mem_cons_of_mem _ (List.mem_cons_of_mem _ (List.mem_cons_of_mem _ (List.mem_cons_of_mem _ (List.mem_cons_of_mem _ (List.mem_cons_of_mem _ (List.mem_cons_of_mem _ (List.mem_cons_of_mem _ (List.mem_cons_of_mem _ (List.mem_cons_of_mem _ (List.mem_cons_of_mem _ (List.mem_cons_of_mem _ (List.mem_cons_of_mem _ (List.mem_cons_of_mem _ (List.mem_cons_self))))))))))))))))))))))))))))))))))))))))))))))))))))))))))))))))))))))))) F_l_single_refused.kp
  exact ok_law T h_l_tape h_l_take h_l_names h_l_need h_l_dict h_Bundle_init h_l_read h_Bundle_getitem h_l_pair h_Bundle_contains h_l_number h_Bundle_setitem h_l_set_refused h_Ratio_init h_l_made_refused h_Bundle_single h_l_single_refused F_law k_law
end RF
open PySem PySem.W PySem.Calls PyProof.Rows
theorem PySem.Challenge.cw_risingfill_k05_bundle_amounts_holds : PySem.Challenge.rw_risingfill_k05_bundle_amounts.Holds := by
  w_on; o_law
  refine HandSHeadRun.head_imp (r := OpenLaw.row PySem.Challenge.rw_risingfill_k05_bundle_amounts) (q := RF.qv) (H := RF.hkF) (ob := RF.obH) (M := 12000) (loose := RF.hnames) (kwd := []) RF.obH_eq RF.hrun (by rfl) (by rfl) (by rfl) (by rfl) (by first | assumption | decide +kernel) (by decide +kernel) ⟨rfl, rfl, rfl, rfl, rfl, by decide +kernel⟩ ?hw ?hc
  case hw => w_witness2
  case hc =>
    refine RF.walk_F (l := PySem.Challenge.rw_risingfill_k05_bundle_amounts) (n := 63) (k := 19) (x := "_law_script") (S := RF.S_law) rfl (by decide) (by kernel_rfl) ⟨rfl, by decide, by decide⟩ (fun ns hl => ⟨ns, rfl, rfl, hl, fun _ => rfl⟩) ?F
    intro w mg fa h Y G hmg0
    obtain ⟨K, KX, c⟩ := Y
    have hmg : mg ("law" : PySem.Str) = some (.ref fa) := hmg0
    obtain ⟨fd, hb, hF⟩ := RF.all_ok (P := (PySem.Challenge.rw_risingfill_k05_bundle_amounts).prog) rfl (w := w) KX G hmg c
    exact ⟨K, fd, RF.WK K, KX, c.f.no, hb, hF⟩
