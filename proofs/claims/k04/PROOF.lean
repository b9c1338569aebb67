import PyProof.Rows.All
import Wide.All
import OpenK.AllK
import Wide.FinOn
import HandS.ForMost
import HandS.Exc
import HandS.Slots
import HandS.Wide
import HandS.Flow
import HandS.Defaults
import HandS.ExcOwn
import HandS.WordsExc
import HandS.IsInst
import HandS.DictComp
import HandS.SlotsOwn
import HandS.Gcd
import HandS.ExcIs
import HandS.ExcField
import HandS.TryOnly
import KE.KExcIs
import HandS.FStr
import KE.KCallOwn
import KE.KFmtOwn
import PyProof.NoPylong
import KE.KStateDown
import Lean
import HandS.Ends
import HandS.Head0
import HandS.Head1
import HandS.Head2
import HandS.Head3
import HandS.HeadEnd
import HandS.HeadHook1
import HandS.HeadHook2
import KE.KOpsOwn
import PyProof.Rows.RuleN_abs
import KE.IntBitsLaws
import PyProof.InstEq
import PyProof.Conv_bool
import PySem.Challenge.RW_risingfill_k04_ratio_order
set_option Elab.async false
set_option linter.all false
set_option maxRecDepth 100000
set_option maxHeartbeats 4000000
namespace RF
open PySem PySem.Spec PyProof.Rows L2

/-! ### data -/
inductive D where
  | non | bl (b : Bool) | int (i : Int) | str (x : Str) | rat (q : Rat)
  | tup (xs : List D) | fl (xs : List D)
  | fd (ks : List Key) (vs : List D) | fdt (ks : List (List Key)) (vs : List D)
  | obj (c : Nat) (vs : List D) | ref (n : Nat) | cls (c : Nat) | ty (x : String) | exn (a : Addr) (dx : Option Addr) (c : Nat) (vs : List D)
inductive MO where
  | gone | lst (xs : List D) | dct (ks : List Key) (vs : List D) | dctT (ks : List (List Key)) (vs : List D) | ins (c : Nat) (vs : List D)
/-- where the classes stand, their fields in the order of __init__ -/
structure Wd where
  cl : Nat → Addr
  fld : Nat → List Str

/-- a frozen Ratio -/
def RatAt (W : Wd) (H : Hp) (a : Addr) (q : Rat) : Prop :=
  ∃ dx o, H a = some (.frz o (SlX.SlO a (W.cl 0) dx [some (.int q.den), some (.int q.num)])) ∧ H dx = some (.xd [])
mutual
def Rep (W : Wd) (H : Hp) : D → V → Prop
  | .non, v => v = .non
  | .bl b, v => v = .bl b
  | .int i, v => v = .int i
  | .str x, v => v = .str x
  | .rat q, v => ∃ a, v = .ref a ∧ RatAt W H a q
  | .tup ds, v => ∃ a vs, v = .ref a ∧ H a = some (.tup vs) ∧ Reps W H ds vs
  | .fl ds, v => ∃ a o vs, v = .ref a ∧ H a = some (.frz o (.lst vs)) ∧ Reps W H ds vs
  | .fd ks ds, v => ∃ a o vs, v = .ref a ∧ H a = some (.frz o (.dK (ks.zip vs))) ∧ ks.length = vs.length ∧ Reps W H ds vs
  | .fdt ks ds, v => ∃ a o vs, v = .ref a ∧ H a = some (.frz o (.dT (ks.zip vs))) ∧ ks.length = vs.length ∧ Reps W H ds vs
  | .obj c ds, v => ∃ a o dx vs, v = .ref a ∧ H a = some (.frz o (.ins (W.cl c) dx ((W.fld c).zip vs))) ∧ (W.fld c).length = vs.length ∧ Reps W H ds vs
  | .ref _, _ => False
  | .cls c, v => v = .ref (W.cl c)
  | .ty x, v => v = .ty x
  | .exn a dx c ds, v => v = .ref a ∧ ((ds = [] ∧ dx = none) ∨ ∃ d vs, ds ≠ [] ∧ dx = some d ∧ H d = some (.xd ((W.fld c).zip vs)) ∧ (W.fld c).length = vs.length ∧ Reps W H ds vs)
def Reps (W : Wd) (H : Hp) : List D → List V → Prop
  | [], vs => vs = []
  | d :: ds, vs => ∃ v r, vs = v :: r ∧ Rep W H d v ∧ Reps W H ds r
end
/-- what no step changes -/
def Fz : HO → Prop
  | .tup _ => True
  | .frz _ _ => True
  | .xd _ => True
  | _ => False
/-- frozen things stay -/
def Pers (H H' : Hp) : Prop := ∀ a o, H a = some o → Fz o → H' a = some o
theorem RatAt.mono {W : Wd} {H H' : Hp} (p : Pers H H') {a : Addr} {q : Rat} (h : RatAt W H a q) : RatAt W H' a q := by
  obtain ⟨dx, o, h1, h2⟩ := h
  exact ⟨dx, o, p _ _ h1 trivial, p _ _ h2 trivial⟩
mutual
theorem Rep.mono {W : Wd} {H H' : Hp} (p : Pers H H') : ∀ (d : D) (v : V), Rep W H d v → Rep W H' d v
  | .non, v, h => h
  | .bl b, v, h => h
  | .int i, v, h => h
  | .str x, v, h => h
  | .rat q, v, h => by obtain ⟨a, e, r⟩ := h; exact ⟨a, e, r.mono p⟩
  | .tup ds, v, h => by obtain ⟨a, vs, e, h1, r⟩ := h; exact ⟨a, vs, e, p _ _ h1 trivial, Reps.mono p ds vs r⟩
  | .fl ds, v, h => by obtain ⟨a, o, vs, e, h1, r⟩ := h; exact ⟨a, o, vs, e, p _ _ h1 trivial, Reps.mono p ds vs r⟩
  | .fd ks ds, v, h => by obtain ⟨a, o, vs, e, h1, l, r⟩ := h; exact ⟨a, o, vs, e, p _ _ h1 trivial, l, Reps.mono p ds vs r⟩
  | .fdt ks ds, v, h => by obtain ⟨a, o, vs, e, h1, l, r⟩ := h; exact ⟨a, o, vs, e, p _ _ h1 trivial, l, Reps.mono p ds vs r⟩
  | .obj c ds, v, h => by obtain ⟨a, o, dx, vs, e, h1, l, r⟩ := h; exact ⟨a, o, dx, vs, e, p _ _ h1 trivial, l, Reps.mono p ds vs r⟩
  | .ref n, v, h => h.elim
  | .cls c, v, h => h
  | .ty x, v, h => h
  | .exn a dx c ds, v, h => by
    obtain ⟨e, h⟩ := h
    refine ⟨e, h.imp (fun z => z) ?_⟩
    rintro ⟨d, vs, e0, e1, h1, l, r⟩
    exact ⟨d, vs, e0, e1, p _ _ h1 trivial, l, Reps.mono p ds vs r⟩
theorem Reps.mono {W : Wd} {H H' : Hp} (p : Pers H H') : ∀ (ds : List D) (vs : List V), Reps W H ds vs → Reps W H' ds vs
  | [], vs, h => h
  | d :: ds, vs, h => by obtain ⟨v, r, e, h1, h2⟩ := h; exact ⟨v, r, e, Rep.mono p d v h1, Reps.mono p ds r h2⟩
end
example : Rep ⟨fun _ => 0, fun _ => []⟩ (fun _ => none) (.tup [.int 3]) (.int 2) = (∃ a vs, V.int 2 = .ref a ∧ (fun _ => none : Hp) a = some (.tup vs) ∧ Reps ⟨fun _ => 0, fun _ => []⟩ (fun _ => none) [.int 3] vs) := rfl
end RF
set_option maxRecDepth 100000
set_option maxHeartbeats 4000000
namespace RF
open PySem PySem.Spec PyProof.Rows L2

/-! ### the state -/
def RepT (W : Wd) (th : List Addr) (H : Hp) (d : D) (v : V) : Prop := match d with
  | .ref n => ∃ a, th[n]? = some a ∧ v = .ref a
  | d => Rep W H d v
def RepTs (W : Wd) (th : List Addr) (H : Hp) : List D → List V → Prop
  | [], vs => vs = []
  | d :: ds, vs => ∃ v r, vs = v :: r ∧ RepT W th H d v ∧ RepTs W th H ds r
def RepM (W : Wd) (th : List Addr) (H : Hp) : MO → HO → Prop
  | .gone, _ => True
  | .lst ds, ho => ∃ vs, ho = .lst vs ∧ Reps W H ds vs
  | .dct ks ds, ho => ∃ vs, ho = .dK (ks.zip vs) ∧ ks.length = vs.length ∧ Reps W H ds vs
  | .dctT ks ds, ho => ∃ vs, ho = .dT (ks.zip vs) ∧ ks.length = vs.length ∧ Reps W H ds vs
  | .ins c ds, ho => ∃ dx vs, ho = .ins (W.cl c) dx ((W.fld c).zip vs) ∧ vs.length ≤ (W.fld c).length ∧ RepTs W th H ds vs
structure SRh (W : Wd) (th : List Addr) (H : Hp) (eta : List MO) : Prop where
  len : eta.length = th.length
  nd : th.Nodup
  obj : ∀ (n : Nat) mo, eta[n]? = some mo → ∃ a ho, th[n]? = some a ∧ H a = some ho ∧ RepM W th H mo ho
abbrev Rho := List (Option D)
structure SR (W : Wd) (th : List Addr) (H : Hp) (σ : L2.St) (rho : Rho) (eta : List MO) : Prop where
  var : ∀ (i : Nat) d, rho[i]? = some (some d) → ∃ v, σ[i]? = some (some v) ∧ RepT W th H d v
  le : rho.length ≤ σ.length
  hp : SRh W th H eta
structure Grow (th : List Addr) (H : Hp) (th' : List Addr) (H' : Hp) : Prop where
  pre : ∃ t, th' = th ++ t ∧ ∀ a ∈ t, H a = none
  keep : ∀ a o, H a = some o → (a ∉ th ∨ Fz o) → H' a = some o
theorem Grow.refl (th : List Addr) (H : Hp) : Grow th H th H := ⟨⟨[], by simp, fun _ h => by simp at h⟩, fun _ _ h _ => h⟩
theorem Grow.pers {th th' : List Addr} {H H' : Hp} (g : Grow th H th' H') : Pers H H' := fun a o h f => g.keep a o h (.inr f)
theorem Grow.isNone {th th' : List Addr} {H H' : Hp} (g : Grow th H th' H') {a : Addr} (h : H' a = Option.none) (ha : ∀ o, H a = some o → a ∉ th ∨ Fz o) : H a = Option.none := by
  cases e : H a with
  | none => rfl
  | some o => rw [g.keep a o e (ha o e)] at h; cases h
theorem Grow.trans {th th1 th2 : List Addr} {H H1 H2 : Hp} (g : Grow th H th1 H1) (k : Grow th1 H1 th2 H2) (hs : ∀ a ∈ th, H a ≠ Option.none → H1 a ≠ Option.none) : Grow th H th2 H2 := by
  obtain ⟨t, e, ht⟩ := g.pre
  obtain ⟨t2, e2, ht2⟩ := k.pre
  refine ⟨⟨t ++ t2, by rw [e2, e, List.append_assoc], fun a ha => ?_⟩, fun a o h q => ?_⟩
  · rcases List.mem_append.mp ha with ha | ha
    · exact ht a ha
    · have n1 := ht2 a ha
      cases q : H a with
      | none => rfl
      | some o =>
        by_cases hm : a ∈ th
        · exact absurd n1 (hs a hm (by rw [q]; simp))
        · rw [g.keep a o q (.inl hm)] at n1; cases n1
  · have h1 := g.keep a o h q
    refine k.keep a o h1 ?_
    rcases q with q | q
    · by_cases hm : a ∈ th1
      · rw [e] at hm
        rcases List.mem_append.mp hm with hm | hm
        · exact absurd hm q
        · rw [ht a hm] at h; cases h
      · exact .inl hm
    · exact .inr q
/-- the objects by number all stand -/
theorem SRh.there {W : Wd} {th : List Addr} {H : Hp} {eta : List MO} (s : SRh W th H eta) : ∀ a ∈ th, ∃ o, H a = some o := fun a ha => by
  obtain ⟨n, hn, e⟩ := List.getElem_of_mem ha
  have hl : n < eta.length := by rw [s.len]; exact hn
  obtain ⟨b, ho, e1, e2, _⟩ := s.obj n eta[n] (List.getElem?_eq_getElem hl)
  rw [List.getElem?_eq_getElem hn] at e1
  have e3 : a = b := by rw [← e]; exact Option.some.inj e1
  rw [e3]; exact ⟨ho, e2⟩
theorem Grow.trans' {W : Wd} {th th1 th2 : List Addr} {H H1 H2 : Hp} {eta1 : List MO} (g : Grow th H th1 H1) (s : SRh W th1 H1 eta1) (k : Grow th1 H1 th2 H2) : Grow th H th2 H2 :=
  g.trans k fun a ha _ => by
    obtain ⟨t, e, _⟩ := g.pre
    obtain ⟨o, h⟩ := s.there a (by rw [e]; exact List.mem_append_left _ ha)
    rw [h]; simp
theorem RepT.mono {W : Wd} {th th' : List Addr} {H H' : Hp} (g : Grow th H th' H') {d : D} {v : V} (h : RepT W th H d v) : RepT W th' H' d v := by
  cases d with
  | ref n =>
    obtain ⟨a, e, r⟩ := h
    obtain ⟨t, e2, _⟩ := g.pre
    refine ⟨a, ?_, r⟩
    have hn : n < th.length := (List.getElem?_eq_some_iff.mp e).1
    rw [e2, List.getElem?_append_left hn]; exact e
  | _ => exact Rep.mono g.pers _ v h
theorem RepTs.mono {W : Wd} {th th' : List Addr} {H H' : Hp} (g : Grow th H th' H') : ∀ {ds : List D} {vs : List V}, RepTs W th H ds vs → RepTs W th' H' ds vs
  | [], _, h => h
  | d :: ds, _, ⟨v, r, e, h1, h2⟩ => ⟨v, r, e, h1.mono g, RepTs.mono g h2⟩
theorem SR.mono {W : Wd} {th th' : List Addr} {H H' : Hp} {σ : L2.St} {rho : Rho} {eta eta' : List MO} (s : SR W th H σ rho eta) (g : Grow th H th' H') (h : SRh W th' H' eta') : SR W th' H' σ rho eta' :=
  ⟨fun i d e => let ⟨v, e1, r⟩ := s.var i d e; ⟨v, e1, r.mono g⟩, s.le, h⟩
/-- a new untracked-by-number object: everything stays -/
theorem Grow.new {th : List Addr} {H : Hp} {p : Addr} {o : HO} (h : H p = none) : Grow th H th (upd H p o) :=
  ⟨⟨[], by simp, fun _ z => by simp at z⟩, fun a u e _ => by rw [upd_ne (ne_of_none e h)]; exact e⟩
theorem RepM.mono {W : Wd} {th th' : List Addr} {H H' : Hp} (g : Grow th H th' H') {mo : MO} {ho : HO} (h : RepM W th H mo ho) : RepM W th' H' mo ho := by
  cases mo with
  | gone => trivial
  | lst ds => obtain ⟨vs, e, r⟩ := h; exact ⟨vs, e, Reps.mono g.pers _ _ r⟩
  | dct ks ds => obtain ⟨vs, e, l, r⟩ := h; exact ⟨vs, e, l, Reps.mono g.pers _ _ r⟩
  | dctT ks ds => obtain ⟨vs, e, l, r⟩ := h; exact ⟨vs, e, l, Reps.mono g.pers _ _ r⟩
  | ins c ds => obtain ⟨dx, vs, e, l, r⟩ := h; exact ⟨dx, vs, e, l, r.mono g⟩
/-- .. the numbered ones stand as they stood -/
theorem SRh.new {W : Wd} {th : List Addr} {H : Hp} {eta : List MO} (s : SRh W th H eta) {p : Addr} {o : HO} (h : H p = none) : SRh W th (upd H p o) eta :=
  ⟨s.len, s.nd, fun n mo e => by
    obtain ⟨a, ho, e1, e2, r⟩ := s.obj n mo e
    exact ⟨a, ho, e1, by rw [upd_ne (ne_of_none e2 h)]; exact e2, r.mono (Grow.new h)⟩⟩
/-- a new object gets the next number -/
theorem SRh.push {W : Wd} {th : List Addr} {H : Hp} {eta : List MO} (s : SRh W th H eta) {p : Addr} {o : HO} {mo : MO} (h : H p = none) (r : RepM W (th ++ [p]) (upd H p o) mo o) : SRh W (th ++ [p]) (upd H p o) (eta ++ [mo]) := by
  have hp : p ∉ th := fun z => by obtain ⟨o', e⟩ := s.there p z; rw [h] at e; cases e
  have g : Grow th H (th ++ [p]) (upd H p o) := ⟨⟨[p], rfl, fun a ha => by simp at ha; rw [ha]; exact h⟩, fun a u e _ => by rw [upd_ne (ne_of_none e h)]; exact e⟩
  refine ⟨by simp [s.len], ?_, fun n m e => ?_⟩
  · rw [List.nodup_append]
    exact ⟨s.nd, by simp, fun a ha b hb => by simp at hb; rw [hb]; rintro rfl; exact hp ha⟩
  · by_cases hn : n < eta.length
    · rw [List.getElem?_append_left hn] at e
      obtain ⟨a, ho, e1, e2, r2⟩ := s.obj n m e
      exact ⟨a, ho, by rw [List.getElem?_append_left (by rw [← s.len]; exact hn)]; exact e1, by rw [upd_ne (ne_of_none e2 h)]; exact e2, r2.mono g⟩
    · have hn2 : n = eta.length := by
        have := (List.getElem?_eq_some_iff.mp e).1
        simp at this; omega
      subst hn2
      rw [List.getElem?_append_right (Nat.le_refl _)] at e
      simp at e
      subst e
      exact ⟨p, o, by rw [s.len, List.getElem?_append_right (Nat.le_refl _)]; simp, upd_same, r⟩
theorem Grow.push {th : List Addr} {H : Hp} {p : Addr} {o : HO} (h : H p = none) : Grow th H (th ++ [p]) (upd H p o) :=
  ⟨⟨[p], rfl, fun a ha => by simp at ha; rw [ha]; exact h⟩, fun a u e _ => by rw [upd_ne (ne_of_none e h)]; exact e⟩
theorem RepT.push {W : Wd} {th : List Addr} {H : Hp} {eta : List MO} (s : SRh W th H eta) {p : Addr} {H' : Hp} : RepT W (th ++ [p]) H' (.ref eta.length) (.ref p) :=
  ⟨p, by rw [s.len, List.getElem?_append_right (Nat.le_refl _)]; simp, rfl⟩
/-- the n-th object is written -/
theorem SRh.write {W : Wd} {th : List Addr} {H : Hp} {eta : List MO} (s : SRh W th H eta) {n : Nat} {a : Addr} {o : HO} {mo : MO} (ha : th[n]? = some a) (hnf : ∀ u, H a = some u → ¬ Fz u)
    (r : RepM W th (upd H a o) mo o) : SRh W th (upd H a o) (eta.set n mo) ∧ Grow th H th (upd H a o) := by
  have hm : a ∈ th := List.mem_of_getElem? ha
  have g : Grow th H th (upd H a o) := ⟨⟨[], by simp, fun _ z => by simp at z⟩, fun b u e q => by
    have hb : b ≠ a := by
      rintro rfl
      rcases q with q | q
      · exact q hm
      · exact hnf u e q
    rw [upd_ne hb]; exact e⟩
  refine ⟨⟨by simp [s.len], s.nd, fun k m e => ?_⟩, g⟩
  by_cases hk : k = n
  · subst hk
    have hl : k < eta.length := by have := (List.getElem?_eq_some_iff.mp e).1; simpa using this
    rw [List.getElem?_set_self hl] at e
    cases e
    exact ⟨a, o, ha, upd_same, r⟩
  · rw [List.getElem?_set_ne (Ne.symm hk)] at e
    obtain ⟨b, ho, e1, e2, r2⟩ := s.obj k m e
    have hb : b ≠ a := by
      rintro rfl
      obtain ⟨h1, e3⟩ := List.getElem?_eq_some_iff.mp e1
      obtain ⟨h2, e4⟩ := List.getElem?_eq_some_iff.mp ha
      exact hk ((List.getElem_inj s.nd).mp (e3.trans e4.symm))
    exact ⟨b, ho, e1, by rw [upd_ne hb]; exact e2, r2.mono g⟩

/-! ### exceptions as data -/
structure Ex where
  c : Nat
  vs : List D
abbrev QA := D → List MO → Prop
abbrev EXA := Ex → Rho → List MO → Prop
/-- its class, its own dict -/
def RepX (W : Wd) (H : Hp) (ex : Ex) (cls : Value) (dx : Option Addr) : Prop :=
  cls = .ref (W.cl ex.c) ∧ ((ex.vs = [] ∧ dx = none) ∨ ∃ d vs, ex.vs ≠ [] ∧ dx = some d ∧ H d = some (.xd ((W.fld ex.c).zip vs)) ∧ (W.fld ex.c).length = vs.length ∧ Reps W H ex.vs vs)
/-- the wish Wx takes what EX takes -/
def XOk (W : Wd) (Wx : WX) (th : List Addr) (H : Hp) (EX : EXA) : Prop :=
  ∀ ex rho' eta' th' H' σ' cls dx, EX ex rho' eta' → Grow th H th' H' → SR W th' H' σ' rho' eta' → RepX W H' ex cls dx → Wx cls dx σ' H'
theorem XOk.mono {W : Wd} {Wx : WX} {th th1 : List Addr} {H H1 : Hp} {EX : EXA} {eta1 : List MO} (x : XOk W Wx th H EX) (g : Grow th H th1 H1) (s : SRh W th1 H1 eta1) : XOk W Wx th1 H1 EX :=
  fun ex rho' eta' th' H' σ' cls dx h k => x ex rho' eta' th' H' σ' cls dx h (g.trans' s k)

/-! ### judgements -/
abbrev TEa := Rho → List MO → QA → EXA → Prop
abbrev TAa := Rho → List MO → (List D → List MO → Prop) → EXA → Prop
abbrev TTa := Rho → List MO → (Bool → List MO → Prop) → EXA → Prop
structure EndsA where
  nx : Rho → List MO → Prop
  rt : QA
  bk : Rho → List MO → Prop := fun _ _ => False
  ct : Rho → List MO → Prop := fun _ _ => False
abbrev TSa := EndsA → Rho → List MO → EXA → Prop

section
variable (X : Cx) (W : Wd)
def EPa (pins : List (Addr × Obj)) (σ : L2.St) (th : List Addr) (H : Hp) (rho : Rho) (Qa : QA) (u : Value) (s' : Shared) : Prop :=
  ∃ v th' H' d eta', Inv X pins σ H' s' ∧ RelV v u ∧ Grow th H th' H' ∧ SR W th' H' σ rho eta' ∧ RepT W th' H' d v ∧ Qa d eta'
def TPa (pins : List (Addr × Obj)) (σ : L2.St) (th : List Addr) (H : Hp) (rho : Rho) (Qa : Bool → List MO → Prop) (b : Bool) (s' : Shared) : Prop :=
  ∃ th' H' eta', Inv X pins σ H' s' ∧ Grow th H th' H' ∧ SR W th' H' σ rho eta' ∧ Qa b eta'
def APa (pins : List (Addr × Obj)) (σ : L2.St) (th : List Addr) (H : Hp) (rho : Rho) (Qa : List D → List MO → Prop) (us : List Value) (s' : Shared) : Prop :=
  ∃ vs th' H' ds eta', Inv X pins σ H' s' ∧ Vals vs us ∧ Grow th H th' H' ∧ SR W th' H' σ rho eta' ∧ RepTs W th' H' ds vs ∧ Qa ds eta'
def NPa (pins : List (Addr × Obj)) (th : List Addr) (H : Hp) (Q : Rho → List MO → Prop) (s' : Shared) : Prop :=
  ∃ σ' th' H' rho' eta', Inv X pins σ' H' s' ∧ Grow th H th' H' ∧ SR W th' H' σ' rho' eta' ∧ Q rho' eta'
def SPa (pins : List (Addr × Obj)) (th : List Addr) (H : Hp) (DA : EndsA) (f : Flow) (s' : Shared) : Prop := match f with
  | .next => NPa X W pins th H DA.nx s'
  | .brk => NPa X W pins th H DA.bk s'
  | .cont => NPa X W pins th H DA.ct s'
  | .ret u => ∃ v σ' th' H' rho' d eta', Inv X pins σ' H' s' ∧ RelV v u ∧ Grow th H th' H' ∧ SR W th' H' σ' rho' eta' ∧ RepT W th' H' d v ∧ DA.rt d eta'
end
structure EA (X : Cx) (W : Wd) (Wx : WX) (e : Expr) (t : TEa) : Prop where
  run : ∀ (pins : List (Addr × Obj)) (s : Shared) (σ : L2.St) (H : Hp) (th : List Addr) (rho : Rho) (eta : List MO) (Qa : QA) (EX : EXA), Inv X pins σ H s → SR W th H σ rho eta → XOk W Wx th H EX → t rho eta Qa EX →
    wpAny (model X.prog X.w) X.A (eval e X.env) (EPa X W pins σ th H rho Qa) X.xe s
structure TA' (X : Cx) (W : Wd) (Wx : WX) (e : Expr) (t : TTa) : Prop where
  run : ∀ (pins : List (Addr × Obj)) (s : Shared) (σ : L2.St) (H : Hp) (th : List Addr) (rho : Rho) (eta : List MO) (Qa : Bool → List MO → Prop) (EX : EXA), Inv X pins σ H s → SR W th H σ rho eta → XOk W Wx th H EX → t rho eta Qa EX →
    wpAny (model X.prog X.w) X.A (isTrue e X.env (eval e X.env)) (TPa X W pins σ th H rho Qa) X.xe s
/-- a test whatever its 'whole' is -/
structure WA (X : Cx) (W : Wd) (Wx : WX) (e : Expr) (t : TTa) : Prop where
  run : ∀ (whole : Sem Value) (pins : List (Addr × Obj)) (s : Shared) (σ : L2.St) (H : Hp) (th : List Addr) (rho : Rho) (eta : List MO) (Qa : Bool → List MO → Prop) (EX : EXA), Inv X pins σ H s → SR W th H σ rho eta → XOk W Wx th H EX → t rho eta Qa EX →
    wpAny (model X.prog X.w) X.A (isTrue e X.env whole) (TPa X W pins σ th H rho Qa) X.xe s
theorem WA.ta {X : Cx} {W : Wd} {Wx : WX} {e : Expr} {t : TTa} (h : WA X W Wx e t) : TA' X W Wx e t := ⟨h.run _⟩
structure AA (X : Cx) (W : Wd) (Wx : WX) (es : List Expr) (t : TAa) : Prop where
  run : ∀ (pos : Pos) (pins : List (Addr × Obj)) (s : Shared) (σ : L2.St) (H : Hp) (th : List Addr) (rho : Rho) (eta : List MO) (Qa : List D → List MO → Prop) (EX : EXA), Inv X pins σ H s → SR W th H σ rho eta → XOk W Wx th H EX → t rho eta Qa EX →
    wpAny (model X.prog X.w) X.A (spliced (backTo pos (starEach es X.env))) (APa X W pins σ th H rho Qa) X.xe s
structure SA (X : Cx) (W : Wd) (Wx : WX) (st : Stmt) (t : TSa) : Prop where
  run : ∀ (pins : List (Addr × Obj)) (s : Shared) (σ : L2.St) (H : Hp) (th : List Addr) (rho : Rho) (eta : List MO) (DA : EndsA) (EX : EXA), Inv X pins σ H s → SR W th H σ rho eta → XOk W Wx th H EX → t DA rho eta EX →
    wpAny (model X.prog X.w) X.A (exec st X.env) (SPa X W pins th H DA) X.xe s
structure SsA (X : Cx) (W : Wd) (Wx : WX) (st : List Stmt) (t : TSa) : Prop where
  run : ∀ (pins : List (Addr × Obj)) (s : Shared) (σ : L2.St) (H : Hp) (th : List Addr) (rho : Rho) (eta : List MO) (DA : EndsA) (EX : EXA), Inv X pins σ H s → SR W th H σ rho eta → XOk W Wx th H EX → t DA rho eta EX →
    wpAny (model X.prog X.w) X.A (execs st X.env) (SPa X W pins th H DA) X.xe s

/-! ### to the layer's own judgements and back -/
section
variable {X : Cx} {W : Wd} {Wx : WX}
/-- the canonical reading -/
def lftE (W : Wd) (Wx : WX) (t : TEa) : TE := fun σ H Q => ∃ th rho eta Qa EX, SR W th H σ rho eta ∧ XOk W Wx th H EX ∧ t rho eta Qa EX ∧
  ∀ th' H' v d eta', Grow th H th' H' → SR W th' H' σ rho eta' → RepT W th' H' d v → Qa d eta' → Q v H'
theorem EA.pe {e : Expr} {t : TEa} (h : EA X W Wx e t) : PE X e (lftE W Wx t) := ⟨fun pins s σ H Q I ⟨th, rho, eta, Qa, EX, S, x, ht, k⟩ =>
  thn (h.run pins s σ H th rho eta Qa EX I S x ht) fun u s' ⟨v, th', H', d, eta', I', r, g, S', R, q⟩ => ⟨v, H', I', r, k th' H' v d eta' g S' R q⟩⟩
theorem EA.of {e : Expr} {te : TE} {t : TEa} (h : PE X e te) (k : ∀ (σ : L2.St) (H : Hp) (th : List Addr) (rho : Rho) (eta : List MO) (Qa : QA) (EX : EXA), SR W th H σ rho eta → XOk W Wx th H EX → t rho eta Qa EX →
    te σ H fun v H' => ∃ th' d eta', Grow th H th' H' ∧ SR W th' H' σ rho eta' ∧ RepT W th' H' d v ∧ Qa d eta') : EA X W Wx e t := ⟨fun pins s σ H th rho eta Qa EX I S x ht =>
  thn (h.run pins s σ H _ I (k σ H th rho eta Qa EX S x ht)) fun u s' ⟨v, H', I', r, th', d, eta', g, S', R, q⟩ => ⟨v, th', H', d, eta', I', r, g, S', R, q⟩⟩
def lftT (W : Wd) (Wx : WX) (t : TTa) : TT := fun σ H Q => ∃ th rho eta Qa EX, SR W th H σ rho eta ∧ XOk W Wx th H EX ∧ t rho eta Qa EX ∧
  ∀ th' H' b eta', Grow th H th' H' → SR W th' H' σ rho eta' → Qa b eta' → Q b H'
theorem TA'.pt {e : Expr} {t : TTa} (h : TA' X W Wx e t) : PT X e (lftT W Wx t) := ⟨fun pins s σ H Q I ⟨th, rho, eta, Qa, EX, S, x, ht, k⟩ =>
  thn (h.run pins s σ H th rho eta Qa EX I S x ht) fun u s' ⟨th', H', eta', I', g, S', q⟩ => ⟨H', I', k th' H' u eta' g S' q⟩⟩
def lftA (W : Wd) (Wx : WX) (t : TAa) : TA := fun σ H Q => ∃ th rho eta Qa EX, SR W th H σ rho eta ∧ XOk W Wx th H EX ∧ t rho eta Qa EX ∧
  ∀ th' H' vs ds eta', Grow th H th' H' → SR W th' H' σ rho eta' → RepTs W th' H' ds vs → Qa ds eta' → Q vs H'
theorem AA.pa {es : List Expr} {t : TAa} (h : AA X W Wx es t) : PA X es (lftA W Wx t) := ⟨fun pos pins s σ H Q I ⟨th, rho, eta, Qa, EX, S, x, ht, k⟩ =>
  thn (h.run pos pins s σ H th rho eta Qa EX I S x ht) fun us s' ⟨vs, th', H', ds, eta', I', r, g, S', R, q⟩ => ⟨vs, H', I', r, k th' H' vs ds eta' g S' R q⟩⟩
def lftS (W : Wd) (Wx : WX) (t : TSa) : TS := fun Dn σ H => ∃ th rho eta DA EX, SR W th H σ rho eta ∧ XOk W Wx th H EX ∧ t DA rho eta EX ∧
  (∀ th' H' σ' rho' eta', Grow th H th' H' → SR W th' H' σ' rho' eta' → DA.nx rho' eta' → Dn.nx σ' H') ∧
  (∀ th' H' σ' rho' eta', Grow th H th' H' → SR W th' H' σ' rho' eta' → DA.bk rho' eta' → Dn.bk σ' H') ∧
  (∀ th' H' σ' rho' eta', Grow th H th' H' → SR W th' H' σ' rho' eta' → DA.ct rho' eta' → Dn.ct σ' H') ∧
  (∀ th' H' v d eta', Grow th H th' H' → SRh W th' H' eta' → RepT W th' H' d v → DA.rt d eta' → Dn.rt v H')
theorem SsA.pss {st : List Stmt} {t : TSa} (h : SsA X W Wx st t) : PSs X st (lftS W Wx t) := ⟨fun pins s σ H Dn I ⟨th, rho, eta, DA, EX, S, x, ht, k1, k2, k3, k4⟩ =>
  thn (h.run pins s σ H th rho eta DA EX I S x ht) fun f s' q => by
    cases f with
    | next => obtain ⟨σ', th', H', rho', eta', I', g, S', q⟩ := q; exact ⟨σ', H', I', k1 _ _ _ _ _ g S' q⟩
    | brk => obtain ⟨σ', th', H', rho', eta', I', g, S', q⟩ := q; exact ⟨σ', H', I', k2 _ _ _ _ _ g S' q⟩
    | cont => obtain ⟨σ', th', H', rho', eta', I', g, S', q⟩ := q; exact ⟨σ', H', I', k3 _ _ _ _ _ g S' q⟩
    | ret u => obtain ⟨v, σ', th', H', rho', d, eta', I', r, g, S', R, q⟩ := q; exact ⟨v, σ', H', I', r, k4 _ _ _ _ _ g S'.hp R q⟩⟩
theorem SA.ps {st : Stmt} {t : TSa} (h : SA X W Wx st t) : PS X st (lftS W Wx t) := ⟨fun pins s σ H Dn I ⟨th, rho, eta, DA, EX, S, x, ht, k1, k2, k3, k4⟩ =>
  thn (h.run pins s σ H th rho eta DA EX I S x ht) fun f s' q => by
    cases f with
    | next => obtain ⟨σ', th', H', rho', eta', I', g, S', q⟩ := q; exact ⟨σ', H', I', k1 _ _ _ _ _ g S' q⟩
    | brk => obtain ⟨σ', th', H', rho', eta', I', g, S', q⟩ := q; exact ⟨σ', H', I', k2 _ _ _ _ _ g S' q⟩
    | cont => obtain ⟨σ', th', H', rho', eta', I', g, S', q⟩ := q; exact ⟨σ', H', I', k3 _ _ _ _ _ g S' q⟩
    | ret u => obtain ⟨v, σ', th', H', rho', d, eta', I', r, g, S', R, q⟩ := q; exact ⟨v, σ', H', I', r, k4 _ _ _ _ _ g S'.hp R q⟩⟩
/-- a statement by the layer's own reading -/
theorem SA.of {st : Stmt} {ts : TS} {t : TSa} (h : PS X st ts) (k : ∀ (σ : L2.St) (H : Hp) (th : List Addr) (rho : Rho) (eta : List MO) (DA : EndsA) (EX : EXA), SR W th H σ rho eta → XOk W Wx th H EX → t DA rho eta EX →
    ts { nx := fun σ' H' => ∃ th' rho' eta', Grow th H th' H' ∧ SR W th' H' σ' rho' eta' ∧ DA.nx rho' eta', bk := fun σ' H' => ∃ th' rho' eta', Grow th H th' H' ∧ SR W th' H' σ' rho' eta' ∧ DA.bk rho' eta', ct := fun σ' H' => ∃ th' rho' eta', Grow th H th' H' ∧ SR W th' H' σ' rho' eta' ∧ DA.ct rho' eta',
         rt := fun v H' => ∃ th' d eta', Grow th H th' H' ∧ SRh W th' H' eta' ∧ RepT W th' H' d v ∧ DA.rt d eta' } σ H) : SA X W Wx st t := ⟨fun pins s σ H th rho eta DA EX I S x ht =>
  thn (h.run pins s σ H _ I (k σ H th rho eta DA EX S x ht)) fun f s' q => by
    cases f with
    | next => obtain ⟨σ', H', I', th', rho', eta', g, S', q⟩ := q; exact ⟨σ', th', H', rho', eta', I', g, S', q⟩
    | brk => obtain ⟨σ', H', I', th', rho', eta', g, S', q⟩ := q; exact ⟨σ', th', H', rho', eta', I', g, S', q⟩
    | cont => obtain ⟨σ', H', I', th', rho', eta', g, S', q⟩ := q; exact ⟨σ', th', H', rho', eta', I', g, S', q⟩
    | ret u =>
      obtain ⟨v, σ', H', I', r, th', d, eta', g, S', R, q⟩ := q
      exact ⟨v, σ', th', H', [], d, eta', I', r, g, ⟨fun i d e => by simp at e, by simp, S'⟩, R, q⟩⟩
end
end RF
set_option maxRecDepth 100000
set_option maxHeartbeats 4000000
namespace RF
open PySem PySem.Spec PyProof.Rows L2
section
variable {X : Cx} {W : Wd} {Wx : WX}
/-- back from a reading of the layer: nothing has changed -/
theorem EPa.here {pins : List (Addr × Obj)} {σ : L2.St} {th : List Addr} {H : Hp} {rho : Rho} {eta : List MO} {Qa : QA} {u : Value} {s : Shared} {v : V} {d : D} (I : Inv X pins σ H s) (S : SR W th H σ rho eta) (r : RelV v u) (R : RepT W th H d v) (q : Qa d eta) : EPa X W pins σ th H rho Qa u s :=
  ⟨v, th, H, d, eta, I, r, Grow.refl _ _, S, R, q⟩

/-! ### names, constants -/
def aVar (i : Nat) : TEa := fun rho eta Q _ => match rho[i]? with
  | some (some d) => Q d eta
  | _ => False
theorem ea_var (i : Nat) {x : Str} {pos : Pos} (hN : X.N[i]? = some x := by rfl) (hv : Vis X.env.scope x := by first | exact Or.inl rfl | exact Or.inr (Or.inl rfl) | exact Or.inr (Or.inr rfl)) (hd : (x == ("__debug__" : Str)) = false := by decide) (hcd : (x == ("__classdict__" : Str)) = false := by decide) : EA X W Wx (.Name x pos) (aVar i) :=
  .of (pe_var hN hv hd hcd) fun σ H th rho eta Qa EX S x h => by
    unfold aVar at h
    cases e : rho[i]? with
    | none => rw [e] at h; exact h.elim
    | some o =>
      rw [e] at h
      cases o with
      | none => exact h.elim
      | some d =>
        obtain ⟨v, e1, r⟩ := S.var i d e
        exact ⟨v, e1, th, d, eta, Grow.refl _ _, S, r, h⟩
theorem hereC {σ : L2.St} {th : List Addr} {H : Hp} {rho : Rho} {eta : List MO} {Qa : QA} {v : V} {d : D} (S : SR W th H σ rho eta) (R : RepT W th H d v) (q : Qa d eta) : ∃ th' d eta', Grow th H th' H ∧ SR W th' H σ rho eta' ∧ RepT W th' H d v ∧ Qa d eta' :=
  ⟨th, d, eta, Grow.refl _ _, S, R, q⟩
def aC (d : D) : TEa := fun _ eta Q _ => Q d eta
theorem ea_int {i j pos} : EA X W Wx (.Constant (.int i) j pos) (aC (.int i)) := .of pe_int fun σ H th rho eta Qa EX S x h => hereC (d := .int i) S rfl h
theorem ea_bl {b j pos} : EA X W Wx (.Constant (.bool b) j pos) (aC (.bl b)) := .of pe_bl fun σ H th rho eta Qa EX S x h => hereC (d := .bl b) S rfl h
theorem ea_non {j pos} : EA X W Wx (.Constant .none j pos) (aC .non) := .of pe_non fun σ H th rho eta Qa EX S x h => hereC (d := .non) S rfl h
theorem ea_str {z j pos} : EA X W Wx (.Constant (.str z) j pos) (aC (.str z)) := .of pe_str fun σ H th rho eta Qa EX S x h => hereC (d := .str z) S rfl h

/-! ### argument lists, displays -/
def aNil : TAa := fun _ eta Q _ => Q [] eta
def aCons (ta : TEa) (tr : TAa) : TAa := fun rho eta Q EX => ta rho eta (fun d eta1 => tr rho eta1 (fun ds eta2 => Q (d :: ds) eta2) EX) EX
theorem aa_nil : AA X W Wx [] aNil := ⟨fun _ _ _ _ H th rho eta Q EX I S x h => Calls.spliced_nil ⟨[], th, H, [], eta, I, .nil, Grow.refl _ _, S, rfl, h⟩⟩
theorem aa_cons {e : Expr} {es : List Expr} {te : TEa} {t : TAa} (ha : EA X W Wx e te) (hr : AA X W Wx es t) (hs : starEach (e :: es) X.env = (false, eval e X.env) :: starEach es X.env := by rfl) : AA X W Wx (e :: es) (aCons te t) := by
  refine ⟨fun pos pins s σ H th rho eta Q EX I S x h => ?_⟩
  rw [hs]
  show wpAny _ _ (spliced ((false, eval e X.env) :: backTo pos (starEach es X.env))) _ _ s
  refine Calls.spliced_cons (thn (ha.run pins s σ H th rho eta _ EX I S x h) fun u s1 ⟨v, th1, H1, d, eta1, I1, r1, g1, S1, R1, q1⟩ => ?_)
  exact thn (hr.run pos pins s1 σ H1 th1 rho eta1 _ EX I1 S1 (x.mono g1 S1.hp) q1) fun us s2 ⟨vs, th2, H2, ds, eta2, I2, r2, g2, S2, R2, q2⟩ =>
    ⟨v :: vs, th2, H2, d :: ds, eta2, I2, .cons r1 r2, g1.trans' S1.hp g2, S2, ⟨v, vs, rfl, R1.mono g2, R2⟩, q2⟩
/-- frozen data -/
def D.im : D → Bool
  | .ref _ => false
  | _ => true
theorem RepT.im {th : List Addr} {H : Hp} {d : D} {v : V} (h : RepT W th H d v) (e : d.im = true) : Rep W H d v := by
  cases d <;> first | exact h | cases e
theorem RepT.of {th : List Addr} {H : Hp} {d : D} {v : V} (h : Rep W H d v) : RepT W th H d v := by
  cases d <;> first | exact h | exact h.elim
theorem RepTs.im {th : List Addr} {H : Hp} : ∀ {ds : List D} {vs : List V}, RepTs W th H ds vs → ds.all D.im = true → Reps W H ds vs
  | [], _, h, _ => h
  | d :: ds, _, ⟨v, r, e, h1, h2⟩, q => by
    simp only [List.all_cons, Bool.and_eq_true] at q
    exact ⟨v, r, e, h1.im q.1, RepTs.im h2 q.2⟩
theorem RepTs.of {th : List Addr} {H : Hp} : ∀ {ds : List D} {vs : List V}, Reps W H ds vs → RepTs W th H ds vs
  | [], _, h => h
  | d :: ds, _, ⟨v, r, e, h1, h2⟩ => ⟨v, r, e, RepT.of h1, RepTs.of h2⟩
theorem RepTs.length {th : List Addr} {H : Hp} : ∀ {ds : List D} {vs : List V}, RepTs W th H ds vs → ds.length = vs.length
  | [], _, h => by rw [h]; rfl
  | d :: ds, _, ⟨v, r, e, h1, h2⟩ => by rw [e]; simp [RepTs.length h2]
theorem Reps.length {H : Hp} : ∀ {ds : List D} {vs : List V}, Reps W H ds vs → ds.length = vs.length
  | [], _, h => by have h : _ = _ := h; rw [h]; rfl
  | d :: ds, _, ⟨v, r, e, h1, h2⟩ => by rw [e]; simp [Reps.length h2]
theorem size_of {n : Nat} (h : Nat.ble n 1000 = true) : n ≤ sizeLine := Nat.le_trans (Nat.le_of_ble_eq_true h) (by rw [sizeLine_eq]; decide)
def okL (ds : List D) : Bool := ds.all D.im && Nat.ble ds.length 1000
def aTup (t : TAa) : TEa := fun rho eta Q EX => t rho eta (fun ds eta1 => okL ds = true ∧ Q (.tup ds) eta1) EX
theorem ea_tup {es : List Expr} {t : TAa} {x1} {pos : Pos} (h : AA X W Wx es t) : EA X W Wx (.Tuple es x1 pos) (aTup t) :=
  .of (pe_tup h.pa) fun σ H th rho eta Qa EX S x ht => by
    refine ⟨th, rho, eta, _, EX, S, x, ht, fun th1 H1 vs ds eta1 g S1 R q => ?_⟩
    obtain ⟨ok, q⟩ := q
    unfold okL at ok
    rw [Bool.and_eq_true] at ok
    refine ⟨by rw [← R.length]; exact size_of ok.2, fun p hp => ⟨th1, .tup ds, eta1, g.trans' S1.hp (Grow.new hp), S1.mono (Grow.new hp) (S1.hp.new hp), ?_, q⟩⟩
    exact ⟨p, vs, rfl, upd_same, Reps.mono (Grow.new (th := th1) hp).pers _ _ (R.im ok.1)⟩
/-- a list that will change -/
def aLst (t : TAa) : TEa := fun rho eta Q EX => t rho eta (fun ds eta1 => okL ds = true ∧ Q (.ref eta1.length) (eta1 ++ [.lst ds])) EX
theorem ea_lst {es : List Expr} {t : TAa} {pos : Pos} (h : AA X W Wx es t) : EA X W Wx (.List es pos) (aLst t) :=
  .of (pe_lst h.pa) fun σ H th rho eta Qa EX S x ht => by
    refine ⟨th, rho, eta, _, EX, S, x, ht, fun th1 H1 vs ds eta1 g S1 R q => ?_⟩
    obtain ⟨ok, q⟩ := q
    unfold okL at ok
    rw [Bool.and_eq_true] at ok
    refine ⟨by rw [← R.length]; exact size_of ok.2, fun p hp => ?_⟩
    have P := S1.hp.push (mo := .lst ds) hp ⟨vs, rfl, Reps.mono (Grow.new (th := th1) hp).pers _ _ (R.im ok.1)⟩
    exact ⟨th1 ++ [p], _, _, g.trans' S1.hp (Grow.push hp), S1.mono (Grow.push hp) P, RepT.push S1.hp, q⟩
/-! ### freezing what an expression makes -/
/-- the value is a new list or dict that will not change -/
def tFz (te : TE) : TE := fun σ H Q => te σ H fun v H' => ∃ a u, v = .ref a ∧ H' a = some u ∧ Mut (some u) ∧ ∀ od, Q v (upd H' a (.frz od u))
theorem pe_fz {e : Expr} {te : TE} (h : PE X e te) : PE X e (tFz te) := ⟨fun pins s σ H Q I ht => thn (h.run pins s σ H _ I ht) fun u s' ⟨v, H', I', r, a, o, e1, e2, mu, q⟩ => by
  obtain ⟨od, I1⟩ := I'.lock e2 mu
  exact ⟨v, _, I1, r, q od⟩⟩
/-- a list that stays as it is -/
def aFl (t : TAa) : TEa := fun rho eta Q EX => t rho eta (fun ds eta1 => okL ds = true ∧ Q (.fl ds) eta1) EX
theorem ea_fl {es : List Expr} {t : TAa} {pos : Pos} (h : AA X W Wx es t) : EA X W Wx (.List es pos) (aFl t) :=
  .of (pe_fz (pe_lst h.pa)) fun σ H th rho eta Qa EX S x ht => by
    refine ⟨th, rho, eta, _, EX, S, x, ht, fun th1 H1 vs ds eta1 g S1 R q => ?_⟩
    obtain ⟨ok, q⟩ := q
    unfold okL at ok
    rw [Bool.and_eq_true] at ok
    refine ⟨by rw [← R.length]; exact size_of ok.2, fun p hp => ⟨p, _, rfl, upd_same, trivial, fun od => ⟨th1, .fl ds, eta1, ?_⟩⟩⟩
    rw [upd_upd]
    exact ⟨g.trans' S1.hp (Grow.new hp), S1.mono (Grow.new hp) (S1.hp.new hp), ⟨p, od, vs, rfl, upd_same, Reps.mono (Grow.new (th := th1) hp).pers _ _ (R.im ok.1)⟩, q⟩
/-- a variable's list or dict becomes data: it will not change any more -/
def frzQ (Q : QA) : QA := fun d eta => match d with
  | .ref n => (match eta[n]? with
    | some (.lst ds) => Q (.fl ds) (eta.set n .gone)
    | some (.dct ks ds) => Q (.fd ks ds) (eta.set n .gone)
    | some (.dctT ks ds) => Q (.fdt ks ds) (eta.set n .gone)
    | _ => False)
  | d => Q d eta
def aFrz (t : TEa) : TEa := fun rho eta Q EX => t rho eta (frzQ Q) EX
theorem freeze_one {pins : List (Addr × Obj)} {σ : L2.St} {th : List Addr} {H : Hp} {rho : Rho} {eta : List MO} {s : Shared} {n : Nat} {a : Addr} {u : HO} (I : Inv X pins σ H s) (S : SR W th H σ rho eta) (ha : th[n]? = some a) (h : H a = some u) (mu : Mut (some u)) (nf : ¬ Fz u) :
    ∃ od, Inv X pins σ (upd H a (.frz od u)) s ∧ Grow th H th (upd H a (.frz od u)) ∧ SR W th (upd H a (.frz od u)) σ rho (eta.set n .gone) := by
  obtain ⟨od, I1⟩ := I.lock h mu
  obtain ⟨P, g⟩ := S.hp.write (n := n) (mo := .gone) (o := .frz od u) ha (fun u' e => by rw [h] at e; cases e; exact nf) trivial
  exact ⟨od, I1, g, S.mono g P⟩
theorem ea_frz {e : Expr} {t : TEa} (h : EA X W Wx e t) : EA X W Wx e (aFrz t) := ⟨fun pins s σ H th rho eta Qa EX I S x ht => by
  refine thn (h.run pins s σ H th rho eta (frzQ Qa) EX I S x ht) fun u s' ⟨v, th', H', d, eta', I', r, g, S', R, q⟩ => ?_
  cases d with
  | ref n =>
    obtain ⟨a, ea, rfl⟩ := R
    cases hn : eta'[n]? with
    | none => simp only [frzQ, hn] at q
    | some mo =>
      obtain ⟨b, ho, e1, e2, rm⟩ := S'.hp.obj n mo hn
      rw [ea] at e1; cases e1
      cases mo with
      | gone => simp only [frzQ, hn] at q
      | ins c ds => simp only [frzQ, hn] at q
      | lst ds =>
        simp only [frzQ, hn] at q
        obtain ⟨vs, rfl, rs⟩ := rm
        obtain ⟨od, I2, g2, S2⟩ := freeze_one I' S' ea e2 trivial (fun z => z)
        exact ⟨.ref a, th', _, .fl ds, _, I2, r, g.trans' S'.hp g2, S2, ⟨a, od, vs, rfl, upd_same, Reps.mono g2.pers _ _ rs⟩, q⟩
      | dct ks ds =>
        simp only [frzQ, hn] at q
        obtain ⟨vs, rfl, l, rs⟩ := rm
        obtain ⟨od, I2, g2, S2⟩ := freeze_one I' S' ea e2 trivial (fun z => z)
        exact ⟨.ref a, th', _, .fd ks ds, _, I2, r, g.trans' S'.hp g2, S2, ⟨a, od, vs, rfl, upd_same, l, Reps.mono g2.pers _ _ rs⟩, q⟩
      | dctT ks ds =>
        simp only [frzQ, hn] at q
        obtain ⟨vs, rfl, l, rs⟩ := rm
        obtain ⟨od, I2, g2, S2⟩ := freeze_one I' S' ea e2 trivial (fun z => z)
        exact ⟨.ref a, th', _, .fdt ks ds, _, I2, r, g.trans' S'.hp g2, S2, ⟨a, od, vs, rfl, upd_same, l, Reps.mono g2.pers _ _ rs⟩, q⟩
  | _ => exact ⟨v, th', H', _, eta', I', r, g, S', R, q⟩⟩
end
end RF
set_option maxRecDepth 100000
set_option maxHeartbeats 4000000
namespace RF
open PySem PySem.Spec PyProof.Rows L2

/-! ### equality of plain data -/
mutual
def D.eqd : D → D → Bool
  | .non, .non => true
  | .bl a, .bl b => a == b
  | .bl a, .int j => (if a then 1 else 0) == j
  | .int i, .bl b => i == (if b then 1 else 0)
  | .int i, .int j => i == j
  | .str x, .str y => x == y
  | .tup xs, .tup ys => D.eqds xs ys
  | .fl xs, .fl ys => D.eqds xs ys
  | _, _ => false
def D.eqds : List D → List D → Bool
  | [], [] => true
  | x :: xs, y :: ys => D.eqd x y && D.eqds xs ys
  | _, _ => false
end
mutual
def D.pl : Nat → D → Bool
  | _, .non => true
  | _, .bl _ => true
  | _, .int _ => true
  | _, .str x => PyData.strOk x
  | n + 1, .tup xs => D.pls n xs
  | n + 1, .fl xs => D.pls n xs
  | _, _ => false
def D.pls : Nat → List D → Bool
  | _, [] => true
  | n, x :: xs => D.pl n x && D.pls n xs
end
mutual
def D.py : D → PyData
  | .bl b => .bool b
  | .int i => .int i
  | .str x => .str x
  | .tup xs => .tuple (D.pys xs)
  | .fl xs => .list (D.pys xs)
  | _ => .none
def D.pys : List D → List PyData
  | [] => []
  | x :: xs => D.py x :: D.pys xs
end
mutual
theorem D.py_dp {W : Wd} {K : PySem.W.Frag} {H : Hp} : ∀ (n : Nat) (d : D) (v : V), D.pl n d = true → Rep W H d v → Dp K H v d.py
  | _, .non, v, _, h => by have h : v = _ := h; subst h; exact .non
  | _, .bl b, v, _, h => by have h : v = _ := h; subst h; exact .bl b
  | _, .int i, v, _, h => by have h : v = _ := h; subst h; exact .int i
  | _, .str x, v, _, h => by have h : v = _ := h; subst h; exact .str x
  | n + 1, .tup xs, v, p, h => by
    obtain ⟨a, vs, rfl, e, r⟩ := h
    exact .tup (SqT.of e) (D.pys_dp n xs vs p r)
  | n + 1, .fl xs, v, p, h => by
    obtain ⟨a, o, vs, rfl, e, r⟩ := h
    exact .lst (.inl (.inr ⟨o, e⟩)) (D.pys_dp n xs vs p r)
  | 0, .tup xs, v, p, h => by simp [D.pl] at p
  | 0, .fl xs, v, p, h => by simp [D.pl] at p
  | _, .rat _, v, p, h => by simp [D.pl] at p
  | _, .fd _ _, v, p, h => by simp [D.pl] at p
  | _, .fdt _ _, v, p, h => by simp [D.pl] at p
  | _, .obj _ _, v, p, h => by simp [D.pl] at p
  | _, .ref _, v, p, h => by simp [D.pl] at p
  | _, .cls _, v, p, h => by simp [D.pl] at p
  | _, .ty _, v, p, h => by simp [D.pl] at p
theorem D.pys_dp {W : Wd} {K : PySem.W.Frag} {H : Hp} : ∀ (n : Nat) (ds : List D) (vs : List V), D.pls n ds = true → Reps W H ds vs → DpAll K H vs (D.pys ds)
  | _, [], vs, _, h => by have h : vs = _ := h; subst h; exact .nil
  | n, d :: ds, vs, p, h => by
    obtain ⟨v, r, rfl, h1, h2⟩ := h
    simp only [D.pls, Bool.and_eq_true] at p
    exact .cons (D.py_dp n d v p.1 h1) (D.pys_dp n ds r p.2 h2)
end
mutual
theorem D.py_lay : ∀ (n : Nat) (d : D), D.pl n d = true → d.py.canLay0 = true ∧ d.py.depth ≤ n
  | _, .non, _ => ⟨by simp [D.py, PyData.canLay0], by simp [D.py, PyData.depth]⟩
  | _, .bl b, _ => ⟨by simp [D.py, PyData.canLay0], by simp [D.py, PyData.depth]⟩
  | _, .int i, _ => ⟨by simp [D.py, PyData.canLay0], by simp [D.py, PyData.depth]⟩
  | _, .str x, p => ⟨by simpa [D.py, PyData.canLay0, D.pl] using p, by simp [D.py, PyData.depth]⟩
  | n + 1, .tup xs, p => by
    obtain ⟨h1, h2⟩ := D.pys_lay n xs (by simpa [D.pl] using p)
    exact ⟨by simpa [D.py, PyData.canLay0] using h1, by simp [D.py, PyData.depth]; omega⟩
  | n + 1, .fl xs, p => by
    obtain ⟨h1, h2⟩ := D.pys_lay n xs (by simpa [D.pl] using p)
    exact ⟨by simpa [D.py, PyData.canLay0] using h1, by simp [D.py, PyData.depth]; omega⟩
  | 0, .tup xs, p => by simp [D.pl] at p
  | 0, .fl xs, p => by simp [D.pl] at p
  | _, .rat _, p => by simp [D.pl] at p
  | _, .fd _ _, p => by simp [D.pl] at p
  | _, .fdt _ _, p => by simp [D.pl] at p
  | _, .obj _ _, p => by simp [D.pl] at p
  | _, .ref _, p => by simp [D.pl] at p
  | _, .cls _, p => by simp [D.pl] at p
  | _, .ty _, p => by simp [D.pl] at p
theorem D.pys_lay : ∀ (n : Nat) (ds : List D), D.pls n ds = true → PyData.canLayAll0 (D.pys ds) = true ∧ PyData.depthAll (D.pys ds) ≤ n
  | _, [], _ => ⟨by simp [D.pys, PyData.canLayAll0], by simp [D.pys, PyData.depthAll]⟩
  | n, d :: ds, p => by
    simp only [D.pls, Bool.and_eq_true] at p
    obtain ⟨a, b⟩ := D.py_lay n d p.1
    obtain ⟨c, e⟩ := D.pys_lay n ds p.2
    exact ⟨by simp [D.pys, PyData.canLayAll0, a, c], by simp only [D.pys, PyData.depthAll]; omega⟩
end
theorem D.shaped {d : D} (h : D.pl 60 d = true) : SeqAt.shaped d.py = true := by
  obtain ⟨a, b⟩ := D.py_lay 60 d h
  unfold SeqAt.shaped
  rw [a]
  have : d.py.depth ≤ 64 := by omega
  simp [this]
mutual
theorem D.eqv_py : ∀ (n m : Nat) (d e : D), D.pl n d = true → D.pl m e = true → PyData.eqv d.py e.py = D.eqd d e := by
  intro n m d e hd he
  cases d <;> cases e <;> first
    | (simp [D.pl] at hd; done)
    | (simp [D.pl] at he; done)
    | (simp only [D.py, PyData.eqv, D.eqd]; done)
    | (rename_i xs ys
       cases n with
       | zero => simp [D.pl] at hd
       | succ n =>
         cases m with
         | zero => simp [D.pl] at he
         | succ m =>
           simp only [D.py, PyData.eqv, D.eqd]
           exact D.eqvs_py n m xs ys (by simpa [D.pl] using hd) (by simpa [D.pl] using he))
theorem D.eqvs_py : ∀ (n m : Nat) (d e : List D), D.pls n d = true → D.pls m e = true → PyData.eqvAll (D.pys d) (D.pys e) = D.eqds d e
  | _, _, [], [], _, _ => by simp [D.pys, PyData.eqvAll, D.eqds]
  | _, _, [], _ :: _, _, _ => by simp [D.pys, PyData.eqvAll, D.eqds]
  | _, _, _ :: _, [], _, _ => by simp [D.pys, PyData.eqvAll, D.eqds]
  | n, m, x :: xs, y :: ys, hd, he => by
    simp only [D.pls, Bool.and_eq_true] at hd he
    simp only [D.pys, PyData.eqvAll, D.eqds]
    rw [D.eqv_py n m x y hd.1 he.1, D.eqvs_py n m xs ys hd.2 he.2]
end
end RF
set_option maxRecDepth 100000
set_option maxHeartbeats 4000000
namespace RF
open PySem PySem.Spec PyProof.Rows L2
abbrev R2a := D → D → Rho → List MO → QA → EXA → Prop
abbrev R1a := D → Rho → List MO → QA → EXA → Prop
abbrev RNa := List D → Rho → List MO → QA → EXA → Prop
section
variable (X : Cx) (W : Wd) (Wx : WX)
def OpA (f : Value → Value → Sem Value) (r : R2a) : Prop :=
  ∀ (pins : List (Addr × Obj)) (s : Shared) (σ : L2.St) (H : Hp) (th : List Addr) (rho : Rho) (eta : List MO) (x y : V) (v u : Value) (d e : D) (Qa : QA) (EX : EXA), Inv X pins σ H s → SR W th H σ rho eta → XOk W Wx th H EX → RelV x v → RelV y u → RepT W th H d x → RepT W th H e y →
    r d e rho eta Qa EX → wpAny (model X.prog X.w) X.A (f v u) (EPa X W pins σ th H rho Qa) X.xe s
def UnA (f : Value → Sem Value) (r : R1a) : Prop :=
  ∀ (pins : List (Addr × Obj)) (s : Shared) (σ : L2.St) (H : Hp) (th : List Addr) (rho : Rho) (eta : List MO) (x : V) (v : Value) (d : D) (Qa : QA) (EX : EXA), Inv X pins σ H s → SR W th H σ rho eta → XOk W Wx th H EX → RelV x v → RepT W th H d x →
    r d rho eta Qa EX → wpAny (model X.prog X.w) X.A (f v) (EPa X W pins σ th H rho Qa) X.xe s
/-- the call of the value f -/
def ClA (f : Value) (r : RNa) : Prop :=
  ∀ (pins : List (Addr × Obj)) (s : Shared) (σ : L2.St) (H : Hp) (th : List Addr) (rho : Rho) (eta : List MO) (xs : List V) (us : List Value) (ds : List D) (Qa : QA) (EX : EXA), Inv X pins σ H s → SR W th H σ rho eta → XOk W Wx th H EX → Vals xs us → RepTs W th H ds xs →
    r ds rho eta Qa EX → wpAny (model X.prog X.w) X.A (call f us) (EPa X W pins σ th H rho Qa) X.xe s
end
section
variable {X : Cx} {W : Wd} {Wx : WX}
theorem OpA.of {f : Value → Value → Sem Value} {r : R2} {ra : R2a} (h : OpR X f r) (k : ∀ (σ : L2.St) (H : Hp) (th : List Addr) (rho : Rho) (eta : List MO) (x y : V) (d e : D) (Qa : QA) (EX : EXA), SR W th H σ rho eta → RepT W th H d x → RepT W th H e y → ra d e rho eta Qa EX →
    r x y H fun v H' => ∃ th' d' eta', Grow th H th' H' ∧ SR W th' H' σ rho eta' ∧ RepT W th' H' d' v ∧ Qa d' eta') : OpA X W Wx f ra := fun pins s σ H th rho eta x y v u d e Qa EX I S xo rx ry Rd Re hr =>
  thn (h pins s σ H x y v u _ I rx ry (k σ H th rho eta x y d e Qa EX S Rd Re hr)) fun w s' ⟨z, H', I', r, th', d', eta', g, S', R, q⟩ => ⟨z, th', H', d', eta', I', r, g, S', R, q⟩
theorem UnA.of {f : Value → Sem Value} {r : V → Hp → VK → Prop} {ra : R1a} (h : UnR X f r) (k : ∀ (σ : L2.St) (H : Hp) (th : List Addr) (rho : Rho) (eta : List MO) (x : V) (d : D) (Qa : QA) (EX : EXA), SR W th H σ rho eta → RepT W th H d x → ra d rho eta Qa EX →
    r x H fun v H' => ∃ th' d' eta', Grow th H th' H' ∧ SR W th' H' σ rho eta' ∧ RepT W th' H' d' v ∧ Qa d' eta') : UnA X W Wx f ra := fun pins s σ H th rho eta x v d Qa EX I S xo rx Rd hr =>
  thn (h pins s σ H x v _ I rx (k σ H th rho eta x d Qa EX S Rd hr)) fun w s' ⟨z, H', I', r, th', d', eta', g, S', R, q⟩ => ⟨z, th', H', d', eta', I', r, g, S', R, q⟩
theorem ClA.of {f : Value} {r : List V → Hp → VK → Prop} {ra : RNa} (h : CallR X f r) (k : ∀ (σ : L2.St) (H : Hp) (th : List Addr) (rho : Rho) (eta : List MO) (xs : List V) (ds : List D) (Qa : QA) (EX : EXA), SR W th H σ rho eta → RepTs W th H ds xs → ra ds rho eta Qa EX →
    r xs H fun v H' => ∃ th' d' eta', Grow th H th' H' ∧ SR W th' H' σ rho eta' ∧ RepT W th' H' d' v ∧ Qa d' eta') : ClA X W Wx f ra := fun pins s σ H th rho eta xs us ds Qa EX I S xo rx Rd hr =>
  thn (h pins s σ H xs us _ I rx (k σ H th rho eta xs ds Qa EX S Rd hr)) fun w s' ⟨z, H', I', r, th', d', eta', g, S', R, q⟩ => ⟨z, th', H', d', eta', I', r, g, S', R, q⟩
/-- either rule -/
theorem OpA.or {f : Value → Value → Sem Value} {r r' : R2a} (h : OpA X W Wx f r) (h' : OpA X W Wx f r') : OpA X W Wx f (fun d e rho eta Q EX => r d e rho eta Q EX ∨ r' d e rho eta Q EX) := fun pins s σ H th rho eta x y v u d e Qa EX I S xo rx ry Rd Re hr =>
  hr.elim (fun z => h pins s σ H th rho eta x y v u d e Qa EX I S xo rx ry Rd Re z) fun z => h' pins s σ H th rho eta x y v u d e Qa EX I S xo rx ry Rd Re z

def aOp (r : R2a) (ta tb : TEa) : TEa := fun rho eta Q EX => ta rho eta (fun d eta1 => tb rho eta1 (fun e eta2 => r d e rho eta2 Q EX) EX) EX
def aUn (r : R1a) (ta : TEa) : TEa := fun rho eta Q EX => ta rho eta (fun d eta1 => r d rho eta1 Q EX) EX
/-- two expressions, then an operation on their values -/
theorem binA {a b : Expr} {ta tb : TEa} {r : R2a} {f : Value → Value → Sem Value} (ho : OpA X W Wx f r) (ha : EA X W Wx a ta) (hb : EA X W Wx b tb) {pins : List (Addr × Obj)} {s : Shared} {σ : L2.St} {H : Hp} {th : List Addr} {rho : Rho} {eta : List MO} {Qa : QA} {EX : EXA}
    (I : Inv X pins σ H s) (S : SR W th H σ rho eta) (x : XOk W Wx th H EX) (h : aOp r ta tb rho eta Qa EX) :
    wpAny (model X.prog X.w) X.A (eval a X.env) (fun v s₁ => wpAny (model X.prog X.w) X.A (eval b X.env) (fun u s₂ => wpAny (model X.prog X.w) X.A (f v u) (EPa X W pins σ th H rho Qa) X.xe s₂) X.xe s₁) X.xe s := by
  refine thn (ha.run pins s σ H th rho eta _ EX I S x h) fun v s1 ⟨xv, th1, H1, d, eta1, I1, r1, g1, S1, R1, q1⟩ => ?_
  refine thn (hb.run pins s1 σ H1 th1 rho eta1 _ EX I1 S1 (x.mono g1 S1.hp) q1) fun u s2 ⟨yv, th2, H2, e, eta2, I2, r2, g2, S2, R2, q2⟩ => ?_
  have g12 := g1.trans' S1.hp g2
  refine thn (ho pins s2 σ H2 th2 rho eta2 xv yv v u d e Qa EX I2 S2 (x.mono g12 S2.hp) r1 r2 (R1.mono g2) R2 q2) fun w s3 ⟨z, th3, H3, d3, eta3, I3, r3, g3, S3, R3, q3⟩ => ?_
  exact ⟨z, th3, H3, d3, eta3, I3, r3, g12.trans' S2.hp g3, S3, R3, q3⟩
theorem ea_op {op : Operator} {r : R2a} {a b : Expr} {ta tb : TEa} {pos : Pos} (ho : OpA X W Wx (binaryOp op) r) (ha : EA X W Wx a ta) (hb : EA X W Wx b tb) : EA X W Wx (.BinOp a op b pos) (aOp r ta tb) :=
  ⟨fun pins s σ H th rho eta Qa EX I S x h => wpAny_BinOp (binA ho ha hb I S x h)⟩
theorem ea_un {op : UnaryOp} {r : R1a} {a : Expr} {ta : TEa} {pos : Pos} (ho : UnA X W Wx (unaryOp op) r) (ha : EA X W Wx a ta) : EA X W Wx (.UnaryOp op a pos) (aUn r ta) := by
  refine ⟨fun pins s σ H th rho eta Qa EX I S x h => ?_⟩
  refine UnaryOp_ (thn (ha.run pins s σ H th rho eta _ EX I S x h) fun v s1 ⟨xv, th1, H1, d, eta1, I1, r1, g1, S1, R1, q1⟩ => ?_)
  refine thn (ho pins s1 σ H1 th1 rho eta1 xv v d Qa EX I1 S1 (x.mono g1 S1.hp) r1 R1 q1) fun w s3 ⟨z, th3, H3, d3, eta3, I3, r3, g3, S3, R3, q3⟩ => ?_
  exact ⟨z, th3, H3, d3, eta3, I3, r3, g1.trans' S1.hp g3, S3, R3, q3⟩
theorem ea_cmp {op : CmpOp} {r : R2a} {a b : Expr} {ta tb : TEa} {pos : Pos} (ho : OpA X W Wx (compareOp op) r) (ha : EA X W Wx a ta) (hb : EA X W Wx b tb) (hm : behindInMarks op b = false := by first | exact nomark _ | rfl) : EA X W Wx (.Compare a [op] [b] pos) (aOp r ta tb) :=
  ⟨fun pins s σ H th rho eta Qa EX I S x h => wpAny_Compare1 (binA ho ha hb I S x h) hm⟩

/-! ### ints -/
def raI (C : Int → Int → Prop) (g : Int → Int → D) : R2a := fun d e _ eta Q _ => match d, e with
  | .int i, .int j => C i j ∧ Q (g i j) eta
  | _, _ => False
theorem opI_of {f : Value → Value → Sem Value} {C : Int → Int → Prop} {g : Int → Int → V} {ga : Int → Int → D} (h : OpR X f (rI C g)) (hg : ∀ i j, ∀ th H, RepT W th H (ga i j) (g i j)) : OpA X W Wx f (raI C ga) :=
  .of h fun σ H th rho eta x y d e Qa EX S Rd Re hr => by
    unfold raI at hr
    split at hr
    · obtain ⟨hc, q⟩ := hr
      have e1 : x = _ := Rd
      have e2 : y = _ := Re
      exact ⟨_, _, e1, e2, hc, hereC S (hg _ _ _ _) q⟩
    · exact hr.elim
def CT (_ _ : Int) : Prop := True
theorem opI0_of {f : Value → Value → Sem Value} {g : Int → Int → V} {ga : Int → Int → D} (h : OpR X f (rI0 g)) (hg : ∀ i j, ∀ th H, RepT W th H (ga i j) (g i j)) : OpA X W Wx f (raI CT ga) :=
  .of h fun σ H th rho eta x y d e Qa EX S Rd Re hr => by
    unfold raI at hr
    split at hr
    · obtain ⟨hc, q⟩ := hr
      have e1 : x = _ := Rd
      have e2 : y = _ := Re
      exact ⟨_, _, e1, e2, hereC S (hg _ _ _ _) q⟩
    · exact hr.elim
theorem oa_add : OpA X W Wx (binaryOp .Add) (raI CT fun i j => .int (i + j)) := opI0_of op_add fun _ _ _ _ => rfl
theorem oa_sub : OpA X W Wx (binaryOp .Sub) (raI CT fun i j => .int (i - j)) := opI0_of op_sub fun _ _ _ _ => rfl
theorem op_mulM : OpR X (binaryOp .Mult) (rI IntMulOk fun i j => .int (i * j)) := opI fun _ _ _ _ _ _ _ hc q => mul_int q hc
theorem oa_mul : OpA X W Wx (binaryOp .Mult) (raI IntMulOk fun i j => .int (i * j)) := opI_of op_mulM fun _ _ _ _ => rfl
def CFd (i j : Int) : Prop := j ≠ 0 ∧ Builtin.divisionGoesByPylong i j = false
theorem op_fdivF : OpR X (binaryOp .FloorDiv) (rI CFd fun i j => .int (i.fdiv j)) := opI fun _ _ _ _ _ _ _ hc q => floordiv_int hc.1 q (.inl hc.2)
theorem oa_fdiv : OpA X W Wx (binaryOp .FloorDiv) (raI CFd fun i j => .int (i.fdiv j)) := opI_of op_fdivF fun _ _ _ _ => rfl
theorem oa_mod : OpA X W Wx (binaryOp .Mod) (raI (fun _ j => j ≠ 0) fun i j => .int (i.fmod j)) := opI_of op_modN fun _ _ _ _ => rfl
theorem oa_pow : OpA X W Wx (binaryOp .Pow) (raI CPow fun i j => .int (i ^ j.toNat)) := opI_of op_pow fun _ _ _ _ => rfl
theorem oa_band : OpA X W Wx (binaryOp .BitAnd) (raI CT fun i j => .int (Builtin.bitAnd i j)) := opI0_of op_and fun _ _ _ _ => rfl
theorem oa_lt : OpA X W Wx (compareOp .Lt) (raI CT fun i j => .bl (decide (i < j))) := opI0_of op_lt fun _ _ _ _ => rfl
theorem oa_le : OpA X W Wx (compareOp .LtE) (raI CT fun i j => .bl (decide (i ≤ j))) := opI0_of op_le fun _ _ _ _ => rfl
theorem oa_gt : OpA X W Wx (compareOp .Gt) (raI CT fun i j => .bl (decide (j < i))) := opI0_of op_gt fun _ _ _ _ => rfl
theorem oa_ge : OpA X W Wx (compareOp .GtE) (raI CT fun i j => .bl (decide (j ≤ i))) := opI0_of op_ge fun _ _ _ _ => rfl
def raNeg : R1a := fun d _ eta Q _ => match d with
  | .int i => Q (.int (-i)) eta
  | _ => False
theorem ua_neg : UnA X W Wx (unaryOp .USub) raNeg := .of un_neg fun σ H th rho eta x d Qa EX S Rd hr => by
  unfold raNeg at hr
  split at hr
  · have e1 : x = _ := Rd
    exact ⟨_, e1, hereC (d := .int _) S rfl hr⟩
  · exact hr.elim

/-! ### == of plain data; is None; order of texts -/
/-- a numbered list as data -/
def rsl (eta : List MO) (d : D) : D := match d with
  | .ref n => (match eta[n]? with
    | some (.lst ds) => .fl ds
    | _ => .rat 0)
  | d => d
def raEq : R2a := fun d e _ eta Q _ => D.pl 60 (rsl eta d) = true ∧ D.pl 60 (rsl eta e) = true ∧ Q (.bl (D.eqd (rsl eta d) (rsl eta e))) eta
def raNe : R2a := fun d e _ eta Q _ => D.pl 60 (rsl eta d) = true ∧ D.pl 60 (rsl eta e) = true ∧ Q (.bl (!D.eqd (rsl eta d) (rsl eta e))) eta
theorem rsl_dp {th : List Addr} {H : Hp} {eta : List MO} {d : D} {x : V} (S : SRh W th H eta) (R : RepT W th H d x) (p : D.pl 60 (rsl eta d) = true) : Dp X.K H x (rsl eta d).py := by
  cases d with
  | ref n =>
    obtain ⟨a, e, rfl⟩ := R
    cases hn : eta[n]? with
    | none => simp [rsl, hn, D.pl] at p
    | some mo =>
      obtain ⟨b, ho, e1, e2, rm⟩ := S.obj n mo hn
      rw [e] at e1; cases e1
      cases mo with
      | lst ds =>
        simp only [rsl, hn] at p ⊢
        obtain ⟨vs, rfl, rs⟩ := rm
        exact .lst (SqL.of e2) (D.pys_dp 59 ds vs (by simpa [D.pl] using p) rs)
      | _ => simp [rsl, hn, D.pl] at p
  | _ => exact D.py_dp (W := W) 60 _ x p R
theorem oa_eq (hu : X.A.units + 64 < cLine) : OpA X W Wx (compareOp .Eq) raEq := .of (op_eqD hu) fun σ H th rho eta x y d e Qa EX S Rd Re ⟨h1, h2, q⟩ =>
  ⟨_, _, rsl_dp S.hp Rd h1, rsl_dp S.hp Re h2, D.shaped h1, D.shaped h2, hereC (d := .bl _) S (by show _ = _; rw [D.eqv_py 60 60 _ _ h1 h2]) q⟩
theorem oa_ne (hu : X.A.units + 64 < cLine) : OpA X W Wx (compareOp .NotEq) raNe := .of (op_neD hu) fun σ H th rho eta x y d e Qa EX S Rd Re ⟨h1, h2, q⟩ =>
  ⟨_, _, rsl_dp S.hp Rd h1, rsl_dp S.hp Re h2, D.shaped h1, D.shaped h2, hereC (d := .bl _) S (by show _ = _; rw [D.eqv_py 60 60 _ _ h1 h2]) q⟩
def D.isN : D → Bool
  | .non => true
  | _ => false
theorem isN_of {th : List Addr} {H : Hp} {d : D} {x : V} (R : RepT W th H d x) : decide (x = .non) = d.isN := by
  cases d with
  | non => have e : x = _ := R; subst e; rfl
  | bl b => have e : x = _ := R; subst e; rfl
  | int i => have e : x = _ := R; subst e; rfl
  | str z => have e : x = _ := R; subst e; rfl
  | cls c => have e : x = _ := R; subst e; rfl
  | ty c => have e : x = _ := R; subst e; rfl
  | rat q => obtain ⟨a, e, _⟩ := R; subst e; rfl
  | tup q => obtain ⟨a, _, e, _⟩ := R; subst e; rfl
  | fl q => obtain ⟨a, _, _, e, _⟩ := R; subst e; rfl
  | fd q _ => obtain ⟨a, _, _, e, _⟩ := R; subst e; rfl
  | fdt q _ => obtain ⟨a, _, _, e, _⟩ := R; subst e; rfl
  | obj q _ => obtain ⟨a, _, _, _, e, _⟩ := R; subst e; rfl
  | ref n => obtain ⟨a, _, e⟩ := R; subst e; rfl
  | exn a _ _ _ => obtain ⟨e, _⟩ := R; subst e; rfl
def raIs (neg : Bool) : R2a := fun d e _ eta Q _ => match e with
  | .non => Q (.bl (if neg then !d.isN else d.isN)) eta
  | _ => False
theorem oa_is : OpA X W Wx (compareOp .Is) (raIs false) := .of op_isN fun σ H th rho eta x y d e Qa EX S Rd Re hr => by
  unfold raIs at hr
  split at hr
  · exact ⟨Re, hereC (d := .bl _) S (by show _ = _; rw [isN_of Rd]; rfl) hr⟩
  · exact hr.elim
theorem oa_isnot : OpA X W Wx (compareOp .IsNot) (raIs true) := .of op_notN fun σ H th rho eta x y d e Qa EX S Rd Re hr => by
  unfold raIs at hr
  split at hr
  · exact ⟨Re, hereC (d := .bl _) S (by show _ = _; rw [isN_of Rd]; rfl) hr⟩
  · exact hr.elim

/-! ### tests -/
def aTst (t : TEa) : TTa := fun rho eta Q EX => t rho eta (fun d eta1 => match d with
  | .bl b => Q b eta1
  | _ => False) EX
theorem TA'.of {e : Expr} {tt : TT} {t : TTa} (h : PT X e tt) (k : ∀ (σ : L2.St) (H : Hp) (th : List Addr) (rho : Rho) (eta : List MO) (Qa : Bool → List MO → Prop) (EX : EXA), SR W th H σ rho eta → XOk W Wx th H EX → t rho eta Qa EX →
    tt σ H fun b H' => ∃ th' eta', Grow th H th' H' ∧ SR W th' H' σ rho eta' ∧ Qa b eta') : TA' X W Wx e t := ⟨fun pins s σ H th rho eta Qa EX I S x ht =>
  thn (h.run pins s σ H _ I (k σ H th rho eta Qa EX S x ht)) fun u s' ⟨H', I', th', eta', g, S', q⟩ => ⟨th', H', eta', I', g, S', q⟩⟩
theorem aTst_of {te : TEa} {σ : L2.St} {H : Hp} {th : List Addr} {rho : Rho} {eta : List MO} {Qa : Bool → List MO → Prop} {EX : EXA} (S : SR W th H σ rho eta) (x : XOk W Wx th H EX) (h : aTst te rho eta Qa EX) :
    lftE W Wx te σ H fun v H' => ∃ k, v = .bl k ∧ ∃ th' eta', Grow th H th' H' ∧ SR W th' H' σ rho eta' ∧ Qa k eta' := by
  refine ⟨th, rho, eta, _, EX, S, x, h, fun th1 H1 v d eta1 g S1 R q => ?_⟩
  split at q
  · have e : v = _ := R
    exact ⟨_, e, th1, eta1, g, S1, q⟩
  · exact q.elim
theorem ta_val {e : Expr} {te : TEa} (h : EA X W Wx e te) (he : ∀ whole, isTrue e X.env whole = (do let v ← whole; standAt e.pos; holding [v] (truthy v)) := by intro _; rfl) : TA' X W Wx e (aTst te) :=
  .of (pt_val h.pe he) fun σ H th rho eta Qa EX S x ht => aTst_of S x ht
/-- a comparison as a test -/
theorem ta_cmp {op : CmpOp} {r : R2a} {a b : Expr} {ta tb : TEa} {pos : Pos} (ho : OpA X W Wx (compareOp op) r) (ha : EA X W Wx a ta) (hb : EA X W Wx b tb) (hm : behindInMarks op b = false := by first | exact nomark _ | rfl) : TA' X W Wx (.Compare a [op] [b] pos) (aTst (aOp r ta tb)) := by
  refine ⟨fun pins s σ H th rho eta Qa EX I S x h => ?_⟩
  refine wpAny_isTrue_Compare1 (thn (binA ho ha hb I S x h) fun v s1 h1 => thn h1 fun u s2 h2 => thn h2 fun c s3 ⟨z, th3, H3, d3, eta3, I3, r3, g3, S3, R3, q3⟩ => ?_) hm
  dsimp only at q3
  split at q3
  · have e : z = _ := R3
    subst e
    cases r3
    exact wpAny_truthy_bool ⟨th3, H3, eta3, I3, g3, S3, q3⟩
  · exact q3.elim
def aAnd (t u : TTa) : TTa := fun rho eta Q EX => t rho eta (fun c eta1 => if c = true then u rho eta1 Q EX else Q false eta1) EX
def aOr (t u : TTa) : TTa := fun rho eta Q EX => t rho eta (fun c eta1 => if c = true then Q true eta1 else u rho eta1 Q EX) EX
def aNot (t : TTa) : TTa := fun rho eta Q EX => t rho eta (fun c eta1 => Q (!c) eta1) EX
theorem wa_and1 {a : Expr} {pos : Pos} {tA : TTa} (ha : TA' X W Wx a tA) : WA X W Wx (.BoolOp .And [a] pos) tA := by
  refine ⟨fun wh pins s σ H th rho eta Qa EX I S x h => isTrue_and (thn (ha.run pins s σ H th rho eta Qa EX I S x h) fun c s1 e => ?_)⟩
  cases c with
  | true => exact isTrue_and_nil e
  | false => exact e
theorem wa_or1 {a : Expr} {pos : Pos} {tA : TTa} (ha : TA' X W Wx a tA) : WA X W Wx (.BoolOp .Or [a] pos) tA := by
  refine ⟨fun wh pins s σ H th rho eta Qa EX I S x h => isTrue_or (thn (ha.run pins s σ H th rho eta Qa EX I S x h) fun c s1 e => ?_)⟩
  cases c with
  | false => exact isTrue_or_nil e
  | true => exact e
theorem wa_and {a b : Expr} {rest : List Expr} {pos : Pos} {tA tB : TTa} (ha : TA' X W Wx a tA) (hb : WA X W Wx (.BoolOp .And (b :: rest) pos) tB) : WA X W Wx (.BoolOp .And (a :: b :: rest) pos) (aAnd tA tB) := by
  refine ⟨fun wh pins s σ H th rho eta Qa EX I S x h => isTrue_and (thn (ha.run pins s σ H th rho eta _ EX I S x h) fun c s1 ⟨th1, H1, eta1, I1, g1, S1, q1⟩ => ?_)⟩
  cases c with
  | true => exact thn (hb.run wh pins s1 σ H1 th1 rho eta1 Qa EX I1 S1 (x.mono g1 S1.hp) q1) fun c s2 ⟨th2, H2, eta2, I2, g2, S2, q2⟩ => ⟨th2, H2, eta2, I2, g1.trans' S1.hp g2, S2, q2⟩
  | false => exact ⟨th1, H1, eta1, I1, g1, S1, q1⟩
theorem wa_or {a b : Expr} {rest : List Expr} {pos : Pos} {tA tB : TTa} (ha : TA' X W Wx a tA) (hb : WA X W Wx (.BoolOp .Or (b :: rest) pos) tB) : WA X W Wx (.BoolOp .Or (a :: b :: rest) pos) (aOr tA tB) := by
  refine ⟨fun wh pins s σ H th rho eta Qa EX I S x h => isTrue_or (thn (ha.run pins s σ H th rho eta _ EX I S x h) fun c s1 ⟨th1, H1, eta1, I1, g1, S1, q1⟩ => ?_)⟩
  cases c with
  | false => exact thn (hb.run wh pins s1 σ H1 th1 rho eta1 Qa EX I1 S1 (x.mono g1 S1.hp) q1) fun c s2 ⟨th2, H2, eta2, I2, g2, S2, q2⟩ => ⟨th2, H2, eta2, I2, g1.trans' S1.hp g2, S2, q2⟩
  | true => exact ⟨th1, H1, eta1, I1, g1, S1, q1⟩
theorem ta_not {a : Expr} {pos : Pos} {tA : TTa} (ha : TA' X W Wx a tA) : TA' X W Wx (.UnaryOp .Not a pos) (aNot tA) :=
  ⟨fun pins s σ H th rho eta Qa EX I S x h => isTrue_not (ha.run pins s σ H th rho eta (fun c eta1 => Qa (!c) eta1) EX I S x h)⟩
theorem bl_inv {d : D} {P : Bool → Prop} (h : match d with
  | .bl b => P b
  | _ => False) : ∃ b, d = .bl b ∧ P b := by
  cases d <;> first | exact ⟨_, rfl, h⟩ | exact h.elim
/-! .. as values -/
def aAndV (ta tb : TEa) : TEa := fun rho eta Q EX => ta rho eta (fun d eta1 => match d with
  | .bl c => if c = true then tb rho eta1 Q EX else Q (.bl false) eta1
  | _ => False) EX
def aOrV (ta tb : TEa) : TEa := fun rho eta Q EX => ta rho eta (fun d eta1 => match d with
  | .bl c => if c = true then Q (.bl true) eta1 else tb rho eta1 Q EX
  | _ => False) EX
def aNotV (ta : TEa) : TEa := fun rho eta Q EX => ta rho eta (fun d eta1 => match d with
  | .bl c => Q (.bl (!c)) eta1
  | _ => False) EX
theorem ea_one {op} {a : Expr} {pos : Pos} {t : TEa} (h : EA X W Wx a t) : EA X W Wx (.BoolOp op [a] pos) t := ⟨fun pins s σ H th rho eta Qa EX I S x hw => BoolOp_one (h.run pins s σ H th rho eta Qa EX I S x hw)⟩
theorem ea_and {a b : Expr} {rest : List Expr} {pos : Pos} {ta tb : TEa} (ha : EA X W Wx a ta) (hb : EA X W Wx (.BoolOp .And (b :: rest) pos) tb) : EA X W Wx (.BoolOp .And (a :: b :: rest) pos) (aAndV ta tb) := by
  refine ⟨fun pins s σ H th rho eta Qa EX I S x h => BoolOp_and (thn (ha.run pins s σ H th rho eta _ EX I S x h) fun v s1 ⟨z, th1, H1, d, eta1, I1, r1, g1, S1, R1, q1⟩ => ?_)⟩
  obtain ⟨c, rfl, q1⟩ := bl_inv q1
  · have e : z = _ := R1
    subst e
    cases r1
    refine wpAny_truthy_bool ?_
    cases c with
    | true => exact thn (hb.run pins s1 σ H1 th1 rho eta1 Qa EX I1 S1 (x.mono g1 S1.hp) q1) fun c s2 ⟨z2, th2, H2, d2, eta2, I2, r2, g2, S2, R2, q2⟩ => ⟨z2, th2, H2, d2, eta2, I2, r2, g1.trans' S1.hp g2, S2, R2, q2⟩
    | false => exact ⟨.bl false, th1, H1, .bl false, eta1, I1, rfl, g1, S1, rfl, q1⟩
theorem ea_or {a b : Expr} {rest : List Expr} {pos : Pos} {ta tb : TEa} (ha : EA X W Wx a ta) (hb : EA X W Wx (.BoolOp .Or (b :: rest) pos) tb) : EA X W Wx (.BoolOp .Or (a :: b :: rest) pos) (aOrV ta tb) := by
  refine ⟨fun pins s σ H th rho eta Qa EX I S x h => BoolOp_or (thn (ha.run pins s σ H th rho eta _ EX I S x h) fun v s1 ⟨z, th1, H1, d, eta1, I1, r1, g1, S1, R1, q1⟩ => ?_)⟩
  obtain ⟨c, rfl, q1⟩ := bl_inv q1
  · have e : z = _ := R1
    subst e
    cases r1
    refine wpAny_truthy_bool ?_
    cases c with
    | false => exact thn (hb.run pins s1 σ H1 th1 rho eta1 Qa EX I1 S1 (x.mono g1 S1.hp) q1) fun c s2 ⟨z2, th2, H2, d2, eta2, I2, r2, g2, S2, R2, q2⟩ => ⟨z2, th2, H2, d2, eta2, I2, r2, g1.trans' S1.hp g2, S2, R2, q2⟩
    | true => exact ⟨.bl true, th1, H1, .bl true, eta1, I1, rfl, g1, S1, rfl, q1⟩
theorem ea_not {a : Expr} {pos : Pos} {ta : TEa} (ha : EA X W Wx a ta) : EA X W Wx (.UnaryOp .Not a pos) (aNotV ta) := by
  refine ⟨fun pins s σ H th rho eta Qa EX I S x h => UnaryOp_ (thn (ha.run pins s σ H th rho eta _ EX I S x h) fun v s1 ⟨z, th1, H1, d, eta1, I1, r1, g1, S1, R1, q1⟩ => ?_)⟩
  dsimp only at q1
  split at q1
  · have e : z = _ := R1
    subst e
    cases r1
    exact not_of (wpAny_truthy_bool ⟨.bl _, th1, H1, .bl _, eta1, I1, rfl, g1, S1, rfl, q1⟩)
  · exact q1.elim
def aIf (t : TTa) (ta tb : TEa) : TEa := fun rho eta Q EX => t rho eta (fun c eta1 => if c = true then ta rho eta1 Q EX else tb rho eta1 Q EX) EX
theorem ea_if {a b c : Expr} {pos : Pos} {ta tb : TEa} {tc : TTa} (hc : TA' X W Wx c tc) (ha : EA X W Wx a ta) (hb : EA X W Wx b tb) : EA X W Wx (.IfExp c a b pos) (aIf tc ta tb) := by
  refine ⟨fun pins s σ H th rho eta Qa EX I S x h => wpAny_IfExp (thn (hc.run pins s σ H th rho eta _ EX I S x h) fun d s1 ⟨th1, H1, eta1, I1, g1, S1, q1⟩ => ?_)⟩
  cases d with
  | true => exact thn (ha.run pins s1 σ H1 th1 rho eta1 Qa EX I1 S1 (x.mono g1 S1.hp) q1) fun c s2 ⟨z2, th2, H2, d2, eta2, I2, r2, g2, S2, R2, q2⟩ => ⟨z2, th2, H2, d2, eta2, I2, r2, g1.trans' S1.hp g2, S2, R2, q2⟩
  | false => exact thn (hb.run pins s1 σ H1 th1 rho eta1 Qa EX I1 S1 (x.mono g1 S1.hp) q1) fun c s2 ⟨z2, th2, H2, d2, eta2, I2, r2, g2, S2, R2, q2⟩ => ⟨z2, th2, H2, d2, eta2, I2, r2, g1.trans' S1.hp g2, S2, R2, q2⟩
end
end RF
set_option maxRecDepth 100000
set_option maxHeartbeats 4000000
namespace RF
open PySem PySem.Spec PyProof.Rows L2
section
variable {X : Cx} {W : Wd} {Wx : WX}
theorem SR.set {th : List Addr} {H : Hp} {σ : L2.St} {rho : Rho} {eta : List MO} (S : SR W th H σ rho eta) (i : Nat) {d : D} {v : V} (R : RepT W th H d v) : SR W th H (σ.set i (some v)) (rho.set i (some d)) eta := by
  refine ⟨fun j e h => ?_, by simpa using S.le, S.hp⟩
  by_cases hj : i = j
  · subst hj
    by_cases hl : i < rho.length
    · rw [List.getElem?_set_self hl] at h
      cases h
      exact ⟨v, List.getElem?_set_self (Nat.lt_of_lt_of_le hl S.le), R⟩
    · rw [List.getElem?_eq_none (by simp; omega)] at h; cases h
  · rw [List.getElem?_set_ne hj] at h
    obtain ⟨w, e1, r⟩ := S.var j e h
    exact ⟨w, by rw [List.getElem?_set_ne hj]; exact e1, r⟩
/-! ### blocks -/
def aNext : TSa := fun Dn rho eta _ => Dn.nx rho eta
def aSeq (t u : TSa) : TSa := fun Dn rho eta EX => t { Dn with nx := fun rho1 eta1 => u Dn rho1 eta1 EX } rho eta EX
theorem SPa.grow {pins : List (Addr × Obj)} {th th1 : List Addr} {H H1 : Hp} {eta1 : List MO} {Dn : EndsA} {f : Flow} {s' : Shared} (g : Grow th H th1 H1) (S : SRh W th1 H1 eta1) (h : SPa X W pins th1 H1 Dn f s') : SPa X W pins th H Dn f s' := by
  cases f with
  | next => obtain ⟨σ', th', H', rho', eta', I', g', S', q⟩ := h; exact ⟨σ', th', H', rho', eta', I', g.trans' S g', S', q⟩
  | brk => obtain ⟨σ', th', H', rho', eta', I', g', S', q⟩ := h; exact ⟨σ', th', H', rho', eta', I', g.trans' S g', S', q⟩
  | cont => obtain ⟨σ', th', H', rho', eta', I', g', S', q⟩ := h; exact ⟨σ', th', H', rho', eta', I', g.trans' S g', S', q⟩
  | ret u => obtain ⟨v, σ', th', H', rho', d, eta', I', r, g', S', R, q⟩ := h; exact ⟨v, σ', th', H', rho', d, eta', I', r, g.trans' S g', S', R, q⟩
theorem ss_nil : SsA X W Wx [] aNext := ⟨fun pins s σ H th rho eta Dn EX I S x h => wpAny_execs_nil ⟨σ, th, H, rho, eta, I, Grow.refl _ _, S, h⟩⟩
theorem ss_cons {st : Stmt} {rest : List Stmt} {t u : TSa} (h1 : SA X W Wx st t) (h2 : SsA X W Wx rest u) : SsA X W Wx (st :: rest) (aSeq t u) := by
  refine ⟨fun pins s σ H th rho eta Dn EX I S x h => wpAny_execs_cons (thn (h1.run pins s σ H th rho eta { Dn with nx := fun rho1 eta1 => u Dn rho1 eta1 EX } EX I S x h) fun f s1 q => ?_)⟩
  cases f with
  | next =>
    obtain ⟨σ', th', H', rho', eta', I', g, S', q⟩ := q
    exact thn (h2.run pins s1 σ' H' th' rho' eta' Dn EX I' S' (x.mono g S'.hp) q) fun f s2 q2 => q2.grow g S'.hp
  | ret v => exact q
  | brk => exact q
  | cont => exact q
theorem ss_one {st : Stmt} {t : TSa} (h1 : SA X W Wx st t) : SsA X W Wx [st] t := by
  refine ⟨fun pins s σ H th rho eta Dn EX I S x h => wpAny_execs_cons (thn (h1.run pins s σ H th rho eta Dn EX I S x h) fun f s1 q => ?_)⟩
  cases f with
  | next => exact wpAny_execs_nil q
  | ret v => exact q
  | brk => exact q
  | cont => exact q
def aBrk : TSa := fun Dn rho eta _ => Dn.bk rho eta
def aCnt : TSa := fun Dn rho eta _ => Dn.ct rho eta
def aDrop (t : TEa) : TSa := fun Dn rho eta EX => t rho eta (fun _ eta1 => Dn.nx rho eta1) EX
def aRet (t : TEa) : TSa := fun Dn rho eta EX => t rho eta Dn.rt EX
def aRetN : TSa := fun Dn _ eta _ => Dn.rt .non eta
theorem sa_pass {pos : Pos} : SA X W Wx (.Pass pos) aNext := ⟨fun pins s σ H th rho eta Dn EX I S x h => wpAny_Pass ⟨σ, th, H, rho, eta, I, Grow.refl _ _, S, h⟩⟩
theorem sa_break {pos : Pos} : SA X W Wx (.Break pos) aBrk := ⟨fun pins s σ H th rho eta Dn EX I S x h => wpAny_Break ⟨σ, th, H, rho, eta, I, Grow.refl _ _, S, h⟩⟩
theorem sa_continue {pos : Pos} : SA X W Wx (.Continue pos) aCnt := ⟨fun pins s σ H th rho eta Dn EX I S x h => wpAny_Continue ⟨σ, th, H, rho, eta, I, Grow.refl _ _, S, h⟩⟩
theorem sa_expr {e : Expr} {pos : Pos} {t : TEa} (he : EA X W Wx e t) (hs : swapsWith e none pos.line X.env = pure false := by rfl) : SA X W Wx (.Expr e pos) (aDrop t) :=
  ⟨fun pins s σ H th rho eta Dn EX I S x h => wpAny_Expr_any (thn (he.run pins s σ H th rho eta _ EX I S x h) fun v s1 ⟨z, th', H', d, eta', I', r, g, S', R, q⟩ => ⟨σ, th', H', rho, eta', I', g, S', q⟩) I.quiet hs⟩
theorem sa_ret {e : Expr} {pos : Pos} {t : TEa} (he : EA X W Wx e t) : SA X W Wx (.Return (some e) pos) (aRet t) :=
  ⟨fun pins s σ H th rho eta Dn EX I S x h => wpAny_Return_some (thn (he.run pins s σ H th rho eta _ EX I S x h) fun v s1 ⟨z, th', H', d, eta', I', r, g, S', R, q⟩ => ⟨z, σ, th', H', rho, d, eta', I', r, g, S', R, q⟩)⟩
theorem sa_retN {pos : Pos} : SA X W Wx (.Return none pos) aRetN := ⟨fun pins s σ H th rho eta Dn EX I S x h => wpAny_Return_none ⟨.non, σ, th, H, rho, .non, eta, I, rfl, Grow.refl _ _, S, rfl, h⟩⟩
def aIfS (c : TTa) (t u : TSa) : TSa := fun Dn rho eta EX => c rho eta (fun b eta1 => if b = true then t Dn rho eta1 EX else u Dn rho eta1 EX) EX
theorem sa_if {c : Expr} {a b : List Stmt} {pos : Pos} {tc : TTa} {t u : TSa} (hc : TA' X W Wx c tc) (ha : SsA X W Wx a t) (hb : SsA X W Wx b u) : SA X W Wx (.If c a b pos) (aIfS tc t u) := by
  refine ⟨fun pins s σ H th rho eta Dn EX I S x h => wpAny_If (thn (hc.run pins s σ H th rho eta _ EX I S x h) fun d s1 ⟨th1, H1, eta1, I1, g1, S1, q1⟩ => ?_)⟩
  cases d with
  | true => exact thn (ha.run pins s1 σ H1 th1 rho eta1 Dn EX I1 S1 (x.mono g1 S1.hp) q1) fun f s2 q2 => q2.grow g1 S1.hp
  | false => exact thn (hb.run pins s1 σ H1 th1 rho eta1 Dn EX I1 S1 (x.mono g1 S1.hp) q1) fun f s2 q2 => q2.grow g1 S1.hp
/-- name = e -/
def aSet (i : Nat) (t : TEa) : TSa := fun Dn rho eta EX => t rho eta (fun d eta1 => Dn.nx (rho.set i (some d)) eta1) EX
theorem sa_set {i : Nat} {x : Str} {e : Expr} {t : TEa} {pos pos' : Pos} (hN : X.N.Nodup) (hi : X.N[i]? = some x) (hx : Loc X.env.scope x) (he : EA X W Wx e t) (hs : swapsWith e (some (.Name x pos')) pos.line X.env = pure false := by rfl) (hf : X.fn x = true ∨ X.env.scope.names.lookup x = some .local := by first | exact .inl rfl | exact .inr rfl | assumption) :
    SA X W Wx (.Assign [.Name x pos'] e pos) (aSet i t) := by
  refine ⟨fun pins s σ H th rho eta Dn EX I S xo h => ?_⟩
  refine wpAny_Assign_Name (thn (he.run pins s σ H th rho eta _ EX I S xo h) fun v s1 ⟨y, th1, H1, d, eta1, I1, r1, g1, S1, R1, q1⟩ => ?_) hs
  exact store_ok I1 hN hi hx r1 (fun s2 I2 => ⟨_, th1, H1, _, eta1, I2, g1, S1.set i R1, q1⟩) hf
/-- a, b = x, y (two local names) -/
def aPar (i j : Nat) (t : TAa) : TSa := fun Dn rho eta EX => t rho eta (fun ds eta1 => match ds with
  | [d, e] => Dn.nx ((rho.set i (some d)).set j (some e)) eta1
  | _ => False) EX
theorem sa_par {i j : Nat} {x y : Str} {a b : Expr} {t : TAa} {px py pt pos : Pos} {kt k2 pt2} (hc : X.calm = true) (hN : X.N.Nodup) (hi : X.N[i]? = some x) (hj : X.N[j]? = some y) (hij : i ≠ j)
    (hx : X.env.scope.names.lookup x = some .local) (hy : X.env.scope.names.lookup y = some .local) (ha : AA X W Wx [a, b] t)
    (hw : swappedStores [.Tuple [.Name x px, .Name y py] kt pt] (.Tuple [a, b] k2 pt2) X.env = pure (some [x, y]) := by rfl)
    (hs : swapsWithSole [.Tuple [.Name x px, .Name y py] kt pt] (.Tuple [a, b] k2 pt2) pos.line X.env = pure false := by rfl) :
    SA X W Wx (.Assign [.Tuple [.Name x px, .Name y py] kt pt] (.Tuple [a, b] k2 pt2) pos) (aPar i j t) :=
  .of (ps_par hc hN hi hj hij hx hy ha.pa hw hs) fun σ H th rho eta Dn EX S xo h => by
    refine ⟨th, rho, eta, _, EX, S, xo, h, fun th1 H1 vs ds eta1 g S1 R q => ?_⟩
    split at q
    · rename_i d e
      obtain ⟨v, r, rfl, R1, w, r2, rfl, R2, e3⟩ := R
      have e3 : r2 = [] := e3
      subst e3
      exact ⟨v, w, rfl, th1, _, eta1, g, (S1.set i R1).set j R2, q⟩
    · exact q.elim

/-! ### targets -/
abbrev TGa := D → Rho → List MO → (Rho → List MO → Prop) → Prop
structure GA (X : Cx) (W : Wd) (target : Expr) (g : TGa) : Prop where
  run : ∀ (pins : List (Addr × Obj)) (s : Shared) (σ : L2.St) (H : Hp) (th : List Addr) (rho : Rho) (eta : List MO) (v : V) (u : Value) (d : D) (Q : Rho → List MO → Prop), Inv X pins σ H s → SR W th H σ rho eta → RelV v u → RepT W th H d v → g d rho eta Q →
    wpAny (model X.prog X.w) X.A (assign target X.env u) (fun _ s' => NPa X W pins th H Q s') X.xe s
def aGN (i : Nat) : TGa := fun d rho eta Q => Q (rho.set i (some d)) eta
theorem ga_name {i : Nat} {x : Str} {pos : Pos} (hN : X.N.Nodup) (hi : X.N[i]? = some x) (hx : Loc X.env.scope x) (hf : X.fn x = true ∨ X.env.scope.names.lookup x = some .local := by first | exact .inl rfl | exact .inr rfl | assumption) : GA X W (.Name x pos) (aGN i) :=
  ⟨fun pins s σ H th rho eta v u d Q I S r R h => wpAny_assign_Name (store_ok I hN hi hx r (fun s' I' => ⟨_, th, H, _, eta, I', Grow.refl _ _, S.set i R, h⟩) hf)⟩
/-- a, b, .. = a tuple -/
abbrev TGsa := List D → Rho → List MO → (Rho → List MO → Prop) → Prop
structure GsA (X : Cx) (W : Wd) (ts : List Expr) (g : TGsa) : Prop where
  run : ∀ (pins : List (Addr × Obj)) (s : Shared) (σ : L2.St) (H : Hp) (th : List Addr) (rho : Rho) (eta : List MO) (vs : List V) (us : List Value) (ds : List D) (Q : Rho → List MO → Prop), Inv X pins σ H s → SR W th H σ rho eta → Vals vs us → Reps W H ds vs → g ds rho eta Q →
    wpAny (model X.prog X.w) X.A (assignInOrder ((assignEach ts X.env).map (·.2)) us) (fun _ s' => NPa X W pins th H Q s') X.xe s
def aGsN : TGsa := fun ds rho eta Q => match ds with
  | [] => Q rho eta
  | _ => False
def aGsC (g : TGa) (r : TGsa) : TGsa := fun ds rho eta Q => match ds with
  | d :: ds => g d rho eta fun rho1 eta1 => r ds rho1 eta1 Q
  | [] => False
theorem gs_nil : GsA X W [] aGsN := ⟨fun pins s σ H th rho eta vs us ds Q I S r R h => by
  cases ds with
  | nil =>
    have e : vs = [] := R
    subst e
    cases r
    exact assignInOrder_nil ⟨σ, th, H, rho, eta, I, Grow.refl _ _, S, h⟩
  | cons d ds => exact h.elim⟩
theorem gs_cons {e : Expr} {es : List Expr} {g : TGa} {r : TGsa} (h1 : GA X W e g) (h2 : GsA X W es r)
    (hs : (assignEach (e :: es) X.env).map (·.2) = assign e X.env :: (assignEach es X.env).map (·.2) := by rfl) : GsA X W (e :: es) (aGsC g r) := ⟨fun pins s σ H th rho eta vs us ds Q I S rv R h => by
  cases ds with
  | nil => exact h.elim
  | cons d ds =>
    obtain ⟨v, vr, e1, R1, R2⟩ := R
    subst e1
    cases rv with
    | cons r1 rr =>
      rw [hs]
      refine assignInOrder_cons (thn (h1.run pins s σ H th rho eta v _ d _ I S r1 (RepT.of R1) h) fun _ s1 ⟨σ1, th1, H1, rho1, eta1, I1, g1, S1, q1⟩ => ?_)
      exact thn (h2.run pins s1 σ1 H1 th1 rho1 eta1 _ _ ds Q I1 S1 rr (Reps.mono g1.pers _ _ R2) q1) fun _ s2 ⟨σ2, th2, H2, rho2, eta2, I2, g2, S2, q2⟩ => ⟨σ2, th2, H2, rho2, eta2, I2, g1.trans' S1.hp g2, S2, q2⟩⟩
def aGT (n : Nat) (r : TGsa) : TGa := fun d rho eta Q => match d with
  | .tup ds => ds.length = n ∧ r ds rho eta Q
  | _ => False
theorem ga_tup {es : List Expr} {k : Nat} {r : TGsa} {n : Nat} {pos : Pos} (hc : X.calm = true) (h : GsA X W es r)
    (hn : (assignEach es X.env).length = n := by rfl) (hst : (assignEach es X.env).findIdx? (·.1) = none := by rfl) : GA X W (.Tuple es k pos) (aGT n r) := by
  refine ⟨fun pins s σ H th rho eta v u d Q I S rv R hw => ?_⟩
  cases d with
  | tup ds =>
    obtain ⟨hl, hw⟩ := hw
    obtain ⟨a, xs, e1, hq, Rs⟩ := R
    subst e1
    cases rv
    obtain ⟨its, rv, ht, hz⟩ := I.tuple (SqT.of hq)
    have hlx : xs.length = n := by rw [← Rs.length]; exact hl
    refine assign_Tuple_tuple (I.ok.hd hc) ht (by simp [hn, ← hlx, rv.length]) hst fun h' hx => ?_
    have I1 : Inv X pins σ H { s with heap := h' } := I.kept (t' := s.toks) fun b o e => hx b o (Nat.ne_of_lt (Heap.lt_size e)) e
    exact h.run pins _ σ H th rho eta xs _ ds Q I1 S (by simpa using rv) Rs hw
  | _ => exact hw.elim
theorem sa_asg {tg e : Expr} {t : TEa} {g : TGa} {pos : Pos} (he : EA X W Wx e t) (hg : GA X W tg g) (hs : swapsWithSole [tg] e pos.line X.env = pure false := by rfl) (hw : swappedStores [tg] e X.env = pure none := by rfl)
    (h1 : (assignEach [tg] X.env).map (·.2) = [assign tg X.env] := by rfl) : SA X W Wx (.Assign [tg] e pos) (fun Dn rho eta EX => t rho eta (fun d eta1 => g d rho eta1 Dn.nx) EX) := by
  refine ⟨fun pins s σ H th rho eta Dn EX I S xo h => ?_⟩
  refine wpAny_Assign_stores (thn (he.run pins s σ H th rho eta _ EX I S xo h) fun v s1 ⟨x, th1, H1, d, eta1, I1, r1, g1, S1, R1, q1⟩ => ?_) hs hw
  rw [h1]
  exact thn (hg.run pins s1 σ H1 th1 rho eta1 x v d _ I1 S1 r1 R1 q1) fun _ s2 ⟨σ2, th2, H2, rho2, eta2, I2, g2, S2, q2⟩ => ⟨σ2, th2, H2, rho2, eta2, I2, g1.trans' S1.hp g2, S2, q2⟩

/-! ### what is walked -/
/-- an iterator that yields these data -/
def JOk (W : Wd) (J : It) (th : List Addr) (H : Hp) (ds : List D) : Prop :=
  ∀ th' H', Grow th H th' H' → ∀ i : Nat, (∀ d, ds[i]? = some d → J.go i H' ∧ ∀ x H'', J.yld i H' x H'' → Pers H' H'' ∧ (∀ th2 eta2, SRh W th2 H' eta2 → SRh W th2 H'' eta2 ∧ Grow th2 H' th2 H'') ∧ Rep W H'' d x) ∧ (ds.length ≤ i → J.stop i H')
abbrev TIa := Rho → List MO → (List D → List MO → Prop) → EXA → Prop
structure IA (X : Cx) (W : Wd) (Wx : WX) (tg iter : Expr) (ti : TIa) : Prop where
  run : ∀ (pins : List (Addr × Obj)) (s : Shared) (σ : L2.St) (H : Hp) (th : List Addr) (rho : Rho) (eta : List MO) (R : List D → List MO → Prop) (EX : EXA), Inv X pins σ H s → SR W th H σ rho eta → XOk W Wx th H EX → ti rho eta R EX →
    wpAny (model X.prog X.w) X.A (eval iter X.env) (fun v s1 => wpAny (model X.prog X.w) X.A (pyIter v) (PIE X pins σ tg fun J H' => ∃ th' ds eta', Grow th H th' H' ∧ SR W th' H' σ rho eta' ∧ JOk W J th' H' ds ∧ R ds eta') X.xe s1) X.xe s
theorem IA.of {tg iter : Expr} {wi : TI} {ti : TIa} (h : PI X tg iter wi) (k : ∀ (σ : L2.St) (H : Hp) (th : List Addr) (rho : Rho) (eta : List MO) (R : List D → List MO → Prop) (EX : EXA), SR W th H σ rho eta → XOk W Wx th H EX → ti rho eta R EX →
    wi σ H fun J H' => ∃ th' ds eta', Grow th H th' H' ∧ SR W th' H' σ rho eta' ∧ JOk W J th' H' ds ∧ R ds eta') : IA X W Wx tg iter ti := ⟨fun pins s σ H th rho eta R EX I S x ht => h.run pins s σ H _ I (k σ H th rho eta R EX S x ht)⟩
/-- the layer's own reading of it -/
def lftI (W : Wd) (Wx : WX) (ti : TIa) : TI := fun σ H R' => ∃ th rho eta R EX, SR W th H σ rho eta ∧ XOk W Wx th H EX ∧ ti rho eta R EX ∧ ∀ J th' H' ds eta', Grow th H th' H' → SR W th' H' σ rho eta' → JOk W J th' H' ds → R ds eta' → R' J H'
theorem IA.pi {tg iter : Expr} {ti : TIa} (h : IA X W Wx tg iter ti) : PI X tg iter (lftI W Wx ti) := ⟨fun pins s σ H R' I ⟨th, rho, eta, R, EX, S, x, ht, k⟩ =>
  thn (h.run pins s σ H th rho eta R EX I S x ht) fun v s1 h1 => thn h1 fun itv s2 ⟨it, fp, tn, J, H', e, I', T, t0, f, th', ds, eta', g, S', jo, q⟩ => ⟨it, fp, tn, J, H', e, I', T, t0, f, k J th' H' ds eta' g S' jo q⟩⟩
/-- the items of a frozen list -/
def itemsQ (R : List D → List MO → Prop) : QA := fun d eta => match d with
  | .fl ds => R ds eta
  | _ => False
def aIt (t : TEa) : TIa := fun rho eta R EX => t rho eta (itemsQ R) EX
theorem Reps.get {H : Hp} : ∀ {ds : List D} {vs : List V} {i : Nat} {d : D}, Reps W H ds vs → ds[i]? = some d → ∃ v, vs[i]? = some v ∧ Rep W H d v
  | [], _, i, d, _, e => by simp at e
  | d :: ds, _, 0, e, ⟨v, r, e1, h1, h2⟩, h => by simp at h; subst h; exact ⟨v, by rw [e1]; rfl, h1⟩
  | d :: ds, _, i + 1, e, ⟨v, r, e1, h1, h2⟩, h => by
    obtain ⟨w, e2, r2⟩ := Reps.get (i := i) h2 (by simpa using h)
    exact ⟨w, by rw [e1]; simpa using e2, r2⟩
theorem jok_list {K : PySem.W.Frag} {a : Addr} {th : List Addr} {H : Hp} {o : Obj} {ds : List D} {vs : List V} (h : H a = some (.frz o (.lst vs))) (R : Reps W H ds vs) : JOk W (Itl K a) th H ds := by
  intro th' H' g i
  have h' := g.pers a _ h trivial
  have q : SqL K H' a vs := .inl (.inr ⟨o, h'⟩)
  refine ⟨fun d e => ?_, fun hl => ⟨vs, q, by rw [← R.length]; exact hl⟩⟩
  obtain ⟨v, e1, r⟩ := R.get e
  refine ⟨⟨vs, v, q, e1⟩, fun x H'' hy => ?_⟩
  obtain ⟨e2, hy⟩ := hy
  subst e2
  have ex := hy vs q
  rw [e1] at ex; cases ex
  exact ⟨fun _ _ z _ => z, fun th2 eta2 S2 => ⟨S2, Grow.refl _ _⟩, Rep.mono g.pers _ _ r⟩
theorem ia_list {tg l : Expr} {t : TEa} (h : EA X W Wx l t) : IA X W Wx tg l (aIt t) := .of (pi_list h.pe) fun σ H th rho eta R EX S x ht => by
  refine ⟨th, rho, eta, _, EX, S, x, ht, fun th1 H1 v d eta1 g S1 Rd q => ?_⟩
  unfold itemsQ at q
  split at q
  · obtain ⟨a, o, vs, rfl, e, Rs⟩ := Rd
    exact ⟨a, rfl, ⟨vs, .inl (.inr ⟨o, e⟩)⟩, th1, _, eta1, g, S1, jok_list e Rs, q⟩
  · exact q.elim
def itemsT (R : List D → List MO → Prop) : QA := fun d eta => match d with
  | .tup ds => R ds eta
  | _ => False
def aItT (t : TEa) : TIa := fun rho eta R EX => t rho eta (itemsT R) EX
theorem ia_tup {tg l : Expr} {t : TEa} (h : EA X W Wx l t) : IA X W Wx tg l (aItT t) := .of (pi_tup h.pe) fun σ H th rho eta R EX S x ht => by
  refine ⟨th, rho, eta, _, EX, S, x, ht, fun th1 H1 v d eta1 g S1 Rd q => ?_⟩
  unfold itemsT at q
  split at q
  · obtain ⟨a, vs, rfl, e, Rs⟩ := Rd
    refine ⟨a, rfl, ⟨vs, .inl (.inl e)⟩, th1, _, eta1, g, S1, ?_, q⟩
    intro th' H' g' i
    have h' := g'.pers a _ e trivial
    have q : SqT X.K H' a vs := .inl (.inl h')
    refine ⟨fun d e => ?_, fun hl => ⟨vs, q, by rw [← Rs.length]; exact hl⟩⟩
    obtain ⟨v, e1, r⟩ := Rs.get e
    refine ⟨⟨vs, v, q, e1⟩, fun x H'' hy => ?_⟩
    obtain ⟨e2, hy⟩ := hy
    subst e2
    have ex := hy vs q
    rw [e1] at ex; cases ex
    exact ⟨fun _ _ z _ => z, fun th2 eta2 S2 => ⟨S2, Grow.refl _ _⟩, Rep.mono g'.pers _ _ r⟩
  · exact q.elim
/-- range(n), range(a, b) -/
def rngL (lo : Int) : Nat → List D
  | 0 => []
  | n + 1 => .int lo :: rngL (lo + 1) n
theorem rngL_get : ∀ (n : Nat) (lo : Int) (i : Nat), i < n → (rngL lo n)[i]? = some (.int (lo + i))
  | n + 1, lo, 0, _ => by simp [rngL]
  | n + 1, lo, i + 1, h => by
    have := rngL_get n (lo + 1) i (by omega)
    simp only [rngL, List.getElem?_cons_succ, this]
    congr 2; omega
theorem rngL_len : ∀ (n : Nat) (lo : Int), (rngL lo n).length = n
  | 0, _ => rfl
  | n + 1, lo => by simp [rngL, rngL_len n]
theorem jok_rng {th : List Addr} {H : Hp} {lo : Int} {n : Nat} : JOk W (Itr lo n) th H (rngL lo n) := by
  intro th' H' g i
  refine ⟨fun d e => ?_, fun hl => by rw [rngL_len] at hl; exact hl⟩
  have hi : i < n := by have := (List.getElem?_eq_some_iff.mp e).1; rw [rngL_len] at this; exact this
  rw [rngL_get n lo i hi] at e
  cases e
  refine ⟨hi, fun x H'' hy => ?_⟩
  obtain ⟨rfl, rfl⟩ := hy
  exact ⟨fun _ _ z _ => z, fun th2 eta2 S2 => ⟨S2, Grow.refl _ _⟩, rfl⟩
def aRng1 (t : TAa) : TIa := fun rho eta R EX => t rho eta (fun ds eta1 => match ds with
  | [.int j] => (-(2 ^ 62) ≤ j ∧ j < 2 ^ 62) ∧ R (rngL 0 j.toNat) eta1
  | _ => False) EX
theorem ia_range1 {tg a : Expr} {t : TAa} {p pos : Pos} (hm : X.mg "range" = none) (ha : AA X W Wx [a] t) (hg : Gl X "range" := by rfl) (hs : starEach [a] X.env = [(false, eval a X.env)] := by rfl) : IA X W Wx tg (.Call (.Name "range" p) [a] [] pos) (aRng1 t) :=
  .of (pi_range1 hg hm ha.pa hs) fun σ H th rho eta R EX S x ht => by
    refine ⟨th, rho, eta, _, EX, S, x, ht, fun th1 H1 vs ds eta1 g S1 Rs q => ?_⟩
    split at q
    · obtain ⟨v, r, rfl, R1, e⟩ := Rs
      have e : r = [] := e
      subst e
      have e2 : v = _ := R1
      subst e2
      exact ⟨_, rfl, q.1.1, q.1.2, th1, _, eta1, g, S1, jok_rng, q.2⟩
    · exact q.elim
def aRng2 (t : TAa) : TIa := fun rho eta R EX => t rho eta (fun ds eta1 => match ds with
  | [.int i, .int j] => (-(2 ^ 62) ≤ i ∧ i < 2 ^ 62 ∧ -(2 ^ 62) ≤ j ∧ j < 2 ^ 62) ∧ R (rngL i (j - i).toNat) eta1
  | _ => False) EX
theorem ia_range2 {tg a b : Expr} {t : TAa} {p pos : Pos} (hm : X.mg "range" = none) (ha : AA X W Wx [a, b] t) (hg : Gl X "range" := by rfl) (hs : starEach [a, b] X.env = [(false, eval a X.env), (false, eval b X.env)] := by rfl) (hs2 : starEach [b] X.env = [(false, eval b X.env)] := by rfl) : IA X W Wx tg (.Call (.Name "range" p) [a, b] [] pos) (aRng2 t) :=
  .of (pi_range2 hg hm ha.pa hs hs2) fun σ H th rho eta R EX S x ht => by
    refine ⟨th, rho, eta, _, EX, S, x, ht, fun th1 H1 vs ds eta1 g S1 Rs q => ?_⟩
    split at q
    · obtain ⟨v, r, rfl, R1, w, r2, rfl, R2, e⟩ := Rs
      have e : r2 = [] := e
      subst e
      have e2 : v = _ := R1
      have e3 : w = _ := R2
      subst e2 e3
      exact ⟨_, _, rfl, q.1, th1, _, eta1, g, S1, jok_rng, q.2⟩
    · exact q.elim

/-! ### for -/
def aLoop (g : TGa) (tb : TSa) (Dn : EndsA) (EX : EXA) : List D → Rho → List MO → Prop
  | [], rho, eta => Dn.nx rho eta
  | d :: ds, rho, eta => g d rho eta fun rho1 eta1 => tb { nx := aLoop g tb Dn EX ds, ct := aLoop g tb Dn EX ds, bk := Dn.nx, rt := Dn.rt } rho1 eta1 EX
def aFor (ti : TIa) (g : TGa) (tb : TSa) : TSa := fun Dn rho eta EX => ti rho eta (fun ds eta1 => aLoop g tb Dn EX ds rho eta1) EX
theorem GA.pg {tg : Expr} {g : TGa} (h : GA X W tg g) : PG X tg (fun v σ H Q => ∃ th rho eta d Qa, SR W th H σ rho eta ∧ RepT W th H d v ∧ g d rho eta Qa ∧ ∀ th' H' σ' rho' eta', Grow th H th' H' → SR W th' H' σ' rho' eta' → Qa rho' eta' → Q σ' H') :=
  ⟨fun pins s σ H v u Q I r ⟨th, rho, eta, d, Qa, S, R, hg, k⟩ => thn (h.run pins s σ H th rho eta v u d Qa I S r R hg) fun _ s' ⟨σ', th', H', rho', eta', I', g, S', q⟩ => ⟨σ', H', I', k _ _ _ _ _ g S' q⟩⟩
theorem drop_get {α : Type} {l : List α} {i : Nat} {x : α} (h : l[i]? = some x) : l.drop i = x :: l.drop (i + 1) := by
  obtain ⟨hi, e⟩ := List.getElem?_eq_some_iff.mp h
  rw [← e, List.drop_eq_getElem_cons hi]
theorem sa_for {tg iter : Expr} {body : List Stmt} {ti : TIa} {g : TGa} {tb : TSa} {pos : Pos} (hp : PassesOwn (model X.prog X.w) X.A X.env X.xe) (hc : X.calm = true) (hi : IA X W Wx tg iter ti) (hg : GA X W tg g) (hb : SsA X W Wx body tb)
    (hs : ∀ x, foldedSetIterable iter X.env x = pure x := by intro _; rfl) : SA X W Wx (.For tg iter body [] pos) (aFor ti g tb) :=
  .of (ps_for hp hc hi.pi hg.pg hb.pss hs) fun σ H th rho eta Dn EX S xo ht => by
    refine ⟨th, rho, eta, _, EX, S, xo, ht, fun J th1 H1 ds eta1 g1 S1 jo q => ?_⟩
    refine ⟨fun i m σ2 H2 => ∃ th2 rho2 eta2, Grow th1 H1 th2 H2 ∧ SR W th2 H2 σ2 rho2 eta2 ∧ i ≤ ds.length ∧ m = ds.length - i ∧ aLoop g tb Dn EX (ds.drop i) rho2 eta2, ⟨_, th1, rho, eta1, Grow.refl _ _, S1, Nat.zero_le _, rfl, by simpa using q⟩, ?_⟩
    rintro i m σ2 H2 ⟨th2, rho2, eta2, g2, S2, hil, rfl, q2⟩
    obtain ⟨jg, js⟩ := jo th2 H2 g2 i
    cases e : ds[i]? with
    | none =>
      have hl : ds.length ≤ i := List.getElem?_eq_none_iff.mp e
      refine .inl ⟨js hl, th2, rho2, eta2, g1.trans' S1.hp g2, S2, ?_⟩
      rw [List.drop_eq_nil_of_le hl] at q2
      exact q2
    | some d =>
      obtain ⟨hgo, hy⟩ := jg d e
      have hlt : i < ds.length := (List.getElem?_eq_some_iff.mp e).1
      rw [drop_get e] at q2
      refine .inr ⟨hgo, fun σ' H' => ∃ th2 rho2 eta2, Grow th1 H1 th2 H' ∧ SR W th2 H' σ' rho2 eta2 ∧ aLoop g tb Dn EX (ds.drop (i + 1)) rho2 eta2, fun σ' H' ⟨th3, rho3, eta3, g3, S3, q3⟩ => ⟨ds.length - (i + 1), by omega, th3, rho3, eta3, g3, S3, hlt, rfl, q3⟩, fun x H' hyl => ?_⟩
      obtain ⟨_, hk, Rx⟩ := hy x H' hyl
      obtain ⟨S2h, g3⟩ := hk th2 eta2 S2.hp
      refine ⟨th2, rho2, eta2, d, _, S2.mono g3 S2h, RepT.of Rx, q2, fun th4 H4 σ4 rho4 eta4 g4 S4 q4 => ?_⟩
      have g34 := g3.trans' S2h g4
      have g14 := g2.trans' S2.hp g34
      have x4 : XOk W Wx th4 H4 EX := xo.mono (g1.trans' S1.hp g14) S4.hp
      refine ⟨th4, rho4, eta4, _, EX, S4, x4, q4, ?_, ?_, ?_, ?_⟩
      · exact fun th5 H5 σ5 rho5 eta5 g5 S5 q5 => ⟨th5, rho5, eta5, g14.trans' S4.hp g5, S5, q5⟩
      · exact fun th5 H5 σ5 rho5 eta5 g5 S5 q5 => ⟨th5, rho5, eta5, (g1.trans' S1.hp g14).trans' S4.hp g5, S5, q5⟩
      · exact fun th5 H5 σ5 rho5 eta5 g5 S5 q5 => ⟨th5, rho5, eta5, g14.trans' S4.hp g5, S5, q5⟩
      · exact fun th5 H5 v5 d5 eta5 g5 S5 R5 q5 => ⟨th5, d5, eta5, (g1.trans' S1.hp g14).trans' S4.hp g5, S5, R5, q5⟩
/-! ### while -/
def aWhN (c : TTa) (tb : TSa) (Dn : EndsA) (EX : EXA) : Nat → Rho → List MO → Prop
  | 0, _, _ => False
  | m + 1, rho, eta => c rho eta (fun b eta1 => if b = true then tb { nx := aWhN c tb Dn EX m, ct := aWhN c tb Dn EX m, bk := Dn.nx, rt := Dn.rt } rho eta1 EX else Dn.nx rho eta1) EX
def aWh (c : TTa) (tb : TSa) : TSa := fun Dn rho eta EX => ∃ n, aWhN c tb Dn EX n rho eta
theorem sa_while {c : Expr} {body : List Stmt} {tc : TTa} {tb : TSa} {pos : Pos} (hp : PassesOwn (model X.prog X.w) X.A X.env X.xe) (hc : TA' X W Wx c tc) (hb : SsA X W Wx body tb) : SA X W Wx (.While c body [] pos) (aWh tc tb) :=
  .of (ps_while hp hc.pt hb.pss) fun σ H th rho eta Dn EX S xo ⟨n, ht⟩ => by
    refine ⟨fun m σ2 H2 => ∃ th2 rho2 eta2, Grow th H th2 H2 ∧ SR W th2 H2 σ2 rho2 eta2 ∧ aWhN tc tb Dn EX m rho2 eta2, ⟨n, th, rho, eta, Grow.refl _ _, S, ht⟩, ?_⟩
    rintro m σ2 H2 ⟨th2, rho2, eta2, g2, S2, q2⟩
    cases m with
    | zero => exact q2.elim
    | succ m =>
      refine ⟨th2, rho2, eta2, _, EX, S2, xo.mono g2 S2.hp, q2, fun th3 H3 b eta3 g3 S3 q3 => ?_⟩
      have g23 := g2.trans' S2.hp g3
      cases b with
      | true =>
        rw [if_pos rfl] at q3
        dsimp only
        rw [if_pos rfl]
        refine ⟨fun σ' H' => ∃ th4 rho4 eta4, Grow th H th4 H' ∧ SR W th4 H' σ' rho4 eta4 ∧ aWhN tc tb Dn EX m rho4 eta4, fun σ' H' q => ⟨m, Nat.lt_succ_self m, q⟩, ?_⟩
        refine ⟨th3, rho2, eta3, _, EX, S3, xo.mono g23 S3.hp, q3, ?_, ?_, ?_, ?_⟩
        · exact fun th5 H5 σ5 rho5 eta5 g5 S5 q5 => ⟨th5, rho5, eta5, g23.trans' S3.hp g5, S5, q5⟩
        · exact fun th5 H5 σ5 rho5 eta5 g5 S5 q5 => ⟨th5, rho5, eta5, g23.trans' S3.hp g5, S5, q5⟩
        · exact fun th5 H5 σ5 rho5 eta5 g5 S5 q5 => ⟨th5, rho5, eta5, g23.trans' S3.hp g5, S5, q5⟩
        · exact fun th5 H5 v5 d5 eta5 g5 S5 R5 q5 => ⟨th5, d5, eta5, g23.trans' S3.hp g5, S5, R5, q5⟩
      | false =>
        rw [if_neg Bool.false_ne_true] at q3
        dsimp only
        rw [if_neg Bool.false_ne_true]
        exact ⟨th3, rho2, eta3, g23, S3, q3⟩
end
end RF
set_option maxRecDepth 100000
set_option maxHeartbeats 4000000
namespace RF
open PySem PySem.Spec PyProof.Rows L2
/-! ### what a def promises, over data -/
abbrev SpA := List D → List MO → QA → (Ex → List MO → Prop) → Prop
def spOf (W : Wd) (S : SpA) : Sp := fun vs H Q E => ∃ th ds eta Qa EXa, SRh W th H eta ∧ RepTs W th H ds vs ∧ S ds eta Qa EXa ∧
  (∀ th' H' v d eta', Grow th H th' H' → SRh W th' H' eta' → RepT W th' H' d v → Qa d eta' → Q v H') ∧
  (∀ th' H' ex cls dx eta', Grow th H th' H' → SRh W th' H' eta' → RepX W H' ex cls dx → EXa ex eta' → E cls dx H')
/-- an object that holds no numbered ones -/
def MO.cl : MO → Bool
  | .ins _ ds => ds.all D.im
  | _ => true
theorem RepM.cl {W : Wd} {th th' : List Addr} {H : Hp} {mo : MO} {ho : HO} (h : RepM W th H mo ho) (c : mo.cl = true) : RepM W th' H mo ho := by
  cases mo with
  | ins k ds => obtain ⟨dx, vs, e, l, r⟩ := h; exact ⟨dx, vs, e, l, RepTs.of (RepTs.im r c)⟩
  | _ => exact h
def clA (eta : List MO) : Bool := eta.all MO.cl
theorem SRh.cut {W : Wd} {th t : List Addr} {H : Hp} {eta : List MO} (S : SRh W (th ++ t) H eta) (c : clA (eta.take th.length) = true) : SRh W th H (eta.take th.length) := by
  have hl := S.len
  simp only [List.length_append] at hl
  refine ⟨by simp; omega, (List.nodup_append.mp S.nd).1, fun n mo e => ?_⟩
  rw [List.getElem?_take] at e
  split at e
  · rename_i hn
    obtain ⟨a, ho, e1, e2, r⟩ := S.obj n mo e
    rw [List.getElem?_append_left hn] at e1
    refine ⟨a, ho, e1, e2, r.cl ?_⟩
    exact List.all_eq_true.mp c mo (List.mem_of_getElem? (i := n) (by rw [List.getElem?_take, if_pos hn]; exact e))
  · cases e
theorem Grow.cut {th t : List Addr} {H H' : Hp} (g : Grow th H (th ++ t) H') : Grow th H th H' := ⟨⟨[], by simp, fun _ z => by simp at z⟩, g.keep⟩
/-- at a def's end: its own objects are forgotten, but a new one that it returns -/
def exitQ (n : Nat) (Q : QA) : QA := fun d eta => clA (eta.take n) = true ∧ match d with
  | .ref m => if m < n then Q (.ref m) (eta.take n) else (match eta[m]? with
    | some mo => mo.cl = true ∧ Q (.ref n) (eta.take n ++ [mo])
    | none => False)
  | d => Q d (eta.take n)
def exitX (n : Nat) (E : Ex → List MO → Prop) : EXA := fun ex _ eta => clA (eta.take n) = true ∧ E ex (eta.take n)
theorem exitQ_ok {W : Wd} {th th' : List Addr} {H H' : Hp} {eta' : List MO} {d : D} {v : V} {Qa : QA} (g : Grow th H th' H') (S : SRh W th' H' eta') (r : RepT W th' H' d v) (q : exitQ th.length Qa d eta') :
    ∃ th2 d2 eta2, Grow th H th2 H' ∧ SRh W th2 H' eta2 ∧ RepT W th2 H' d2 v ∧ Qa d2 eta2 := by
  obtain ⟨t, e, ht⟩ := g.pre
  subst e
  obtain ⟨c, q⟩ := q
  have S1 := S.cut c
  have im : ∀ d : D, d.im = true → RepT W (th ++ t) H' d v → Qa d (eta'.take th.length) → ∃ th2 d2 eta2, Grow th H th2 H' ∧ SRh W th2 H' eta2 ∧ RepT W th2 H' d2 v ∧ Qa d2 eta2 :=
    fun d hd r q => ⟨th, d, _, g.cut, S1, RepT.of (r.im hd), q⟩
  cases d with
  | ref m =>
    obtain ⟨a, ea, ev⟩ := r
    dsimp only at q
    split at q
    · rename_i hm
      rw [List.getElem?_append_left hm] at ea
      exact ⟨th, .ref m, _, g.cut, S1, ⟨a, ea, ev⟩, q⟩
    · rename_i hm
      split at q
      · rename_i mo em
        obtain ⟨cm, q⟩ := q
        obtain ⟨b, ho, e1, e2, rm⟩ := S.obj m mo em
        rw [ea] at e1; cases e1
        have ha : a ∈ t := by
          rw [List.getElem?_append_right (by omega)] at ea
          exact List.mem_of_getElem? ea
        have hn : a ∉ th := fun z => by
          have := (List.nodup_append.mp S.nd).2.2 a z a ha
          exact this rfl
        have hl := S.len
        simp only [List.length_append] at hl
        have hlen : (eta'.take th.length).length = th.length := by simp; omega
        refine ⟨th ++ [a], .ref th.length, _, ⟨⟨[a], rfl, fun b hb => by simp at hb; rw [hb]; exact ht a ha⟩, g.keep⟩, ⟨by simp; omega, ?_, fun n mo' e => ?_⟩, ⟨a, by simp, ev⟩, q⟩
        · rw [List.nodup_append]
          exact ⟨S1.nd, by simp, fun x hx y hy => by simp at hy; rw [hy]; rintro rfl; exact hn hx⟩
        · by_cases h : n < th.length
          · rw [List.getElem?_append_left (by rw [hlen]; exact h)] at e
            obtain ⟨b, ho', e1, e3, r2⟩ := S1.obj n mo' e
            refine ⟨b, ho', by rw [List.getElem?_append_left h]; exact e1, e3, r2.cl ?_⟩
            exact List.all_eq_true.mp c mo' (List.mem_of_getElem? e)
          · rw [List.getElem?_append_right (by rw [hlen]; omega)] at e
            have h0 : n = th.length := by
              have := (List.getElem?_eq_some_iff.mp e).1
              simp at this; omega
            subst h0
            simp [hlen] at e
            subst e
            exact ⟨a, ho, by simp, e2, rm.cl cm⟩
      · exact q.elim
  | _ => exact im _ rfl r q
def startA (n : Nat) (ds : List D) : Rho := ds.map some ++ List.replicate (n - ds.length) none
theorem startA_sr {W : Wd} {th : List Addr} {H : Hp} {eta : List MO} {N : List Str} {ds : List D} {vs : List V} (S : SRh W th H eta) (R : RepTs W th H ds vs) : SR W th H (L2.start N vs) (startA N.length ds) eta := by
  have hl := R.length
  refine ⟨fun i d e => ?_, ?_, S⟩
  · unfold startA at e
    by_cases hi : i < ds.length
    · rw [List.getElem?_append_left (by simpa using hi), List.getElem?_map] at e
      have key : ∀ {ds : List D} {vs : List V} {i : Nat} {d : D}, RepTs W th H ds vs → ds[i]? = some d → ∃ v, vs[i]? = some v ∧ RepT W th H d v := by
        intro ds
        induction ds with
        | nil => intro vs i d _ e; simp at e
        | cons x xs ih =>
          intro vs i d ⟨v, r, e1, h1, h2⟩ e
          cases i with
          | zero => simp at e; subst e; exact ⟨v, by rw [e1]; rfl, h1⟩
          | succ i =>
            obtain ⟨w', e2, r2⟩ := ih (i := i) h2 (by simpa only [List.getElem?_cons_succ] using e)
            exact ⟨w', by rw [e1]; simpa only [List.getElem?_cons_succ] using e2, r2⟩
      cases q : ds[i]? with
      | none => rw [q] at e; simp at e
      | some d' =>
        rw [q] at e; simp at e; subst e
        obtain ⟨v, e2, r⟩ := key R q
        exact ⟨v, by unfold L2.start; rw [List.getElem?_append_left (by simp; omega), List.getElem?_map, e2]; rfl, r⟩
    · rw [List.getElem?_append_right (by simp; omega)] at e
      rw [List.getElem?_replicate] at e
      split at e <;> simp at e
  · simp [startA, L2.start]; omega
/-- THE RULE for a def: its body's reading keeps the promise S -/
theorem fn_abs {P : Program} {w : World} {K : PySem.W.Frag} {mg : Str → Option Value} {base : Heap} {x qual : Str} {params : Arguments} {body : List Stmt} {scope : Scope} {dvs : List V} {kws : List (Str × V)} {f : Addr} {fd : FuncData} {N ps : List Str} {k : Nat} {W : Wd} {S : SpA}
    (F : FunD K x qual params body scope dvs kws f fd) (Sc : FnScope N ps scope) (len : ∀ ds eta Qa EXa, S ds eta Qa EXa → ds.length = ps.length)
    (hb : ∀ (cdv : Value) (A : Around) (outer : List Env) (s : Shared) (H : Hp) (E : XK), Room k (A.deeper (envOfC qual scope s.heap.objs.size f cdv)) →
      ∃ t, SsA (cxOf (L2.CX P w) P w K mg base N qual scope f cdv A outer s H E) W (fun cls d _ H => E cls d H) body t ∧
        ∀ ds eta Qa EXa, S ds eta Qa EXa → t { nx := fun _ eta' => exitQ eta.length Qa .non eta', rt := exitQ eta.length Qa } (startA N.length ds) eta (exitX eta.length EXa)) :
    FnOk P w K mg base (L2.CX P w) (k + 1) f fd ps (spOf W S) := by
  refine F.ok Sc (fun vs H Q E ⟨th, ds, eta, Qa, EXa, Sh, R, hS, _, _⟩ => by rw [← R.length]; exact len ds eta Qa EXa hS) fun cdv A outer s H vs Q E hr ⟨th, ds, eta, Qa, EXa, Sh, R, hS, kq, ke⟩ => ?_
  obtain ⟨t, ht, hq⟩ := hb cdv A outer s H E hr
  refine ⟨_, ht.pss, th, startA N.length ds, eta, _, _, startA_sr Sh R, ?_, hq ds eta Qa EXa hS, ?_, ?_, ?_, ?_⟩
  · intro ex rho' eta' th' H' σ' cls dx he g S' rx
    obtain ⟨c, he⟩ := he
    obtain ⟨t', e, _⟩ := g.pre
    subst e
    rw [Sh.len] at c he
    exact ke th H' ex cls dx _ g.cut (S'.hp.cut c) rx he
  · intro th' H' σ' rho' eta' g S' q
    obtain ⟨th2, d2, eta2, g2, S2, R2, q2⟩ := exitQ_ok g S'.hp (d := .non) (v := .non) rfl (by rw [← Sh.len]; exact q)
    exact kq th2 H' .non d2 eta2 g2 S2 R2 q2
  · exact fun th' H' σ' rho' eta' g S' q => q.elim
  · exact fun th' H' σ' rho' eta' g S' q => q.elim
  · intro th' H' v d eta' g S' R' q
    obtain ⟨th2, d2, eta2, g2, S2, R2, q2⟩ := exitQ_ok g S' R' (by rw [← Sh.len]; exact q)
    exact kq th2 H' v d2 eta2 g2 S2 R2 q2

/-! ### the call of a def -/
/-- the numbered objects among the arguments -/
def refsOf : List D → List Nat
  | [] => []
  | .ref n :: ds => n :: refsOf ds
  | _ :: ds => refsOf ds
def fnd : List Nat → Nat → Option Nat
  | [], _ => none
  | r :: rs, n => if r = n then some 0 else (fnd rs n).map (· + 1)
def renD (rs : List Nat) : D → D
  | .ref n => .ref ((fnd rs n).getD 0)
  | d => d
def wbA (rs : List Nat) (sub : List MO) : Nat → List MO → List MO
  | _, [] => sub.drop rs.length
  | n, mo :: r => (match fnd rs n with
    | some i => (sub[i]?).getD .gone
    | none => mo) :: wbA rs sub (n + 1) r
def bkD (rs : List Nat) (k : Nat) : D → D
  | .ref m => .ref (match rs[m]? with
    | some r => r
    | none => k + (m - rs.length))
  | d => d
def ndB : List Nat → Bool
  | [] => true
  | r :: rs => !rs.contains r && ndB rs
def okC (rs : List Nat) (eta : List MO) : Bool := ndB rs && rs.all fun r => match eta[r]? with
  | some mo => mo.cl
  | none => false
def raCall (S : SpA) : RNa := fun ds rho eta Q EX => okC (refsOf ds) eta = true ∧ S (ds.map (renD (refsOf ds))) ((refsOf ds).map fun r => (eta[r]?).getD .gone)
  (fun d sub => clA sub = true ∧ Q (bkD (refsOf ds) eta.length d) (wbA (refsOf ds) sub 0 eta)) (fun ex sub => clA sub = true ∧ EX ex rho (wbA (refsOf ds) sub 0 eta))
end RF
set_option maxRecDepth 100000
set_option maxHeartbeats 4000000
namespace RF
open PySem PySem.Spec PyProof.Rows L2
theorem fnd_some : ∀ {rs : List Nat} {n i : Nat}, fnd rs n = some i → rs[i]? = some n
  | [], n, i, h => by cases h
  | r :: rs, n, i, h => by
    unfold fnd at h
    split at h
    · rename_i e; cases h; simp [e]
    · cases q : fnd rs n with
      | none => rw [q] at h; cases h
      | some j => rw [q] at h; cases h; simpa using fnd_some q
theorem fnd_none : ∀ {rs : List Nat} {n : Nat}, fnd rs n = none → n ∉ rs
  | [], n, h => by simp
  | r :: rs, n, h => by
    unfold fnd at h
    split at h
    · cases h
    · rename_i e
      cases q : fnd rs n with
      | none =>
        simp only [List.mem_cons, not_or]
        exact ⟨Ne.symm e, fnd_none q⟩
      | some j => rw [q] at h; cases h
theorem fnd_mem {rs : List Nat} {n : Nat} (h : n ∈ rs) : ∃ i, fnd rs n = some i ∧ rs[i]? = some n := by
  cases q : fnd rs n with
  | none => exact absurd h (fnd_none q)
  | some i => exact ⟨i, rfl, fnd_some q⟩
theorem ndB_nd : ∀ {rs : List Nat}, ndB rs = true → rs.Nodup
  | [], _ => List.nodup_nil
  | r :: rs, h => by
    simp only [ndB, Bool.and_eq_true, Bool.not_eq_true', List.contains_eq_mem, decide_eq_false_iff_not] at h
    exact List.nodup_cons.mpr ⟨h.1, ndB_nd h.2⟩
theorem wbA_len (rs : List Nat) (sub : List MO) : ∀ (eta : List MO) (n : Nat), (wbA rs sub n eta).length = eta.length + (sub.length - rs.length)
  | [], n => by simp [wbA]
  | mo :: r, n => by simp [wbA, wbA_len rs sub r (n + 1)]; omega
theorem wbA_get (rs : List Nat) (sub : List MO) : ∀ (eta : List MO) (n k : Nat) (mo : MO), (wbA rs sub n eta)[k]? = some mo →
    (∃ m0, eta[k]? = some m0 ∧ mo = (match fnd rs (n + k) with | some i => (sub[i]?).getD .gone | none => m0)) ∨ (eta.length ≤ k ∧ sub[rs.length + (k - eta.length)]? = some mo)
  | [], n, k, mo, h => by
    simp only [wbA, List.getElem?_drop] at h
    exact .inr ⟨Nat.zero_le _, by simpa using h⟩
  | m0 :: r, n, 0, mo, h => by
    simp only [wbA, List.getElem?_cons_zero, Option.some.injEq] at h
    exact .inl ⟨m0, rfl, h.symm⟩
  | m0 :: r, n, k + 1, mo, h => by
    simp only [wbA, List.getElem?_cons_succ] at h
    rcases wbA_get rs sub r (n + 1) k mo h with ⟨m1, e1, e2⟩ | ⟨e1, e2⟩
    · refine .inl ⟨m1, by simpa using e1, ?_⟩
      rw [e2, show n + 1 + k = n + (k + 1) by omega]
    · refine .inr ⟨by simp; omega, ?_⟩
      rw [← e2]; simp
section
variable {W : Wd}
theorem ren_ok {th thc : List Addr} {H : Hp} {rs : List Nat} (hc : ∀ (i r : Nat), rs[i]? = some r → ∀ a, th[r]? = some a → thc[i]? = some a) : ∀ {ds : List D} {vs : List V}, (∀ n ∈ refsOf ds, n ∈ rs) → RepTs W th H ds vs → RepTs W thc H (ds.map (renD rs)) vs
  | [], _, _, h => h
  | d :: ds, _, hm, ⟨v, r, e, h1, h2⟩ => by
    refine ⟨v, r, e, ?_, ren_ok hc (fun n hn => hm n ?_) h2⟩
    · cases d with
      | ref n =>
        obtain ⟨a, ea, ev⟩ := h1
        obtain ⟨i, e1, e2⟩ := fnd_mem (hm n (by simp [refsOf]))
        exact ⟨a, by simp only [e1, Option.getD_some]; exact hc i n e2 a ea, ev⟩
      | _ => exact RepT.of (RepT.im h1 rfl)
    · cases d <;> first | exact hn | (simp only [refsOf, List.mem_cons]; exact .inr hn)
end
section
variable {X : Cx} {W : Wd} {Wx : WX}
theorem cl_fn_at {k : Nat} {f : Addr} {S : SpA} {A' : Around} (F : FnR X.prog X.w X.K X.mg X.base (L2.CX X.prog X.w) k f (spOf W S)) (hr : Room k A') (tk : Takes X Wx)
    (he : ∀ {pins : List (Addr × Obj)} {σ : L2.St} {H : Hp} {s : Shared}, Inv X pins σ H s → Env0 X.prog X.w X.K X.mg X.base A' X.stack s H) :
    ∀ (pins : List (Addr × Obj)) (s : Shared) (σ : L2.St) (H : Hp) (th : List Addr) (rho : Rho) (eta : List MO) (xs : List V) (us : List Value) (ds : List D) (Qa : QA) (EX : EXA), Inv X pins σ H s → SR W th H σ rho eta → XOk W Wx th H EX → Vals xs us → RepTs W th H ds xs →
    raCall S ds rho eta Qa EX → wpAny (model X.prog X.w) A' (call (.ref f) us) (EPa X W pins σ th H rho Qa) X.xe s := by
  intro pins s σ H th rho eta xs us ds Qa EX I Sr xo rx Rd hq
  obtain ⟨okc, hS⟩ := hq
  generalize ers : refsOf ds = rs at okc hS
  unfold okC at okc
  rw [Bool.and_eq_true] at okc
  obtain ⟨nb, oka⟩ := okc
  have rnd := ndB_nd nb
  have hp := Sr.hp
  -- each passed number stands
  have there : ∀ r ∈ rs, ∃ a mo ho, th[r]? = some a ∧ eta[r]? = some mo ∧ mo.cl = true ∧ H a = some ho ∧ RepM W th H mo ho := fun r hr => by
    have q := List.all_eq_true.mp oka r hr
    cases e : eta[r]? with
    | none => rw [e] at q; cases q
    | some mo =>
      rw [e] at q
      obtain ⟨a, ho, e1, e2, rm⟩ := hp.obj r mo e
      exact ⟨a, mo, ho, e1, rfl, q, e2, rm⟩
  let thc := rs.map fun r => (th[r]?).getD 0
  have hthc : ∀ (i r : Nat), rs[i]? = some r → ∀ a, th[r]? = some a → thc[i]? = some a := fun i r h a ha => by
    show (rs.map _)[i]? = _
    rw [List.getElem?_map, h, Option.map_some, ha]; rfl
  have sub : ∀ a ∈ thc, a ∈ th := fun a ha => by
    obtain ⟨r, hr', e⟩ := List.mem_map.mp ha
    obtain ⟨b, mo, ho, e1, _⟩ := there r hr'
    rw [e1] at e; cases e
    exact List.mem_of_getElem? e1
  have ndc : thc.Nodup := by
    show (rs.map _).Nodup
    rw [List.Nodup, List.pairwise_map]
    refine List.Pairwise.imp_of_mem ?_ rnd
    intro r r' h1 h2 hne e
    obtain ⟨b, _, _, e1, _⟩ := there r h1
    obtain ⟨b', _, _, e1', _⟩ := there r' h2
    rw [e1, e1'] at e
    simp only [Option.getD_some] at e
    subst e
    obtain ⟨l1, q1⟩ := List.getElem?_eq_some_iff.mp e1
    obtain ⟨l2, q2⟩ := List.getElem?_eq_some_iff.mp e1'
    exact hne ((List.getElem_inj hp.nd).mp (q1.trans q2.symm))
  have Sc : SRh W thc H (rs.map fun r => (eta[r]?).getD .gone) := by
    refine ⟨by simp [thc], ndc, fun n mo e => ?_⟩
    rw [List.getElem?_map] at e
    cases q : rs[n]? with
    | none => rw [q] at e; cases e
    | some r =>
      rw [q] at e
      obtain ⟨a, mo', ho, e1, e2, c, e3, rm⟩ := there r (List.mem_of_getElem? q)
      simp only [Option.map_some, e2, Option.getD_some, Option.some.injEq] at e
      subst e
      exact ⟨a, ho, hthc n r q a e1, e3, rm.cl c⟩
  have Rc : RepTs W thc H (ds.map (renD rs)) xs := ren_ok hthc (fun n hn => by rw [← ers]; exact hn) Rd
  -- what comes back
  have back : ∀ th' H' eta', Grow thc H th' H' → SRh W th' H' eta' → clA eta' = true → ∃ t, th' = thc ++ t ∧ Grow th H (th ++ t) H' ∧ SRh W (th ++ t) H' (wbA rs eta' 0 eta) := by
    intro th' H' eta' g S' c
    obtain ⟨t, e, ht⟩ := g.pre
    subst e
    have gk : ∀ a o, H a = some o → (a ∉ th ∨ Fz o) → H' a = some o := fun a o h q => g.keep a o h (q.imp (fun z hz => z (sub a hz)) fun z => z)
    have g2 : Grow th H (th ++ t) H' := ⟨⟨t, rfl, ht⟩, gk⟩
    have hl := S'.len
    have hlc : thc.length = rs.length := by simp [thc]
    simp only [List.length_append, hlc] at hl
    have tth : ∀ a ∈ t, a ∉ th := fun a ha z => by
      obtain ⟨o, e⟩ := hp.there a z
      rw [ht a ha] at e; cases e
    refine ⟨t, rfl, g2, ⟨by rw [wbA_len]; simp [hp.len]; omega, ?_, fun n mo e => ?_⟩⟩
    · rw [List.nodup_append]
      refine ⟨hp.nd, (List.nodup_append.mp S'.nd).2.1, fun a ha b hb => ?_⟩
      rintro rfl
      exact tth a hb ha
    · rcases wbA_get rs eta' eta 0 n mo e with ⟨m0, e1, e2⟩ | ⟨e1, e2⟩
      · rw [Nat.zero_add] at e2
        obtain ⟨a, ho, ea, eh, rm⟩ := hp.obj n m0 e1
        have hn : n < th.length := by rw [← hp.len]; exact (List.getElem?_eq_some_iff.mp e1).1
        cases q : fnd rs n with
        | none =>
          rw [q] at e2
          subst e2
          have hnr := fnd_none q
          have ha : a ∉ thc := fun z => by
            obtain ⟨r, hr', er⟩ := List.mem_map.mp z
            obtain ⟨b, _, _, e3, _⟩ := there r hr'
            rw [e3] at er; simp only [Option.getD_some] at er; subst er
            obtain ⟨l1, q1⟩ := List.getElem?_eq_some_iff.mp e3
            obtain ⟨l2, q2⟩ := List.getElem?_eq_some_iff.mp ea
            have := (List.getElem_inj hp.nd).mp (q1.trans q2.symm)
            subst this
            exact hnr hr'
          exact ⟨a, ho, by rw [List.getElem?_append_left hn]; exact ea, g.keep a ho eh (.inl ha), rm.mono g2⟩
        | some i =>
          rw [q] at e2
          have hi := fnd_some q
          have hil : i < rs.length := (List.getElem?_eq_some_iff.mp hi).1
          have hsub : i < eta'.length := by omega
          obtain ⟨a', ho', e3, e4, rm'⟩ := S'.obj i eta'[i] (List.getElem?_eq_getElem hsub)
          rw [List.getElem?_append_left (by rw [hlc]; exact hil), hthc i n hi a ea] at e3
          cases e3
          dsimp only at e2
          rw [List.getElem?_eq_getElem hsub] at e2
          simp only [Option.getD_some] at e2
          subst e2
          refine ⟨a, ho', by rw [List.getElem?_append_left hn]; exact ea, e4, rm'.cl ?_⟩
          exact List.all_eq_true.mp c _ (List.getElem_mem hsub)
      · obtain ⟨a, ho, e3, e4, rm⟩ := S'.obj _ mo e2
        rw [List.getElem?_append_right (by rw [hlc]; omega), hlc] at e3
        refine ⟨a, ho, ?_, e4, rm.cl (List.all_eq_true.mp c _ (List.mem_of_getElem? e2))⟩
        rw [List.getElem?_append_right (by rw [← hp.len]; exact e1), ← hp.len, ← e3]
        congr 1; omega
  refine wpAny_call (codeAny_mono (F A' X.stack s H us xs (fun v H' => ∃ th' d' eta', Grow th H th' H' ∧ SR W th' H' σ rho eta' ∧ RepT W th' H' d' v ∧ Qa d' eta') (WE Wx σ) hr (he I) rx
    ⟨thc, ds.map (renD rs), _, _, _, Sc, Rc, hS, ?_, ?_⟩) fun r s' hq => ?_)
  · intro th' H' v d eta' g S' R q
    obtain ⟨c, q⟩ := q
    obtain ⟨t, e, g2, S2⟩ := back th' H' eta' g S' c
    subst e
    refine ⟨th ++ t, _, _, g2, Sr.mono g2 S2, ?_, q⟩
    cases d with
    | ref m =>
      obtain ⟨a, ea, ev⟩ := R
      have hlc : thc.length = rs.length := by simp [thc]
      by_cases hm : m < rs.length
      · rw [List.getElem?_append_left (by rw [hlc]; exact hm)] at ea
        have hrm : rs[m]? = some rs[m] := List.getElem?_eq_getElem hm
        obtain ⟨b, mo, ho, e1, _⟩ := there rs[m] (List.getElem_mem hm)
        rw [hthc m _ hrm b e1] at ea
        cases ea
        refine ⟨a, ?_, ev⟩
        simp only [hrm]
        rw [List.getElem?_append_left (List.getElem?_eq_some_iff.mp e1).1]
        exact e1
      · rw [List.getElem?_append_right (by rw [hlc]; omega), hlc] at ea
        have hrm : rs[m]? = none := List.getElem?_eq_none (by omega)
        refine ⟨a, ?_, ev⟩
        simp only [hrm]
        rw [List.getElem?_append_right (by rw [← hp.len]; omega), ← hp.len, ← ea]
        congr 1; omega
    | _ => exact RepT.of (RepT.im R rfl)
  · intro th' H' ex cls dx eta' g S' rxx q
    obtain ⟨c, q⟩ := q
    obtain ⟨t, e, g2, S2⟩ := back th' H' eta' g S' c
    exact xo ex rho _ (th ++ t) H' σ cls dx q g2 (Sr.mono g2 S2) rxx
  · cases r with
    | error e => exact passAt tk σ pins H s e s' I hq
    | ok fl =>
      cases fl with
      | ret u =>
        obtain ⟨v, H', I', rv, th', d', eta', g, S', R, q⟩ := I.after hq
        exact ⟨v, th', H', d', eta', I', rv, g, S', R, q⟩
      | next => exact False.elim hq
      | brk => exact False.elim hq
      | cont => exact False.elim hq

theorem cl_fn {k : Nat} {f : Addr} {S : SpA} (F : FnR X.prog X.w X.K X.mg X.base (L2.CX X.prog X.w) k f (spOf W S)) (hr : Room k X.A) (tk : Takes X Wx) : ClA X W Wx (.ref f) (raCall S) := cl_fn_at F hr tk fun I => I.env0

/-! ### f(e, ..) -/
def aCall (r : RNa) (t : TAa) : TEa := fun rho eta Q EX => t rho eta (fun ds eta1 => r ds rho eta1 Q EX) EX
theorem ea_callB {id : String} {x : Str} {p pos : Pos} {e : Expr} {es : List Expr} {r : RNa} {t : TAa} (hc : ClA X W Wx (.builtin id) r) (hm : X.mg x = none) (hv : bootBuiltins x = some (.builtin id)) (ha : AA X W Wx (e :: es) t) (hg : Gl X x := by rfl) (hn : x ≠ "__name__" := by decide) (hdb : (x == ("__debug__" : Str)) = false := by decide)
    (he : starEach (e :: es) X.env = (false, eval e X.env) :: starEach es X.env := by rfl) (hpl : (backTo pos (starEach es X.env)).any (·.1) = false := by rfl) : EA X W Wx (.Call (.Name x p) (e :: es) [] pos) (aCall r t) := by
  refine ⟨fun pins s σ H th rho eta Qa EX I S xo h => ?_⟩
  refine wpAny_Call_Name_kw (ld_blt I hg hm hv ?_ hn hdb)
  exact PyProof.Rows.callWith_builtin1 (thn (ha.run pos pins s σ H th rho eta _ EX I S xo h) fun us s1 ⟨vs, th1, H1, ds, eta1, I1, r1, g1, S1, R1, q1⟩ =>
    thn (hc pins s1 σ H1 th1 rho eta1 vs us ds Qa EX I1 S1 (xo.mono g1 S1.hp) r1 R1 q1) fun w s2 ⟨z, th2, H2, d2, eta2, I2, r2, g2, S2, R2, q2⟩ => ⟨z, th2, H2, d2, eta2, I2, r2, g1.trans' S1.hp g2, S2, R2, q2⟩) he hpl
theorem ea_callTy {T : String} {x : Str} {p pos : Pos} {e : Expr} {es : List Expr} {r : RNa} {t : TAa} (hc : ClA X W Wx (.type T) r) (hm : X.mg x = none) (hv : bootBuiltins x = some (.type T)) (ha : AA X W Wx (e :: es) t) (hg : Gl X x := by rfl) (hn : x ≠ "__name__" := by decide) (hdb : (x == ("__debug__" : Str)) = false := by decide)
    (he : starEach (e :: es) X.env = (false, eval e X.env) :: starEach es X.env := by rfl) (hpl : (backTo pos (starEach es X.env)).any (·.1) = false := by rfl) : EA X W Wx (.Call (.Name x p) (e :: es) [] pos) (aCall r t) := by
  refine ⟨fun pins s σ H th rho eta Qa EX I S xo h => ?_⟩
  refine wpAny_Call_Name_kw (ld_blt I hg hm hv ?_ hn hdb)
  exact PyProof.Rows.callWith_type1 (thn (ha.run pos pins s σ H th rho eta _ EX I S xo h) fun us s1 ⟨vs, th1, H1, ds, eta1, I1, r1, g1, S1, R1, q1⟩ =>
    thn (hc pins s1 σ H1 th1 rho eta1 vs us ds Qa EX I1 S1 (xo.mono g1 S1.hp) r1 R1 q1) fun w s2 ⟨z, th2, H2, d2, eta2, I2, r2, g2, S2, R2, q2⟩ => ⟨z, th2, H2, d2, eta2, I2, r2, g1.trans' S1.hp g2, S2, R2, q2⟩) he hpl
/-- a global name for a built-in function (gcd) -/
theorem ea_callG {id : String} {x : Str} {p pos : Pos} {e : Expr} {es : List Expr} {r : RNa} {t : TAa} (hc : ClA X W Wx (.builtin id) r) (hm : X.mg x = some (.builtin id)) (ha : AA X W Wx (e :: es) t) (hg : Gl X x := by rfl) (hdb : (x == ("__debug__" : Str)) = false := by decide)
    (he : starEach (e :: es) X.env = (false, eval e X.env) :: starEach es X.env := by rfl) (hpl : (backTo pos (starEach es X.env)).any (·.1) = false := by rfl) : EA X W Wx (.Call (.Name x p) (e :: es) [] pos) (aCall r t) := by
  refine ⟨fun pins s σ H th rho eta Qa EX I S xo h => ?_⟩
  refine wpAny_Call_Name_kw (ld_glob I hg hm ?_ hdb)
  exact PyProof.Rows.callWith_builtin1 (thn (ha.run pos pins s σ H th rho eta _ EX I S xo h) fun us s1 ⟨vs, th1, H1, ds, eta1, I1, r1, g1, S1, R1, q1⟩ =>
    thn (hc pins s1 σ H1 th1 rho eta1 vs us ds Qa EX I1 S1 (xo.mono g1 S1.hp) r1 R1 q1) fun w s2 ⟨z, th2, H2, d2, eta2, I2, r2, g2, S2, R2, q2⟩ => ⟨z, th2, H2, d2, eta2, I2, r2, g1.trans' S1.hp g2, S2, R2, q2⟩) he hpl
/-- a def of the module, a class -/
theorem ea_callF {f : Addr} {x : Str} {p pos : Pos} {e : Expr} {es : List Expr} {r : RNa} {t : TAa} (hc : ClA X W Wx (.ref f) r) (hm : X.mg x = some (.ref f)) (hk : PySem.W.keepIn X.K (.ref f) = true) (ha : AA X W Wx (e :: es) t) (hg : Gl X x := by rfl) (hdb : (x == ("__debug__" : Str)) = false := by decide)
    (he : starEach (e :: es) X.env = (false, eval e X.env) :: starEach es X.env := by rfl) (hpl : (backTo pos (starEach es X.env)).any (·.1) = false := by rfl) : EA X W Wx (.Call (.Name x p) (e :: es) [] pos) (aCall r t) := by
  refine ⟨fun pins s σ H th rho eta Qa EX I S xo h => ?_⟩
  refine wpAny_Call_Name_kw (ld_glob I hg hm ?_ hdb)
  exact PySem.W.callWith_K (h₀ := X.base) I.ok.mod.kin hk (thn (ha.run pos pins s σ H th rho eta _ EX I S xo h) fun us s1 ⟨vs, th1, H1, ds, eta1, I1, r1, g1, S1, R1, q1⟩ =>
    ⟨I1.kIn, thn (hc pins s1 σ H1 th1 rho eta1 vs us ds Qa EX I1 S1 (xo.mono g1 S1.hp) r1 R1 q1) fun w s2 ⟨z, th2, H2, d2, eta2, I2, r2, g2, S2, R2, q2⟩ => ⟨z, th2, H2, d2, eta2, I2, r2, g1.trans' S1.hp g2, S2, R2, q2⟩⟩) he hpl
theorem ea_callF0 {f : Addr} {x : Str} {p pos : Pos} {r : RNa} (hc : ClA X W Wx (.ref f) r) (hm : X.mg x = some (.ref f)) (hk : PySem.W.keepIn X.K (.ref f) = true) (hg : Gl X x := by rfl) (hdb : (x == ("__debug__" : Str)) = false := by decide) : EA X W Wx (.Call (.Name x p) [] [] pos) (aCall r aNil) := by
  refine ⟨fun pins s σ H th rho eta Qa EX I S xo h => ?_⟩
  refine wpAny_Call_Name_kw (ld_glob I hg hm ?_ hdb)
  exact PySem.W.callWith_K0 I.kIn hk (hc pins s σ H th rho eta [] [] [] Qa EX I S xo .nil rfl h)
end
end RF
set_option maxRecDepth 100000
set_option maxHeartbeats 4000000
namespace RF
open PySem PySem.Spec PyProof.Rows L2
section
variable {X : Cx} {W : Wd} {Wx : WX}
/-! ### subscripts -/
/-- a[i] by values -/
def IxA (X : Cx) (W : Wd) (Wx : WX) (r : R2a) : Prop :=
  ∀ (value slice : Expr) (pins : List (Addr × Obj)) (s : Shared) (σ : L2.St) (H : Hp) (th : List Addr) (rho : Rho) (eta : List MO) (x y : V) (v u : Value) (d e : D) (Qa : QA) (EX : EXA), Inv X pins σ H s → SR W th H σ rho eta → XOk W Wx th H EX → RelV x v → RelV y u → RepT W th H d x → RepT W th H e y →
    r d e rho eta Qa EX → subscripted slice false v u = operate [v, u] (getItem v u) → wpAny (model X.prog X.w) X.A (subscriptTail value slice v u) (EPa X W pins σ th H rho Qa) X.xe s
theorem IxA.of {r : R2} {ra : R2a} (h : IxR X r) (k : ∀ (σ : L2.St) (H : Hp) (th : List Addr) (rho : Rho) (eta : List MO) (x y : V) (d e : D) (Qa : QA) (EX : EXA), SR W th H σ rho eta → RepT W th H d x → RepT W th H e y → ra d e rho eta Qa EX →
    r x y H fun v H' => ∃ th' d' eta', Grow th H th' H' ∧ SR W th' H' σ rho eta' ∧ RepT W th' H' d' v ∧ Qa d' eta') : IxA X W Wx ra := fun value slice pins s σ H th rho eta x y v u d e Qa EX I S xo rx ry Rd Re hr hs =>
  thn (h value slice pins s σ H x y v u _ I rx ry (k σ H th rho eta x y d e Qa EX S Rd Re hr) hs) fun w s' ⟨z, H', I', r, th', d', eta', g, S', R, q⟩ => ⟨z, th', H', d', eta', I', r, g, S', R, q⟩
theorem IxA.or {r r' : R2a} (h : IxA X W Wx r) (h' : IxA X W Wx r') : IxA X W Wx (fun d e rho eta Q EX => r d e rho eta Q EX ∨ r' d e rho eta Q EX) := fun value slice pins s σ H th rho eta x y v u d e Qa EX I S xo rx ry Rd Re hr hs =>
  hr.elim (fun z => h value slice pins s σ H th rho eta x y v u d e Qa EX I S xo rx ry Rd Re z hs) fun z => h' value slice pins s σ H th rho eta x y v u d e Qa EX I S xo rx ry Rd Re z hs
theorem ea_ix {r : R2a} {a b : Expr} {ta tb : TEa} {pos : Pos} (hr : IxA X W Wx r) (ha : EA X W Wx a ta) (hb : EA X W Wx b tb) (hs : PlainIx b := by exact fun _ _ => rfl) : EA X W Wx (.Subscript a b pos) (aOp r ta tb) := by
  refine ⟨fun pins s σ H th rho eta Qa EX I S x h => ?_⟩
  refine Subscript_ (thn (ha.run pins s σ H th rho eta _ EX I S x h) fun v s1 ⟨xv, th1, H1, d, eta1, I1, r1, g1, S1, R1, q1⟩ => ?_)
  refine thn (hb.run pins s1 σ H1 th1 rho eta1 _ EX I1 S1 (x.mono g1 S1.hp) q1) fun u s2 ⟨yv, th2, H2, e, eta2, I2, r2, g2, S2, R2, q2⟩ => ?_
  have g12 := g1.trans' S1.hp g2
  refine thn (hr a b pins s2 σ H2 th2 rho eta2 xv yv v u d e Qa EX I2 S2 (x.mono g12 S2.hp) r1 r2 (R1.mono g2) R2 q2 (hs _ _)) fun w s3 ⟨z, th3, H3, d3, eta3, I3, r3, g3, S3, R3, q3⟩ => ?_
  exact ⟨z, th3, H3, d3, eta3, I3, r3, g12.trans' S2.hp g3, S3, R3, q3⟩
theorem Reps.atI {H : Hp} {ds : List D} {vs : List V} {i : Int} {d : D} (R : Reps W H ds vs) (h : atI ds i = some d) : ∃ v, L2.atI vs i = some v ∧ Rep W H d v := by
  unfold L2.atI at h ⊢
  rw [← R.length]
  cases q : ixN ds.length i with
  | none => rw [q] at h; cases h
  | some j =>
    rw [q] at h
    obtain ⟨v, e, r⟩ := R.get (i := j) (by simpa using h)
    exact ⟨v, by simpa using e, r⟩
/-- an item of a list or tuple -/
def raIxS : R2a := fun d e _ eta Q _ => match e with
  | .int i => (match d with
    | .tup ds => (match L2.atI ds i with | some x => Q x eta | none => False)
    | .fl ds => (match L2.atI ds i with | some x => Q x eta | none => False)
    | .ref n => (match eta[n]? with
      | some (.lst ds) => (match L2.atI ds i with | some x => Q x eta | none => False)
      | _ => False)
    | _ => False)
  | _ => False
theorem ixa_seq : IxA X W Wx raIxS := .of (ix_list.or ix_tup) fun σ H th rho eta x y d e Qa EX S Rd Re hr => by
  cases e with
  | int i =>
    have ey : y = _ := Re
    cases d with
    | tup ds =>
      obtain ⟨a, vs, rfl, ea, Rs⟩ := Rd
      simp only [raIxS] at hr
      cases q : L2.atI ds i with
      | none => rw [q] at hr; exact hr.elim
      | some z =>
        rw [q] at hr
        obtain ⟨w, ew, rw'⟩ := Rs.atI q
        exact .inr ⟨a, vs, i, w, rfl, ey, SqT.of ea, ew, hereC S (RepT.of rw') hr⟩
    | fl ds =>
      obtain ⟨a, o, vs, rfl, ea, Rs⟩ := Rd
      simp only [raIxS] at hr
      cases q : L2.atI ds i with
      | none => rw [q] at hr; exact hr.elim
      | some z =>
        rw [q] at hr
        obtain ⟨w, ew, rw'⟩ := Rs.atI q
        exact .inl ⟨a, vs, i, w, rfl, ey, .inl (.inr ⟨o, ea⟩), ew, hereC S (RepT.of rw') hr⟩
    | ref n =>
      obtain ⟨a, ea, rfl⟩ := Rd
      simp only [raIxS] at hr
      cases hn : eta[n]? with
      | none => rw [hn] at hr; exact hr.elim
      | some mo =>
        rw [hn] at hr
        cases mo with
        | lst ds =>
          obtain ⟨b, ho, e1, e2, vs, rfl, Rs⟩ := S.hp.obj n _ hn
          rw [ea] at e1; cases e1
          cases q : L2.atI ds i with
          | none => simp only [q] at hr
          | some z =>
            simp only [q] at hr
            obtain ⟨w, ew, rw'⟩ := Rs.atI q
            exact .inl ⟨a, vs, i, w, rfl, ey, SqL.of e2, ew, hereC S (RepT.of rw') hr⟩
        | _ => exact hr.elim
    | _ => exact hr.elim
  | _ => exact hr.elim

/-! ### o[i] = v -/
abbrev R3a := D → D → D → Rho → List MO → (List MO → Prop) → EXA → Prop
def SetA (X : Cx) (W : Wd) (Wx : WX) (r : R3a) : Prop :=
  ∀ (pins : List (Addr × Obj)) (s : Shared) (σ : L2.St) (H : Hp) (th : List Addr) (rho : Rho) (eta : List MO) (x y z : V) (v u w : Value) (d e f : D) (Qa : List MO → Prop) (EX : EXA), Inv X pins σ H s → SR W th H σ rho eta → XOk W Wx th H EX → RelV x v → RelV y u → RelV z w → RepT W th H d x → RepT W th H e y → RepT W th H f z →
    r d e f rho eta Qa EX → wpAny (model X.prog X.w) X.A (setItem v u w) (fun _ s' => ∃ th' H' eta', Inv X pins σ H' s' ∧ Grow th H th' H' ∧ SR W th' H' σ rho eta' ∧ Qa eta') X.xe s
def sSub (r : R3a) (to ti tv : TEa) : TSa := fun Dn rho eta EX => tv rho eta (fun f eta1 => to rho eta1 (fun d eta2 => ti rho eta2 (fun e eta3 => r d e f rho eta3 (fun eta4 => Dn.nx rho eta4) EX) EX) EX) EX
theorem sa_sub {r : R3a} {o i value : Expr} {to ti tv : TEa} {pos pos' : Pos} (hr : SetA X W Wx r) (ho : EA X W Wx o to) (hi : EA X W Wx i ti) (hv : EA X W Wx value tv) (hs : swapsWith value (some (.Subscript o i pos')) pos.line X.env = pure false := by rfl) :
    SA X W Wx (.Assign [.Subscript o i pos'] value pos) (sSub r to ti tv) := by
  refine ⟨fun pins s σ H th rho eta Dn EX I S xo h => ?_⟩
  refine wpAny_Assign_Subscript (thn (hv.run pins s σ H th rho eta _ EX I S xo h) fun w s1 ⟨z, th1, H1, f, eta1, I1, r1, g1, S1, R1, q1⟩ => thn (ho.run pins s1 σ H1 th1 rho eta1 _ EX I1 S1 (xo.mono g1 S1.hp) q1) fun v s2 ⟨x, th2, H2, d, eta2, I2, r2, g2, S2, R2, q2⟩ => ?_) hs
  have g12 := g1.trans' S1.hp g2
  refine thn (hi.run pins s2 σ H2 th2 rho eta2 _ EX I2 S2 (xo.mono g12 S2.hp) q2) fun u s3 ⟨y, th3, H3, e, eta3, I3, r3, g3, S3, R3, q3⟩ => ?_
  have g123 := g12.trans' S2.hp g3
  exact thn (hr pins s3 σ H3 th3 rho eta3 x y z v u w d e f _ EX I3 S3 (xo.mono g123 S3.hp) r2 r3 r1 (R2.mono g3) R3 ((R1.mono g2).mono g3) q3) fun _ s4 ⟨th4, H4, eta4, I4, g4, S4, q4⟩ => ⟨σ, th4, H4, rho, eta4, I4, g123.trans' S3.hp g4, S4, q4⟩
theorem Reps.set {H : Hp} {d : D} {v : V} (r : Rep W H d v) : ∀ {ds : List D} {vs : List V} (j : Nat), Reps W H ds vs → Reps W H (ds.set j d) (vs.set j v)
  | [], _, j, h => by have h : _ = _ := h; subst h; exact rfl
  | e :: ds, _, 0, ⟨w, l, e1, h1, h2⟩ => ⟨v, l, by rw [e1]; rfl, r, h2⟩
  | e :: ds, _, j + 1, ⟨w, l, e1, h1, h2⟩ => ⟨w, l.set j v, by rw [e1]; rfl, h1, Reps.set r j h2⟩
theorem nfz_lst {H : Hp} {a : Addr} {vs : List V} (h : H a = some (.lst vs)) : ∀ u, H a = some u → ¬ Fz u := fun u e => by rw [h] at e; cases e; exact fun z => z
def raSetL : R3a := fun d e f _ eta Q _ => f.im = true ∧ match e with
  | .int i => (match d with
    | .ref n => (match eta[n]? with
      | some (.lst ds) => (match ixN ds.length i with | some j => Q (eta.set n (.lst (ds.set j f))) | none => False)
      | _ => False)
    | _ => False)
  | _ => False
theorem seta_list : SetA X W Wx raSetL := fun pins s σ H th rho eta x y z v u w d e f Qa EX I S xo rx ry rz Rd Re Rf ⟨fi, hr⟩ => by
  cases e with
  | int i =>
    have ey : y = _ := Re
    cases d with
    | ref n =>
      obtain ⟨a, ea, rfl⟩ := Rd
      dsimp only at hr
      cases hn : eta[n]? with
      | none => rw [hn] at hr; exact hr.elim
      | some mo =>
        rw [hn] at hr
        cases mo with
        | lst ds =>
          obtain ⟨b, ho, e1, e2, vs, rfl, Rs⟩ := S.hp.obj n _ hn
          rw [ea] at e1; cases e1
          cases q : ixN ds.length i with
          | none => simp only [q] at hr
          | some j =>
            simp only [q] at hr
            obtain ⟨P, g⟩ := S.hp.write (n := n) (mo := .lst (ds.set j f)) (o := .lst (vs.set j z)) ea (nfz_lst e2) ⟨_, rfl, by
              have p : Pers H (upd H a (.lst (vs.set j z))) := fun b o h fz => by
                rw [upd_ne (fun q => by rw [q, e2] at h; cases h; exact fz)]; exact h
              exact Reps.mono p _ _ (Reps.set (Rf.im fi) j Rs)⟩
            refine thn (set_list pins s σ H (.ref a) y z v u w _ I rx ry rz ⟨a, vs, i, j, rfl, ey, e2, by rw [← Rs.length]; exact q, rfl⟩) fun _ s' ⟨H', I', e'⟩ => ?_
            subst e'
            exact ⟨th, _, _, I', g, S.mono g P, hr⟩
        | _ => exact hr.elim
    | _ => exact hr.elim
  | _ => exact hr.elim

/-! ### built-in functions -/
theorem RepTs.one {th : List Addr} {H : Hp} {d : D} {vs : List V} (R : RepTs W th H [d] vs) : ∃ v, vs = [v] ∧ RepT W th H d v := by
  obtain ⟨v, r, e, h, n⟩ := R
  have n : r = [] := n
  exact ⟨v, by rw [e, n], h⟩
theorem RepTs.two {th : List Addr} {H : Hp} {d e : D} {vs : List V} (R : RepTs W th H [d, e] vs) : ∃ v w, vs = [v, w] ∧ RepT W th H d v ∧ RepT W th H e w := by
  obtain ⟨v, r, e1, h, w, r2, e2, h2, n⟩ := R
  have n : r2 = [] := n
  exact ⟨v, w, by rw [e1, e2, n], h, h2⟩
def raAbs : RNa := fun ds _ eta Q _ => match ds with
  | [.int i] => Q (.int (if i < 0 then -i else i)) eta
  | _ => False
theorem ca_abs : ClA X W Wx (.builtin "abs") raAbs := .of call_abs fun σ H th rho eta xs ds Qa EX S R hr => by
  unfold raAbs at hr
  split at hr
  · obtain ⟨v, rfl, r⟩ := R.one
    have r : v = _ := r
    exact ⟨_, by rw [r], hereC (d := .int _) S rfl hr⟩
  · exact hr.elim
def raInt : RNa := fun ds _ eta Q _ => match ds with
  | [.int i] => Q (.int i) eta
  | [.bl b] => Q (.int (if b then 1 else 0)) eta
  | _ => False
theorem ca_int : ClA X W Wx (.type "int") raInt := .of call_int1 fun σ H th rho eta xs ds Qa EX S R hr => by
  unfold raInt at hr
  split at hr
  · obtain ⟨v, rfl, r⟩ := R.one
    have r : v = _ := r
    exact .inl ⟨_, by rw [r], hereC (d := .int _) S rfl hr⟩
  · obtain ⟨v, rfl, r⟩ := R.one
    have r : v = _ := r
    exact .inr ⟨_, by rw [r], hereC (d := .int _) S rfl hr⟩
  · exact hr.elim
def raBool : RNa := fun ds _ eta Q _ => match ds with
  | [.int i] => Q (.bl (i != 0)) eta
  | [.bl b] => Q (.bl b) eta
  | _ => False
theorem ca_bool : ClA X W Wx (.type "bool") raBool := .of call_bool1 fun σ H th rho eta xs ds Qa EX S R hr => by
  unfold raBool at hr
  split at hr
  · obtain ⟨v, rfl, r⟩ := R.one
    have r : v = _ := r
    exact .inl ⟨_, by rw [r], hereC (d := .bl _) S rfl hr⟩
  · obtain ⟨v, rfl, r⟩ := R.one
    have r : v = _ := r
    exact .inr ⟨_, by rw [r], hereC (d := .bl _) S rfl hr⟩
  · exact hr.elim
/-- the length of a list, tuple, text, dict -/
def D.len (eta : List MO) : D → Option Nat
  | .tup ds => some ds.length
  | .fl ds => some ds.length
  | .ref n => (match eta[n]? with
    | some (.lst ds) => some ds.length
    | _ => none)
  | _ => none
def raLen : RNa := fun ds _ eta Q _ => match ds with
  | [d] => (match d.len eta with | some n => Q (.int n) eta | none => False)
  | _ => False
theorem ca_len : ClA X W Wx (.builtin "len") raLen := .of call_len fun σ H th rho eta xs ds Qa EX S R hr => by
  unfold raLen at hr
  split at hr
  · rename_i d
    obtain ⟨v, rfl, r⟩ := R.one
    cases d with
    | tup ds =>
      obtain ⟨a, vs, rfl, ea, Rs⟩ := r
      exact ⟨_, ds.length, rfl, .inr ⟨vs, SqT.of ea, by rw [Rs.length]⟩, hereC (d := .int _) S rfl hr⟩
    | fl ds =>
      obtain ⟨a, o, vs, rfl, ea, Rs⟩ := r
      exact ⟨_, ds.length, rfl, .inl ⟨vs, .inl (.inr ⟨o, ea⟩), by rw [Rs.length]⟩, hereC (d := .int _) S rfl hr⟩
    | ref n =>
      obtain ⟨a, ea, rfl⟩ := r
      simp only [D.len] at hr
      cases hn : eta[n]? with
      | none => rw [hn] at hr; exact hr.elim
      | some mo =>
        rw [hn] at hr
        cases mo with
        | lst ds =>
          obtain ⟨b, ho, e1, e2, vs, rfl, Rs⟩ := S.hp.obj n _ hn
          rw [ea] at e1; cases e1
          exact ⟨_, ds.length, rfl, .inl ⟨vs, SqL.of e2, by rw [Rs.length]⟩, hereC (d := .int _) S rfl hr⟩
        | _ => exact hr.elim
    | _ => exact hr.elim
  · exact hr.elim
/-- str of an int -/
def raStrI : RNa := fun ds _ eta Q _ => match ds with
  | [.int i] => i.natAbs.log2 < 1920 ∧ Q (.str (toString i)) eta
  | _ => False
theorem ca_strI : ClA X W Wx (.type "str") raStrI := .of call_str_int fun σ H th rho eta xs ds Qa EX S R hr => by
  unfold raStrI at hr
  split at hr
  · obtain ⟨v, rfl, r⟩ := R.one
    have r : v = _ := r
    exact ⟨_, by rw [r], hr.1, hereC (d := .str _) S rfl hr.2⟩
  · exact hr.elim
def intsD : List D → Option (List Int)
  | [] => some []
  | .int i :: ds => (intsD ds).map (i :: ·)
  | _ :: _ => none
theorem intsD_ok {H : Hp} : ∀ {ds : List D} {ns : List Int} {vs : List V}, intsD ds = some ns → Reps W H ds vs → vs = ns.map V.int
  | [], _, _, h, R => by cases h; exact R
  | .int i :: ds, ns, _, h, ⟨v, r, e, h1, h2⟩ => by
    simp only [intsD] at h
    cases q : intsD ds with
    | none => rw [q] at h; cases h
    | some ms =>
      rw [q] at h; cases h
      have h1 : v = _ := h1
      rw [e, h1, intsD_ok q h2]; rfl
/-- sum of a list of ints -/
def raSum : RNa := fun ds _ eta Q _ => match ds with
  | [.fl xs] => (match intsD xs with | some ns => Q (.int ns.sum) eta | none => False)
  | _ => False
theorem ca_sum (hc : X.calm = true) : ClA X W Wx (.builtin "sum") raSum := .of (cr_sum hc) fun σ H th rho eta xs ds Qa EX S R hr => by
  unfold raSum at hr
  split at hr
  · rename_i ys
    obtain ⟨v, rfl, a, o, vs, rfl, ea, Rs⟩ := R.one
    cases q : intsD ys with
    | none => rw [q] at hr; exact hr.elim
    | some ns =>
      rw [q] at hr
      have e := intsD_ok q Rs
      subst e
      exact ⟨a, ns, rfl, .inl (.inr ⟨o, ea⟩), hereC (d := .int _) S rfl hr⟩
  · exact hr.elim
/-- list(xs): a frozen copy of a list that stands still, or of a tuple -/
def seqD (eta : List MO) : D → Option (List D)
  | .tup ds => some ds
  | .fl ds => some ds
  | .ref n => (match eta[n]? with
    | some (.lst ds) => some ds
    | _ => none)
  | _ => none
theorem seqD_ok {th : List Addr} {H : Hp} {eta : List MO} {d : D} {v : V} {ds : List D} (S : SRh W th H eta) (R : RepT W th H d v) (h : seqD eta d = some ds) : ∃ a vs, v = .ref a ∧ (SqL X.K H a vs ∨ SqT X.K H a vs) ∧ Reps W H ds vs := by
  cases d with
  | tup es =>
    simp only [seqD, Option.some.injEq] at h
    subst h
    obtain ⟨a, vs, rfl, ea, Rs⟩ := R
    exact ⟨a, vs, rfl, .inr (SqT.of ea), Rs⟩
  | fl es =>
    simp only [seqD, Option.some.injEq] at h
    subst h
    obtain ⟨a, o, vs, rfl, ea, Rs⟩ := R
    exact ⟨a, vs, rfl, .inl (.inl (.inr ⟨o, ea⟩)), Rs⟩
  | ref n =>
    obtain ⟨a, ea, rfl⟩ := R
    simp only [seqD] at h
    cases hn : eta[n]? with
    | none => rw [hn] at h; cases h
    | some mo =>
      rw [hn] at h
      cases mo with
      | lst es =>
        simp only [Option.some.injEq] at h
        subst h
        obtain ⟨b, ho, e1, e2, vs, rfl, Rs⟩ := S.obj n _ hn
        rw [ea] at e1; cases e1
        exact ⟨a, vs, rfl, .inl (SqL.of e2), Rs⟩
      | _ => cases h
  | _ => cases h
def raListF : RNa := fun ds _ eta Q _ => match ds with
  | [d] => (match seqD eta d with | some xs => Q (.fl xs) eta | none => False)
  | _ => False
/-- .. one that will change -/
def raListM : RNa := fun ds _ eta Q _ => match ds with
  | [d] => (match seqD eta d with | some xs => Q (.ref eta.length) (eta ++ [.lst xs]) | none => False)
  | _ => False
theorem ca_listM : ClA X W Wx (.type "list") raListM := .of call_list_of fun σ H th rho eta xs ds Qa EX S R hr => by
  unfold raListM at hr
  split at hr
  · rename_i d
    obtain ⟨v, rfl, r⟩ := R.one
    cases q : seqD eta d with
    | none => rw [q] at hr; exact hr.elim
    | some ys =>
      rw [q] at hr
      obtain ⟨a, vs, rfl, hq, Rs⟩ := seqD_ok (X := X) S.hp r q
      refine ⟨a, vs, rfl, hq, fun p hp => ?_⟩
      have P := S.hp.push (mo := .lst ys) hp ⟨vs, rfl, Reps.mono (Grow.new (th := th) hp).pers _ _ Rs⟩
      exact ⟨th ++ [p], _, _, Grow.push hp, S.mono (Grow.push hp) P, RepT.push S.hp, hr⟩
  · exact hr.elim
end
/-- freezing at the call of a value -/
theorem CallR.fz {X : Cx} {f : Value} {r : List V → Hp → VK → Prop} (h : CallR X f r) : CallR X f (fun xs H Q => r xs H fun v H' => ∃ a u, v = .ref a ∧ H' a = some u ∧ Mut (some u) ∧ ∀ od, Q v (upd H' a (.frz od u))) :=
  fun pins s σ H vs us Q I rv ht => thn (h pins s σ H vs us _ I rv ht) fun u s' ⟨v, H', I', r, a, o, e1, e2, mu, q⟩ => by
    obtain ⟨od, I1⟩ := I'.lock e2 mu
    exact ⟨v, _, I1, r, q od⟩
section
variable {X : Cx} {W : Wd} {Wx : WX}
theorem ca_listF : ClA X W Wx (.type "list") raListF := .of (CallR.fz call_list_of) fun σ H th rho eta xs ds Qa EX S R hr => by
  unfold raListF at hr
  split at hr
  · rename_i d
    obtain ⟨v, rfl, r⟩ := R.one
    cases q : seqD eta d with
    | none => rw [q] at hr; exact hr.elim
    | some ys =>
      rw [q] at hr
      obtain ⟨a, vs, rfl, hq, Rs⟩ := seqD_ok (X := X) S.hp r q
      refine ⟨a, vs, rfl, hq, fun p hp => ⟨p, _, rfl, upd_same, trivial, fun od => ⟨th, .fl ys, eta, ?_⟩⟩⟩
      rw [upd_upd]
      exact ⟨Grow.new hp, S.mono (Grow.new hp) (S.hp.new hp), ⟨p, od, vs, rfl, upd_same, Reps.mono (Grow.new (th := th) hp).pers _ _ Rs⟩, hr⟩
  · exact hr.elim
end
end RF
set_option maxRecDepth 100000
set_option maxHeartbeats 4000000
namespace RF
open PySem PySem.Spec PyProof.Rows L2
/-- nothing is let out -/
abbrev W0 : WX := fun _ _ _ _ => False
section
variable {X : Cx} {W : Wd} {Wx : WX}
/-- the tests of a clause -/
structure TsA (X : Cx) (W : Wd) (Wx : WX) (ifs : List Expr) (t : TTa) : Prop where
  pts : PTs X ifs (lftT W Wx t)
def aYes : TTa := fun _ eta Q _ => Q true eta
theorem ts_nil : TsA X W Wx [] aYes := ⟨⟨fun pins s σ H Q I ⟨th, rho, eta, Qa, EX, S, x, ht, k⟩ => wpAny_tests_nil ⟨H, I, k th H true eta (Grow.refl _ _) S ht⟩⟩⟩
theorem ts_one {c : Expr} {t : TTa} (h : TA' X W Wx c t) : TsA X W Wx [c] t := ⟨pts_one h.pt⟩
/-- a target within a comprehension: its names are the slots vs -/
def GBk (W : Wd) (vs : List Nat) (g : TG) (ga : TGa) : Prop :=
  ∀ (σ : L2.St) (H : Hp) (th : List Addr) (rho : Rho) (eta : List MO) (x : V) (d : D) (Q : Rho → List MO → Prop) (R : L2.St → Hp → Prop), SR W th H σ rho eta → Rep W H d x → ga d rho eta Q →
    (∀ σ2 rho2, wipe σ2 vs = wipe σ vs → SR W th H σ2 rho2 eta → Q rho2 eta → R σ2 H) → g x σ H R
theorem wipe_set : ∀ {vs : List Nat} {i : Nat} {σ : L2.St} {v : Option V}, i ∈ vs → wipe (σ.set i v) vs = wipe σ vs
  | w :: vs, i, σ, v, h => by
    unfold wipe
    by_cases e : i ∈ vs
    · rw [wipe_set e]
    · have hw : i = w := by
        rcases List.mem_cons.mp h with h | h
        · exact h
        · exact absurd h e
      subst hw
      have key : ∀ {us : List Nat} {σ : L2.St}, i ∉ us → wipe (σ.set i v) us = (wipe σ us).set i v := by
        intro us
        induction us with
        | nil => intro σ _; rfl
        | cons u us ih =>
          intro σ hn
          simp only [List.mem_cons, not_or] at hn
          unfold wipe
          rw [ih hn.2, List.set_comm _ _ hn.1]
      rw [key e, List.set_set]
theorem wipe_none {us : List Nat} {σ : L2.St} {i : Nat} (h : i ∈ us) : (wipe σ us).set i none = wipe σ us := by
  induction us with
  | nil => cases h
  | cons u us ih =>
    unfold wipe
    by_cases e : i = u
    · subst e; rw [List.set_set]
    · rw [List.set_comm _ _ (Ne.symm e), ih ((List.mem_cons.mp h).resolve_left e)]
theorem wipe_wipe {vs : List Nat} {σ : L2.St} : wipe (wipe σ vs) vs = wipe σ vs := by
  have key : ∀ (us : List Nat), (∀ u ∈ us, u ∈ vs) → wipe (wipe σ vs) us = wipe σ vs := by
    intro us
    induction us with
    | nil => intro _; rfl
    | cons u us ih =>
      intro h
      show (wipe (wipe σ vs) us).set u none = _
      rw [ih fun x hx => h x (List.mem_cons_of_mem _ hx), wipe_none (h u (List.mem_cons_self ..))]
  exact key vs fun _ h => h
theorem gk_name {vs : List Nat} {i : Nat} (hm : i ∈ vs) : GBk W vs (gName i) (aGN i) := fun σ H th rho eta x d Q R S Rd h k => k _ _ (wipe_set hm) (S.set i (RepT.of Rd)) h
def GBks (W : Wd) (vs : List Nat) (g : TGs) (ga : TGsa) : Prop :=
  ∀ (σ : L2.St) (H : Hp) (th : List Addr) (rho : Rho) (eta : List MO) (xs : List V) (ds : List D) (Q : Rho → List MO → Prop) (R : L2.St → Hp → Prop), SR W th H σ rho eta → Reps W H ds xs → ga ds rho eta Q →
    (∀ σ2 rho2, wipe σ2 vs = wipe σ vs → SR W th H σ2 rho2 eta → Q rho2 eta → R σ2 H) → g xs σ H R
theorem gks_nil {vs : List Nat} : GBks W vs gNil aGsN := fun σ H th rho eta xs ds Q R S Rs h k => by
  cases ds with
  | nil => exact ⟨Rs, k σ rho rfl S h⟩
  | cons d ds => exact h.elim
theorem gks_name {vs : List Nat} {i : Nat} {g : TGs} {ga : TGsa} (hm : i ∈ vs) (h2 : GBks W vs g ga) : GBks W vs (gCons (gName i) g) (aGsC (aGN i) ga) := fun σ H th rho eta xs ds Q R S Rs h k => by
  cases ds with
  | nil => exact h.elim
  | cons d ds =>
    obtain ⟨v, r, rfl, R1, R2⟩ := Rs
    refine ⟨v, r, rfl, ?_⟩
    exact h2 (σ.set i (some v)) H th _ eta r ds Q R (S.set i (RepT.of (th := th) R1)) R2 h fun σ2 rho2 hw => k σ2 rho2 (by rw [hw, wipe_set hm])
theorem gk_tup {K : PySem.W.Frag} {vs : List Nat} {g : TGs} {ga : TGsa} {n : Nat} (h : GBks W vs g ga) : GBk W vs (gTup K n g) (aGT n ga) := fun σ H th rho eta x d Q R S Rd hw k => by
  cases d with
  | tup ds =>
    obtain ⟨hl, hw⟩ := hw
    obtain ⟨a, xs, rfl, hq, Rs⟩ := Rd
    exact ⟨a, xs, rfl, SqT.of hq, by rw [← Rs.length]; exact hl, h σ H th rho eta xs ds Q R S Rs hw k⟩
  | _ => exact hw.elim

def wipA : Rho → List Nat → Rho
  | rho, [] => rho
  | rho, v :: vs => (wipA rho vs).set v none
theorem wipA_sr {th : List Addr} {H : Hp} {σ : L2.St} {rho : Rho} {eta : List MO} (S : SR W th H σ rho eta) : ∀ vs : List Nat, SR W th H (wipe σ vs) (wipA rho vs) eta
  | [] => S
  | v :: vs => by
    have S1 := wipA_sr S vs
    unfold wipe wipA
    refine ⟨fun i d e => ?_, by simpa using S1.le, S1.hp⟩
    by_cases h : v = i
    · subst h
      by_cases hl : v < (wipA rho vs).length
      · rw [List.getElem?_set_self hl] at e; cases e
      · rw [List.getElem?_eq_none (by simpa using hl)] at e; cases e
    · rw [List.getElem?_set_ne h] at e ⊢
      exact S1.var i d e
/-- the list that a comprehension makes -/
def aLcG (ga : TGa) (tt : TTa) (te : TEa) (rho : Rho) (Q : List D → List MO → Prop) : List D → List D → List MO → Prop
  | [], acc, eta => Q acc eta
  | d :: ds, acc, eta => ga d rho eta fun rho1 eta1 => tt rho1 eta1 (fun b eta2 => if b = true then te rho1 eta2 (fun y eta3 => y.im = true ∧ aLcG ga tt te rho Q ds (acc ++ [y]) eta3) (fun _ _ _ => False)
      else aLcG ga tt te rho Q ds acc eta2) (fun _ _ _ => False)
def aLc (ti : TIa) (ga : TGa) (tt : TTa) (te : TEa) (vs : List Nat) : TEa := fun rho eta Q EX => ti rho eta (fun ds eta1 => ds.length ≤ 100000 ∧ aLcG ga tt te (wipA rho vs) (fun acc eta2 => Q (.fl acc) eta2) ds [] eta1) EX
theorem XOk.none {th : List Addr} {H : Hp} : XOk W W0 th H (fun _ _ _ => False) := fun _ _ _ _ _ _ _ _ h => h.elim
theorem sizeK {n : Nat} (h : n < 100000) : n < sizeLine := Nat.lt_of_lt_of_le h (by rw [sizeLine_eq]; decide)
theorem Reps.snoc {H : Hp} {d : D} {v : V} (r : Rep W H d v) : ∀ {ds : List D} {vs : List V}, Reps W H ds vs → Reps W H (ds ++ [d]) (vs ++ [v])
  | [], _, h => by have h : _ = _ := h; subst h; exact ⟨v, [], rfl, r, rfl⟩
  | e :: ds, _, ⟨w, l, e1, h1, h2⟩ => ⟨w, l ++ [v], by rw [e1]; rfl, h1, Reps.snoc r h2⟩
theorem RepM.pers {th : List Addr} {H H' : Hp} (p : Pers H H') {mo : MO} {ho : HO} (h : RepM W th H mo ho) : RepM W th H' mo ho := by
  cases mo with
  | gone => trivial
  | lst ds => obtain ⟨vs, e, r⟩ := h; exact ⟨vs, e, Reps.mono p _ _ r⟩
  | dct ks ds => obtain ⟨vs, e, l, r⟩ := h; exact ⟨vs, e, l, Reps.mono p _ _ r⟩
  | dctT ks ds => obtain ⟨vs, e, l, r⟩ := h; exact ⟨vs, e, l, Reps.mono p _ _ r⟩
  | ins c ds =>
    obtain ⟨dx, vs, e, l, r⟩ := h
    refine ⟨dx, vs, e, l, ?_⟩
    have key : ∀ {ds : List D} {vs : List V}, RepTs W th H ds vs → RepTs W th H' ds vs := by
      intro ds
      induction ds with
      | nil => intro vs h; exact h
      | cons d ds ih =>
        intro vs ⟨v, r, e, h1, h2⟩
        refine ⟨v, r, e, ?_, ih h2⟩
        cases d <;> first | exact Rep.mono p _ v h1 | exact h1
    exact key r
/-- one object outside the numbered ones is written -/
theorem SRh.aside {th : List Addr} {H : Hp} {eta : List MO} (S : SRh W th H eta) {D : Addr} {o o' : HO} (hD : D ∉ th) (e : H D = some o) (nf : ¬ Fz o) : Pers H (upd H D o') ∧ SRh W th (upd H D o') eta := by
  have p : Pers H (upd H D o') := fun b u h fz => by
    rw [upd_ne (fun z => by rw [z, e] at h; cases h; exact nf fz)]; exact h
  refine ⟨p, S.len, S.nd, fun n mo q => ?_⟩
  obtain ⟨a, ho, e1, e2, r⟩ := S.obj n mo q
  exact ⟨a, ho, e1, by rw [upd_ne (fun z => hD (by rw [← z]; exact List.mem_of_getElem? e1))]; exact e2, r.pers p⟩
theorem Grow.aside {th th' : List Addr} {H H' : Hp} (g : Grow th H th' H') {D : Addr} {o : HO} (hD : H D = none) : Grow th H th' (upd H' D o) :=
  ⟨g.pre, fun a u e q => by rw [upd_ne (ne_of_none e hD)]; exact g.keep a u e q⟩
theorem Grow.notin {th th' : List Addr} {H H' : Hp} (g : Grow th H th' H') {D : Addr} {o : HO} (hD : D ∉ th) (e : H D = some o) : D ∉ th' := fun z => by
  obtain ⟨t, e2, ht⟩ := g.pre
  rw [e2] at z
  rcases List.mem_append.mp z with z | z
  · exact hD z
  · rw [ht D z] at e; cases e
theorem ea_lc {elt tg iter : Expr} {ifs : List Expr} {scope : Scope} {own : List (Str × Nat)} {pos : Pos} {ti : TIa} {g : TG} {ga : TGa} {tt : TTa} {te : TEa} (hc : X.calm = true) (hN : X.N.Nodup) (hi : IA X W Wx tg iter ti) (ok : BlkOk X.N X.env.scope scope own)
    (hg : ∀ (s : Shared) (H : Hp) (C : Addr) (cl : List (Str × Addr)) (fp : List Addr), PG (X.blk s H scope (compEnvC scope cl C X.env) fp) tg g) (hk : GBk W (own.map (·.2)) g ga)
    (ht : ∀ (s : Shared) (H : Hp) (C : Addr) (cl : List (Str × Addr)) (fp : List Addr), TsA (X.blk s H scope (compEnvC scope cl C X.env) fp) W W0 ifs tt)
    (he : ∀ (s : Shared) (H : Hp) (C : Addr) (cl : List (Str × Addr)) (fp : List Addr), EA (X.blk s H scope (compEnvC scope cl C X.env) fp) W W0 elt te) (hs : ∀ x, foldedSetIterable iter X.env x = pure x := by intro _; rfl) :
    EA X W Wx (.ListComp elt [⟨tg, iter, ifs, 0⟩] scope pos) (aLc ti ga tt te (own.map (·.2))) := by
  refine .of (pe_fz (pe_lc hc hN hi.pi ok hg (fun s H C cl fp => (ht s H C cl fp).pts) (fun s H C cl fp => (he s H C cl fp).pe) hs)) fun σ H th rho eta Qa EX S xo hq => ?_
  refine ⟨th, rho, eta, _, EX, S, xo, hq, fun J th1 H1 ds eta1 g1 S1 jo q => ?_⟩
  obtain ⟨hlen, q⟩ := q
  intro D hD
  have hD1 : D ∉ th1 := fun z => by obtain ⟨o, e⟩ := S1.hp.there D z; rw [hD] at e; cases e
  let Inv2 : Nat → Hp → Prop := fun i H2 => ∃ th2 eta2 acc accD, Grow th1 H1 th2 H2 ∧ SRh W th2 H2 eta2 ∧ D ∉ th2 ∧ H2 D = some (.lst acc) ∧ Reps W H2 accD acc ∧ acc.length ≤ i ∧ i ≤ ds.length ∧
    aLcG ga tt te (wipA rho (own.map (·.2))) (fun acc eta2 => Qa (.fl acc) eta2) (ds.drop i) accD eta2
  refine ⟨fun i m H2 => m = ds.length - i ∧ Inv2 i H2, ⟨ds.length, rfl, th1, eta1, [], [], Grow.new hD, S1.hp.new hD, hD1, upd_same, rfl, by simp, Nat.zero_le _, by simpa using q⟩, ?_⟩
  rintro i m H2 ⟨rfl, th2, eta2, acc, accD, g2, S2, hD2, eD, Racc, hacc, hil, q2⟩
  obtain ⟨jg, js⟩ := jo th2 H2 g2 i
  cases e : ds[i]? with
  | none =>
    have hl : ds.length ≤ i := List.getElem?_eq_none_iff.mp e
    rw [List.drop_eq_nil_of_le hl] at q2
    refine .inl ⟨js hl, D, _, rfl, eD, trivial, fun od => ?_⟩
    obtain ⟨pf, S3⟩ := S2.aside (o' := .frz od (.lst acc)) hD2 eD (fun z => z)
    have g3 := g2.aside (o := .frz od (.lst acc)) hD
    exact ⟨th2, .fl accD, eta2, g1.trans' S1.hp g3, S1.mono g3 S3 |> fun z => ⟨fun i d e => let ⟨v, e1, r⟩ := S.var i d e; ⟨v, e1, r.mono (g1.trans' S1.hp g3)⟩, S.le, S3⟩, ⟨D, od, acc, rfl, upd_same, Reps.mono pf _ _ Racc⟩, q2⟩
  | some d =>
    obtain ⟨hgo, hy⟩ := jg d e
    have hlt : i < ds.length := (List.getElem?_eq_some_iff.mp e).1
    rw [drop_get e] at q2
    refine .inr ⟨hgo, Inv2 (i + 1), fun H' q => ⟨ds.length - (i + 1), by omega, rfl, q⟩, fun x H' hyl => ?_⟩
    obtain ⟨py, hk2, Rx⟩ := hy x H' hyl
    obtain ⟨S2h, g3⟩ := hk2 th2 eta2 S2
    have Sw : SR W th2 H2 (wipe σ (own.map (·.2))) (wipA rho (own.map (·.2))) eta2 := wipA_sr (S1.mono g2 S2) _
    have Sw3 := Sw.mono g3 S2h
    have eD3 : H' D = some (.lst acc) := g3.keep D _ eD (.inl hD2)
    refine hk _ H' th2 _ eta2 x d _ _ Sw3 Rx q2 fun σ2 rho2 hw S4 q4 => ⟨by rw [hw, wipe_wipe], th2, rho2, eta2, _, _, S4, XOk.none, q4, fun th5 H5 b eta5 g5 S5 q5 => ?_⟩
    have eD5 : H5 D = some (.lst acc) := g5.keep D _ eD3 (.inl hD2)
    have hD5 : D ∉ th5 := g5.notin hD2 eD3
    have g25 : Grow th1 H1 th5 H5 := g2.trans' S2 (g3.trans' S2h g5)
    have p25 : Pers H2 H5 := fun a o h f => g5.pers a o (py a o h f) f
    cases b with
    | false =>
      rw [if_neg Bool.false_ne_true] at q5
      dsimp only
      rw [if_neg Bool.false_ne_true]
      exact ⟨th5, eta5, acc, accD, g25, S5.hp, hD5, eD5, Reps.mono p25 _ _ Racc, by omega, hlt, q5⟩
    | true =>
      rw [if_pos rfl] at q5
      dsimp only
      rw [if_pos rfl]
      refine ⟨th5, rho2, eta5, _, _, S5, XOk.none, q5, fun th6 H6 y dy eta6 g6 S6 Ry q6 => ?_⟩
      obtain ⟨yi, q6⟩ := q6
      have eD6 : H6 D = some (.lst acc) := g6.keep D _ eD5 (.inl hD5)
      have hD6 : D ∉ th6 := g6.notin hD5 eD5
      refine ⟨acc, eD6, sizeK (by omega), ?_⟩
      obtain ⟨p7, S7⟩ := S6.hp.aside (o' := .lst (acc ++ [y])) hD6 eD6 (fun z => z)
      refine ⟨th6, eta6, acc ++ [y], accD ++ [dy], (g25.trans' S5.hp g6).aside hD, S7, hD6, upd_same, ?_, by simp; omega, hlt, q6⟩
      exact Reps.snoc (Rep.mono p7 _ _ (Ry.im yi)) (Reps.mono p7 _ _ (Reps.mono g6.pers _ _ (Reps.mono p25 _ _ Racc)))
end
end RF
set_option maxRecDepth 100000
set_option maxHeartbeats 4000000
namespace RF
open PySem PySem.Spec PyProof.Rows L2
/-! ### the class Ratio -/
structure RatC (K : PySem.W.Frag) (C pT pB fI : Addr) : Prop where
  cl : SlX.SCls K C
  sT : SlX.Slot1 K C "top" pT 1
  sB : SlX.Slot1 K C "bottom" pB 0
  isi : SlX.SIsi K C
  mkr : Mk K C fI
section
variable {X : Cx} {W : Wd} {Wx : WX}
theorem rat_inst {pins : List (Addr × Obj)} {σ : L2.St} {H : Hp} {s : Shared} {a : Addr} {q : Rat} (I : Inv X pins σ H s) (h : RatAt W H a q) :
    ∃ (dx : Addr) (sl : Array (Option Value)) (od : Obj), SlX.SlR [some (.int q.den), some (.int q.num)] sl ∧ PySem.W.InstAt s.heap a { PySem.W.instObj (W.cl 0) dx with slots := sl } (W.cl 0) (some od) ∧ ∀ f, PySem.W.lookIn f od = some none := by
  obtain ⟨dx, o, h1, h2⟩ := h
  obtain ⟨e, ⟨⟨sl, e1, r⟩, _, _⟩⟩ := I.hok a _ h1
  obtain ⟨mA, n, r2⟩ := I.hok dx _ h2
  obtain ⟨od, ho, hl⟩ := lookIn_ns n
  exact ⟨dx, sl, od, r, ⟨e1, rfl, rfl, ho⟩, fun f => by rw [hl f]; exact congrArg some (RelO.none_of (r2 f))⟩
/-- r.top, r.bottom -/
def fldQ (b : Bool) (Q : QA) : QA := fun d eta => match d with
  | .rat q => Q (.int (if b then q.den else q.num)) eta
  | _ => False
def aFldR (b : Bool) (t : TEa) : TEa := fun rho eta Q EX => t rho eta (fldQ b Q) EX
theorem ea_fldR {C pT pB fI : Addr} (RC : RatC X.K C pT pB fI) (hC : W.cl 0 = C) {e : Expr} {t : TEa} {pos : Pos} {f : Str} {p : Addr} {i : Nat} {b : Bool} (he : EA X W Wx e t) (hs : SlX.Slot1 X.K C f p i) (hi : i = if b then 0 else 1) (hb : attributeBase e f X.env (eval e X.env) = eval e X.env := by rfl) :
    EA X W Wx (.Attribute e f pos) (aFldR b t) := by
  refine ⟨fun pins s σ H th rho eta Qa EX I S x h => ?_⟩
  refine attr_of hb (thn (he.run pins s σ H th rho eta _ EX I S x h) fun u s1 ⟨v, th1, H1, d, eta1, I1, r1, g1, S1, R1, q1⟩ => ?_)
  unfold fldQ at q1
  split at q1
  · rename_i q
    obtain ⟨a, rfl, R⟩ := R1
    obtain rfl : u = Value.ref a := r1
    obtain ⟨dx, sl, od, rs, J, _⟩ := rat_inst I1 R
    obtain ⟨m, F⟩ := I1.fr
    have hv : ∃ w, sl[i]? = some (some w) ∧ RelV (.int (if b then (q.den : Int) else q.num)) w := by
      cases b with
      | true => subst hi; exact rs 0 _ rfl
      | false => subst hi; exact rs 1 _ rfl
    obtain ⟨w, ew, rw'⟩ := hv
    rw [hC] at J
    refine PySem.W.get_slot F I1.mod.kin J (RC.cl.get f) RC.cl.ic hs.at_ hs.get hs.tk hs.ix (v := w) ?_ (handed_of rw') ⟨_, th1, H1, .int _, eta1, I1.tok _, rw', g1, S1, rfl, q1⟩
    show (sl[i]?).join = some w
    rw [ew]; rfl
  · exact q1.elim

/-! ### isinstance -/
/-- the class of a value, for isinstance (own instances: in further rules) -/
def D.tyn : D → Option Value
  | .non => some (.type "NoneType")
  | .bl _ => some (.type "bool")
  | .int _ => some (.type "int")
  | .str _ => some (.type "str")
  | .tup _ => some (.type "tuple")
  | .fl _ => some (.type "list")
  | .fd _ _ => some (.type "dict")
  | _ => none
theorem kit_d {C pT pB fI : Addr} (RC : RatC X.K C pT pB fI) (hC : W.cl 0 = C) {pins : List (Addr × Obj)} {σ : L2.St} {H : Hp} {s : Shared} {th : List Addr} {d : D} {x : V} {u : Value} (I : Inv X pins σ H s) (R : RepT W th H d x) (r : RelV x u) :
    (∀ t, d.tyn = some t → ∃ P : Heap → Prop, PySem.W.KitX X.K u t P ∧ P s.heap ∧ u ≠ .builtin "__main__.__loader__#opaque") ∧ (∀ q, d = .rat q → ∃ P : Heap → Prop, PySem.W.KitX X.K u (.ref C) P ∧ P s.heap ∧ u ≠ .builtin "__main__.__loader__#opaque") := by
  refine ⟨fun t e => ?_, fun q e => ?_⟩
  · have ty : ∀ {t'}, TyX X.K H x t' → some t' = some t → ∃ P : Heap → Prop, PySem.W.KitX X.K u t P ∧ P s.heap ∧ u ≠ .builtin "__main__.__loader__#opaque" := fun h e => by
      cases e; exact kit_of I r h
    cases d with
    | non => have R : x = _ := R; subst R; exact ty (.base .non) e
    | bl b => have R : x = _ := R; subst R; exact ty (.base (.bl b)) e
    | int i => have R : x = _ := R; subst R; exact ty (.base (.int i)) e
    | str z => have R : x = _ := R; subst R; exact ty (.base (.str z)) e
    | tup ds => obtain ⟨a, vs, rfl, ea, _⟩ := R; exact ty (.base (.tup ea)) e
    | fl ds => obtain ⟨a, o, vs, rfl, ea, _⟩ := R; exact ty (.base (.frz ea)) e
    | fd ks ds => obtain ⟨a, o, vs, rfl, ea, _⟩ := R; exact ty (.fDict ea) e
    | _ => cases e
  · subst e
    obtain ⟨a, rfl, R⟩ := R
    obtain rfl : u = Value.ref a := r
    obtain ⟨dx, sl, od, rs, J, _⟩ := rat_inst I R
    rw [hC] at J
    exact ⟨_, OwX.kitx_slt RC.cl.ic (RC.cl.get _) RC.isi.ca RC.isi.cn RC.isi.ct RC.isi.cm, J, fun z => nomatch z⟩
/-- what K says of the answers of f, for the class or classes c -/
def IsiOk (K : PySem.W.Frag) (C : Addr) (f : D → Option Bool) (us : List Value) : Prop :=
  ∀ d b, f d = some b → (∃ t, d.tyn = some t ∧ PySem.W.kitAny K t us = some b) ∨ (∃ q, d = .rat q ∧ PySem.W.kitAny K (.ref C) us = some b)
def ClsD (W : Wd) : D → Value → Prop
  | .cls c, u => u = .ref (W.cl c)
  | .ty n, u => u = .type n
  | _, _ => False
def raIsi (c : D) (f : D → Option Bool) : RNa := fun ds _ eta Q _ => match ds with
  | [d, c'] => c' = c ∧ (match f d with | some b => Q (.bl b) eta | none => False)
  | _ => False
theorem clsD_val {th : List Addr} {H : Hp} {c : D} {u w : Value} {v : V} (k : ClsD W c u) (R : RepT W th H c v) (r : RelV v w) : w = u := by
  cases c with
  | cls c => have R : v = _ := R; subst R; cases r; exact k.symm
  | ty n => have R : v = _ := R; subst R; cases r; exact k.symm
  | _ => exact k.elim
theorem kitAny_one {K : PySem.W.Frag} {t c : Value} {b : Bool} (h : PySem.W.kitAny K t [c] = some b) : PySem.W.kitOne K t c = some b := by
  simp only [PySem.W.kitAny] at h
  cases e : PySem.W.kitOne K t c with
  | none => rw [e] at h; cases h
  | some b' => rw [e] at h; cases b' <;> exact h
theorem ca_isi {C pT pB fI : Addr} (RC : RatC X.K C pT pB fI) (hC : W.cl 0 = C) {c : D} {u : Value} {f : D → Option Bool} (hc : ClsD W c u) (hf : IsiOk X.K C f [u]) : ClA X W Wx (.builtin "isinstance") (raIsi c f) := by
  intro pins s σ H th rho eta xs us ds Qa EX I S xo rx Rd hr
  unfold raIsi at hr
  split at hr
  · rename_i d c'
    obtain ⟨ec, hr⟩ := hr
    subst ec
    obtain ⟨x, y, rfl, Rx, Ry⟩ := Rd.two
    obtain ⟨u1, u2, rfl, r1, r2⟩ := vals2 rx
    have e2 := clsD_val hc Ry r2
    subst e2
    cases e : f d with
    | none => rw [e] at hr; exact hr.elim
    | some b =>
      rw [e] at hr
      have fin : ∀ tk, EPa X W pins σ th H rho Qa (.bool b) { s with toks := tk } := fun tk => EPa.here (v := .bl b) (d := .bl b) (I.tok tk) S rfl rfl hr
      obtain ⟨k1, k2⟩ := kit_d RC hC I Rx r1
      rcases hf d b e with ⟨t, et, hk⟩ | ⟨q, eq, hk⟩
      · obtain ⟨P, Z, p, hx⟩ := k1 t et
        exact PySem.W.kia_one Z I.kIn p (kitAny_one hk) hx fin
      · obtain ⟨P, Z, p, hx⟩ := k2 q eq
        exact PySem.W.kia_one Z I.kIn p (kitAny_one hk) hx fin
  · exact hr.elim
/-- isinstance(x, (int, Ratio)) -/
theorem ca_isiT {C pT pB fI : Addr} (RC : RatC X.K C pT pB fI) (hC : W.cl 0 = C) {c1 c2 : D} {u1' u2' : Value} {f : D → Option Bool} (hc1 : ClsD W c1 u1') (hc2 : ClsD W c2 u2') (hf : IsiOk X.K C f [u1', u2']) : ClA X W Wx (.builtin "isinstance") (raIsi (.tup [c1, c2]) f) := by
  intro pins s σ H th rho eta xs us ds Qa EX I S xo rx Rd hr
  unfold raIsi at hr
  split at hr
  · rename_i d c'
    obtain ⟨ec, hr⟩ := hr
    subst ec
    obtain ⟨x, y, rfl, Rx, Ry⟩ := Rd.two
    obtain ⟨u1, u2, rfl, r1, r2⟩ := vals2 rx
    obtain ⟨tp, vs, rfl, et, Rs⟩ := Ry
    cases (show u2 = Value.ref tp from r2)
    obtain ⟨_, its, rv, o, h1, h2, n, h3⟩ := (show ObjOk X.prog X.w H s.heap tp (.tup vs) from I.hok tp _ et)
    have e3 : its = [u1', u2'] := by
      obtain ⟨v1, l1, rfl, Ra, v2, l2, rfl, Rb, e⟩ := Rs
      have e : l2 = [] := e
      subst e
      cases rv with
      | cons ra rr =>
        cases rr with
        | cons rb rr2 =>
          cases rr2
          rw [clsD_val (th := th) hc1 (RepT.of Ra) ra, clsD_val (th := th) hc2 (RepT.of Rb) rb]
    subst e3
    obtain ⟨oc, od, dt, sl⟩ := o
    simp only at h2 h3
    subst h2 h3
    cases e : f d with
    | none => rw [e] at hr; exact hr.elim
    | some b =>
      rw [e] at hr
      have fin : ∀ tk, EPa X W pins σ th H rho Qa (.bool b) { s with toks := tk } := fun tk => EPa.here (v := .bl b) (d := .bl b) (I.tok tk) S rfl rfl hr
      obtain ⟨k1, k2⟩ := kit_d RC hC I Rx r1
      rcases hf d b e with ⟨t, et, hk⟩ | ⟨q, eq, hk⟩
      · obtain ⟨P, Z, p, hx⟩ := k1 t et
        exact PySem.W.kia_tup Z I.kIn p h1 hk hx fin
      · obtain ⟨P, Z, p, hx⟩ := k2 q eq
        exact PySem.W.kia_tup Z I.kIn p h1 hk hx fin
  · exact hr.elim
end
end RF
set_option maxRecDepth 100000
set_option maxHeartbeats 4000000
namespace RF
open PySem PySem.Spec PyProof.Rows L2
/-! ### Ratio(t, b) -/
def DivOk (b : Int) : Prop := b.natAbs.log2 < 9000
def rG (t b : Int) : Int := if b < 0 then -((Nat.gcd t.natAbs b.natAbs : Nat) : Int) else ((Nat.gcd t.natAbs b.natAbs : Nat) : Int)
theorem rG_ne {t b : Int} (h : b ≠ 0) : rG t b ≠ 0 := by
  have : 0 < Nat.gcd t.natAbs b.natAbs := Nat.gcd_pos_of_pos_right _ (by omega)
  unfold rG; split <;> omega
theorem rG_le {t b : Int} (h : b ≠ 0) : (rG t b).natAbs ≤ b.natAbs := by
  have : Nat.gcd t.natAbs b.natAbs ≤ b.natAbs := Nat.gcd_le_right _ (by omega)
  unfold rG; split <;> omega
theorem log2_mono {a b : Nat} (h : a ≤ b) : a.log2 ≤ b.log2 := by
  by_cases ha : a = 0
  · subst ha; simp
  · exact (Nat.le_log2 (by omega)).mpr (Nat.le_trans (Nat.log2_self_le ha) h)
theorem rG_cfd {t b : Int} (x : Int) (h : b ≠ 0) (d : DivOk b) : CFd x (rG t b) :=
  ⟨rG_ne h, PyProof.noPylong_of_log2 (Nat.lt_of_le_of_lt (log2_mono (rG_le h)) d)⟩
theorem fdiv_gcd_num {t b : Int} (h : b ≠ 0) : t.fdiv (rG t b) = (Rat.divInt t b).num ∧ b.fdiv (rG t b) = ((Rat.divInt t b).den : Int) := by
  have hg : 0 < Nat.gcd t.natAbs b.natAbs := Nat.gcd_pos_of_pos_right _ (by omega)
  have eg : b.gcd t = Nat.gcd t.natAbs b.natAbs := by rw [Int.gcd_comm]; rfl
  rw [Rat.num_divInt, Rat.den_divInt, if_neg h, eg]
  generalize hG : Nat.gcd t.natAbs b.natAbs = g at *
  obtain ⟨t', et⟩ : (g : Int) ∣ t := by rw [← hG]; exact Int.ofNat_dvd_left.mpr (Nat.gcd_dvd_left _ _)
  obtain ⟨b', eb⟩ : (g : Int) ∣ b := by rw [← hG]; exact Int.ofNat_dvd_left.mpr (Nat.gcd_dvd_right _ _)
  have hg0 : (g : Int) ≠ 0 := by omega
  have hb' : b.natAbs = g * b'.natAbs := by rw [eb, Int.natAbs_mul]; rfl
  have hq : b.natAbs / g = b'.natAbs := by rw [hb']; exact Nat.mul_div_cancel_left _ hg
  unfold rG
  rw [hG]
  by_cases hn : b < 0
  · rw [if_pos hn, Int.sign_eq_neg_one_of_neg hn, hq]
    have hs : b' < 0 := by
      refine Int.not_le.mp fun z => ?_
      have := Int.mul_nonneg (Int.natCast_nonneg g) z
      omega
    refine ⟨?_, ?_⟩
    · rw [show (-1 : Int) * t = g * (-t') by rw [et]; simp [Int.mul_neg], Int.mul_ediv_cancel_left _ hg0]
      exact Int.fdiv_eq_of_eq_mul_right (by omega) (by rw [et, Int.neg_mul_neg])
    · rw [show ((b'.natAbs : Nat) : Int) = -b' by omega]
      exact Int.fdiv_eq_of_eq_mul_right (by omega) (by rw [Int.neg_mul_neg]; exact eb)
  · rw [if_neg hn, Int.sign_eq_one_of_pos (by omega), hq, Int.one_mul]
    have hs : 0 < b' := by
      refine Int.not_le.mp fun z => ?_
      have := Int.mul_nonpos_of_nonneg_of_nonpos (Int.natCast_nonneg g) z
      omega
    refine ⟨?_, ?_⟩
    · rw [et, Int.mul_ediv_cancel_left _ hg0]
      exact Int.fdiv_eq_of_eq_mul_right hg0 rfl
    · rw [show ((b'.natAbs : Nat) : Int) = b' by omega]
      exact Int.fdiv_eq_of_eq_mul_right hg0 eb
def fRG (K : PySem.W.Frag) : TS := tSeq (SlX.sSl K (tVar 0) (tOp (rI CFd fun i j => .int (i.fdiv j)) (tVar 1) (tVar 3)) "top") (SlX.sSl K (tVar 0) (tOp (rI CFd fun i j => .int (i.fdiv j)) (tVar 2) (tVar 3)) "bottom")
/-- what __init__'s body is read as -/
def tRI (K : PySem.W.Frag) (ZB : Addr) (E : XK) : TS :=
  tSeq (tIfS (tTest (tOp rEq (tVar 2) (tC (.int 0)))) (fun _ σ H => (fun _ H Q => Q (.ref ZB) none H : L2.St → Hp → XK → Prop) σ H fun cls d H' => E cls d H') tNext)
    (tSeq (tAsg (tCB rGcd (tCons (tVar 1) (tCons (tVar 2) tNil))) (gName 3))
    (tSeq (tIfS (tTest (tOp (rI0 fun i j => .bl (decide (i < j))) (tVar 2) (tC (.int 0)))) (tAsg (tUn (rU fun i => .int (-i)) (tVar 3)) (gName 3)) tNext) (fRG K)))
def spRI (C ZB : Addr) : Sp := fun vs H Q E => ∃ (p dx : Addr) (t b : Int), vs = [.ref p, .int t, .int b] ∧ H p = some (.ins C dx []) ∧ dx ≠ p ∧
  (b = 0 → E (.ref ZB) none H) ∧ (b ≠ 0 → DivOk b ∧ Q .non (SlX.slH H p C dx [some (.int (Rat.divInt t b).den), some (.int (Rat.divInt t b).num)]))
theorem pure_fRG {K : PySem.W.Frag} {C pT pB fI : Addr} (RC : RatC K C pT pB fI) {p dx : Addr} {t b g : Int} {H : Hp} {Dn : Ends} (hp : H p = some (.ins C dx [])) (ne : dx ≠ p) (c1 : CFd t g) (c2 : CFd b g)
    (k : Dn.nx [some (.ref p), some (.int t), some (.int b), some (.int g)] (SlX.slH H p C dx [some (.int (b.fdiv g)), some (.int (t.fdiv g))])) : fRG K Dn [some (.ref p), some (.int t), some (.int b), some (.int g)] H := by
  refine ⟨_, rfl, _, rfl, t, g, rfl, rfl, c1, _, rfl, p, C, dx, pT, [], 1, rfl, .inl ⟨hp, rfl⟩, RC.cl, RC.sT, ?_⟩
  refine ⟨_, rfl, _, rfl, b, g, rfl, rfl, c2, _, rfl, p, C, dx, pB, _, 0, rfl, SlX.slH_slt ne, RC.cl, RC.sB, ?_⟩
  rw [SlX.slH_twice ne]
  exact k
theorem pure_rinit {K : PySem.W.Frag} {C ZB pT pB fI : Addr} (RC : RatC K C pT pB fI) {vs : List V} {H : Hp} {Q : VK} {E : XK} (h : spRI C ZB vs H Q E) :
    tRI K ZB E { nx := fun _ H' => Q .non H', rt := Q } (L2.start ["self", "top", "bottom", "common"] vs) H := by
  obtain ⟨p, dx, t, b, rfl, hp, ne, k0, k1⟩ := h
  refine ⟨_, rfl, rfl, _, rfl, ?_⟩
  by_cases hb : b = 0
  · subst hb
    refine iteT ?_
    exact k0 rfl
  · show if decide (V.int b = V.int 0) = true then _ else _
    rw [if_neg (by simpa using hb)]
    obtain ⟨dk, k⟩ := k1 hb
    obtain ⟨e1, e2⟩ := fdiv_gcd_num (t := t) hb
    rw [← e1, ← e2] at k
    have c1 := rG_cfd (t := t) t hb dk
    have c2 := rG_cfd (t := t) b hb dk
    refine ⟨_, rfl, _, rfl, t, b, rfl, _, rfl, _, _, rfl, rfl, _, rfl, ?_⟩
    by_cases hn : b < 0
    · show if decide (b < 0) = true then _ else _
      rw [if_pos (by simpa using hn)]
      refine ⟨_, rfl, _, rfl, ?_⟩
      have e : rG t b = -((Nat.gcd t.natAbs b.natAbs : Nat) : Int) := if_pos hn
      rw [e] at k c1 c2
      exact pure_fRG RC hp ne c1 c2 k
    · show if decide (b < 0) = true then _ else _
      rw [if_neg (by simpa using hn)]
      have e : rG t b = ((Nat.gcd t.natAbs b.natAbs : Nat) : Int) := if_neg hn
      rw [e] at k c1 c2
      exact pure_fRG RC hp ne c1 c2 k
/-! ### the call of the class -/
def raRat (zb : Nat) : RNa := fun ds rho eta Q EX => match ds with
  | [.int t, .int b] => if b = 0 then EX ⟨zb, []⟩ rho eta else DivOk b ∧ Q (.rat (Rat.divInt t b)) eta
  | [.int t] => Q (.rat (t : Rat)) eta
  | _ => False
theorem divInt_one (t : Int) : Rat.divInt t 1 = (t : Rat) := by
  apply Rat.ext
  · rw [Rat.num_divInt]; simp
  · rw [Rat.den_divInt]; simp
section
variable {X : Cx} {W : Wd} {Wx : WX}
/-- the heap behind __init__ -/
def ratH (H : Hp) (x dx C : Addr) (q : Rat) : Hp := SlX.slH (upd (upd H dx (.own x)) x (.ins C dx [])) x C dx [some (.int q.den), some (.int q.num)]
theorem rat_sp {C ZB : Addr} {zb : Nat} (hZ : W.cl zb = ZB) {σ : L2.St} {H : Hp} {th : List Addr} {rho : Rho} {eta : List MO} {t b : Int} {EX : EXA} {x dx : Addr} (S : SR W th H σ rho eta) (xo : XOk W Wx th H EX) (hX : H x = none) (hN : H dx = none) (ne : dx ≠ x)
    (h0 : b = 0 → EX ⟨zb, []⟩ rho eta) (h1 : b ≠ 0 → DivOk b) :
    spRI C ZB [V.ref x, V.int t, V.int b] (upd (upd H dx (.own x)) x (.ins C dx [])) (fun v H2 => v = .non ∧ b ≠ 0 ∧ H2 = ratH H x dx C (Rat.divInt t b)) (WE Wx σ) := by
  have g1 : Grow th H th (upd H dx (.own x)) := Grow.new hN
  have S1 := S.hp.new (o := .own x) hN
  have hX1 : (upd H dx (.own x)) x = none := by rw [upd_ne (Ne.symm ne)]; exact hX
  have g2 : Grow th H th (upd (upd H dx (.own x)) x (.ins C dx [])) := g1.trans' S1 (Grow.new hX1)
  have S2 := S1.new (o := .ins C dx []) hX1
  exact ⟨x, dx, t, b, rfl, upd_same, ne, fun hb => xo ⟨zb, []⟩ rho eta th _ σ _ _ (h0 hb) g2 (S.mono g2 S2) ⟨by rw [hZ], .inl ⟨rfl, rfl⟩⟩, fun hb => ⟨h1 hb, rfl, hb, rfl⟩⟩
theorem ratH_eq {H : Hp} {x dx C : Addr} {q : Rat} {o : HO} (ne : dx ≠ x) : upd (ratH H x dx C q) x o = upd (upd H dx (.xd [])) x o := by
  funext b
  unfold ratH SlX.slH
  by_cases h1 : b = x
  · rw [h1, upd_same, upd_same]
  · by_cases h2 : b = dx
    · subst h2; simp only [upd_ne ne, upd_same]
    · simp only [upd_ne h1, upd_ne h2]
theorem rat_fz {C : Addr} (hC : W.cl 0 = C) {pins : List (Addr × Obj)} {s : Shared} {σ : L2.St} {H : Hp} {th : List Addr} {rho : Rho} {eta : List MO} {q : Rat} {Qa : QA} {x dx : Addr} (S : SR W th H σ rho eta) (hX : H x = none) (hN : H dx = none) (ne : dx ≠ x)
    (I : Inv X pins σ (ratH H x dx C q) s) (h : Qa (.rat q) eta) : EPa X W pins σ th H rho Qa (.ref x) s := by
  have e : ratH H x dx C q x = some (SlX.SlO x C dx [some (.int q.den), some (.int q.num)]) := upd_same
  obtain ⟨od, I1⟩ := I.lock e trivial
  rw [ratH_eq ne] at I1
  have g1 : Grow th H th (upd H dx (.xd [])) := Grow.new hN
  have S1 := S.hp.new (o := .xd []) hN
  have hX1 : (upd H dx (.xd [])) x = none := by rw [upd_ne (Ne.symm ne)]; exact hX
  have g2 := g1.trans' S1 (Grow.new (o := .frz od (SlX.SlO x C dx [some (.int q.den), some (.int q.num)])) hX1)
  have S2 := S1.new (o := .frz od (SlX.SlO x C dx [some (.int q.den), some (.int q.num)])) hX1
  refine ⟨.ref x, th, _, .rat q, eta, I1, rfl, g2, S.mono g2 S2, ⟨x, rfl, dx, od, ?_, ?_⟩, h⟩
  · rw [hC]; exact upd_same
  · rw [upd_ne ne, upd_same]
theorem run_rat {C ZB pT pB fI : Addr} {k zb : Nat} (RC : RatC X.K C pT pB fI) (hC : W.cl 0 = C) (hZ : W.cl zb = ZB) (F : FnR X.prog X.w X.K X.mg X.base (L2.CX X.prog X.w) k fI (spRI C ZB)) (hr : Room (k + 1) X.A) (tk : Takes X Wx)
    {pins : List (Addr × Obj)} {s : Shared} {σ : L2.St} {H : Hp} {th : List Addr} {rho : Rho} {eta : List MO} {us : List Value} {t b : Int} {Qa : QA} {EX : EXA} (I : Inv X pins σ H s) (S : SR W th H σ rho eta) (xo : XOk W Wx th H EX) (rx : Vals [V.int t, V.int b] us)
    (h0 : b = 0 → EX ⟨zb, []⟩ rho eta) (h1 : b ≠ 0 → DivOk b ∧ Qa (.rat (Rat.divInt t b)) eta) : wpAny (model X.prog X.w) X.A (call (.ref C) us) (EPa X W pins σ th H rho Qa) X.xe s := by
  have hN := I.hok.fresh (Nat.le_refl s.heap.objs.size)
  have hX := I.hok.fresh (Nat.le_succ s.heap.objs.size)
  have ne : s.heap.objs.size ≠ s.heap.objs.size + 1 := Nat.ne_of_lt (Nat.lt_succ_self _)
  have I2 := Inv.made (C := C) I
  have r2 : Vals [V.ref (s.heap.objs.size + 1), V.int t, V.int b] (Value.ref (s.heap.objs.size + 1) :: us) := .cons rfl rx
  have sp := rat_sp (C := C) (t := t) hZ S xo hX hN ne h0 fun hb => (h1 hb).1
  refine wpAny_call (make_map (f := fI) I.kIn RC.mkr.makes RC.mkr.init (beq_iff_eq.mp RC.mkr.fn) (codeAny_mono (F _ X.stack _ _ (Value.ref (s.heap.objs.size + 1) :: us) _ _ (WE Wx σ) (hr.make C us []) (I2.env0.make C us []) r2 sp) fun r s' hq' => ?_))
  cases r with
  | error e => exact passAt tk σ pins _ _ e s' I2 hq'
  | ok fl =>
    cases fl with
    | ret u =>
      obtain ⟨v, H', I3, rv, ev, hb, eH⟩ := I2.after hq'
      subst ev eH
      exact ⟨rv, rat_fz hC S hX hN ne I3 (h1 hb).2⟩
    | next => exact False.elim hq'
    | brk => exact False.elim hq'
    | cont => exact False.elim hq'
/-- Ratio(t, b) and Ratio(t): F1 is __init__'s promise with the default -/
theorem cl_rat {C ZB pT pB fI : Addr} {k zb : Nat} (RC : RatC X.K C pT pB fI) (hC : W.cl 0 = C) (hZ : W.cl zb = ZB)
    (F : FnR X.prog X.w X.K X.mg X.base (L2.CX X.prog X.w) k fI (fun vs H Q E => spRI C ZB vs H Q E ∨ spRI C ZB (vs ++ [.int 1]) H Q E)) (hr : Room (k + 1) X.A) (tk : Takes X Wx) : ClA X W Wx (.ref C) (raRat zb) := by
  intro pins s σ H th rho eta xs us ds Qa EX I S xo rx Rd hr'
  unfold raRat at hr'
  split at hr'
  · rename_i t b
    obtain ⟨v, w, rfl, e1, e2⟩ := Rd.two
    have e1 : v = _ := e1
    have e2 : w = _ := e2
    subst e1 e2
    refine run_rat RC hC hZ (F.imp fun _ _ _ _ h => .inl h) hr tk I S xo rx (fun hb => ?_) fun hb => ?_
    · rw [if_pos hb] at hr'; exact hr'
    · rw [if_neg hb] at hr'; exact hr'
  · rename_i t
    obtain ⟨v, rfl, e1⟩ := Rd.one
    have e1 : v = _ := e1
    subst e1
    have hN := I.hok.fresh (Nat.le_refl s.heap.objs.size)
    have hX := I.hok.fresh (Nat.le_succ s.heap.objs.size)
    have ne : s.heap.objs.size ≠ s.heap.objs.size + 1 := Nat.ne_of_lt (Nat.lt_succ_self _)
    have I2 := Inv.made (C := C) I
    have r2 : Vals [V.ref (s.heap.objs.size + 1), V.int t] (Value.ref (s.heap.objs.size + 1) :: us) := .cons rfl rx
    have sp := rat_sp (C := C) (Wx := Wx) (EX := EX) (zb := zb) (rho := rho) (t := t) (b := 1) hZ S xo hX hN ne (fun hb => absurd hb (by decide)) (fun hb => by unfold DivOk; decide +kernel)
    refine wpAny_call (make_map (f := fI) I.kIn RC.mkr.makes RC.mkr.init (beq_iff_eq.mp RC.mkr.fn) (codeAny_mono (F _ X.stack _ _ (Value.ref (s.heap.objs.size + 1) :: us) _ _ (WE Wx σ) (hr.make C us []) (I2.env0.make C us []) r2 (.inr sp)) fun r s' hq' => ?_))
    cases r with
    | error e => exact passAt tk σ pins _ _ e s' I2 hq'
    | ok fl =>
      cases fl with
      | ret u =>
        obtain ⟨v, H', I3, rv, ev, hb, eH⟩ := I2.after hq'
        subst ev eH
        rw [divInt_one] at I3
        exact ⟨rv, rat_fz hC S hX hN ne I3 hr'⟩
      | next => exact False.elim hq'
      | brk => exact False.elim hq'
      | cont => exact False.elim hq'
  · exact hr'.elim
end
end RF
set_option maxRecDepth 100000
set_option maxHeartbeats 4000000
namespace RF
open PySem PySem.Spec PyProof.Rows L2
section
variable {X : Cx} {W : Wd} {Wx : WX}
/-! ### raise -/
def sRaise (c : Nat) : TSa := fun _ rho eta EX => EX ⟨c, []⟩ rho eta
theorem sa_raise {c : Nat} {C : Addr} {e : Expr} {pos : Pos} (hc : X.calm = true) (tk : Takes X Wx) (hC : W.cl c = C) (he : PMk X e (fun _ H Q => Q (.ref C) none H)) : SA X W Wx (.Raise (some e) none pos) (sRaise c) :=
  .of (ps_raise hc tk he) fun σ H th rho eta DA EX S x h => x ⟨c, []⟩ rho eta th H σ _ _ h (Grow.refl _ _) S ⟨by rw [hC], .inl ⟨rfl, rfl⟩⟩
/-! ### try .. except C as n -/
theorem SR.unset {th : List Addr} {H : Hp} {σ : L2.St} {rho : Rho} {eta : List MO} (S : SR W th H σ rho eta) (i : Nat) : SR W th H (σ.set i none) (rho.set i none) eta := by
  refine ⟨fun j e h => ?_, by simpa using S.le, S.hp⟩
  by_cases hj : i = j
  · subst hj
    by_cases hl : i < rho.length
    · rw [List.getElem?_set_self hl] at h; cases h
    · rw [List.getElem?_eq_none (by simp; omega)] at h; cases h
  · rw [List.getElem?_set_ne hj] at h
    obtain ⟨w, e1, r⟩ := S.var j e h
    exact ⟨w, by rw [List.getElem?_set_ne hj]; exact e1, r⟩
def dOk : List D → Option Addr → Bool
  | [], d => d.isNone
  | _, _ => true
theorem RepX.dOk {H : Hp} {ex : Ex} {cls : Value} {dx : Option Addr} (R : RepX W H ex cls dx) : RF.dOk ex.vs dx = true := by
  obtain ⟨_, R⟩ := R
  rcases R with ⟨e, e2⟩ | ⟨d, vs, e, _⟩
  · rw [e, e2]; rfl
  · cases hv : ex.vs with
    | nil => exact absurd hv e
    | cons _ _ => rfl
abbrev TUa := Addr → Value → Option Addr → TSa
def endsN (i : Nat) (DA : EndsA) : EndsA := { nx := fun r e => DA.nx (r.set i none) e, rt := DA.rt, bk := fun r e => DA.bk (r.set i none) e, ct := fun r e => DA.ct (r.set i none) e }
/-- what the clause does with an exception: m tells whether it is one of its -/
def exAs (W : Wd) (m : Nat → Option Bool) (i : Nat) (u : TUa) (DA : EndsA) (EX : EXA) : EXA := fun ex rho eta => match m ex.c with
  | some true => ∀ a d, dOk ex.vs d = true → u a (.ref (W.cl ex.c)) d (endsN i DA) (rho.set i (some (.exn a d ex.c ex.vs))) eta (fun _ _ _ => False)
  | some false => EX ex rho eta
  | none => False
def aTryAs (W : Wd) (m : Nat → Option Bool) (i : Nat) (t : TSa) (u : TUa) : TSa := fun DA rho eta EX => t DA rho eta (exAs W m i u DA EX)
/-- exceptions of the classes of m, by the clause's class -/
def Exm (K : PySem.W.Frag) (W : Wd) (m : Nat → Option Bool) (cv : Value) : Prop := ∀ c b, m c = some b → PySem.W.exmOne K (.ref (W.cl c)) cv = some b
theorem sa_try_as {x n : Str} {cv : Value} {i : Nat} {body suite : List Stmt} {b₀ : Stmt} {np pos pos' : Pos} {t : TSa} {u : TUa} {m : Nat → Option Bool} (hm : Exm X.K W m cv) (hc : Names X x cv) (tk : Takes X Wx) (hi : X.N[i]? = some n)
    (hb : ∀ (Wx' : WX) (pn : List (Addr × Obj)) (xe : Value → Shared → Prop), Takes (X.tr pn xe) Wx' → PassesOwn (model X.prog X.w) X.A X.env xe → SsA (X.tr pn xe) W Wx' body t)
    (hsu : ∀ (a : Addr) (oe : Obj) (cls : Value) (d : Option Addr) (pn : List (Addr × Obj)), Zc cls d oe → (∃ vs, oe.data = .fields vs) → SsA (X.suite a ((a, oe) :: pn)) W (fun _ _ _ _ => False) (b₀ :: suite) (u a cls d))
    (hN : X.N.Nodup) (hs : X.stack = X.env :: X.outer := by rfl) (hf : X.env.frame = some X.env.locals := by rfl) (hln : X.env.kindOf n = some .local := by rfl) :
    SA X W Wx (.Try body [.ExceptHandler (some (.Name x np)) (some n) (b₀ :: suite) pos'] [] [] pos) (aTryAs W m i t u) :=
  .of (ps_try_as (tb := fun Wx' => lftS W Wx' t) (ts := fun a cls d => lftS W (fun _ _ _ _ => False) (u a cls d)) hs hf hN hi hln hc tk (fun Wx' pn xe tk' po => (hb Wx' pn xe tk' po).pss) fun a oe cls d pn hz hf => (hsu a oe cls d pn hz hf).pss) fun σ H th rho eta DA EX S xo h => by
    refine ⟨th, rho, eta, DA, _, S, ?_, h, fun th' H' σ' rho' eta' g S' q => ⟨th', rho', eta', g, S', q⟩, fun th' H' σ' rho' eta' g S' q => ⟨th', rho', eta', g, S', q⟩, fun th' H' σ' rho' eta' g S' q => ⟨th', rho', eta', g, S', q⟩, fun th' H' v d eta' g S' r q => ⟨th', d, eta', g, S', r, q⟩⟩
    intro ex rho' eta' th' H' σ' cls dx he g S' R
    obtain ⟨ec, R⟩ := R
    subst ec
    unfold exAs at he
    split at he
    · rename_i e
      refine ⟨true, hm _ _ e, fun _ a na => ?_, fun z => by cases z⟩
      refine ⟨th', _, eta', _, _, S'.set i (d := .exn a dx ex.c ex.vs) ⟨rfl, R⟩, fun _ _ _ _ _ _ _ _ z => z.elim, he a dx (RepX.dOk (W := W) (H := H') (cls := .ref (W.cl ex.c)) ⟨rfl, R⟩), ?_, ?_, ?_, ?_⟩
      · exact fun th2 H2 σ2 rho2 eta2 g2 S2 q => ⟨th2, _, eta2, g.trans' S'.hp g2, S2.unset i, q⟩
      · exact fun th2 H2 σ2 rho2 eta2 g2 S2 q => ⟨th2, _, eta2, g.trans' S'.hp g2, S2.unset i, q⟩
      · exact fun th2 H2 σ2 rho2 eta2 g2 S2 q => ⟨th2, _, eta2, g.trans' S'.hp g2, S2.unset i, q⟩
      · exact fun th2 H2 v d eta2 g2 S2 r q => ⟨th2, d, eta2, g.trans' S'.hp g2, S2, r, q⟩
    · rename_i e
      exact ⟨false, hm _ _ e, fun z => (by cases z), fun _ => xo ex rho' eta' th' H' σ' _ dx he g S' ⟨rfl, R⟩⟩
    · exact he.elim
/-! ### try .. except C -/
def exOnly (W : Wd) (m : Nat → Option Bool) (u : TUa) (DA : EndsA) (EX : EXA) : EXA := fun ex rho eta => match m ex.c with
  | some true => ∀ a d, dOk ex.vs d = true → u a (.ref (W.cl ex.c)) d DA rho eta (fun _ _ _ => False)
  | some false => EX ex rho eta
  | none => False
def aTryOnly (W : Wd) (m : Nat → Option Bool) (t : TSa) (u : TUa) : TSa := fun DA rho eta EX => t DA rho eta (exOnly W m u DA EX)
theorem sa_try_only {x : Str} {cv : Value} {body suite : List Stmt} {b₀ : Stmt} {np pos pos' : Pos} {t : TSa} {u : TUa} {m : Nat → Option Bool} (hm : Exm X.K W m cv) (hc : Names X x cv) (tk : Takes X Wx)
    (hb : ∀ (Wx' : WX) (pn : List (Addr × Obj)) (xe : Value → Shared → Prop), Takes (X.tr pn xe) Wx' → PassesOwn (model X.prog X.w) X.A X.env xe → SsA (X.tr pn xe) W Wx' body t)
    (hsu : ∀ (a : Addr) (oe : Obj) (cls : Value) (d : Option Addr) (pn : List (Addr × Obj)), Zc cls d oe → (∃ vs, oe.data = .fields vs) → SsA (X.suite a ((a, oe) :: pn)) W (fun _ _ _ _ => False) (b₀ :: suite) (u a cls d))
    (hs : X.stack = X.env :: X.outer := by rfl) (hf : X.env.frame = some X.env.locals := by rfl) :
    SA X W Wx (.Try body [.ExceptHandler (some (.Name x np)) none (b₀ :: suite) pos'] [] [] pos) (aTryOnly W m t u) :=
  .of (ps_try_only (tb := fun Wx' => lftS W Wx' t) (ts := fun a cls d => lftS W (fun _ _ _ _ => False) (u a cls d)) hs hf hc tk (fun Wx' pn xe tk' po => (hb Wx' pn xe tk' po).pss) fun a oe cls d pn hz hf => (hsu a oe cls d pn hz hf).pss) fun σ H th rho eta DA EX S xo h => by
    refine ⟨th, rho, eta, DA, _, S, ?_, h, fun th' H' σ' rho' eta' g S' q => ⟨th', rho', eta', g, S', q⟩, fun th' H' σ' rho' eta' g S' q => ⟨th', rho', eta', g, S', q⟩, fun th' H' σ' rho' eta' g S' q => ⟨th', rho', eta', g, S', q⟩, fun th' H' v d eta' g S' r q => ⟨th', d, eta', g, S', r, q⟩⟩
    intro ex rho' eta' th' H' σ' cls dx he g S' R
    obtain ⟨ec, R⟩ := R
    subst ec
    unfold exOnly at he
    split at he
    · rename_i e
      refine ⟨true, hm _ _ e, fun _ a na => ?_, fun z => by cases z⟩
      refine ⟨th', _, eta', _, _, S', fun _ _ _ _ _ _ _ _ z => z.elim, he a dx (RepX.dOk (W := W) (H := H') (cls := .ref (W.cl ex.c)) ⟨rfl, R⟩), ?_, ?_, ?_, ?_⟩
      · exact fun th2 H2 σ2 rho2 eta2 g2 S2 q => ⟨th2, _, eta2, g.trans' S'.hp g2, S2, q⟩
      · exact fun th2 H2 σ2 rho2 eta2 g2 S2 q => ⟨th2, _, eta2, g.trans' S'.hp g2, S2, q⟩
      · exact fun th2 H2 σ2 rho2 eta2 g2 S2 q => ⟨th2, _, eta2, g.trans' S'.hp g2, S2, q⟩
      · exact fun th2 H2 v d eta2 g2 S2 r q => ⟨th2, d, eta2, g.trans' S'.hp g2, S2, r, q⟩
    · rename_i e
      exact ⟨false, hm _ _ e, fun z => (by cases z), fun _ => xo ex rho' eta' th' H' σ' _ dx he g S' ⟨rfl, R⟩⟩
    · exact he.elim
/-! ### the exception that the suite holds -/
/-- isinstance(e, c) -/
def raIsE (W : Wd) (a : Addr) (cls : Value) (dx : Option Addr) (m : Nat → Option Bool) (c : D) : RNa := fun ds _ eta Q _ => match ds with
  | [.exn a' d' k _, c'] => c' = c ∧ a' = a ∧ d' = dx ∧ cls = .ref (W.cl k) ∧ (match m k with | some b => Q (.bl b) eta | none => False)
  | _ => False
/-- isinstance(e, c) by e's class: m -/
def IsEx (K : PySem.W.Frag) (W : Wd) (m : Nat → Option Bool) (cv : Value) : Prop := ∀ k b, m k = some b → ExcC K (W.cl k) ∧ PySem.W.kitOne K (.ref (W.cl k)) cv = some b
theorem lookup_zip_none {f : Str} : ∀ {l : List Str} {ws : List V}, l.contains f = false → (l.zip ws).lookup f = none
  | [], _, _ => rfl
  | x :: l, [], _ => rfl
  | x :: l, w :: ws, h => by
    simp only [List.contains_cons, Bool.or_eq_false_iff] at h
    simp only [List.zip_cons_cons, List.lookup_cons, h.1]
    exact lookup_zip_none h.2
theorem lookup_zip_some {f : Str} : ∀ {l : List Str} {ws : List V} {j : Nat} {v : V}, l.length = ws.length → l[j]? = some f → ws[j]? = some v → (l.take j).contains f = false → (l.zip ws).lookup f = some v
  | [], _, _, _, _, h, _, _ => by simp at h
  | x :: l, [], _, _, h, _, _, _ => by simp at h
  | x :: l, w :: ws, 0, v, _, h1, h2, _ => by
    simp only [List.getElem?_cons_zero, Option.some.injEq] at h1 h2
    subst h1 h2
    simp [List.lookup_cons]
  | x :: l, w :: ws, j + 1, v, hl, h1, h2, h3 => by
    simp only [List.getElem?_cons_succ] at h1 h2
    simp only [List.take_succ_cons, List.contains_cons, Bool.or_eq_false_iff] at h3
    simp only [List.zip_cons_cons, List.lookup_cons, h3.1]
    exact lookup_zip_some (by simpa using hl) h1 h2 h3.2
theorem Reps.at {H : Hp} : ∀ {ds : List D} {vs : List V} {j : Nat} {d : D}, Reps W H ds vs → ds[j]? = some d → ∃ v, vs[j]? = some v ∧ Rep W H d v
  | [], _, _, _, _, h => by simp at h
  | x :: xs, _, 0, d, ⟨v, r, e, h1, _⟩, h => by
    simp only [List.getElem?_cons_zero, Option.some.injEq] at h
    subst h e
    exact ⟨v, rfl, h1⟩
  | x :: xs, _, j + 1, d, ⟨v, r, e, _, h2⟩, h => by
    simp only [List.getElem?_cons_succ] at h
    subst e
    obtain ⟨w, e, q⟩ := Reps.at h2 h
    exact ⟨w, by simpa using e, q⟩
theorem exn_inst {X : Cx} {pins : List (Addr × Obj)} {σ : L2.St} {H : Hp} {th : List Addr} {s : Shared} {a : Addr} {oe : Obj} {pn : List (Addr × Obj)} {dx : Option Addr} {k : Nat} {vs : List D} {v : V} (I : Inv (X.suite a ((a, oe) :: pn)) pins σ H s)
    (hz : Zc (.ref (W.cl k)) dx oe) (hf : ∃ vs, oe.data = .fields vs) (R : RepT W th H (.exn a dx k vs) v) : ∃ od, PySem.W.InstAt s.heap a oe (W.cl k) od ∧ (∀ f, (W.fld k).contains f = false → ∀ o, od = some o → PySem.W.lookIn f o = some none) ∧
      (∀ f (j : Nat) d, vs[j]? = some d → (W.fld k)[j]? = some f → ((W.fld k).take j).contains f = false → ∃ o u z, od = some o ∧ PySem.W.lookIn f o = some (some u) ∧ RelV z u ∧ Rep W H d z) := by
  obtain ⟨hget, _⟩ := I.pin (a, oe) (List.mem_append.mpr (.inl List.mem_cons_self))
  obtain ⟨fv, hv⟩ := hf
  obtain ⟨h1, h2⟩ := hz
  have nc : PySem.W.notCls oe = true := by unfold PySem.W.notCls; rw [hv]
  obtain ⟨_, R⟩ := R
  rcases R with ⟨e, e2⟩ | ⟨d, ws, e, e2, hd, l, r⟩
  · subst e e2
    refine ⟨none, ⟨hget, h1, nc, by rw [h2]; trivial⟩, ?_, ?_⟩
    · intro f _ o z; cases z
    · intro f j d hj; simp at hj
  · subst e2
    have hx : ObjOk X.prog X.w H s.heap d (.xd ((W.fld k).zip ws)) := I.hok d _ hd
    obtain ⟨mA, hns, hr⟩ := hx
    obtain ⟨od, ho, hl⟩ := lookIn_ns hns
    refine ⟨some od, ⟨hget, h1, nc, by rw [h2]; exact ho⟩, ?_, ?_⟩
    · intro f hf o z
      cases z
      rw [hl f]
      have := hr f
      rw [lookup_zip_none hf] at this
      exact congrArg some (RelO.none_of this)
    · intro f j dd hj hfj hno
      obtain ⟨z, ez, rz⟩ := r.at hj
      have := hr f
      rw [lookup_zip_some l hfj ez hno] at this
      obtain ⟨u, hu, ru⟩ := RelO.some_of this
      exact ⟨od, u, z, rfl, by rw [hl f, hu], ru, rz⟩
theorem ca_isE {X : Cx} {a : Addr} {oe : Obj} {pn : List (Addr × Obj)} {cls : Value} {dx : Option Addr} {m : Nat → Option Bool} {c : D} {cv : Value} (hc : ClsD W c cv) (hm : IsEx X.K W m cv) (hz : Zc cls dx oe) (hf : ∃ vs, oe.data = .fields vs) :
    ClA (X.suite a ((a, oe) :: pn)) W Wx (.builtin "isinstance") (raIsE W a cls dx m c) := by
  intro pins s σ H th rho eta xs us ds Qa EX I S xo rx Rd hr
  unfold raIsE at hr
  split at hr
  · rename_i a' d' k vs c'
    obtain ⟨ec, ea, ed, ek, hr⟩ := hr
    subst ec ea ed ek
    obtain ⟨x, y, rfl, Rx, Ry⟩ := Rd.two
    obtain ⟨u1, u2, rfl, r1, r2⟩ := vals2 rx
    have e2 := clsD_val hc Ry r2
    subst e2
    obtain ⟨od, J, _⟩ := exn_inst I hz hf Rx
    obtain ⟨ex, _⟩ := Rx
    subst ex
    obtain rfl : u1 = Value.ref a' := r1
    cases e : m k with
    | none => rw [e] at hr; exact hr.elim
    | some b =>
      rw [e] at hr
      obtain ⟨C, hk⟩ := hm k b e
      obtain ⟨cd, hcd, _⟩ := PySem.W.any_some C.hd
      exact PySem.W.kia_one (PySem.W.kitx_exc (by rw [hcd]; rfl) C.hg C.hk C.hs C.ha C.hn C.ht C.hm) I.kIn J hk (fun z => nomatch z) fun tk => EPa.here (v := .bl b) (d := .bl b) (I.tok tk) S rfl rfl hr
  · exact hr.elim
end
end RF
set_option maxRecDepth 100000
set_option maxHeartbeats 4000000
namespace RF
open PySem PySem.Spec PyProof.Rows L2
section
variable {X : Cx} {W : Wd} {Wx : WX}
/-! ### names of classes -/
theorem ea_cls {c : Nat} {C : Addr} {x : Str} {pos : Pos} (hC : W.cl c = C) (hm : X.mg x = some (.ref C)) (hg : Gl X x := by rfl) (hd : (x == ("__debug__" : Str)) = false := by decide) : EA X W Wx (.Name x pos) (aC (.cls c)) :=
  .of (pe_glob hg hm (v := .ref C) rfl hd) fun σ H th rho eta Qa EX S x h => by
    subst hC
    exact hereC (d := .cls c) S rfl h
theorem ea_ty {n : String} {x : Str} {pos : Pos} (hm : X.mg x = none) (hv : bootBuiltins x = some (.type n)) (hg : Gl X x := by rfl) (hn : x ≠ "__name__" := by decide) (hd : (x == ("__debug__" : Str)) = false := by decide) : EA X W Wx (.Name x pos) (aC (.ty n)) :=
  .of (pe_bltn hg hm hv (v := .ty n) rfl hn hd) fun σ H th rho eta Qa EX S x h => hereC (d := .ty n) S rfl h
/-! ### texts -/
def raAddS : R2a := fun d e _ eta Q _ => match d, e with
  | .str x, .str y => x.length + y.length ≤ sizeLine ∧ Q (.str (x ++ y)) eta
  | _, _ => False
theorem oa_addS : OpA X W Wx (binaryOp .Add) raAddS := .of op_add_str fun σ H th rho eta x y d e Qa EX S Rd Re hr => by
  unfold raAddS at hr
  split at hr
  · obtain ⟨hc, q⟩ := hr
    have e1 : x = _ := Rd
    have e2 : y = _ := Re
    exact ⟨_, _, e1, e2, hc, hereC (d := .str _) S rfl q⟩
  · exact hr.elim
/-- {x} of an f-string -/
def fmtQ (Q : QA) : QA := fun d eta => match d with
  | .str y => y.length ≤ sizeLine ∧ Q (.str y) eta
  | .int i => i.natAbs.log2 < 1920 ∧ Q (.str (toString i)) eta
  | _ => False
def aFmt (t : TEa) : TEa := fun rho eta Q EX => t rho eta (fmtQ Q) EX
theorem ea_fmt {e : Expr} {t : TEa} {pos : Pos} (he : EA X W Wx e t) : EA X W Wx (.FormattedValue e (-1) none pos) (aFmt t) :=
  .of (pe_fmt he.pe) fun σ H th rho eta Qa EX S x ht => by
    refine ⟨th, rho, eta, _, EX, S, x, ht, fun th1 H1 v d eta1 g S1 R q => ?_⟩
    unfold fmtQ at q
    split at q
    · have e : v = _ := R
      exact .inl ⟨_, e, q.1, th1, .str _, eta1, g, S1, rfl, q.2⟩
    · have e : v = _ := R
      exact .inr ⟨_, e, q.1, th1, .str _, eta1, g, S1, rfl, q.2⟩
    · exact q.elim
inductive JA (X : Cx) (W : Wd) (Wx : WX) : List Expr → List TEa → Prop where
  | nil : JA X W Wx [] []
  | cons {e : Expr} {t : TEa} {es : List Expr} {ts : List TEa} (h : EA X W Wx e t) (r : JA X W Wx es ts) : JA X W Wx (e :: es) (t :: ts)
theorem JA.pj {es : List Expr} {ts : List TEa} (h : JA X W Wx es ts) : PJ X es (ts.map (lftE W Wx)) := by
  induction h with
  | nil => exact .nil
  | cons h r ih => exact .cons h.pe ih
def aJs : List TEa → Str → Rho → List MO → (Str → List MO → Prop) → EXA → Prop
  | [], acc, _, eta, Q, _ => Q acc eta
  | t :: ts, acc, rho, eta, Q, EX => t rho eta (fun d eta1 => match d with
    | .str y => (acc ++ y).length ≤ sizeLine ∧ aJs ts (acc ++ y) rho eta1 Q EX
    | _ => False) EX
theorem lftE_imp {t : TEa} {σ : L2.St} {H : Hp} {Q Q' : VK} (h : lftE W Wx t σ H Q) (k : ∀ v H', Q v H' → Q' v H') : lftE W Wx t σ H Q' :=
  let ⟨th, rho, eta, Qa, EX, S, x, ht, q⟩ := h
  ⟨th, rho, eta, Qa, EX, S, x, ht, fun th' H' v d eta' g S' R z => k _ _ (q th' H' v d eta' g S' R z)⟩
theorem tJs_imp {σ : L2.St} {Q Q' : Str → Hp → Prop} : ∀ {ts : List TEa} {acc : Str} {H : Hp}, tJs (ts.map (lftE W Wx)) acc σ H Q → (∀ o H', Q o H' → Q' o H') → tJs (ts.map (lftE W Wx)) acc σ H Q'
  | [], acc, H, h, k => k _ _ h
  | t :: ts, acc, H, h, k => lftE_imp h fun v H' ⟨y, e, l, z⟩ => ⟨y, e, l, tJs_imp z k⟩
theorem aJs_of {σ : L2.St} {rho : Rho} : ∀ {ts : List TEa} {acc : Str} {th : List Addr} {H : Hp} {eta : List MO} {Q : Str → List MO → Prop} {EX : EXA}, SR W th H σ rho eta → XOk W Wx th H EX → aJs ts acc rho eta Q EX →
    tJs (ts.map (lftE W Wx)) acc σ H fun out H' => ∃ th' eta', Grow th H th' H' ∧ SR W th' H' σ rho eta' ∧ Q out eta'
  | [], acc, th, H, eta, Q, EX, S, x, h => ⟨th, eta, Grow.refl _ _, S, h⟩
  | t :: ts, acc, th, H, eta, Q, EX, S, x, h => by
    refine ⟨th, rho, eta, _, EX, S, x, h, fun th1 H1 v d eta1 g S1 R q => ?_⟩
    split at q
    · have e : v = _ := R
      refine ⟨_, e, q.1, ?_⟩
      have := aJs_of (acc := acc ++ _) S1 (x.mono g S1.hp) q.2
      exact tJs_imp this fun out H' ⟨th', eta', g', S', q'⟩ => ⟨th', eta', g.trans' S1.hp g', S', q'⟩
    · exact q.elim
theorem ea_joined {v1 v2 : Expr} {rest : List Expr} {ts : List TEa} {pos : Pos} (h : JA X W Wx (v1 :: v2 :: rest) ts) : EA X W Wx (.JoinedStr (v1 :: v2 :: rest) pos) (fun rho eta Q EX => aJs ts Str.empty rho eta (fun out eta1 => Q (.str out) eta1) EX) :=
  .of (pe_joined h.pj) fun σ H th rho eta Qa EX S x ht => by
    have := aJs_of S x ht
    exact tJs_imp this fun out H' ⟨th', eta', g', S', q'⟩ => ⟨th', .str out, eta', g', S', rfl, q'⟩
/-! ### str(r), r a Ratio -/
def raStrR (S : SpA) : RNa := fun ds rho eta Q EX => (∃ q, ds = [.rat q]) ∧ raCall S ds rho eta (fun d eta1 => match d with
  | .str y => Q (.str y) eta1
  | _ => False) EX
theorem ca_strR {k : Nat} {f C : Addr} {S : SpA} (hC : W.cl 0 = C) (F : FnR X.prog X.w X.K X.mg X.base (L2.CX X.prog X.w) k f (spOf W S)) (hr : Room (k + 2) X.A) (tk : Takes X Wx) (hs : PySem.W.findIn X.K (.ref C) "__str__" = some (some (.ref f))) (hf : PySem.W.isFn X.K (.ref f) = true) :
    ClA X W Wx (.type "str") (raStrR S) := by
  intro pins s σ H th rho eta xs us ds Qa EX I Sr xo rx Rd hr'
  obtain ⟨⟨q, rfl⟩, hr'⟩ := hr'
  obtain ⟨v, rfl, e1⟩ := Rd.one
  obtain ⟨a, rfl, R⟩ := e1
  cases rx with
  | cons r1 rr =>
    cases rr
    rename_i u
    obtain rfl : u = Value.ref a := r1
    obtain ⟨dx, sl, od, rs, J, _⟩ := rat_inst I R
    rw [hC] at J
    refine PySem.W.kso_call (by have := hr.in1.in1.un; omega) I.kIn J hs hf (wpAny_mono (cl_fn_at F hr.in1.in1 tk (fun I => I.env0.in1.in1) pins s σ H th rho eta [.ref a] [.ref a] [.rat q] _ EX I Sr xo (.cons rfl .nil) Rd hr') (fun u s' h => ?_) fun _ _ z => z)
    obtain ⟨v, th', H', d, eta', I', r, g, S', R', q'⟩ := h
    split at q'
    · have e : v = _ := R'
      subst e
      obtain ⟨t, rfl⟩ := r
      exact ⟨.str _, th', H', .str _, eta', I', ⟨t, rfl⟩, g, S', rfl, q'⟩
    · exact q'.elim
end
end RF
set_option maxRecDepth 100000
set_option maxHeartbeats 4000000
namespace RF
open PySem PySem.Spec PyProof.Rows L2
/-! ### defs by name -/
def Has (P : Program) (w : World) (K : PySem.W.Frag) (mg : Str → Option Value) (base : Heap) (W : Wd) (nm : Str) (k : Nat) (S : SpA) : Prop :=
  ∃ a, mg nm = some (.ref a) ∧ PySem.W.keepIn K (.ref a) = true ∧ FnR P w K mg base (L2.CX P w) k a (spOf W S)
section
variable {X : Cx} {W : Wd} {Wx : WX}
theorem ea_callH {nm : Str} {k j : Nat} {S : SpA} {p pos : Pos} {e : Expr} {es : List Expr} {t : TAa} (h : Has X.prog X.w X.K X.mg X.base W nm k S) (hr : Room j X.A) (tk : Takes X Wx) (ha : AA X W Wx (e :: es) t) (hj : k ≤ j := by decide) (hg : Gl X nm := by rfl) (hdb : (nm == ("__debug__" : Str)) = false := by decide)
    (he : starEach (e :: es) X.env = (false, eval e X.env) :: starEach es X.env := by rfl) (hpl : (backTo pos (starEach es X.env)).any (·.1) = false := by rfl) : EA X W Wx (.Call (.Name nm p) (e :: es) [] pos) (aCall (raCall S) t) := by
  obtain ⟨a, hm, hk, F⟩ := h
  exact ea_callF (cl_fn F (hr.mono hj) tk) hm hk ha hg hdb he hpl
theorem ea_callH0 {nm : Str} {k j : Nat} {S : SpA} {p pos : Pos} (h : Has X.prog X.w X.K X.mg X.base W nm k S) (hr : Room j X.A) (tk : Takes X Wx) (hj : k ≤ j := by decide) (hg : Gl X nm := by rfl) (hdb : (nm == ("__debug__" : Str)) = false := by decide) : EA X W Wx (.Call (.Name nm p) [] [] pos) (aCall (raCall S) aNil) := by
  obtain ⟨a, hm, hk, F⟩ := h
  exact ea_callF0 (cl_fn F (hr.mono hj) tk) hm hk hg hdb
/-! ### built-in names -/
theorem bt_int : bootBuiltins ("int" : Str) = some (.type "int") := by decide +kernel
theorem bt_bool : bootBuiltins ("bool" : Str) = some (.type "bool") := by decide +kernel
theorem bt_str : bootBuiltins ("str" : Str) = some (.type "str") := by decide +kernel
theorem bt_list : bootBuiltins ("list" : Str) = some (.type "list") := by decide +kernel
theorem bt_dict : bootBuiltins ("dict" : Str) = some (.type "dict") := by decide +kernel
theorem bt_ValueError : bootBuiltins ("ValueError" : Str) = some (.type "ValueError") := by decide +kernel
theorem bt_abs : bootBuiltins ("abs" : Str) = some (.builtin "abs") := by decide +kernel
theorem bt_len : bootBuiltins ("len" : Str) = some (.builtin "len") := by decide +kernel
theorem bt_sum : bootBuiltins ("sum" : Str) = some (.builtin "sum") := by decide +kernel
theorem bt_isinstance : bootBuiltins ("isinstance" : Str) = some (.builtin "isinstance") := by decide +kernel
/-! ### operators, ints and texts -/
def raAdd0 : R2a := fun d e rho eta Q EX => match d, e with
  | .int i, .int j => Q (.int (i + j)) eta
  | .str x, .str y => x.length + y.length ≤ sizeLine ∧ Q (.str (x ++ y)) eta
  | _, _ => False
theorem oa_add0 : OpA X W Wx (binaryOp .Add) raAdd0 := fun pins s σ H th rho eta x y v u d e Qa EX I S xo rx ry Rd Re hr => by
  unfold raAdd0 at hr
  split at hr
  · exact oa_add pins s σ H th rho eta x y v u _ _ Qa EX I S xo rx ry Rd Re ⟨trivial, hr⟩
  · exact oa_addS pins s σ H th rho eta x y v u _ _ Qa EX I S xo rx ry Rd Re hr
  · exact hr.elim
def raSub0 : R2a := fun d e rho eta Q EX => match d, e with
  | .int i, .int j => Q (.int (i - j)) eta
  | _, _ => False
theorem oa_sub0 : OpA X W Wx (binaryOp .Sub) raSub0 := fun pins s σ H th rho eta x y v u d e Qa EX I S xo rx ry Rd Re hr => by
  unfold raSub0 at hr
  split at hr
  · exact oa_sub pins s σ H th rho eta x y v u _ _ Qa EX I S xo rx ry Rd Re ⟨trivial, hr⟩
  · exact hr.elim
def raMul0 : R2a := fun d e rho eta Q EX => match d, e with
  | .int i, .int j => IntMulOk i j ∧ Q (.int (i * j)) eta
  | _, _ => False
theorem oa_mul0 : OpA X W Wx (binaryOp .Mult) raMul0 := fun pins s σ H th rho eta x y v u d e Qa EX I S xo rx ry Rd Re hr => by
  unfold raMul0 at hr
  split at hr
  · exact oa_mul pins s σ H th rho eta x y v u _ _ Qa EX I S xo rx ry Rd Re hr
  · exact hr.elim
def raDiv0 : R2a := fun d e rho eta Q EX => match d, e with
  | .int i, .int j => CFd i j ∧ Q (.int (i.fdiv j)) eta
  | _, _ => False
theorem oa_div0 : OpA X W Wx (binaryOp .FloorDiv) raDiv0 := fun pins s σ H th rho eta x y v u d e Qa EX I S xo rx ry Rd Re hr => by
  unfold raDiv0 at hr
  split at hr
  · exact oa_fdiv pins s σ H th rho eta x y v u _ _ Qa EX I S xo rx ry Rd Re hr
  · exact hr.elim
def raMod0 : R2a := fun d e rho eta Q EX => match d, e with
  | .int i, .int j => j ≠ 0 ∧ Q (.int (i.fmod j)) eta
  | _, _ => False
theorem oa_mod0 : OpA X W Wx (binaryOp .Mod) raMod0 := fun pins s σ H th rho eta x y v u d e Qa EX I S xo rx ry Rd Re hr => by
  unfold raMod0 at hr
  split at hr
  · exact oa_mod pins s σ H th rho eta x y v u _ _ Qa EX I S xo rx ry Rd Re hr
  · exact hr.elim
def raPow0 : R2a := fun d e rho eta Q EX => match d, e with
  | .int i, .int j => CPow i j ∧ Q (.int (i ^ j.toNat)) eta
  | _, _ => False
theorem oa_pow0 : OpA X W Wx (binaryOp .Pow) raPow0 := fun pins s σ H th rho eta x y v u d e Qa EX I S xo rx ry Rd Re hr => by
  unfold raPow0 at hr
  split at hr
  · exact oa_pow pins s σ H th rho eta x y v u _ _ Qa EX I S xo rx ry Rd Re hr
  · exact hr.elim
def raC0 (f : Int → Int → Bool) : R2a := fun d e rho eta Q EX => match d, e with
  | .int i, .int j => Q (.bl (f i j)) eta
  | _, _ => False
abbrev raLt0 : R2a := raC0 fun i j => decide (i < j)
abbrev raLe0 : R2a := raC0 fun i j => decide (i ≤ j)
abbrev raGt0 : R2a := raC0 fun i j => decide (j < i)
abbrev raGe0 : R2a := raC0 fun i j => decide (j ≤ i)
theorem raC0_of {op : Value → Value → Sem Value} {f : Int → Int → Bool} (h : OpA X W Wx op (raI CT fun i j => .bl (f i j))) : OpA X W Wx op (raC0 f) := fun pins s σ H th rho eta x y v u d e Qa EX I S xo rx ry Rd Re hr => by
  unfold raC0 at hr
  split at hr
  · exact h pins s σ H th rho eta x y v u _ _ Qa EX I S xo rx ry Rd Re ⟨trivial, hr⟩
  · exact hr.elim
theorem oa_lt0 : OpA X W Wx (compareOp .Lt) raLt0 := raC0_of oa_lt
theorem oa_le0 : OpA X W Wx (compareOp .LtE) raLe0 := raC0_of oa_le
theorem oa_gt0 : OpA X W Wx (compareOp .Gt) raGt0 := raC0_of oa_gt
theorem oa_ge0 : OpA X W Wx (compareOp .GtE) raGe0 := raC0_of oa_ge
/-! ### str of an int or a Ratio -/
def raStr (S : SpA) : RNa := fun ds rho eta Q EX => match ds with
  | [.int i] => i.natAbs.log2 < 1920 ∧ Q (.str (toString i)) eta
  | [.rat q] => raCall S [.rat q] rho eta (fun d eta1 => match d with
    | .str y => Q (.str y) eta1
    | _ => False) EX
  | _ => False
theorem ca_str {k : Nat} {f C : Addr} {S : SpA} (hC : W.cl 0 = C) (F : FnR X.prog X.w X.K X.mg X.base (L2.CX X.prog X.w) k f (spOf W S)) (hr : Room (k + 2) X.A) (tk : Takes X Wx) (hs : PySem.W.findIn X.K (.ref C) "__str__" = some (some (.ref f))) (hf : PySem.W.isFn X.K (.ref f) = true) :
    ClA X W Wx (.type "str") (raStr S) := fun pins s σ H th rho eta xs us ds Qa EX I Sr xo rx Rd hr' => by
  unfold raStr at hr'
  split at hr'
  · exact ca_strI pins s σ H th rho eta xs us _ Qa EX I Sr xo rx Rd hr'
  · exact ca_strR hC F hr tk hs hf pins s σ H th rho eta xs us _ Qa EX I Sr xo rx Rd ⟨⟨_, rfl⟩, hr'⟩
  · exact hr'.elim
/-! ### gcd -/
def raGcd : RNa := fun ds rho eta Q EX => match ds with
  | [.int a, .int b] => Q (.int ((Nat.gcd a.natAbs b.natAbs : Nat) : Int)) eta
  | _ => False
theorem ca_gcd : ClA X W Wx (.builtin "math.gcd") raGcd := .of cr_gcd fun σ H th rho eta xs ds Qa EX S R hr => by
  unfold raGcd at hr
  split at hr
  · obtain ⟨v, w, rfl, e1, e2⟩ := R.two
    have e1 : v = _ := e1
    have e2 : w = _ := e2
    subst e1 e2
    exact ⟨_, _, rfl, hereC (d := .int _) S rfl hr⟩
  · exact hr.elim
end
end RF
set_option maxRecDepth 100000
set_option maxHeartbeats 4000000
namespace RF
open PySem PySem.Spec PyProof.Rows L2
/-! ### which class a value has -/
def isInt : D → Option Bool
  | .bl _ => some true
  | .int _ => some true
  | .non => some false
  | .str _ => some false
  | .tup _ => some false
  | .fl _ => some false
  | .fd _ _ => some false
  | .rat _ => some false
  | _ => none
def isBool : D → Option Bool
  | .bl _ => some true
  | .int _ => some false
  | .non => some false
  | .str _ => some false
  | .tup _ => some false
  | .fl _ => some false
  | .fd _ _ => some false
  | .rat _ => some false
  | _ => none
def isRat : D → Option Bool
  | .bl _ => some false
  | .int _ => some false
  | .non => some false
  | .str _ => some false
  | .tup _ => some false
  | .fl _ => some false
  | .fd _ _ => some false
  | .rat _ => some true
  | _ => none
def isIntRat : D → Option Bool
  | .bl _ => some true
  | .int _ => some true
  | .non => some false
  | .str _ => some false
  | .tup _ => some false
  | .fl _ => some false
  | .fd _ _ => some false
  | .rat _ => some true
  | _ => none
def isiB (K : PySem.W.Frag) (C : Addr) (us : List Value) (f : D → Option Bool) : Bool :=
  [(("NoneType" : String), D.non), ("bool", .bl true), ("int", .int 0), ("str", .str Str.empty), ("tuple", .tup []), ("list", .fl []), ("dict", .fd [] [])].all (fun q => decide (PySem.W.kitAny K (.type q.1) us = f q.2)) && decide (PySem.W.kitAny K (.ref C) us = f (.rat 0))
theorem isiB_ok {K : PySem.W.Frag} {C : Addr} {us : List Value} {f : D → Option Bool} (h : isiB K C us f = true)
    (hf : ∀ d b, f d = some b → (d = .non ∨ (∃ x, d = .bl x ∧ f d = f (.bl true)) ∨ (∃ x, d = .int x ∧ f d = f (.int 0)) ∨ (∃ x, d = .str x ∧ f d = f (.str Str.empty)) ∨ (∃ x, d = .tup x ∧ f d = f (.tup [])) ∨ (∃ x, d = .fl x ∧ f d = f (.fl [])) ∨ (∃ x y, d = .fd x y ∧ f d = f (.fd [] [])) ∨ (∃ x, d = .rat x ∧ f d = f (.rat 0)))) : IsiOk K C f us := by
  unfold isiB at h
  simp only [List.all_cons, List.all_nil, Bool.and_true, Bool.and_eq_true, decide_eq_true_eq] at h
  obtain ⟨⟨h1, h2, h3, h4, h5, h6, h7⟩, h8⟩ := h
  intro d b e
  rcases hf d b e with rfl | ⟨x, rfl, q⟩ | ⟨x, rfl, q⟩ | ⟨x, rfl, q⟩ | ⟨x, rfl, q⟩ | ⟨x, rfl, q⟩ | ⟨x, y, rfl, q⟩ | ⟨x, rfl, q⟩
  · exact .inl ⟨_, rfl, by rw [h1]; exact e⟩
  · exact .inl ⟨_, rfl, by rw [h2, ← q]; exact e⟩
  · exact .inl ⟨_, rfl, by rw [h3, ← q]; exact e⟩
  · exact .inl ⟨_, rfl, by rw [h4, ← q]; exact e⟩
  · exact .inl ⟨_, rfl, by rw [h5, ← q]; exact e⟩
  · exact .inl ⟨_, rfl, by rw [h6, ← q]; exact e⟩
  · exact .inl ⟨_, rfl, by rw [h7, ← q]; exact e⟩
  · exact .inr ⟨_, rfl, by rw [h8, ← q]; exact e⟩
theorem isiB_int {K : PySem.W.Frag} {C : Addr} {us : List Value} (h : isiB K C us isInt = true) : IsiOk K C isInt us := isiB_ok h fun d b e => by cases d <;> simp_all [isInt]
theorem isiB_bool {K : PySem.W.Frag} {C : Addr} {us : List Value} (h : isiB K C us isBool = true) : IsiOk K C isBool us := isiB_ok h fun d b e => by cases d <;> simp_all [isBool]
theorem isiB_rat {K : PySem.W.Frag} {C : Addr} {us : List Value} (h : isiB K C us isRat = true) : IsiOk K C isRat us := isiB_ok h fun d b e => by cases d <;> simp_all [isRat]
theorem isiB_intRat {K : PySem.W.Frag} {C : Addr} {us : List Value} (h : isiB K C us isIntRat = true) : IsiOk K C isIntRat us := isiB_ok h fun d b e => by cases d <;> simp_all [isIntRat]
/-! ### exception classes by number -/
def exT (yes no : List Nat) : Nat → Option Bool := fun c => if yes.contains c then some true else if no.contains c then some false else none
def exmB (K : PySem.W.Frag) (W : Wd) (yes no : List Nat) (cv : Value) : Bool := yes.all (fun c => decide (PySem.W.exmOne K (.ref (W.cl c)) cv = some true)) && no.all (fun c => decide (PySem.W.exmOne K (.ref (W.cl c)) cv = some false))
theorem exmB_ok {K : PySem.W.Frag} {W : Wd} {yes no : List Nat} {cv : Value} (h : exmB K W yes no cv = true) : Exm K W (exT yes no) cv := by
  unfold exmB at h
  simp only [Bool.and_eq_true, List.all_eq_true, decide_eq_true_eq] at h
  intro c b e
  unfold exT at e
  split at e
  · rename_i hc
    cases e
    exact h.1 c (by simpa using hc)
  · split at e
    · rename_i hc
      cases e
      exact h.2 c (by simpa using hc)
    · cases e
def excB (K : PySem.W.Frag) (D : Addr) : Bool := decide (PySem.W.findIn K (.ref D) "__getattribute__" = some (some (.builtin "BaseException.__getattribute__"))) && (decide (PySem.W.findIn K (.ref D) "__getattr__" = some none) && (decide (PySem.W.subIn K (.ref D) (.type "BaseException") = some true) && (PySem.W.hasDictIn K D &&
  (decide (PySem.W.findIn K (.ref D) "__class__" = some (some (.builtin "object.__class__"))) && (decide (PySem.W.specialIn K (.builtin "object.__class__") "__get__" = some (some (.builtin "getset_descriptor.__get__"))) && (decide (PySem.W.takesIn K (.builtin "object.__class__") = some true) && decide (PySem.W.mroIn K D (.type "object") = some true)))))))
theorem excB_ok {K : PySem.W.Frag} {D : Addr} (h : excB K D = true) : ExcC K D := by
  unfold excB at h
  simp only [Bool.and_eq_true, decide_eq_true_eq] at h
  obtain ⟨h1, h2, h3, h4, h5, h6, h7, h8⟩ := h
  exact ⟨h1, h2, h3, h4, h5, h6, h7, h8⟩
def isexB (K : PySem.W.Frag) (W : Wd) (yes no : List Nat) (cv : Value) : Bool := yes.all (fun c => excB K (W.cl c) && decide (PySem.W.kitOne K (.ref (W.cl c)) cv = some true)) && no.all (fun c => excB K (W.cl c) && decide (PySem.W.kitOne K (.ref (W.cl c)) cv = some false))
theorem isexB_ok {K : PySem.W.Frag} {W : Wd} {yes no : List Nat} {cv : Value} (h : isexB K W yes no cv = true) : IsEx K W (exT yes no) cv := by
  unfold isexB at h
  simp only [Bool.and_eq_true, List.all_eq_true, decide_eq_true_eq] at h
  intro c b e
  unfold exT at e
  split at e
  · rename_i hc
    cases e
    obtain ⟨x, y⟩ := h.1 c (by simpa using hc)
    exact ⟨excB_ok x, y⟩
  · split at e
    · rename_i hc
      cases e
      obtain ⟨x, y⟩ := h.2 c (by simpa using hc)
      exact ⟨excB_ok x, y⟩
    · cases e
/-- an own exception class without __init__ -/
structure XIn (K : PySem.W.Frag) (C : Addr) : Prop where
  ex : PySem.W.excIn K C HandSPX.veTail "ValueError.__new__" = true
  kp : PySem.W.keepIn K (.ref C) = true
  sub : PySem.W.subIn K (.ref C) (.type "BaseException") = some true
  ty : PySem.W.typeIn K (.ref C) = some (.type "type")
def xinB (K : PySem.W.Frag) (C : Addr) : Bool := PySem.W.excIn K C HandSPX.veTail "ValueError.__new__" && (PySem.W.keepIn K (.ref C) && (decide (PySem.W.subIn K (.ref C) (.type "BaseException") = some true) && decide (PySem.W.typeIn K (.ref C) = some (.type "type"))))
theorem xinB_ok {K : PySem.W.Frag} {C : Addr} (h : xinB K C = true) : XIn K C := by
  unfold xinB at h
  simp only [Bool.and_eq_true, decide_eq_true_eq] at h
  exact ⟨h.1, h.2.1, h.2.2.1, h.2.2.2⟩
theorem XIn.pmk {X : Cx} {C : Addr} (h : XIn X.K C) {x m : Str} {j : Nat} {p p2 pos : Pos} (gC : X.mg x = some (.ref C)) (hg : Gl X x := by rfl) (hdb : (x == ("__debug__" : Str)) = false := by decide) : PMk X (.Call (.Name x p) [.Constant (.str m) j p2] [] pos) (fun _ H Q => Q (.ref C) none H) :=
  pmk_own PySem.F.excBase_ValueError h.ex gC h.kp (raises_own h.sub h.ty) hg hdb
def aJoin (ts : List TEa) : TEa := fun rho eta Q EX => aJs ts Str.empty rho eta (fun out eta1 => Q (.str out) eta1) EX
def aAsg (t : TEa) (g : TGa) : TSa := fun Dn rho eta EX => t rho eta (fun d eta1 => g d rho eta1 Dn.nx) EX
/-! ### Ratio's facts -/
def adrOf : Option (Option Value) → Addr
  | some (some (.ref a)) => a
  | _ => 0
theorem adrOf_eq {o : Option (Option Value)} {a : Addr} (h : o = some (some (.ref a))) : adrOf o = a := by rw [h]; rfl
def isRef : Option (Option Value) → Bool
  | some (some (.ref _)) => true
  | _ => false
theorem isRef_eq {o : Option (Option Value)} (h : isRef o = true) : o = some (some (.ref (adrOf o))) := by
  unfold isRef at h
  split at h
  · rfl
  · cases h
def sclsB (K : PySem.W.Frag) (C : Addr) : Bool := PySem.W.plainGet K C Str.empty && (PySem.W.isClsIn K C && (PySem.W.plainOver K C && decide (PySem.W.findIn K (.ref C) "__setattr__" = some (some (.builtin "object.__setattr__")))))
theorem sclsB_ok {K : PySem.W.Frag} {C : Addr} (h : sclsB K C = true) : SlX.SCls K C := by
  unfold sclsB at h
  simp only [Bool.and_eq_true, decide_eq_true_eq] at h
  exact ⟨h.1, h.2.1, h.2.2.1, h.2.2.2⟩
def slot1B (K : PySem.W.Frag) (C : Addr) (f : Str) (i : Nat) : Bool := let o := PySem.W.findIn K (.ref C) f
  isRef o && (decide (PySem.W.specialIn K (.ref (adrOf o)) "__get__" = some (some (.builtin "member_descriptor.__get__"))) && (decide (PySem.W.takesIn K (.ref (adrOf o)) = some true) && (decide (PySem.W.typeIn K (.ref (adrOf o)) = some (.type "member_descriptor")) && (decide (PySem.W.slotIn K (adrOf o) C = some i) && decide (i < 1000)))))
theorem slot1B_ok {K : PySem.W.Frag} {C : Addr} {f : Str} {i : Nat} (h : slot1B K C f i = true) : SlX.Slot1 K C f (adrOf (PySem.W.findIn K (.ref C) f)) i := by
  unfold slot1B at h
  simp only [Bool.and_eq_true, decide_eq_true_eq] at h
  exact ⟨isRef_eq h.1, h.2.1, h.2.2.1, h.2.2.2.1, h.2.2.2.2.1, h.2.2.2.2.2⟩
def sisiB (K : PySem.W.Frag) (C : Addr) : Bool := decide (PySem.W.findIn K (.ref C) "__class__" = some (some (.builtin "object.__class__"))) && (decide (PySem.W.specialIn K (.builtin "object.__class__") "__get__" = some (some (.builtin "getset_descriptor.__get__"))) && (decide (PySem.W.takesIn K (.builtin "object.__class__") = some true) && decide (PySem.W.mroIn K C (.type "object") = some true)))
theorem sisiB_ok {K : PySem.W.Frag} {C : Addr} (h : sisiB K C = true) : SlX.SIsi K C := by
  unfold sisiB at h
  simp only [Bool.and_eq_true, decide_eq_true_eq] at h
  exact ⟨h.1, h.2.1, h.2.2.1, h.2.2.2⟩
def mkB (K : PySem.W.Frag) (C : Addr) : Bool := PySem.W.makesIn K C && (isRef (PySem.W.findIn K (.ref C) "__init__") && (PySem.W.isFn K (.ref (adrOf (PySem.W.findIn K (.ref C) "__init__"))) && PySem.W.keepIn K (.ref C)))
theorem mkB_ok {K : PySem.W.Frag} {C : Addr} (h : mkB K C = true) : Mk K C (adrOf (PySem.W.findIn K (.ref C) "__init__")) := by
  unfold mkB at h
  simp only [Bool.and_eq_true] at h
  exact ⟨h.1, isRef_eq h.2.1, h.2.2.1, h.2.2.2⟩
def ratB (K : PySem.W.Frag) (C : Addr) : Bool := sclsB K C && (slot1B K C "top" 1 && (slot1B K C "bottom" 0 && (sisiB K C && mkB K C)))
theorem ratB_ok {K : PySem.W.Frag} {C : Addr} (h : ratB K C = true) : RatC K C (adrOf (PySem.W.findIn K (.ref C) "top")) (adrOf (PySem.W.findIn K (.ref C) "bottom")) (adrOf (PySem.W.findIn K (.ref C) "__init__")) := by
  unfold ratB at h
  simp only [Bool.and_eq_true] at h
  exact ⟨sclsB_ok h.1, slot1B_ok h.2.1, slot1B_ok h.2.2.1, sisiB_ok h.2.2.2.1, mkB_ok h.2.2.2.2⟩
end RF
namespace RF
open PySem PySem.Spec PyProof.Rows L2
section
variable {P : Program} {w : World} {K : PySem.W.Frag} {mg : Str → Option Value} {base : Heap} {W : Wd}
theorem nocalm {X : Cx} : X.calm = X.calm := rfl
theorem fnR_of {k : Nat} {f : Addr} {fd : FuncData} {ps : List Str} {S : SpA} (F : FnOk P w K mg base (L2.CX P w) k f fd ps (spOf W S)) (b : Binds K fd ps []) : FnR P w K mg base (L2.CX P w) k f (spOf W S) :=
  (F.raw b .nil).imp fun vs H Q E h => by simpa using h
theorem has_of {nm : Str} {k : Nat} {f : Addr} {fd : FuncData} {ps : List Str} {S : SpA} (F : FnOk P w K mg base (L2.CX P w) k f fd ps (spOf W S)) (b : Binds K fd ps []) (gm : mg nm = some (.ref f)) (kp : PySem.W.keepIn K (.ref f) = true) : Has P w K mg base W nm k S := ⟨f, gm, kp, fnR_of F b⟩
/-- what a def's promise must show of its body's reading -/
def Keeps (n N : Nat) (S : SpA) (t : TSa) : Prop := ∀ ds eta Qa EXa, S ds eta Qa EXa → ds.length = n ∧ t { nx := fun _ eta' => exitQ eta.length Qa .non eta', rt := exitQ eta.length Qa } (startA N ds) eta (exitX eta.length EXa)
theorem ok_by {k : Nat} {x qual : Str} {params : Arguments} {body : List Stmt} {scope : Scope} {dvs : List V} {kws : List (Str × V)} {f : Addr} {fd : FuncData} {N ps : List Str} {S : SpA} {t : TSa} (F : FunD K x qual params body scope dvs kws f fd) (Sc : FnScope N ps scope)
    (hS : Keeps ps.length N.length S t) (hb : ∀ (cdv : Value) (A : Around) (outer : List Env) (s : Shared) (H : Hp) (E : XK) (hr : Room k (A.deeper (envOfC qual scope s.heap.objs.size f cdv))) (hu : (A.deeper (envOfC qual scope s.heap.objs.size f cdv)).units + 64 < cLine)
      (tk : Takes (cxOf (L2.CX P w) P w K mg base N qual scope f cdv A outer s H E) (fun cls d _ H => E cls d H)) (po : PassesOwn (model P w) (A.deeper (envOfC qual scope s.heap.objs.size f cdv)) (cxOf (L2.CX P w) P w K mg base N qual scope f cdv A outer s H E).env (cxOf (L2.CX P w) P w K mg base N qual scope f cdv A outer s H E).xe),
      SsA (cxOf (L2.CX P w) P w K mg base N qual scope f cdv A outer s H E) W (fun cls d _ H => E cls d H) body t) :
    FnOk P w K mg base (L2.CX P w) (k + 1) f fd ps (spOf W S) :=
  fn_abs F Sc (fun ds eta Qa EXa h => (hS ds eta Qa EXa h).1) fun cdv A outer s H E hr => ⟨t, hb cdv A outer s H E hr (by have := hr.un; omega) (takes_of rfl rfl rfl rfl) (passes_of rfl), fun ds eta Qa EXa h => (hS ds eta Qa EXa h).2⟩
/-- the promise of Ratio.__init__ with its default -/
def spRI2 (C ZB : Addr) : Sp := fun vs H Q E => spRI C ZB vs H Q E ∨ spRI C ZB (vs ++ [.int 1]) H Q E
theorem rinit_of {k : Nat} {f C ZB : Addr} {fd : FuncData} {ps : List Str} {ds : List Value} (F : FnOk P w K mg base (L2.CX P w) k f fd ps (spRI C ZB)) (b : Binds K fd ps []) (b1 : Binds K fd ps ds) (hd : Vals [V.int 1] ds) : FnR P w K mg base (L2.CX P w) k f (spRI2 C ZB) := by
  intro A outer s H us vs Q E hr e0 r hs
  rcases hs with hs | hs
  · exact (F.raw b .nil) A outer s H us vs Q E hr e0 r (by simpa using hs)
  · exact (F.raw b1 hd) A outer s H us vs Q E hr e0 r hs
end
end RF
set_option maxRecDepth 100000
set_option maxHeartbeats 4000000
namespace RF
open PySem PySem.Spec PyProof.Rows L2
/-! ### readings, step by step -/
section
variable {Dn : EndsA} {rho : Rho} {eta : List MO} {EX : EXA} {Q : QA} {QL : List D → List MO → Prop} {QB : Bool → List MO → Prop} {t u : TSa} {ta tb : TEa} {tt uu : TTa} {tl : TAa} {d e : D}
theorem i_seq (h : t { Dn with nx := fun r e => u Dn r e EX } rho eta EX) : aSeq t u Dn rho eta EX := h
theorem i_next (h : Dn.nx rho eta) : aNext Dn rho eta EX := h
theorem i_brk (h : Dn.bk rho eta) : aBrk Dn rho eta EX := h
theorem i_cnt (h : Dn.ct rho eta) : aCnt Dn rho eta EX := h
theorem i_drop (h : ta rho eta (fun _ eta1 => Dn.nx rho eta1) EX) : aDrop ta Dn rho eta EX := h
theorem i_ret (h : ta rho eta Dn.rt EX) : aRet ta Dn rho eta EX := h
theorem i_retN (h : Dn.rt .non eta) : aRetN Dn rho eta EX := h
theorem i_if (h : tt rho eta (fun b eta1 => if b = true then t Dn rho eta1 EX else u Dn rho eta1 EX) EX) : aIfS tt t u Dn rho eta EX := h
theorem i_set {i : Nat} (h : ta rho eta (fun d eta1 => Dn.nx (rho.set i (some d)) eta1) EX) : aSet i ta Dn rho eta EX := h
def parQ (i j : Nat) (Dn : EndsA) (rho : Rho) : List D → List MO → Prop := fun ds eta1 => match ds with
  | [d, e] => Dn.nx ((rho.set i (some d)).set j (some e)) eta1
  | _ => False
theorem i_par {i j : Nat} (h : tl rho eta (parQ i j Dn rho) EX) : aPar i j tl Dn rho eta EX := h
theorem i_parQ {i j : Nat} (h : Dn.nx ((rho.set i (some d)).set j (some e)) eta) : parQ i j Dn rho [d, e] eta := h
theorem i_asg {g : TGa} (h : ta rho eta (fun d eta1 => g d rho eta1 Dn.nx) EX) : aAsg ta g Dn rho eta EX := h
theorem i_gn {i : Nat} {R : Rho → List MO → Prop} (h : R (rho.set i (some d)) eta) : aGN i d rho eta R := h
theorem i_gt {n : Nat} {r : TGsa} {ds : List D} {R : Rho → List MO → Prop} (hn : ds.length = n) (h : r ds rho eta R) : aGT n r (.tup ds) rho eta R := ⟨hn, h⟩
theorem i_gsn {R : Rho → List MO → Prop} (h : R rho eta) : aGsN [] rho eta R := h
theorem i_gsc {g : TGa} {r : TGsa} {ds : List D} {R : Rho → List MO → Prop} (h : g d rho eta fun rho1 eta1 => r ds rho1 eta1 R) : aGsC g r (d :: ds) rho eta R := h
theorem i_sub {r : R3a} {to ti tv : TEa} (h : tv rho eta (fun f eta1 => to rho eta1 (fun d eta2 => ti rho eta2 (fun e eta3 => r d e f rho eta3 (fun eta4 => Dn.nx rho eta4) EX) EX) EX) EX) : sSub r to ti tv Dn rho eta EX := h
theorem i_raise {c : Nat} (h : EX ⟨c, []⟩ rho eta) : sRaise c Dn rho eta EX := h
theorem i_tryas {W : Wd} {m : Nat → Option Bool} {i : Nat} {v : TUa} (h : t Dn rho eta (exAs W m i v Dn EX)) : aTryAs W m i t v Dn rho eta EX := h
theorem i_tryonly {W : Wd} {m : Nat → Option Bool} {v : TUa} (h : t Dn rho eta (exOnly W m v Dn EX)) : aTryOnly W m t v Dn rho eta EX := h
theorem i_exas {W : Wd} {m : Nat → Option Bool} {i : Nat} {v : TUa} {ex : Ex} (hm : m ex.c = some true) (h : ∀ a d, dOk ex.vs d = true → v a (.ref (W.cl ex.c)) d (endsN i Dn) (rho.set i (some (.exn a d ex.c ex.vs))) eta (fun _ _ _ => False)) : exAs W m i v Dn EX ex rho eta := by
  unfold exAs; rw [hm]; exact h
theorem i_exasN {W : Wd} {m : Nat → Option Bool} {i : Nat} {v : TUa} {ex : Ex} (hm : m ex.c = some false) (h : EX ex rho eta) : exAs W m i v Dn EX ex rho eta := by
  unfold exAs; rw [hm]; exact h
theorem i_exonly {W : Wd} {m : Nat → Option Bool} {v : TUa} {ex : Ex} (hm : m ex.c = some true) (h : ∀ a d, dOk ex.vs d = true → v a (.ref (W.cl ex.c)) d Dn rho eta (fun _ _ _ => False)) : exOnly W m v Dn EX ex rho eta := by
  unfold exOnly; rw [hm]; exact h
theorem i_exonlyN {W : Wd} {m : Nat → Option Bool} {v : TUa} {ex : Ex} (hm : m ex.c = some false) (h : EX ex rho eta) : exOnly W m v Dn EX ex rho eta := by
  unfold exOnly; rw [hm]; exact h
/-! tests -/
def tstQ (QB : Bool → List MO → Prop) : QA := fun d eta1 => match d with
  | .bl b => QB b eta1
  | _ => False
theorem i_tst (h : ta rho eta (tstQ QB) EX) : aTst ta rho eta QB EX := h
theorem i_tstQ {b : Bool} (h : QB b eta) : tstQ QB (.bl b) eta := h
theorem i_and (h : tt rho eta (fun c eta1 => if c = true then uu rho eta1 QB EX else QB false eta1) EX) : aAnd tt uu rho eta QB EX := h
theorem i_or (h : tt rho eta (fun c eta1 => if c = true then QB true eta1 else uu rho eta1 QB EX) EX) : aOr tt uu rho eta QB EX := h
theorem i_not (h : tt rho eta (fun c eta1 => QB (!c) eta1) EX) : aNot tt rho eta QB EX := h
theorem i_yes (h : QB true eta) : aYes rho eta QB EX := h
theorem i_tt {A B : Prop} (h : A) : if true = true then A else B := h
theorem i_ff {A B : Prop} (h : B) : if false = true then A else B := h
theorem i_ite {b : Bool} {A B : Prop} (h1 : b = true → A) (h2 : b = false → B) : if b = true then A else B := by
  cases b with
  | true => exact h1 rfl
  | false => exact h2 rfl
/-! expressions -/
theorem i_var {i : Nat} (hr : rho[i]? = some (some d)) (h : Q d eta) : aVar i rho eta Q EX := by
  unfold aVar; rw [hr]; exact h
theorem i_c (h : Q d eta) : aC d rho eta Q EX := h
theorem i_op {r : R2a} (h : ta rho eta (fun d eta1 => tb rho eta1 (fun e eta2 => r d e rho eta2 Q EX) EX) EX) : aOp r ta tb rho eta Q EX := h
theorem i_un {r : R1a} (h : ta rho eta (fun d eta1 => r d rho eta1 Q EX) EX) : aUn r ta rho eta Q EX := h
def andQ (tb : TEa) (rho : Rho) (Q : QA) (EX : EXA) : QA := fun d eta1 => match d with
  | .bl c => if c = true then tb rho eta1 Q EX else Q (.bl false) eta1
  | _ => False
def orQ (tb : TEa) (rho : Rho) (Q : QA) (EX : EXA) : QA := fun d eta1 => match d with
  | .bl c => if c = true then Q (.bl true) eta1 else tb rho eta1 Q EX
  | _ => False
def notQ (Q : QA) : QA := fun d eta1 => match d with
  | .bl c => Q (.bl (!c)) eta1
  | _ => False
theorem i_andV (h : ta rho eta (andQ tb rho Q EX) EX) : aAndV ta tb rho eta Q EX := h
theorem i_orV (h : ta rho eta (orQ tb rho Q EX) EX) : aOrV ta tb rho eta Q EX := h
theorem i_notV (h : ta rho eta (notQ Q) EX) : aNotV ta rho eta Q EX := h
theorem i_andQ {c : Bool} (h : if c = true then tb rho eta Q EX else Q (.bl false) eta) : andQ tb rho Q EX (.bl c) eta := h
theorem i_orQ {c : Bool} (h : if c = true then Q (.bl true) eta else tb rho eta Q EX) : orQ tb rho Q EX (.bl c) eta := h
theorem i_notQ {c : Bool} (h : Q (.bl (!c)) eta) : notQ Q (.bl c) eta := h
theorem i_ifE (h : tt rho eta (fun c eta1 => if c = true then ta rho eta1 Q EX else tb rho eta1 Q EX) EX) : aIf tt ta tb rho eta Q EX := h
theorem i_nil (h : QL [] eta) : aNil rho eta QL EX := h
theorem i_cons (h : ta rho eta (fun d eta1 => tl rho eta1 (fun ds eta2 => QL (d :: ds) eta2) EX) EX) : aCons ta tl rho eta QL EX := h
theorem i_tup (h : tl rho eta (fun ds eta1 => okL ds = true ∧ Q (.tup ds) eta1) EX) : aTup tl rho eta Q EX := h
theorem i_fl (h : tl rho eta (fun ds eta1 => okL ds = true ∧ Q (.fl ds) eta1) EX) : aFl tl rho eta Q EX := h
theorem i_lst (h : tl rho eta (fun ds eta1 => okL ds = true ∧ Q (.ref eta1.length) (eta1 ++ [.lst ds])) EX) : aLst tl rho eta Q EX := h
theorem i_ok {ds : List D} {A : Prop} (h : okL ds = true) (a : A) : okL ds = true ∧ A := ⟨h, a⟩
theorem i_call {r : RNa} (h : tl rho eta (fun ds eta1 => r ds rho eta1 Q EX) EX) : aCall r tl rho eta Q EX := h
theorem i_fld {b : Bool} (h : ta rho eta (fldQ b Q) EX) : aFldR b ta rho eta Q EX := h
theorem i_fldT {q : Rat} (h : Q (.int q.num) eta) : fldQ false Q (.rat q) eta := h
theorem i_fldB {q : Rat} (h : Q (.int q.den) eta) : fldQ true Q (.rat q) eta := h
theorem i_fmt (h : ta rho eta (fmtQ Q) EX) : aFmt ta rho eta Q EX := h
theorem i_fmtI {i : Int} (hl : i.natAbs.log2 < 1920) (h : Q (.str (toString i)) eta) : fmtQ Q (.int i) eta := ⟨hl, h⟩
theorem i_fmtS {y : Str} (hl : y.length ≤ sizeLine) (h : Q (.str y) eta) : fmtQ Q (.str y) eta := ⟨hl, h⟩
theorem i_join {ts : List TEa} (h : aJs ts Str.empty rho eta (fun out eta1 => Q (.str out) eta1) EX) : aJoin ts rho eta Q EX := h
def jsQ (ts : List TEa) (acc : Str) (rho : Rho) (QS : Str → List MO → Prop) (EX : EXA) : QA := fun d eta1 => match d with
  | .str y => (acc ++ y).length ≤ sizeLine ∧ aJs ts (acc ++ y) rho eta1 QS EX
  | _ => False
theorem i_jsN {acc : Str} {QS : Str → List MO → Prop} (h : QS acc eta) : aJs [] acc rho eta QS EX := h
theorem i_jsC {ts : List TEa} {acc : Str} {QS : Str → List MO → Prop} (h : ta rho eta (jsQ ts acc rho QS EX) EX) : aJs (ta :: ts) acc rho eta QS EX := h
theorem i_jsQ {ts : List TEa} {acc y : Str} {QS : Str → List MO → Prop} (hl : (acc ++ y).length ≤ sizeLine) (h : aJs ts (acc ++ y) rho eta QS EX) : jsQ ts acc rho QS EX (.str y) eta := ⟨hl, h⟩
theorem i_lc {ti : TIa} {ga : TGa} {te : TEa} {vs : List Nat} (h : ti rho eta (fun ds eta1 => ds.length ≤ 100000 ∧ aLcG ga tt te (wipA rho vs) (fun acc eta2 => Q (.fl acc) eta2) ds [] eta1) EX) : aLc ti ga tt te vs rho eta Q EX := h
def rngQ (R : List D → List MO → Prop) : List D → List MO → Prop := fun ds eta1 => match ds with
  | [.int j] => (-(2 ^ 62) ≤ j ∧ j < 2 ^ 62) ∧ R (rngL 0 j.toNat) eta1
  | _ => False
theorem i_rng1 {R : List D → List MO → Prop} (h : tl rho eta (rngQ R) EX) : aRng1 tl rho eta R EX := h
theorem i_rngQ {R : List D → List MO → Prop} {j : Int} (h0 : -(2 ^ 62) ≤ j ∧ j < 2 ^ 62) (h : R (rngL 0 j.toNat) eta) : rngQ R [.int j] eta := ⟨h0, h⟩
def rngQ2 (R : List D → List MO → Prop) : List D → List MO → Prop := fun ds eta1 => match ds with
  | [.int i, .int j] => (-(2 ^ 62) ≤ i ∧ i < 2 ^ 62 ∧ -(2 ^ 62) ≤ j ∧ j < 2 ^ 62) ∧ R (rngL i (j - i).toNat) eta1
  | _ => False
theorem i_rng2 {R : List D → List MO → Prop} (h : tl rho eta (rngQ2 R) EX) : aRng2 tl rho eta R EX := h
theorem i_rngQ2 {R : List D → List MO → Prop} {i j : Int} (h0 : -(2 ^ 62) ≤ i ∧ i < 2 ^ 62 ∧ -(2 ^ 62) ≤ j ∧ j < 2 ^ 62) (h : R (rngL i (j - i).toNat) eta) : rngQ2 R [.int i, .int j] eta := ⟨h0, h⟩
theorem i_it {R : List D → List MO → Prop} (h : ta rho eta (itemsQ R) EX) : aIt ta rho eta R EX := h
theorem i_items {R : List D → List MO → Prop} {ds : List D} (h : R ds eta) : itemsQ R (.fl ds) eta := h
theorem i_for {ti : TIa} {g : TGa} {tb : TSa} (h : ti rho eta (fun ds eta1 => aLoop g tb Dn EX ds rho eta1) EX) : aFor ti g tb Dn rho eta EX := h
/-! operators -/
theorem i_add {i j : Int} (h : Q (.int (i + j)) eta) : raAdd0 (.int i) (.int j) rho eta Q EX := h
theorem i_addS {x y : Str} (hl : x.length + y.length ≤ sizeLine) (h : Q (.str (x ++ y)) eta) : raAdd0 (.str x) (.str y) rho eta Q EX := ⟨hl, h⟩
theorem i_subI {i j : Int} (h : Q (.int (i - j)) eta) : raSub0 (.int i) (.int j) rho eta Q EX := h
theorem i_mul {i j : Int} (hm : IntMulOk i j) (h : Q (.int (i * j)) eta) : raMul0 (.int i) (.int j) rho eta Q EX := ⟨hm, h⟩
theorem i_div {i j : Int} (hm : CFd i j) (h : Q (.int (i.fdiv j)) eta) : raDiv0 (.int i) (.int j) rho eta Q EX := ⟨hm, h⟩
theorem i_mod {i j : Int} (hm : j ≠ 0) (h : Q (.int (i.fmod j)) eta) : raMod0 (.int i) (.int j) rho eta Q EX := ⟨hm, h⟩
theorem i_pow {i j : Int} (hm : CPow i j) (h : Q (.int (i ^ j.toNat)) eta) : raPow0 (.int i) (.int j) rho eta Q EX := ⟨hm, h⟩
theorem i_cmp {f : Int → Int → Bool} {i j : Int} (h : Q (.bl (f i j)) eta) : raC0 f (.int i) (.int j) rho eta Q EX := h
theorem i_eq (h1 : D.pl 60 (rsl eta d) = true) (h2 : D.pl 60 (rsl eta e) = true) (h : Q (.bl (D.eqd (rsl eta d) (rsl eta e))) eta) : raEq d e rho eta Q EX := ⟨h1, h2, h⟩
theorem i_eqI {i j : Int} (h : Q (.bl (decide (i = j))) eta) : raEq (.int i) (.int j) rho eta Q EX := ⟨rfl, rfl, by
  have e : D.eqd (.int i) (.int j) = decide (i = j) := by
    show (i == j) = _
    rw [Bool.eq_iff_iff]; simp
  show Q (.bl (D.eqd (.int i) (.int j))) eta
  rw [e]; exact h⟩
theorem i_neI {i j : Int} (h : Q (.bl (decide (i ≠ j))) eta) : raNe (.int i) (.int j) rho eta Q EX := ⟨rfl, rfl, by
  have e : (!D.eqd (.int i) (.int j)) = decide (i ≠ j) := by
    show (!(i == j)) = _
    rw [Bool.eq_iff_iff]; simp
  show Q (.bl (!D.eqd (.int i) (.int j))) eta
  rw [e]; exact h⟩
theorem i_ne (h1 : D.pl 60 (rsl eta d) = true) (h2 : D.pl 60 (rsl eta e) = true) (h : Q (.bl (!D.eqd (rsl eta d) (rsl eta e))) eta) : raNe d e rho eta Q EX := ⟨h1, h2, h⟩
theorem i_is {b : Bool} (h : Q (.bl (if b then !d.isN else d.isN)) eta) : raIs b d .non rho eta Q EX := h
theorem i_neg {i : Int} (h : Q (.int (-i)) eta) : raNeg (.int i) rho eta Q EX := h
theorem i_ixF {ds : List D} {i : Int} {x : D} (hx : L2.atI ds i = some x) (h : Q x eta) : raIxS (.fl ds) (.int i) rho eta Q EX := by
  unfold raIxS; simp only [hx]; exact h
theorem i_ixT {ds : List D} {i : Int} {x : D} (hx : L2.atI ds i = some x) (h : Q x eta) : raIxS (.tup ds) (.int i) rho eta Q EX := by
  unfold raIxS; simp only [hx]; exact h
theorem i_ixR {n : Nat} {ds : List D} {i : Int} {x : D} (hn : eta[n]? = some (.lst ds)) (hx : L2.atI ds i = some x) (h : Q x eta) : raIxS (.ref n) (.int i) rho eta Q EX := by
  unfold raIxS; simp only [hn, hx]; exact h
theorem i_setL {n j : Nat} {ds : List D} {i : Int} {f : D} {R : List MO → Prop} (hf : f.im = true) (hn : eta[n]? = some (.lst ds)) (hx : ixN ds.length i = some j) (h : R (eta.set n (.lst (ds.set j f)))) : raSetL (.ref n) (.int i) f rho eta R EX := by
  refine ⟨hf, ?_⟩
  dsimp only
  simp only [hn, hx]; exact h
/-! built-ins -/
theorem i_abs {i : Int} (h : Q (.int (if i < 0 then -i else i)) eta) : raAbs [.int i] rho eta Q EX := h
theorem i_intI {i : Int} (h : Q (.int i) eta) : raInt [.int i] rho eta Q EX := h
theorem i_intB {b : Bool} (h : Q (.int (if b then 1 else 0)) eta) : raInt [.bl b] rho eta Q EX := h
theorem i_boolI {i : Int} (h : Q (.bl (i != 0)) eta) : raBool [.int i] rho eta Q EX := h
theorem i_boolB {b : Bool} (h : Q (.bl b) eta) : raBool [.bl b] rho eta Q EX := h
theorem i_lenF {ds : List D} (h : Q (.int ds.length) eta) : raLen [.fl ds] rho eta Q EX := h
theorem i_lenT {ds : List D} (h : Q (.int ds.length) eta) : raLen [.tup ds] rho eta Q EX := h
theorem i_lenR {n : Nat} {ds : List D} (hn : eta[n]? = some (.lst ds)) (h : Q (.int ds.length) eta) : raLen [.ref n] rho eta Q EX := by
  unfold raLen D.len; simp only [hn]; exact h
theorem i_sum {xs : List D} {ns : List Int} (hx : intsD xs = some ns) (h : Q (.int ns.sum) eta) : raSum [.fl xs] rho eta Q EX := by
  unfold raSum; simp only [hx]; exact h
theorem i_listF {xs : List D} (h : Q (.fl xs) eta) : raListF [.fl xs] rho eta Q EX := h
theorem i_listFR {n : Nat} {xs : List D} (hn : eta[n]? = some (.lst xs)) (h : Q (.fl xs) eta) : raListF [.ref n] rho eta Q EX := by
  unfold raListF seqD; simp only [hn]; exact h
theorem i_gcd {i j : Int} (h : Q (.int ((Nat.gcd i.natAbs j.natAbs : Nat) : Int)) eta) : raGcd [.int i, .int j] rho eta Q EX := h
theorem i_strI {S : SpA} {i : Int} (hl : i.natAbs.log2 < 1920) (h : Q (.str (toString i)) eta) : raStr S [.int i] rho eta Q EX := ⟨hl, h⟩
theorem i_strI0 {i : Int} (hl : i.natAbs.log2 < 1920) (h : Q (.str (toString i)) eta) : raStrI [.int i] rho eta Q EX := ⟨hl, h⟩
theorem i_isi {c : D} {f : D → Option Bool} {b : Bool} (hf : f d = some b) (h : Q (.bl b) eta) : raIsi c f [d, c] rho eta Q EX := by
  refine ⟨rfl, ?_⟩
  rw [hf]; exact h
theorem i_isE {W : Wd} {a : Addr} {cls : Value} {dx : Option Addr} {m : Nat → Option Bool} {c : D} {k : Nat} {vs : List D} {b : Bool} (hc : cls = .ref (W.cl k)) (hm : m k = some b) (h : Q (.bl b) eta) : raIsE W a cls dx m c [.exn a dx k vs, c] rho eta Q EX := by
  refine ⟨rfl, rfl, rfl, hc, ?_⟩
  rw [hm]; exact h
theorem i_rat1 {zb : Nat} {i : Int} (h : Q (.rat (i : Rat)) eta) : raRat zb [.int i] rho eta Q EX := h
theorem i_rat0 {zb : Nat} {i j : Int} (hj : j = 0) (h : EX ⟨zb, []⟩ rho eta) : raRat zb [.int i, .int j] rho eta Q EX := by
  unfold raRat; simp only [hj, if_true]; exact h
theorem i_rat {zb : Nat} {i j : Int} (hj : j ≠ 0) (hd : DivOk j) (h : Q (.rat (Rat.divInt i j)) eta) : raRat zb [.int i, .int j] rho eta Q EX := by
  unfold raRat; simp only [hj, if_false]; exact ⟨hd, h⟩
/-! calls of defs -/
theorem wbA_nil (sub : List MO) : ∀ (n : Nat) (eta : List MO), wbA [] sub n eta = eta ++ sub
  | n, [] => rfl
  | n, mo :: r => by
    show (match fnd [] n with | some i => (sub[i]?).getD .gone | none => mo) :: wbA [] sub (n + 1) r = _
    rw [wbA_nil sub (n + 1) r]; rfl
theorem refs_im {ds : List D} (h : ds.all D.im = true) : refsOf ds = [] := by
  induction ds with
  | nil => rfl
  | cons d ds ih =>
    simp only [List.all_cons, Bool.and_eq_true] at h
    have ih := ih h.2
    cases d <;> first | exact ih | exact absurd h.1 Bool.false_ne_true
theorem ren_im {rs : List Nat} {ds : List D} (h : ds.all D.im = true) : ds.map (renD rs) = ds := by
  induction ds with
  | nil => rfl
  | cons d ds ih =>
    simp only [List.all_cons, Bool.and_eq_true] at h
    rw [List.map_cons, ih h.2]
    cases d <;> first | rfl | exact absurd h.1 Bool.false_ne_true
theorem bkD_im {rs : List Nat} {k : Nat} (h : d.im = true) : bkD rs k d = d := by
  cases d <;> first | rfl | exact absurd h Bool.false_ne_true
/-- without objects among the arguments, none new -/
def cQ0 (Q : QA) (eta : List MO) : QA := fun d sub => sub = [] ∧ d.im = true ∧ Q d eta
def cX0 (EX : EXA) (rho : Rho) (eta : List MO) : Ex → List MO → Prop := fun ex sub => sub = [] ∧ EX ex rho eta
/-- monotone promises -/
def SpA.Mono (S : SpA) : Prop := ∀ ds eta (Q Q' : QA) (E E' : Ex → List MO → Prop), (∀ d e, Q d e → Q' d e) → (∀ x e, E x e → E' x e) → S ds eta Q E → S ds eta Q' E'
theorem i_fn0 {S : SpA} {ds : List D} (hm : S.Mono) (hi : ds.all D.im = true) (h : S ds [] (cQ0 Q eta) (cX0 EX rho eta)) : raCall S ds rho eta Q EX := by
  unfold raCall
  rw [refs_im hi]
  refine ⟨rfl, ?_⟩
  rw [ren_im hi]
  refine hm _ _ _ _ _ _ ?_ ?_ h
  · rintro d sub ⟨rfl, h1, h2⟩
    exact ⟨rfl, by rw [bkD_im h1, wbA_nil, List.append_nil]; exact h2⟩
  · rintro ex sub ⟨rfl, h⟩
    exact ⟨rfl, by rw [wbA_nil, List.append_nil]; exact h⟩
/-- .. one new object, that is the answer -/
def cQN (Q : QA) (eta : List MO) : QA := fun d sub => d = .ref 0 ∧ ∃ mo, sub = [mo] ∧ mo.cl = true ∧ Q (.ref eta.length) (eta ++ [mo])
theorem i_fnN {S : SpA} {ds : List D} (hm : S.Mono) (hi : ds.all D.im = true) (h : S ds [] (cQN Q eta) (cX0 EX rho eta)) : raCall S ds rho eta Q EX := by
  unfold raCall
  rw [refs_im hi]
  refine ⟨rfl, ?_⟩
  rw [ren_im hi]
  refine hm _ _ _ _ _ _ ?_ ?_ h
  · rintro d sub ⟨rfl, mo, rfl, h1, h2⟩
    refine ⟨by simp [clA, h1], ?_⟩
    rw [wbA_nil]
    exact h2
  · rintro ex sub ⟨rfl, h⟩
    exact ⟨rfl, by rw [wbA_nil, List.append_nil]; exact h⟩
/-- one object, first among the arguments -/
def cQ1 (n : Nat) (Q : QA) (eta : List MO) : QA := fun d sub => ∃ mo, sub = [mo] ∧ mo.cl = true ∧ d.im = true ∧ Q d (eta.set n mo)
def cX1 (n : Nat) (EX : EXA) (rho : Rho) (eta : List MO) : Ex → List MO → Prop := fun ex sub => ∃ mo, sub = [mo] ∧ mo.cl = true ∧ EX ex rho (eta.set n mo)
theorem wbA_one {r : Nat} {mo : MO} : ∀ (eta : List MO) (n : Nat), wbA [r] [mo] n eta = if n ≤ r then eta.set (r - n) mo else eta
  | [], n => by split <;> rfl
  | x :: eta, n => by
    show (match fnd [r] n with | some i => ([mo][i]?).getD .gone | none => x) :: wbA [r] [mo] (n + 1) eta = _
    rw [wbA_one eta (n + 1)]
    by_cases h : r = n
    · subst h
      simp [fnd]
      omega
    · have hf : fnd [r] n = none := by simp [fnd, h]
      rw [hf]
      by_cases h2 : n ≤ r
      · have h3 : n + 1 ≤ r := by omega
        rw [if_pos h2, if_pos h3, show r - n = (r - (n + 1)) + 1 by omega]
        rfl
      · rw [if_neg h2, if_neg (by omega)]
theorem refs_ref {n : Nat} {ds : List D} (hi : ds.all D.im = true) : refsOf (.ref n :: ds) = [n] := by
  show n :: refsOf ds = [n]
  rw [refs_im hi]
theorem i_fn1 {S : SpA} {n : Nat} {mo : MO} {ds : List D} (hm : S.Mono) (hi : ds.all D.im = true) (hn : eta[n]? = some mo) (hc : mo.cl = true) (h : S (.ref 0 :: ds) [mo] (cQ1 n Q eta) (cX1 n EX rho eta)) : raCall S (.ref n :: ds) rho eta Q EX := by
  unfold raCall
  rw [refs_ref hi]
  refine ⟨by simp [okC, ndB, hn, hc], ?_⟩
  have e1 : (D.ref n :: ds).map (renD [n]) = .ref 0 :: ds := by
    rw [List.map_cons, ren_im hi]
    simp [renD, fnd]
  rw [e1]
  simp only [List.map_cons, List.map_nil, hn, Option.getD_some]
  refine hm _ _ _ _ _ _ ?_ ?_ h
  · rintro d sub ⟨mo', rfl, h0, h1, h2⟩
    refine ⟨by simp [clA, h0], ?_⟩
    rw [bkD_im h1, wbA_one, if_pos (Nat.zero_le _)]
    exact h2
  · rintro ex sub ⟨mo', rfl, h0, h⟩
    refine ⟨by simp [clA, h0], ?_⟩
    rw [wbA_one, if_pos (Nat.zero_le _)]
    exact h
/-! str of a Ratio -/
def strQ (Q : QA) : QA := fun d eta1 => match d with
  | .str y => Q (.str y) eta1
  | _ => False
theorem i_strR {S : SpA} {q : Rat} (h : raCall S [.rat q] rho eta (strQ Q) EX) : raStr S [.rat q] rho eta Q EX := h
theorem i_strQ {y : Str} (h : Q (.str y) eta) : strQ Q (.str y) eta := h
/-! loops -/
theorem loop_i {g : TGa} {tb : TSa} (I : List D → Rho → List MO → Prop) {ds : List D} (start : I ds rho eta)
    (step : ∀ d ds rho eta, I (d :: ds) rho eta → ∀ K : Rho → List MO → Prop, (∀ r e, I ds r e → K r e) → g d rho eta fun r e => tb { nx := K, ct := K, bk := Dn.nx, rt := Dn.rt } r e EX)
    (done : ∀ r e, I [] r e → Dn.nx r e) : aLoop g tb Dn EX ds rho eta := by
  induction ds generalizing rho eta with
  | nil => exact done _ _ start
  | cons d ds ih => exact step d ds rho eta start _ fun r e h => ih h
theorem wh_i {c : TTa} {tb : TSa} (I : Nat → Rho → List MO → Prop) (n : Nat) (start : I n rho eta) (zero : ∀ r e, ¬ I 0 r e)
    (step : ∀ m r e, I (m + 1) r e → ∀ K : Rho → List MO → Prop, (∀ r e, I m r e → K r e) → c r e (fun b e1 => if b = true then tb { nx := K, ct := K, bk := Dn.nx, rt := Dn.rt } r e1 EX else Dn.nx r e1) EX) : aWh c tb Dn rho eta EX := by
  refine ⟨n, ?_⟩
  induction n generalizing rho eta with
  | zero => exact (zero _ _ start).elim
  | succ m ih => exact step m rho eta start _ fun r e h => ih h
theorem lcg_i {ga : TGa} {te : TEa} {Q : List D → List MO → Prop} (I : List D → List D → List MO → Prop) {ds acc : List D} (start : I ds acc eta)
    (step : ∀ d ds acc eta, I (d :: ds) acc eta → ∀ K : List D → List MO → Prop, (∀ a e, I ds a e → K a e) → ga d rho eta fun r1 e1 => tt r1 e1 (fun b e2 => if b = true then te r1 e2 (fun y e3 => y.im = true ∧ K (acc ++ [y]) e3) (fun _ _ _ => False) else K acc e2) (fun _ _ _ => False))
    (done : ∀ a e, I [] a e → Q a e) : aLcG ga tt te rho Q ds acc eta := by
  induction ds generalizing acc eta with
  | nil => exact done _ _ start
  | cons d ds ih => exact step d ds acc eta start _ fun a e h => ih h
end
end RF
namespace RF
theorem i_pos {b : Bool} {A B : Prop} (h : b = true) (a : A) : if b = true then A else B := by rw [if_pos h]; exact a
theorem i_negB {b : Bool} {A B : Prop} (h : b = false) (a : B) : if b = true then A else B := by rw [h]; exact a
theorem i_posD {p : Prop} [Decidable p] {A B : Prop} (h : p) (a : A) : if decide p = true then A else B := by rw [if_pos (by simpa using h)]; exact a
theorem i_negD {p : Prop} [Decidable p] {A B : Prop} (h : ¬ p) (a : B) : if decide p = true then A else B := by rw [if_neg (by simpa using h)]; exact a
theorem i_iteD {p : Prop} [Decidable p] {A B : Prop} (h1 : p → A) (h2 : ¬ p → B) : if decide p = true then A else B := by
  by_cases h : p
  · exact i_posD h (h1 h)
  · exact i_negD h (h2 h)
/-- if c: x = e -/
theorem i_ifset {b : Bool} {i : Nat} {ta : TEa} {Dn : EndsA} {rho : Rho} {eta : List MO} {EX : EXA} {y : D} (P : D → Prop) (hy : rho[i]? = some (some y)) (h1 : b = true → ∃ x, P x ∧ ∀ R : QA, R x eta → ta rho eta R EX) (h2 : b = false → P y) (h : ∀ z, P z → Dn.nx (rho.set i (some z)) eta) :
    if b = true then aSet i ta Dn rho eta EX else aNext Dn rho eta EX := by
  cases b with
  | true =>
    obtain ⟨x, hx, k⟩ := h1 rfl
    exact k _ (h x hx)
  | false =>
    have e : rho.set i (some y) = rho := by
      obtain ⟨hi, q⟩ := List.getElem?_eq_some_iff.mp hy
      apply List.ext_getElem?
      intro j
      by_cases hj : i = j
      · subst hj; rw [List.getElem?_set_self hi, hy]
      · rw [List.getElem?_set_ne hj]
    have := h y (h2 rfl)
    rw [e] at this
    exact this
end RF
namespace RF
theorem i_nt {A B : Prop} (h : B) : if (!true) = true then A else B := h
theorem i_nf {A B : Prop} (h : A) : if (!false) = true then A else B := h
end RF
namespace RF
theorem i_ne_same {d : D} {rho : Rho} {eta : List MO} {Q : QA} {EX : EXA} (h1 : D.pl 60 (rsl eta d) = true) (he : D.eqd (rsl eta d) (rsl eta d) = true) (h : Q (.bl false) eta) : raNe d d rho eta Q EX := i_ne h1 h1 (by rw [he]; exact h)
theorem i_eq_same {d : D} {rho : Rho} {eta : List MO} {Q : QA} {EX : EXA} (h1 : D.pl 60 (rsl eta d) = true) (he : D.eqd (rsl eta d) (rsl eta d) = true) (h : Q (.bl true) eta) : raEq d d rho eta Q EX := i_eq h1 h1 (by rw [he]; exact h)
end RF
set_option maxRecDepth 100000
set_option maxHeartbeats 4000000
namespace RF
open PySem PySem.Spec PyProof.Rows L2
/-! ### sizes -/
theorem log2_lt_of {n k : Nat} (hk : 0 < k) (h : n < 2 ^ k) : n.log2 < k := by
  by_cases h0 : n = 0
  · subst h0; simpa using hk
  · exact (Nat.log2_lt h0).mpr h
theorem big_log {n : Nat} (h : n < 10000000000000000000000000000000000000000000000000000000000000000) : n.log2 < 1920 := by
  have : n.log2 < 214 := log2_lt_of (by decide) (Nat.lt_of_lt_of_le h (by decide))
  omega
theorem divOk_of {j : Int} (h : j.natAbs < 10000000000000000000000000000000000000000000000000000000000000000) : DivOk j := by
  have := big_log h
  unfold DivOk; omega
theorem cfd_of {i j : Int} (h : j ≠ 0) (hj : j.natAbs < 10000000000000000000000000000000000000000000000000000000000000000) : CFd i j :=
  ⟨h, PyProof.noPylong_of_log2 (by have := big_log hj; omega)⟩
theorem mul_l {i j : Int} (h1 : -18446744073709551616 < i) (h2 : i < 18446744073709551616) : IntMulOk i j := CMul.ok (.inl ⟨h1, h2⟩)
theorem mul_r {i j : Int} (h1 : -18446744073709551616 < j) (h2 : j < 18446744073709551616) : IntMulOk i j := CMul.ok (.inr ⟨h1, h2⟩)
/-! ### texts -/
theorem str_ok (s : String) : PyData.strOk (Str.ofString s) = true := by
  rw [Str.ofString_eq_toList]
  unfold PyData.strOk
  simp only [List.all_toArray, List.all_map, List.all_eq_true, Function.comp, decide_eq_true_eq]
  intro c _
  have h := c.valid
  show c.val.toNat < 1114112
  rcases h with h | ⟨_, h⟩
  · have : c.val.toNat < 55296 := h
    omega
  · exact h
theorem str_ok_app {a b : Str} (h1 : PyData.strOk a = true) (h2 : PyData.strOk b = true) : PyData.strOk (a ++ b) = true := by
  unfold PyData.strOk at h1 h2 ⊢
  show (a.cps ++ b.cps).all _ = true
  rw [Array.all_append, h1, h2]; rfl
theorem str_len_app (a b : Str) : (a ++ b).length = a.length + b.length := by
  show (a.cps ++ b.cps).size = _
  rw [Array.size_append]; rfl
theorem int_len {a : Int} (h : a.natAbs.log2 < 1920) : (Str.ofString (toString a)).length ≤ 1921 := by
  rw [PySem.ofString_length]
  exact int_text_length_le (by decide) h
theorem sizeLine_big : 1000000 ≤ sizeLine := by rw [sizeLine_eq]; decide
/-! ### calls without objects: the promise of a pure function -/
/-- S takes the data of C to F -/
def pureS (C : List D → Prop) (F : List D → D) : SpA := fun ds eta Q _ => C ds ∧ eta = [] ∧ Q (F ds) []
end RF
set_option maxRecDepth 100000
set_option maxHeartbeats 4000000
namespace RF
open PySem PySem.Spec PyProof.Rows L2
/-! ### the Hook: facts of the defs, a Bool of K; K holds no list -/
def isLstO (o : Obj) : Bool := match o.cls with
  | .type c => c == "list"
  | _ => false
def frL (g : Addr → Option Obj) (as : List Addr) : PySem.W.Frag := (He.frG g as).filter fun q => !isLstO q.2
def NoLst (K : PySem.W.Frag) : Prop := ∀ a o, K.lookup a = some o → o.cls ≠ .type "list"
theorem memG {g : Addr → Option Obj} {as : List Addr} {a : Addr} {o : Obj} (h : (a, o) ∈ He.frG g as) : g a = some o := by
  unfold He.frG at h
  obtain ⟨b, _, e⟩ := List.mem_filterMap.mp h
  cases hb : g b with
  | none => rw [hb] at e; cases e
  | some u =>
    rw [hb] at e
    have e2 : (b, u) = (a, o) := Option.some.inj e
    injection e2 with e3 e4
    rw [← e3, ← e4]
    exact hb
theorem memL {a : Addr} {o : Obj} : ∀ {l : List (Addr × Obj)}, l.lookup a = some o → (a, o) ∈ l
  | [], h => by cases h
  | (b, u) :: r, h => by
    have h2 : (match a == b with | true => some u | false => r.lookup a) = some o := h
    cases q : (a == b) with
    | true =>
      rw [q] at h2
      have e : u = o := Option.some.inj h2
      rw [beq_iff_eq.mp q, e]
      exact List.mem_cons_self
    | false =>
      rw [q] at h2
      exact List.mem_cons_of_mem _ (memL h2)
theorem frL_in {as : List Addr} {h : Heap} : (frL h.get? as).In h := fun a o e => memG (List.mem_filter.mp (memL e)).1
theorem frL_no {g : Addr → Option Obj} {as : List Addr} : NoLst (frL g as) := fun a o e z => by
  have h := (List.mem_filter.mp (memL e)).2
  have h2 : isLstO o = true := by unfold isLstO; rw [z]; rfl
  simp only [h2] at h
  cases h
abbrev AlF : Type := He.AlD × Bool
def obsF (n : Nat) (fn : List He.DefD) (ex : PySem.W.Frag → Bool) (g : Addr → Option Obj) : AlF := (He.obsD [] fn (frL g (He.asD g n)), ex (frL g (He.asD g n)))
def valF (fn : List He.DefD) : AlF := (He.valD fn, true)
structure SaysF (fn : List He.DefD) (ex : PySem.W.Frag → Bool) (K : PySem.W.Frag) : Prop where
  d : He.SaysD [] fn K
  ex : ex K = true
  no : NoLst K
def hookF (n : Nat) (fn : List He.DefD) (ex : PySem.W.Frag → Bool) : PySem.W.Hook where
  α := AlF
  obs := fun s => obsF n fn ex s.heap.get?
  val := fun _ => valF fn
  says := fun _ h => ∃ K : PySem.W.Frag, K.In h ∧ SaysF fn ex K
  of := fun _ _ e => ⟨_, frL_in, congrArg (fun z : AlF => z.1) e, congrArg (fun z : AlF => z.2) e, frL_no⟩
  keeps := fun _ _ _ ⟨K, hK, c⟩ k => ⟨K, PySem.W.Frag.In.keeps hK k, c⟩
theorem obsF_eq {n : Nat} {fn : List He.DefD} {ex : PySem.W.Frag → Bool} {g : Addr → Option Obj} {s : Shared} (h : ∀ a, g a = s.heap.get? a) : obsF n fn ex g = (hookF n fn ex).obs s := by
  have e : g = s.heap.get? := funext h
  rw [e] <;> rfl
/-! ### classes by number -/
def clsNames : List Str := ["Ratio", "FillError", "ZeroBottom", "ZeroDivisor", "InvalidFactor", "InvalidWork", "EmptyDemand", "DeskFull", "GoodError", "InvalidAmount", "Shortage", "FlatMeasure", "UnknownGood", "AgentError", "UnknownAgent", "RefusedDemand", "PromiseAtRisk", "Bundle", "Measure", "Filling", "PromiseDesk"]
def fldNames : Nat → List Str := fun _ => []
def WK (K : PySem.W.Frag) : Wd := ⟨fun n => He.ga K (clsNames.getD n Str.empty), fldNames⟩
theorem ma_eq {K : PySem.W.Frag} {C : Addr} {m : Str} : He.ma K C m = adrOf (PySem.W.findIn K (.ref C) m) := by
  unfold He.ma adrOf
  split <;> simp_all
def gloB (K : PySem.W.Frag) (x : Str) (v : Value) : Bool := decide (PySem.W.nsIn K mainGlobals x = some (some v))
def freeB (K : PySem.W.Frag) (x : Str) : Bool := decide (PySem.W.nsIn K mainGlobals x = some none)
section
variable {K : PySem.W.Frag} {h : Heap} {mg : Str → Option Value}
theorem gloB_ok (X : K.In h) (G : h.Ns mainGlobals mg) {x : Str} {v : Value} (c : gloB K x v = true) : mg x = some v := PySem.W.mg_of X G (of_decide_eq_true c)
theorem freeB_ok (X : K.In h) (G : h.Ns mainGlobals mg) {x : Str} (c : freeB K x = true) : mg x = none := PySem.W.mg_none_of X G (of_decide_eq_true c)
end
/-! ### the law -/
theorem reps_ints {W : Wd} {H : Hp} : ∀ ns : List Int, Reps W H (ns.map .int) (ns.map V.int)
  | [] => rfl
  | n :: ns => ⟨_, _, rfl, rfl, reps_ints ns⟩
theorem law_sp {W : Wd} {K : PySem.W.Frag} {S : SpA} {ns : List Int} {H : Hp} {a : Addr} (no : NoLst K) (hS : S [.fl (ns.map .int)] [] (fun d _ => d = .bl true) fun _ _ => False) (hO : Only H) (hq : SqL K H a (ns.map V.int)) :
    spOf W S [.ref a] H (fun v _ => v = .bl true) fun _ _ _ => False := by
  have key : ∃ o, H a = some (.frz o (.lst (ns.map V.int))) := by
    rcases hq with (h | ⟨o, h⟩) | ⟨o, its, n, h1, h2, _⟩
    · rcases hO a with z | ⟨_, _, z⟩
      · rw [h] at z; cases z
      · rw [h] at z; cases z
    · exact ⟨o, h⟩
    · exact absurd h2 (no a o h1)
  obtain ⟨o, h⟩ := key
  refine ⟨[], [.fl (ns.map .int)], [], _, _, ⟨rfl, List.nodup_nil, fun n mo e => by simp at e⟩, ⟨_, _, rfl, ⟨a, o, _, rfl, h, reps_ints ns⟩, rfl⟩, hS, ?_, fun _ _ _ _ _ _ _ _ _ z => z⟩
  rintro th' H' v d eta' g S' R rfl
  exact R
theorem walk_F {l : PySem.W.OpenLaw} {n k : Nat} {q : Program} {loose : List Str} {XP : (Str → Option Value) → Heap → Prop} {YP : World → Heap → Prop} {d : DefRec} {x : Str} {S : SpA}
    (hn : l.most = some n) (hn2 : n ≤ sizeLine) (hdf : d.params.defaults = []) (hr : Room k callerA) (hS : ∀ ns : List Int, ns.length ≤ n → S [.fl (ns.map .int)] [] (fun d _ => d = .bl true) fun _ _ => False)
    (F : ∀ (w : World) (mg : Str → Option Value) (fa : Addr) (h : Heap), YP w h → h.Ns mainGlobals mg → mg d.name = some (.ref fa) →
      ∃ (K : PySem.W.Frag) (fd : FuncData) (W : Wd), K.In h ∧ NoLst K ∧ (∀ (s : Shared) (u : Value), BindsTo s fd ⟨[u], []⟩ [(x, u)]) ∧
        ∀ base : Heap, K.In base → base.Ns mainGlobals mg → FnOk l.prog w K mg base (L2.CX l.prog w) k fa fd [x] (spOf W S)) :
    PySem.W.WalkO q loose XP YP l.row.toRowW d [] (fun f vs => PySem.call f vs) := by
  refine Att.attach_call hn hdf fun w s₀ s₁ mg mb fa o pm cd doc a vs ns G Y ho hd hcd hmg hobj hints hlen hg => ?_
  obtain ⟨K, fd, W, KX, no, hb, hF⟩ := F w mg fa _ Y G.T.g hmg
  exact law_call KX G.T.g G.T.b G.T.builtins G.T.nolimit hg hobj hints (Nat.le_trans hlen hn2) hr hF hb (fun H hO hq => law_sp no (hS ns hlen) hO hq) fun H e s' h => by
    obtain ⟨_, _, _, _, _, _, _, _, _, _, _, _, z⟩ := h
    exact z
end RF
set_option maxRecDepth 100000
set_option maxHeartbeats 4000000
namespace RF
open PySem PySem.Spec PyProof.Rows L2
section
variable {prog : Program} {w : World} {A : Around} {E : Value → Shared → Prop} {s : Shared} {K : PySem.W.Frag} {x C f : Addr} {h₀ : Heap} {L : Addr} {m : Str → Option Value} {ox : Obj} {od : Option Obj}
def plainO (o : Obj) : Bool := match o.data with
  | .prim _ => false
  | _ => true
theorem asInt_ref {M : Model} {Q : Option Int → Shared → Prop} (h : s.heap.get? x = some ox) (hp : plainO ox = true) (q : Q none s) : wpAny M A (asInt? (.ref x)) Q E s := by
  unfold asInt?
  refine wpAny_bind (wpAny_load h ?_)
  unfold plainO at hp
  split
  · rename_i e; rw [e] at hp; cases hp
  · exact wpAny_pure q
theorem intBinary_ref {M : Model} {name : String} {g : Int → Int → Sem Fin} {r : Bool} {i : Int} {t : Tok} {Q : Fin → Shared → Prop} (h : s.heap.get? x = some ox) (hp : plainO ox = true) (q : Q (.done (.ret .notImplemented)) s) :
    wpAny M A (Builtin.Int.intBinary name g r ⟨[.int i t, .ref x], []⟩) Q E s := by
  unfold Builtin.Int.intBinary
  refine wpAny_bind (wpAny_of_eq (a := ((Value.int i t : Value), [Value.ref x])) (by first | rfl | (simp only [slotArgs]; rfl)) ?_)
  refine wpAny_bind (wpAny_of_eq (a := i) (by rfl) ?_)
  refine wpAny_bind (asInt_ref h hp ?_)
  exact wpAny_bind (wpAny_rule (wpAny_pure q))

/-- what an operator of the ints must have, so that an instance at its right is asked -/
structure IntOp (op : Operator) (idl : String) (B : Builtin) : Prop where
  fills : fillsNumberSlot (.type "int") op.info.2 = pure true
  slot : Slot "int" (dunder op.info.2) idl
  entry : entryFor table idl = some B
  args : ∀ a b : Value, argsOk idl ⟨[a, b], []⟩
  gives : ∀ {M : Model} {A : Around} {E : Value → Shared → Prop} {s : Shared} {x : Addr} {ox : Obj} {i : Int} {t : Tok} {Q : Fin → Shared → Prop}, s.heap.get? x = some ox → plainO ox = true → Q (.done (.ret .notImplemented)) s → wpAny M A (B ⟨[.int i t, .ref x], []⟩) Q E s
theorem bin1_IR {op : Operator} {idl : String} {B : Builtin} {f0 : Addr} {i : Int} {t : Tok} {Q : Value → Shared → Prop} (O : IntOp op idl B) (X : K.In s.heap) (I : PySem.W.InstAt s.heap x ox C od) (hp : plainO ox = true) (hc : PySem.W.selfFirst K C = true)
    (hs : PySem.W.findIn K (.ref C) (PySem.dunder op.info.2) = some (some (.ref f0))) (hr : PySem.W.findIn K (.ref C) (dunderR op.info.2) = some (some (.ref f))) (hf : PySem.W.isFn K (.ref f) = true) (hsub : PySem.W.subIn K (.ref C) (.type "int") = some false)
    (h : wpAny (model prog w) A (call (.ref f) [.ref x, .int i t]) (PySem.W.CmpBack Q) E s) : wpAny (model prog w) A (binaryOp1 op.info.2 (.int i t) (.ref x)) (fun r s' => ∃ v, r = some v ∧ Q v s') E s := by
  obtain ⟨cd, rest, hcd, hm⟩ := PySem.W.ksp_first hc
  obtain ⟨O1, O2, O3, O4, O5⟩ := O
  generalize op.info.2 = nm' at *
  have two := PySem.W.ksp_try (b := .int i t) X I hr hf h
  have one : ∀ {Q' : Option Value → Shared → Prop}, Q' none s → wpAny (model prog w) A (tryMethod (.int i t) (PySem.dunder nm') (.ref x)) Q' E s := fun {Q'} q =>
    wpAny_tryMethod_declines (typeIs_int _ _ _) O2 (wpAny_call_entry O2 (typeIs_int _ _ _) O3 (O5 I.at_ hp ⟨_, rfl, rfl, q⟩) (O4 _ _))
  obtain ⟨hh, g, d, tt, os⟩ := s
  have L1 : PySem.W.Looks (model prog w) hh (typeOf (.ref x)) (.ref C) := I.type
  have L2 : PySem.W.Looks (model prog w) hh (typeOf (.int i t)) (.type "int") := PySem.W.Looks.of_pure rfl
  have L3 : PySem.W.Looks (model prog w) hh (fillsNumberSlot (.ref C) nm') true := PySem.W.fills_K X hcd hm hs
  have L4 : PySem.W.Looks (model prog w) hh (fillsNumberSlot (.type "int") nm') true := PySem.W.Looks.of_pure O1
  have L5 : PySem.W.Looks (model prog w) hh (isSubtype (.ref C) (.type "int")) false := PySem.W.looks_subIn X hsub
  have L7 : PySem.W.Looks (model prog w) hh (numberSlotInPython (.type "int") nm') false := PySem.W.Looks.of_pure rfl
  have hne : (Value.type "int" == Value.ref C) = false := Bool.eq_false_iff.mpr fun q => by cases beq_iff_eq.mp q
  unfold binaryOp1
  refine wpAny_bind (L2.at (wpAny_bind (L1.at (wpAny_bind (L4.at ?_)))))
  simp only [hne, Bool.false_eq_true, if_false]
  refine wpAny_bind (L3.at ?_)
  simp only [Bool.and_self, if_true]
  refine wpAny_bind (L5.at ?_)
  simp only [Bool.false_eq_true, if_false, pure_bind, Bool.not_false, Bool.and_self, if_true]
  refine wpAny_bind (L7.at ?_)
  simp only [Bool.false_eq_true, if_false, pure_bind]
  refine wpAny_bind (one ?_)
  dsimp only
  refine wpAny_bind (wpAny_mono two (fun r s' hr' => ?_) fun _ _ e => e)
  obtain ⟨v, rfl, hq⟩ := hr'
  exact wpAny_bind (wpAny_rule (wpAny_pure ⟨v, rfl, hq⟩))
theorem bin1_RR {nm : String} {b : Value} {Q : Value → Shared → Prop} (X : K.In s.heap) (I : PySem.W.InstAt s.heap x ox C od) (hb : PySem.W.Looks (model prog w) s.heap (typeOf b) (.ref C)) (hc : PySem.W.selfFirst K C = true)
    (hs : PySem.W.findIn K (.ref C) (PySem.dunder nm) = some (some (.ref f))) (hf : PySem.W.isFn K (.ref f) = true)
    (h : wpAny (model prog w) A (call (.ref f) [.ref x, b]) (PySem.W.CmpBack Q) E s) : wpAny (model prog w) A (binaryOp1 nm (.ref x) b) (fun r s' => ∃ v, r = some v ∧ Q v s') E s := by
  obtain ⟨cd, rest, hcd, hm⟩ := PySem.W.ksp_first hc
  unfold binaryOp1
  refine wpAny_bind (I.type.here (wpAny_bind (hb.here (wpAny_bind ((PySem.W.fills_K X hcd hm hs).here ?_)))))
  simp only [beq_self_eq_true, if_true]
  refine wpAny_bind (wpAny_pure ?_)
  simp only [Bool.and_false, Bool.false_eq_true, if_false, Bool.false_and]
  refine wpAny_bind (wpAny_pure ?_)
  simp only [Bool.false_eq_true, if_false]
  refine wpAny_bind (wpAny_mono (PySem.W.ksp_try (b := b) X I hs hf h) (fun r s' hr' => ?_) fun _ _ e => e)
  obtain ⟨v, rfl, hq⟩ := hr'
  exact wpAny_pure ⟨v, rfl, hq⟩
theorem bin1_RI {nm T : String} {b : Value} {fo ro rc : Option Value} {Q : Value → Shared → Prop} (X : K.In s.heap) (I : PySem.W.InstAt s.heap x ox C od) (hb : typeOf b = pure (.type T)) (hc : PySem.W.selfFirst K C = true)
    (hs : PySem.W.findIn K (.ref C) (PySem.dunder nm) = some (some (.ref f))) (hf : PySem.W.isFn K (.ref f) = true) (hr : PySem.W.findIn K (.ref C) (dunderR nm) = some rc) (hp : rc = none ∨ ∃ g : Addr, rc = some (.ref g))
    (h1 : PySem.W.findIn K (.type T) (PySem.dunder nm) = some fo) (h2 : PySem.W.findIn K (.type T) (dunderR nm) = some ro) (hsub : PySem.W.subIn K (.type T) (.ref C) = some false)
    (h : wpAny (model prog w) A (call (.ref f) [.ref x, b]) (PySem.W.CmpBack Q) E s) : wpAny (model prog w) A (binaryOp1 nm (.ref x) b) (fun r s' => ∃ v, r = some v ∧ Q v s') E s := by
  obtain ⟨cd, rest, hcd, hm⟩ := PySem.W.ksp_first hc
  have one := PySem.W.ksp_try (b := b) X I hs hf h
  obtain ⟨hh, g, d, tt, os⟩ := s
  have L1 : PySem.W.Looks (model prog w) hh (typeOf (.ref x)) (.ref C) := I.type
  have L2 : PySem.W.Looks (model prog w) hh (typeOf b) (.type T) := PySem.W.Looks.of_pure hb
  have L3 : PySem.W.Looks (model prog w) hh (fillsNumberSlot (.ref C) nm) true := PySem.W.fills_K X hcd hm hs
  have L4 : PySem.W.Looks (model prog w) hh (fillsNumberSlot (.type T) nm) ((fo.isSome && !isSeqSlot fo) || (ro.isSome && !isSeqSlot ro)) := PySem.W.ksp_fillsT X h1 h2
  have L5 : PySem.W.Looks (model prog w) hh (isSubtype (.type T) (.ref C)) false := PySem.W.looks_subIn X hsub
  have L6 : PySem.W.Looks (model prog w) hh (numberSlotInPython (.ref C) nm) true := PySem.W.ksp_inPy X hs hr hp
  have L7 : PySem.W.Looks (model prog w) hh (numberSlotInPython (.type T) nm) false := PySem.W.Looks.of_pure rfl
  have L8 : PySem.W.Looks (model prog w) hh (typeLookup (.type T) (dunderR nm)) ro := PySem.W.looks_findIn X h2
  generalize ((fo.isSome && !isSeqSlot fo) || (ro.isSome && !isSeqSlot ro)) = right at L4
  have hne : (Value.ref C == Value.type T) = false := Bool.eq_false_iff.mpr fun q => by cases beq_iff_eq.mp q
  unfold binaryOp1
  refine wpAny_bind (L1.at (wpAny_bind (L2.at (wpAny_bind (L3.at ?_)))))
  simp only [hne, Bool.false_eq_true, if_false]
  cases right with
  | false =>
    ksp_lk
    refine wpAny_mono one (fun r s' hr' => ?_) fun _ _ e => e
    obtain ⟨v, rfl, hq⟩ := hr'
    exact wpAny_pure ⟨v, rfl, hq⟩
  | true =>
    ksp_lk
    refine wpAny_mono one (fun r s' hr' => ?_) fun _ _ e => e
    obtain ⟨v, rfl, hq⟩ := hr'
    exact wpAny_pure ⟨v, rfl, hq⟩
theorem bin_of1 {op : Operator} {a b : Value} {Q : Value → Shared → Prop} (h : wpAny (model prog w) A (binaryOp1 op.info.2 a b) (fun r s' => ∃ v, r = some v ∧ Q v s') E s) : wpAny (model prog w) A (binaryOp op a b) Q E s := by
  unfold binaryOp
  refine wpAny_holding ?_
  refine wpAny_bind (wpAny_mono h (fun r s' hr' => ?_) fun _ _ e => e)
  obtain ⟨v, rfl, hq⟩ := hr'
  exact wpAny_pure hq
theorem fillsI_none {nm : String} {cd : ClassData} {add : Bool} {M : Model} {h : Heap} (X : K.In h) (hcd : PySem.W.clsIn K C = some cd) (hm : cd.mro = [.ref C, .type "object"]) (h1 : PySem.W.findIn K (.ref C) (dunderI nm) = some none) (h2 : PySem.W.findIn K (.type "object") (dunderI nm) = some none) :
    PySem.W.Looks M h (fillsInplaceSlot (.ref C) nm add) false := by
  intro A Q E s k q
  have Lm : PySem.W.Looks M h (mroOf (.ref C)) cd.mro := (PySem.W.looks_clsIn X hcd).andThen (f := fun cd => pure cd.mro) .now
  have Lm' := Lm.keeps k
  obtain ⟨hh, g, d, tt, os⟩ := s
  have X' : K.In hh := X.keeps k
  have L1 : PySem.W.Looks M hh (typeLookup (.ref C) (dunderI nm)) none := PySem.W.looks_findIn X' h1
  have L2 : PySem.W.Looks M hh (typeLookup (.type "object") (dunderI nm)) none := PySem.W.looks_findIn X' h2
  unfold fillsInplaceSlot
  refine wpAny_bind (Lm'.at ?_)
  rw [hm, List.anyM_cons]
  refine wpAny_bind (wpAny_bind (L1.at (wpAny_pure ?_)))
  rw [if_neg Bool.false_ne_true, List.anyM_cons]
  refine wpAny_bind (wpAny_bind (L2.at (wpAny_pure ?_)))
  rw [if_neg Bool.false_ne_true, List.anyM_nil]
  exact wpAny_pure q
theorem inp_of1 {op : Operator} {cd : ClassData} {b : Value} {Q : Value → Shared → Prop} (X : K.In s.heap) (I : PySem.W.InstAt s.heap x ox C od) (hcd : PySem.W.clsIn K C = some cd) (hm : cd.mro = [.ref C, .type "object"]) (h1 : PySem.W.findIn K (.ref C) (dunderI op.info.2) = some none) (h2 : PySem.W.findIn K (.type "object") (dunderI op.info.2) = some none)
    (h : wpAny (model prog w) A (binaryOp1 op.info.2 (.ref x) b) (fun r s' => ∃ v, r = some v ∧ Q v s') E s) : wpAny (model prog w) A (inplaceOp op (.ref x) b) Q E s := by
  unfold inplaceOp
  refine wpAny_holding ?_
  refine wpAny_bind (I.type.here (wpAny_bind ((fillsI_none X hcd hm h1 h2).here ?_)))
  rw [if_neg Bool.false_ne_true]
  refine wpAny_bind (wpAny_mono h (fun r s' hr' => ?_) fun _ _ e => e)
  obtain ⟨v, rfl, hq⟩ := hr'
  exact wpAny_pure hq
theorem iop_add : IntOp .Add "int.__add__" Builtin.«int.__add__» := ⟨PySem.F.fills_int_add, PySem.F.slot_int_add, PySem.F.entry_int_add, PySem.F.args_int_add_2, fun h hp q => intBinary_ref h hp q⟩
theorem iop_sub : IntOp .Sub "int.__sub__" Builtin.«int.__sub__» := ⟨PySem.F.fills_int_sub, PySem.F.slot_int_sub, PySem.F.entry_int_sub, PySem.F.args_int_sub_2, fun h hp q => intBinary_ref h hp q⟩
theorem iop_mul : IntOp .Mult "int.__mul__" Builtin.«int.__mul__» := ⟨PySem.F.fills_int_mul, PySem.F.slot_int_mul, PySem.F.entry_int_mul, PySem.F.args_int_mul_2, fun h hp q => intBinary_ref h hp q⟩
theorem iop_mod : IntOp .Mod "int.__mod__" Builtin.«int.__mod__» := ⟨PySem.F.fills_int_mod, PySem.F.slot_int_mod, PySem.F.entry_int_mod, PySem.F.args_int_mod_2, fun h hp q => intBinary_ref h hp q⟩
theorem iop_div : IntOp .FloorDiv "int.__floordiv__" Builtin.«int.__floordiv__» := ⟨PySem.F.fills_int_floordiv, PySem.F.slot_int_floordiv, PySem.F.entry_int_floordiv, PySem.F.args_int_floordiv_2, fun h hp q => by
  unfold Builtin.«int.__floordiv__»
  refine wpAny_bind ?_
  unfold Builtin.exactOperandsForPylong
  refine wpAny_ite_true rfl ?_
  refine wpAny_bind (wpAny_of_eq (a := some _) rfl ?_)
  refine wpAny_bind (asInt_ref h hp ?_)
  exact wpAny_pure (intBinary_ref h hp q)⟩
end
end RF
set_option maxRecDepth 100000
set_option maxHeartbeats 4000000
namespace RF
open PySem PySem.Spec PyProof.Rows L2
/-! ### the operators of Ratio's class -/
structure OwnL (K : PySem.W.Frag) (C : Addr) (nm : String) (f : Addr) : Prop where
  sf : PySem.W.selfFirst K C = true
  hs : PySem.W.findIn K (.ref C) (PySem.dunder nm) = some (some (.ref f))
  hf : PySem.W.isFn K (.ref f) = true
  rc : ∃ rc, PySem.W.findIn K (.ref C) (dunderR nm) = some rc ∧ (rc = none ∨ ∃ g : Addr, rc = some (.ref g))
  h1 : ∃ fo, PySem.W.findIn K (.type "int") (PySem.dunder nm) = some fo
  h2 : ∃ ro, PySem.W.findIn K (.type "int") (dunderR nm) = some ro
  sub : PySem.W.subIn K (.type "int") (.ref C) = some false
structure OwnR (K : PySem.W.Frag) (C : Addr) (nm : String) (f : Addr) : Prop where
  hs : PySem.W.findIn K (.ref C) (dunderR nm) = some (some (.ref f))
  hf : PySem.W.isFn K (.ref f) = true
  sub : PySem.W.subIn K (.ref C) (.type "int") = some false
structure OwnI (K : PySem.W.Frag) (C : Addr) (nm : String) : Prop where
  mro : ∃ cd, PySem.W.clsIn K C = some cd ∧ cd.mro = [.ref C, .type "object"]
  h1 : PySem.W.findIn K (.ref C) (dunderI nm) = some none
  h2 : PySem.W.findIn K (.type "object") (dunderI nm) = some none
structure OwnU (K : PySem.W.Frag) (C : Addr) (m : Str) (f : Addr) : Prop where
  hs : PySem.W.findIn K (.ref C) m = some (some (.ref f))
  hf : PySem.W.isFn K (.ref f) = true
section
variable {X : Cx} {W : Wd} {Wx : WX}
theorem rat_plain {C dx : Addr} {sl : Array (Option Value)} : plainO { PySem.W.instObj C dx with slots := sl } = true := rfl
def raOwnL (S : SpA) : R2a := fun d e rho eta Q EX => match d, e with
  | .rat _, .rat _ => raCall S [d, e] rho eta Q EX
  | .rat _, .int _ => raCall S [d, e] rho eta Q EX
  | _, _ => False
def raOwnR (S : SpA) : R2a := fun d e rho eta Q EX => match d, e with
  | .int _, .rat _ => raCall S [e, d] rho eta Q EX
  | _, _ => False
/-- the method's answer is handed on -/
theorem epa_back {pins : List (Addr × Obj)} {σ : L2.St} {th : List Addr} {H : Hp} {rho : Rho} {Qa : QA} {u : Value} {s' : Shared} (h : EPa X W pins σ th H rho Qa u s') : PySem.W.CmpBack (EPa X W pins σ th H rho Qa) u s' := by
  obtain ⟨v, th', H', d, eta', I', r, rest⟩ := h
  exact SlX.cmpback r ⟨v, th', H', d, eta', I', r, rest⟩
theorem bin1_own {k : Nat} {C f : Addr} {nm : String} {S : SpA} (hC : W.cl 0 = C) (O : OwnL X.K C nm f) (F : FnR X.prog X.w X.K X.mg X.base (L2.CX X.prog X.w) k f (spOf W S)) (hr : Room k X.A) (tk : Takes X Wx)
    {pins : List (Addr × Obj)} {s : Shared} {σ : L2.St} {H : Hp} {th : List Addr} {rho : Rho} {eta : List MO} {x y : V} {v u : Value} {d e : D} {Qa : QA} {EX : EXA} (I : Inv X pins σ H s) (S' : SR W th H σ rho eta) (xo : XOk W Wx th H EX) (rx : RelV x v) (ry : RelV y u) (Rd : RepT W th H d x) (Re : RepT W th H e y)
    (hq : raOwnL S d e rho eta Qa EX) : ∃ a, v = .ref a ∧ (∃ ox od, PySem.W.InstAt s.heap a ox C (some od)) ∧ wpAny (model X.prog X.w) X.A (binaryOp1 nm v u) (fun r s' => ∃ z, r = some z ∧ EPa X W pins σ th H rho Qa z s') X.xe s := by
  unfold raOwnL at hq
  split at hq
  · rename_i q1 q2
    obtain ⟨a, rfl, R1⟩ := Rd
    obtain ⟨b, rfl, R2⟩ := Re
    obtain rfl : v = Value.ref a := rx
    obtain rfl : u = Value.ref b := ry
    obtain ⟨dx, sl, od, rs, J, _⟩ := rat_inst I R1
    obtain ⟨dx2, sl2, od2, rs2, J2, _⟩ := rat_inst I R2
    rw [hC] at J J2
    refine ⟨a, rfl, ⟨_, _, J⟩, bin1_RR I.kIn J J2.type O.sf O.hs O.hf ?_⟩
    exact wpAny_mono (cl_fn F hr tk pins s σ H th rho eta [.ref a, .ref b] [.ref a, .ref b] [.rat q1, .rat q2] Qa EX I S' xo (.cons rfl (.cons rfl .nil)) ⟨_, _, rfl, ⟨a, rfl, R1⟩, _, _, rfl, ⟨b, rfl, R2⟩, rfl⟩ hq) (fun _ _ z => epa_back z) fun _ _ z => z
  · rename_i q1 i
    obtain ⟨a, rfl, R1⟩ := Rd
    have Re' : y = _ := Re
    subst Re'
    obtain rfl : v = Value.ref a := rx
    obtain ⟨t, rfl⟩ := ry
    obtain ⟨dx, sl, od, rs, J, _⟩ := rat_inst I R1
    rw [hC] at J
    obtain ⟨rc, c1, c2⟩ := O.rc
    obtain ⟨fo, c3⟩ := O.h1
    obtain ⟨ro, c4⟩ := O.h2
    refine ⟨a, rfl, ⟨_, _, J⟩, bin1_RI (T := "int") I.kIn J rfl O.sf O.hs O.hf c1 c2 c3 c4 O.sub ?_⟩
    exact wpAny_mono (cl_fn F hr tk pins s σ H th rho eta [.ref a, .int i] [.ref a, .int i t] [.rat q1, .int i] Qa EX I S' xo (.cons rfl (.cons ⟨t, rfl⟩ .nil)) ⟨_, _, rfl, ⟨a, rfl, R1⟩, _, _, rfl, rfl, rfl⟩ hq) (fun _ _ z => epa_back z) fun _ _ z => z
  · exact hq.elim
theorem oa_ownL {k : Nat} {C f : Addr} {op : Operator} {S : SpA} (hC : W.cl 0 = C) (O : OwnL X.K C op.info.2 f) (F : FnR X.prog X.w X.K X.mg X.base (L2.CX X.prog X.w) k f (spOf W S)) (hr : Room k X.A) (tk : Takes X Wx) : OpA X W Wx (binaryOp op) (raOwnL S) :=
  fun pins s σ H th rho eta x y v u d e Qa EX I S' xo rx ry Rd Re hq => by
    obtain ⟨a, rfl, _, h⟩ := bin1_own hC O F hr tk I S' xo rx ry Rd Re hq
    exact bin_of1 h
theorem ia_ownL {k : Nat} {C f : Addr} {op : Operator} {S : SpA} (hC : W.cl 0 = C) (O : OwnL X.K C op.info.2 f) (OI : OwnI X.K C op.info.2) (F : FnR X.prog X.w X.K X.mg X.base (L2.CX X.prog X.w) k f (spOf W S)) (hr : Room k X.A) (tk : Takes X Wx) : OpA X W Wx (inplaceOp op) (raOwnL S) :=
  fun pins s σ H th rho eta x y v u d e Qa EX I S' xo rx ry Rd Re hq => by
    obtain ⟨a, rfl, ⟨ox, od, J⟩, h⟩ := bin1_own hC O F hr tk I S' xo rx ry Rd Re hq
    obtain ⟨cd, hcd, hm⟩ := OI.mro
    exact inp_of1 I.kIn J hcd hm OI.h1 OI.h2 h
theorem oa_ownR {k : Nat} {C f f0 : Addr} {op : Operator} {idl : String} {B : Builtin} {S : SpA} (io : IntOp op idl B) (hC : W.cl 0 = C) (O0 : OwnL X.K C op.info.2 f0) (O : OwnR X.K C op.info.2 f) (F : FnR X.prog X.w X.K X.mg X.base (L2.CX X.prog X.w) k f (spOf W S)) (hr : Room k X.A) (tk : Takes X Wx) : OpA X W Wx (binaryOp op) (raOwnR S) :=
  fun pins s σ H th rho eta x y v u d e Qa EX I S' xo rx ry Rd Re hq => by
    unfold raOwnR at hq
    split at hq
    · rename_i i q1
      obtain ⟨a, rfl, R1⟩ := Re
      have Rd' : x = _ := Rd
      subst Rd'
      obtain rfl : u = Value.ref a := ry
      obtain ⟨t, rfl⟩ := rx
      obtain ⟨dx, sl, od, rs, J, _⟩ := rat_inst I R1
      rw [hC] at J
      refine bin_of1 (bin1_IR io I.kIn J rfl O0.sf O0.hs O.hs O.hf O.sub ?_)
      exact wpAny_mono (cl_fn F hr tk pins s σ H th rho eta [.ref a, .int i] [.ref a, .int i t] [.rat q1, .int i] Qa EX I S' xo (.cons rfl (.cons ⟨t, rfl⟩ .nil)) ⟨_, _, rfl, ⟨a, rfl, R1⟩, _, _, rfl, rfl, rfl⟩ hq) (fun _ _ z => epa_back z) fun _ _ z => z
    · exact hq.elim
/-! one reading for an operator: ints, texts, Ratios -/
def raW (r0 : R2a) (SL SR : SpA) : R2a := fun d e rho eta Q EX => match d, e with
  | .rat a, .rat b => raCall SL [.rat a, .rat b] rho eta Q EX
  | .rat a, .int b => raCall SL [.rat a, .int b] rho eta Q EX
  | .int a, .rat b => raCall SR [.rat b, .int a] rho eta Q EX
  | d, e => r0 d e rho eta Q EX
theorem oa_w {op : Value → Value → Sem Value} {r0 : R2a} {SL SR : SpA} (h0 : OpA X W Wx op r0) (hL : OpA X W Wx op (raOwnL SL)) (hR : OpA X W Wx op (raOwnR SR)) : OpA X W Wx op (raW r0 SL SR) :=
  fun pins s σ H th rho eta x y v u d e Qa EX I S' xo rx ry Rd Re hq => by
    unfold raW at hq
    split at hq
    · exact hL pins s σ H th rho eta x y v u _ _ Qa EX I S' xo rx ry Rd Re hq
    · exact hL pins s σ H th rho eta x y v u _ _ Qa EX I S' xo rx ry Rd Re hq
    · exact hR pins s σ H th rho eta x y v u _ _ Qa EX I S' xo rx ry Rd Re hq
    · exact h0 pins s σ H th rho eta x y v u _ _ Qa EX I S' xo rx ry Rd Re hq
/-! -r, abs(r) -/
def raNegR (S : SpA) : R1a := fun d rho eta Q EX => match d with
  | .int i => Q (.int (-i)) eta
  | .rat q => raCall S [.rat q] rho eta Q EX
  | _ => False
theorem ua_negR {k : Nat} {C f : Addr} {S : SpA} (hC : W.cl 0 = C) (O : OwnU X.K C "__neg__" f) (F : FnR X.prog X.w X.K X.mg X.base (L2.CX X.prog X.w) k f (spOf W S)) (hr : Room k X.A) (tk : Takes X Wx) : UnA X W Wx (unaryOp .USub) (raNegR S) :=
  fun pins s σ H th rho eta x v d Qa EX I S' xo rx Rd hq => by
    unfold raNegR at hq
    split at hq
    · exact ua_neg pins s σ H th rho eta x v _ Qa EX I S' xo rx Rd hq
    · rename_i q1
      obtain ⟨a, rfl, R1⟩ := Rd
      obtain rfl : v = Value.ref a := rx
      obtain ⟨dx, sl, od, rs, J, _⟩ := rat_inst I R1
      rw [hC] at J
      obtain ⟨m, F0⟩ := I.fr
      exact PySem.W.ksp_neg F0 I.ok.mod.kin J O.hs O.hf (cl_fn F hr tk pins s σ H th rho eta [.ref a] [.ref a] [.rat q1] Qa EX I S' xo (.cons rfl .nil) ⟨_, _, rfl, ⟨a, rfl, R1⟩, rfl⟩ hq)
    · exact hq.elim
def raAbsR (S : SpA) : RNa := fun ds rho eta Q EX => match ds with
  | [.int i] => Q (.int (if i < 0 then -i else i)) eta
  | [.rat q] => raCall S [.rat q] rho eta Q EX
  | _ => False
theorem ca_absR {k : Nat} {C f : Addr} {S : SpA} (hC : W.cl 0 = C) (O : OwnU X.K C "__abs__" f) (F : FnR X.prog X.w X.K X.mg X.base (L2.CX X.prog X.w) k f (spOf W S)) (hr : Room (k + 1) X.A) (tk : Takes X Wx) : ClA X W Wx (.builtin "abs") (raAbsR S) :=
  fun pins s σ H th rho eta xs us ds Qa EX I S' xo rx Rd hq => by
    unfold raAbsR at hq
    split at hq
    · exact ca_abs pins s σ H th rho eta xs us _ Qa EX I S' xo rx Rd hq
    · rename_i q1
      obtain ⟨v, rfl, Rd1⟩ := Rd.one
      obtain ⟨a, rfl, R1⟩ := Rd1
      cases rx with
      | cons r1 rr =>
        cases rr
        rename_i u
        obtain rfl : u = Value.ref a := r1
        obtain ⟨dx, sl, od, rs, J, _⟩ := rat_inst I R1
        rw [hC] at J
        have cl := cl_fn_at (A' := X.A.in1) F hr.in1 tk (fun I => I.env0.in1) pins s σ H th rho eta [.ref a] [.ref a] [.rat q1] Qa EX I S' xo (.cons rfl .nil) ⟨_, _, rfl, ⟨a, rfl, R1⟩, rfl⟩ hq
        refine PySem.Calls.call_function_entry kind_abs plain_abs entry_abs (args_abs _) ?_
        unfold Builtin.«abs»
        refine wpAny_bind (m := oneArg "abs" _) (wpAny_pure ?_)
        refine wpAny_bind (m := callSpecial? (.ref a) (Str.ofString "__abs__")) (PySem.W.special_fn I.kIn J O.hs (beq_iff_eq.mp O.hf) (wpAny_mono cl (fun z s' hz => ?_) fun _ _ z => z))
        exact wpAny_pure ⟨_, rfl, hz⟩
    · exact hq.elim
end
end RF
set_option maxRecDepth 100000
set_option maxHeartbeats 4000000
namespace RF
open PySem PySem.Spec PyProof.Rows L2
section
variable {X : Cx} {W : Wd} {Wx : WX}
/-! ### name op= e -/
def aAug (i : Nat) (t : TEa) (r : R2a) : TSa := fun Dn rho eta EX => match rho[i]? with
  | some (some d) => t rho eta (fun e eta1 => r d e rho eta1 (fun z eta2 => Dn.nx (rho.set i (some z)) eta2) EX) EX
  | _ => False
theorem sa_aug {i : Nat} {x : Str} {e : Expr} {t : TEa} {op : Operator} {r : R2a} {pos pos' : Pos} (hN : X.N.Nodup) (hi : X.N[i]? = some x) (hx : Loc X.env.scope x) (he : EA X W Wx e t) (ho : OpA X W Wx (inplaceOp op) r) (hf : X.fn x = true ∨ X.env.scope.names.lookup x = some .local := by first | exact .inl rfl | exact .inr rfl | assumption) :
    SA X W Wx (.AugAssign (.Name x pos') op e pos) (aAug i t r) := by
  refine ⟨fun pins s σ H th rho eta Dn EX I S xo h => ?_⟩
  unfold aAug at h
  split at h
  · rename_i d hd
    obtain ⟨v, e1, Rv⟩ := S.var i d hd
    obtain ⟨m, hn, hl⟩ := I.loc
    have vis : Vis X.env.scope x := by rcases hx with k | k; exact .inl k; exact .inr (.inl k)
    obtain ⟨u, ru, l⟩ := hl i x v hi e1 vis
    refine wpAny_AugAssign_Name ?_
    have go : wpAny (model X.prog X.w) X.A (eval e X.env) (fun w s₂ => wpAny (model X.prog X.w) X.A (inplaceOp op u w) (fun r s₃ => wpAny (model X.prog X.w) X.A (storeName X.env x r) (fun _ => SPa X W pins th H Dn .next) X.xe s₃) X.xe s₂) X.xe s := by
      refine thn (he.run pins s σ H th rho eta _ EX I S xo h) fun w s1 ⟨y, th1, H1, d1, eta1, I1, r1, g1, S1, R1, q1⟩ => ?_
      refine thn (ho pins s1 σ H1 th1 rho eta1 v y u w d d1 _ EX I1 S1 (xo.mono g1 S1.hp) ru r1 (Rv.mono g1) R1 q1) fun z s2 ⟨zv, th2, H2, d2, eta2, I2, r2, g2, S2, R2, q2⟩ => ?_
      exact store_ok I2 hN hi hx r2 (fun s3 I3 => ⟨_, th2, H2, _, eta2, I3, g1.trans' S1.hp g2, S2.set i R2, q2⟩) hf
    rcases l with ⟨hk, hm⟩ | ⟨hk, c, hc, hcell⟩
    · exact wpAny_loadName_local I.ok.kind hk hn hm go
    · rcases hk with hk | hk
      · exact wpAny_loadName_cell I.ok.kind hk hc hcell go
      · rcases hx with k | k
        · have : X.env.scope.names.lookup x = some .free := hk
          rw [k] at this; cases this
        · have : X.env.scope.names.lookup x = some .free := hk
          rw [k] at this; cases this
  · exact h.elim
theorem i_aug {i : Nat} {t : TEa} {r : R2a} {Dn : EndsA} {rho : Rho} {eta : List MO} {EX : EXA} {d : D} (hd : rho[i]? = some (some d)) (h : t rho eta (fun e eta1 => r d e rho eta1 (fun z eta2 => Dn.nx (rho.set i (some z)) eta2) EX) EX) : aAug i t r Dn rho eta EX := by
  unfold aAug; rw [hd]; exact h
/-! ### list + list, both frozen -/
theorem Reps.append {H : Hp} : ∀ {ds es : List D} {vs ws : List V}, Reps W H ds vs → Reps W H es ws → Reps W H (ds ++ es) (vs ++ ws)
  | [], _, _, _, h, h2 => by have h : _ = [] := h; subst h; exact h2
  | d :: ds, _, _, _, ⟨v, r, e, h1, h2⟩, h3 => by subst e; exact ⟨v, _, rfl, h1, Reps.append h2 h3⟩
def raCat : R2a := fun d e rho eta Q EX => match d, e with
  | .fl xs, .fl ys => Nat.ble (xs.length + ys.length) 1000 = true ∧ Q (.fl (xs ++ ys)) eta
  | _, _ => False
theorem oa_cat : OpA X W Wx (binaryOp .Add) raCat := fun pins s σ H th rho eta x y v u d e Qa EX I S xo rx ry Rd Re hr => by
  unfold raCat at hr
  split at hr
  · rename_i xs ys
    obtain ⟨hz, hr⟩ := hr
    obtain ⟨a, o, vs, rfl, ea, Rs⟩ := Rd
    obtain ⟨b, o2, ws, rfl, eb, Rs2⟩ := Re
    obtain rfl : v = Value.ref a := rx
    obtain rfl : u = Value.ref b := ry
    obtain ⟨_, k1⟩ := I.hok a _ ea
    obtain ⟨_, k2⟩ := I.hok b _ eb
    obtain ⟨hl, its, n, r, e1⟩ := (show ObjOk X.prog X.w H s.heap a (.lst vs) from k1)
    obtain ⟨hl2, its2, n2, r2, e2⟩ := (show ObjOk X.prog X.w H s.heap b (.lst ws) from k2)
    have l1 := Rs.length
    have l2 := Rs2.length
    have hz2 := size_of hz
    refine PySem.P.add_list e1 e2 ?_ (by rw [List.size_toArray, List.size_toArray, ← r.length, ← r2.length]; omega)
    have ee : its.toArray ++ its2.toArray = (its ++ its2).toArray := by simp
    rw [ee]
    have I1 := I.lnew (t' := s.toks) (r.append r2) (by rw [List.length_append]; omega)
    have hp : H s.heap.objs.size = none := I.fresh
    obtain ⟨od, I2⟩ := I1.lock upd_same trivial
    rw [upd_upd] at I2
    exact ⟨.ref _, th, _, .fl (xs ++ ys), eta, I2, rfl, Grow.new hp, S.mono (Grow.new hp) (S.hp.new hp), ⟨_, od, _, rfl, upd_same, Reps.mono (Grow.new (th := th) hp).pers _ _ (Rs.append Rs2)⟩, hr⟩
  · exact hr.elim
def raAddC : R2a := fun d e rho eta Q EX => match d, e with
  | .int i, .int j => Q (.int (i + j)) eta
  | .str x, .str y => x.length + y.length ≤ sizeLine ∧ Q (.str (x ++ y)) eta
  | .fl xs, .fl ys => Nat.ble (xs.length + ys.length) 1000 = true ∧ Q (.fl (xs ++ ys)) eta
  | _, _ => False
theorem oa_addC : OpA X W Wx (binaryOp .Add) raAddC := fun pins s σ H th rho eta x y v u d e Qa EX I S xo rx ry Rd Re hr => by
  unfold raAddC at hr
  split at hr
  · exact oa_add pins s σ H th rho eta x y v u _ _ Qa EX I S xo rx ry Rd Re ⟨trivial, hr⟩
  · exact oa_addS pins s σ H th rho eta x y v u _ _ Qa EX I S xo rx ry Rd Re hr
  · exact oa_cat pins s σ H th rho eta x y v u _ _ Qa EX I S xo rx ry Rd Re hr
  · exact hr.elim
/-! steps -/
variable {rho : Rho} {eta : List MO} {EX : EXA} {Q : QA}
theorem i_addCI {i j : Int} (h : Q (.int (i + j)) eta) : raAddC (.int i) (.int j) rho eta Q EX := h
theorem i_addCS {x y : Str} (hl : x.length + y.length ≤ sizeLine) (h : Q (.str (x ++ y)) eta) : raAddC (.str x) (.str y) rho eta Q EX := ⟨hl, h⟩
theorem i_addCL {xs ys : List D} (hl : Nat.ble (xs.length + ys.length) 1000 = true) (h : Q (.fl (xs ++ ys)) eta) : raAddC (.fl xs) (.fl ys) rho eta Q EX := ⟨hl, h⟩
theorem i_wRR {r0 : R2a} {SL SR : SpA} {a b : Rat} (h : raCall SL [.rat a, .rat b] rho eta Q EX) : raW r0 SL SR (.rat a) (.rat b) rho eta Q EX := h
theorem i_wRI {r0 : R2a} {SL SR : SpA} {a : Rat} {b : Int} (h : raCall SL [.rat a, .int b] rho eta Q EX) : raW r0 SL SR (.rat a) (.int b) rho eta Q EX := h
theorem i_wIR {r0 : R2a} {SL SR : SpA} {a : Int} {b : Rat} (h : raCall SR [.rat b, .int a] rho eta Q EX) : raW r0 SL SR (.int a) (.rat b) rho eta Q EX := h
theorem i_wII {r0 : R2a} {SL SR : SpA} {a b : Int} (h : r0 (.int a) (.int b) rho eta Q EX) : raW r0 SL SR (.int a) (.int b) rho eta Q EX := h
theorem i_wSS {r0 : R2a} {SL SR : SpA} {a b : Str} (h : r0 (.str a) (.str b) rho eta Q EX) : raW r0 SL SR (.str a) (.str b) rho eta Q EX := h
theorem i_wLL {r0 : R2a} {SL SR : SpA} {a b : List D} (h : r0 (.fl a) (.fl b) rho eta Q EX) : raW r0 SL SR (.fl a) (.fl b) rho eta Q EX := h
theorem i_ownL {S : SpA} {a : Rat} {b : Rat} (h : raCall S [.rat a, .rat b] rho eta Q EX) : raOwnL S (.rat a) (.rat b) rho eta Q EX := h
theorem i_ownLI {S : SpA} {a : Rat} {b : Int} (h : raCall S [.rat a, .int b] rho eta Q EX) : raOwnL S (.rat a) (.int b) rho eta Q EX := h
theorem i_negR {S : SpA} {a : Rat} (h : raCall S [.rat a] rho eta Q EX) : raNegR S (.rat a) rho eta Q EX := h
theorem i_negI {S : SpA} {a : Int} (h : Q (.int (-a)) eta) : raNegR S (.int a) rho eta Q EX := h
theorem i_absR {S : SpA} {a : Rat} (h : raCall S [.rat a] rho eta Q EX) : raAbsR S [.rat a] rho eta Q EX := h
theorem i_absI {S : SpA} {i : Int} (h : Q (.int (if i < 0 then -i else i)) eta) : raAbsR S [.int i] rho eta Q EX := h
end
/-! ### Bool checks -/
def ownLB (K : PySem.W.Frag) (C : Addr) (nm : String) : Bool := PySem.W.selfFirst K C && (isRef (PySem.W.findIn K (.ref C) (PySem.dunder nm)) && (PySem.W.isFn K (.ref (adrOf (PySem.W.findIn K (.ref C) (PySem.dunder nm)))) && ((match PySem.W.findIn K (.ref C) (dunderR nm) with
  | some none => true
  | some (some (.ref _)) => true
  | _ => false) && ((PySem.W.findIn K (.type "int") (PySem.dunder nm)).isSome && ((PySem.W.findIn K (.type "int") (dunderR nm)).isSome && decide (PySem.W.subIn K (.type "int") (.ref C) = some false))))))
theorem ownLB_ok {K : PySem.W.Frag} {C : Addr} {nm : String} (h : ownLB K C nm = true) : OwnL K C nm (adrOf (PySem.W.findIn K (.ref C) (PySem.dunder nm))) := by
  unfold ownLB at h
  simp only [Bool.and_eq_true, decide_eq_true_eq] at h
  obtain ⟨h1, h2, h3, h4, h5, h6, h7⟩ := h
  refine ⟨h1, isRef_eq h2, h3, ?_, Option.isSome_iff_exists.mp h5, Option.isSome_iff_exists.mp h6, h7⟩
  split at h4
  · rename_i e; exact ⟨none, e, .inl rfl⟩
  · rename_i g e; exact ⟨some (.ref g), e, .inr ⟨g, rfl⟩⟩
  · cases h4
def ownRB (K : PySem.W.Frag) (C : Addr) (nm : String) : Bool := isRef (PySem.W.findIn K (.ref C) (dunderR nm)) && (PySem.W.isFn K (.ref (adrOf (PySem.W.findIn K (.ref C) (dunderR nm)))) && decide (PySem.W.subIn K (.ref C) (.type "int") = some false))
theorem ownRB_ok {K : PySem.W.Frag} {C : Addr} {nm : String} (h : ownRB K C nm = true) : OwnR K C nm (adrOf (PySem.W.findIn K (.ref C) (dunderR nm))) := by
  unfold ownRB at h
  simp only [Bool.and_eq_true, decide_eq_true_eq] at h
  exact ⟨isRef_eq h.1, h.2.1, h.2.2⟩
def ownIB (K : PySem.W.Frag) (C : Addr) (nm : String) : Bool := ((PySem.W.clsIn K C).any fun cd => decide (cd.mro = [.ref C, .type "object"])) && (decide (PySem.W.findIn K (.ref C) (dunderI nm) = some none) && decide (PySem.W.findIn K (.type "object") (dunderI nm) = some none))
theorem ownIB_ok {K : PySem.W.Frag} {C : Addr} {nm : String} (h : ownIB K C nm = true) : OwnI K C nm := by
  unfold ownIB at h
  simp only [Bool.and_eq_true, decide_eq_true_eq] at h
  obtain ⟨cd, hc, hm⟩ := PySem.W.any_some h.1
  exact ⟨⟨cd, hc, of_decide_eq_true hm⟩, h.2.1, h.2.2⟩
def ownUB (K : PySem.W.Frag) (C : Addr) (m : Str) : Bool := isRef (PySem.W.findIn K (.ref C) m) && PySem.W.isFn K (.ref (adrOf (PySem.W.findIn K (.ref C) m)))
theorem ownUB_ok {K : PySem.W.Frag} {C : Addr} {m : Str} (h : ownUB K C m = true) : OwnU K C m (adrOf (PySem.W.findIn K (.ref C) m)) := by
  unfold ownUB at h
  simp only [Bool.and_eq_true] at h
  exact ⟨isRef_eq h.1, h.2⟩
theorem d_add : PySem.dunder "add" = ("__add__" : Str) := by decide +kernel
theorem d_sub : PySem.dunder "sub" = ("__sub__" : Str) := by decide +kernel
theorem d_mul : PySem.dunder "mul" = ("__mul__" : Str) := by decide +kernel
theorem d_div : PySem.dunder "floordiv" = ("__floordiv__" : Str) := by decide +kernel
theorem d_mod : PySem.dunder "mod" = ("__mod__" : Str) := by decide +kernel
theorem d_pow : PySem.dunder "pow" = ("__pow__" : Str) := by decide +kernel
theorem d_radd : dunderR "add" = ("__radd__" : Str) := by decide +kernel
theorem d_rsub : dunderR "sub" = ("__rsub__" : Str) := by decide +kernel
theorem d_rmul : dunderR "mul" = ("__rmul__" : Str) := by decide +kernel
theorem d_rdiv : dunderR "floordiv" = ("__rfloordiv__" : Str) := by decide +kernel
theorem d_rmod : dunderR "mod" = ("__rmod__" : Str) := by decide +kernel
end RF
set_option maxRecDepth 100000
set_option maxHeartbeats 4000000
namespace RF
open PySem PySem.Spec PyProof.Rows L2
section
variable {X : Cx} {W : Wd} {Wx : WX}
/-- an expression that is not reached -/
def aNever : TEa := fun _ _ _ _ => False
theorem ea_never {e : Expr} : EA X W Wx e aNever := ⟨fun _ _ _ _ _ _ _ _ _ _ _ _ h => h.elim⟩
/-- an operator with an own left def alone (**) -/
def raWL (r0 : R2a) (SL : SpA) : R2a := fun d e rho eta Q EX => match d, e with
  | .rat a, .rat b => raCall SL [.rat a, .rat b] rho eta Q EX
  | .rat a, .int b => raCall SL [.rat a, .int b] rho eta Q EX
  | d, e => r0 d e rho eta Q EX
theorem oa_wL {op : Value → Value → Sem Value} {r0 : R2a} {SL : SpA} (h0 : OpA X W Wx op r0) (hL : OpA X W Wx op (raOwnL SL)) : OpA X W Wx op (raWL r0 SL) :=
  fun pins s σ H th rho eta x y v u d e Qa EX I S' xo rx ry Rd Re hq => by
    unfold raWL at hq
    split at hq
    · exact hL pins s σ H th rho eta x y v u _ _ Qa EX I S' xo rx ry Rd Re hq
    · exact hL pins s σ H th rho eta x y v u _ _ Qa EX I S' xo rx ry Rd Re hq
    · exact h0 pins s σ H th rho eta x y v u _ _ Qa EX I S' xo rx ry Rd Re hq
/-- r.m(e, ..), r a Ratio -/
def methQ (S : SpA) (t : TAa) (rho : Rho) (Q : QA) (EX : EXA) : QA := fun d eta1 => match d with
  | .rat q => t rho eta1 (fun ds eta2 => raCall S (.rat q :: ds) rho eta2 Q EX) EX
  | _ => False
def aMethR (S : SpA) (ta : TEa) (t : TAa) : TEa := fun rho eta Q EX => ta rho eta (methQ S t rho Q EX) EX
theorem ea_methR {k : Nat} {C g : Addr} {m : Str} {S : SpA} {o e : Expr} {es : List Expr} {ta : TEa} {t : TAa} {apos pos : Pos} {pl : Sem Bool} (hC : W.cl 0 = C) (he : EA X W Wx o ta) (c : SlX.SCls X.K C) (hm : Meth X.K C m g)
    (F : FnR X.prog X.w X.K X.mg X.base (L2.CX X.prog X.w) k g (spOf W S)) (hr : Room k X.A) (tk : Takes X Wx) (ha : AA X W Wx (e :: es) t)
    (hst : starEach (e :: es) X.env = (false, eval e X.env) :: starEach es X.env := by rfl) (hpl : (backTo pos (starEach es X.env)).any (·.1) = false := by rfl)
    (ht : eval (.Call (.Attribute o m apos) (e :: es) [] pos) X.env = (do
      let ov ← eval o X.env
      standAt apos.atName
      let (f, first) ← holding [ov] (getMethod ov m pl)
      callWith pos f first (backTo pos (starEach (e :: es) X.env)) (backToKw pos (keywordEach [] X.env))) := by rfl) : EA X W Wx (.Call (.Attribute o m apos) (e :: es) [] pos) (aMethR S ta t) := by
  refine ⟨fun pins s σ H th rho eta Qa EX I Sr xo h => ?_⟩
  refine PySem.W.methodCall_KW (pl := pl) (thn (he.run pins s σ H th rho eta _ EX I Sr xo h) fun u s1 ⟨x, th1, H1, d, eta1, I1, r1, g1, S1, R1, q1⟩ => ?_) ht
  unfold methQ at q1
  split at q1
  · rename_i q
    obtain ⟨a, rfl, R⟩ := R1
    obtain rfl : u = Value.ref a := r1
    obtain ⟨dx, sl, od, rs, J, hl⟩ := rat_inst I1 R
    rw [hC] at J
    refine PySem.W.method_fn I1.kIn J (PySem.W.plainGet_of (c.get m)).1 (PySem.W.plainGet_of (c.get m)).2 hm.at_ (beq_iff_eq.mp hm.fn) ?_ ?_
    · show (PySem.W.lookIn m od).map (·.isSome) = some false
      rw [hl m]
      rfl
    · refine PySem.W.callWith_K (first := [.ref a]) (h₀ := X.base) I1.ok.mod.kin hm.kp (thn (ha.run pos pins s1 σ H1 th1 rho eta1 _ EX I1 S1 (xo.mono g1 S1.hp) q1) fun us s2 ⟨ws, th2, H2, ds, eta2, I2, r2, g2, S2, R2, q2⟩ => ⟨I2.kIn, ?_⟩) hst hpl
      have g12 := g1.trans' S1.hp g2
      refine thn (cl_fn F hr tk pins s2 σ H2 th2 rho eta2 (.ref a :: ws) (.ref a :: us) (.rat q :: ds) Qa EX I2 S2 (xo.mono g12 S2.hp) (.cons rfl r2) ⟨_, _, rfl, RepT.mono g2 (d := .rat q) ⟨a, rfl, R⟩, R2⟩ q2) fun w s3 ⟨z, th3, H3, d3, eta3, I3, r3, g3, S3, R3, q3⟩ => ?_
      exact ⟨z, th3, H3, d3, eta3, I3, r3, g12.trans' S2.hp g3, S3, R3, q3⟩
  · exact q1.elim
/-! steps -/
variable {rho : Rho} {eta : List MO} {EX : EXA} {Q : QA}
theorem i_methR {S : SpA} {ta : TEa} {t : TAa} (h : ta rho eta (methQ S t rho Q EX) EX) : aMethR S ta t rho eta Q EX := h
theorem i_methQ {S : SpA} {t : TAa} {q : Rat} (h : t rho eta (fun ds eta2 => raCall S (.rat q :: ds) rho eta2 Q EX) EX) : methQ S t rho Q EX (.rat q) eta := h
theorem i_wlRR {r0 : R2a} {SL : SpA} {a b : Rat} (h : raCall SL [.rat a, .rat b] rho eta Q EX) : raWL r0 SL (.rat a) (.rat b) rho eta Q EX := h
theorem i_wlRI {r0 : R2a} {SL : SpA} {a : Rat} {b : Int} (h : raCall SL [.rat a, .int b] rho eta Q EX) : raWL r0 SL (.rat a) (.int b) rho eta Q EX := h
theorem i_wlII {r0 : R2a} {SL : SpA} {a b : Int} (h : r0 (.int a) (.int b) rho eta Q EX) : raWL r0 SL (.int a) (.int b) rho eta Q EX := h
end
def methB (K : PySem.W.Frag) (C : Addr) (m : Str) : Bool := isRef (PySem.W.findIn K (.ref C) m) && (PySem.W.isFn K (.ref (adrOf (PySem.W.findIn K (.ref C) m))) && PySem.W.keepIn K (.ref (adrOf (PySem.W.findIn K (.ref C) m))))
theorem methB_ok {K : PySem.W.Frag} {C : Addr} {m : Str} (h : methB K C m = true) : Meth K C m (adrOf (PySem.W.findIn K (.ref C) m)) := by
  unfold methB at h
  simp only [Bool.and_eq_true] at h
  exact ⟨isRef_eq h.1, h.2.1, h.2.2⟩
end RF
set_option maxRecDepth 100000
set_option maxHeartbeats 4000000
namespace RF
open PySem PySem.Spec PyProof.Rows L2
/-! ### sizes of Ratios -/
/-- top and bottom have at most n bits -/
structure RB (n : Nat) (q : Rat) : Prop where
  num : q.num.natAbs < 2 ^ n
  den : q.den < 2 ^ n
theorem RB.mono {n m : Nat} {q : Rat} (h : RB n q) (hm : n ≤ m) : RB m q := ⟨Nat.lt_of_lt_of_le h.num (Nat.pow_le_pow_right (by decide) hm), Nat.lt_of_lt_of_le h.den (Nat.pow_le_pow_right (by decide) hm)⟩
theorem num_le {a b : Int} (hb : b ≠ 0) : (Rat.divInt a b).num.natAbs ≤ a.natAbs ∧ (Rat.divInt a b).den ≤ b.natAbs := by
  rw [Rat.num_divInt, Rat.den_divInt, if_neg hb]
  refine ⟨?_, Nat.div_le_self _ _⟩
  have h : (b.sign * a).natAbs = a.natAbs := by
    rw [Int.natAbs_mul, Int.natAbs_sign_of_ne_zero hb, Nat.one_mul]
  rw [← h]
  exact Int.natAbs_ediv_le_natAbs _ _
theorem RB.divInt {a b : Int} {n : Nat} (hb : b ≠ 0) (h1 : a.natAbs < 2 ^ n) (h2 : b.natAbs < 2 ^ n) : RB n (Rat.divInt a b) :=
  ⟨Nat.lt_of_le_of_lt (num_le hb).1 h1, Nat.lt_of_le_of_lt (num_le hb).2 h2⟩
theorem RB.int {i : Int} {n : Nat} (hn : 0 < n) (h : i.natAbs < 2 ^ n) : RB n (i : Rat) := ⟨h, by
  show 1 < 2 ^ n
  exact Nat.one_lt_two_pow (by omega)⟩
theorem RB.neg {q : Rat} {n : Nat} (h : RB n q) : RB n (-q) := ⟨by rw [Rat.neg_num, Int.natAbs_neg]; exact h.num, h.den⟩
theorem mul_lt_pow {a b n m : Nat} (h1 : a < 2 ^ n) (h2 : b < 2 ^ m) : a * b < 2 ^ (n + m) := by
  rw [Nat.pow_add]
  exact Nat.mul_lt_mul'' h1 h2
theorem add_eq (a b : Rat) : a + b = Rat.divInt (a.num * b.den + b.num * a.den) (a.den * b.den) := by
  rw [Rat.add_def', ← Rat.divInt_ofNat]
  rfl
theorem sub_eq (a b : Rat) : a - b = Rat.divInt (a.num * b.den - b.num * a.den) (a.den * b.den) := by
  rw [Rat.sub_def', ← Rat.divInt_ofNat]
  rfl
theorem mul_eq (a b : Rat) : a * b = Rat.divInt (a.num * b.num) (a.den * b.den) := by
  rw [Rat.mul_def', ← Rat.divInt_ofNat]
  rfl
theorem den_ne (a b : Rat) : (a.den : Int) * b.den ≠ 0 := by
  have h1 := a.den_pos
  have h2 := b.den_pos
  exact Int.mul_ne_zero (by omega) (by omega)
theorem RB.dd {a b : Rat} {n m : Nat} (ha : RB n a) (hb : RB m b) : ((a.den : Int) * b.den).natAbs < 2 ^ (n + m) := by
  rw [Int.natAbs_mul]
  exact mul_lt_pow ha.den hb.den
theorem RB.nd {a b : Rat} {n m : Nat} (ha : RB n a) (hb : RB m b) : (a.num * b.den).natAbs < 2 ^ (n + m) := by
  rw [Int.natAbs_mul]
  exact mul_lt_pow ha.num hb.den
theorem RB.nn {a b : Rat} {n m : Nat} (ha : RB n a) (hb : RB m b) : (a.num * b.num).natAbs < 2 ^ (n + m) := by
  rw [Int.natAbs_mul]
  exact mul_lt_pow ha.num hb.num
theorem RB.add {a b : Rat} {n m : Nat} (ha : RB n a) (hb : RB m b) : RB (n + m + 1) (a + b) := by
  have h1 := ha.nd hb
  have h2 := hb.nd ha
  have h3 := ha.dd hb
  rw [Nat.add_comm m n] at h2
  rw [add_eq]
  refine RB.divInt (den_ne a b) ?_ ?_
  · rw [Nat.pow_succ]; omega
  · rw [Nat.pow_succ]; omega
theorem RB.sub {a b : Rat} {n m : Nat} (ha : RB n a) (hb : RB m b) : RB (n + m + 1) (a - b) := by
  rw [Rat.sub_eq_add_neg]; exact ha.add hb.neg
theorem RB.mul {a b : Rat} {n m : Nat} (ha : RB n a) (hb : RB m b) : RB (n + m) (a * b) := by
  rw [mul_eq]
  exact RB.divInt (den_ne a b) (ha.nn hb) (ha.dd hb)
theorem mulB {i j : Int} {n m : Nat} (h1 : i.natAbs < 2 ^ n) (h2 : j.natAbs < 2 ^ m) (h : n + m ≤ 134217728) : IntMulOk i j :=
  IntMulOk.of_le (intBits_le_iff.mpr h1) (intBits_le_iff.mpr h2) h
theorem divB {j : Int} {n : Nat} (h : j.natAbs < 2 ^ n) (hn : 0 < n) (hn2 : n ≤ 9000) : DivOk j := Nat.lt_of_lt_of_le (log2_lt_of hn h) hn2
theorem log_lt {j n k : Nat} (h : j < 2 ^ n) (hn : 0 < n) (hk : n ≤ k) : j.log2 < k := Nat.lt_of_lt_of_le (log2_lt_of hn h) hk
/-! a number: an int or a Ratio -/
def IsNum (e : D) (b : Rat) : Prop := e = .rat b ∨ ∃ i : Int, e = .int i ∧ b = (i : Rat)
end RF
namespace RF
open PySem PySem.Spec PyProof.Rows L2
/-! ### a list made item by item -/
theorem lcg_map {ga : TGa} {tt : TTa} {te : TEa} {rho : Rho} {eta : List MO} {Q : List D → List MO → Prop} (f : D → D) {ds acc : List D} (him : ∀ d ∈ ds, (f d).im = true)
    (h : ∀ d ∈ ds, ∀ (R : QA) (Z : List MO → Prop), R (f d) eta → ga d rho eta fun r1 e1 => tt r1 e1 (fun b e2 => if b = true then te r1 e2 R (fun _ _ _ => False) else Z e2) (fun _ _ _ => False))
    (hq : Q (acc ++ ds.map f) eta) : aLcG ga tt te rho Q ds acc eta := by
  induction ds generalizing acc with
  | nil => simpa [aLcG] using hq
  | cons d ds ih =>
    refine h d List.mem_cons_self (fun y e3 => y.im = true ∧ aLcG ga tt te rho Q ds (acc ++ [y]) e3) (fun e2 => aLcG ga tt te rho Q ds acc e2) ⟨him d List.mem_cons_self, ?_⟩
    exact ih (fun d hd => him d (List.mem_cons_of_mem _ hd)) (fun d hd => h d (List.mem_cons_of_mem _ hd)) (by simpa using hq)
/-! ### a thing equals itself -/
mutual
theorem eqd_refl : ∀ (n : Nat) (d : D), D.pl n d = true → D.eqd d d = true
  | _, .non, _ => rfl
  | _, .bl b, _ => by show (b == b) = true; simp
  | _, .int i, _ => by show (i == i) = true; simp
  | _, .str x, _ => by show (x == x) = true; simp
  | n + 1, .tup xs, h => eqds_refl n xs h
  | n + 1, .fl xs, h => eqds_refl n xs h
  | 0, .tup _, h => by cases h
  | 0, .fl _, h => by cases h
  | _, .rat _, h => by cases h
  | _, .fd _ _, h => by cases h
  | _, .fdt _ _, h => by cases h
  | _, .obj _ _, h => by cases h
  | _, .ref _, h => by cases h
  | _, .cls _, h => by cases h
  | _, .ty _, h => by cases h
  | _, .exn _ _ _ _, h => by cases h
theorem eqds_refl : ∀ (n : Nat) (ds : List D), D.pls n ds = true → D.eqds ds ds = true
  | _, [], _ => rfl
  | n, d :: ds, h => by
    simp only [D.pls, Bool.and_eq_true] at h
    simp only [D.eqds, Bool.and_eq_true]
    exact ⟨eqd_refl n d h.1, eqds_refl n ds h.2⟩
end
theorem i_neR {d : D} {rho : Rho} {eta : List MO} {Q : QA} {EX : EXA} (h1 : D.pl 60 (rsl eta d) = true) (h : Q (.bl false) eta) : raNe d d rho eta Q EX := i_ne_same h1 (eqd_refl 60 _ h1) h
theorem i_eqR {d : D} {rho : Rho} {eta : List MO} {Q : QA} {EX : EXA} (h1 : D.pl 60 (rsl eta d) = true) (h : Q (.bl true) eta) : raEq d d rho eta Q EX := i_eq_same h1 (eqd_refl 60 _ h1) h
end RF
namespace RF
theorem i_neE {d e : D} {rho : Rho} {eta : List MO} {Q : QA} {EX : EXA} (he : d = e) (h1 : D.pl 60 (rsl eta e) = true) (h : Q (.bl false) eta) : raNe d e rho eta Q EX := by subst he; exact i_neR h1 h
theorem i_eqE {d e : D} {rho : Rho} {eta : List MO} {Q : QA} {EX : EXA} (he : d = e) (h1 : D.pl 60 (rsl eta e) = true) (h : Q (.bl true) eta) : raEq d e rho eta Q EX := by subst he; exact i_eqR h1 h
end RF
namespace RF
open PySem PySem.Spec PyProof.Rows L2
/-! ### quotients -/
theorem div_eq (a b : Rat) : a / b = Rat.divInt (a.num * b.den) (a.den * b.num) := by
  rw [Rat.div_def, Rat.inv_def]
  conv => lhs; rw [← Rat.num_divInt_den a]
  rw [Rat.divInt_mul_divInt]
theorem num_ne {b : Rat} (h : b ≠ 0) : b.num ≠ 0 := fun z => h (Rat.num_eq_zero.mp z)
theorem den_num_ne {a b : Rat} (h : b ≠ 0) : (a.den : Int) * b.num ≠ 0 := by
  have h1 := a.den_pos
  exact Int.mul_ne_zero (by omega) (num_ne h)
theorem RB.dn {a b : Rat} {n m : Nat} (ha : RB n a) (hb : RB m b) : ((a.den : Int) * b.num).natAbs < 2 ^ (n + m) := by
  rw [Int.natAbs_mul]
  exact mul_lt_pow ha.den hb.num
theorem RB.div {a b : Rat} {n m : Nat} (ha : RB n a) (hb : RB m b) (h : b ≠ 0) : RB (n + m) (a / b) := by
  rw [div_eq]
  exact RB.divInt (den_num_ne h) (ha.nd hb) (ha.dn hb)
/-- the whole part -/
def flo (q : Rat) : Int := q.num.fdiv q.den
theorem flo_abs (q : Rat) : (flo q).natAbs ≤ q.num.natAbs := natAbs_fdiv_le _ _
theorem RB.flo {q : Rat} {n : Nat} (hn : 0 < n) (h : RB n q) : RB n ((RF.flo q : Int) : Rat) := RB.int hn (Nat.lt_of_le_of_lt (flo_abs q) h.num)
theorem flo_divInt {x y : Int} (hy : y ≠ 0) : flo (Rat.divInt x y) = x.fdiv y := by
  unfold RF.flo
  obtain ⟨e1, e2⟩ := fdiv_gcd_num (t := x) hy
  have hg := rG_ne (t := x) hy
  have dx : rG x y ∣ x := by
    have h : ((Nat.gcd x.natAbs y.natAbs : Nat) : Int) ∣ x := Int.ofNat_dvd_left.mpr (Nat.gcd_dvd_left _ _)
    unfold rG; split
    · exact Int.neg_dvd.mpr h
    · exact h
  have dy : rG x y ∣ y := by
    have h : ((Nat.gcd x.natAbs y.natAbs : Nat) : Int) ∣ y := Int.ofNat_dvd_left.mpr (Nat.gcd_dvd_right _ _)
    unfold rG; split
    · exact Int.neg_dvd.mpr h
    · exact h
  rw [← e1, ← e2]
  generalize rG x y = g at *
  obtain ⟨x', rfl⟩ := dx
  obtain ⟨y', rfl⟩ := dy
  rw [Int.fdiv_eq_of_eq_mul_right hg rfl, Int.fdiv_eq_of_eq_mul_right hg rfl]
  rcases Int.lt_or_gt_of_ne hg with h | h
  · have := Int.mul_fdiv_mul_of_pos (a := -g) (-x') (-y') (by omega)
    rw [Int.neg_mul_neg, Int.neg_mul_neg] at this
    rw [this, Int.neg_fdiv_neg]
  · exact (Int.mul_fdiv_mul_of_pos x' y' h).symm
theorem flo_div {a b : Rat} (h : b ≠ 0) : flo (a / b) = (a.num * b.den).fdiv (a.den * b.num) := by
  rw [div_eq, flo_divInt (den_num_ne h)]
theorem cfdB {i j : Int} {n : Nat} (h0 : j ≠ 0) (h : j.natAbs < 2 ^ n) (hn : 0 < n) (hn2 : n ≤ 9000) : CFd i j := ⟨h0, PyProof.noPylong_of_log2 (Nat.lt_of_lt_of_le (log2_lt_of hn h) hn2)⟩
theorem RB.pow {a : Rat} {n : Nat} (ha : RB n a) : ∀ j : Nat, RB (n * j + 1) (a ^ j)
  | 0 => by rw [Rat.pow_zero]; exact ⟨(by decide : (1 : Int).natAbs < 2 ^ 1), (by decide : (1 : Nat) < 2 ^ 1)⟩
  | j + 1 => by
    rw [Rat.pow_succ]
    exact ((RB.pow ha j).mul ha).mono (by rw [Nat.mul_succ]; omega)
end RF
namespace RF
open PySem PySem.Spec PyProof.Rows L2
theorem i_isNon {rho : Rho} {eta : List MO} {Q : QA} {EX : EXA} (h : Q (.bl true) eta) : raIs false .non .non rho eta Q EX := h
theorem i_isO {d : D} {rho : Rho} {eta : List MO} {Q : QA} {EX : EXA} (hd : d.isN = false) (h : Q (.bl false) eta) : raIs false d .non rho eta Q EX := by
  show Q (.bl (if false = true then !d.isN else d.isN)) eta
  rw [if_neg Bool.false_ne_true, hd]; exact h
theorem i_notNon {rho : Rho} {eta : List MO} {Q : QA} {EX : EXA} (h : Q (.bl false) eta) : raIs true .non .non rho eta Q EX := h
theorem i_notO {d : D} {rho : Rho} {eta : List MO} {Q : QA} {EX : EXA} (hd : d.isN = false) (h : Q (.bl true) eta) : raIs true d .non rho eta Q EX := by
  show Q (.bl (if true = true then !d.isN else d.isN)) eta
  rw [if_pos rfl, hd]; exact h
end RF
namespace RF
open PySem PySem.Spec PyProof.Rows L2
theorem lcg_none {ga : TGa} {tt : TTa} {te : TEa} {rho : Rho} {eta : List MO} {Q : List D → List MO → Prop} {ds acc : List D}
    (h : ∀ d ∈ ds, ∀ (Y : Rho → List MO → Prop) (Z : List MO → Prop), Z eta → ga d rho eta fun r1 e1 => tt r1 e1 (fun b e2 => if b = true then Y r1 e2 else Z e2) (fun _ _ _ => False))
    (hq : Q acc eta) : aLcG ga tt te rho Q ds acc eta := by
  induction ds generalizing acc with
  | nil => exact hq
  | cons d ds ih =>
    exact h d List.mem_cons_self (fun r1 e2 => te r1 e2 (fun y e3 => y.im = true ∧ aLcG ga tt te rho Q ds (acc ++ [y]) e3) (fun _ _ _ => False)) (fun e2 => aLcG ga tt te rho Q ds acc e2) (ih (fun d hd => h d (List.mem_cons_of_mem _ hd)) hq)
theorem rngL_mem : ∀ {n : Nat} {lo : Int} {d : D}, d ∈ rngL lo n → ∃ k : Int, d = .int k ∧ lo ≤ k ∧ k < lo + n
  | 0, _, _, h => by simp [rngL] at h
  | n + 1, lo, d, h => by
    simp only [rngL, List.mem_cons] at h
    rcases h with rfl | h
    · exact ⟨lo, rfl, by omega, by omega⟩
    · obtain ⟨k, e, h1, h2⟩ := rngL_mem h
      exact ⟨k, e, by omega, by omega⟩
end RF
namespace RF
open PySem PySem.Spec PyProof.Rows L2
theorem i_seqN {t u : TSa} {Dn : EndsA} {rho rho' : Rho} {eta eta' : List MO} {EX : EXA} (hr : rho = rho') (he : eta = eta') (h : t { Dn with nx := fun r e => u Dn r e EX } rho' eta' EX) : aSeq t u Dn rho eta EX := by
  subst hr he; exact h
end RF
set_option maxRecDepth 100000
set_option maxHeartbeats 4000000
namespace RF
open PySem PySem.Spec PyProof.Rows L2
section
variable {prog : Program} {w : World} {A : Around} {E : Value → Shared → Prop} {s : Shared} {K : PySem.W.Frag} {x C f : Addr} {ox : Obj} {od : Option Obj}
/-! ### comparisons of ints with own instances -/
structure IntCmp (op : CmpOp) (idl : String) (B : Builtin) : Prop where
  slot : Slot "int" (cmpInfo op).2.1 idl
  entry : entryFor table idl = some B
  args : ∀ a b : Value, argsOk idl ⟨[a, b], []⟩
  gives : ∀ {M : Model} {A : Around} {E : Value → Shared → Prop} {s : Shared} {x : Addr} {ox : Obj} {i : Int} {t : Tok} {Q : Fin → Shared → Prop}, s.heap.get? x = some ox → plainO ox = true → Q (.done (.ret .notImplemented)) s → wpAny M A (B ⟨[.int i t, .ref x], []⟩) Q E s
theorem icmp_lt : IntCmp .Lt "int.__lt__" Builtin.«int.__lt__» := ⟨PySem.F.slot_int_lt, PySem.F.entry_int_lt, PySem.F.args_int_lt_2, fun h hp q => intBinary_ref h hp q⟩
theorem icmp_le : IntCmp .LtE "int.__le__" Builtin.«int.__le__» := ⟨PySem.F.slot_int_le, PySem.F.entry_int_le, PySem.F.args_int_le_2, fun h hp q => intBinary_ref h hp q⟩
theorem icmp_gt : IntCmp .Gt "int.__gt__" Builtin.«int.__gt__» := ⟨PySem.F.slot_int_gt, PySem.F.entry_int_gt, PySem.F.args_int_gt_2, fun h hp q => intBinary_ref h hp q⟩
theorem icmp_ge : IntCmp .GtE "int.__ge__" Builtin.«int.__ge__» := ⟨PySem.F.slot_int_ge, PySem.F.entry_int_ge, PySem.F.args_int_ge_2, fun h hp q => intBinary_ref h hp q⟩
theorem icmp_eq : IntCmp .Eq "int.__eq__" Builtin.«int.__eq__» := ⟨PySem.F.slot_int_eq, PySem.F.entry_int_eq, PySem.F.args_int_eq_2, fun h hp q => intBinary_ref h hp q⟩
theorem icmp_ne : IntCmp .NotEq "int.__ne__" Builtin.«int.__ne__» := ⟨PySem.F.slot_int_ne, PySem.F.entry_int_ne, PySem.F.args_int_ne_2, fun h hp q => intBinary_ref h hp q⟩
/-- what a comparison asks of the instance -/
theorem try_own {name : Str} {b : Value} {Q : Value → Shared → Prop} (X : K.In s.heap) (I : PySem.W.InstAt s.heap x ox C od) (hs : PySem.W.findIn K (.ref C) name = some (some (.ref f))) (hf : PySem.W.isFn K (.ref f) = true)
    (h : wpAny (model prog w) A (call (.ref f) [.ref x, b]) (PySem.W.CmpBack Q) E s) : wpAny (model prog w) A (tryCompare (.ref x) name b) (fun r s' => ∃ v, r = some v ∧ Q v s') E s := by
  unfold tryCompare
  refine wpAny_bind (PySem.W.ifBound_K X I hs hf (wpAny_mono h (fun v s' hv => ?_) fun _ _ e => e))
  cases v <;> first | exact hv.elim | exact wpAny_pure ⟨_, rfl, hv⟩
/-- x op b by what the instance x answers -/
theorem rich_left {op : CmpOp} {b tb : Value} {Q : Value → Shared → Prop} (hu : A.units < cLine) (X : K.In s.heap) (I : PySem.W.InstAt s.heap x ox C od) (hb : PySem.W.Looks (model prog w) s.heap (typeOf b) tb) (hn : PySem.W.notFirst K C tb = true)
    (one : wpAny (model prog w) A (tryCompare (.ref x) (cmpInfo op).2.1 b) (fun r s' => ∃ v, r = some v ∧ Q v s') E s) : wpAny (model prog w) A (richCompare op (.ref x) b) Q E s := by
  have e0 : oneThing? op (.ref x) b = none := rfl
  unfold richCompare
  simp only [e0]
  refine wpAny_holding (wpAny_bind (wpAny_cRoomFor hu ?_))
  refine wpAny_bind (I.type.here (wpAny_bind (hb.here ?_)))
  split
  · rename_i q
    have e : PySem.W.subIn K tb (.ref C) = some false := by
      rcases Bool.or_eq_true_iff.mp hn with e | e
      · rw [beq_iff_eq.mp e] at q; simp at q
      · exact beq_iff_eq.mp e
    refine wpAny_bind ((PySem.W.looks_subIn X e).here ?_)
    simp only [Bool.false_eq_true, if_false]
    refine wpAny_bind (wpAny_mono one (fun r s' z => ?_) fun _ _ e => e)
    obtain ⟨v, rfl, hq⟩ := z
    exact wpAny_pure hq
  · refine wpAny_bind (wpAny_pure ?_)
    simp only [Bool.false_eq_true, if_false]
    refine wpAny_bind (wpAny_mono one (fun r s' z => ?_) fun _ _ e => e)
    obtain ⟨v, rfl, hq⟩ := z
    exact wpAny_pure hq
/-- i op x by what the instance x answers -/
theorem rich_right {op : CmpOp} {idl : String} {B : Builtin} {i : Int} {t : Tok} {Q : Value → Shared → Prop} (O : IntCmp op idl B) (hu : A.units < cLine) (X : K.In s.heap) (I : PySem.W.InstAt s.heap x ox C od) (hp : plainO ox = true) (hsub : PySem.W.subIn K (.ref C) (.type "int") = some false)
    (one : wpAny (model prog w) A (tryCompare (.ref x) (cmpInfo op).2.2 (.int i t)) (fun r s' => ∃ v, r = some v ∧ Q v s') E s) : wpAny (model prog w) A (richCompare op (.int i t) (.ref x)) Q E s := by
  obtain ⟨O2, O3, O4, O5⟩ := O
  have no : ∀ {Q' : Option Value → Shared → Prop}, Q' none s → wpAny (model prog w) A (tryCompare (.int i t) (cmpInfo op).2.1 (.ref x)) Q' E s := fun {Q'} q =>
    wpAny_tryCompare_declines (typeIs_int _ _ _) O2 (wpAny_call_entry O2 (typeIs_int _ _ _) O3 (O5 I.at_ hp ⟨_, rfl, rfl, q⟩) (O4 _ _))
  have e0 : oneThing? op (.int i t) (.ref x) = none := rfl
  have hne : (Value.type "int" != Value.ref C) = true := by simp
  unfold richCompare
  simp only [e0]
  refine wpAny_holding (wpAny_bind (wpAny_cRoomFor hu ?_))
  refine wpAny_bind (wpAny_typeOf (typeIs_int _ _ _) (wpAny_bind (I.type.here ?_)))
  rw [if_pos hne]
  refine wpAny_bind ((PySem.W.looks_subIn X hsub).here ?_)
  simp only [Bool.false_eq_true, if_false]
  refine wpAny_bind (no ?_)
  dsimp only
  rw [if_pos (by rfl)]
  refine wpAny_bind (wpAny_mono one (fun r s' z => ?_) fun _ _ e => e)
  obtain ⟨v, rfl, hq⟩ := z
  exact wpAny_pure hq
/-- x != b by what x's own == answers -/
theorem try_ne {b : Value} {Q : Value → Shared → Prop} (hu : A.in1.units < cLine) (X : K.In s.heap) (I : PySem.W.InstAt s.heap x ox C od) (hn : PySem.W.findIn K (.ref C) "__ne__" = some (some (.builtin "object.__ne__"))) (hm : PySem.W.mroIn K C (.type "object") = some true)
    (hs : PySem.W.findIn K (.ref C) "__eq__" = some (some (.ref f))) (hf : PySem.W.isFn K (.ref f) = true)
    (h : wpAny (model prog w) A.in1 (call (.ref f) [.ref x, b]) (fun r s' => ∃ c, r = .bool c ∧ Q (.bool (!c)) s') E s) : wpAny (model prog w) A (tryCompare (.ref x) "__ne__" b) (fun r s' => ∃ v, r = some v ∧ Q v s') E s := by
  have go : wpAny (model prog w) A (call (.builtin "object.__ne__") [.ref x, b]) (fun r s' => ∃ c, r = .bool c ∧ Q (.bool c) s') E s := by
    refine wpAny_call (codeAny_call_builtin PySem.F.slot_object_ne.plain PySem.F.cmpEntry_ne (PySem.W.check_slot (i := "object.__ne__") (owner := "object") (n := "__ne__") (by decide +kernel) (by decide +kernel) (I.type.andThen (PySem.W.looks_mroIn X hm)) (PySem.F.cmpArgs_ne _ _) ?_))
    unfold Builtin.«object.__ne__»
    refine wpAny_bind (wpAny_of_eq (a := ((Value.ref x : Value), [b])) (by first | rfl | (simp only [slotArgs]; rfl)) ?_)
    dsimp only
    refine wpAny_bind (wpAny_cRoomFor hu ?_)
    refine wpAny_bind (PySem.W.ifBound_K X I hs hf (wpAny_mono h (fun v s' hv => ?_) fun _ _ e => e))
    obtain ⟨c, rfl, q⟩ := hv
    dsimp only
    exact wpAny_bind (wpAny_truthy_bool (wpAny_pure ⟨!c, rfl, q⟩))
  unfold tryCompare
  refine wpAny_bind ?_
  simp only [callSpecialIfBound?, bindSpecialIfBound?]
  refine wpAny_holding (wpAny_bind (wpAny_bind (wpAny_bind (I.type.here ((PySem.W.looks_findIn X hn).here ?_)))))
  refine wpAny_bind (wpAny_askSetting (wpAny_ite ?_))
  have fin : wpAny (model prog w) A (call (.builtin "object.__ne__") ([.ref x] ++ [b]) >>= fun v => pure (some v)) (fun a s' => wpAny (model prog w) A (match a with | some .notImplemented | none => pure none | some v => pure (some v)) (fun r s' => ∃ v, r = some v ∧ Q v s') E s') E s :=
    wpAny_bind (wpAny_mono go (fun v s' hv => by obtain ⟨c, rfl, q⟩ := hv; exact wpAny_pure (wpAny_pure ⟨_, rfl, q⟩)) fun _ _ h' => h')
  split
  · rw [PySem.F.slot_object_ne.bind]
    exact wpAny_bind (wpAny_pure (wpAny_pure (by exact fin)))
  · rw [PySem.F.slot_object_ne.bind]
    exact wpAny_tryCatch (wpAny_bind (wpAny_pure (wpAny_pure (by exact fin))))
end
end RF
set_option maxRecDepth 100000
set_option maxHeartbeats 4000000
namespace RF
open PySem PySem.Spec PyProof.Rows L2
/-! ### comparisons of Ratios -/
structure OwnC (K : PySem.W.Frag) (C : Addr) (m : Str) (f : Addr) : Prop where
  hs : PySem.W.findIn K (.ref C) m = some (some (.ref f))
  hf : PySem.W.isFn K (.ref f) = true
  subT : PySem.W.subIn K (.type "int") (.ref C) = some false
  subI : PySem.W.subIn K (.ref C) (.type "int") = some false
def ownCB (K : PySem.W.Frag) (C : Addr) (m : Str) : Bool := isRef (PySem.W.findIn K (.ref C) m) && (PySem.W.isFn K (.ref (adrOf (PySem.W.findIn K (.ref C) m))) && (decide (PySem.W.subIn K (.type "int") (.ref C) = some false) && decide (PySem.W.subIn K (.ref C) (.type "int") = some false)))
theorem ownCB_ok {K : PySem.W.Frag} {C : Addr} {m : Str} (h : ownCB K C m = true) : OwnC K C m (adrOf (PySem.W.findIn K (.ref C) m)) := by
  unfold ownCB at h
  simp only [Bool.and_eq_true, decide_eq_true_eq] at h
  exact ⟨isRef_eq h.1, h.2.1, h.2.2.1, h.2.2.2⟩
structure OwnN (K : PySem.W.Frag) (C : Addr) : Prop where
  ne : PySem.W.findIn K (.ref C) "__ne__" = some (some (.builtin "object.__ne__"))
  mro : PySem.W.mroIn K C (.type "object") = some true
def ownNB (K : PySem.W.Frag) (C : Addr) : Bool := decide (PySem.W.findIn K (.ref C) "__ne__" = some (some (.builtin "object.__ne__"))) && decide (PySem.W.mroIn K C (.type "object") = some true)
theorem ownNB_ok {K : PySem.W.Frag} {C : Addr} (h : ownNB K C = true) : OwnN K C := by
  unfold ownNB at h
  simp only [Bool.and_eq_true, decide_eq_true_eq] at h
  exact ⟨h.1, h.2⟩
section
variable {X : Cx} {W : Wd} {Wx : WX}
theorem notFirst_self {K : PySem.W.Frag} {C : Addr} : PySem.W.notFirst K C (.ref C) = true := by
  unfold PySem.W.notFirst; simp
theorem notFirst_int {K : PySem.W.Frag} {C : Addr} (h : PySem.W.subIn K (.type "int") (.ref C) = some false) : PySem.W.notFirst K C (.type "int") = true := by
  unfold PySem.W.notFirst; rw [h]; simp
/-- the left one is asked: op of two Ratios, of a Ratio and an int -/
theorem oa_cmpL {k : Nat} {C f : Addr} {op : CmpOp} {S : SpA} {m : Str} (hop : ∀ a b, compareOp op a b = richCompare op a b) (hm : (cmpInfo op).2.1 = m) (hC : W.cl 0 = C) (O : OwnC X.K C m f) (F : FnR X.prog X.w X.K X.mg X.base (L2.CX X.prog X.w) k f (spOf W S)) (hr : Room k X.A) (tk : Takes X Wx) :
    OpA X W Wx (compareOp op) (raOwnL S) := fun pins s σ H th rho eta x y v u d e Qa EX I S' xo rx ry Rd Re hq => by
  subst hm
  rw [hop]
  unfold raOwnL at hq
  have hu : X.A.units < cLine := by have := hr.un; omega
  split at hq
  · rename_i q1 q2
    obtain ⟨a, rfl, R1⟩ := Rd
    obtain ⟨b, rfl, R2⟩ := Re
    obtain rfl : v = Value.ref a := rx
    obtain rfl : u = Value.ref b := ry
    obtain ⟨dx, sl, od, rs, J, _⟩ := rat_inst I R1
    obtain ⟨dx2, sl2, od2, rs2, J2, _⟩ := rat_inst I R2
    rw [hC] at J J2
    refine rich_left hu I.kIn J J2.type notFirst_self (try_own I.kIn J O.hs O.hf ?_)
    exact wpAny_mono (cl_fn F hr tk pins s σ H th rho eta [.ref a, .ref b] [.ref a, .ref b] [.rat q1, .rat q2] Qa EX I S' xo (.cons rfl (.cons rfl .nil)) ⟨_, _, rfl, ⟨a, rfl, R1⟩, _, _, rfl, ⟨b, rfl, R2⟩, rfl⟩ hq) (fun _ _ z => epa_back z) fun _ _ z => z
  · rename_i q1 i
    obtain ⟨a, rfl, R1⟩ := Rd
    have Re' : y = _ := Re
    subst Re'
    obtain rfl : v = Value.ref a := rx
    obtain ⟨t, rfl⟩ := ry
    obtain ⟨dx, sl, od, rs, J, _⟩ := rat_inst I R1
    rw [hC] at J
    refine rich_left (tb := .type "int") hu I.kIn J (PySem.W.Looks.of_pure rfl) (notFirst_int O.subT) (try_own I.kIn J O.hs O.hf ?_)
    exact wpAny_mono (cl_fn F hr tk pins s σ H th rho eta [.ref a, .int i] [.ref a, .int i t] [.rat q1, .int i] Qa EX I S' xo (.cons rfl (.cons ⟨t, rfl⟩ .nil)) ⟨_, _, rfl, ⟨a, rfl, R1⟩, _, _, rfl, rfl, rfl⟩ hq) (fun _ _ z => epa_back z) fun _ _ z => z
  · exact hq.elim
/-- the right one is asked: op of an int and a Ratio -/
theorem oa_cmpR {k : Nat} {C f : Addr} {op : CmpOp} {idl : String} {B : Builtin} {S : SpA} {m : Str} (io : IntCmp op idl B) (hop : ∀ a b, compareOp op a b = richCompare op a b) (hm : (cmpInfo op).2.2 = m) (hC : W.cl 0 = C) (O : OwnC X.K C m f) (F : FnR X.prog X.w X.K X.mg X.base (L2.CX X.prog X.w) k f (spOf W S)) (hr : Room k X.A) (tk : Takes X Wx) :
    OpA X W Wx (compareOp op) (raOwnR S) := fun pins s σ H th rho eta x y v u d e Qa EX I S' xo rx ry Rd Re hq => by
  subst hm
  rw [hop]
  unfold raOwnR at hq
  have hu : X.A.units < cLine := by have := hr.un; omega
  split at hq
  · rename_i i q1
    obtain ⟨a, rfl, R1⟩ := Re
    have Rd' : x = _ := Rd
    subst Rd'
    obtain rfl : u = Value.ref a := ry
    obtain ⟨t, rfl⟩ := rx
    obtain ⟨dx, sl, od, rs, J, _⟩ := rat_inst I R1
    rw [hC] at J
    refine rich_right io hu I.kIn J rfl O.subI (try_own I.kIn J O.hs O.hf ?_)
    exact wpAny_mono (cl_fn F hr tk pins s σ H th rho eta [.ref a, .int i] [.ref a, .int i t] [.rat q1, .int i] Qa EX I S' xo (.cons rfl (.cons ⟨t, rfl⟩ .nil)) ⟨_, _, rfl, ⟨a, rfl, R1⟩, _, _, rfl, rfl, rfl⟩ hq) (fun _ _ z => epa_back z) fun _ _ z => z
  · exact hq.elim
/-- != by the own == -/
def neQ (Q : QA) : QA := fun d eta => match d with
  | .bl b => Q (.bl (!b)) eta
  | _ => False
def raNeOwn (S : SpA) : R2a := fun d e rho eta Q EX => match d, e with
  | .rat _, .rat _ => raCall S [d, e] rho eta (neQ Q) EX
  | .rat _, .int _ => raCall S [d, e] rho eta (neQ Q) EX
  | .int _, .rat _ => raCall S [e, d] rho eta (neQ Q) EX
  | _, _ => False
theorem epa_ne {pins : List (Addr × Obj)} {σ : L2.St} {th : List Addr} {H : Hp} {rho : Rho} {Qa : QA} {u : Value} {s' : Shared} (h : EPa X W pins σ th H rho (neQ Qa) u s') : ∃ c, u = .bool c ∧ EPa X W pins σ th H rho Qa (.bool (!c)) s' := by
  obtain ⟨v, th', H', d, eta', I', r, g, S', R, q⟩ := h
  unfold neQ at q
  split at q
  · rename_i c
    have e : v = _ := R
    subst e
    obtain rfl : u = Value.bool c := r
    exact ⟨c, rfl, .bl (!c), th', H', .bl (!c), eta', I', rfl, g, S', rfl, q⟩
  · exact q.elim
theorem oa_neOwn {k : Nat} {C f : Addr} {S : SpA} (hC : W.cl 0 = C) (O : OwnC X.K C "__eq__" f) (N : OwnN X.K C) (F : FnR X.prog X.w X.K X.mg X.base (L2.CX X.prog X.w) k f (spOf W S)) (hr : Room (k + 1) X.A) (tk : Takes X Wx) :
    OpA X W Wx (compareOp .NotEq) (raNeOwn S) := fun pins s σ H th rho eta x y v u d e Qa EX I S' xo rx ry Rd Re hq => by
  show wpAny _ _ (richCompare .NotEq v u) _ _ _
  unfold raNeOwn at hq
  have hu : X.A.units < cLine := by have := hr.un; omega
  have hu1 : X.A.in1.units < cLine := by have := hr.in1.un; omega
  split at hq
  · rename_i q1 q2
    obtain ⟨a, rfl, R1⟩ := Rd
    obtain ⟨b, rfl, R2⟩ := Re
    obtain rfl : v = Value.ref a := rx
    obtain rfl : u = Value.ref b := ry
    obtain ⟨dx, sl, od, rs, J, _⟩ := rat_inst I R1
    obtain ⟨dx2, sl2, od2, rs2, J2, _⟩ := rat_inst I R2
    rw [hC] at J J2
    refine rich_left hu I.kIn J J2.type notFirst_self (try_ne hu1 I.kIn J N.ne N.mro O.hs O.hf ?_)
    exact wpAny_mono (cl_fn_at (A' := X.A.in1) F hr.in1 tk (fun I => I.env0.in1) pins s σ H th rho eta [.ref a, .ref b] [.ref a, .ref b] [.rat q1, .rat q2] _ EX I S' xo (.cons rfl (.cons rfl .nil)) ⟨_, _, rfl, ⟨a, rfl, R1⟩, _, _, rfl, ⟨b, rfl, R2⟩, rfl⟩ hq) (fun _ _ z => epa_ne z) fun _ _ z => z
  · rename_i q1 i
    obtain ⟨a, rfl, R1⟩ := Rd
    have Re' : y = _ := Re
    subst Re'
    obtain rfl : v = Value.ref a := rx
    obtain ⟨t, rfl⟩ := ry
    obtain ⟨dx, sl, od, rs, J, _⟩ := rat_inst I R1
    rw [hC] at J
    refine rich_left (tb := .type "int") hu I.kIn J (PySem.W.Looks.of_pure rfl) (notFirst_int O.subT) (try_ne hu1 I.kIn J N.ne N.mro O.hs O.hf ?_)
    exact wpAny_mono (cl_fn_at (A' := X.A.in1) F hr.in1 tk (fun I => I.env0.in1) pins s σ H th rho eta [.ref a, .int i] [.ref a, .int i t] [.rat q1, .int i] _ EX I S' xo (.cons rfl (.cons ⟨t, rfl⟩ .nil)) ⟨_, _, rfl, ⟨a, rfl, R1⟩, _, _, rfl, rfl, rfl⟩ hq) (fun _ _ z => epa_ne z) fun _ _ z => z
  · rename_i i q1
    obtain ⟨a, rfl, R1⟩ := Re
    have Rd' : x = _ := Rd
    subst Rd'
    obtain rfl : u = Value.ref a := ry
    obtain ⟨t, rfl⟩ := rx
    obtain ⟨dx, sl, od, rs, J, _⟩ := rat_inst I R1
    rw [hC] at J
    refine rich_right icmp_ne hu I.kIn J rfl O.subI (try_ne hu1 I.kIn J N.ne N.mro O.hs O.hf ?_)
    exact wpAny_mono (cl_fn_at (A' := X.A.in1) F hr.in1 tk (fun I => I.env0.in1) pins s σ H th rho eta [.ref a, .int i] [.ref a, .int i t] [.rat q1, .int i] _ EX I S' xo (.cons rfl (.cons ⟨t, rfl⟩ .nil)) ⟨_, _, rfl, ⟨a, rfl, R1⟩, _, _, rfl, rfl, rfl⟩ hq) (fun _ _ z => epa_ne z) fun _ _ z => z
  · exact hq.elim
/-- one reading for !=: plain data, Ratios -/
def raNeW (S : SpA) : R2a := fun d e rho eta Q EX => match d, e with
  | .rat a, .rat b => raCall S [.rat a, .rat b] rho eta (neQ Q) EX
  | .rat a, .int b => raCall S [.rat a, .int b] rho eta (neQ Q) EX
  | .int a, .rat b => raCall S [.rat b, .int a] rho eta (neQ Q) EX
  | d, e => raNe d e rho eta Q EX
theorem oa_neW {S : SpA} (h0 : OpA X W Wx (compareOp .NotEq) raNe) (h : OpA X W Wx (compareOp .NotEq) (raNeOwn S)) : OpA X W Wx (compareOp .NotEq) (raNeW S) :=
  fun pins s σ H th rho eta x y v u d e Qa EX I S' xo rx ry Rd Re hq => by
    unfold raNeW at hq
    split at hq
    · exact h pins s σ H th rho eta x y v u _ _ Qa EX I S' xo rx ry Rd Re hq
    · exact h pins s σ H th rho eta x y v u _ _ Qa EX I S' xo rx ry Rd Re hq
    · exact h pins s σ H th rho eta x y v u _ _ Qa EX I S' xo rx ry Rd Re hq
    · exact h0 pins s σ H th rho eta x y v u _ _ Qa EX I S' xo rx ry Rd Re hq
end
end RF
set_option maxRecDepth 100000
set_option maxHeartbeats 4000000
namespace RF
open PySem PySem.Spec PyProof.Rows L2
section
variable {prog : Program} {w : World} {A : Around} {E : Value → Shared → Prop} {s : Shared} {K : PySem.W.Frag} {x C f : Addr} {ox : Obj} {od : Option Obj}
/-- bool(x) by x's own __bool__ -/
theorem bool_own {Q : Value → Shared → Prop} {h₀ : Heap} {L : Addr} {m : Str → Option Value} (F0 : Fr h₀ L s.heap m) (X₀ : K.In h₀) (I : PySem.W.InstAt s.heap x ox C od) (hs : PySem.W.findIn K (.ref C) "__bool__" = some (some (.ref f))) (hf : PySem.W.isFn K (.ref f) = true)
    (h : wpAny (model prog w) A.in1.in1 (call (.ref f) [.ref x]) (PySem.W.BoolBack fun b s' => Q (.bool b) s') E s) : wpAny (model prog w) A (call (.type "bool") [.ref x]) Q E s := by
  refine callType_codes (T := "bool") (Bi := Builtin.«object.__init__») (Q₁ := fun r s₁ => ∃ b, r = .bool b ∧ Q r s₁) PySem.F.called_bool (PySem.F.typeCall_bool_1 _) PySem.F.entry_object_init ?_ ?_
  · refine codeAny_of_tree ?_
    show wpAny _ A.in1.in1 (do checkBuiltinCall "bool.__new__" ⟨[.type "bool", .ref x], []⟩; again (.builtin "bool.__new__" ⟨[.type "bool", .ref x], []⟩)) _ _ s
    refine wpAny_bind (wpAny_of_eq (PySem.F.newCall_bool_1 _) (wpAny_pure ⟨plainId_quiet (by decide +kernel) _, codeAny_builtin PySem.F.entry_bool_new ?_⟩))
    rw [Around.under_plainId (by decide +kernel) _]
    unfold Builtin.«bool.__new__»
    refine wpAny_bind (wpAny_of_eq (a := true) rfl ?_)
    refine wpAny_ite_false rfl ?_
    refine wpAny_bind (wpAny_of_eq (a := true) PySem.F.conv_sub_bool ?_)
    refine wpAny_ite_false rfl ?_
    refine wpAny_bind (wpAny_of_eq (a := [Value.ref x]) rfl ?_)
    refine wpAny_bind (PySem.W.truthy_K F0 X₀ I hs hf (wpAny_mono h (fun r s' hr => ?_) fun _ _ y => y))
    cases r <;> first | exact hr.elim | exact wpAny_pure ⟨_, rfl, hr⟩
  · rintro obj s₁ ⟨b, rfl, hq⟩
    exact ⟨PySem.typeIs_bool _ _, PySem.F.args_object_init_2 _ _, object_init_meets PySem.F.called_bool.init.lookup PySem.F.called_bool.made (by decide) prog w A.in1 _ s₁ ⟨PySem.typeIs_bool _ _, rfl, hq⟩⟩
end
section
variable {X : Cx} {W : Wd} {Wx : WX}
def boolQ (Q : QA) : QA := fun d eta => match d with
  | .bl b => Q (.bl b) eta
  | _ => False
def raBoolR (S : SpA) : RNa := fun ds rho eta Q EX => match ds with
  | [.int i] => Q (.bl (i != 0)) eta
  | [.bl b] => Q (.bl b) eta
  | [.rat q] => raCall S [.rat q] rho eta (boolQ Q) EX
  | _ => False
theorem ca_boolR {k : Nat} {C f : Addr} {S : SpA} (hC : W.cl 0 = C) (O : OwnU X.K C "__bool__" f) (F : FnR X.prog X.w X.K X.mg X.base (L2.CX X.prog X.w) k f (spOf W S)) (hr : Room (k + 2) X.A) (tk : Takes X Wx) : ClA X W Wx (.type "bool") (raBoolR S) :=
  fun pins s σ H th rho eta xs us ds Qa EX I S' xo rx Rd hq => by
    unfold raBoolR at hq
    split at hq
    · exact ca_bool pins s σ H th rho eta xs us _ Qa EX I S' xo rx Rd hq
    · exact ca_bool pins s σ H th rho eta xs us _ Qa EX I S' xo rx Rd hq
    · rename_i q1
      obtain ⟨v, rfl, Rd1⟩ := Rd.one
      obtain ⟨a, rfl, R1⟩ := Rd1
      cases rx with
      | cons r1 rr =>
        cases rr
        rename_i u
        obtain rfl : u = Value.ref a := r1
        obtain ⟨dx, sl, od, rs, J, _⟩ := rat_inst I R1
        rw [hC] at J
        obtain ⟨m, F0⟩ := I.fr
        refine bool_own F0 I.ok.mod.kin J O.hs O.hf (wpAny_mono (cl_fn_at (A' := X.A.in1.in1) F hr.in1.in1 tk (fun I => I.env0.in1.in1) pins s σ H th rho eta [.ref a] [.ref a] [.rat q1] _ EX I S' xo (.cons rfl .nil) ⟨_, _, rfl, ⟨a, rfl, R1⟩, rfl⟩ hq) (fun z s' hz => ?_) fun _ _ z => z)
        obtain ⟨v, th', H', d, eta', I', r, g, S'', R', q⟩ := hz
        unfold boolQ at q
        split at q
        · have e : v = _ := R'
          subst e
          obtain rfl : z = Value.bool _ := r
          exact ⟨.bl _, th', H', .bl _, eta', I', rfl, g, S'', rfl, q⟩
        · exact q.elim
    · exact hq.elim
/-! steps -/
variable {rho : Rho} {eta : List MO} {EX : EXA} {Q : QA}
theorem i_boolR {S : SpA} {q : Rat} (h : raCall S [.rat q] rho eta (boolQ Q) EX) : raBoolR S [.rat q] rho eta Q EX := h
theorem i_boolQ {b : Bool} (h : Q (.bl b) eta) : boolQ Q (.bl b) eta := h
theorem i_bool1 {S : SpA} {i : Int} (h : Q (.bl (i != 0)) eta) : raBoolR S [.int i] rho eta Q EX := h
theorem i_bool2 {S : SpA} {b : Bool} (h : Q (.bl b) eta) : raBoolR S [.bl b] rho eta Q EX := h
theorem i_neQ {b : Bool} (h : Q (.bl (!b)) eta) : neQ Q (.bl b) eta := h
theorem i_neRR {S : SpA} {a b : Rat} (h : raCall S [.rat a, .rat b] rho eta (neQ Q) EX) : raNeW S (.rat a) (.rat b) rho eta Q EX := h
theorem i_neRI {S : SpA} {a : Rat} {b : Int} (h : raCall S [.rat a, .int b] rho eta (neQ Q) EX) : raNeW S (.rat a) (.int b) rho eta Q EX := h
theorem i_neIR {S : SpA} {a : Int} {b : Rat} (h : raCall S [.rat b, .int a] rho eta (neQ Q) EX) : raNeW S (.int a) (.rat b) rho eta Q EX := h
theorem i_neLL {S : SpA} {a b : List D} (h : raNe (.fl a) (.fl b) rho eta Q EX) : raNeW S (.fl a) (.fl b) rho eta Q EX := h
theorem i_neBB {S : SpA} {a b : Bool} (h : raNe (.bl a) (.bl b) rho eta Q EX) : raNeW S (.bl a) (.bl b) rho eta Q EX := h
theorem i_neII {S : SpA} {a b : Int} (h : raNe (.int a) (.int b) rho eta Q EX) : raNeW S (.int a) (.int b) rho eta Q EX := h
theorem i_neTT {S : SpA} {a b : List D} (h : raNe (.tup a) (.tup b) rho eta Q EX) : raNeW S (.tup a) (.tup b) rho eta Q EX := h
end
end RF
set_option maxRecDepth 100000
set_option maxHeartbeats 4000000
namespace RF
open PySem PySem.Spec PyProof.Rows L2
def topS (i : Nat) : Stmt := PySem.Challenge.pw_risingfill_k04_ratio_order.main.body.getD i (.Pass ⟨0, 0, 0, 0⟩)
structure Txt (K : PySem.W.Frag) (mg : Str → Option Value) (W : Wd) : Prop where
  rc : RatC K (W.cl 0) (adrOf (PySem.W.findIn K (.ref (W.cl 0)) "top")) (adrOf (PySem.W.findIn K (.ref (W.cl 0)) "bottom")) (adrOf (PySem.W.findIn K (.ref (W.cl 0)) "__init__"))
  oc_eq : OwnC K (W.cl 0) "__eq__" (adrOf (PySem.W.findIn K (.ref (W.cl 0)) "__eq__"))
  mg_Ratio : mg "Ratio" = some (.ref (W.cl 0))
  kp_Ratio : PySem.W.keepIn K (.ref (W.cl 0)) = true
  on_ne : OwnN K (W.cl 0)
  oc_ge : OwnC K (W.cl 0) "__ge__" (adrOf (PySem.W.findIn K (.ref (W.cl 0)) "__ge__"))
  oc_le : OwnC K (W.cl 0) "__le__" (adrOf (PySem.W.findIn K (.ref (W.cl 0)) "__le__"))
  oc_gt : OwnC K (W.cl 0) "__gt__" (adrOf (PySem.W.findIn K (.ref (W.cl 0)) "__gt__"))
  oc_lt : OwnC K (W.cl 0) "__lt__" (adrOf (PySem.W.findIn K (.ref (W.cl 0)) "__lt__"))
  is_bool : IsiOk K (W.cl 0) isBool [.type "bool"]
  no_bool : mg "bool" = none
  no_isinstance : mg "isinstance" = none
  ou_bool : OwnU K (W.cl 0) "__bool__" (adrOf (PySem.W.findIn K (.ref (W.cl 0)) "__bool__"))
  no_len : mg "len" = none
  no_range : mg "range" = none
  no_abs : mg "abs" = none
  no_sum : mg "sum" = none
  no_int : mg "int" = none
  no_list : mg "list" = none
  is_Ratio : IsiOk K (W.cl 0) isRat [.ref (W.cl 0)]
  is_int : IsiOk K (W.cl 0) isInt [.type "int"]
  xi_ZeroBottom : XIn K (W.cl 2)
  mg_ZeroBottom : mg "ZeroBottom" = some (.ref (W.cl 2))
  mg_gcd : mg "gcd" = some (.builtin "math.gcd")
section
variable {P : Program} {w : World} {K : PySem.W.Frag} {mg : Str → Option Value} {base : Heap} {W : Wd}
theorem sc_l_tape : FnScope ["_law_script", "_law_seed", "_law_k"] ["_law_script"] (defScope (topS 9)) := ⟨rfl, rfl, rfl, by decide +kernel, rfl, by decide +kernel, by decide +kernel⟩
def r_l_tape (W : Wd) : TSa :=
    (aSeq (aSet 1 (aCall raSum (aCons (aLc (aRng1 (aCons (aCall raLen (aCons (aVar 0) aNil)) aNil)) (aGN 2) aYes (aOp raMul0 (aCall raAbs (aCons (aOp raIxS (aVar 0) (aVar 2)) aNil)) (aOp raAdd0 (aVar 2) (aC (.int 1)))) [2]) aNil)))
    (aRet (aLst (aCons (aCall raListF (aCons (aVar 0) aNil)) (aCons (aC (.int 0)) (aCons (aC (.int 0)) (aCons (aC (.int 0)) (aCons (aOp raMod0 (aCall raInt (aCons (aVar 1) aNil)) (aC (.int 2147483647))) aNil))))))))
theorem ok_l_tape (T : Txt K mg W)  {f : Addr} {fd : FuncData} {kws : List (Str × V)} {S : SpA} (F : FunD K "_law_tape" "_law_tape" (defArgs (topS 9)) (defBody (topS 9)) (defScope (topS 9)) [] kws f fd) (hS : Keeps 1 3 S (r_l_tape W)) : FnOk P w K mg base (L2.CX P w) 1 f fd ["_law_script"] (spOf W S) :=
  have nd := sc_l_tape.nd
  ok_by F sc_l_tape hS fun cdv A outer s H E hr hu tk po => by
    exact (ss_cons (sa_set (i := 1) nd rfl (Or.inl rfl) (ea_callB (ca_sum rfl) T.no_sum bt_sum (aa_cons (ea_lc (own := [("_law_k", 2)]) (g := gName 2) rfl nd (ia_range1 T.no_range (aa_cons (ea_callB ca_len T.no_len bt_len (aa_cons (ea_var 0) aa_nil)) aa_nil)) (blkOk_by (N := ["_law_script", "_law_seed", "_law_k"]) (sc := defScope (topS 9)) (by decide +kernel)) (fun _ _ _ _ _ => pg_name (i := 2) nd rfl (Or.inl rfl)) (gk_name (by decide)) (fun _ _ _ _ _ => ts_nil) (fun _ _ _ _ _ => (ea_op oa_mul0 (ea_callB ca_abs T.no_abs bt_abs (aa_cons (ea_ix ixa_seq (ea_var 0) (ea_var 2)) aa_nil)) (ea_op oa_add0 (ea_var 2) ea_int)))) aa_nil)))
      (ss_one (sa_ret (ea_lst (aa_cons (ea_callTy ca_listF T.no_list bt_list (aa_cons (ea_var 0) aa_nil)) (aa_cons ea_int (aa_cons ea_int (aa_cons ea_int (aa_cons (ea_op oa_mod0 (ea_callTy ca_int T.no_int bt_int (aa_cons (ea_var 1) aa_nil)) ea_int) aa_nil)))))))))
theorem sc_l_take : FnScope ["_law_tape_here", "_law_many", "_law_fresh", "_law_value", "_law_digit"] ["_law_tape_here", "_law_many"] (defScope (topS 10)) := ⟨rfl, rfl, rfl, by decide +kernel, rfl, by decide +kernel, by decide +kernel⟩
def r_l_take (W : Wd) : TSa :=
    (aSeq (sSub raSetL (aVar 0) (aC (.int 3)) (aOp raAdd0 (aOp raIxS (aVar 0) (aC (.int 3))) (aC (.int 1))))
    (aSeq (aSet 2 (aAndV (aOp raEq (aOp raIxS (aVar 0) (aC (.int 2))) (aC (.int 0))) (aOp raLt0 (aOp raIxS (aVar 0) (aC (.int 1))) (aCall raLen (aCons (aOp raIxS (aVar 0) (aC (.int 0))) aNil)))))
    (aSeq (aIfS (aTst (aVar 2)) (aSeq (sSub raSetL (aVar 0) (aC (.int 2)) (aCall raAbs (aCons (aOp raIxS (aOp raIxS (aVar 0) (aC (.int 0))) (aOp raIxS (aVar 0) (aC (.int 1)))) aNil)))
    (sSub raSetL (aVar 0) (aC (.int 1)) (aOp raAdd0 (aOp raIxS (aVar 0) (aC (.int 1))) (aC (.int 1))))) aNext)
    (aSeq (aIfS (aOr (aTst (aVar 2)) (aTst (aOp raGt0 (aOp raIxS (aVar 0) (aC (.int 2))) (aC (.int 0))))) (aSeq (aSet 4 (aOp raMod0 (aCall raInt (aCons (aOp raIxS (aVar 0) (aC (.int 2))) aNil)) (aVar 1)))
    (aSeq (sSub raSetL (aVar 0) (aC (.int 2)) (aOp raDiv0 (aOp raIxS (aVar 0) (aC (.int 2))) (aVar 1)))
    (aRet (aVar 4)))) aNext)
    (aSeq (aSet 3 (aOp raMul0 (aOp raIxS (aVar 0) (aC (.int 3))) (aOp raAdd0 (aOp raIxS (aVar 0) (aC (.int 3))) (aOp raIxS (aVar 0) (aC (.int 4))))))
    (aSeq (aIfS (aTst (aOp raGt0 (aOp raIxS (aVar 0) (aC (.int 4))) (aC (.int 0)))) (aSeq (aSet 3 (aOp raMod0 (aCall raInt (aCons (aOp raAdd0 (aOp raMul0 (aVar 3) (aC (.int 48271))) (aOp raIxS (aVar 0) (aC (.int 4)))) aNil)) (aC (.int 2147483647))))
    (aSet 3 (aOp raDiv0 (aOp raMod0 (aCall raInt (aCons (aOp raAdd0 (aOp raMul0 (aVar 3) (aC (.int 16807))) (aOp raIxS (aVar 0) (aC (.int 3)))) aNil)) (aC (.int 2147483629))) (aC (.int 8))))) aNext)
    (aRet (aOp raMod0 (aCall raInt (aCons (aVar 3) aNil)) (aVar 1)))))))))
theorem ok_l_take (T : Txt K mg W)  {f : Addr} {fd : FuncData} {kws : List (Str × V)} {S : SpA} (F : FunD K "_law_take" "_law_take" (defArgs (topS 10)) (defBody (topS 10)) (defScope (topS 10)) [] kws f fd) (hS : Keeps 2 5 S (r_l_take W)) : FnOk P w K mg base (L2.CX P w) 1 f fd ["_law_tape_here", "_law_many"] (spOf W S) :=
  have nd := sc_l_take.nd
  ok_by F sc_l_take hS fun cdv A outer s H E hr hu tk po => by
    exact (ss_cons (sa_sub seta_list (ea_var 0) ea_int (ea_op oa_add0 (ea_ix ixa_seq (ea_var 0) ea_int) ea_int))
      (ss_cons (sa_set (i := 2) nd rfl (Or.inl rfl) (ea_and (ea_cmp (oa_eq hu) (ea_ix ixa_seq (ea_var 0) ea_int) ea_int) (ea_one (ea_cmp oa_lt0 (ea_ix ixa_seq (ea_var 0) ea_int) (ea_callB ca_len T.no_len bt_len (aa_cons (ea_ix ixa_seq (ea_var 0) ea_int) aa_nil))))))
      (ss_cons (sa_if (ta_val (ea_var 2)) (ss_cons (sa_sub seta_list (ea_var 0) ea_int (ea_callB ca_abs T.no_abs bt_abs (aa_cons (ea_ix ixa_seq (ea_ix ixa_seq (ea_var 0) ea_int) (ea_ix ixa_seq (ea_var 0) ea_int)) aa_nil)))
      (ss_one (sa_sub seta_list (ea_var 0) ea_int (ea_op oa_add0 (ea_ix ixa_seq (ea_var 0) ea_int) ea_int)))) ss_nil)
      (ss_cons (sa_if (wa_or (ta_val (ea_var 2)) (wa_or1 (ta_cmp oa_gt0 (ea_ix ixa_seq (ea_var 0) ea_int) ea_int))).ta (ss_cons (sa_set (i := 4) nd rfl (Or.inl rfl) (ea_op oa_mod0 (ea_callTy ca_int T.no_int bt_int (aa_cons (ea_ix ixa_seq (ea_var 0) ea_int) aa_nil)) (ea_var 1)))
      (ss_cons (sa_sub seta_list (ea_var 0) ea_int (ea_op oa_div0 (ea_ix ixa_seq (ea_var 0) ea_int) (ea_var 1)))
      (ss_one (sa_ret (ea_var 4))))) ss_nil)
      (ss_cons (sa_set (i := 3) nd rfl (Or.inl rfl) (ea_op oa_mul0 (ea_ix ixa_seq (ea_var 0) ea_int) (ea_op oa_add0 (ea_ix ixa_seq (ea_var 0) ea_int) (ea_ix ixa_seq (ea_var 0) ea_int))))
      (ss_cons (sa_if (ta_cmp oa_gt0 (ea_ix ixa_seq (ea_var 0) ea_int) ea_int) (ss_cons (sa_set (i := 3) nd rfl (Or.inl rfl) (ea_op oa_mod0 (ea_callTy ca_int T.no_int bt_int (aa_cons (ea_op oa_add0 (ea_op oa_mul0 (ea_var 3) ea_int) (ea_ix ixa_seq (ea_var 0) ea_int)) aa_nil)) ea_int))
      (ss_one (sa_set (i := 3) nd rfl (Or.inl rfl) (ea_op oa_div0 (ea_op oa_mod0 (ea_callTy ca_int T.no_int bt_int (aa_cons (ea_op oa_add0 (ea_op oa_mul0 (ea_var 3) ea_int) (ea_ix ixa_seq (ea_var 0) ea_int)) aa_nil)) ea_int) ea_int)))) ss_nil)
      (ss_one (sa_ret (ea_op oa_mod0 (ea_callTy ca_int T.no_int bt_int (aa_cons (ea_var 3) aa_nil)) (ea_var 1))))))))))
theorem sc_l_signed : FnScope ["_law_tape_here", "_law_size"] ["_law_tape_here"] (defScope (topS 15)) := ⟨rfl, rfl, rfl, by decide +kernel, rfl, by decide +kernel, by decide +kernel⟩
def r_l_signed (W : Wd) (S_l_take : SpA) : TSa :=
    (aSeq (aSet 1 (aCall (raCall S_l_take) (aCons (aVar 0) (aCons (aOp raIxS (aFl (aCons (aC (.int 13)) (aCons (aC (.int 1000)) (aCons (aOp raPow0 (aC (.int 10)) (aC (.int 15))) aNil)))) (aCall (raCall S_l_take) (aCons (aVar 0) (aCons (aC (.int 3)) aNil)))) aNil))))
    (aSeq (aIfS (aTst (aOp raEq (aCall (raCall S_l_take) (aCons (aVar 0) (aCons (aC (.int 2)) aNil))) (aC (.int 1)))) (aRet (aUn raNeg (aVar 1))) aNext)
    (aRet (aVar 1))))
theorem ok_l_signed (T : Txt K mg W) {S_l_take : SpA} (h_l_take : Has P w K mg base W "_law_take" 1 S_l_take) {f : Addr} {fd : FuncData} {kws : List (Str × V)} {S : SpA} (F : FunD K "_law_signed" "_law_signed" (defArgs (topS 15)) (defBody (topS 15)) (defScope (topS 15)) [] kws f fd) (hS : Keeps 1 2 S (r_l_signed W S_l_take)) : FnOk P w K mg base (L2.CX P w) 2 f fd ["_law_tape_here"] (spOf W S) :=
  have nd := sc_l_signed.nd
  ok_by F sc_l_signed hS fun cdv A outer s H E hr hu tk po => by
    exact (ss_cons (sa_set (i := 1) nd rfl (Or.inl rfl) (ea_callH h_l_take hr tk (aa_cons (ea_var 0) (aa_cons (ea_ix ixa_seq (ea_fl (aa_cons ea_int (aa_cons ea_int (aa_cons (ea_op oa_pow0 ea_int ea_int) aa_nil)))) (ea_callH h_l_take hr tk (aa_cons (ea_var 0) (aa_cons ea_int aa_nil)))) aa_nil))))
      (ss_cons (sa_if (ta_cmp (oa_eq hu) (ea_callH h_l_take hr tk (aa_cons (ea_var 0) (aa_cons ea_int aa_nil))) ea_int) (ss_one (sa_ret (ea_un ua_neg (ea_var 1)))) ss_nil)
      (ss_one (sa_ret (ea_var 1)))))
theorem sc_l_gcd : FnScope ["_law_a", "_law_b"] ["_law_a", "_law_b"] (defScope (topS 12)) := ⟨rfl, rfl, rfl, by decide +kernel, rfl, by decide +kernel, by decide +kernel⟩
def r_l_gcd (W : Wd) : TSa :=
    (aSeq (aSet 0 (aCall raAbs (aCons (aVar 0) aNil)))
    (aSeq (aSet 1 (aCall raAbs (aCons (aVar 1) aNil)))
    (aSeq (aWh (aTst (aOp raGt0 (aVar 1) (aC (.int 0)))) (aPar 0 1 (aCons (aVar 1) (aCons (aOp raMod0 (aCall raInt (aCons (aVar 0) aNil)) (aVar 1)) aNil))))
    (aRet (aVar 0)))))
theorem ok_l_gcd (T : Txt K mg W)  {f : Addr} {fd : FuncData} {kws : List (Str × V)} {S : SpA} (F : FunD K "_law_gcd" "_law_gcd" (defArgs (topS 12)) (defBody (topS 12)) (defScope (topS 12)) [] kws f fd) (hS : Keeps 2 2 S (r_l_gcd W)) : FnOk P w K mg base (L2.CX P w) 1 f fd ["_law_a", "_law_b"] (spOf W S) :=
  have nd := sc_l_gcd.nd
  ok_by F sc_l_gcd hS fun cdv A outer s H E hr hu tk po => by
    exact (ss_cons (sa_set (i := 0) nd rfl (Or.inl rfl) (ea_callB ca_abs T.no_abs bt_abs (aa_cons (ea_var 0) aa_nil)))
      (ss_cons (sa_set (i := 1) nd rfl (Or.inl rfl) (ea_callB ca_abs T.no_abs bt_abs (aa_cons (ea_var 1) aa_nil)))
      (ss_cons (sa_while po (ta_cmp oa_gt0 (ea_var 1) ea_int) (ss_one (sa_par (i := 0) (j := 1) rfl nd rfl rfl (by decide) rfl rfl (aa_cons (ea_var 1) (aa_cons (ea_op oa_mod0 (ea_callTy ca_int T.no_int bt_int (aa_cons (ea_var 0) aa_nil)) (ea_var 1)) aa_nil)))))
      (ss_one (sa_ret (ea_var 0))))))
theorem sc_l_low : FnScope ["_law_top", "_law_bottom", "_law_common"] ["_law_top", "_law_bottom"] (defScope (topS 13)) := ⟨rfl, rfl, rfl, by decide +kernel, rfl, by decide +kernel, by decide +kernel⟩
def r_l_low (W : Wd) (S_l_gcd : SpA) : TSa :=
    (aSeq (aSet 2 (aCall (raCall S_l_gcd) (aCons (aVar 0) (aCons (aVar 1) aNil))))
    (aRet (aTup (aCons (aOp raDiv0 (aVar 0) (aVar 2)) (aCons (aOp raDiv0 (aVar 1) (aVar 2)) aNil)))))
theorem ok_l_low (T : Txt K mg W) {S_l_gcd : SpA} (h_l_gcd : Has P w K mg base W "_law_gcd" 1 S_l_gcd) {f : Addr} {fd : FuncData} {kws : List (Str × V)} {S : SpA} (F : FunD K "_law_low" "_law_low" (defArgs (topS 13)) (defBody (topS 13)) (defScope (topS 13)) [] kws f fd) (hS : Keeps 2 3 S (r_l_low W S_l_gcd)) : FnOk P w K mg base (L2.CX P w) 2 f fd ["_law_top", "_law_bottom"] (spOf W S) :=
  have nd := sc_l_low.nd
  ok_by F sc_l_low hS fun cdv A outer s H E hr hu tk po => by
    exact (ss_cons (sa_set (i := 2) nd rfl (Or.inl rfl) (ea_callH h_l_gcd hr tk (aa_cons (ea_var 0) (aa_cons (ea_var 1) aa_nil))))
      (ss_one (sa_ret (ea_tup (aa_cons (ea_op oa_div0 (ea_var 0) (ea_var 2)) (aa_cons (ea_op oa_div0 (ea_var 1) (ea_var 2)) aa_nil))))))
theorem sc_l_fraction : FnScope ["_law_tape_here", "_law_top"] ["_law_tape_here"] (defScope (topS 16)) := ⟨rfl, rfl, rfl, by decide +kernel, rfl, by decide +kernel, by decide +kernel⟩
def r_l_fraction (W : Wd) (S_l_signed : SpA) (S_l_take : SpA) (S_l_low : SpA) : TSa :=
    (aSeq (aSet 1 (aCall (raCall S_l_signed) (aCons (aVar 0) aNil)))
    (aRet (aCall (raCall S_l_low) (aCons (aVar 1) (aCons (aOp raAdd0 (aC (.int 1)) (aCall (raCall S_l_take) (aCons (aVar 0) (aCons (aOp raIxS (aFl (aCons (aC (.int 24)) (aCons (aC (.int 24)) (aCons (aOp raPow0 (aC (.int 10)) (aC (.int 9))) aNil)))) (aCall (raCall S_l_take) (aCons (aVar 0) (aCons (aC (.int 3)) aNil)))) aNil)))) aNil)))))
theorem ok_l_fraction (T : Txt K mg W) {S_l_signed : SpA} {S_l_take : SpA} {S_l_low : SpA} (h_l_signed : Has P w K mg base W "_law_signed" 2 S_l_signed) (h_l_take : Has P w K mg base W "_law_take" 1 S_l_take) (h_l_low : Has P w K mg base W "_law_low" 2 S_l_low) {f : Addr} {fd : FuncData} {kws : List (Str × V)} {S : SpA} (F : FunD K "_law_fraction" "_law_fraction" (defArgs (topS 16)) (defBody (topS 16)) (defScope (topS 16)) [] kws f fd) (hS : Keeps 1 2 S (r_l_fraction W S_l_signed S_l_take S_l_low)) : FnOk P w K mg base (L2.CX P w) 3 f fd ["_law_tape_here"] (spOf W S) :=
  have nd := sc_l_fraction.nd
  ok_by F sc_l_fraction hS fun cdv A outer s H E hr hu tk po => by
    exact (ss_cons (sa_set (i := 1) nd rfl (Or.inl rfl) (ea_callH h_l_signed hr tk (aa_cons (ea_var 0) aa_nil)))
      (ss_one (sa_ret (ea_callH h_l_low hr tk (aa_cons (ea_var 1) (aa_cons (ea_op oa_add0 ea_int (ea_callH h_l_take hr tk (aa_cons (ea_var 0) (aa_cons (ea_ix ixa_seq (ea_fl (aa_cons ea_int (aa_cons ea_int (aa_cons (ea_op oa_pow0 ea_int ea_int) aa_nil)))) (ea_callH h_l_take hr tk (aa_cons (ea_var 0) (aa_cons ea_int aa_nil)))) aa_nil)))) aa_nil))))))
theorem sc_Ratio_eq : FnScope ["self", "other"] ["self", "other"] (defScope (inClass (topS 6) 17)) := ⟨rfl, rfl, rfl, by decide +kernel, rfl, by decide +kernel, by decide +kernel⟩
def r_Ratio_eq (W : Wd) : TSa :=
    (aSeq (aIfS (aTst (aCall (raIsi (.cls 0) isRat) (aCons (aVar 1) (aCons (aC (.cls 0)) aNil)))) (aRet (aAndV (aOp raEq (aFldR false (aVar 0)) (aFldR false (aVar 1))) (aOp raEq (aFldR true (aVar 0)) (aFldR true (aVar 1))))) aNext)
    (aRet (aAndV (aCall (raIsi (.ty "int") isInt) (aCons (aVar 1) (aCons (aC (.ty "int")) aNil))) (aAndV (aOp raEq (aFldR false (aVar 0)) (aVar 1)) (aOp raEq (aFldR true (aVar 0)) (aC (.int 1)))))))
theorem ok_Ratio_eq (T : Txt K mg W)  {f : Addr} {fd : FuncData} {kws : List (Str × V)} {S : SpA} (F : FunD K "__eq__" "Ratio.__eq__" (defArgs (inClass (topS 6) 17)) (defBody (inClass (topS 6) 17)) (defScope (inClass (topS 6) 17)) [] kws f fd) (hS : Keeps 2 2 S (r_Ratio_eq W)) : FnOk P w K mg base (L2.CX P w) 1 f fd ["self", "other"] (spOf W S) :=
  have nd := sc_Ratio_eq.nd
  ok_by F sc_Ratio_eq hS fun cdv A outer s H E hr hu tk po => by
    exact (ss_cons (sa_if (ta_val (ea_callB (ca_isi (c := .cls 0) (f := isRat) T.rc rfl rfl T.is_Ratio) T.no_isinstance bt_isinstance (aa_cons (ea_var 1) (aa_cons (ea_cls rfl T.mg_Ratio) aa_nil)))) (ss_one (sa_ret (ea_and (ea_cmp (oa_eq hu) (ea_fldR (b := false) T.rc rfl (ea_var 0) T.rc.sT rfl) (ea_fldR (b := false) T.rc rfl (ea_var 1) T.rc.sT rfl)) (ea_one (ea_cmp (oa_eq hu) (ea_fldR (b := true) T.rc rfl (ea_var 0) T.rc.sB rfl) (ea_fldR (b := true) T.rc rfl (ea_var 1) T.rc.sB rfl)))))) ss_nil)
      (ss_one (sa_ret (ea_and (ea_callB (ca_isi (c := .ty "int") (f := isInt) T.rc rfl rfl T.is_int) T.no_isinstance bt_isinstance (aa_cons (ea_var 1) (aa_cons (ea_ty T.no_int bt_int) aa_nil))) (ea_and (ea_cmp (oa_eq hu) (ea_fldR (b := false) T.rc rfl (ea_var 0) T.rc.sT rfl) (ea_var 1)) (ea_one (ea_cmp (oa_eq hu) (ea_fldR (b := true) T.rc rfl (ea_var 0) T.rc.sB rfl) ea_int)))))))
theorem sc_Ratio_init : FnScope ["self", "top", "bottom", "common"] ["self", "top", "bottom"] (defScope (inClass (topS 6) 1)) := ⟨rfl, rfl, rfl, by decide +kernel, rfl, by decide +kernel, by decide +kernel⟩
theorem ok_Ratio_init (T : Txt K mg W) {f : Addr} {fd : FuncData} {dvs : List V} {kws : List (Str × V)} (F : FunD K "__init__" "Ratio.__init__" (defArgs (inClass (topS 6) 1)) (defBody (inClass (topS 6) 1)) (defScope (inClass (topS 6) 1)) dvs kws f fd) : FnOk P w K mg base (L2.CX P w) 1 f fd ["self", "top", "bottom"] (spRI (W.cl 0) (W.cl 2)) := by
  have nd := sc_Ratio_init.nd
  refine F.ok sc_Ratio_init (fun vs H Q E h => ?_) (fun cdv A outer s H vs Q E hr h => ⟨tRI K (W.cl 2) E, ?_, pure_rinit T.rc h⟩)
  · obtain ⟨p, dx, t, b, rfl, _⟩ := h
    rfl
  · have tk : Takes (cxOf (L2.CX P w) P w K mg base ["self", "top", "bottom", "common"] "Ratio.__init__" (defScope (inClass (topS 6) 1)) f cdv A outer s H E) (fun cls d _ H => E cls d H) := takes_of rfl rfl rfl rfl
    exact pss_cons (ps_if (pt_cmpR op_eq (pv 2) pe_int (nomark _)) (pss_one (ps_raise rfl tk (T.xi_ZeroBottom.pmk T.mg_ZeroBottom))) pss_nil)
      (pss_cons (ps_set (i := 3) nd rfl (Or.inl rfl) (pe_callBfun cr_gcd rfl T.mg_gcd (pa_cons (pv 1) (pa_cons (pv 2) pa_nil))))
      (pss_cons (ps_if (pt_cmpR op_lt (pv 2) pe_int (nomark _)) (pss_one (ps_set (i := 3) nd rfl (Or.inl rfl) (pe_un un_neg (pv 3)))) pss_nil)
      (pss_cons (SlX.ps_sl (pv 0) (pe_op op_fdivF (pv 1) (pv 3)))
      (pss_one (SlX.ps_sl (pv 0) (pe_op op_fdivF (pv 2) (pv 3)))))))
theorem sc_as_ratio : FnScope ["number"] ["number"] (defScope (topS 7)) := ⟨rfl, rfl, rfl, by decide +kernel, rfl, by decide +kernel, by decide +kernel⟩
def r_as_ratio (W : Wd) : TSa :=
    (aSeq (aIfS (aTst (aCall (raIsi (.cls 0) isRat) (aCons (aVar 0) (aCons (aC (.cls 0)) aNil)))) (aRet (aVar 0)) aNext)
    (aRet (aCall (raRat 2) (aCons (aVar 0) aNil))))
theorem ok_as_ratio (T : Txt K mg W) (h_Ratio_init : FnR P w K mg base (L2.CX P w) 1 (adrOf (PySem.W.findIn K (.ref (W.cl 0)) "__init__")) (spRI2 (W.cl 0) (W.cl 2))) {f : Addr} {fd : FuncData} {kws : List (Str × V)} {S : SpA} (F : FunD K "as_ratio" "as_ratio" (defArgs (topS 7)) (defBody (topS 7)) (defScope (topS 7)) [] kws f fd) (hS : Keeps 1 1 S (r_as_ratio W)) : FnOk P w K mg base (L2.CX P w) 4 f fd ["number"] (spOf W S) :=
  have nd := sc_as_ratio.nd
  ok_by F sc_as_ratio hS fun cdv A outer s H E hr hu tk po => by
    exact (ss_cons (sa_if (ta_val (ea_callB (ca_isi (c := .cls 0) (f := isRat) T.rc rfl rfl T.is_Ratio) T.no_isinstance bt_isinstance (aa_cons (ea_var 0) (aa_cons (ea_cls rfl T.mg_Ratio) aa_nil)))) (ss_one (sa_ret (ea_var 0))) ss_nil)
      (ss_one (sa_ret (ea_callF (cl_rat (zb := 2) T.rc rfl rfl h_Ratio_init (hr.mono (by decide)) tk) T.mg_Ratio T.kp_Ratio (aa_cons (ea_var 0) aa_nil)))))
theorem sc_Ratio_ge : FnScope ["self", "other", "right"] ["self", "other"] (defScope (inClass (topS 6) 21)) := ⟨rfl, rfl, rfl, by decide +kernel, rfl, by decide +kernel, by decide +kernel⟩
def r_Ratio_ge (W : Wd) (S_as_ratio : SpA) : TSa :=
    (aSeq (aSet 2 (aCall (raCall S_as_ratio) (aCons (aVar 1) aNil)))
    (aRet (aOp raGe0 (aOp raMul0 (aFldR false (aVar 0)) (aFldR true (aVar 2))) (aOp raMul0 (aFldR false (aVar 2)) (aFldR true (aVar 0))))))
theorem ok_Ratio_ge (T : Txt K mg W) {S_as_ratio : SpA} (h_as_ratio : Has P w K mg base W "as_ratio" 4 S_as_ratio) {f : Addr} {fd : FuncData} {kws : List (Str × V)} {S : SpA} (F : FunD K "__ge__" "Ratio.__ge__" (defArgs (inClass (topS 6) 21)) (defBody (inClass (topS 6) 21)) (defScope (inClass (topS 6) 21)) [] kws f fd) (hS : Keeps 2 3 S (r_Ratio_ge W S_as_ratio)) : FnOk P w K mg base (L2.CX P w) 5 f fd ["self", "other"] (spOf W S) :=
  have nd := sc_Ratio_ge.nd
  ok_by F sc_Ratio_ge hS fun cdv A outer s H E hr hu tk po => by
    exact (ss_cons (sa_set (i := 2) nd rfl (Or.inl rfl) (ea_callH h_as_ratio hr tk (aa_cons (ea_var 1) aa_nil)))
      (ss_one (sa_ret (ea_cmp oa_ge0 (ea_op oa_mul0 (ea_fldR (b := false) T.rc rfl (ea_var 0) T.rc.sT rfl) (ea_fldR (b := true) T.rc rfl (ea_var 2) T.rc.sB rfl)) (ea_op oa_mul0 (ea_fldR (b := false) T.rc rfl (ea_var 2) T.rc.sT rfl) (ea_fldR (b := true) T.rc rfl (ea_var 0) T.rc.sB rfl))))))
theorem sc_Ratio_le : FnScope ["self", "other", "right"] ["self", "other"] (defScope (inClass (topS 6) 19)) := ⟨rfl, rfl, rfl, by decide +kernel, rfl, by decide +kernel, by decide +kernel⟩
def r_Ratio_le (W : Wd) (S_as_ratio : SpA) : TSa :=
    (aSeq (aSet 2 (aCall (raCall S_as_ratio) (aCons (aVar 1) aNil)))
    (aRet (aOp raLe0 (aOp raMul0 (aFldR false (aVar 0)) (aFldR true (aVar 2))) (aOp raMul0 (aFldR false (aVar 2)) (aFldR true (aVar 0))))))
theorem ok_Ratio_le (T : Txt K mg W) {S_as_ratio : SpA} (h_as_ratio : Has P w K mg base W "as_ratio" 4 S_as_ratio) {f : Addr} {fd : FuncData} {kws : List (Str × V)} {S : SpA} (F : FunD K "__le__" "Ratio.__le__" (defArgs (inClass (topS 6) 19)) (defBody (inClass (topS 6) 19)) (defScope (inClass (topS 6) 19)) [] kws f fd) (hS : Keeps 2 3 S (r_Ratio_le W S_as_ratio)) : FnOk P w K mg base (L2.CX P w) 5 f fd ["self", "other"] (spOf W S) :=
  have nd := sc_Ratio_le.nd
  ok_by F sc_Ratio_le hS fun cdv A outer s H E hr hu tk po => by
    exact (ss_cons (sa_set (i := 2) nd rfl (Or.inl rfl) (ea_callH h_as_ratio hr tk (aa_cons (ea_var 1) aa_nil)))
      (ss_one (sa_ret (ea_cmp oa_le0 (ea_op oa_mul0 (ea_fldR (b := false) T.rc rfl (ea_var 0) T.rc.sT rfl) (ea_fldR (b := true) T.rc rfl (ea_var 2) T.rc.sB rfl)) (ea_op oa_mul0 (ea_fldR (b := false) T.rc rfl (ea_var 2) T.rc.sT rfl) (ea_fldR (b := true) T.rc rfl (ea_var 0) T.rc.sB rfl))))))
theorem sc_Ratio_gt : FnScope ["self", "other", "right"] ["self", "other"] (defScope (inClass (topS 6) 20)) := ⟨rfl, rfl, rfl, by decide +kernel, rfl, by decide +kernel, by decide +kernel⟩
def r_Ratio_gt (W : Wd) (S_as_ratio : SpA) : TSa :=
    (aSeq (aSet 2 (aCall (raCall S_as_ratio) (aCons (aVar 1) aNil)))
    (aRet (aOp raGt0 (aOp raMul0 (aFldR false (aVar 0)) (aFldR true (aVar 2))) (aOp raMul0 (aFldR false (aVar 2)) (aFldR true (aVar 0))))))
theorem ok_Ratio_gt (T : Txt K mg W) {S_as_ratio : SpA} (h_as_ratio : Has P w K mg base W "as_ratio" 4 S_as_ratio) {f : Addr} {fd : FuncData} {kws : List (Str × V)} {S : SpA} (F : FunD K "__gt__" "Ratio.__gt__" (defArgs (inClass (topS 6) 20)) (defBody (inClass (topS 6) 20)) (defScope (inClass (topS 6) 20)) [] kws f fd) (hS : Keeps 2 3 S (r_Ratio_gt W S_as_ratio)) : FnOk P w K mg base (L2.CX P w) 5 f fd ["self", "other"] (spOf W S) :=
  have nd := sc_Ratio_gt.nd
  ok_by F sc_Ratio_gt hS fun cdv A outer s H E hr hu tk po => by
    exact (ss_cons (sa_set (i := 2) nd rfl (Or.inl rfl) (ea_callH h_as_ratio hr tk (aa_cons (ea_var 1) aa_nil)))
      (ss_one (sa_ret (ea_cmp oa_gt0 (ea_op oa_mul0 (ea_fldR (b := false) T.rc rfl (ea_var 0) T.rc.sT rfl) (ea_fldR (b := true) T.rc rfl (ea_var 2) T.rc.sB rfl)) (ea_op oa_mul0 (ea_fldR (b := false) T.rc rfl (ea_var 2) T.rc.sT rfl) (ea_fldR (b := true) T.rc rfl (ea_var 0) T.rc.sB rfl))))))
theorem sc_Ratio_lt : FnScope ["self", "other", "right"] ["self", "other"] (defScope (inClass (topS 6) 18)) := ⟨rfl, rfl, rfl, by decide +kernel, rfl, by decide +kernel, by decide +kernel⟩
def r_Ratio_lt (W : Wd) (S_as_ratio : SpA) : TSa :=
    (aSeq (aSet 2 (aCall (raCall S_as_ratio) (aCons (aVar 1) aNil)))
    (aRet (aOp raLt0 (aOp raMul0 (aFldR false (aVar 0)) (aFldR true (aVar 2))) (aOp raMul0 (aFldR false (aVar 2)) (aFldR true (aVar 0))))))
theorem ok_Ratio_lt (T : Txt K mg W) {S_as_ratio : SpA} (h_as_ratio : Has P w K mg base W "as_ratio" 4 S_as_ratio) {f : Addr} {fd : FuncData} {kws : List (Str × V)} {S : SpA} (F : FunD K "__lt__" "Ratio.__lt__" (defArgs (inClass (topS 6) 18)) (defBody (inClass (topS 6) 18)) (defScope (inClass (topS 6) 18)) [] kws f fd) (hS : Keeps 2 3 S (r_Ratio_lt W S_as_ratio)) : FnOk P w K mg base (L2.CX P w) 5 f fd ["self", "other"] (spOf W S) :=
  have nd := sc_Ratio_lt.nd
  ok_by F sc_Ratio_lt hS fun cdv A outer s H E hr hu tk po => by
    exact (ss_cons (sa_set (i := 2) nd rfl (Or.inl rfl) (ea_callH h_as_ratio hr tk (aa_cons (ea_var 1) aa_nil)))
      (ss_one (sa_ret (ea_cmp oa_lt0 (ea_op oa_mul0 (ea_fldR (b := false) T.rc rfl (ea_var 0) T.rc.sT rfl) (ea_fldR (b := true) T.rc rfl (ea_var 2) T.rc.sB rfl)) (ea_op oa_mul0 (ea_fldR (b := false) T.rc rfl (ea_var 2) T.rc.sT rfl) (ea_fldR (b := true) T.rc rfl (ea_var 0) T.rc.sB rfl))))))
theorem sc_l_orders : FnScope ["_law_a", "_law_b", "_law_left", "_law_right"] ["_law_a", "_law_b"] (defScope (topS 17)) := ⟨rfl, rfl, rfl, by decide +kernel, rfl, by decide +kernel, by decide +kernel⟩
def r_l_orders (W : Wd) : TSa :=
    (aSeq (aSet 2 (aOp raMul0 (aOp raIxS (aVar 0) (aC (.int 0))) (aOp raIxS (aVar 1) (aC (.int 1)))))
    (aSeq (aSet 3 (aOp raMul0 (aOp raIxS (aVar 1) (aC (.int 0))) (aOp raIxS (aVar 0) (aC (.int 1)))))
    (aRet (aFl (aCons (aOp raLt0 (aVar 2) (aVar 3)) (aCons (aOp raLe0 (aVar 2) (aVar 3)) (aCons (aOp raGt0 (aVar 2) (aVar 3)) (aCons (aOp raGe0 (aVar 2) (aVar 3)) (aCons (aOp raEq (aVar 2) (aVar 3)) (aCons (aOp raNe (aVar 2) (aVar 3)) aNil))))))))))
theorem ok_l_orders (T : Txt K mg W)  {f : Addr} {fd : FuncData} {kws : List (Str × V)} {S : SpA} (F : FunD K "_law_orders" "_law_orders" (defArgs (topS 17)) (defBody (topS 17)) (defScope (topS 17)) [] kws f fd) (hS : Keeps 2 4 S (r_l_orders W)) : FnOk P w K mg base (L2.CX P w) 1 f fd ["_law_a", "_law_b"] (spOf W S) :=
  have nd := sc_l_orders.nd
  ok_by F sc_l_orders hS fun cdv A outer s H E hr hu tk po => by
    exact (ss_cons (sa_set (i := 2) nd rfl (Or.inl rfl) (ea_op oa_mul0 (ea_ix ixa_seq (ea_var 0) ea_int) (ea_ix ixa_seq (ea_var 1) ea_int)))
      (ss_cons (sa_set (i := 3) nd rfl (Or.inl rfl) (ea_op oa_mul0 (ea_ix ixa_seq (ea_var 1) ea_int) (ea_ix ixa_seq (ea_var 0) ea_int)))
      (ss_one (sa_ret (ea_fl (aa_cons (ea_cmp oa_lt0 (ea_var 2) (ea_var 3)) (aa_cons (ea_cmp oa_le0 (ea_var 2) (ea_var 3)) (aa_cons (ea_cmp oa_gt0 (ea_var 2) (ea_var 3)) (aa_cons (ea_cmp oa_ge0 (ea_var 2) (ea_var 3)) (aa_cons (ea_cmp (oa_eq hu) (ea_var 2) (ea_var 3)) (aa_cons (ea_cmp (oa_ne hu) (ea_var 2) (ea_var 3)) aa_nil)))))))))))
theorem sc_Ratio_bool : FnScope ["self"] ["self"] (defScope (inClass (topS 6) 16)) := ⟨rfl, rfl, rfl, by decide +kernel, rfl, by decide +kernel, by decide +kernel⟩
def r_Ratio_bool (W : Wd) : TSa :=
    (aRet (aCall raBool (aCons (aOp raNe (aFldR false (aVar 0)) (aC (.int 0))) aNil)))
theorem ok_Ratio_bool (T : Txt K mg W)  {f : Addr} {fd : FuncData} {kws : List (Str × V)} {S : SpA} (F : FunD K "__bool__" "Ratio.__bool__" (defArgs (inClass (topS 6) 16)) (defBody (inClass (topS 6) 16)) (defScope (inClass (topS 6) 16)) [] kws f fd) (hS : Keeps 1 1 S (r_Ratio_bool W)) : FnOk P w K mg base (L2.CX P w) 1 f fd ["self"] (spOf W S) :=
  have nd := sc_Ratio_bool.nd
  ok_by F sc_Ratio_bool hS fun cdv A outer s H E hr hu tk po => by
    exact (ss_one (sa_ret (ea_callTy ca_bool T.no_bool bt_bool (aa_cons (ea_cmp (oa_ne hu) (ea_fldR (b := false) T.rc rfl (ea_var 0) T.rc.sT rfl) ea_int) aa_nil))))
theorem sc_l_whole : FnScope ["_law_x"] ["_law_x"] (defScope (topS 11)) := ⟨rfl, rfl, rfl, by decide +kernel, rfl, by decide +kernel, by decide +kernel⟩
def r_l_whole (W : Wd) : TSa :=
    (aRet (aAndV (aCall (raIsi (.ty "int") isInt) (aCons (aVar 0) (aCons (aC (.ty "int")) aNil))) (aNotV (aCall (raIsi (.ty "bool") isBool) (aCons (aVar 0) (aCons (aC (.ty "bool")) aNil))))))
theorem ok_l_whole (T : Txt K mg W)  {f : Addr} {fd : FuncData} {kws : List (Str × V)} {S : SpA} (F : FunD K "_law_whole" "_law_whole" (defArgs (topS 11)) (defBody (topS 11)) (defScope (topS 11)) [] kws f fd) (hS : Keeps 1 1 S (r_l_whole W)) : FnOk P w K mg base (L2.CX P w) 1 f fd ["_law_x"] (spOf W S) :=
  have nd := sc_l_whole.nd
  ok_by F sc_l_whole hS fun cdv A outer s H E hr hu tk po => by
    exact (ss_one (sa_ret (ea_and (ea_callB (ca_isi (c := .ty "int") (f := isInt) T.rc rfl rfl T.is_int) T.no_isinstance bt_isinstance (aa_cons (ea_var 0) (aa_cons (ea_ty T.no_int bt_int) aa_nil))) (ea_one (ea_not (ea_callB (ca_isi (c := .ty "bool") (f := isBool) T.rc rfl rfl T.is_bool) T.no_isinstance bt_isinstance (aa_cons (ea_var 0) (aa_cons (ea_ty T.no_bool bt_bool) aa_nil))))))))
theorem sc_l_pair : FnScope ["_law_ratio"] ["_law_ratio"] (defScope (topS 14)) := ⟨rfl, rfl, rfl, by decide +kernel, rfl, by decide +kernel, by decide +kernel⟩
def r_l_pair (W : Wd) (S_l_whole : SpA) (S_l_gcd : SpA) : TSa :=
    (aSeq (aIfS (aOr (aNot (aTst (aCall (raIsi (.cls 0) isRat) (aCons (aVar 0) (aCons (aC (.cls 0)) aNil))))) (aOr (aNot (aTst (aCall (raCall S_l_whole) (aCons (aFldR false (aVar 0)) aNil)))) (aNot (aTst (aCall (raCall S_l_whole) (aCons (aFldR true (aVar 0)) aNil)))))) (aRet (aC .non)) aNext)
    (aSeq (aIfS (aOr (aTst (aOp raLt0 (aFldR true (aVar 0)) (aC (.int 1)))) (aTst (aOp raNe (aCall (raCall S_l_gcd) (aCons (aFldR false (aVar 0)) (aCons (aFldR true (aVar 0)) aNil))) (aC (.int 1))))) (aRet (aC .non)) aNext)
    (aRet (aTup (aCons (aFldR false (aVar 0)) (aCons (aFldR true (aVar 0)) aNil))))))
theorem ok_l_pair (T : Txt K mg W) {S_l_whole : SpA} {S_l_gcd : SpA} (h_l_whole : Has P w K mg base W "_law_whole" 1 S_l_whole) (h_l_gcd : Has P w K mg base W "_law_gcd" 1 S_l_gcd) {f : Addr} {fd : FuncData} {kws : List (Str × V)} {S : SpA} (F : FunD K "_law_pair" "_law_pair" (defArgs (topS 14)) (defBody (topS 14)) (defScope (topS 14)) [] kws f fd) (hS : Keeps 1 1 S (r_l_pair W S_l_whole S_l_gcd)) : FnOk P w K mg base (L2.CX P w) 2 f fd ["_law_ratio"] (spOf W S) :=
  have nd := sc_l_pair.nd
  ok_by F sc_l_pair hS fun cdv A outer s H E hr hu tk po => by
    exact (ss_cons (sa_if (wa_or (ta_not (ta_val (ea_callB (ca_isi (c := .cls 0) (f := isRat) T.rc rfl rfl T.is_Ratio) T.no_isinstance bt_isinstance (aa_cons (ea_var 0) (aa_cons (ea_cls rfl T.mg_Ratio) aa_nil))))) (wa_or (ta_not (ta_val (ea_callH h_l_whole hr tk (aa_cons (ea_fldR (b := false) T.rc rfl (ea_var 0) T.rc.sT rfl) aa_nil)))) (wa_or1 (ta_not (ta_val (ea_callH h_l_whole hr tk (aa_cons (ea_fldR (b := true) T.rc rfl (ea_var 0) T.rc.sB rfl) aa_nil))))))).ta (ss_one (sa_ret ea_non)) ss_nil)
      (ss_cons (sa_if (wa_or (ta_cmp oa_lt0 (ea_fldR (b := true) T.rc rfl (ea_var 0) T.rc.sB rfl) ea_int) (wa_or1 (ta_cmp (oa_ne hu) (ea_callH h_l_gcd hr tk (aa_cons (ea_fldR (b := false) T.rc rfl (ea_var 0) T.rc.sT rfl) (aa_cons (ea_fldR (b := true) T.rc rfl (ea_var 0) T.rc.sB rfl) aa_nil))) ea_int))).ta (ss_one (sa_ret ea_non)) ss_nil)
      (ss_one (sa_ret (ea_tup (aa_cons (ea_fldR (b := false) T.rc rfl (ea_var 0) T.rc.sT rfl) (aa_cons (ea_fldR (b := true) T.rc rfl (ea_var 0) T.rc.sB rfl) aa_nil)))))))
theorem sc_law : FnScope ["_law_script", "_law_tape_here", "_law_kind", "_law_a", "_law_b", "_law_n", "_law_big", "_law_first", "_law_second", "_law_whole_here", "_law_told", "_law_due", "_law_answer"] ["_law_script"] (defScope (topS 18)) := ⟨rfl, rfl, rfl, by decide +kernel, rfl, by decide +kernel, by decide +kernel⟩
def r_law (W : Wd) (S_l_tape : SpA) (S_l_take : SpA) (S_l_fraction : SpA) (S_l_signed : SpA) (S_Ratio_eq : SpA) (S_Ratio_ge : SpA) (S_Ratio_le : SpA) (S_Ratio_gt : SpA) (S_Ratio_lt : SpA) (S_l_orders : SpA) (S_Ratio_bool : SpA) (S_l_pair : SpA) : TSa :=
    (aSeq (aSet 1 (aCall (raCall S_l_tape) (aCons (aVar 0) aNil)))
    (aSeq (aSet 2 (aCall (raCall S_l_take) (aCons (aVar 1) (aCons (aC (.int 4)) aNil))))
    (aSeq (aSet 3 (aCall (raCall S_l_fraction) (aCons (aVar 1) aNil)))
    (aSeq (aSet 4 (aCall (raCall S_l_fraction) (aCons (aVar 1) aNil)))
    (aSeq (aSet 5 (aCall (raCall S_l_signed) (aCons (aVar 1) aNil)))
    (aSeq (aSet 6 (aOp raAddC (aOp raPow0 (aC (.int 10)) (aC (.int 9))) (aCall (raCall S_l_take) (aCons (aVar 1) (aCons (aOp raPow0 (aC (.int 10)) (aC (.int 9))) aNil)))))
    (aSeq (aIfS (aTst (aOp (raW raEq S_Ratio_eq S_Ratio_eq) (aVar 2) (aC (.int 1)))) (aSet 4 (aTup (aCons (aOp raMul0 (aOp raIxS (aVar 3) (aC (.int 0))) (aVar 6)) (aCons (aOp raMul0 (aOp raIxS (aVar 3) (aC (.int 1))) (aVar 6)) aNil)))) aNext)
    (aSeq (aIfS (aTst (aOp (raW raEq S_Ratio_eq S_Ratio_eq) (aVar 2) (aC (.int 2)))) (aSet 4 (aTup (aCons (aOp raAddC (aOp raMul0 (aOp raIxS (aVar 3) (aC (.int 0))) (aVar 6)) (aC (.int 1))) (aCons (aOp raMul0 (aOp raIxS (aVar 3) (aC (.int 1))) (aVar 6)) aNil)))) aNext)
    (aSeq (aIfS (aTst (aOp (raW raEq S_Ratio_eq S_Ratio_eq) (aVar 2) (aC (.int 3)))) (aSet 5 (aOp raDiv0 (aOp raIxS (aVar 3) (aC (.int 0))) (aOp raIxS (aVar 3) (aC (.int 1))))) aNext)
    (aSeq (aSet 7 (aCall (raRat 2) (aCons (aOp raIxS (aVar 3) (aC (.int 0))) (aCons (aOp raIxS (aVar 3) (aC (.int 1))) aNil))))
    (aSeq (aSet 8 (aCall (raRat 2) (aCons (aOp raIxS (aVar 4) (aC (.int 0))) (aCons (aOp raIxS (aVar 4) (aC (.int 1))) aNil))))
    (aSeq (aSet 9 (aTup (aCons (aVar 5) (aCons (aC (.int 1)) aNil))))
    (aSeq (aSet 10 (aFl (aCons (aOp (raW raLt0 S_Ratio_lt S_Ratio_gt) (aVar 7) (aVar 8)) (aCons (aOp (raW raLe0 S_Ratio_le S_Ratio_ge) (aVar 7) (aVar 8)) (aCons (aOp (raW raGt0 S_Ratio_gt S_Ratio_lt) (aVar 7) (aVar 8)) (aCons (aOp (raW raGe0 S_Ratio_ge S_Ratio_le) (aVar 7) (aVar 8)) (aCons (aOp (raW raEq S_Ratio_eq S_Ratio_eq) (aVar 7) (aVar 8)) (aCons (aOp (raNeW S_Ratio_eq) (aVar 7) (aVar 8)) aNil))))))))
    (aSeq (aSet 10 (aOp raAddC (aVar 10) (aFl (aCons (aOp (raW raLt0 S_Ratio_lt S_Ratio_gt) (aVar 7) (aVar 5)) (aCons (aOp (raW raLe0 S_Ratio_le S_Ratio_ge) (aVar 7) (aVar 5)) (aCons (aOp (raW raGt0 S_Ratio_gt S_Ratio_lt) (aVar 7) (aVar 5)) (aCons (aOp (raW raGe0 S_Ratio_ge S_Ratio_le) (aVar 7) (aVar 5)) (aCons (aOp (raW raEq S_Ratio_eq S_Ratio_eq) (aVar 7) (aVar 5)) (aCons (aOp (raNeW S_Ratio_eq) (aVar 7) (aVar 5)) aNil)))))))))
    (aSeq (aSet 10 (aOp raAddC (aVar 10) (aFl (aCons (aOp (raW raLt0 S_Ratio_lt S_Ratio_gt) (aVar 5) (aVar 7)) (aCons (aOp (raW raLe0 S_Ratio_le S_Ratio_ge) (aVar 5) (aVar 7)) (aCons (aOp (raW raGt0 S_Ratio_gt S_Ratio_lt) (aVar 5) (aVar 7)) (aCons (aOp (raW raGe0 S_Ratio_ge S_Ratio_le) (aVar 5) (aVar 7)) (aCons (aOp (raW raEq S_Ratio_eq S_Ratio_eq) (aVar 5) (aVar 7)) (aCons (aOp (raNeW S_Ratio_eq) (aVar 5) (aVar 7)) aNil)))))))))
    (aSeq (aSet 11 (aOp raAddC (aOp raAddC (aCall (raCall S_l_orders) (aCons (aVar 3) (aCons (aVar 4) aNil))) (aCall (raCall S_l_orders) (aCons (aVar 3) (aCons (aVar 9) aNil)))) (aCall (raCall S_l_orders) (aCons (aVar 9) (aCons (aVar 3) aNil)))))
    (aSeq (aIfS (aOr (aTst (aOp (raNeW S_Ratio_eq) (aLc (aIt (aVar 10)) (aGN 12) (aNot (aTst (aCall (raIsi (.ty "bool") isBool) (aCons (aVar 12) (aCons (aC (.ty "bool")) aNil))))) (aVar 12) [12]) (aFl aNil))) (aTst (aOp (raNeW S_Ratio_eq) (aVar 10) (aVar 11)))) (aRet (aC (.bl false))) aNext)
    (aSeq (aIfS (aOr (aTst (aOp (raNeW S_Ratio_eq) (aCall (raBoolR S_Ratio_bool) (aCons (aVar 7) aNil)) (aOp (raNeW S_Ratio_eq) (aOp raIxS (aVar 3) (aC (.int 0))) (aC (.int 0))))) (aOr (aTst (aCall (raBoolR S_Ratio_bool) (aCons (aCall (raRat 2) (aCons (aC (.int 0)) aNil)) aNil))) (aNot (aTst (aCall (raBoolR S_Ratio_bool) (aCons (aCall (raRat 2) (aCons (aUn raNeg (aC (.int 1))) (aCons (aC (.int 3)) aNil))) aNil)))))) (aRet (aC (.bl false))) aNext)
    (aRet (aOp (raW raEq S_Ratio_eq S_Ratio_eq) (aCall (raCall S_l_pair) (aCons (aVar 7) aNil)) (aVar 3)))))))))))))))))))))
theorem ok_law (T : Txt K mg W) {S_l_tape : SpA} {S_l_take : SpA} {S_l_fraction : SpA} {S_l_signed : SpA} {S_Ratio_eq : SpA} {S_Ratio_ge : SpA} {S_Ratio_le : SpA} {S_Ratio_gt : SpA} {S_Ratio_lt : SpA} {S_l_orders : SpA} {S_Ratio_bool : SpA} {S_l_pair : SpA} (h_l_tape : Has P w K mg base W "_law_tape" 1 S_l_tape) (h_l_take : Has P w K mg base W "_law_take" 1 S_l_take) (h_l_fraction : Has P w K mg base W "_law_fraction" 3 S_l_fraction) (h_l_signed : Has P w K mg base W "_law_signed" 2 S_l_signed) (h_Ratio_eq : FnR P w K mg base (L2.CX P w) 1 (adrOf (PySem.W.findIn K (.ref (W.cl 0)) "__eq__")) (spOf W S_Ratio_eq)) (h_Ratio_init : FnR P w K mg base (L2.CX P w) 1 (adrOf (PySem.W.findIn K (.ref (W.cl 0)) "__init__")) (spRI2 (W.cl 0) (W.cl 2))) (h_Ratio_ge : FnR P w K mg base (L2.CX P w) 5 (adrOf (PySem.W.findIn K (.ref (W.cl 0)) "__ge__")) (spOf W S_Ratio_ge)) (h_Ratio_le : FnR P w K mg base (L2.CX P w) 5 (adrOf (PySem.W.findIn K (.ref (W.cl 0)) "__le__")) (spOf W S_Ratio_le)) (h_Ratio_gt : FnR P w K mg base (L2.CX P w) 5 (adrOf (PySem.W.findIn K (.ref (W.cl 0)) "__gt__")) (spOf W S_Ratio_gt)) (h_Ratio_lt : FnR P w K mg base (L2.CX P w) 5 (adrOf (PySem.W.findIn K (.ref (W.cl 0)) "__lt__")) (spOf W S_Ratio_lt)) (h_l_orders : Has P w K mg base W "_law_orders" 1 S_l_orders) (h_Ratio_bool : FnR P w K mg base (L2.CX P w) 1 (adrOf (PySem.W.findIn K (.ref (W.cl 0)) "__bool__")) (spOf W S_Ratio_bool)) (h_l_pair : Has P w K mg base W "_law_pair" 2 S_l_pair) {f : Addr} {fd : FuncData} {kws : List (Str × V)} {S : SpA} (F : FunD K "law" "law" (defArgs (topS 18)) (defBody (topS 18)) (defScope (topS 18)) [] kws f fd) (hS : Keeps 1 13 S (r_law W S_l_tape S_l_take S_l_fraction S_l_signed S_Ratio_eq S_Ratio_ge S_Ratio_le S_Ratio_gt S_Ratio_lt S_l_orders S_Ratio_bool S_l_pair)) : FnOk P w K mg base (L2.CX P w) 6 f fd ["_law_script"] (spOf W S) :=
  have nd := sc_law.nd
  ok_by F sc_law hS fun cdv A outer s H E hr hu tk po => by
    exact (ss_cons (sa_set (i := 1) nd rfl (Or.inl rfl) (ea_callH h_l_tape hr tk (aa_cons (ea_var 0) aa_nil)))
      (ss_cons (sa_set (i := 2) nd rfl (Or.inl rfl) (ea_callH h_l_take hr tk (aa_cons (ea_var 1) (aa_cons ea_int aa_nil))))
      (ss_cons (sa_set (i := 3) nd rfl (Or.inl rfl) (ea_callH h_l_fraction hr tk (aa_cons (ea_var 1) aa_nil)))
      (ss_cons (sa_set (i := 4) nd rfl (Or.inl rfl) (ea_callH h_l_fraction hr tk (aa_cons (ea_var 1) aa_nil)))
      (ss_cons (sa_set (i := 5) nd rfl (Or.inl rfl) (ea_callH h_l_signed hr tk (aa_cons (ea_var 1) aa_nil)))
      (ss_cons (sa_set (i := 6) nd rfl (Or.inl rfl) (ea_op oa_addC (ea_op oa_pow0 ea_int ea_int) (ea_callH h_l_take hr tk (aa_cons (ea_var 1) (aa_cons (ea_op oa_pow0 ea_int ea_int) aa_nil)))))
      (ss_cons (sa_if (ta_cmp (oa_w (oa_eq hu) (oa_cmpL (m := "__eq__") (fun _ _ => rfl) rfl rfl T.oc_eq h_Ratio_eq (hr.mono (by decide)) tk) (oa_cmpR (m := "__eq__") icmp_eq (fun _ _ => rfl) rfl rfl T.oc_eq h_Ratio_eq (hr.mono (by decide)) tk)) (ea_var 2) ea_int) (ss_one (sa_set (i := 4) nd rfl (Or.inl rfl) (ea_tup (aa_cons (ea_op oa_mul0 (ea_ix ixa_seq (ea_var 3) ea_int) (ea_var 6)) (aa_cons (ea_op oa_mul0 (ea_ix ixa_seq (ea_var 3) ea_int) (ea_var 6)) aa_nil))))) ss_nil)
      (ss_cons (sa_if (ta_cmp (oa_w (oa_eq hu) (oa_cmpL (m := "__eq__") (fun _ _ => rfl) rfl rfl T.oc_eq h_Ratio_eq (hr.mono (by decide)) tk) (oa_cmpR (m := "__eq__") icmp_eq (fun _ _ => rfl) rfl rfl T.oc_eq h_Ratio_eq (hr.mono (by decide)) tk)) (ea_var 2) ea_int) (ss_one (sa_set (i := 4) nd rfl (Or.inl rfl) (ea_tup (aa_cons (ea_op oa_addC (ea_op oa_mul0 (ea_ix ixa_seq (ea_var 3) ea_int) (ea_var 6)) ea_int) (aa_cons (ea_op oa_mul0 (ea_ix ixa_seq (ea_var 3) ea_int) (ea_var 6)) aa_nil))))) ss_nil)
      (ss_cons (sa_if (ta_cmp (oa_w (oa_eq hu) (oa_cmpL (m := "__eq__") (fun _ _ => rfl) rfl rfl T.oc_eq h_Ratio_eq (hr.mono (by decide)) tk) (oa_cmpR (m := "__eq__") icmp_eq (fun _ _ => rfl) rfl rfl T.oc_eq h_Ratio_eq (hr.mono (by decide)) tk)) (ea_var 2) ea_int) (ss_one (sa_set (i := 5) nd rfl (Or.inl rfl) (ea_op oa_div0 (ea_ix ixa_seq (ea_var 3) ea_int) (ea_ix ixa_seq (ea_var 3) ea_int)))) ss_nil)
      (ss_cons (sa_set (i := 7) nd rfl (Or.inl rfl) (ea_callF (cl_rat (zb := 2) T.rc rfl rfl h_Ratio_init (hr.mono (by decide)) tk) T.mg_Ratio T.kp_Ratio (aa_cons (ea_ix ixa_seq (ea_var 3) ea_int) (aa_cons (ea_ix ixa_seq (ea_var 3) ea_int) aa_nil))))
      (ss_cons (sa_set (i := 8) nd rfl (Or.inl rfl) (ea_callF (cl_rat (zb := 2) T.rc rfl rfl h_Ratio_init (hr.mono (by decide)) tk) T.mg_Ratio T.kp_Ratio (aa_cons (ea_ix ixa_seq (ea_var 4) ea_int) (aa_cons (ea_ix ixa_seq (ea_var 4) ea_int) aa_nil))))
      (ss_cons (sa_set (i := 9) nd rfl (Or.inl rfl) (ea_tup (aa_cons (ea_var 5) (aa_cons ea_int aa_nil))))
      (ss_cons (sa_set (i := 10) nd rfl (Or.inl rfl) (ea_fl (aa_cons (ea_cmp (oa_w oa_lt0 (oa_cmpL (m := "__lt__") (fun _ _ => rfl) rfl rfl T.oc_lt h_Ratio_lt (hr.mono (by decide)) tk) (oa_cmpR (m := "__gt__") icmp_lt (fun _ _ => rfl) rfl rfl T.oc_gt h_Ratio_gt (hr.mono (by decide)) tk)) (ea_var 7) (ea_var 8)) (aa_cons (ea_cmp (oa_w oa_le0 (oa_cmpL (m := "__le__") (fun _ _ => rfl) rfl rfl T.oc_le h_Ratio_le (hr.mono (by decide)) tk) (oa_cmpR (m := "__ge__") icmp_le (fun _ _ => rfl) rfl rfl T.oc_ge h_Ratio_ge (hr.mono (by decide)) tk)) (ea_var 7) (ea_var 8)) (aa_cons (ea_cmp (oa_w oa_gt0 (oa_cmpL (m := "__gt__") (fun _ _ => rfl) rfl rfl T.oc_gt h_Ratio_gt (hr.mono (by decide)) tk) (oa_cmpR (m := "__lt__") icmp_gt (fun _ _ => rfl) rfl rfl T.oc_lt h_Ratio_lt (hr.mono (by decide)) tk)) (ea_var 7) (ea_var 8)) (aa_cons (ea_cmp (oa_w oa_ge0 (oa_cmpL (m := "__ge__") (fun _ _ => rfl) rfl rfl T.oc_ge h_Ratio_ge (hr.mono (by decide)) tk) (oa_cmpR (m := "__le__") icmp_ge (fun _ _ => rfl) rfl rfl T.oc_le h_Ratio_le (hr.mono (by decide)) tk)) (ea_var 7) (ea_var 8)) (aa_cons (ea_cmp (oa_w (oa_eq hu) (oa_cmpL (m := "__eq__") (fun _ _ => rfl) rfl rfl T.oc_eq h_Ratio_eq (hr.mono (by decide)) tk) (oa_cmpR (m := "__eq__") icmp_eq (fun _ _ => rfl) rfl rfl T.oc_eq h_Ratio_eq (hr.mono (by decide)) tk)) (ea_var 7) (ea_var 8)) (aa_cons (ea_cmp (oa_neW (oa_ne hu) (oa_neOwn rfl T.oc_eq T.on_ne h_Ratio_eq (hr.mono (by decide)) tk)) (ea_var 7) (ea_var 8)) aa_nil))))))))
      (ss_cons (sa_set (i := 10) nd rfl (Or.inl rfl) (ea_op oa_addC (ea_var 10) (ea_fl (aa_cons (ea_cmp (oa_w oa_lt0 (oa_cmpL (m := "__lt__") (fun _ _ => rfl) rfl rfl T.oc_lt h_Ratio_lt (hr.mono (by decide)) tk) (oa_cmpR (m := "__gt__") icmp_lt (fun _ _ => rfl) rfl rfl T.oc_gt h_Ratio_gt (hr.mono (by decide)) tk)) (ea_var 7) (ea_var 5)) (aa_cons (ea_cmp (oa_w oa_le0 (oa_cmpL (m := "__le__") (fun _ _ => rfl) rfl rfl T.oc_le h_Ratio_le (hr.mono (by decide)) tk) (oa_cmpR (m := "__ge__") icmp_le (fun _ _ => rfl) rfl rfl T.oc_ge h_Ratio_ge (hr.mono (by decide)) tk)) (ea_var 7) (ea_var 5)) (aa_cons (ea_cmp (oa_w oa_gt0 (oa_cmpL (m := "__gt__") (fun _ _ => rfl) rfl rfl T.oc_gt h_Ratio_gt (hr.mono (by decide)) tk) (oa_cmpR (m := "__lt__") icmp_gt (fun _ _ => rfl) rfl rfl T.oc_lt h_Ratio_lt (hr.mono (by decide)) tk)) (ea_var 7) (ea_var 5)) (aa_cons (ea_cmp (oa_w oa_ge0 (oa_cmpL (m := "__ge__") (fun _ _ => rfl) rfl rfl T.oc_ge h_Ratio_ge (hr.mono (by decide)) tk) (oa_cmpR (m := "__le__") icmp_ge (fun _ _ => rfl) rfl rfl T.oc_le h_Ratio_le (hr.mono (by decide)) tk)) (ea_var 7) (ea_var 5)) (aa_cons (ea_cmp (oa_w (oa_eq hu) (oa_cmpL (m := "__eq__") (fun _ _ => rfl) rfl rfl T.oc_eq h_Ratio_eq (hr.mono (by decide)) tk) (oa_cmpR (m := "__eq__") icmp_eq (fun _ _ => rfl) rfl rfl T.oc_eq h_Ratio_eq (hr.mono (by decide)) tk)) (ea_var 7) (ea_var 5)) (aa_cons (ea_cmp (oa_neW (oa_ne hu) (oa_neOwn rfl T.oc_eq T.on_ne h_Ratio_eq (hr.mono (by decide)) tk)) (ea_var 7) (ea_var 5)) aa_nil)))))))))
      (ss_cons (sa_set (i := 10) nd rfl (Or.inl rfl) (ea_op oa_addC (ea_var 10) (ea_fl (aa_cons (ea_cmp (oa_w oa_lt0 (oa_cmpL (m := "__lt__") (fun _ _ => rfl) rfl rfl T.oc_lt h_Ratio_lt (hr.mono (by decide)) tk) (oa_cmpR (m := "__gt__") icmp_lt (fun _ _ => rfl) rfl rfl T.oc_gt h_Ratio_gt (hr.mono (by decide)) tk)) (ea_var 5) (ea_var 7)) (aa_cons (ea_cmp (oa_w oa_le0 (oa_cmpL (m := "__le__") (fun _ _ => rfl) rfl rfl T.oc_le h_Ratio_le (hr.mono (by decide)) tk) (oa_cmpR (m := "__ge__") icmp_le (fun _ _ => rfl) rfl rfl T.oc_ge h_Ratio_ge (hr.mono (by decide)) tk)) (ea_var 5) (ea_var 7)) (aa_cons (ea_cmp (oa_w oa_gt0 (oa_cmpL (m := "__gt__") (fun _ _ => rfl) rfl rfl T.oc_gt h_Ratio_gt (hr.mono (by decide)) tk) (oa_cmpR (m := "__lt__") icmp_gt (fun _ _ => rfl) rfl rfl T.oc_lt h_Ratio_lt (hr.mono (by decide)) tk)) (ea_var 5) (ea_var 7)) (aa_cons (ea_cmp (oa_w oa_ge0 (oa_cmpL (m := "__ge__") (fun _ _ => rfl) rfl rfl T.oc_ge h_Ratio_ge (hr.mono (by decide)) tk) (oa_cmpR (m := "__le__") icmp_ge (fun _ _ => rfl) rfl rfl T.oc_le h_Ratio_le (hr.mono (by decide)) tk)) (ea_var 5) (ea_var 7)) (aa_cons (ea_cmp (oa_w (oa_eq hu) (oa_cmpL (m := "__eq__") (fun _ _ => rfl) rfl rfl T.oc_eq h_Ratio_eq (hr.mono (by decide)) tk) (oa_cmpR (m := "__eq__") icmp_eq (fun _ _ => rfl) rfl rfl T.oc_eq h_Ratio_eq (hr.mono (by decide)) tk)) (ea_var 5) (ea_var 7)) (aa_cons (ea_cmp (oa_neW (oa_ne hu) (oa_neOwn rfl T.oc_eq T.on_ne h_Ratio_eq (hr.mono (by decide)) tk)) (ea_var 5) (ea_var 7)) aa_nil)))))))))
      (ss_cons (sa_set (i := 11) nd rfl (Or.inl rfl) (ea_op oa_addC (ea_op oa_addC (ea_callH h_l_orders hr tk (aa_cons (ea_var 3) (aa_cons (ea_var 4) aa_nil))) (ea_callH h_l_orders hr tk (aa_cons (ea_var 3) (aa_cons (ea_var 9) aa_nil)))) (ea_callH h_l_orders hr tk (aa_cons (ea_var 9) (aa_cons (ea_var 3) aa_nil)))))
      (ss_cons (sa_if (wa_or (ta_cmp (oa_neW (oa_ne hu) (oa_neOwn rfl T.oc_eq T.on_ne h_Ratio_eq (hr.mono (by decide)) tk)) (ea_lc (own := [("_law_answer", 12)]) (g := gName 12) rfl nd (ia_list (ea_var 10)) (blkOk_by (N := ["_law_script", "_law_tape_here", "_law_kind", "_law_a", "_law_b", "_law_n", "_law_big", "_law_first", "_law_second", "_law_whole_here", "_law_told", "_law_due", "_law_answer"]) (sc := defScope (topS 18)) (by decide +kernel)) (fun _ _ _ _ _ => pg_name (i := 12) nd rfl (Or.inl rfl)) (gk_name (by decide)) (fun _ _ _ _ _ => ts_one (ta_not (ta_val (ea_callB (ca_isi (c := .ty "bool") (f := isBool) T.rc rfl rfl T.is_bool) T.no_isinstance bt_isinstance (aa_cons (ea_var 12) (aa_cons (ea_ty T.no_bool bt_bool) aa_nil)))))) (fun _ _ _ _ _ => (ea_var 12))) (ea_fl aa_nil)) (wa_or1 (ta_cmp (oa_neW (oa_ne hu) (oa_neOwn rfl T.oc_eq T.on_ne h_Ratio_eq (hr.mono (by decide)) tk)) (ea_var 10) (ea_var 11)))).ta (ss_one (sa_ret ea_bl)) ss_nil)
      (ss_cons (sa_if (wa_or (ta_cmp (oa_neW (oa_ne hu) (oa_neOwn rfl T.oc_eq T.on_ne h_Ratio_eq (hr.mono (by decide)) tk)) (ea_callTy (ca_boolR rfl T.ou_bool h_Ratio_bool (hr.mono (by decide)) tk) T.no_bool bt_bool (aa_cons (ea_var 7) aa_nil)) (ea_cmp (oa_neW (oa_ne hu) (oa_neOwn rfl T.oc_eq T.on_ne h_Ratio_eq (hr.mono (by decide)) tk)) (ea_ix ixa_seq (ea_var 3) ea_int) ea_int)) (wa_or (ta_val (ea_callTy (ca_boolR rfl T.ou_bool h_Ratio_bool (hr.mono (by decide)) tk) T.no_bool bt_bool (aa_cons (ea_callF (cl_rat (zb := 2) T.rc rfl rfl h_Ratio_init (hr.mono (by decide)) tk) T.mg_Ratio T.kp_Ratio (aa_cons ea_int aa_nil)) aa_nil))) (wa_or1 (ta_not (ta_val (ea_callTy (ca_boolR rfl T.ou_bool h_Ratio_bool (hr.mono (by decide)) tk) T.no_bool bt_bool (aa_cons (ea_callF (cl_rat (zb := 2) T.rc rfl rfl h_Ratio_init (hr.mono (by decide)) tk) T.mg_Ratio T.kp_Ratio (aa_cons (ea_un ua_neg ea_int) (aa_cons ea_int aa_nil))) aa_nil))))))).ta (ss_one (sa_ret ea_bl)) ss_nil)
      (ss_one (sa_ret (ea_cmp (oa_w (oa_eq hu) (oa_cmpL (m := "__eq__") (fun _ _ => rfl) rfl rfl T.oc_eq h_Ratio_eq (hr.mono (by decide)) tk) (oa_cmpR (m := "__eq__") icmp_eq (fun _ _ => rfl) rfl rfl T.oc_eq h_Ratio_eq (hr.mono (by decide)) tk)) (ea_callH h_l_pair hr tk (aa_cons (ea_var 7) aa_nil)) (ea_var 3))))))))))))))))))))))
end
end RF
set_option maxRecDepth 100000
set_option maxHeartbeats 4000000
namespace RF
open PySem PySem.Spec PyProof.Rows L2
local macro_rules | `(tactic| walk_at "rd1") => `(tactic| first
  | ((with_reducible refine' i_var ?h1 ?_); (case h1 => rfl))
  | with_reducible refine i_cons ?_
  | with_reducible refine i_c ?_
  | with_reducible refine i_nil ?_
  | with_reducible refine i_call ?_
  | with_reducible refine i_op ?_
  | ((with_reducible refine' i_seqN ?h1 ?h2 ?_); (case h1 => first | (simp only [startA, List.map_cons, List.map_nil, List.length_cons, List.length_nil, List.replicate_succ, List.replicate_zero, List.cons_append, List.nil_append, List.set_cons_succ, List.set_cons_zero, Nat.zero_add, Nat.reduceAdd, Nat.reduceSub]; rfl) | rfl); (case h2 => first | (simp only [startA, List.map_cons, List.map_nil, List.length_cons, List.length_nil, List.replicate_succ, List.replicate_zero, List.cons_append, List.nil_append, List.set_cons_succ, List.set_cons_zero, Nat.zero_add, Nat.reduceAdd, Nat.reduceSub]; rfl) | rfl))
  | with_reducible refine i_set ?_
  | with_reducible refine i_if ?_
  | with_reducible refine i_tst ?_
  | with_reducible refine i_tstQ ?_
  | with_reducible refine i_tt ?_
  | with_reducible refine i_ff ?_
  | with_reducible refine i_nt ?_
  | with_reducible refine i_nf ?_
  | with_reducible refine i_and ?_
  | with_reducible refine i_or ?_
  | with_reducible refine i_not ?_
  | with_reducible refine i_andV ?_
  | with_reducible refine i_orV ?_
  | with_reducible refine i_notV ?_
  | with_reducible refine i_andQ ?_
  | with_reducible refine i_orQ ?_
  | with_reducible refine i_notQ ?_
  | with_reducible refine i_ret ?_
  | with_reducible refine i_next ?_
  | with_reducible refine i_sub ?_
  | ((with_reducible refine' i_setL ?h1 ?h2 ?h3 ?_); (case h1 => rfl); (case h2 => rfl); (case h3 => rfl))
  | ((with_reducible refine' i_ixR ?h1 ?h2 ?_); (case h1 => rfl); (case h2 => rfl))
  | ((with_reducible refine' i_ixF ?h1 ?_); (case h1 => rfl))
  | ((with_reducible refine' i_ixT ?h1 ?_); (case h1 => rfl))
  | with_reducible refine i_eqI ?_
  | with_reducible refine i_neI ?_
  | with_reducible refine i_add ?_
  | with_reducible refine i_subI ?_
  | with_reducible refine i_cmp ?_
  | with_reducible refine i_neg ?_
  | with_reducible refine i_un ?_
  | with_reducible refine i_fld ?_
  | with_reducible refine i_fldT ?_
  | with_reducible refine i_fldB ?_
  | with_reducible refine i_abs ?_
  | with_reducible refine i_intI ?_
  | with_reducible refine i_intB ?_
  | with_reducible refine i_boolI ?_
  | with_reducible refine i_boolB ?_
  | with_reducible refine i_lenF ?_
  | with_reducible refine i_lenT ?_
  | ((with_reducible refine' i_lenR ?h1 ?_); (case h1 => rfl))
  | with_reducible refine i_gcd ?_
  | with_reducible refine i_listF ?_
  | with_reducible refine i_rat1 ?_
  | ((with_reducible refine' i_isi ?h1 ?_); (case h1 => rfl))
  | with_reducible refine i_tup ?_
  | with_reducible refine i_fl ?_
  | with_reducible refine i_lst ?_
  | ((with_reducible refine' i_ok ?h1 ?_); (case h1 => rfl))
  | with_reducible refine i_isNon ?_
  | with_reducible refine i_notNon ?_
  | ((with_reducible refine' i_isO ?h1 ?_); (case h1 => rfl))
  | ((with_reducible refine' i_notO ?h1 ?_); (case h1 => rfl))
  | with_reducible refine i_ifE ?_
  | with_reducible refine i_drop ?_
  | with_reducible refine i_retN ?_
  | with_reducible refine i_par ?_
  | with_reducible refine i_parQ ?_
  | with_reducible refine i_asg ?_
  | with_reducible refine i_gn ?_
  | ((with_reducible refine' i_gt ?h1 ?_); (case h1 => rfl))
  | with_reducible refine i_gsc ?_
  | with_reducible refine i_gsn ?_
  | with_reducible refine i_raise ?_
  | with_reducible refine i_tryas ?_
  | with_reducible refine i_tryonly ?_
  | with_reducible refine i_for ?_
  | with_reducible refine i_it ?_
  | with_reducible refine i_items ?_
  | with_reducible refine i_rng1 ?_
  | with_reducible refine i_rng2 ?_
  | with_reducible refine i_lc ?_
  | with_reducible refine i_yes ?_
  | with_reducible refine i_brk ?_
  | with_reducible refine i_cnt ?_
  | with_reducible refine i_join ?_
  | with_reducible refine i_jsN ?_
  | with_reducible refine i_jsC ?_
  | with_reducible refine i_fmt ?_
  | with_reducible refine i_strR ?_
  | ((with_reducible refine' i_mod ?h1 ?_); (case h1 => first | decide | omega))
  | ((with_reducible refine' i_mul ?h1 ?_); (case h1 => first | (refine mul_r ?_ ?_ <;> omega) | (refine mul_l ?_ ?_ <;> omega)))
  | ((with_reducible refine' i_div ?h1 ?_); (case h1 => refine cfd_of ?_ ?_ <;> omega))
  | with_reducible refine i_strQ ?_)
local macro_rules | `(tactic| walk_at "rd") => `(tactic| repeat walk_at "rd1")

/-! ### the tape -/
structure Tape where
  sc : List Int
  i : Int
  cur : Int
  cnt : Int
  seed : Int
def Tape.ds (T : Tape) : List D := [.fl (T.sc.map .int), .int T.i, .int T.cur, .int T.cnt, .int T.seed]
structure Tape.ok (T : Tape) (n : Int) : Prop where
  i : 0 ≤ T.i
  cur : 0 ≤ T.cur
  cnt : 0 ≤ T.cnt
  cn : T.cnt ≤ n
  s0 : 0 ≤ T.seed
  s1 : T.seed < 2147483647
theorem Tape.ok.le {T : Tape} {n m : Int} (h : T.ok n) (hm : n ≤ m) : T.ok m := ⟨h.i, h.cur, h.cnt, Int.le_trans h.cn hm, h.s0, h.s1⟩
theorem fmod_rng {a m : Int} (hm : 0 < m) : 0 ≤ a.fmod m ∧ a.fmod m < m := ⟨Int.fmod_nonneg_of_pos a hm, Int.fmod_lt_of_pos a hm⟩
theorem fdiv_nn {a m : Int} (ha : 0 ≤ a) (hm : 0 < m) : 0 ≤ a.fdiv m := Int.fdiv_nonneg ha (Int.le_of_lt hm)
theorem atI_of {l : List D} {i : Int} (h0 : 0 ≤ i) (h1 : i < l.length) : ∃ x, l[i.toNat]? = some x ∧ L2.atI l i = some x := by
  have hl : i.toNat < l.length := by omega
  refine ⟨l[i.toNat], List.getElem?_eq_getElem hl, ?_⟩
  unfold L2.atI L2.ixN
  rw [if_pos h0, if_pos h1]
  exact List.getElem?_eq_getElem hl
theorem atI_ints {l : List Int} {i : Int} (h0 : 0 ≤ i) (h1 : i < l.length) : ∃ z, L2.atI (l.map D.int) i = some (.int z) := by
  obtain ⟨x, e, h⟩ := atI_of (l := l.map D.int) h0 (by simpa using h1)
  rw [List.getElem?_map] at e
  cases q : l[i.toNat]? with
  | none => rw [q] at e; cases e
  | some z => rw [q] at e; cases e; exact ⟨z, h⟩

def S_l_tape : SpA := fun ds eta Q _ => ∃ ns : List Int, ds = [.fl (ns.map .int)] ∧ eta = [] ∧ ns.length ≤ 63 ∧ ∀ T : Tape, T.ok 0 → Q (.ref 0) [.lst T.ds]
theorem m_l_tape : S_l_tape.Mono := fun _ _ _ _ _ _ h _ ⟨ns, e1, e2, h1, k⟩ => ⟨ns, e1, e2, h1, fun T a => h _ _ (k T a)⟩
theorem intsD_map (l : List Int) : intsD (l.map D.int) = some l := by
  induction l with
  | nil => rfl
  | cons x l ih => simp [intsD, ih]
theorem k_l_tape {W : Wd} : Keeps 1 3 S_l_tape (r_l_tape W) := by
  rintro ds eta Qa EXa ⟨ns, rfl, rfl, hl, k⟩
  refine ⟨rfl, ?_⟩
  unfold r_l_tape
  walk_at "rd"
  refine i_rngQ (by simp only [List.length_map]; omega) ?_
  have e : (↑(List.map D.int ns).length : Int).toNat = ns.length := by simp
  rw [e]
  refine ⟨by rw [rngL_len]; omega, ?_⟩
  refine lcg_i (fun rest acc eta => eta = [] ∧ ∃ j, j ≤ ns.length ∧ rest = rngL j (ns.length - j) ∧ ∃ l : List Int, acc = l.map D.int) ⟨rfl, 0, Nat.zero_le _, rfl, [], rfl⟩ ?_ ?_
  · rintro d rest acc eta ⟨rfl, j, hj, e, l, rfl⟩ K hK
    have hlt : j < ns.length := by
      refine Nat.lt_of_not_le fun z => ?_
      rw [show ns.length - j = 0 by omega] at e
      cases e
    rw [show ns.length - j = (ns.length - (j + 1)) + 1 by omega] at e
    obtain ⟨rfl, rfl⟩ : d = .int j ∧ rest = rngL (j + 1) (ns.length - (j + 1)) := by cases e; exact ⟨rfl, rfl⟩
    obtain ⟨z, hz⟩ := atI_ints (l := ns) (i := (j : Int)) (by omega) (by omega)
    walk_at "rd"
    refine i_ixF hz ?_
    walk_at "rd"
    exact ⟨rfl, hK _ _ ⟨rfl, j + 1, hlt, rfl, l ++ [(if z < 0 then -z else z) * ((j : Int) + 1)], by simp⟩⟩
  · rintro acc eta ⟨rfl, j, hj, e, l, rfl⟩
    walk_at "rd"
    refine i_sum (intsD_map l) ?_
    walk_at "rd"
    refine ⟨rfl, rfl, k ⟨ns, 0, 0, 0, l.sum.fmod 2147483647⟩ ⟨Int.le_refl 0, Int.le_refl 0, Int.le_refl 0, Int.le_refl 0, (fmod_rng (by decide)).1, (fmod_rng (by decide)).2⟩⟩

def S_l_take : SpA := fun ds eta Q _ => ∃ (T : Tape) (n m : Int), ds = [.ref 0, .int m] ∧ eta = [.lst T.ds] ∧ T.ok n ∧ n < 1000000000000 ∧ 0 < m ∧ m < 10000000000000000 ∧
  ∀ (d : Int) (T' : Tape), T'.ok (n + 1) → 0 ≤ d → d < m → Q (.int d) [.lst T'.ds]
theorem m_l_take : S_l_take.Mono := fun _ _ _ _ _ _ h _ ⟨T, n, m, e1, e2, h1, h2, h3, h4, k⟩ => ⟨T, n, m, e1, e2, h1, h2, h3, h4, fun d T' a b c => h _ _ (k d T' a b c)⟩
theorem k_l_take {W : Wd} : Keeps 2 5 S_l_take (r_l_take W) := by
  rintro ds eta Qa EXa ⟨T, n, m, rfl, rfl, ok, hn, hm, hm2, k⟩
  refine ⟨rfl, ?_⟩
  obtain ⟨i0, c0, n0, n1, s0, s1⟩ := ok
  have fin : ∀ (d : Int) (T' : Tape), T'.ok (n + 1) → 0 ≤ d → d < m → exitQ 1 Qa (.int d) [.lst T'.ds] := fun d T' a b c => ⟨rfl, k d T' a b c⟩
  unfold r_l_take
  walk_at "rd"
  refine i_iteD (fun h => ?_) (fun h => ?_)
  · walk_at "rd"
    refine i_iteD (fun h2 => ?_) (fun h2 => ?_)
    · rw [List.length_map] at h2
      obtain ⟨z, hz⟩ := atI_ints i0 h2
      walk_at "rd"
      refine i_ixF hz ?_
      walk_at "rd"
      refine i_posD (by rw [List.length_map]; exact h2) ?_
      walk_at "rd"
      have hz0 : 0 ≤ (if z < 0 then -z else z) := by split <;> omega
      exact fin _ ⟨T.sc, T.i + 1, (if z < 0 then -z else z).fdiv m, T.cnt + 1, T.seed⟩ ⟨by show 0 ≤ T.i + 1; omega, fdiv_nn hz0 hm, by show 0 ≤ T.cnt + 1; omega, by show T.cnt + 1 ≤ n + 1; omega, s0, s1⟩ (fmod_rng hm).1 (fmod_rng hm).2
    · walk_at "rd"
      refine i_negD (by simpa using h2) ?_
      walk_at "rd"
      refine i_negD (by omega) ?_
      walk_at "rd"
      refine i_iteD (fun h3 => ?_) (fun h3 => ?_)
      · walk_at "rd"
        exact fin _ ⟨T.sc, T.i, T.cur, T.cnt + 1, T.seed⟩ ⟨i0, c0, by show 0 ≤ T.cnt + 1; omega, by show T.cnt + 1 ≤ n + 1; omega, s0, s1⟩ (fmod_rng hm).1 (fmod_rng hm).2
      · walk_at "rd"
        exact fin _ ⟨T.sc, T.i, T.cur, T.cnt + 1, T.seed⟩ ⟨i0, c0, by show 0 ≤ T.cnt + 1; omega, by show T.cnt + 1 ≤ n + 1; omega, s0, s1⟩ (fmod_rng hm).1 (fmod_rng hm).2
  · walk_at "rd"
    refine i_posD (by omega) ?_
    walk_at "rd"
    exact fin _ ⟨T.sc, T.i, T.cur.fdiv m, T.cnt + 1, T.seed⟩ ⟨i0, fdiv_nn c0 hm, by show 0 ≤ T.cnt + 1; omega, by show T.cnt + 1 ≤ n + 1; omega, s0, s1⟩ (fmod_rng hm).1 (fmod_rng hm).2

/-! ### numbers of any sign -/
def S_l_signed : SpA := fun ds eta Q _ => ∃ (T : Tape) (n : Int), ds = [.ref 0] ∧ eta = [.lst T.ds] ∧ T.ok n ∧ n < 100000000000 ∧
  ∀ (d : Int) (T' : Tape), T'.ok (n + 3) → -1000000000000000 < d → d < 1000000000000000 → Q (.int d) [.lst T'.ds]
theorem m_l_signed : S_l_signed.Mono := fun _ _ _ _ _ _ h _ ⟨T, n, e1, e2, h1, h2, k⟩ => ⟨T, n, e1, e2, h1, h2, fun d T' a b c => h _ _ (k d T' a b c)⟩
theorem k_l_signed {W : Wd} : Keeps 1 2 S_l_signed (r_l_signed W S_l_take) := by
  rintro ds eta Qa EXa ⟨T, n, rfl, rfl, ok, hn, k⟩
  refine ⟨rfl, ?_⟩
  unfold r_l_signed
  walk_at "rd"
  refine i_pow ⟨by decide, by decide, by decide⟩ ?_
  walk_at "rd"
  refine i_fn1 m_l_take rfl rfl rfl ⟨T, n, 3, rfl, rfl, ok, by omega, by decide, by decide, fun d T1 ok1 h0 h1 => ⟨_, rfl, rfl, rfl, ?_⟩⟩
  have sz : ∃ m : Int, L2.atI [D.int 13, .int 1000, .int ((10 : Int) ^ (15 : Int).toNat)] d = some (.int m) ∧ 0 < m ∧ m ≤ 1000000000000000 := by
    have hd : d = 0 ∨ d = 1 ∨ d = 2 := by omega
    rcases hd with rfl | rfl | rfl
    · exact ⟨13, rfl, by decide, by decide⟩
    · exact ⟨1000, rfl, by decide, by decide⟩
    · exact ⟨(10 : Int) ^ (15 : Int).toNat, rfl, by decide, by decide⟩
  obtain ⟨m, hm, m0, m1⟩ := sz
  refine i_ixF hm ?_
  walk_at "rd"
  refine i_fn1 m_l_take rfl rfl rfl ⟨T1, n + 1, m, rfl, rfl, ok1, by omega, by omega, by omega, fun x T2 ok2 x0 x1 => ⟨_, rfl, rfl, rfl, ?_⟩⟩
  walk_at "rd"
  refine i_fn1 m_l_take rfl rfl rfl ⟨T2, n + 1 + 1, 2, rfl, rfl, ok2, by omega, by decide, by decide, fun y T3 ok3 y0 y1 => ⟨_, rfl, rfl, rfl, ?_⟩⟩
  walk_at "rd"
  refine i_iteD (fun h => ?_) (fun h => ?_)
  · walk_at "rd"
    exact ⟨rfl, k (-x) T3 (ok3.le (by omega)) (by omega) (by omega)⟩
  · walk_at "rd"
    exact ⟨rfl, k x T3 (ok3.le (by omega)) (by omega) (by omega)⟩

/-! ### gcd, lowest terms -/
def S_l_gcd : SpA := fun ds eta Q _ => ∃ a b : Int, ds = [.int a, .int b] ∧ eta = [] ∧ Q (.int ((Nat.gcd a.natAbs b.natAbs : Nat) : Int)) []
theorem m_l_gcd : S_l_gcd.Mono := fun _ _ _ _ _ _ h _ ⟨a, b, e1, e2, k⟩ => ⟨a, b, e1, e2, h _ _ k⟩
theorem abs_nat (a : Int) : (if a < 0 then -a else a) = (a.natAbs : Int) := by split <;> omega
theorem gcd_step (a b : Nat) (hb : 0 < b) : Nat.gcd a b = Nat.gcd b (a % b) := by
  rw [Nat.gcd_comm a b, Nat.gcd_rec b a, Nat.gcd_comm]
theorem k_l_gcd {W : Wd} : Keeps 2 2 S_l_gcd (r_l_gcd W) := by
  rintro ds eta Qa EXa ⟨a, b, rfl, rfl, k⟩
  refine ⟨rfl, ?_⟩
  unfold r_l_gcd
  walk_at "rd"
  rw [abs_nat, abs_nat]
  refine wh_i (fun m rho eta => eta = [] ∧ ∃ x y : Nat, rho = [some (.int x), some (.int y)] ∧ y < m ∧ Nat.gcd x y = Nat.gcd a.natAbs b.natAbs) (b.natAbs + 1) ⟨rfl, a.natAbs, b.natAbs, rfl, Nat.lt_succ_self _, rfl⟩ ?_ ?_
  · rintro r e ⟨_, x, y, _, h, _⟩; omega
  · rintro m r e ⟨rfl, x, y, rfl, hy, hg⟩ K hK
    walk_at "rd"
    refine i_iteD (fun h => ?_) (fun h => ?_)
    · walk_at "rd"
      refine hK _ _ ⟨rfl, y, x % y, ?_, ?_, ?_⟩
      · show [some (D.int y), some (D.int ((x : Int).fmod y))] = _
        rw [Int.fmod_eq_emod_of_nonneg _ (by omega)]
        rfl
      · have := Nat.mod_lt x (show 0 < y by omega)
        omega
      · rw [← hg, ← gcd_step x y (by omega)]
    · walk_at "rd"
      have : y = 0 := by omega
      subst this
      rw [Nat.gcd_zero_right] at hg
      refine ⟨rfl, ?_⟩
      rw [hg]
      exact k

def S_l_low : SpA := fun ds eta Q _ => ∃ a b : Int, ds = [.int a, .int b] ∧ eta = [] ∧ 0 < b ∧ DivOk b ∧ Q (.tup [.int (Rat.divInt a b).num, .int (Rat.divInt a b).den]) []
theorem m_l_low : S_l_low.Mono := fun _ _ _ _ _ _ h _ ⟨a, b, e1, e2, h1, h2, k⟩ => ⟨a, b, e1, e2, h1, h2, h _ _ k⟩
theorem k_l_low {W : Wd} : Keeps 2 3 S_l_low (r_l_low W S_l_gcd) := by
  rintro ds eta Qa EXa ⟨a, b, rfl, rfl, hb, hd, k⟩
  refine ⟨rfl, ?_⟩
  unfold r_l_low
  walk_at "rd"
  refine i_fn0 m_l_gcd rfl ⟨a, b, rfl, rfl, rfl, rfl, ?_⟩
  have e : ((Nat.gcd a.natAbs b.natAbs : Nat) : Int) = rG a b := by unfold rG; rw [if_neg (by omega)]
  have hb' : b ≠ 0 := by omega
  obtain ⟨e1, e2⟩ := fdiv_gcd_num (t := a) hb'
  rw [e]
  walk_at "rd"
  refine i_div (rG_cfd _ hb' hd) ?_
  walk_at "rd"
  refine i_div (rG_cfd _ hb' hd) ?_
  walk_at "rd"
  refine ⟨rfl, ?_⟩
  rw [e1, e2]
  exact k

/-! ### fractions -/
def ratT (q : Rat) : D := .tup [.int q.num, .int q.den]
def S_l_fraction : SpA := fun ds eta Q _ => ∃ (T : Tape) (n : Int), ds = [.ref 0] ∧ eta = [.lst T.ds] ∧ T.ok n ∧ n < 10000000000 ∧ ∀ (q : Rat) (T' : Tape), T'.ok (n + 5) → RB 50 q → Q (ratT q) [.lst T'.ds]
theorem m_l_fraction : S_l_fraction.Mono := fun _ _ _ _ _ _ h _ ⟨T, n, e1, e2, h1, h2, k⟩ => ⟨T, n, e1, e2, h1, h2, fun d T' a b => h _ _ (k d T' a b)⟩
theorem k_l_fraction {W : Wd} : Keeps 1 2 S_l_fraction (r_l_fraction W S_l_signed S_l_take S_l_low) := by
  rintro ds eta Qa EXa ⟨T, n, rfl, rfl, ok, hn, k⟩
  refine ⟨rfl, ?_⟩
  unfold r_l_fraction
  walk_at "rd"
  refine i_fn1 m_l_signed rfl rfl rfl ⟨T, n, rfl, rfl, ok, by omega, fun t T1 ok1 h0 h1 => ⟨_, rfl, rfl, rfl, ?_⟩⟩
  walk_at "rd"
  refine i_pow ⟨by decide, by decide, by decide⟩ ?_
  walk_at "rd"
  refine i_fn1 m_l_take rfl rfl rfl ⟨T1, n + 3, 3, rfl, rfl, ok1, by omega, by decide, by decide, fun d T2 ok2 d0 d1 => ⟨_, rfl, rfl, rfl, ?_⟩⟩
  have sz : ∃ m : Int, L2.atI [D.int 24, .int 24, .int ((10 : Int) ^ (9 : Int).toNat)] d = some (.int m) ∧ 0 < m ∧ m ≤ 1000000000 := by
    have hd : d = 0 ∨ d = 1 ∨ d = 2 := by omega
    rcases hd with rfl | rfl | rfl
    · exact ⟨24, rfl, by decide, by decide⟩
    · exact ⟨24, rfl, by decide, by decide⟩
    · exact ⟨(10 : Int) ^ (9 : Int).toNat, rfl, by decide, by decide⟩
  obtain ⟨m, hm, m0, m1⟩ := sz
  refine i_ixF hm ?_
  walk_at "rd"
  refine i_fn1 m_l_take rfl rfl rfl ⟨T2, n + 3 + 1, m, rfl, rfl, ok2, by omega, m0, by omega, fun x T3 ok3 x0 x1 => ⟨_, rfl, rfl, rfl, ?_⟩⟩
  walk_at "rd"
  refine i_fn0 m_l_low rfl ⟨t, 1 + x, rfl, rfl, by omega, divOk_of (by omega), rfl, rfl, ?_⟩
  walk_at "rd"
  exact ⟨rfl, k (Rat.divInt t (1 + x)) T3 (ok3.le (by omega)) (RB.divInt (by omega) (by omega) (by omega))⟩

theorem rat_eq_b {a b : Rat} : decide (a.num * b.den = b.num * a.den) = (decide (a.num = b.num) && decide ((a.den : Int) = b.den)) := by
  rw [Bool.eq_iff_iff, Bool.and_eq_true, decide_eq_true_eq, decide_eq_true_eq, decide_eq_true_eq]
  constructor
  · intro h
    have e : a = b := Rat.eq_iff_mul_eq_mul.mpr h
    subst e; exact ⟨rfl, rfl⟩
  · rintro ⟨h1, h2⟩
    rw [h1, h2]
def S_Ratio_eq : SpA := fun ds eta Q _ => ∃ (a b : Rat) (e : D), ds = [.rat a, e] ∧ eta = [] ∧ IsNum e b ∧ Q (.bl (decide (a.num * b.den = b.num * a.den))) []
theorem m_Ratio_eq : S_Ratio_eq.Mono := fun _ _ _ _ _ _ h _ ⟨a, b, e, e1, e2, h1, k⟩ => ⟨a, b, e, e1, e2, h1, h _ _ k⟩
theorem k_Ratio_eq {W : Wd} : Keeps 2 2 S_Ratio_eq (r_Ratio_eq W) := by
  rintro ds eta Qa EXa ⟨a, b, e, rfl, rfl, he, k⟩
  refine ⟨rfl, ?_⟩
  unfold r_Ratio_eq
  rw [rat_eq_b] at k
  rcases he with rfl | ⟨i, rfl, rfl⟩
  · walk_at "rd"
    by_cases h : a.num = b.num
    · rw [decide_eq_true h] at k ⊢
      walk_at "rd"
      exact ⟨rfl, k⟩
    · rw [decide_eq_false h] at k ⊢
      walk_at "rd"
      exact ⟨rfl, k⟩
  · walk_at "rd"
    by_cases h : a.num = i
    · rw [show decide (a.num = ((i : Rat)).num) = true from decide_eq_true h] at k
      rw [decide_eq_true h]
      walk_at "rd"
      exact ⟨rfl, k⟩
    · rw [show decide (a.num = ((i : Rat)).num) = false from decide_eq_false h] at k
      rw [decide_eq_false h]
      walk_at "rd"
      exact ⟨rfl, k⟩

/-! ### numbers as Ratios -/
def S_as_ratio : SpA := fun ds eta Q _ => ∃ (e : D) (b : Rat), ds = [e] ∧ eta = [] ∧ IsNum e b ∧ Q (.rat b) []
theorem m_as_ratio : S_as_ratio.Mono := fun _ _ _ _ _ _ h _ ⟨e, b, e1, e2, h1, k⟩ => ⟨e, b, e1, e2, h1, h _ _ k⟩
theorem k_as_ratio {W : Wd} : Keeps 1 1 S_as_ratio (r_as_ratio W) := by
  rintro ds eta Qa EXa ⟨e, b, rfl, rfl, he, k⟩
  refine ⟨rfl, ?_⟩
  unfold r_as_ratio
  rcases he with rfl | ⟨i, rfl, rfl⟩
  · walk_at "rd"
    exact ⟨rfl, k⟩
  · walk_at "rd"
    exact ⟨rfl, k⟩
theorem IsNum.im {e : D} {b : Rat} (h : IsNum e b) : [e].all D.im = true := by
  rcases h with rfl | ⟨i, rfl, _⟩ <;> rfl
theorem IsNum.im1 {a : Rat} {e : D} {b : Rat} (h : IsNum e b) : [D.rat a, e].all D.im = true := by
  rcases h with rfl | ⟨i, rfl, _⟩ <;> rfl
theorem IsNum.ir {e : D} {b : Rat} (h : IsNum e b) : isIntRat e = some true := by
  rcases h with rfl | ⟨i, rfl, _⟩ <;> rfl

def S_Ratio_ge : SpA := fun ds eta Q _ => ∃ (a b : Rat) (e : D), ds = [.rat a, e] ∧ eta = [] ∧ IsNum e b ∧ RB 4000 a ∧ RB 4000 b ∧ Q (.bl (decide (b.num * a.den ≤ a.num * b.den))) []
theorem m_Ratio_ge : S_Ratio_ge.Mono := fun _ _ _ _ _ _ h _ ⟨a, b, e, e1, e2, h1, h2, h3, k⟩ => ⟨a, b, e, e1, e2, h1, h2, h3, h _ _ k⟩
theorem k_Ratio_ge {W : Wd} : Keeps 2 3 S_Ratio_ge (r_Ratio_ge W S_as_ratio) := by
  rintro ds eta Qa EXa ⟨a, b, e, rfl, rfl, he, ha, hb, k⟩
  refine ⟨rfl, ?_⟩
  unfold r_Ratio_ge
  walk_at "rd"
  refine i_fn0 m_as_ratio he.im ⟨e, b, rfl, rfl, he, rfl, rfl, ?_⟩
  walk_at "rd"
  refine i_mul (mulB ha.num hb.den (by decide)) ?_
  walk_at "rd"
  refine i_mul (mulB hb.num ha.den (by decide)) ?_
  walk_at "rd"
  exact ⟨rfl, k⟩

def S_Ratio_le : SpA := fun ds eta Q _ => ∃ (a b : Rat) (e : D), ds = [.rat a, e] ∧ eta = [] ∧ IsNum e b ∧ RB 4000 a ∧ RB 4000 b ∧ Q (.bl (decide (a.num * b.den ≤ b.num * a.den))) []
theorem m_Ratio_le : S_Ratio_le.Mono := fun _ _ _ _ _ _ h _ ⟨a, b, e, e1, e2, h1, h2, h3, k⟩ => ⟨a, b, e, e1, e2, h1, h2, h3, h _ _ k⟩
theorem k_Ratio_le {W : Wd} : Keeps 2 3 S_Ratio_le (r_Ratio_le W S_as_ratio) := by
  rintro ds eta Qa EXa ⟨a, b, e, rfl, rfl, he, ha, hb, k⟩
  refine ⟨rfl, ?_⟩
  unfold r_Ratio_le
  walk_at "rd"
  refine i_fn0 m_as_ratio he.im ⟨e, b, rfl, rfl, he, rfl, rfl, ?_⟩
  walk_at "rd"
  refine i_mul (mulB ha.num hb.den (by decide)) ?_
  walk_at "rd"
  refine i_mul (mulB hb.num ha.den (by decide)) ?_
  walk_at "rd"
  exact ⟨rfl, k⟩

def S_Ratio_gt : SpA := fun ds eta Q _ => ∃ (a b : Rat) (e : D), ds = [.rat a, e] ∧ eta = [] ∧ IsNum e b ∧ RB 4000 a ∧ RB 4000 b ∧ Q (.bl (decide (b.num * a.den < a.num * b.den))) []
theorem m_Ratio_gt : S_Ratio_gt.Mono := fun _ _ _ _ _ _ h _ ⟨a, b, e, e1, e2, h1, h2, h3, k⟩ => ⟨a, b, e, e1, e2, h1, h2, h3, h _ _ k⟩
theorem k_Ratio_gt {W : Wd} : Keeps 2 3 S_Ratio_gt (r_Ratio_gt W S_as_ratio) := by
  rintro ds eta Qa EXa ⟨a, b, e, rfl, rfl, he, ha, hb, k⟩
  refine ⟨rfl, ?_⟩
  unfold r_Ratio_gt
  walk_at "rd"
  refine i_fn0 m_as_ratio he.im ⟨e, b, rfl, rfl, he, rfl, rfl, ?_⟩
  walk_at "rd"
  refine i_mul (mulB ha.num hb.den (by decide)) ?_
  walk_at "rd"
  refine i_mul (mulB hb.num ha.den (by decide)) ?_
  walk_at "rd"
  exact ⟨rfl, k⟩

def S_Ratio_lt : SpA := fun ds eta Q _ => ∃ (a b : Rat) (e : D), ds = [.rat a, e] ∧ eta = [] ∧ IsNum e b ∧ RB 4000 a ∧ RB 4000 b ∧ Q (.bl (decide (a.num * b.den < b.num * a.den))) []
theorem m_Ratio_lt : S_Ratio_lt.Mono := fun _ _ _ _ _ _ h _ ⟨a, b, e, e1, e2, h1, h2, h3, k⟩ => ⟨a, b, e, e1, e2, h1, h2, h3, h _ _ k⟩
theorem k_Ratio_lt {W : Wd} : Keeps 2 3 S_Ratio_lt (r_Ratio_lt W S_as_ratio) := by
  rintro ds eta Qa EXa ⟨a, b, e, rfl, rfl, he, ha, hb, k⟩
  refine ⟨rfl, ?_⟩
  unfold r_Ratio_lt
  walk_at "rd"
  refine i_fn0 m_as_ratio he.im ⟨e, b, rfl, rfl, he, rfl, rfl, ?_⟩
  walk_at "rd"
  refine i_mul (mulB ha.num hb.den (by decide)) ?_
  walk_at "rd"
  refine i_mul (mulB hb.num ha.den (by decide)) ?_
  walk_at "rd"
  exact ⟨rfl, k⟩

def ordL (a0 a1 b0 b1 : Int) : List D := [.bl (decide (a0 * b1 < b0 * a1)), .bl (decide (a0 * b1 ≤ b0 * a1)), .bl (decide (b0 * a1 < a0 * b1)), .bl (decide (b0 * a1 ≤ a0 * b1)), .bl (decide (a0 * b1 = b0 * a1)), .bl (decide (a0 * b1 ≠ b0 * a1))]
def S_l_orders : SpA := fun ds eta Q _ => ∃ a0 a1 b0 b1 : Int, ds = [.tup [.int a0, .int a1], .tup [.int b0, .int b1]] ∧ eta = [] ∧ a0.natAbs < 2 ^ 4000 ∧ a1.natAbs < 2 ^ 4000 ∧ b0.natAbs < 2 ^ 4000 ∧ b1.natAbs < 2 ^ 4000 ∧ Q (.fl (ordL a0 a1 b0 b1)) []
theorem m_l_orders : S_l_orders.Mono := fun _ _ _ _ _ _ h _ ⟨a, b, c, d, e1, e2, h1, h2, h3, h4, k⟩ => ⟨a, b, c, d, e1, e2, h1, h2, h3, h4, h _ _ k⟩
theorem k_l_orders {W : Wd} : Keeps 2 4 S_l_orders (r_l_orders W) := by
  rintro ds eta Qa EXa ⟨a0, a1, b0, b1, rfl, rfl, h0, h1, h2, h3, k⟩
  refine ⟨rfl, ?_⟩
  unfold r_l_orders
  walk_at "rd"
  refine i_mul (mulB h0 h3 (by decide)) ?_
  walk_at "rd"
  refine i_mul (mulB h2 h1 (by decide)) ?_
  walk_at "rd"
  exact ⟨rfl, k⟩

def S_Ratio_bool : SpA := fun ds eta Q _ => ∃ a : Rat, ds = [.rat a] ∧ eta = [] ∧ Q (.bl (decide (a.num ≠ 0))) []
theorem m_Ratio_bool : S_Ratio_bool.Mono := fun _ _ _ _ _ _ h _ ⟨a, e1, e2, k⟩ => ⟨a, e1, e2, h _ _ k⟩
theorem k_Ratio_bool {W : Wd} : Keeps 1 1 S_Ratio_bool (r_Ratio_bool W) := by
  rintro ds eta Qa EXa ⟨a, rfl, rfl, k⟩
  refine ⟨rfl, ?_⟩
  unfold r_Ratio_bool
  walk_at "rd"
  exact ⟨rfl, k⟩

/-! ### a Ratio's fields -/
def S_l_whole : SpA := fun ds eta Q _ => ∃ x : Int, ds = [.int x] ∧ eta = [] ∧ Q (.bl true) []
theorem m_l_whole : S_l_whole.Mono := fun _ _ _ _ _ _ h _ ⟨x, e1, e2, k⟩ => ⟨x, e1, e2, h _ _ k⟩
theorem k_l_whole {W : Wd} : Keeps 1 1 S_l_whole (r_l_whole W) := by
  rintro ds eta Qa EXa ⟨x, rfl, rfl, k⟩
  refine ⟨rfl, ?_⟩
  unfold r_l_whole
  walk_at "rd"
  exact ⟨rfl, k⟩

def S_l_pair : SpA := fun ds eta Q _ => ∃ q : Rat, ds = [.rat q] ∧ eta = [] ∧ Q (.tup [.int q.num, .int q.den]) []
theorem m_l_pair : S_l_pair.Mono := fun _ _ _ _ _ _ h _ ⟨x, e1, e2, k⟩ => ⟨x, e1, e2, h _ _ k⟩
theorem k_l_pair {W : Wd} : Keeps 1 1 S_l_pair (r_l_pair W S_l_whole S_l_gcd) := by
  rintro ds eta Qa EXa ⟨q, rfl, rfl, k⟩
  refine ⟨rfl, ?_⟩
  unfold r_l_pair
  walk_at "rd"
  refine i_fn0 m_l_whole rfl ⟨q.num, rfl, rfl, rfl, rfl, ?_⟩
  walk_at "rd"
  refine i_fn0 m_l_whole rfl ⟨q.den, rfl, rfl, rfl, rfl, ?_⟩
  walk_at "rd"
  have hd := q.den_pos
  refine i_negD (by omega) ?_
  walk_at "rd"
  refine i_fn0 m_l_gcd rfl ⟨q.num, q.den, rfl, rfl, rfl, rfl, ?_⟩
  walk_at "rd"
  refine i_negD ?_ ?_
  · have := q.reduced
    intro h
    apply h
    show ((Nat.gcd q.num.natAbs (q.den : Int).natAbs : Nat) : Int) = 1
    rw [show (q.den : Int).natAbs = q.den from rfl, this]; rfl
  walk_at "rd"
  exact ⟨rfl, k⟩

/-! ### the law -/
theorem rat_self (q : Rat) : Rat.divInt q.num q.den = q := Rat.num_divInt_den q
def S_law : SpA := fun ds eta Q _ => ∃ ns : List Int, ds = [.fl (ns.map .int)] ∧ eta = [] ∧ ns.length ≤ 63 ∧ ∀ e, Q (.bl true) e
def isPair (z : D) : Prop := ∃ b0 b1 : Int, z = .tup [.int b0, .int b1] ∧ 0 < b1 ∧ b0.natAbs < 2 ^ 100 ∧ b1.natAbs < 2 ^ 100
theorem i_wTT {rho : Rho} {eta : List MO} {EX : EXA} {Q : QA} {r0 : R2a} {SL SR : SpA} {a b : List D} (h : r0 (.tup a) (.tup b) rho eta Q EX) : raW r0 SL SR (.tup a) (.tup b) rho eta Q EX := h
theorem lt_tr {x y : Int} {B0 B1 b0 b1 : Int} (h1 : 0 < b1) (h2 : 0 < B1) (e : B0 * b1 = b0 * B1) : (x * B1 < B0 * y ↔ x * b1 < b0 * y) := by
  constructor
  · intro h
    refine Int.lt_of_mul_lt_mul_right (a := B1) ?_ (by omega)
    have := Int.mul_lt_mul_of_pos_right h h1
    calc x * b1 * B1 = x * B1 * b1 := by ac_rfl
      _ < B0 * y * b1 := this
      _ = B0 * b1 * y := by ac_rfl
      _ = b0 * B1 * y := by rw [e]
      _ = b0 * y * B1 := by ac_rfl
  · intro h
    refine Int.lt_of_mul_lt_mul_right (a := b1) ?_ (by omega)
    have := Int.mul_lt_mul_of_pos_right h h2
    calc x * B1 * b1 = x * b1 * B1 := by ac_rfl
      _ < b0 * y * B1 := this
      _ = b0 * B1 * y := by ac_rfl
      _ = B0 * b1 * y := by rw [e]
      _ = B0 * y * b1 := by ac_rfl
theorem gt_tr {x y : Int} {B0 B1 b0 b1 : Int} (h1 : 0 < b1) (h2 : 0 < B1) (e : B0 * b1 = b0 * B1) : (B0 * y < x * B1 ↔ b0 * y < x * b1) := by
  have z := lt_tr (x := -x) (y := y) (B0 := -B0) (b0 := -b0) h1 h2 (by rw [Int.neg_mul, Int.neg_mul, e])
  simp only [Int.neg_mul] at z
  omega
theorem cross {B : Rat} {b0 b1 : Int} (h1 : 0 < b1) (hB : Rat.divInt b0 b1 = B) : B.num * b1 = b0 * B.den := by
  have e : Rat.divInt B.num B.den = Rat.divInt b0 b1 := by rw [Rat.num_divInt_den, hB]
  have := B.den_pos
  exact (Rat.divInt_eq_divInt_iff (by omega) (by omega)).mp e
theorem told_due {a b : Rat} {b0 b1 n : Int} (h1 : 0 < b1) (hB : Rat.divInt b0 b1 = b) :
    (D.fl ([.bl (decide (a.num * b.den < b.num * a.den)), .bl (decide (a.num * b.den ≤ b.num * a.den)), .bl (decide (b.num * a.den < a.num * b.den)), .bl (decide (b.num * a.den ≤ a.num * b.den)), .bl (decide (a.num * b.den = b.num * a.den)), .bl (!decide (a.num * b.den = b.num * a.den))] ++
      [.bl (decide (a.num * (n : Rat).den < (n : Rat).num * a.den)), .bl (decide (a.num * (n : Rat).den ≤ (n : Rat).num * a.den)), .bl (decide ((n : Rat).num * a.den < a.num * (n : Rat).den)), .bl (decide ((n : Rat).num * a.den ≤ a.num * (n : Rat).den)), .bl (decide (a.num * (n : Rat).den = (n : Rat).num * a.den)), .bl (!decide (a.num * (n : Rat).den = (n : Rat).num * a.den))] ++
      [.bl (decide ((n : Rat).num * a.den < a.num * (n : Rat).den)), .bl (decide ((n : Rat).num * a.den ≤ a.num * (n : Rat).den)), .bl (decide (a.num * (n : Rat).den < (n : Rat).num * a.den)), .bl (decide (a.num * (n : Rat).den ≤ (n : Rat).num * a.den)), .bl (decide (a.num * (n : Rat).den = (n : Rat).num * a.den)), .bl (!decide (a.num * (n : Rat).den = (n : Rat).num * a.den))])) =
    .fl (ordL a.num a.den b0 b1 ++ ordL a.num a.den n 1 ++ ordL n 1 a.num a.den) := by
  have hb := b.den_pos
  have e := cross h1 hB
  have c1 := lt_tr (x := a.num) (y := a.den) h1 (by omega : (0 : Int) < b.den) e
  have c2 := gt_tr (x := a.num) (y := a.den) h1 (by omega : (0 : Int) < b.den) e
  have d1 : (a.num * b.den ≤ b.num * a.den) = (a.num * b1 ≤ b0 * a.den) := by rw [eq_iff_iff]; omega
  have d2 : (b.num * a.den ≤ a.num * b.den) = (b0 * a.den ≤ a.num * b1) := by rw [eq_iff_iff]; omega
  have d3 : (a.num * b.den = b.num * a.den) = (a.num * b1 = b0 * a.den) := by rw [eq_iff_iff]; omega
  have nn : (n : Rat).num = n := rfl
  have nd : (((n : Rat).den : Nat) : Int) = 1 := rfl
  have e5 : (n * (a.den : Int) = a.num * 1) = (a.num * 1 = n * a.den) := by rw [eq_iff_iff]; omega
  simp only [ordL, d1, d2, d3, c1, c2, nn, nd, e5, ne_eq, decide_not]
theorem k_law {W : Wd} : Keeps 1 13 S_law (r_law W S_l_tape S_l_take S_l_fraction S_l_signed S_Ratio_eq S_Ratio_ge S_Ratio_le S_Ratio_gt S_Ratio_lt S_l_orders S_Ratio_bool S_l_pair) := by
  rintro ds eta Qa EXa ⟨ns, rfl, rfl, hl, k⟩
  refine ⟨rfl, ?_⟩
  unfold r_law
  walk_at "rd"
  refine i_fnN m_l_tape rfl ⟨ns, rfl, rfl, hl, fun T ok => ⟨rfl, _, rfl, rfl, ?_⟩⟩
  walk_at "rd"
  refine i_fn1 m_l_take rfl rfl rfl ⟨T, 0, 4, rfl, rfl, ok, by decide, by decide, by decide, fun kd T0 ok0 k0 k1 => ⟨_, rfl, rfl, rfl, ?_⟩⟩
  walk_at "rd"
  refine i_fn1 m_l_fraction rfl rfl rfl ⟨T0, 1, rfl, rfl, ok0, by decide, fun a T1 ok1 ha => ⟨_, rfl, rfl, rfl, ?_⟩⟩
  walk_at "rd"
  refine i_fn1 m_l_fraction rfl rfl rfl ⟨T1, 6, rfl, rfl, ok1, by decide, fun b T2 ok2 hb => ⟨_, rfl, rfl, rfl, ?_⟩⟩
  walk_at "rd"
  refine i_fn1 m_l_signed rfl rfl rfl ⟨T2, 11, rfl, rfl, ok2, by decide, fun n0 T3 ok3 n00 n01 => ⟨_, rfl, rfl, rfl, ?_⟩⟩
  walk_at "rd"
  refine i_pow ⟨by decide, by decide, by decide⟩ ?_
  walk_at "rd"
  refine i_pow ⟨by decide, by decide, by decide⟩ ?_
  walk_at "rd"
  refine i_fn1 m_l_take rfl rfl rfl ⟨T3, _, _, rfl, rfl, ok3, by decide, by decide, by decide, fun g T4 ok4 g0 g1 => ⟨_, rfl, rfl, rfl, ?_⟩⟩
  have g1' : g < 1000000000 := g1
  walk_at "rd"
  refine i_addCI ?_
  obtain ⟨B, hB, B0, B1⟩ : ∃ B : Int, (10 : Int) ^ (9 : Int).toNat + g = B ∧ 1000000000 ≤ B ∧ B < 2000000000 := ⟨_, rfl, by show (1000000000 : Int) ≤ 1000000000 + g; omega, by show (1000000000 : Int) + g < 2000000000; omega⟩
  rw [hB]
  have hBn : B.natAbs < 2 ^ 32 := by omega
  have mB : ∀ i : Int, IntMulOk i B := fun i => mul_r (by omega) (by omega)
  have hx : ∀ {i : Int}, i.natAbs < 2 ^ 50 → (i * B).natAbs < 2 ^ 82 := fun h => by
    rw [Int.natAbs_mul]; exact mul_lt_pow h hBn
  have hd := a.den_pos
  have hdB : 0 < (a.den : Int) * B := Int.mul_pos (by omega) (by omega)
  walk_at "rd"
  refine i_wII ?_
  walk_at "rd"
  refine i_ifset (y := ratT b) isPair rfl (fun h => ⟨_, ⟨a.num * B, a.den * B, rfl, hdB, Nat.lt_trans (hx ha.num) (by decide), Nat.lt_trans (hx ha.den) (by decide)⟩, fun R hR => by
    walk_at "rd"
    refine i_ixT (ds := [.int a.num, .int a.den]) rfl ?_
    walk_at "rd"
    refine i_ixT (ds := [.int a.num, .int a.den]) rfl ?_
    walk_at "rd"
    exact hR⟩) (fun h => ⟨b.num, b.den, rfl, by have := b.den_pos; omega, Nat.lt_trans hb.num (by decide), Nat.lt_trans hb.den (by decide)⟩) ?_
  rintro z hz
  walk_at "rd"
  refine i_wII ?_
  walk_at "rd"
  refine i_ifset (y := z) isPair rfl (fun h => ⟨_, ⟨a.num * B + 1, a.den * B, rfl, hdB, by have := hx ha.num; exact Nat.lt_trans (Nat.lt_of_le_of_lt (Int.natAbs_add_le _ _) (Nat.add_lt_add_right this 1)) (by decide), Nat.lt_trans (hx ha.den) (by decide)⟩, fun R hR => by
    walk_at "rd"
    refine i_ixT (ds := [.int a.num, .int a.den]) rfl ?_
    walk_at "rd"
    refine i_addCI ?_
    walk_at "rd"
    refine i_ixT (ds := [.int a.num, .int a.den]) rfl ?_
    walk_at "rd"
    exact hR⟩) (fun h => hz) ?_
  rintro _ ⟨b0, b1, rfl, hb1, hb0', hb1'⟩
  walk_at "rd"
  refine i_wII ?_
  walk_at "rd"
  refine i_ifset (y := .int n0) (fun z => ∃ n : Int, z = .int n ∧ n.natAbs < 2 ^ 50) rfl (fun h => ⟨_, ⟨flo a, rfl, Nat.lt_of_le_of_lt (flo_abs a) ha.num⟩, fun R hR => by
    walk_at "rd"
    refine i_ixT (ds := [.int a.num, .int a.den]) rfl ?_
    walk_at "rd"
    refine i_ixT (ds := [.int a.num, .int a.den]) rfl ?_
    walk_at "rd"
    refine i_div (cfd_of (by omega) (by have h1 := ha.den; have h2 : (2:Nat)^50 = 1125899906842624 := by decide
                                        omega)) ?_
    exact hR⟩) (fun h => ⟨n0, rfl, by omega⟩) ?_
  rintro _ ⟨n, rfl, hn⟩
  have hnR : RB 50 (n : Rat) := RB.int (by decide) hn
  have a4 : RB 4000 a := ha.mono (by decide)
  have n4 : RB 4000 (n : Rat) := hnR.mono (by decide)
  have hb1n : b1 ≠ 0 := by omega
  obtain ⟨b', hb'⟩ : ∃ q : Rat, Rat.divInt b0 b1 = q := ⟨_, rfl⟩
  have b4 : RB 4000 b' := by rw [← hb']; exact (RB.divInt hb1n hb0' hb1').mono (by decide)
  walk_at "rd"
  refine i_ixT (ds := [.int a.num, .int a.den]) rfl ?_
  walk_at "rd"
  refine i_ixT (ds := [.int a.num, .int a.den]) rfl ?_
  walk_at "rd"
  refine i_rat (by omega) (divB (n := 50) ha.den (by decide) (by decide)) ?_
  rw [rat_self]
  walk_at "rd"
  refine i_rat hb1n (divB (n := 100) hb1' (by decide) (by decide)) ?_
  rw [hb']
  walk_at "rd"
  refine i_wRR (i_fn0 m_Ratio_lt rfl ⟨a, b', _, rfl, rfl, .inl rfl, a4, b4, rfl, rfl, ?_⟩)
  walk_at "rd"
  refine i_wRR (i_fn0 m_Ratio_le rfl ⟨a, b', _, rfl, rfl, .inl rfl, a4, b4, rfl, rfl, ?_⟩)
  walk_at "rd"
  refine i_wRR (i_fn0 m_Ratio_gt rfl ⟨a, b', _, rfl, rfl, .inl rfl, a4, b4, rfl, rfl, ?_⟩)
  walk_at "rd"
  refine i_wRR (i_fn0 m_Ratio_ge rfl ⟨a, b', _, rfl, rfl, .inl rfl, a4, b4, rfl, rfl, ?_⟩)
  walk_at "rd"
  refine i_wRR (i_fn0 m_Ratio_eq rfl ⟨a, b', _, rfl, rfl, .inl rfl, rfl, rfl, ?_⟩)
  walk_at "rd"
  refine i_neRR (i_fn0 m_Ratio_eq rfl ⟨a, b', _, rfl, rfl, .inl rfl, rfl, rfl, ?_⟩)
  refine i_neQ ?_
  walk_at "rd"
  refine i_wRI (i_fn0 m_Ratio_lt rfl ⟨a, n, _, rfl, rfl, .inr ⟨n, rfl, rfl⟩, a4, n4, rfl, rfl, ?_⟩)
  walk_at "rd"
  refine i_wRI (i_fn0 m_Ratio_le rfl ⟨a, n, _, rfl, rfl, .inr ⟨n, rfl, rfl⟩, a4, n4, rfl, rfl, ?_⟩)
  walk_at "rd"
  refine i_wRI (i_fn0 m_Ratio_gt rfl ⟨a, n, _, rfl, rfl, .inr ⟨n, rfl, rfl⟩, a4, n4, rfl, rfl, ?_⟩)
  walk_at "rd"
  refine i_wRI (i_fn0 m_Ratio_ge rfl ⟨a, n, _, rfl, rfl, .inr ⟨n, rfl, rfl⟩, a4, n4, rfl, rfl, ?_⟩)
  walk_at "rd"
  refine i_wRI (i_fn0 m_Ratio_eq rfl ⟨a, n, _, rfl, rfl, .inr ⟨n, rfl, rfl⟩, rfl, rfl, ?_⟩)
  walk_at "rd"
  refine i_neRI (i_fn0 m_Ratio_eq rfl ⟨a, n, _, rfl, rfl, .inr ⟨n, rfl, rfl⟩, rfl, rfl, ?_⟩)
  refine i_neQ ?_
  walk_at "rd"
  refine i_addCL rfl ?_
  walk_at "rd"
  refine i_wIR (i_fn0 m_Ratio_gt rfl ⟨a, n, _, rfl, rfl, .inr ⟨n, rfl, rfl⟩, a4, n4, rfl, rfl, ?_⟩)
  walk_at "rd"
  refine i_wIR (i_fn0 m_Ratio_ge rfl ⟨a, n, _, rfl, rfl, .inr ⟨n, rfl, rfl⟩, a4, n4, rfl, rfl, ?_⟩)
  walk_at "rd"
  refine i_wIR (i_fn0 m_Ratio_lt rfl ⟨a, n, _, rfl, rfl, .inr ⟨n, rfl, rfl⟩, a4, n4, rfl, rfl, ?_⟩)
  walk_at "rd"
  refine i_wIR (i_fn0 m_Ratio_le rfl ⟨a, n, _, rfl, rfl, .inr ⟨n, rfl, rfl⟩, a4, n4, rfl, rfl, ?_⟩)
  walk_at "rd"
  refine i_wIR (i_fn0 m_Ratio_eq rfl ⟨a, n, _, rfl, rfl, .inr ⟨n, rfl, rfl⟩, rfl, rfl, ?_⟩)
  walk_at "rd"
  refine i_neIR (i_fn0 m_Ratio_eq rfl ⟨a, n, _, rfl, rfl, .inr ⟨n, rfl, rfl⟩, rfl, rfl, ?_⟩)
  refine i_neQ ?_
  walk_at "rd"
  refine i_addCL rfl ?_
  have l0 := Nat.lt_trans ha.num (show 2 ^ 50 < 2 ^ 4000 by decide)
  have l1 := Nat.lt_trans ha.den (show 2 ^ 50 < 2 ^ 4000 by decide)
  have l2 := Nat.lt_trans hb0' (show 2 ^ 100 < 2 ^ 4000 by decide)
  have l3 := Nat.lt_trans hb1' (show 2 ^ 100 < 2 ^ 4000 by decide)
  have l4 := Nat.lt_trans hn (show 2 ^ 50 < 2 ^ 4000 by decide)
  have l5 : (1 : Int).natAbs < 2 ^ 4000 := by decide
  walk_at "rd"
  refine i_fn0 m_l_orders rfl ⟨a.num, a.den, b0, b1, rfl, rfl, l0, l1, l2, l3, rfl, rfl, ?_⟩
  walk_at "rd"
  refine i_fn0 m_l_orders rfl ⟨a.num, a.den, n, 1, rfl, rfl, l0, l1, l4, l5, rfl, rfl, ?_⟩
  walk_at "rd"
  refine i_addCL rfl ?_
  walk_at "rd"
  refine i_fn0 m_l_orders rfl ⟨n, 1, a.num, a.den, rfl, rfl, l4, l5, l0, l1, rfl, rfl, ?_⟩
  walk_at "rd"
  refine i_addCL rfl ?_
  walk_at "rd"
  refine ⟨by simp, ?_⟩
  refine lcg_none (fun d hd Y Z hZ => ?_) ?_
  · obtain ⟨c, rfl⟩ : ∃ c, d = .bl c := by
      simp only [List.cons_append, List.nil_append, List.mem_cons, List.not_mem_nil, or_false] at hd
      rcases hd with rfl | rfl | rfl | rfl | rfl | rfl | rfl | rfl | rfl | rfl | rfl | rfl | rfl | rfl | rfl | rfl | rfl | rfl <;> exact ⟨_, rfl⟩
    walk_at "rd"
    exact hZ
  walk_at "rd"
  refine i_neLL (i_neE rfl rfl ?_)
  walk_at "rd"
  refine i_neLL (i_neE ?_ rfl ?_)
  · exact told_due hb1 hb'
  walk_at "rd"
  refine i_boolR (i_fn0 m_Ratio_bool rfl ⟨a, rfl, rfl, rfl, rfl, ?_⟩)
  refine i_boolQ ?_
  walk_at "rd"
  refine i_ixT (ds := [.int a.num, .int a.den]) rfl ?_
  walk_at "rd"
  refine i_neII ?_
  walk_at "rd"
  refine i_neBB (i_neE rfl rfl ?_)
  walk_at "rd"
  refine i_boolR (i_fn0 m_Ratio_bool rfl ⟨_, rfl, rfl, rfl, rfl, ?_⟩)
  refine i_boolQ ?_
  walk_at "rd"
  rw [show decide (((0 : Int) : Rat).num ≠ 0) = false by decide +kernel]
  walk_at "rd"
  refine i_rat (j := 3) (by decide) (divB (n := 50) (by decide) (by decide) (by decide)) ?_
  walk_at "rd"
  refine i_boolR (i_fn0 m_Ratio_bool rfl ⟨_, rfl, rfl, rfl, rfl, ?_⟩)
  refine i_boolQ ?_
  rw [show decide ((Rat.divInt (-1) 3).num ≠ 0) = true by decide +kernel]
  walk_at "rd"
  refine i_fn0 m_l_pair rfl ⟨a, rfl, rfl, rfl, rfl, ?_⟩
  walk_at "rd"
  refine i_wTT ?_
  refine i_eqE rfl rfl ?_
  exact ⟨rfl, k _⟩

end RF
set_option maxRecDepth 100000
set_option maxHeartbeats 0
namespace RF
open PySem PySem.Spec PyProof.Rows L2
def exB (K : PySem.W.Frag) : Bool := [ratB K ((WK K).cl 0),
  ownCB K ((WK K).cl 0) "__eq__",
  gloB K "Ratio" (.ref ((WK K).cl 0)),
  PySem.W.keepIn K (.ref ((WK K).cl 0)),
  ownNB K ((WK K).cl 0),
  ownCB K ((WK K).cl 0) "__ge__",
  ownCB K ((WK K).cl 0) "__le__",
  ownCB K ((WK K).cl 0) "__gt__",
  ownCB K ((WK K).cl 0) "__lt__",
  isiB K ((WK K).cl 0) [.type "bool"] isBool,
  freeB K "bool",
  freeB K "isinstance",
  ownUB K ((WK K).cl 0) "__bool__",
  freeB K "len",
  freeB K "range",
  freeB K "abs",
  freeB K "sum",
  freeB K "int",
  freeB K "list",
  isiB K ((WK K).cl 0) [.ref ((WK K).cl 0)] isRat,
  isiB K ((WK K).cl 0) [.type "int"] isInt,
  xinB K ((WK K).cl 2),
  gloB K "ZeroBottom" (.ref ((WK K).cl 2)),
  gloB K "gcd" (.builtin "math.gcd"),
  gloB K "_law_tape" (.ref (He.ga K "_law_tape")),
  gloB K "_law_take" (.ref (He.ga K "_law_take")),
  gloB K "_law_signed" (.ref (He.ga K "_law_signed")),
  gloB K "_law_gcd" (.ref (He.ga K "_law_gcd")),
  gloB K "_law_low" (.ref (He.ga K "_law_low")),
  gloB K "_law_fraction" (.ref (He.ga K "_law_fraction")),
  gloB K "as_ratio" (.ref (He.ga K "as_ratio")),
  gloB K "_law_orders" (.ref (He.ga K "_law_orders")),
  gloB K "_law_whole" (.ref (He.ga K "_law_whole")),
  gloB K "_law_pair" (.ref (He.ga K "_law_pair")),
  gloB K "law" (.ref (He.ga K "law"))].all id
theorem exB_at {K : PySem.W.Frag} (h : exB K = true) {b : Bool} (hb : b ∈ [ratB K ((WK K).cl 0),
  ownCB K ((WK K).cl 0) "__eq__",
  gloB K "Ratio" (.ref ((WK K).cl 0)),
  PySem.W.keepIn K (.ref ((WK K).cl 0)),
  ownNB K ((WK K).cl 0),
  ownCB K ((WK K).cl 0) "__ge__",
  ownCB K ((WK K).cl 0) "__le__",
  ownCB K ((WK K).cl 0) "__gt__",
  ownCB K ((WK K).cl 0) "__lt__",
  isiB K ((WK K).cl 0) [.type "bool"] isBool,
  freeB K "bool",
  freeB K "isinstance",
  ownUB K ((WK K).cl 0) "__bool__",
  freeB K "len",
  freeB K "range",
  freeB K "abs",
  freeB K "sum",
  freeB K "int",
  freeB K "list",
  isiB K ((WK K).cl 0) [.ref ((WK K).cl 0)] isRat,
  isiB K ((WK K).cl 0) [.type "int"] isInt,
  xinB K ((WK K).cl 2),
  gloB K "ZeroBottom" (.ref ((WK K).cl 2)),
  gloB K "gcd" (.builtin "math.gcd"),
  gloB K "_law_tape" (.ref (He.ga K "_law_tape")),
  gloB K "_law_take" (.ref (He.ga K "_law_take")),
  gloB K "_law_signed" (.ref (He.ga K "_law_signed")),
  gloB K "_law_gcd" (.ref (He.ga K "_law_gcd")),
  gloB K "_law_low" (.ref (He.ga K "_law_low")),
  gloB K "_law_fraction" (.ref (He.ga K "_law_fraction")),
  gloB K "as_ratio" (.ref (He.ga K "as_ratio")),
  gloB K "_law_orders" (.ref (He.ga K "_law_orders")),
  gloB K "_law_whole" (.ref (He.ga K "_law_whole")),
  gloB K "_law_pair" (.ref (He.ga K "_law_pair")),
  gloB K "law" (.ref (He.ga K "law"))]) : b = true := List.all_eq_true.mp h b hb
theorem txt_of {K : PySem.W.Frag} {h : Heap} {mg : Str → Option Value} (X : K.In h) (G : h.Ns mainGlobals mg) (e : exB K = true) : Txt K mg (WK K) where
  rc := ratB_ok (exB_at e (List.mem_cons_self))
  oc_eq := ownCB_ok (exB_at e (List.mem_cons_of_mem _ (List.mem_cons_self)))
  mg_Ratio := gloB_ok X G (exB_at e (List.mem_cons_of_mem _ (List.mem_cons_of_mem _ (List.mem_cons_self))))
  kp_Ratio := (exB_at e (List.mem_cons_of_mem _ (List.mem_cons_of_mem _ (List.mem_cons_of_mem _ (List.mem_cons_self)))))
  on_ne := ownNB_ok (exB_at e (List.mem_cons_of_mem _ (List.mem_cons_of_mem _ (List.mem_cons_of_mem _ (List.mem_cons_of_mem _ (List.mem_cons_self))))))
  oc_ge := ownCB_ok (exB_at e (List.mem_cons_of_mem _ (List.mem_cons_of_mem _ (List.mem_cons_of_mem _ (List.mem_cons_of_mem _ (List.mem_cons_of_mem _ (List.mem_cons_self)))))))
  oc_le := ownCB_ok (exB_at e (List.mem_cons_of_mem _ (List.mem_cons_of_mem _ (List.mem_cons_of_mem _ (List.mem_cons_of_mem _ (List.mem_cons_of_mem _ (List.mem_cons_of_mem _ (List.mem_cons_self))))))))
  oc_gt := ownCB_ok (exB_at e (List.mem_cons_of_mem _ (List.mem_cons_of_mem _ (List.mem_cons_of_mem _ (List.mem_cons_of_mem _ (List.mem_cons_of_mem _ (List.mem_cons_of_mem _ (List.mem_cons_of_mem _ (List.mem_cons_self)))))))))
  oc_lt := ownCB_ok (exB_at e (List.mem_cons_of_mem _ (List.mem_cons_of_mem _ (List.mem_cons_of_mem _ (List.mem_cons_of_mem _ (List.mem_cons_of_mem _ (List.mem_cons_of_mem _ (List.mem_cons_of_mem _ (List.mem_cons_of_mem _ (List.mem_cons_self))))))))))
  is_bool := isiB_bool (exB_at e (List.mem_cons_of_mem _ (List.mem_cons_of_mem _ (List.mem_cons_of_mem _ (List.mem_cons_of_mem _ (List.mem_cons_of_mem _ (List.mem_cons_of_mem _ (List.mem_cons_of_mem _ (List.mem_cons_of_mem _ (List.mem_cons_of_mem _ (List.mem_cons_self)))))))))))
  no_bool := freeB_ok X G (exB_at e (List.mem_cons_of_mem _ (List.mem_cons_of_mem _ (List.mem_cons_of_mem _ (List.mem_cons_of_mem _ (List.mem_cons_of_mem _ (List.mem_cons_of_mem _ (List.mem_cons_of_mem _ (List.mem_cons_of_mem _ (List.mem_cons_of_mem _ (List.mem_cons_of_mem _ (List.mem_cons_self))))))))))))
  no_isinstance := freeB_ok X G (exB_at e (List.mem_cons_of_mem _ (List.mem_cons_of_mem _ (List.mem_cons_of_mem _ (List.mem_cons_of_mem _ (List.mem_cons_of_mem _ (List.mem_cons_of_mem _ (List.mem_cons_of_mem _ (List.mem_cons_of_mem _ (List.mem_cons_of_mem _ (List.mem_cons_of_mem _ (List.mem_cons_of_mem _ (List.mem_cons_self)))))))))))))
  ou_bool := ownUB_ok (exB_at e (List.mem_cons_of_mem _ (List.mem_cons_of_mem _ (List.mem_cons_of_mem _ (List.mem_cons_of_mem _ (List.mem_cons_of_mem _ (List.mem_cons_of_mem _ (List.mem_cons_of_mem _ (List.mem_cons_of_mem _ (List.mem_cons_of_mem _ (List.mem_cons_of_mem _ (List.mem_cons_of_mem _ (List.mem_cons_of_mem _ (List.mem_cons_self))))))))))))))
  no_len := freeB_ok X G (exB_at e (List.mem_cons_of_mem _ (List.mem_cons_of_mem _ (List.mem_cons_of_mem _ (List.mem_cons_of_mem _ (List.mem_cons_of_mem _ (List.mem_cons_of_mem _ (List.mem_cons_of_mem _ (List.mem_cons_of_mem _ (List.mem_cons_of_mem _ (List.mem_cons_of_mem _ (List.mem_cons_of_mem _ (List.mem_cons_of_mem _ (List.mem_cons_of_mem _ (List.mem_cons_self)))))))))))))))
  no_range := freeB_ok X G (exB_at e (List.mem_cons_of_mem _ (List.mem_cons_of_mem _ (List.mem_cons_of_mem _ (List.mem_cons_of_mem _ (List.mem_cons_of_mem _ (List.mem_cons_of_mem _ (List.mem_cons_of_mem _ (List.mem_cons_of_mem _ (List.mem_cons_of_mem _ (List.mem_cons_of_mem _ (List.mem_cons_of_mem _ (List.mem_cons_of_mem _ (List.mem_cons_of_mem _ (List.mem_cons_of_mem _ (List.mem_cons_self))))))))))))))))
  no_abs := freeB_ok X G (exB_at e (List.mem_cons_of_mem _ (List.mem_cons_of_mem _ (List.mem_cons_of_mem _ (List.mem_cons_of_mem _ (List.mem_cons_of_mem _ (List.mem_cons_of_mem _ (List.mem_cons_of_mem _ (List.mem_cons_of_mem _ (List.mem_cons_of_mem _ (List.mem_cons_of_mem _ (List.mem_cons_of_mem _ (List.mem_cons_of_mem _ (List.mem_cons_of_mem _ (List.mem_cons_of_mem _ (List.mem_cons_of_mem _ (List.mem_cons_self)))))))))))))))))
  no_sum := freeB_ok X G (exB_at e (List.mem_cons_of_mem _ (List.mem_cons_of_mem _ (List.mem_cons_of_mem _ (List.mem_cons_of_mem _ (List.mem_cons_of_mem _ (List.mem_cons_of_mem _ (List.mem_cons_of_mem _ (List.mem_cons_of_mem _ (List.mem_cons_of_mem _ (List.mem_cons_of_mem _ (List.mem_cons_of_mem _ (List.mem_cons_of_mem _ (List.mem_cons_of_mem _ (List.mem_cons_of_mem _ (List.mem_cons_of_mem _ (List.mem_cons_of_mem _ (List.mem_cons_self))))))))))))))))))
  no_int := freeB_ok X G (exB_at e (List.mem_cons_of_mem _ (List.mem_cons_of_mem _ (List.mem_cons_of_mem _ (List.mem_cons_of_mem _ (List.mem_cons_of_mem _ (List.mem_cons_of_mem _ (List.mem_cons_of_mem _ (List.mem_cons_of_mem _ (List.mem_cons_of_mem _ (List.mem_cons_of_mem _ (List.mem_cons_of_mem _ (List.mem_cons_of_mem _ (List.mem_cons_of_mem _ (List.mem_cons_of_mem _ (List.mem_cons_of_mem _ (List.mem_cons_of_mem _ (List.mem_cons_of_mem _ (List.mem_cons_self)))))))))))))))))))
  no_list := freeB_ok X G (exB_at e (List.mem_cons_of_mem _ (List.mem_cons_of_mem _ (List.mem_cons_of_mem _ (List.mem_cons_of_mem _ (List.mem_cons_of_mem _ (List.mem_cons_of_mem _ (List.mem_cons_of_mem _ (List.mem_cons_of_mem _ (List.mem_cons_of_mem _ (List.mem_cons_of_mem _ (List.mem_cons_of_mem _ (List.mem_cons_of_mem _ (List.mem_cons_of_mem _ (List.mem_cons_of_mem _ (List.mem_cons_of_mem _ (List.mem_cons_of_mem _ (List.mem_cons_of_mem _ (List.mem_cons_of_mem _ (List.mem_cons_self))))))))))))))))))))
  is_Ratio := isiB_rat (exB_at e (List.mem_cons_of_mem _ (List.mem_cons_of_mem _ (List.mem_cons_of_mem _ (List.mem_cons_of_mem _ (List.mem_cons_of_mem _ (List.mem_cons_of_mem _ (List.mem_cons_of_mem _ (List.mem_cons_of_mem _ (List.mem_cons_of_mem _ (List.mem_cons_of_mem _ (List.mem_cons_of_mem _ (List.mem_cons_of_mem _ (List.mem_cons_of_mem _ (List.mem_cons_of_mem _ (List.mem_cons_of_mem _ (List.mem_cons_of_mem _ (List.mem_cons_of_mem _ (List.mem_cons_of_mem _ (List.mem_cons_of_mem _ (List.mem_cons_self)))))))))))))))))))))
  is_int := isiB_int (exB_at e (List.mem_cons_of_mem _ (List.mem_cons_of_mem _ (List.mem_cons_of_mem _ (List.mem_cons_of_mem _ (List.mem_cons_of_mem _ (List.mem_cons_of_mem _ (List.mem_cons_of_mem _ (List.mem_cons_of_mem _ (List.mem_cons_of_mem _ (List.mem_cons_of_mem _ (List.mem_cons_of_mem _ (List.mem_cons_of_mem _ (List.mem_cons_of_mem _ (List.mem_cons_of_mem _ (List.mem_cons_of_mem _ (List.mem_cons_of_mem _ (List.mem_cons_of_mem _ (List.mem_cons_of_mem _ (List.mem_cons_of_mem _ (List.mem_cons_of_mem _ (List.mem_cons_self))))))))))))))))))))))
  xi_ZeroBottom := xinB_ok (exB_at e (List.mem_cons_of_mem _ (List.mem_cons_of_mem _ (List.mem_cons_of_mem _ (List.mem_cons_of_mem _ (List.mem_cons_of_mem _ (List.mem_cons_of_mem _ (List.mem_cons_of_mem _ (List.mem_cons_of_mem _ (List.mem_cons_of_mem _ (List.mem_cons_of_mem _ (List.mem_cons_of_mem _ (List.mem_cons_of_mem _ (List.mem_cons_of_mem _ (List.mem_cons_of_mem _ (List.mem_cons_of_mem _ (List.mem_cons_of_mem _ (List.mem_cons_of_mem _ (List.mem_cons_of_mem _ (List.mem_cons_of_mem _ (List.mem_cons_of_mem _ (List.mem_cons_of_mem _ (List.mem_cons_self)))))))))))))))))))))))
  mg_ZeroBottom := gloB_ok X G (exB_at e (List.mem_cons_of_mem _ (List.mem_cons_of_mem _ (List.mem_cons_of_mem _ (List.mem_cons_of_mem _ (List.mem_cons_of_mem _ (List.mem_cons_of_mem _ (List.mem_cons_of_mem _ (List.mem_cons_of_mem _ (List.mem_cons_of_mem _ (List.mem_cons_of_mem _ (List.mem_cons_of_mem _ (List.mem_cons_of_mem _ (List.mem_cons_of_mem _ (List.mem_cons_of_mem _ (List.mem_cons_of_mem _ (List.mem_cons_of_mem _ (List.mem_cons_of_mem _ (List.mem_cons_of_mem _ (List.mem_cons_of_mem _ (List.mem_cons_of_mem _ (List.mem_cons_of_mem _ (List.mem_cons_of_mem _ (List.mem_cons_self))))))))))))))))))))))))
  mg_gcd := gloB_ok X G (exB_at e (List.mem_cons_of_mem _ (List.mem_cons_of_mem _ (List.mem_cons_of_mem _ (List.mem_cons_of_mem _ (List.mem_cons_of_mem _ (List.mem_cons_of_mem _ (List.mem_cons_of_mem _ (List.mem_cons_of_mem _ (List.mem_cons_of_mem _ (List.mem_cons_of_mem _ (List.mem_cons_of_mem _ (List.mem_cons_of_mem _ (List.mem_cons_of_mem _ (List.mem_cons_of_mem _ (List.mem_cons_of_mem _ (List.mem_cons_of_mem _ (List.mem_cons_of_mem _ (List.mem_cons_of_mem _ (List.mem_cons_of_mem _ (List.mem_cons_of_mem _ (List.mem_cons_of_mem _ (List.mem_cons_of_mem _ (List.mem_cons_of_mem _ (List.mem_cons_self)))))))))))))))))))))))))
def dD_l_tape : He.DefD := ⟨("_law_tape", none), "_law_tape", "_law_tape", defArgs (topS 9), defBody (topS 9), defScope (topS 9), [], []⟩
def dD_l_take : He.DefD := ⟨("_law_take", none), "_law_take", "_law_take", defArgs (topS 10), defBody (topS 10), defScope (topS 10), [], []⟩
def dD_l_signed : He.DefD := ⟨("_law_signed", none), "_law_signed", "_law_signed", defArgs (topS 15), defBody (topS 15), defScope (topS 15), [], []⟩
def dD_l_gcd : He.DefD := ⟨("_law_gcd", none), "_law_gcd", "_law_gcd", defArgs (topS 12), defBody (topS 12), defScope (topS 12), [], []⟩
def dD_l_low : He.DefD := ⟨("_law_low", none), "_law_low", "_law_low", defArgs (topS 13), defBody (topS 13), defScope (topS 13), [], []⟩
def dD_l_fraction : He.DefD := ⟨("_law_fraction", none), "_law_fraction", "_law_fraction", defArgs (topS 16), defBody (topS 16), defScope (topS 16), [], []⟩
def dD_Ratio_eq : He.DefD := ⟨("Ratio", some "__eq__"), "__eq__", "Ratio.__eq__", defArgs (inClass (topS 6) 17), defBody (inClass (topS 6) 17), defScope (inClass (topS 6) 17), [], []⟩
def dD_Ratio_init : He.DefD := ⟨("Ratio", some "__init__"), "__init__", "Ratio.__init__", defArgs (inClass (topS 6) 1), defBody (inClass (topS 6) 1), defScope (inClass (topS 6) 1), [.int 1], []⟩
def dD_as_ratio : He.DefD := ⟨("as_ratio", none), "as_ratio", "as_ratio", defArgs (topS 7), defBody (topS 7), defScope (topS 7), [], []⟩
def dD_Ratio_ge : He.DefD := ⟨("Ratio", some "__ge__"), "__ge__", "Ratio.__ge__", defArgs (inClass (topS 6) 21), defBody (inClass (topS 6) 21), defScope (inClass (topS 6) 21), [], []⟩
def dD_Ratio_le : He.DefD := ⟨("Ratio", some "__le__"), "__le__", "Ratio.__le__", defArgs (inClass (topS 6) 19), defBody (inClass (topS 6) 19), defScope (inClass (topS 6) 19), [], []⟩
def dD_Ratio_gt : He.DefD := ⟨("Ratio", some "__gt__"), "__gt__", "Ratio.__gt__", defArgs (inClass (topS 6) 20), defBody (inClass (topS 6) 20), defScope (inClass (topS 6) 20), [], []⟩
def dD_Ratio_lt : He.DefD := ⟨("Ratio", some "__lt__"), "__lt__", "Ratio.__lt__", defArgs (inClass (topS 6) 18), defBody (inClass (topS 6) 18), defScope (inClass (topS 6) 18), [], []⟩
def dD_l_orders : He.DefD := ⟨("_law_orders", none), "_law_orders", "_law_orders", defArgs (topS 17), defBody (topS 17), defScope (topS 17), [], []⟩
def dD_Ratio_bool : He.DefD := ⟨("Ratio", some "__bool__"), "__bool__", "Ratio.__bool__", defArgs (inClass (topS 6) 16), defBody (inClass (topS 6) 16), defScope (inClass (topS 6) 16), [], []⟩
def dD_l_whole : He.DefD := ⟨("_law_whole", none), "_law_whole", "_law_whole", defArgs (topS 11), defBody (topS 11), defScope (topS 11), [], []⟩
def dD_l_pair : He.DefD := ⟨("_law_pair", none), "_law_pair", "_law_pair", defArgs (topS 14), defBody (topS 14), defScope (topS 14), [], []⟩
def dD_law : He.DefD := ⟨("law", none), "law", "law", defArgs (topS 18), defBody (topS 18), defScope (topS 18), [], []⟩
def fnL : List He.DefD := [dD_l_tape, dD_l_take, dD_l_signed, dD_l_gcd, dD_l_low, dD_l_fraction, dD_Ratio_eq, dD_Ratio_init, dD_as_ratio, dD_Ratio_ge, dD_Ratio_le, dD_Ratio_gt, dD_Ratio_lt, dD_l_orders, dD_Ratio_bool, dD_l_whole, dD_l_pair, dD_law]
abbrev HR : PySem.W.OpenRow := PySem.W.OpenLaw.row PySem.Challenge.rw_risingfill_k04_ratio_order
abbrev qv : Program := PySem.W.view HR.prog [0, 18]
def hnames : List PySem.Str := ([("FillError" : PySem.Str), ("ZeroBottom" : PySem.Str), ("ZeroDivisor" : PySem.Str), ("Ratio" : PySem.Str), ("as_ratio" : PySem.Str), ("_law_tape" : PySem.Str), ("_law_take" : PySem.Str), ("_law_whole" : PySem.Str), ("_law_gcd" : PySem.Str), ("_law_low" : PySem.Str), ("_law_pair" : PySem.Str), ("_law_signed" : PySem.Str), ("_law_fraction" : PySem.Str), ("_law_orders" : PySem.Str)] : List PySem.Str)
abbrev hkF : PySem.W.Hook := hookF 6 fnL exB
def obH (s : PySem.W.SharedT) : AlF := obsF 6 fnL exB (HandSHeadRun.getT s)
theorem obH_eq (s : PySem.W.SharedT) : obH s = hkF.obs s.abs := obsF_eq (HandSHeadRun.getT_eq s)
theorem hrun (w : World) : HandSHeadRun.RunEqI HR qv hkF obH 10000 hnames w := by
  unfold HandSHeadRun.RunEqI
  kernel_rfl
theorem all_ok {P : Program} {w : World} {K : PySem.W.Frag} {h : Heap} {mg : Str → Option Value} {fa : Addr} (X : K.In h) (G : h.Ns mainGlobals mg) (hfa : mg ("law" : Str) = some (.ref fa)) (c : SaysF fnL exB K) :
    ∃ fd : FuncData, (∀ (s : Shared) (v : Value), BindsTo s fd ⟨[v], []⟩ [("_law_script", v)]) ∧ ∀ base : Heap, K.In base → base.Ns mainGlobals mg → FnOk P w K mg base (L2.CX P w) 6 fa fd ["_law_script"] (spOf (WK K) S_law) := by
  have T := txt_of X G c.ex
  obtain ⟨fd_l_tape, F_l_tape⟩ := c.d.def_ 0 (d := dD_l_tape) rfl
  obtain ⟨fd_l_take, F_l_take⟩ := c.d.def_ 1 (d := dD_l_take) rfl
  obtain ⟨fd_l_signed, F_l_signed⟩ := c.d.def_ 2 (d := dD_l_signed) rfl
  obtain ⟨fd_l_gcd, F_l_gcd⟩ := c.d.def_ 3 (d := dD_l_gcd) rfl
  obtain ⟨fd_l_low, F_l_low⟩ := c.d.def_ 4 (d := dD_l_low) rfl
  obtain ⟨fd_l_fraction, F_l_fraction⟩ := c.d.def_ 5 (d := dD_l_fraction) rfl
  obtain ⟨fd_Ratio_eq, F_Ratio_eq⟩ := c.d.def_ 6 (d := dD_Ratio_eq) rfl
  rw [show He.fAd K dD_Ratio_eq.at_ = adrOf (PySem.W.findIn K (.ref ((WK K).cl 0)) "__eq__") from ma_eq] at F_Ratio_eq
  obtain ⟨fd_Ratio_init, F_Ratio_init⟩ := c.d.def_ 7 (d := dD_Ratio_init) rfl
  rw [show He.fAd K dD_Ratio_init.at_ = adrOf (PySem.W.findIn K (.ref ((WK K).cl 0)) "__init__") from ma_eq] at F_Ratio_init
  obtain ⟨fd_as_ratio, F_as_ratio⟩ := c.d.def_ 8 (d := dD_as_ratio) rfl
  obtain ⟨fd_Ratio_ge, F_Ratio_ge⟩ := c.d.def_ 9 (d := dD_Ratio_ge) rfl
  rw [show He.fAd K dD_Ratio_ge.at_ = adrOf (PySem.W.findIn K (.ref ((WK K).cl 0)) "__ge__") from ma_eq] at F_Ratio_ge
  obtain ⟨fd_Ratio_le, F_Ratio_le⟩ := c.d.def_ 10 (d := dD_Ratio_le) rfl
  rw [show He.fAd K dD_Ratio_le.at_ = adrOf (PySem.W.findIn K (.ref ((WK K).cl 0)) "__le__") from ma_eq] at F_Ratio_le
  obtain ⟨fd_Ratio_gt, F_Ratio_gt⟩ := c.d.def_ 11 (d := dD_Ratio_gt) rfl
  rw [show He.fAd K dD_Ratio_gt.at_ = adrOf (PySem.W.findIn K (.ref ((WK K).cl 0)) "__gt__") from ma_eq] at F_Ratio_gt
  obtain ⟨fd_Ratio_lt, F_Ratio_lt⟩ := c.d.def_ 12 (d := dD_Ratio_lt) rfl
  rw [show He.fAd K dD_Ratio_lt.at_ = adrOf (PySem.W.findIn K (.ref ((WK K).cl 0)) "__lt__") from ma_eq] at F_Ratio_lt
  obtain ⟨fd_l_orders, F_l_orders⟩ := c.d.def_ 13 (d := dD_l_orders) rfl
  obtain ⟨fd_Ratio_bool, F_Ratio_bool⟩ := c.d.def_ 14 (d := dD_Ratio_bool) rfl
  rw [show He.fAd K dD_Ratio_bool.at_ = adrOf (PySem.W.findIn K (.ref ((WK K).cl 0)) "__bool__") from ma_eq] at F_Ratio_bool
  obtain ⟨fd_l_whole, F_l_whole⟩ := c.d.def_ 15 (d := dD_l_whole) rfl
  obtain ⟨fd_l_pair, F_l_pair⟩ := c.d.def_ 16 (d := dD_l_pair) rfl
  obtain ⟨fd_law, F_law⟩ := c.d.def_ 17 (d := dD_law) rfl
  have e := hfa.symm.trans (gloB_ok X G (exB_at c.ex (List.mem_cons_of_mem _ (List.mem_cons_of_mem _ (List.mem_cons_of_mem _ (List.mem_cons_of_mem _ (List.mem_cons_of_mem _ (List.mem_cons_of_mem _ (List.mem_cons_of_mem _ (List.mem_cons_of_mem _ (List.mem_cons_of_mem _ (List.mem_cons_of_mem _ (List.mem_cons_of_mem _ (List.mem_cons_of_mem _ (List.mem_cons_of_mem _ (List.mem_cons_of_mem _ (List.mem_cons_of_mem _ (List.mem_cons_of_mem _ (List.mem_cons_of_mem _ (List.mem_cons_of_mem _ (List.mem_cons_of_mem _ (List.mem_cons_of_mem _ (List.mem_cons_of_mem _ (List.mem_cons_of_mem _ (List.mem_cons_of_mem _ (List.mem_cons_of_mem _ (List.mem_cons_of_mem _ (List.mem_cons_of_mem _ (List.mem_cons_of_mem _ (List.mem_cons_of_mem _ (List.mem_cons_of_mem _ (List.mem_cons_of_mem _ (List.mem_cons_of_mem _ (List.mem_cons_of_mem _ (List.mem_cons_of_mem _ (List.mem_cons_of_mem _ (List.mem_cons_self)))))))))))))))))))))))))))))))))))))
  cases e
  have bL := FunD.bindsA (ps := ["_law_script"]) F_law fun _ _ _ _ _ _ us hl => match us, hl with | [_], _ => rfl
  refine ⟨fd_law, fun s v => bL s [v] rfl, fun base _ _ => ?_⟩
  have b_l_tape := FunD.bindsN (ps := ["_law_script"]) F_l_tape fun _ _ _ _ _ _ us hl => match us, hl with | [_], _ => rfl
  have h_l_tape : Has P w K mg base (WK K) "_law_tape" 1 S_l_tape := has_of (ok_l_tape T  F_l_tape k_l_tape) b_l_tape (gloB_ok X G (exB_at c.ex (List.mem_cons_of_mem _ (List.mem_cons_of_mem _ (List.mem_cons_of_mem _ (List.mem_cons_of_mem _ (List.mem_cons_of_mem _ (List.mem_cons_of_mem _ (List.mem_cons_of_mem _ (List.mem_cons_of_mem _ (List.mem_cons_of_mem _ (List.mem_cons_of_mem _ (List.mem_cons_of_mem _ (List.mem_cons_of_mem _ (List.mem_cons_of_mem _ (List.mem_cons_of_mem _ (List.mem_cons_of_mem _ (List.mem_cons_of_mem _ (List.mem_cons_of_mem _ (List.mem_cons_of_mem _ (List.mem_cons_of_mem _ (List.mem_cons_of_mem _ (List.mem_cons_of_mem _ (List.mem_cons_of_mem _ (List.mem_cons_of_mem _ (List.mem_cons_of_mem _ (List.mem_cons_self))))))))))))))))))))))))))) F_l_tape.kp
  have b_l_take := FunD.bindsN (ps := ["_law_tape_here", "_law_many"]) F_l_take fun _ _ _ _ _ _ us hl => match us, hl with | [_, _], _ => rfl
  have h_l_take : Has P w K mg base (WK K) "_law_take" 1 S_l_take := has_of (ok_l_take T  F_l_take k_l_take) b_l_take (gloB_ok X G (exB_at c.ex (List.mem_cons_of_mem _ (List.mem_cons_of_mem _ (List.mem_cons_of_mem _ (List.mem_cons_of_mem _ (List.mem_cons_of_mem _ (List.mem_cons_of_mem _ (List.mem_cons_of_mem _ (List.mem_cons_of_mem _ (List.mem_cons_of_mem _ (List.mem_cons_of_mem _ (List.mem_cons_of_mem _ (List.mem_cons_of_mem _ (List.mem_cons_of_mem _ (List.mem_cons_of_mem _ (List.mem_cons_of_mem _ (List.mem_cons_of_mem _ (List.mem_cons_of_mem _ (List.mem_cons_of_mem _ (List.mem_cons_of_mem _ (List.mem_cons_of_mem _ (List.mem_cons_of_mem _ (List.mem_cons_of_mem _ (List.mem_cons_of_mem _ (List.mem_cons_of_mem _ (List.mem_cons_of_mem _ (List.mem_cons_self)))))))))))))))))))))))))))) F_l_take.kp
  have b_l_signed := FunD.bindsN (ps := ["_law_tape_here"]) F_l_signed fun _ _ _ _ _ _ us hl => match us, hl with | [_], _ => rfl
  have h_l_signed : Has P w K mg base (WK K) "_law_signed" 2 S_l_signed := has_of (ok_l_signed T h_l_take F_l_signed k_l_signed) b_l_signed (gloB_ok X G (exB_at c.ex (List.mem_cons_of_mem _ (List.mem_cons_of_mem _ (List.mem_cons_of_mem _ (List.mem_cons_of_mem _ (List.mem_cons_of_mem _ (List.mem_cons_of_mem _ (List.mem_cons_of_mem _ (List.mem_cons_of_mem _ (List.mem_cons_of_mem _ (List.mem_cons_of_mem _ (List.mem_cons_of_mem _ (List.mem_cons_of_mem _ (List.mem_cons_of_mem _ (List.mem_cons_of_mem _ (List.mem_cons_of_mem _ (List.mem_cons_of_mem _ (List.mem_cons_of_mem _ (List.mem_cons_of_mem _ (List.mem_cons_of_mem _ (List.mem_cons_of_mem _ (List.mem_cons_of_mem _ (List.mem_cons_of_mem _ (List.mem_cons_of_mem _ (List.mem_cons_of_mem _ (List.mem_cons_of_mem _ (List.mem_cons_of_mem _ (List.mem_cons_self))))))))))))))))))))))))))))) F_l_signed.kp
  have b_l_gcd := FunD.bindsN (ps := ["_law_a", "_law_b"]) F_l_gcd fun _ _ _ _ _ _ us hl => match us, hl with | [_, _], _ => rfl
  have h_l_gcd : Has P w K mg base (WK K) "_law_gcd" 1 S_l_gcd := has_of (ok_l_gcd T  F_l_gcd k_l_gcd) b_l_gcd (gloB_ok X G (exB_at c.ex (List.mem_cons_of_mem _ (List.mem_cons_of_mem _ (List.mem_cons_of_mem _ (List.mem_cons_of_mem _ (List.mem_cons_of_mem _ (List.mem_cons_of_mem _ (List.mem_cons_of_mem _ (List.mem_cons_of_mem _ (List.mem_cons_of_mem _ (List.mem_cons_of_mem _ (List.mem_cons_of_mem _ (List.mem_cons_of_mem _ (List.mem_cons_of_mem _ (List.mem_cons_of_mem _ (List.mem_cons_of_mem _ (List.mem_cons_of_mem _ (List.mem_cons_of_mem _ (List.mem_cons_of_mem _ (List.mem_cons_of_mem _ (List.mem_cons_of_mem _ (List.mem_cons_of_mem _ (List.mem_cons_of_mem _ (List.mem_cons_of_mem _ (List.mem_cons_of_mem _ (List.mem_cons_of_mem _ (List.mem_cons_of_mem _ (List.mem_cons_of_mem _ (List.mem_cons_self)))))))))))))))))))))))))))))) F_l_gcd.kp
  have b_l_low := FunD.bindsN (ps := ["_law_top", "_law_bottom"]) F_l_low fun _ _ _ _ _ _ us hl => match us, hl with | [_, _], _ => rfl
  have h_l_low : Has P w K mg base (WK K) "_law_low" 2 S_l_low := has_of (ok_l_low T h_l_gcd F_l_low k_l_low) b_l_low (gloB_ok X G (exB_at c.ex (List.mem_cons_of_mem _ (List.mem_cons_of_mem _ (List.mem_cons_of_mem _ (List.mem_cons_of_mem _ (List.mem_cons_of_mem _ (List.mem_cons_of_mem _ (List.mem_cons_of_mem _ (List.mem_cons_of_mem _ (List.mem_cons_of_mem _ (List.mem_cons_of_mem _ (List.mem_cons_of_mem _ (List.mem_cons_of_mem _ (List.mem_cons_of_mem _ (List.mem_cons_of_mem _ (List.mem_cons_of_mem _ (List.mem_cons_of_mem _ (List.mem_cons_of_mem _ (List.mem_cons_of_mem _ (List.mem_cons_of_mem _ (List.mem_cons_of_mem _ (List.mem_cons_of_mem _ (List.mem_cons_of_mem _ (List.mem_cons_of_mem _ (List.mem_cons_of_mem _ (List.mem_cons_of_mem _ (List.mem_cons_of_mem _ (List.mem_cons_of_mem _ (List.mem_cons_of_mem _ (List.mem_cons_self))))))))))))))))))))))))))))))) F_l_low.kp
  have b_l_fraction := FunD.bindsN (ps := ["_law_tape_here"]) F_l_fraction fun _ _ _ _ _ _ us hl => match us, hl with | [_], _ => rfl
  have h_l_fraction : Has P w K mg base (WK K) "_law_fraction" 3 S_l_fraction := has_of (ok_l_fraction T h_l_signed h_l_take h_l_low F_l_fraction k_l_fraction) b_l_fraction (gloB_ok X G (exB_at c.ex (List.mem_cons_of_mem _ (List.mem_cons_of_mem _ (List.mem_cons_of_mem _ (List.mem_cons_of_mem _ (List.mem_cons_of_mem _ (List.mem_cons_of_mem _ (List.mem_cons_of_mem _ (List.mem_cons_of_mem _ (List.mem_cons_of_mem _ (List.mem_cons_of_mem _ (List.mem_cons_of_mem _ (List.mem_cons_of_mem _ (List.mem_cons_of_mem _ (List.mem_cons_of_mem _ (List.mem_cons_of_mem _ (List.mem_cons_of_mem _ (List.mem_cons_of_mem _ (List.mem_cons_of_mem _ (List.mem_cons_of_mem _ (List.mem_cons_of_mem _ (List.mem_cons_of_mem _ (List.mem_cons_of_mem _ (List.mem_cons_of_mem _ (List.mem_cons_of_mem _ (List.mem_cons_of_mem _ (List.mem_cons_of_mem _ (List.mem_cons_of_mem _ (List.mem_cons_of_mem _ (List.mem_cons_of_mem _ (List.mem_cons_self)))))))))))))))))))))))))))))))) F_l_fraction.kp
  have b_Ratio_eq := FunD.bindsN (ps := ["self", "other"]) F_Ratio_eq fun _ _ _ _ _ _ us hl => match us, hl with | [_, _], _ => rfl
  have h_Ratio_eq : FnR P w K mg base (L2.CX P w) 1 _ (spOf (WK K) S_Ratio_eq) := fnR_of (ok_Ratio_eq T  F_Ratio_eq k_Ratio_eq) b_Ratio_eq
  obtain ⟨ds0, hd0, b0⟩ := FunD.binds1 (ps := ["self", "top", "bottom"]) F_Ratio_init 2 0 (by simp [He.DefD.dvs, dD_Ratio_init]) rfl fun _ _ _ _ _ _ _ us its hl hi => match us, hl, its, hi with | [_, _], _, [_], _ => ⟨_, rfl, rfl⟩
  obtain ⟨ds1, hd1, b1⟩ := FunD.binds1 (ps := ["self", "top", "bottom"]) F_Ratio_init 3 1 (by simp [He.DefD.dvs, dD_Ratio_init]) rfl fun _ _ _ _ _ _ _ us its hl hi => match us, hl, its, hi with | [_, _, _], _, [_], _ => ⟨_, rfl, rfl⟩
  have hd1 : Vals [] ds1 := hd1
  cases hd1
  have h_Ratio_init : FnR P w K mg base (L2.CX P w) 1 _ (spRI2 ((WK K).cl 0) ((WK K).cl 2)) := rinit_of (ok_Ratio_init T F_Ratio_init) b1 b0 hd0
  have b_as_ratio := FunD.bindsN (ps := ["number"]) F_as_ratio fun _ _ _ _ _ _ us hl => match us, hl with | [_], _ => rfl
  have h_as_ratio : Has P w K mg base (WK K) "as_ratio" 4 S_as_ratio := has_of (ok_as_ratio T h_Ratio_init F_as_ratio k_as_ratio) b_as_ratio (gloB_ok X G (exB_at c.ex (List.mem_cons_of_mem _ (List.mem_cons_of_mem _ (List.mem_cons_of_mem _ (List.mem_cons_of_mem _ (List.mem_cons_of_mem _ (List.mem_cons_of_mem _ (List.mem_cons_of_mem _ (List.mem_cons_of_mem _ (List.mem_cons_of_mem _ (List.mem_cons_of_mem _ (List.mem_cons_of_mem _ (List.mem_cons_of_mem _ (List.mem_cons_of_mem _ (List.mem_cons_of_mem _ (List.mem_cons_of_mem _ (List.mem_cons_of_mem _ (List.mem_cons_of_mem _ (List.mem_cons_of_mem _ (List.mem_cons_of_mem _ (List.mem_cons_of_mem _ (List.mem_cons_of_mem _ (List.mem_cons_of_mem _ (List.mem_cons_of_mem _ (List.mem_cons_of_mem _ (List.mem_cons_of_mem _ (List.mem_cons_of_mem _ (List.mem_cons_of_mem _ (List.mem_cons_of_mem _ (List.mem_cons_of_mem _ (List.mem_cons_of_mem _ (List.mem_cons_self))))))))))))))))))))))))))))))))) F_as_ratio.kp
  have b_Ratio_ge := FunD.bindsN (ps := ["self", "other"]) F_Ratio_ge fun _ _ _ _ _ _ us hl => match us, hl with | [_, _], _ => rfl
  have h_Ratio_ge : FnR P w K mg base (L2.CX P w) 5 _ (spOf (WK K) S_Ratio_ge) := fnR_of (ok_Ratio_ge T h_as_ratio F_Ratio_ge k_Ratio_ge) b_Ratio_ge
  have b_Ratio_le := FunD.bindsN (ps := ["self", "other"]) F_Ratio_le fun _ _ _ _ _ _ us hl => match us, hl with | [_, _], _ => rfl
  have h_Ratio_le : FnR P w K mg base (L2.CX P w) 5 _ (spOf (WK K) S_Ratio_le) := fnR_of (ok_Ratio_le T h_as_ratio F_Ratio_le k_Ratio_le) b_Ratio_le
  have b_Ratio_gt := FunD.bindsN (ps := ["self", "other"]) F_Ratio_gt fun _ _ _ _ _ _ us hl => match us, hl with | [_, _], _ => rfl
  have h_Ratio_gt : FnR P w K mg base (L2.CX P w) 5 _ (spOf (WK K) S_Ratio_gt) := fnR_of (ok_Ratio_gt T h_as_ratio F_Ratio_gt k_Ratio_gt) b_Ratio_gt
  have b_Ratio_lt := FunD.bindsN (ps := ["self", "other"]) F_Ratio_lt fun _ _ _ _ _ _ us hl => match us, hl with | [_, _], _ => rfl
  have h_Ratio_lt : FnR P w K mg base (L2.CX P w) 5 _ (spOf (WK K) S_Ratio_lt) := fnR_of (ok_Ratio_lt T h_as_ratio F_Ratio_lt k_Ratio_lt) b_Ratio_lt
  have b_l_orders := FunD.bindsN (ps := ["_law_a", "_law_b"]) F_l_orders fun _ _ _ _ _ _ us hl => match us, hl with | [_, _], _ => rfl
  have h_l_orders : Has P w K mg base (WK K) "_law_orders" 1 S_l_orders := has_of (ok_l_orders T  F_l_orders k_l_orders) b_l_orders (gloB_ok X G (exB_at c.ex (List.mem_cons_of_mem _ (List.mem_cons_of_mem _ (List.mem_cons_of_mem _ (List.mem_cons_of_mem _ (List.mem_cons_of_mem _ (List.mem_cons_of_mem _ (List.mem_cons_of_mem _ (List.mem_cons_of_mem _ (List.mem_cons_of_mem _ (List.mem_cons_of_mem _ (List.mem_cons_of_mem _ (List.mem_cons_of_mem _ (List.mem_cons_of_mem _ (List.mem_cons_of_mem _ (List.mem_cons_of_mem _ (List.mem_cons_of_mem _ (List.mem_cons_of_mem _ (List.mem_cons_of_mem _ (List.mem_cons_of_mem _ (List.mem_cons_of_mem _ (List.mem_cons_of_mem _ (List.mem_cons_of_mem _ (List.mem_cons_of_mem _ (List.mem_cons_of_mem _ (List.mem_cons_of_mem _ (List.mem_cons_of_mem _ (List.mem_cons_of_mem _ (List.mem_cons_of_mem _ (List.mem_cons_of_mem _ (List.mem_cons_of_mem _ (List.mem_cons_of_mem _ (List.mem_cons_self)))))))))))))))))))))))))))))))))) F_l_orders.kp
  have b_Ratio_bool := FunD.bindsN (ps := ["self"]) F_Ratio_bool fun _ _ _ _ _ _ us hl => match us, hl with | [_], _ => rfl
  have h_Ratio_bool : FnR P w K mg base (L2.CX P w) 1 _ (spOf (WK K) S_Ratio_bool) := fnR_of (ok_Ratio_bool T  F_Ratio_bool k_Ratio_bool) b_Ratio_bool
  have b_l_whole := FunD.bindsN (ps := ["_law_x"]) F_l_whole fun _ _ _ _ _ _ us hl => match us, hl with | [_], _ => rfl
  have h_l_whole : Has P w K mg base (WK K) "_law_whole" 1 S_l_whole := has_of (ok_l_whole T  F_l_whole k_l_whole) b_l_whole (gloB_ok X G (exB_at c.ex (List.mem_cons_of_mem _ (List.mem_cons_of_mem _ (List.mem_cons_of_mem _ (List.mem_cons_of_mem _ (List.mem_cons_of_mem _ (List.mem_cons_of_mem _ (List.mem_cons_of_mem _ (List.mem_cons_of_mem _ (List.mem_cons_of_mem _ (List.mem_cons_of_mem _ (List.mem_cons_of_mem _ (List.mem_cons_of_mem _ (List.mem_cons_of_mem _ (List.mem_cons_of_mem _ (List.mem_cons_of_mem _ (List.mem_cons_of_mem _ (List.mem_cons_of_mem _ (List.mem_cons_of_mem _ (List.mem_cons_of_mem _ (List.mem_cons_of_mem _ (List.mem_cons_of_mem _ (List.mem_cons_of_mem _ (List.mem_cons_of_mem _ (List.mem_cons_of_mem _ (List.mem_cons_of_mem _ (List.mem_cons_of_mem _ (List.mem_cons_of_mem _ (List.mem_cons_of_mem _ (List.mem_cons_of_mem _ (List.mem_cons_of_mem _ (List.mem_cons_of_mem _ (List.mem_cons_of_mem _ (List.mem_cons_self))))))))))))))))))))))))))))))))))) F_l_whole.kp
  have b_l_pair := FunD.bindsN (ps := ["_law_ratio"]) F_l_pair fun _ _ _ _ _ _ us hl => match us, hl with | [_], _ => rfl
  have h_l_pair : Has P w K mg base (WK K) "_law_pair" 2 S_l_pair := has_of (ok_l_pair T h_l_whole h_l_gcd F_l_pair k_l_pair) b_l_pair (gloB_ok X G (exB_at c.ex (List.mem_cons_of_mem _ (List.mem_cons_of_mem _ (List.mem_cons_of_mem _ (List.mem_cons_of_mem _ (List.mem_cons_of_mem _ (List.mem_cons_of_mem _ (List.mem_cons_of_mem _ (List.mem_cons_of_mem _ (List.mem_cons_of_mem _ (List.mem_cons_of_mem _ (List.mem_cons_of_mem _ (List.mem_cons_of_mem _ (List.mem_cons_of_mem _ (List.mem_cons_of_mem _ (List.mem_cons_of_mem _ (List.mem_cons_of_mem _ (List.mem_cons_of_mem _ (List.mem_cons_of_mem _ (List.mem_cons_of_mem _ (List.mem_cons_of_mem _ (List.mem_cons_of_mem _ (List.mem_cons_of_mem _ (List.mem_cons_of_mem _ (List.mem_cons_of_mem _ (List.mem_cons_of_mem _ (List.mem_cons_of_mem _ (List.mem_cons_of_mem _ (List.mem_cons_of_mem _ (List.mem_cons_of_mem _ (List.mem_cons_of_mem _ (List.mem_cons_of_mem _ (List.mem_cons_of_mem _ (List.mem_cons_of_mem _ (List.mem_cons_self)))))))))))))))))))))))))))))))))))) F_l_pair.kp
  exact ok_law T h_l_tape h_l_take h_l_fraction h_l_signed h_Ratio_eq h_Ratio_init h_Ratio_ge h_Ratio_le h_Ratio_gt h_Ratio_lt h_l_orders h_Ratio_bool h_l_pair F_law k_law
end RF
open PySem PySem.W PySem.Calls PyProof.Rows
theorem PySem.Challenge.cw_risingfill_k04_ratio_order_holds : PySem.Challenge.rw_risingfill_k04_ratio_order.Holds := by
  w_on; o_law
  refine HandSHeadRun.head_imp (r := OpenLaw.row PySem.Challenge.rw_risingfill_k04_ratio_order) (q := RF.qv) (H := RF.hkF) (ob := RF.obH) (M := 10000) (loose := RF.hnames) (kwd := []) RF.obH_eq RF.hrun (by rfl) (by rfl) (by rfl) (by rfl) (by first | assumption | decide +kernel) (by decide +kernel) ⟨rfl, rfl, rfl, rfl, rfl, by decide +kernel⟩ ?hw ?hc
  case hw => w_witness2
  case hc =>
    refine RF.walk_F (l := PySem.Challenge.rw_risingfill_k04_ratio_order) (n := 63) (k := 6) (x := "_law_script") (S := RF.S_law) rfl (by decide) (by kernel_rfl) ⟨rfl, by decide, by decide⟩ (fun ns hl => ⟨ns, rfl, rfl, hl, fun _ => rfl⟩) ?F
    intro w mg fa h Y G hmg0
    obtain ⟨K, KX, c⟩ := Y
    have hmg : mg ("law" : PySem.Str) = some (.ref fa) := hmg0
    obtain ⟨fd, hb, hF⟩ := RF.all_ok (P := (PySem.Challenge.rw_risingfill_k04_ratio_order).prog) (w := w) KX G hmg c
    exact ⟨K, fd, RF.WK K, KX, c.no, hb, hF⟩
