import PyProof.Rows.All
import Wide.All
import OpenK.AllK
import Wide.FinOn
import HandS.ForMost
import HandS.ForExc
import HandS.IsInst
import HandS.Lambda
import HandS.ExcCtx
import HandS.HotCalls
import HandS.ExcIs
import HandS.TupAny
import HandS.Deep
import HandS.Rev
import HandS.Wide
import KE.SortData
import HandS.SetFor
import HandS.Strs
import KE.DataMinMax
import KE.GoesComp
import KE.GoesMore
import HandS.EndTab
import HandS.TupMul
import HandS.Conv
import KE.GoesEnum
import KE.GoesNew
import PyProof.Rows.SumAny
import PyProof.WalksMore
import HandS.Style
import KE.KRevSl
import PyProof.TupleIter
import HandS.TupLe
import HandS.Text
import PySem.Challenge.RW_plankways_k20_whole_texts
set_option Elab.async false
set_option linter.all false
set_option maxRecDepth 100000
set_option maxHeartbeats 4000000
namespace DL
open PySem PySem.Spec PyProof.Rows L2

/-! ### data -/
/-- a tuple of the program's making: no object of it has a dict -/
@[irreducible] def TpO (H : Hp) (a : Addr) (vs : List V) : Prop := ∃ o : Obj, H a = some (.frz o (.tup vs)) ∧ o.dict = none
theorem TpO.ex {H : Hp} {a : Addr} {vs : List V} (h : TpO H a vs) : ∃ o : Obj, H a = some (.frz o (.tup vs)) ∧ o.dict = none := by unfold TpO at h; exact h
theorem TpO.mk {H : Hp} {a : Addr} {vs : List V} (h : ∃ o : Obj, H a = some (.frz o (.tup vs)) ∧ o.dict = none) : TpO H a vs := by unfold TpO; exact h
theorem TpO.mono {C C' : Hp} {a : Addr} {vs : List V} (e : Same C C') (h : TpO C a vs) : TpO C' a vs := let ⟨o, h1, h2⟩ := h.ex; .mk ⟨o, e _ _ h1, h2⟩
theorem TpO.sq {K : PySem.W.Frag} {H : Hp} {a : Addr} {vs : List V} (h : TpO H a vs) : SqT K H a vs := let ⟨o, h1, _⟩ := h.ex; .inl (.inr ⟨o, h1⟩)
theorem TpO.new {H : Hp} {a : Addr} {vs : List V} {o : Obj} (h : o.dict = none) : TpO (upd H a (.frz o (.tup vs))) a vs := .mk ⟨o, upd_same, h⟩
mutual
def Dv (C : Hp) : PyData → V → Prop
  | .none, v => v = .non
  | .bool b, v => v = .bl b
  | .int i, v => v = .int i
  | .str x, v => v = .str x
  | .list ds, v => ∃ a vs, v = .ref a ∧ C a = some (.lst vs) ∧ DvA C ds vs
  | .tuple ds, v => ∃ a vs, v = .ref a ∧ TpO C a vs ∧ DvA C ds vs
  | .dict _, _ => False
def DvA (C : Hp) : List PyData → List V → Prop
  | [], vs => vs = []
  | d :: ds, vs => ∃ v ws, vs = v :: ws ∧ Dv C d v ∧ DvA C ds ws
end

mutual
theorem Dv.mono {C C' : Hp} (e : Same C C') : ∀ {d : PyData} {v : V}, Dv C d v → Dv C' d v
  | .none, _, h => h
  | .bool _, _, h => h
  | .int _, _, h => h
  | .str _, _, h => h
  | .list ds, _, ⟨a, vs, h1, h2, h3⟩ => ⟨a, vs, h1, e _ _ h2, DvA.mono e h3⟩
  | .tuple ds, _, ⟨a, vs, h1, h2, h3⟩ => ⟨a, vs, h1, h2.mono e, DvA.mono e h3⟩
  | .dict _, _, h => h
theorem DvA.mono {C C' : Hp} (e : Same C C') : ∀ {ds : List PyData} {vs : List V}, DvA C ds vs → DvA C' ds vs
  | [], _, h => h
  | d :: ds, _, ⟨v, ws, h1, h2, h3⟩ => ⟨v, ws, h1, Dv.mono e h2, DvA.mono e h3⟩
end
mutual
theorem Dv.dp {K : PySem.W.Frag} {C : Hp} : ∀ {d : PyData} {v : V}, Dv C d v → Dp K C v d
  | .none, _, h => by cases h; exact .non
  | .bool _, _, h => by cases h; exact .bl _
  | .int _, _, h => by cases h; exact .int _
  | .str _, _, h => by cases h; exact .str _
  | .list ds, _, ⟨a, vs, h1, h2, h3⟩ => by cases h1; exact .lst (SqL.of h2) (DvA.dp h3)
  | .tuple ds, _, ⟨a, vs, h1, h2, h3⟩ => by cases h1; exact .tup h2.sq (DvA.dp h3)
  | .dict _, _, h => h.elim
theorem DvA.dp {K : PySem.W.Frag} {C : Hp} : ∀ {ds : List PyData} {vs : List V}, DvA C ds vs → DpAll K C vs ds
  | [], _, h => by cases h; exact .nil
  | d :: ds, _, ⟨v, ws, h1, h2, h3⟩ => by cases h1; exact .cons (Dv.dp h2) (DvA.dp h3)
end
theorem DvA.length {C : Hp} : ∀ {ds : List PyData} {vs : List V}, DvA C ds vs → vs.length = ds.length
  | [], _, h => by cases h; rfl
  | d :: ds, _, ⟨v, ws, h1, h2, h3⟩ => by cases h1; simp [DvA.length h3]
theorem DvA.get {C : Hp} : ∀ {ds : List PyData} {vs : List V} {i : Nat} {v : V}, DvA C ds vs → vs[i]? = some v → ∃ d, ds[i]? = some d ∧ Dv C d v
  | [], _, i, v, h, e => by cases h; simp at e
  | d :: ds, _, 0, v, ⟨w, ws, h1, h2, h3⟩, e => by cases h1; simp at e; subst e; exact ⟨d, rfl, h2⟩
  | d :: ds, _, i + 1, v, ⟨w, ws, h1, h2, h3⟩, e => by
    cases h1
    obtain ⟨d', e1, e2⟩ := DvA.get (i := i) (v := v) h3 (by simpa using e)
    exact ⟨d', by simpa using e1, e2⟩
theorem DvA.at {C : Hp} : ∀ {ds : List PyData} {vs : List V} {i : Nat} {d : PyData}, DvA C ds vs → ds[i]? = some d → ∃ v, vs[i]? = some v ∧ Dv C d v
  | [], _, i, v, h, e => by simp at e
  | d :: ds, _, 0, v, ⟨w, ws, h1, h2, h3⟩, e => by cases h1; simp at e; subst e; exact ⟨w, rfl, h2⟩
  | d :: ds, _, i + 1, v, ⟨w, ws, h1, h2, h3⟩, e => by
    cases h1
    obtain ⟨d', e1, e2⟩ := DvA.at (i := i) (d := v) h3 (by simpa using e)
    exact ⟨d', by simpa using e1, e2⟩
theorem DvA.append {C : Hp} : ∀ {ds es : List PyData} {vs ws : List V}, DvA C ds vs → DvA C es ws → DvA C (ds ++ es) (vs ++ ws)
  | [], _, _, _, h, h' => by cases h; exact h'
  | d :: ds, _, _, _, ⟨w, ws, h1, h2, h3⟩, h' => by cases h1; exact ⟨w, _, rfl, h2, DvA.append h3 h'⟩
theorem DvA.one {C : Hp} {d : PyData} {v : V} (h : Dv C d v) : DvA C [d] [v] := ⟨v, [], rfl, h, rfl⟩
theorem DvA.take {C : Hp} : ∀ {ds : List PyData} {vs : List V} (n : Nat), DvA C ds vs → DvA C (ds.take n) (vs.take n)
  | _, _, 0, _ => by simp [DvA]
  | [], _, n + 1, h => by cases h; simp [DvA]
  | d :: ds, _, n + 1, ⟨w, ws, h1, h2, h3⟩ => by cases h1; exact ⟨w, _, rfl, h2, DvA.take n h3⟩
theorem DvA.drop {C : Hp} : ∀ {ds : List PyData} {vs : List V} (n : Nat), DvA C ds vs → DvA C (ds.drop n) (vs.drop n)
  | _, _, 0, h => h
  | [], _, n + 1, h => by cases h; simp [DvA]
  | d :: ds, _, n + 1, ⟨w, ws, h1, h2, h3⟩ => by cases h1; exact DvA.drop n h3
theorem DvA.ints {C : Hp} : ∀ {ns : List Int} {vs : List V}, DvA C (ns.map PyData.int) vs → vs = ns.map V.int
  | [], _, h => h
  | n :: ns, _, ⟨w, ws, h1, h2, h3⟩ => by cases h1; cases h2; rw [DvA.ints h3]; rfl
theorem DvA.of_ints {C : Hp} : ∀ (ns : List Int), DvA C (ns.map PyData.int) (ns.map V.int)
  | [] => rfl
  | n :: ns => ⟨_, _, rfl, rfl, DvA.of_ints ns⟩
theorem DvA.bools {C : Hp} : ∀ {bs : List Bool} {vs : List V}, DvA C (bs.map PyData.bool) vs → vs = bs.map V.bl
  | [], _, h => h
  | n :: ns, _, ⟨w, ws, h1, h2, h3⟩ => by cases h1; cases h2; rw [DvA.bools h3]; rfl

/-- fields by their names -/
def DvF (C : Hp) (fs : List (Str × PyData)) (vs : List (Str × V)) : Prop := vs.map (·.1) = fs.map (·.1) ∧ DvA C (fs.map (·.2)) (vs.map (·.2))
theorem DvF.mono {C C' : Hp} (e : Same C C') {fs : List (Str × PyData)} {vs : List (Str × V)} (h : DvF C fs vs) : DvF C' fs vs := ⟨h.1, h.2.mono e⟩
/-! ### the abstract store -/
inductive Sl where
  | un
  | da (d : PyData)
  | res (k : Nat)
inductive RS where
  | gone
  | dice
  | lst (ds : List PyData)
  | tab (q : Str)
  | bri (fs : List (Str × PyData))
abbrev Ds := List Sl
abbrev Rs := List RS

def RsOk (mg : Str → Option Value) (C H : Hp) (p : Addr) : RS → Prop
  | .gone => True
  | .dice => ∃ a b, H p = some (.lst [.int a, .int b])
  | .lst ds => ∃ vs, H p = some (.lst vs) ∧ DvA C ds vs
  | .tab q => LamX.TabS H p q
  | .bri fs => ∃ CB dx vs, mg "Bridge" = some (.ref CB) ∧ H p = some (.ins CB dx vs) ∧ DvF C fs vs

def SzO : HO → Prop
  | .lst xs => xs.length ≤ sizeLine
  | .frz _ (.tup xs) => xs.length ≤ sizeLine
  | .tbl _ => False
  | _ => True
structure Base (mg : Str → Option Value) (As : List Addr) (C : Hp) (τ : Rs) (H : Hp) : Prop where
  core : Same C H
  nd : As.Nodup
  len : As.length = τ.length
  off : ∀ p ∈ As, C p = none ∧ H p ≠ none
  rs : ∀ (k : Nat) p r, As[k]? = some p → τ[k]? = some r → RsOk mg C H p r
  sz : ∀ a o, C a = some o → SzO o
structure Step (As : List Addr) (C H C' H' : Hp) : Prop where
  ex : Same C C'
  keep : ∀ a o, H a = some o → a ∉ As → H' a = some o
  there : ∀ a, H a ≠ none → H' a ≠ none
  out : ∀ a, H a ≠ none → C a = none → C' a = none
theorem Step.refl (As : List Addr) (C H : Hp) : Step As C H C H := ⟨Same.refl _, fun _ _ h _ => h, fun _ h => h, fun _ _ h => h⟩
theorem Step.trans {As : List Addr} {C H C1 H1 C2 H2 : Hp} (a : Step As C H C1 H1) (b : Step As C1 H1 C2 H2) : Step As C H C2 H2 :=
  ⟨a.ex.trans b.ex, fun x o h n => b.keep x o (a.keep x o h n) n, fun x h => b.there x (a.there x h), fun x h n => b.out x (a.there x h) (a.out x h n)⟩
/-- a new object that is data from now on -/
theorem Step.new {As : List Addr} {C H : Hp} {p : Addr} {o : HO} (hp : H p = none) (e : Same C H) : Step As C H (upd C p o) (upd H p o) :=
  ⟨fun a u h => by rw [upd_ne (ne_of_none (e _ _ h) hp)]; exact h, fun a u h _ => by rw [upd_ne (ne_of_none h hp)]; exact h,
   fun a h => by by_cases q : a = p
                 · rw [q, hp] at h; exact absurd rfl h
                 · rw [upd_ne q]; exact h,
   fun a h n => by by_cases q : a = p
                   · rw [q, hp] at h; exact absurd rfl h
                   · rw [upd_ne q]; exact n⟩
theorem Same.new {C H : Hp} {p : Addr} {o : HO} (hp : H p = none) (e : Same C H) : Same (upd C p o) (upd H p o) := fun a u h => by
  by_cases q : a = p
  · rw [q, upd_same] at h; rw [q, upd_same]; exact h
  · rw [upd_ne q] at h ⊢; exact e _ _ h
theorem tab_keep {H H' : Hp} {p : Addr} {q : Str} (t : LamX.TabS H p q) (k : ∀ a o, H a = some o → H' a = some o) : LamX.TabS H' p q := t.ext k
theorem RsOk.keep {mg : Str → Option Value} {C H C' H' : Hp} {p : Addr} {r : RS} (h : RsOk mg C H p r) (e : Same C C') (k : ∀ a o, H a = some o → H' a = some o) : RsOk mg C' H' p r := by
  cases r with
  | gone => trivial
  | dice => obtain ⟨a, b, h1⟩ := h; exact ⟨a, b, k _ _ h1⟩
  | lst ds => obtain ⟨vs, h1, h2⟩ := h; exact ⟨vs, k _ _ h1, h2.mono e⟩
  | tab q => exact tab_keep h k
  | bri fs => obtain ⟨CB, dx, vs, g, h1, h2⟩ := h; exact ⟨CB, dx, vs, g, k _ _ h1, h2.mono e⟩
/-- all objects of H stay (new ones come) -/
theorem Base.keep {mg : Str → Option Value} {As : List Addr} {C H C' H' : Hp} {τ : Rs} (b : Base mg As C τ H) (e : Same C C') (e2 : Same C' H') (k : ∀ a o, H a = some o → H' a = some o) (out : ∀ a, H a ≠ none → C a = none → C' a = none) (sz : ∀ a o, C' a = some o → SzO o) : Base mg As C' τ H' :=
  ⟨e2, b.nd, b.len, fun p hp => ⟨out p (b.off p hp).2 (b.off p hp).1, by
    obtain ⟨_, h⟩ := b.off p hp
    cases q : H p with
    | none => exact absurd q h
    | some o => rw [k _ _ q]; exact fun z => nomatch z⟩, fun i p r h1 h2 => (b.rs i p r h1 h2).keep e k, sz⟩
theorem Base.new {mg : Str → Option Value} {As : List Addr} {C H : Hp} {τ : Rs} {p : Addr} {o : HO} (b : Base mg As C τ H) (hp : H p = none) (sz : SzO o) : Base mg As (upd C p o) τ (upd H p o) :=
  b.keep (Step.new (As := As) hp b.core).ex (Same.new hp b.core) (fun a u h => by rw [upd_ne (ne_of_none h hp)]; exact h) (Step.new (As := As) hp b.core).out fun a u h => by
    by_cases q : a = p
    · rw [q, upd_same] at h; cases h; exact sz
    · rw [upd_ne q] at h; exact b.sz a u h

def SlOk (C : Hp) (As : List Addr) (s : Option (Option V)) : Sl → Prop
  | .un => True
  | .da d => ∃ v, s = some (some v) ∧ Dv C d v
  | .res k => ∃ p, As[k]? = some p ∧ s = some (some (.ref p))
theorem SlOk.mono {C C' : Hp} {As : List Addr} {s : Option (Option V)} {r : Sl} (e : Same C C') (h : SlOk C As s r) : SlOk C' As s r := by
  cases r with
  | un => trivial
  | da d => obtain ⟨v, h1, h2⟩ := h; exact ⟨v, h1, h2.mono e⟩
  | res k => exact h

/-- where one stands in a def: what was there at its entry, what it may raise -/
structure Gx where
  mg : Str → Option Value
  C0 : Hp
  H0 : Hp
  As0 : List Addr
  E : XK
  er : Str → Rs → Prop
  eok : ∀ (n : Str) (Cn : Addr) (C' H' : Hp) (τ' : Rs), mg n = some (.ref Cn) → Step As0 C0 H0 C' H' → Base mg As0 C' τ' H' → er n τ' → E (.ref Cn) none H'
def Gx.err (G : Gx) : Str → Rs → Prop := fun n τ => G.er n (τ.take G.As0.length)

structure Rel (G : Gx) (C : Hp) (As : List Addr) (ρ : Ds) (τ : Rs) (σ : L2.St) (H : Hp) : Prop where
  base : Base G.mg As C τ H
  step : Step G.As0 G.C0 G.H0 C H
  pre : G.As0 <+: As
  new : ∀ p ∈ As, p ∈ G.As0 ∨ G.H0 p = none
  len : ρ.length = σ.length
  sl : ∀ (i : Nat) r, ρ[i]? = some r → SlOk C As σ[i]? r
theorem Rel.go {G : Gx} {C H C' H' : Hp} {As : List Addr} {ρ : Ds} {τ τ' : Rs} {σ : L2.St} (R : Rel G C As ρ τ σ H) (s : Step As C H C' H') (b : Base G.mg As C' τ' H') : Rel G C' As ρ τ' σ H' :=
  ⟨b, ⟨R.step.ex.trans s.ex, fun a o h n => s.keep a o (R.step.keep a o h n) (fun m => (R.new a m).elim n fun z => nomatch (z.symm.trans h)),
    fun a h => s.there a (R.step.there a h), fun a h n => s.out a (R.step.there a h) (R.step.out a h n)⟩, R.pre, R.new, R.len, fun i r h => (R.sl i r h).mono s.ex⟩
theorem Rel.take {G : Gx} {C H : Hp} {As : List Addr} {ρ : Ds} {τ : Rs} {σ : L2.St} (R : Rel G C As ρ τ σ H) : Base G.mg G.As0 C (τ.take G.As0.length) H := by
  obtain ⟨r, e⟩ := R.pre
  have hl : G.As0.length ≤ As.length := by rw [← e]; simp
  refine ⟨R.base.core, ?_, ?_, fun p hp => R.base.off p (by rw [← e]; exact List.mem_append_left _ hp), fun k p s h1 h2 => ?_, R.base.sz⟩
  · have := R.base.nd; rw [← e] at this; exact (List.nodup_append.mp this).1
  · rw [List.length_take, ← R.base.len]; omega
  · have hk : k < G.As0.length := (List.getElem?_eq_some_iff.mp h1).1
    refine R.base.rs k p s ?_ ?_
    · rw [← e, List.getElem?_append_left hk]; exact h1
    · rw [List.getElem?_take_of_lt hk] at h2; exact h2
/-- a slot is set to data -/
theorem Rel.set {G : Gx} {C H : Hp} {As : List Addr} {ρ : Ds} {τ : Rs} {σ : L2.St} (R : Rel G C As ρ τ σ H) {i : Nat} {v : V} {r : Sl} (h : SlOk C As (some (some v)) r) : Rel G C As (ρ.set i r) τ (σ.set i (some v)) H := by
  refine ⟨R.base, R.step, R.pre, R.new, by simp [R.len], fun j s hj => ?_⟩
  by_cases e : i = j
  · subst e
    have hi : i < ρ.length := by
      have := (List.getElem?_eq_some_iff.mp hj).1
      simpa using this
    rw [List.getElem?_set_self hi] at hj
    cases hj
    rw [List.getElem?_set_self (by rw [← R.len]; exact hi)]
    exact h
  · rw [List.getElem?_set_ne e] at hj
    rw [List.getElem?_set_ne e]
    exact R.sl j s hj

/-! ### readings over data -/
abbrev VOk (C : Hp) (As : List Addr) (v : V) (r : Sl) : Prop := SlOk C As (some (some v)) r
abbrev TDx (α : Type) := Ds → Rs → (α → Rs → Prop) → (Str → Rs → Prop) → Prop
abbrev TD := TDx Sl
abbrev TDT := TDx Bool
abbrev TDA := TDx (List Sl)
structure DEnds where
  nx : Ds → Rs → Prop
  rt : PyData → Rs → Prop
  er : Str → Rs → Prop
abbrev TDS := Ds → Rs → DEnds → Prop
/-- a def's promise over data -/
abbrev Fn := List Sl → Rs → (PyData → Rs → Prop) → (Str → Rs → Prop) → Prop

def tD (G : Gx) (f : TD) : TE := fun σ H Q => ∃ C As ρ τ Qd, Rel G C As ρ τ σ H ∧ f ρ τ Qd G.err ∧
  ∀ C' H' v r τ', Step As C H C' H' → Rel G C' As ρ τ' σ H' → VOk C' As v r → Qd r τ' → Q v H'
def tDT (G : Gx) (f : TDT) : TT := fun σ H Q => ∃ C As ρ τ Qd, Rel G C As ρ τ σ H ∧ f ρ τ Qd G.err ∧
  ∀ C' H' b τ', Step As C H C' H' → Rel G C' As ρ τ' σ H' → Qd b τ' → Q b H'
inductive ArgOk (C : Hp) (As : List Addr) : List V → List Sl → Prop
  | nil : ArgOk C As [] []
  | cons {v : V} {r : Sl} {vs : List V} {rs : List Sl} : VOk C As v r → ArgOk C As vs rs → ArgOk C As (v :: vs) (r :: rs)
theorem ArgOk.mono {C C' : Hp} {As : List Addr} (e : Same C C') : ∀ {vs : List V} {as : List Sl}, ArgOk C As vs as → ArgOk C' As vs as
  | _, _, .nil => .nil
  | _, _, .cons r t => .cons (SlOk.mono e r) (ArgOk.mono e t)
theorem ArgOk.length {C : Hp} {As : List Addr} : ∀ {vs : List V} {as : List Sl}, ArgOk C As vs as → vs.length = as.length
  | _, _, .nil => rfl
  | _, _, .cons r t => by simp [ArgOk.length t]
/-- n of them -/
def tDA (G : Gx) (n : Nat) (f : TDA) : TA := fun σ H Q => ∃ C As ρ τ Qd, Rel G C As ρ τ σ H ∧ f ρ τ Qd G.err ∧
  ∀ C' H' vs as τ', Step As C H C' H' → Rel G C' As ρ τ' σ H' → ArgOk C' As vs as → vs.length = n → Qd as τ' → Q vs H'
def das : List Sl → Option (List PyData)
  | [] => some []
  | .da d :: r => match das r with
    | some ds => some (d :: ds)
    | none => none
  | _ :: _ => none
theorem ArgOk.das {C : Hp} {As : List Addr} : ∀ {vs : List V} {as : List Sl} {ds : List PyData}, ArgOk C As vs as → das as = some ds → DvA C ds vs
  | _, _, _, .nil, e => by cases e; rfl
  | _, _, _, .cons (r := .un) _ _, e => by cases e
  | _, _, _, .cons (r := .res _) _ _, e => by cases e
  | _, _, _, .cons (r := .da d) (rs := rs) h t, e => by
    unfold DL.das at e
    cases q : DL.das rs with
    | none => rw [q] at e; cases e
    | some ds =>
      rw [q] at e
      cases e
      obtain ⟨v, e1, e2⟩ := h
      cases e1
      exact ⟨_, _, rfl, e2, ArgOk.das t q⟩
def sD (G : Gx) (g : TDS) : TS := fun D σ H => ∃ C As ρ τ De, Rel G C As ρ τ σ H ∧ g ρ τ De ∧ De.er = G.err ∧
  (∀ C' As' ρ' τ' σ' H', Same C C' → Rel G C' As' ρ' τ' σ' H' → De.nx ρ' τ' → D.nx σ' H') ∧
  (∀ C' H' v d τ', Step G.As0 G.C0 G.H0 C' H' → Base G.mg G.As0 C' (τ'.take G.As0.length) H' → Dv C' d v → De.rt d τ' → D.rt v H')
theorem pe_weak {X : Cx} {e : Expr} {t t' : TE} (h : PE X e t) (w : ∀ σ H Q, t' σ H Q → t σ H Q) : PE X e t' := ⟨fun pins s σ H Q I q => h.run pins s σ H Q I (w σ H Q q)⟩
theorem pt_weak {X : Cx} {e : Expr} {t t' : TT} (h : PT X e t) (w : ∀ σ H Q, t' σ H Q → t σ H Q) : PT X e t' := ⟨fun pins s σ H Q I q => h.run pins s σ H Q I (w σ H Q q)⟩
theorem pw_weak {X : Cx} {e : Expr} {t t' : TT} (h : PW X e t) (w : ∀ σ H Q, t' σ H Q → t σ H Q) : PW X e t' := ⟨fun wh pins s σ H Q I q => h.run wh pins s σ H Q I (w σ H Q q)⟩
theorem pa_weak {X : Cx} {e : List Expr} {t t' : TA} (h : PA X e t) (w : ∀ σ H Q, t' σ H Q → t σ H Q) : PA X e t' := ⟨fun pos pins s σ H Q I q => h.run pos pins s σ H Q I (w σ H Q q)⟩
theorem ps_weak {X : Cx} {e : Stmt} {t t' : TS} (h : PS X e t) (w : ∀ D σ H, t' D σ H → t D σ H) : PS X e t' := ⟨fun pins s σ H D I q => h.run pins s σ H D I (w D σ H q)⟩
theorem pss_weak {X : Cx} {e : List Stmt} {t t' : TS} (h : PSs X e t) (w : ∀ D σ H, t' D σ H → t D σ H) : PSs X e t' := ⟨fun pins s σ H D I q => h.run pins s σ H D I (w D σ H q)⟩
end DL
namespace DL
open PySem PySem.Spec PyProof.Rows L2
section
variable {X : Cx} {G : Gx} {e a b c : Expr} {es : List Expr} {f fa fb fc : TD} {pos : Pos}

theorem VOk.da {C : Hp} {As : List Addr} {v : V} {d : PyData} (h : Dv C d v) : VOk C As v (.da d) := ⟨v, rfl, h⟩
theorem VOk.dv {C : Hp} {As : List Addr} {v : V} {d : PyData} (h : VOk C As v (.da d)) : Dv C d v := by
  obtain ⟨w, e, h⟩ := h
  cases e
  exact h

/-! ### names, constants -/
def dVar (i : Nat) : TD := fun ρ τ Q _ => match ρ[i]? with
  | some (.da d) => Q (.da d) τ
  | some (.res k) => Q (.res k) τ
  | _ => False
theorem w_var {i : Nat} {σ : L2.St} {H : Hp} {Q : VK} (h : tD G (dVar i) σ H Q) : tVar i σ H Q := by
  obtain ⟨C, As, ρ, τ, Qd, R, hf, k⟩ := h
  unfold dVar at hf
  cases q : ρ[i]? with
  | none => rw [q] at hf; exact hf.elim
  | some r =>
    rw [q] at hf
    have z := R.sl i r q
    cases r with
    | un => exact hf.elim
    | da d =>
      obtain ⟨v, e, dv⟩ := z
      exact ⟨v, e, k C H v (.da d) τ (Step.refl _ _ _) R ⟨v, rfl, dv⟩ hf⟩
    | res j =>
      obtain ⟨p, e1, e⟩ := z
      exact ⟨_, e, k C H _ (.res j) τ (Step.refl _ _ _) R ⟨p, e1, rfl⟩ hf⟩
theorem d_var (i : Nat) {x : Str} {pos : Pos} (hN : X.N[i]? = some x := by rfl) (hv : Vis X.env.scope x := by first | exact Or.inl rfl | exact Or.inr (Or.inl rfl) | exact Or.inr (Or.inr rfl)) (hd : (x == ("__debug__" : Str)) = false := by decide)
    (hcd : (x == ("__classdict__" : Str)) = false := by decide) : PE X (.Name x pos) (tD G (dVar i)) := pe_weak (pe_var hN hv hd hcd) fun _ _ _ h => w_var h
def dC (d : PyData) : TD := fun _ τ Q _ => Q (.da d) τ
theorem w_C {v : V} {d : PyData} {σ : L2.St} {H : Hp} {Q : VK} (dv : ∀ C, Dv C d v) (h : tD G (dC d) σ H Q) : tC v σ H Q := by
  obtain ⟨C, As, ρ, τ, Qd, R, hf, k⟩ := h
  exact k C H v (.da d) τ (Step.refl _ _ _) R ⟨v, rfl, dv C⟩ hf
theorem d_int {i j pos} : PE X (.Constant (.int i) j pos) (tD G (dC (.int i))) := pe_weak pe_int fun _ _ _ h => w_C (d := .int i) (fun _ => rfl) h
theorem d_bl {b j pos} : PE X (.Constant (.bool b) j pos) (tD G (dC (.bool b))) := pe_weak pe_bl fun _ _ _ h => w_C (d := .bool b) (fun _ => rfl) h
theorem d_non {j pos} : PE X (.Constant .none j pos) (tD G (dC .none)) := pe_weak pe_non fun _ _ _ h => w_C (d := .none) (fun _ => rfl) h
theorem d_str {x j pos} : PE X (.Constant (.str x) j pos) (tD G (dC (.str x))) := pe_weak pe_str fun _ _ _ h => w_C (d := .str x) (fun _ => rfl) h

/-! ### operators -/
abbrev Op2 := Sl → Sl → Rs → (PyData → Prop) → Prop
def OkR (r : R2) (op : Op2) : Prop := ∀ {mg : Str → Option Value} {As : List Addr} {C H : Hp} {τ : Rs} {x y : Sl} {vx vy : V} {Q : VK} {Qd : PyData → Prop}, Base mg As C τ H → VOk C As vx x → VOk C As vy y → op x y τ Qd →
  (∀ C' H' v z, Step As C H C' H' → Base mg As C' τ H' → Dv C' z v → Qd z → Q v H') → r vx vy H Q
def dBin (op : Op2) (fa fb : TD) : TD := fun ρ τ Q er => fa ρ τ (fun x τ1 => fb ρ τ1 (fun y τ2 => op x y τ2 (fun z => Q (.da z) τ2)) er) er
theorem w_bin {r : R2} {op : Op2} {σ : L2.St} {H : Hp} {Q : VK} (ok : OkR r op) (h : tD G (dBin op fa fb) σ H Q) : tOp r (tD G fa) (tD G fb) σ H Q := by
  obtain ⟨C, As, ρ, τ, Qd, R, hf, k⟩ := h
  exact ⟨C, As, ρ, τ, _, R, hf, fun C1 H1 v x τ1 s1 R1 d1 q1 => ⟨C1, As, ρ, τ1, _, R1, q1, fun C2 H2 w y τ2 s2 R2 d2 q2 =>
    ok R2.base (SlOk.mono s2.ex d1) d2 q2 fun C3 H3 u z s3 b3 d3 q3 => k C3 H3 u (.da z) τ2 ((s1.trans s2).trans s3) (R2.go s3 b3) ⟨u, rfl, d3⟩ q3⟩⟩
theorem d_bin {op : Operator} {r : R2} {o : Op2} (ho : OpR X (binaryOp op) r) (ok : OkR r o) (ha : PE X a (tD G fa)) (hb : PE X b (tD G fb)) : PE X (.BinOp a op b pos) (tD G (dBin o fa fb)) :=
  pe_weak (pe_op ho ha hb) fun _ _ _ h => w_bin ok h
theorem d_cmp {op : CmpOp} {r : R2} {o : Op2} (ho : OpR X (compareOp op) r) (ok : OkR r o) (ha : PE X a (tD G fa)) (hb : PE X b (tD G fb)) (hm : behindInMarks op b = false := by first | exact nomark _ | rfl) : PE X (.Compare a [op] [b] pos) (tD G (dBin o fa fb)) :=
  pe_weak (pe_cmpR ho ha hb hm) fun _ _ _ h => w_bin ok h
/-- a value that is a bool, as a test -/
def dB (f : TD) : TDT := fun ρ τ Q er => f ρ τ (fun x τ1 => match x with
  | .da (.bool b) => Q b τ1
  | _ => False) er
theorem w_B {σ : L2.St} {H : Hp} {Q : Bool → Hp → Prop} (h : tDT G (dB f) σ H Q) : tD G f σ H fun x H' => ∃ k, x = .bl k ∧ Q k H' := by
  obtain ⟨C, As, ρ, τ, Qd, R, hf, k⟩ := h
  refine ⟨C, As, ρ, τ, _, R, hf, fun C1 H1 v x τ1 s1 R1 d1 q1 => ?_⟩
  match x, d1, q1 with
  | .da (.bool b), d1, q1 =>
    obtain ⟨w, e, dv⟩ := d1
    cases e
    have : v = .bl b := dv
    exact ⟨b, this, k C1 H1 b τ1 s1 R1 q1⟩
theorem d_tcmp {op : CmpOp} {r : R2} {o : Op2} (ho : OpR X (compareOp op) r) (ok : OkR r o) (ha : PE X a (tD G fa)) (hb : PE X b (tD G fb)) (hm : behindInMarks op b = false := by first | exact nomark _ | rfl) : PT X (.Compare a [op] [b] pos) (tDT G (dB (dBin o fa fb))) :=
  pt_weak (pt_cmpR ho ha hb hm) fun _ _ _ h => w_bin ok (w_B h)
theorem d_tval (he : PE X e (tD G f)) (hh : ∀ whole, isTrue e X.env whole = (do let v ← whole; standAt e.pos; holding [v] (truthy v)) := by intro _; rfl) : PT X e (tDT G (dB f)) :=
  pt_weak (pt_val he hh) fun _ _ _ h => w_B h
/-- a op b op c -/
def dChain (o o' : Op2) (fa fb fc : TD) : TD := fun ρ τ Q er => fa ρ τ (fun x τ1 => fb ρ τ1 (fun y τ2 => o x y τ2 (fun z => match z with
  | .bool b => if b = true then fc ρ τ2 (fun w τ3 => o' y w τ3 (fun z => Q (.da z) τ3)) er else Q (.da (.bool false)) τ2
  | _ => False)) er) er
theorem w_chain {r r' : R2} {o o' : Op2} {σ : L2.St} {H : Hp} {Q : VK} (ok : OkR r o) (ok' : OkR r' o') (h : tD G (dChain o o' fa fb fc) σ H Q) : tChain r r' (tD G fa) (tD G fb) (tD G fc) σ H Q := by
  obtain ⟨C, As, ρ, τ, Qd, R, hf, k⟩ := h
  refine ⟨C, As, ρ, τ, _, R, hf, fun C1 H1 v x τ1 s1 R1 d1 q1 => ⟨C1, As, ρ, τ1, _, R1, q1, fun C2 H2 w y τ2 s2 R2 d2 q2 =>
    ok R2.base (SlOk.mono s2.ex d1) d2 q2 fun C3 H3 u z s3 b3 d3 q3 => ?_⟩⟩
  match z, d3, q3 with
  | .bool true, d3, q3 =>
    have : u = .bl true := d3
    have q3 : fc ρ τ2 (fun w τ3 => o' y w τ3 (fun z => Qd (.da z) τ3)) G.err := by simpa using q3
    refine ⟨true, this, iteT ⟨C3, As, ρ, τ2, _, R2.go s3 b3, q3, fun C4 H4 v4 z4 τ4 s4 R4 d4 q4 => ?_⟩⟩
    exact ok' R4.base (SlOk.mono s4.ex (SlOk.mono s3.ex d2)) d4 q4 fun C5 H5 u5 z5 s5 b5 d5 q5 => k C5 H5 u5 (.da z5) τ4 ((((s1.trans s2).trans s3).trans s4).trans s5) (R4.go s5 b5) ⟨u5, rfl, d5⟩ q5
  | .bool false, d3, q3 =>
    have : u = .bl false := d3
    have q3 : Qd (.da (.bool false)) τ2 := by simpa using q3
    exact ⟨false, this, iteF (k C3 H3 _ (.da (.bool false)) τ2 ((s1.trans s2).trans s3) (R2.go s3 b3) ⟨_, rfl, rfl⟩ q3)⟩
theorem d_chain {op op' : CmpOp} {r r' : R2} {o o' : Op2} (ho : OpR X (compareOp op) r) (ok : OkR r o) (ho' : OpR X (compareOp op') r') (ok' : OkR r' o') (ha : PE X a (tD G fa)) (hb : PE X b (tD G fb)) (hc : PE X c (tD G fc))
    (hm : lastMarks [op, op'] [b, c] = false := by with_unfolding_all rfl) : PE X (.Compare a [op, op'] [b, c] pos) (tD G (dChain o o' fa fb fc)) :=
  pe_weak (pe_chain ho ho' ha hb hc hm) fun _ _ _ h => w_chain ok ok' h
theorem d_tchain {op op' : CmpOp} {r r' : R2} {o o' : Op2} (ho : OpR X (compareOp op) r) (ok : OkR r o) (ho' : OpR X (compareOp op') r') (ok' : OkR r' o') (ha : PE X a (tD G fa)) (hb : PE X b (tD G fb)) (hc : PE X c (tD G fc))
    (hm : lastMarks [op, op'] [b, c] = false := by with_unfolding_all rfl) : PT X (.Compare a [op, op'] [b, c] pos) (tDT G (dB (dChain o o' fa fb fc))) :=
  pt_weak (pt_chain ho ho' ha hb hc hm) fun _ _ _ h => w_chain ok ok' (w_B h)

/-! ### and, or, not, if -/
def dAnd (fa fb : TD) : TD := fun ρ τ Q er => fa ρ τ (fun x τ1 => match x with
  | .da (.bool b) => if b = true then fb ρ τ1 Q er else Q (.da (.bool false)) τ1
  | _ => False) er
def dOr (fa fb : TD) : TD := fun ρ τ Q er => fa ρ τ (fun x τ1 => match x with
  | .da (.bool b) => if b = true then Q (.da (.bool true)) τ1 else fb ρ τ1 Q er
  | _ => False) er
def dNot (fa : TD) : TD := fun ρ τ Q er => fa ρ τ (fun x τ1 => match x with
  | .da (.bool b) => Q (.da (.bool (!b))) τ1
  | _ => False) er
variable {rest : List Expr}
theorem d_one {op} (h : PE X a (tD G fa)) : PE X (.BoolOp op [a] pos) (tD G fa) := pe_one h
theorem d_and (ha : PE X a (tD G fa)) (hb : PE X (.BoolOp .And (b :: rest) pos) (tD G fb)) : PE X (.BoolOp .And (a :: b :: rest) pos) (tD G (dAnd fa fb)) := by
  refine pe_weak (pe_and ha hb) fun σ H Q h => ?_
  obtain ⟨C, As, ρ, τ, Qd, R, hf, k⟩ := h
  refine ⟨C, As, ρ, τ, _, R, hf, fun C1 H1 v x τ1 s1 R1 d1 q1 => ?_⟩
  match x, d1, q1 with
  | .da (.bool true), d1, q1 =>
    have : v = .bl true := VOk.dv d1
    have q1 : fb ρ τ1 Qd G.err := by simpa using q1
    exact ⟨true, this, iteT ⟨C1, As, ρ, τ1, _, R1, q1, fun C2 H2 w y τ2 s2 R2 d2 q2 => k C2 H2 w y τ2 (s1.trans s2) R2 d2 q2⟩⟩
  | .da (.bool false), d1, q1 =>
    have : v = .bl false := VOk.dv d1
    have q1 : Qd (.da (.bool false)) τ1 := by simpa using q1
    exact ⟨false, this, iteF (k C1 H1 _ (.da (.bool false)) τ1 s1 R1 ⟨_, rfl, rfl⟩ q1)⟩
theorem d_or (ha : PE X a (tD G fa)) (hb : PE X (.BoolOp .Or (b :: rest) pos) (tD G fb)) : PE X (.BoolOp .Or (a :: b :: rest) pos) (tD G (dOr fa fb)) := by
  refine pe_weak (pe_or ha hb) fun σ H Q h => ?_
  obtain ⟨C, As, ρ, τ, Qd, R, hf, k⟩ := h
  refine ⟨C, As, ρ, τ, _, R, hf, fun C1 H1 v x τ1 s1 R1 d1 q1 => ?_⟩
  match x, d1, q1 with
  | .da (.bool true), d1, q1 =>
    have : v = .bl true := VOk.dv d1
    have q1 : Qd (.da (.bool true)) τ1 := by simpa using q1
    exact ⟨true, this, iteT (k C1 H1 _ (.da (.bool true)) τ1 s1 R1 ⟨_, rfl, rfl⟩ q1)⟩
  | .da (.bool false), d1, q1 =>
    have : v = .bl false := VOk.dv d1
    have q1 : fb ρ τ1 Qd G.err := by simpa using q1
    exact ⟨false, this, iteF ⟨C1, As, ρ, τ1, _, R1, q1, fun C2 H2 w y τ2 s2 R2 d2 q2 => k C2 H2 w y τ2 (s1.trans s2) R2 d2 q2⟩⟩
theorem d_not (ha : PE X a (tD G fa)) : PE X (.UnaryOp .Not a pos) (tD G (dNot fa)) := by
  refine pe_weak (pe_not ha) fun σ H Q h => ?_
  obtain ⟨C, As, ρ, τ, Qd, R, hf, k⟩ := h
  refine ⟨C, As, ρ, τ, _, R, hf, fun C1 H1 v x τ1 s1 R1 d1 q1 => ?_⟩
  match x, d1, q1 with
  | .da (.bool b), d1, q1 =>
    have : v = .bl b := VOk.dv d1
    exact ⟨b, this, k C1 H1 _ (.da (.bool (!b))) τ1 s1 R1 ⟨_, rfl, rfl⟩ q1⟩
variable {t u : TDT}
def dAndT (t u : TDT) : TDT := fun ρ τ Q er => t ρ τ (fun b τ1 => if b = true then u ρ τ1 Q er else Q false τ1) er
def dOrT (t u : TDT) : TDT := fun ρ τ Q er => t ρ τ (fun b τ1 => if b = true then Q true τ1 else u ρ τ1 Q er) er
def dNotT (t : TDT) : TDT := fun ρ τ Q er => t ρ τ (fun b τ1 => Q (!b) τ1) er
theorem d_tand1 (ha : PT X a (tDT G t)) : PW X (.BoolOp .And [a] pos) (tDT G t) := pw_and1 ha
theorem d_tor1 (ha : PT X a (tDT G t)) : PW X (.BoolOp .Or [a] pos) (tDT G t) := pw_or1 ha
theorem d_tand (ha : PT X a (tDT G t)) (hb : PW X (.BoolOp .And (b :: rest) pos) (tDT G u)) : PW X (.BoolOp .And (a :: b :: rest) pos) (tDT G (dAndT t u)) := by
  refine pw_weak (pw_and ha hb) fun σ H Q h => ?_
  obtain ⟨C, As, ρ, τ, Qd, R, hf, k⟩ := h
  refine ⟨C, As, ρ, τ, _, R, hf, fun C1 H1 b τ1 s1 R1 q1 => ?_⟩
  cases b with
  | true => exact iteT ⟨C1, As, ρ, τ1, _, R1, q1, fun C2 H2 y τ2 s2 R2 q2 => k C2 H2 y τ2 (s1.trans s2) R2 q2⟩
  | false => exact iteF (k C1 H1 _ τ1 s1 R1 q1)
theorem d_tor (ha : PT X a (tDT G t)) (hb : PW X (.BoolOp .Or (b :: rest) pos) (tDT G u)) : PW X (.BoolOp .Or (a :: b :: rest) pos) (tDT G (dOrT t u)) := by
  refine pw_weak (pw_or ha hb) fun σ H Q h => ?_
  obtain ⟨C, As, ρ, τ, Qd, R, hf, k⟩ := h
  refine ⟨C, As, ρ, τ, _, R, hf, fun C1 H1 b τ1 s1 R1 q1 => ?_⟩
  cases b with
  | true => exact iteT (k C1 H1 _ τ1 s1 R1 q1)
  | false => exact iteF ⟨C1, As, ρ, τ1, _, R1, q1, fun C2 H2 y τ2 s2 R2 q2 => k C2 H2 y τ2 (s1.trans s2) R2 q2⟩
theorem d_tnot (ha : PT X a (tDT G t)) : PT X (.UnaryOp .Not a pos) (tDT G (dNotT t)) := by
  refine pt_weak (pt_not ha) fun σ H Q h => ?_
  obtain ⟨C, As, ρ, τ, Qd, R, hf, k⟩ := h
  exact ⟨C, As, ρ, τ, _, R, hf, fun C1 H1 b τ1 s1 R1 q1 => k C1 H1 (!b) τ1 s1 R1 q1⟩
def dIf (t : TDT) (fa fb : TD) : TD := fun ρ τ Q er => t ρ τ (fun b τ1 => if b = true then fa ρ τ1 Q er else fb ρ τ1 Q er) er
theorem d_if {c : Expr} (hc : PT X c (tDT G t)) (ha : PE X a (tD G fa)) (hb : PE X b (tD G fb)) : PE X (.IfExp c a b pos) (tD G (dIf t fa fb)) := by
  refine pe_weak (pe_ifExp hc ha hb) fun σ H Q h => ?_
  obtain ⟨C, As, ρ, τ, Qd, R, hf, k⟩ := h
  refine ⟨C, As, ρ, τ, _, R, hf, fun C1 H1 b τ1 s1 R1 q1 => ?_⟩
  cases b with
  | true => exact iteT ⟨C1, As, ρ, τ1, _, R1, q1, fun C2 H2 w y τ2 s2 R2 d2 q2 => k C2 H2 w y τ2 (s1.trans s2) R2 d2 q2⟩
  | false => exact iteF ⟨C1, As, ρ, τ1, _, R1, q1, fun C2 H2 w y τ2 s2 R2 d2 q2 => k C2 H2 w y τ2 (s1.trans s2) R2 d2 q2⟩

/-! ### argument lists, displays -/
def dNil : TDA := fun _ τ Q _ => Q [] τ
def dCons (f : TD) (g : TDA) : TDA := fun ρ τ Q er => f ρ τ (fun x τ1 => g ρ τ1 (fun xs τ2 => Q (x :: xs) τ2) er) er
theorem d_nil : PA X [] (tDA G 0 dNil) := pa_weak pa_nil fun σ H Q h => by
  obtain ⟨C, As, ρ, τ, Qd, R, hf, k⟩ := h
  exact k C H [] [] τ (Step.refl _ _ _) R .nil rfl hf
theorem d_cons {n : Nat} {g : TDA} (ha : PE X e (tD G f)) (hr : PA X es (tDA G n g)) (hs : starEach (e :: es) X.env = (false, eval e X.env) :: starEach es X.env := by rfl) : PA X (e :: es) (tDA G (n + 1) (dCons f g)) :=
  pa_weak (pa_cons ha hr hs) fun σ H Q h => by
    obtain ⟨C, As, ρ, τ, Qd, R, hf, k⟩ := h
    exact ⟨C, As, ρ, τ, _, R, hf, fun C1 H1 v x τ1 s1 R1 d1 q1 => ⟨C1, As, ρ, τ1, _, R1, q1, fun C2 H2 vs as τ2 s2 R2 d2 e2 q2 =>
      k C2 H2 _ _ τ2 (s1.trans s2) R2 (.cons (SlOk.mono s2.ex d1) d2) (by rw [List.length_cons, e2]) q2⟩⟩
def dTup (g : TDA) : TD := fun ρ τ Q er => g ρ τ (fun xs τ1 => match das xs with
  | some ds => Q (.da (.tuple ds)) τ1
  | none => False) er
def dLst (g : TDA) : TD := fun ρ τ Q er => g ρ τ (fun xs τ1 => match das xs with
  | some ds => Q (.da (.list ds)) τ1
  | none => False) er
theorem sz1000 {n : Nat} (h : n ≤ 1000) : n ≤ sizeLine := Nat.le_trans h (by decide)
theorem pe_tupF {x1} {t : TA} (h : PA X es t) : PE X (.Tuple es x1 pos) (fun σ H Q => t σ H fun xs H1 => xs.length ≤ sizeLine ∧ ∀ p o, H1 p = none → o.dict = none → Q (.ref p) (L2.upd H1 p (.frz o (.tup xs)))) := by
  refine ⟨fun pins s σ H Q I hq => wpAny_Tuple_spliced (thn (h.run pos pins s σ H _ I hq) fun us s1 hu => ?_)⟩
  obtain ⟨xs, H1, I1, r, z, q⟩ := hu
  have hf : H1 s1.heap.objs.size = none := I1.hok.fresh (Nat.le_refl _)
  refine ⟨by rw [← r.length]; exact z, ?_⟩
  have J := I1.laid (t' := s1.toks) (o := .frz { cls := .type "tuple", data := .seq us.toArray } (.tup xs)) (h' := s1.heap.push { cls := .type "tuple", data := .seq us.toArray }) (fun _ _ e => Heap.get?_push_of_some _ e) (Nat.le_refl _) ⟨Heap.get?_push_size _ rfl, z, us, r, ⟨_, Heap.get?_push_size _ rfl, rfl, _, rfl⟩⟩
  exact ⟨.ref s1.heap.objs.size, _, J, rfl, q _ _ hf rfl⟩
theorem d_tup {n : Nat} {g : TDA} {x1} (h : PA X es (tDA G n g)) (hn : n ≤ 1000 := by decide) : PE X (.Tuple es x1 pos) (tD G (dTup g)) := pe_weak (pe_tupF h) fun σ H Q h => by
  obtain ⟨C, As, ρ, τ, Qd, R, hf, k⟩ := h
  refine ⟨C, As, ρ, τ, _, R, hf, fun C1 H1 vs as τ1 s1 R1 d1 e1 q1 => ?_⟩
  cases q : das as with
  | none => rw [q] at q1; exact q1.elim
  | some ds =>
    rw [q] at q1
    have hz : vs.length ≤ sizeLine := by rw [e1]; exact sz1000 hn
    refine ⟨hz, fun p o hp ho => ?_⟩
    have st := Step.new (As := As) (o := .frz o (.tup vs)) hp R1.base.core
    exact k _ _ _ (.da (.tuple ds)) τ1 (s1.trans st) (R1.go st (R1.base.new hp hz)) ⟨_, rfl, p, vs, rfl, .new ho, (d1.das q).mono st.ex⟩ q1
theorem d_lst {n : Nat} {g : TDA} (h : PA X es (tDA G n g)) (hn : n ≤ 1000 := by decide) : PE X (.List es pos) (tD G (dLst g)) := pe_weak (pe_lst h) fun σ H Q h => by
  obtain ⟨C, As, ρ, τ, Qd, R, hf, k⟩ := h
  refine ⟨C, As, ρ, τ, _, R, hf, fun C1 H1 vs as τ1 s1 R1 d1 e1 q1 => ?_⟩
  cases q : das as with
  | none => rw [q] at q1; exact q1.elim
  | some ds =>
    rw [q] at q1
    have hz : vs.length ≤ sizeLine := by rw [e1]; exact sz1000 hn
    refine ⟨hz, fun p hp => ?_⟩
    have st := Step.new (As := As) (o := .lst vs) hp R1.base.core
    exact k _ _ _ (.da (.list ds)) τ1 (s1.trans st) (R1.go st (R1.base.new hp hz)) ⟨_, rfl, p, vs, rfl, upd_same, (d1.das q).mono st.ex⟩ q1

/-! ### a call of a built-in by values -/
abbrev OpC := List Sl → Rs → (PyData → Prop) → Prop
def OkC (r : List V → Hp → VK → Prop) (op : OpC) : Prop := ∀ {mg : Str → Option Value} {As : List Addr} {C H : Hp} {τ : Rs} {xs : List Sl} {vs : List V} {Q : VK} {Qd : PyData → Prop}, Base mg As C τ H → ArgOk C As vs xs → op xs τ Qd →
  (∀ C' H' v z, Step As C H C' H' → Base mg As C' τ H' → Dv C' z v → Qd z → Q v H') → r vs H Q
def dCB (op : OpC) (g : TDA) : TD := fun ρ τ Q er => g ρ τ (fun xs τ1 => op xs τ1 (fun z => Q (.da z) τ1)) er
theorem w_CB {n : Nat} {r : List V → Hp → VK → Prop} {op : OpC} {g : TDA} {σ : L2.St} {H : Hp} {Q : VK} (ok : OkC r op) (h : tD G (dCB op g) σ H Q) : tCB r (tDA G n g) σ H Q := by
  obtain ⟨C, As, ρ, τ, Qd, R, hf, k⟩ := h
  exact ⟨C, As, ρ, τ, _, R, hf, fun C1 H1 vs as τ1 s1 R1 d1 e1 q1 => ok R1.base d1 q1 fun C2 H2 v z s2 b2 d2 q2 => k C2 H2 v (.da z) τ1 (s1.trans s2) (R1.go s2 b2) ⟨v, rfl, d2⟩ q2⟩
theorem d_callB {n : Nat} {g : TDA} {id : String} {x : Str} {p : Pos} {r : List V → Hp → VK → Prop} {op : OpC} (hc : CallR X (.builtin id) r) (ok : OkC r op) (hg : Gl X x) (hm : X.mg x = none) (hv : bootBuiltins x = some (.builtin id)) (ha : PA X (e :: es) (tDA G n g)) (hn : x ≠ "__name__" := by decide) (hdb : (x == ("__debug__" : Str)) = false := by decide)
    (he : starEach (e :: es) X.env = (false, eval e X.env) :: starEach es X.env := by rfl) (hpl : (backTo pos (starEach es X.env)).any (·.1) = false := by rfl) : PE X (.Call (.Name x p) (e :: es) [] pos) (tD G (dCB op g)) :=
  pe_weak (pe_callB hc hg hm hv ha hn hdb he hpl) fun _ _ _ h => w_CB ok h
theorem d_callTy {n : Nat} {g : TDA} {T : String} {x : Str} {p : Pos} {r : List V → Hp → VK → Prop} {op : OpC} (hc : CallR X (.type T) r) (ok : OkC r op) (hg : Gl X x) (hm : X.mg x = none) (hv : bootBuiltins x = some (.type T)) (ha : PA X (e :: es) (tDA G n g)) (hn : x ≠ "__name__" := by decide) (hdb : (x == ("__debug__" : Str)) = false := by decide)
    (he : starEach (e :: es) X.env = (false, eval e X.env) :: starEach es X.env := by rfl) (hpl : (backTo pos (starEach es X.env)).any (·.1) = false := by rfl) : PE X (.Call (.Name x p) (e :: es) [] pos) (tD G (dCB op g)) :=
  pe_weak (pe_callTy hc hg hm hv ha hn hdb he hpl) fun _ _ _ h => w_CB ok h

/-! ### a def is called -/
def spA (mg : Str → Option Value) (F : Fn) : Sp := fun vs H Q E => ∃ C As as τ Qa Er, Base mg As C τ H ∧ ArgOk C As vs as ∧ F as τ Qa Er ∧
  (∀ C' H' v d τ', Step As C H C' H' → Base mg As C' τ' H' → Dv C' d v → Qa d τ' → Q v H') ∧
  (∀ (n : Str) (Cn : Addr) C' H' τ', mg n = some (.ref Cn) → Step As C H C' H' → Base mg As C' τ' H' → Er n τ' → E (.ref Cn) none H')
def dCall (F : Fn) (g : TDA) : TD := fun ρ τ Q er => g ρ τ (fun xs τ1 => F xs τ1 (fun d τ2 => Q (.da d) τ2) er) er
/-- .. that raises nothing here -/
def dCallN (F : Fn) (g : TDA) : TD := fun ρ τ Q er => g ρ τ (fun xs τ1 => F xs τ1 (fun d τ2 => Q (.da d) τ2) (fun _ _ => False)) er
variable {k n : Nat} {fn : Addr} {fd : FuncData} {ps : List Str} {F : Fn} {x : Str} {p : Pos} {g : TDA}
theorem w_call {σ : L2.St} {H : Hp} {Q : VK} (h : tD G (dCall F g) σ H Q) : tCall (spA G.mg F) [] G.E (tDA G n g) σ H Q := by
  obtain ⟨C, As, ρ, τ, Qd, R, hf, k⟩ := h
  refine ⟨C, As, ρ, τ, _, R, hf, fun C1 H1 vs as τ1 s1 R1 d1 e1 q1 => ?_⟩
  show spA G.mg F (vs ++ []) H1 Q G.E
  rw [List.append_nil]
  refine ⟨C1, As, as, τ1, _, _, R1.base, d1, q1, fun C2 H2 v d τ2 s2 b2 d2 q2 => k C2 H2 v (.da d) τ2 (s1.trans s2) (R1.go s2 b2) ⟨v, rfl, d2⟩ q2, fun m Cn C2 H2 τ2 hm s2 b2 q2 => ?_⟩
  have R2 := R1.go s2 b2
  exact G.eok m Cn C2 H2 _ hm R2.step R2.take q2
theorem w_callN {σ : L2.St} {H : Hp} {Q : VK} (h : tD G (dCallN F g) σ H Q) : tCall (spA G.mg F) [] E0 (tDA G n g) σ H Q := by
  obtain ⟨C, As, ρ, τ, Qd, R, hf, k⟩ := h
  refine ⟨C, As, ρ, τ, _, R, hf, fun C1 H1 vs as τ1 s1 R1 d1 e1 q1 => ?_⟩
  show spA G.mg F (vs ++ []) H1 Q E0
  rw [List.append_nil]
  exact ⟨C1, As, as, τ1, _, _, R1.base, d1, q1, fun C2 H2 v d τ2 s2 b2 d2 q2 => k C2 H2 v (.da d) τ2 (s1.trans s2) (R1.go s2 b2) ⟨v, rfl, d2⟩ q2, fun m Cn C2 H2 τ2 hm s2 b2 q2 => q2⟩
theorem passN {X : Cx} : Passes (L2N.CX X.prog X.w) X E0 := fun _ _ _ _ _ _ _ h => by
  obtain ⟨_, _, _, _, _, _, _, _, _, _, _, _, z⟩ := h
  exact z.elim
/-- what a def of the text is, for its callers -/
structure Dfn (P : Program) (w : World) (K : PySem.W.Frag) (mg : Str → Option Value) (base : Heap) (x : Str) (k : Nat) (ps : List Str) (F : Fn) : Prop where
  ex : ∃ (f : Addr) (fd : FuncData), mg x = some (.ref f) ∧ PySem.W.keepIn K (.ref f) = true ∧ Binds K fd ps [] ∧ FnOk P w K mg base (L2N.CX P w) k f fd ps (spA mg F)
theorem d_call (D : Dfn X.prog X.w X.K X.mg X.base x k ps F) (hr : Room k X.A) (hG : G.mg = X.mg) (hx : Passes (L2N.CX X.prog X.w) X G.E) (hg : Gl X x)
    (ha : PA X (e :: es) (tDA G n g)) (hdb : (x == ("__debug__" : Str)) = false := by decide) (he : starEach (e :: es) X.env = (false, eval e X.env) :: starEach es X.env := by rfl) (hpl : (backTo pos (starEach es X.env)).any (·.1) = false := by rfl) :
    PE X (.Call (.Name x p) (e :: es) [] pos) (tD G (dCall F g)) := by
  obtain ⟨f, fd, hm, hk, hb, FF⟩ := D.ex
  exact pe_weak (pe_call FF hr hg hm hk hb .nil hx ha hdb he hpl) fun _ _ _ h => by rw [← hG]; exact w_call h
theorem d_callN (D : Dfn X.prog X.w X.K X.mg X.base x k ps F) (hr : Room k X.A) (hG : G.mg = X.mg) (hg : Gl X x)
    (ha : PA X (e :: es) (tDA G n g)) (hdb : (x == ("__debug__" : Str)) = false := by decide) (he : starEach (e :: es) X.env = (false, eval e X.env) :: starEach es X.env := by rfl) (hpl : (backTo pos (starEach es X.env)).any (·.1) = false := by rfl) :
    PE X (.Call (.Name x p) (e :: es) [] pos) (tD G (dCallN F g)) := by
  obtain ⟨f, fd, hm, hk, hb, FF⟩ := D.ex
  exact pe_weak (pe_call FF hr hg hm hk hb .nil passN ha hdb he hpl) fun _ _ _ h => by rw [← hG]; exact w_callN h
end
end DL
namespace DL
open PySem PySem.Spec PyProof.Rows L2
section
variable {X : Cx} {G : Gx} {e a b c : Expr} {es : List Expr} {f fa fb fc : TD} {pos : Pos} {st : Stmt} {rest : List Stmt} {g g1 g2 : TDS} {t : TDT}

/-! ### statements -/
def dSeq (g1 g2 : TDS) : TDS := fun ρ τ De => g1 ρ τ { De with nx := fun ρ' τ' => g2 ρ' τ' De }
def dNext : TDS := fun ρ τ De => De.nx ρ τ
theorem s_nil : PSs X [] (sD G dNext) := pss_weak pss_nil fun D σ H h => by
  obtain ⟨C, As, ρ, τ, De, R, hg, her, kn, kr⟩ := h
  exact kn C As ρ τ σ H (Same.refl _) R hg
theorem s_one (h1 : PS X st (sD G g)) : PSs X [st] (sD G g) := pss_one h1
theorem s_cons (h1 : PS X st (sD G g1)) (h2 : PSs X rest (sD G g2)) : PSs X (st :: rest) (sD G (dSeq g1 g2)) := pss_weak (pss_cons h1 h2) fun D σ H h => by
  obtain ⟨C, As, ρ, τ, De, R, hg, her, kn, kr⟩ := h
  exact ⟨C, As, ρ, τ, _, R, hg, her, fun C1 As1 ρ1 τ1 σ1 H1 s1 R1 q1 => ⟨C1, As1, ρ1, τ1, De, R1, q1, her, fun C2 As2 ρ2 τ2 σ2 H2 s2 R2 q2 => kn C2 As2 ρ2 τ2 σ2 H2 (s1.trans s2) R2 q2, kr⟩, kr⟩
def dExpr (f : TD) : TDS := fun ρ τ De => f ρ τ (fun _ τ1 => De.nx ρ τ1) De.er
theorem s_expr (he : PE X e (tD G f)) (hs : swapsWith e none pos.line X.env = pure false := by rfl) : PS X (.Expr e pos) (sD G (dExpr f)) := ps_weak (ps_expr he hs) fun D σ H h => by
  obtain ⟨C, As, ρ, τ, De, R, hg, her, kn, kr⟩ := h
  unfold dExpr at hg
  rw [her] at hg
  exact ⟨C, As, ρ, τ, _, R, hg, fun C1 H1 v r τ1 s1 R1 d1 q1 => kn C1 As ρ τ1 σ H1 s1.ex R1 q1⟩
/-- return: a list that is the def's own is data from then on -/
def dRet (f : TD) : TDS := fun ρ τ De => f ρ τ (fun r τ1 => match r with
  | .da d => De.rt d τ1
  | _ => False) De.er
theorem s_ret (he : PE X e (tD G f)) : PS X (.Return (some e) pos) (sD G (dRet f)) := ps_weak (ps_ret he) fun D σ H h => by
  obtain ⟨C, As, ρ, τ, De, R, hg, her, kn, kr⟩ := h
  unfold dRet at hg
  rw [her] at hg
  refine ⟨C, As, ρ, τ, _, R, hg, fun C1 H1 v r τ1 s1 R1 d1 q1 => ?_⟩
  match r, d1, q1 with
  | .da d, d1, q1 => exact kr C1 H1 v d τ1 R1.step R1.take (VOk.dv d1) q1
def dIfS (t : TDT) (g1 g2 : TDS) : TDS := fun ρ τ De => t ρ τ (fun b τ1 => if b = true then g1 ρ τ1 De else g2 ρ τ1 De) De.er
theorem s_if {c : Expr} {x y : List Stmt} (hc : PT X c (tDT G t)) (ha : PSs X x (sD G g1)) (hb : PSs X y (sD G g2)) : PS X (.If c x y pos) (sD G (dIfS t g1 g2)) := ps_weak (ps_if hc ha hb) fun D σ H h => by
  obtain ⟨C, As, ρ, τ, De, R, hg, her, kn, kr⟩ := h
  unfold dIfS at hg
  rw [her] at hg
  refine ⟨C, As, ρ, τ, _, R, hg, fun C1 H1 b τ1 s1 R1 q1 => ?_⟩
  cases b with
  | true => exact iteT ⟨C1, As, ρ, τ1, De, R1, q1, her, fun C2 As2 ρ2 τ2 σ2 H2 s2 R2 q2 => kn C2 As2 ρ2 τ2 σ2 H2 (s1.ex.trans s2) R2 q2, kr⟩
  | false => exact iteF ⟨C1, As, ρ, τ1, De, R1, q1, her, fun C2 As2 ρ2 τ2 σ2 H2 s2 R2 q2 => kn C2 As2 ρ2 τ2 σ2 H2 (s1.ex.trans s2) R2 q2, kr⟩

/-! ### raise -/
/-- an own error class of the text -/
structure Exn (K : PySem.W.Frag) (mg : Str → Option Value) (x : Str) : Prop where
  ex : ∃ C : Addr, mg x = some (.ref C) ∧ PySem.W.excIn K C [.type "ValueError", .type "Exception", .type "BaseException", .type "object"] "ValueError.__new__" = true ∧ PySem.W.keepIn K (.ref C) = true ∧
    PySem.W.subIn K (.ref C) (.type "BaseException") = some true ∧ PySem.W.typeIn K (.ref C) = some (.type "type")
def dRaise (n : Str) : TDS := fun _ τ De => De.er n τ
theorem s_raise {x m : Str} {j : Nat} {p p2 p3 : Pos} (T : Exn X.K X.mg x) (hG : G.mg = X.mg) (hc : X.calm = true) (tk : L2N.Takes X fun cls d _ H => G.E cls d H) (hg : Gl X x) (hdb : (x == ("__debug__" : Str)) = false := by decide) :
    PS X (.Raise (some (.Call (.Name x p) [.Constant (.str m) j p2] [] p3)) none pos) (sD G (dRaise x)) := by
  obtain ⟨C, gC, xC, kC, bC, tC⟩ := T.ex
  refine ps_weak (L2N.ps_raise hc tk (L2N.pmk_own PySem.F.excBase_ValueError xC gC kC (raises_own bC tC) hg hdb)) fun D σ H h => ?_
  obtain ⟨C', As, ρ, τ, De, R, h1, her, kn, kr⟩ := h
  unfold dRaise at h1
  rw [her] at h1
  exact G.eok x C C' H _ (by rw [hG]; exact gC) R.step R.take h1

/-! ### targets -/
abbrev Tg := PyData → Ds → (Ds → Prop) → Prop
def gD (G : Gx) (vs : List Nat) (t : Tg) : TG := fun v σ H Q => ∃ C As ρ τ d Qd, Rel G C As ρ τ σ H ∧ Dv C d v ∧ t d ρ Qd ∧ ∀ ρ' σ', Rel G C As ρ' τ σ' H → (σ'.length = σ.length ∧ ∀ i : Nat, i ∉ vs → σ'[i]? = σ[i]?) → Qd ρ' → Q σ' H
def gName (i : Nat) : Tg := fun d ρ Q => Q (ρ.set i (.da d))
theorem pg_weak {x : Expr} {t t' : TG} (h : PG X x t) (w : ∀ v σ H Q, t' v σ H Q → t v σ H Q) : PG X x t' := ⟨fun pins s σ H v u Q I r q => h.run pins s σ H v u Q I r (w v σ H Q q)⟩
theorem w_gname {i : Nat} {v : V} {σ : L2.St} {H : Hp} {Q : L2.St → Hp → Prop} {vs : List Nat} (hi : i ∈ vs) (h : gD G vs (gName i) v σ H Q) : L2.gName i v σ H Q := by
  obtain ⟨C, As, ρ, τ, d, Qd, R, dv, ht, k⟩ := h
  exact k _ _ (R.set (i := i) (r := .da d) ⟨v, rfl, dv⟩) ⟨by simp, fun j hj => List.getElem?_set_ne (fun z => hj (by rw [← z]; exact hi))⟩ ht
theorem g_name {i : Nat} {x : Str} {vs : List Nat} (hN : X.N.Nodup) (hi : X.N[i]? = some x) (hx : Loc X.env.scope x) (hv : i ∈ vs := by decide) (hf : X.fn x = true ∨ X.env.scope.names.lookup x = some .local := by first | exact .inl rfl | exact .inr rfl | assumption) : PG X (.Name x pos) (gD G vs (gName i)) :=
  pg_weak (pg_name hN hi hx hf) fun v σ H Q h => w_gname hv h
abbrev Tgs := List PyData → Ds → (Ds → Prop) → Prop
def gsD (G : Gx) (vs : List Nat) (t : Tgs) : TGs := fun us σ H Q => ∃ C As ρ τ ds Qd, Rel G C As ρ τ σ H ∧ DvA C ds us ∧ t ds ρ Qd ∧ ∀ ρ' σ', Rel G C As ρ' τ σ' H → (σ'.length = σ.length ∧ ∀ i : Nat, i ∉ vs → σ'[i]? = σ[i]?) → Qd ρ' → Q σ' H
def gNil : Tgs := fun ds ρ Q => match ds with
  | [] => Q ρ
  | _ => False
def gCons (t : Tg) (u : Tgs) : Tgs := fun ds ρ Q => match ds with
  | d :: r => t d ρ fun ρ' => u r ρ' Q
  | [] => False
def gTup (n : Nat) (t : Tgs) : Tg := fun d ρ Q => match d with
  | .tuple ds => ds.length = n ∧ t ds ρ Q
  | _ => False
theorem pgs_weak {x : List Expr} {t t' : TGs} (h : PGs X x t) (w : ∀ v σ H Q, t' v σ H Q → t v σ H Q) : PGs X x t' := ⟨fun pins s σ H v u Q I r q => h.run pins s σ H v u Q I r (w v σ H Q q)⟩
theorem g_nil {vs : List Nat} : PGs X [] (gsD G vs gNil) := pgs_weak pgs_nil fun us σ H Q h => by
  obtain ⟨C, As, ρ, τ, ds, Qd, R, dv, ht, k⟩ := h
  match ds, dv, ht with
  | [], dv, ht => cases dv; exact ⟨rfl, k ρ σ R ⟨rfl, fun _ _ => rfl⟩ ht⟩
theorem g_cons {vs : List Nat} {e : Expr} {es : List Expr} {t : Tg} {u : Tgs} (h1 : PG X e (gD G vs t)) (h2 : PGs X es (gsD G vs u))
    (hs : (assignEach (e :: es) X.env).map (·.2) = assign e X.env :: (assignEach es X.env).map (·.2) := by rfl) : PGs X (e :: es) (gsD G vs (gCons t u)) := pgs_weak (pgs_cons h1 h2 hs) fun us σ H Q h => by
  obtain ⟨C, As, ρ, τ, ds, Qd, R, dv, ht, k⟩ := h
  match ds, dv, ht with
  | d :: r, ⟨v, ws, e1, d1, d2⟩, ht =>
    cases e1
    exact ⟨v, ws, rfl, C, As, ρ, τ, d, _, R, d1, ht, fun ρ1 σ1 R1 z1 q1 => ⟨C, As, ρ1, τ, r, Qd, R1, d2, q1, fun ρ2 σ2 R2 z2 q2 => k ρ2 σ2 R2 ⟨z2.1.trans z1.1, fun i hi => (z2.2 i hi).trans (z1.2 i hi)⟩ q2⟩⟩
theorem g_tup {vs : List Nat} {es : List Expr} {k : Nat} {t : Tgs} {n : Nat} (hc : X.calm = true) (h : PGs X es (gsD G vs t))
    (hn : (assignEach es X.env).length = n := by rfl) (hst : (assignEach es X.env).findIdx? (·.1) = none := by rfl) : PG X (.Tuple es k pos) (gD G vs (gTup n t)) := pg_weak (pg_tup hc h hn hst) fun v σ H Q h => by
  obtain ⟨C, As, ρ, τ, d, Qd, R, dv, ht, k⟩ := h
  match d, dv, ht with
  | .tuple ds, ⟨a, ws, e1, e2, e3⟩, ⟨hl, ht⟩ => exact ⟨a, ws, e1, (e2.mono R.base.core).sq, by rw [e3.length, hl], C, As, ρ, τ, ds, Qd, R, e3, ht, k⟩
/-- target = value -/
def dAsg (f : TD) (t : Tg) : TDS := fun ρ τ De => f ρ τ (fun r τ1 => match r with
  | .da d => t d ρ fun ρ' => De.nx ρ' τ1
  | _ => False) De.er
theorem s_asg {vs : List Nat} {tg e : Expr} {t : Tg} (he : PE X e (tD G f)) (hg : PG X tg (gD G vs t)) (hs : swapsWithSole [tg] e pos.line X.env = pure false := by rfl) (hw : swappedStores [tg] e X.env = pure none := by rfl)
    (h1 : (assignEach [tg] X.env).map (·.2) = [assign tg X.env] := by rfl) : PS X (.Assign [tg] e pos) (sD G (dAsg f t)) := ps_weak (ps_asg he hg hs hw h1) fun D σ H h => by
  obtain ⟨C, As, ρ, τ, De, R, h1, her, kn, kr⟩ := h
  unfold dAsg at h1
  rw [her] at h1
  refine ⟨C, As, ρ, τ, _, R, h1, fun C1 H1 v r τ1 s1 R1 d1 q1 => ?_⟩
  match r, d1, q1 with
  | .da d, d1, q1 => exact ⟨C1, As, ρ, τ1, d, _, R1, VOk.dv d1, q1, fun ρ' σ' R' _ q' => kn C1 As ρ' τ1 σ' H1 s1.ex R' q'⟩
/-- name = value -/
def dSet (i : Nat) (f : TD) : TDS := fun ρ τ De => f ρ τ (fun r τ1 => De.nx (ρ.set i r) τ1) De.er
theorem w_set {i : Nat} {D : Ends} {σ : L2.St} {H : Hp} (h : sD G (dSet i f) D σ H) : tAsg (tD G f) (L2.gName i) D σ H := by
  obtain ⟨C, As, ρ, τ, De, R, h1, her, kn, kr⟩ := h
  unfold dSet at h1
  rw [her] at h1
  exact ⟨C, As, ρ, τ, _, R, h1, fun C1 H1 v r τ1 s1 R1 d1 q1 => kn C1 As _ τ1 _ H1 s1.ex (R1.set (i := i) d1) q1⟩
theorem s_set {i : Nat} {x : Str} {pos' : Pos} (hN : X.N.Nodup) (hi : X.N[i]? = some x) (hx : Loc X.env.scope x) (he : PE X e (tD G f)) (hs : swapsWith e (some (.Name x pos')) pos.line X.env = pure false := by rfl) (hf : X.fn x = true ∨ X.env.scope.names.lookup x = some .local := by first | exact .inl rfl | exact .inr rfl | assumption) :
    PS X (.Assign [.Name x pos'] e pos) (sD G (dSet i f)) := ps_weak (ps_set hN hi hx he hs hf) fun D σ H h => w_set h
/-- a, b = x, y -/
def dPar (i j : Nat) (g : TDA) : TDS := fun ρ τ De => g ρ τ (fun xs τ1 => match xs with
  | [x, y] => De.nx ((ρ.set i x).set j y) τ1
  | _ => False) De.er
theorem s_par {i j n : Nat} {x y : Str} {g : TDA} {px py pt : Pos} {kt k2 pt2} (hc : X.calm = true) (hN : X.N.Nodup) (hi : X.N[i]? = some x) (hj : X.N[j]? = some y) (hij : i ≠ j)
    (hx : X.env.scope.names.lookup x = some .local) (hy : X.env.scope.names.lookup y = some .local) (ha : PA X [a, b] (tDA G n g))
    (hw : swappedStores [.Tuple [.Name x px, .Name y py] kt pt] (.Tuple [a, b] k2 pt2) X.env = pure (some [x, y]))
    (hs : swapsWithSole [.Tuple [.Name x px, .Name y py] kt pt] (.Tuple [a, b] k2 pt2) pos.line X.env = pure false := by rfl) :
    PS X (.Assign [.Tuple [.Name x px, .Name y py] kt pt] (.Tuple [a, b] k2 pt2) pos) (sD G (dPar i j g)) := ps_weak (ps_par hc hN hi hj hij hx hy ha hw hs) fun D σ H h => by
  obtain ⟨C, As, ρ, τ, De, R, h1, her, kn, kr⟩ := h
  unfold dPar at h1
  rw [her] at h1
  refine ⟨C, As, ρ, τ, _, R, h1, fun C1 H1 vs as τ1 s1 R1 d1 e1 q1 => ?_⟩
  match as, d1, q1 with
  | [x, y], .cons (v := v) r1 (.cons (v := w) r2 .nil), q1 => exact ⟨v, w, rfl, kn C1 As _ τ1 _ H1 s1.ex ((R1.set (i := i) r1).set (i := j) r2) q1⟩

/-! ### what is walked -/
def ItStep (C H1 H2 : Hp) (d : PyData) (x : V) : Prop := (H2 = H1 ∧ Dv C d x) ∨ ∃ p o, H1 p = none ∧ SzO o ∧ H2 = upd H1 p o ∧ ∀ C2, Same C C2 → C2 p = none → Dv (upd C2 p o) d x
structure ItD (C : Hp) (J : It) (ds : List PyData) : Prop where
  stop : ∀ (i : Nat) H1, Same C H1 → ds.length ≤ i → J.stop i H1
  go : ∀ (i : Nat) H1 d, Same C H1 → ds[i]? = some d → J.go i H1 ∧ ∀ x H2, J.yld i H1 x H2 → ItStep C H1 H2 d x
theorem ItD.mono {C C' : Hp} {J : It} {ds : List PyData} (h : ItD C J ds) (e : Same C C') : ItD C' J ds :=
  ⟨fun i H1 s l => h.stop i H1 (e.trans s) l, fun i H1 d s l => ⟨(h.go i H1 d (e.trans s) l).1, fun x H2 y => by
    rcases (h.go i H1 d (e.trans s) l).2 x H2 y with ⟨z1, z2⟩ | ⟨p, o, z1, zz, z2, z3⟩
    · exact .inl ⟨z1, z2.mono e⟩
    · exact .inr ⟨p, o, z1, zz, z2, fun C2 q n => z3 C2 (e.trans q) n⟩⟩⟩
abbrev TDI := TDx (List PyData)
def iD (G : Gx) (f : TDI) : TI := fun σ H R => ∃ C As ρ τ Qd, Rel G C As ρ τ σ H ∧ f ρ τ Qd G.err ∧
  ∀ C' H' J ds τ', Step As C H C' H' → Rel G C' As ρ τ' σ H' → ItD C' J ds → ds.length ≤ sizeLine → Qd ds τ' → R J H'
theorem pi_weak {tg iter : Expr} {t t' : TI} (h : PI X tg iter t) (w : ∀ σ H R, t' σ H R → t σ H R) : PI X tg iter t' := ⟨fun pins s σ H R I q => h.run pins s σ H R I (w σ H R q)⟩
def dIList (f : TD) : TDI := fun ρ τ Q er => f ρ τ (fun r τ1 => match r with
  | .da (.list ds) => Q ds τ1
  | _ => False) er
def dITup (f : TD) : TDI := fun ρ τ Q er => f ρ τ (fun r τ1 => match r with
  | .da (.tuple ds) => Q ds τ1
  | _ => False) er
variable {tg : Expr}
theorem i_list (hl : PE X a (tD G f)) : PI X tg a (iD G (dIList f)) := pi_weak (pi_list hl) fun σ H R h => by
  obtain ⟨C, As, ρ, τ, Qd, Rl, hf, k⟩ := h
  refine ⟨C, As, ρ, τ, _, Rl, hf, fun C1 H1 v r τ1 s1 R1 d1 q1 => ?_⟩
  match r, d1, q1 with
  | .da (.list ds), d1, q1 =>
    obtain ⟨p, vs, e1, e2, e3⟩ := VOk.dv d1
    have sq : ∀ H2, Same C1 H2 → SqL X.K H2 p vs := fun H2 z => SqL.of (z _ _ e2)
    refine ⟨p, e1, ⟨vs, sq _ R1.base.core⟩, k C1 H1 _ ds τ1 s1 R1 ⟨fun i H2 z l => ⟨vs, sq _ z, by rw [e3.length]; exact l⟩, fun i H2 d z hi => ?_⟩ (by have := R1.base.sz _ _ e2; rw [← e3.length]; exact this) q1⟩
    obtain ⟨x, hx, dx⟩ := e3.at hi
    exact ⟨⟨vs, x, sq _ z, hx⟩, fun y H3 ⟨h1, h2⟩ => .inl ⟨h1, by have h3 := h2 vs (sq _ z); rw [hx] at h3; cases h3; exact dx⟩⟩
theorem i_tup (hl : PE X a (tD G f)) : PI X tg a (iD G (dITup f)) := pi_weak (pi_tup hl) fun σ H R h => by
  obtain ⟨C, As, ρ, τ, Qd, Rl, hf, k⟩ := h
  refine ⟨C, As, ρ, τ, _, Rl, hf, fun C1 H1 v r τ1 s1 R1 d1 q1 => ?_⟩
  match r, d1, q1 with
  | .da (.tuple ds), d1, q1 =>
    obtain ⟨p, vs, e1, e2, e3⟩ := VOk.dv d1
    have sq : ∀ H2, Same C1 H2 → SqT X.K H2 p vs := fun H2 z => (e2.mono z).sq
    refine ⟨p, e1, ⟨vs, sq _ R1.base.core⟩, k C1 H1 _ ds τ1 s1 R1 ⟨fun i H2 z l => ⟨vs, sq _ z, by rw [e3.length]; exact l⟩, fun i H2 d z hi => ?_⟩ (by obtain ⟨o, e2, _⟩ := e2.ex; have := R1.base.sz _ _ e2; rw [← e3.length]; exact this) q1⟩
    obtain ⟨x, hx, dx⟩ := e3.at hi
    exact ⟨⟨vs, x, sq _ z, hx⟩, fun y H3 ⟨h1, h2⟩ => .inl ⟨h1, by have h3 := h2 vs (sq _ z); rw [hx] at h3; cases h3; exact dx⟩⟩
/-- range -/
def rangeL (lo : Int) (n : Nat) : List PyData := (List.range n).map fun i : Nat => PyData.int (lo + (i : Int))
theorem rangeL_length (lo : Int) (n : Nat) : (rangeL lo n).length = n := by simp [rangeL]
theorem itd_range (C : Hp) (lo : Int) (n : Nat) : ItD C (Itr lo n) (rangeL lo n) := by
  refine ⟨fun i H1 z l => ?_, fun i H1 d z hi => ?_⟩
  · rw [rangeL_length] at l; exact l
  · have hi' : i < n := by
      have := (List.getElem?_eq_some_iff.mp hi).1
      rwa [rangeL_length] at this
    refine ⟨hi', fun x H2 ⟨h1, h2⟩ => .inl ⟨h1, ?_⟩⟩
    have : d = .int (lo + (i : Int)) := by
      unfold rangeL at hi
      rw [List.getElem?_map, List.getElem?_range hi'] at hi
      exact (Option.some.inj hi).symm
    rw [this]
    exact h2
def dIRng1 (g : TDA) : TDI := fun ρ τ Q er => g ρ τ (fun xs τ1 => match xs with
  | [.da (.int j)] => (-1000 ≤ j ∧ j ≤ 1000) ∧ Q (rangeL 0 j.toNat) τ1
  | _ => False) er
def dIRng2 (g : TDA) : TDI := fun ρ τ Q er => g ρ τ (fun xs τ1 => match xs with
  | [.da (.int i), .da (.int j)] => (-1000 ≤ i ∧ i ≤ 1000 ∧ -1000 ≤ j ∧ j ≤ 1000) ∧ Q (rangeL i (j - i).toNat) τ1
  | _ => False) er
theorem pe_intV {C : Hp} {As : List Addr} {v : V} {i : Int} (h : VOk C As v (.da (.int i))) : v = .int i := VOk.dv h
theorem i_range1 {n : Nat} {g : TDA} {p : Pos} (hg : Gl X "range") (hm : X.mg "range" = none) (ha : PA X [a] (tDA G n g)) (hs : starEach [a] X.env = [(false, eval a X.env)] := by rfl) : PI X tg (.Call (.Name "range" p) [a] [] pos) (iD G (dIRng1 g)) :=
  pi_weak (pi_range1 hg hm ha hs) fun σ H R h => by
    obtain ⟨C, As, ρ, τ, Qd, Rl, hf, k⟩ := h
    refine ⟨C, As, ρ, τ, _, Rl, hf, fun C1 H1 vs as τ1 s1 R1 d1 e1 q1 => ?_⟩
    match as, d1, q1 with
    | [.da (.int j)], .cons (v := v) r1 .nil, ⟨h1, q1⟩ =>
      have ev : v = .int j := VOk.dv r1
      subst ev
      refine ⟨j, rfl, by omega, by omega, k C1 H1 _ _ τ1 s1 R1 (itd_range _ _ _) ?_ q1⟩
      rw [rangeL_length]
      exact sz1000 (by omega)
theorem i_range2 {n : Nat} {g : TDA} {p : Pos} (hg : Gl X "range") (hm : X.mg "range" = none) (ha : PA X [a, b] (tDA G n g)) (hs : starEach [a, b] X.env = [(false, eval a X.env), (false, eval b X.env)] := by rfl) (hs2 : starEach [b] X.env = [(false, eval b X.env)] := by rfl) :
    PI X tg (.Call (.Name "range" p) [a, b] [] pos) (iD G (dIRng2 g)) :=
  pi_weak (pi_range2 hg hm ha hs hs2) fun σ H R h => by
    obtain ⟨C, As, ρ, τ, Qd, Rl, hf, k⟩ := h
    refine ⟨C, As, ρ, τ, _, Rl, hf, fun C1 H1 vs as τ1 s1 R1 d1 e1 q1 => ?_⟩
    match as, d1, q1 with
    | [.da (.int i), .da (.int j)], .cons (v := v) r1 (.cons (v := w) r2 .nil), ⟨h1, q1⟩ =>
      have ev : v = .int i := VOk.dv r1
      have ew : w = .int j := VOk.dv r2
      subst ev ew
      refine ⟨i, j, rfl, by omega, k C1 H1 _ _ τ1 s1 R1 (itd_range _ _ _) ?_ q1⟩
      rw [rangeL_length]
      exact Nat.le_trans (show (j - i).toNat ≤ 100000 by omega) (by decide)

/-! ### for -/
def loopD (t : Tg) (g : TDS) : List PyData → Ds → Rs → DEnds → Prop
  | [], ρ, τ, De => De.nx ρ τ
  | d :: ds, ρ, τ, De => t d ρ fun ρ1 => g ρ1 τ { De with nx := fun ρ2 τ2 => loopD t g ds ρ2 τ2 De }
def dFor (f : TDI) (t : Tg) (g : TDS) : TDS := fun ρ τ De => f ρ τ (fun ds τ1 => loopD t g ds ρ τ1 De) De.er
/-- a new object of a walk is data -/
theorem Rel.itStep {C C1 H1 H2 : Hp} {As : List Addr} {ρ : Ds} {τ : Rs} {σ : L2.St} {d : PyData} {x : V} (R : Rel G C As ρ τ σ H1) (e : Same C1 C) (h : ItStep C1 H1 H2 d x) : ∃ C2, Step As C H1 C2 H2 ∧ Rel G C2 As ρ τ σ H2 ∧ Dv C2 d x := by
  rcases h with ⟨z1, z2⟩ | ⟨p, o, z1, zz, z2, z3⟩
  · subst z1; exact ⟨C, Step.refl _ _ _, R, z2.mono e⟩
  · subst z2
    have hp : C p = none := by
      cases q : C p with
      | none => rfl
      | some u => rw [R.base.core _ _ q] at z1; cases z1
    have st := Step.new (As := As) (o := o) z1 R.base.core
    exact ⟨upd C p o, st, R.go st (R.base.new z1 zz), z3 C e hp⟩
theorem s_for {vs : List Nat} {iter : Expr} {body : List Stmt} {f : TDI} {t : Tg} (hp : PassesOwn (model X.prog X.w) X.A X.env X.xe) (hc : X.calm = true) (hi : PI X tg iter (iD G f)) (hg : PG X tg (gD G vs t)) (hb : PSs X body (sD G g))
    (hs : ∀ x, foldedSetIterable iter X.env x = pure x := by intro _; rfl) : PS X (.For tg iter body [] pos) (sD G (dFor f t g)) := ps_weak (ps_for hp hc hi hg hb hs) fun D σ H h => by
  obtain ⟨C, As, ρ, τ, De, R, h1, her, kn, kr⟩ := h
  unfold dFor at h1
  rw [her] at h1
  refine ⟨C, As, ρ, τ, _, R, h1, fun C1 H1 J ds τ1 s1 R1 it hz q1 => ?_⟩
  refine ⟨fun i m σ' H' => m = ds.length - i ∧ i ≤ ds.length ∧ ∃ C' As' ρ' τ', Same C1 C' ∧ Rel G C' As' ρ' τ' σ' H' ∧ loopD t g (ds.drop i) ρ' τ' De, ⟨_, rfl, Nat.zero_le _, C1, As, ρ, τ1, Same.refl _, R1, q1⟩, ?_⟩
  rintro i m σ' H' ⟨rfl, hi, C', As', ρ', τ', e', R', q'⟩
  by_cases hlt : i < ds.length
  · obtain ⟨d, hd⟩ : ∃ d, ds[i]? = some d := ⟨ds[i], by simp [hlt]⟩
    have ed : ds.drop i = d :: ds.drop (i + 1) := by
      rw [List.drop_eq_getElem_cons hlt]
      congr 1
      have := List.getElem?_eq_getElem hlt
      rw [this] at hd
      exact Option.some.inj hd
    rw [ed] at q'
    obtain ⟨go, yl⟩ := it.go i H' d (e'.trans R'.base.core) hd
    refine .inr ⟨go, fun σ2 H2 => ∃ C' As' ρ' τ', Same C1 C' ∧ Rel G C' As' ρ' τ' σ2 H2 ∧ loopD t g (ds.drop (i + 1)) ρ' τ' De, fun σ2 H2 z => ⟨ds.length - (i + 1), by omega, rfl, hlt, z⟩, fun x H2 hy => ?_⟩
    obtain ⟨C2, st2, R2, dv2⟩ := R'.itStep e' (yl x H2 hy)
    refine ⟨C2, As', ρ', τ', d, _, R2, dv2, q', fun ρ3 σ3 R3 _ q3 => ?_⟩
    exact ⟨C2, As', ρ3, τ', _, R3, q3, her, fun C4 As4 ρ4 τ4 σ4 H4 s4 R4 q4 => ⟨C4, As4, ρ4, τ4, (e'.trans st2.ex).trans s4, R4, q4⟩, kr⟩
  · have hl : i = ds.length := by omega
    subst hl
    rw [List.drop_length] at q'
    exact .inl ⟨it.stop _ _ (e'.trans R'.base.core) (Nat.le_refl _), kn C' As' ρ' τ' σ' H' (s1.ex.trans e') R' q'⟩

/-! ### while: n turns at most -/
def loopW (t : TDT) (g : TDS) : Nat → Ds → Rs → DEnds → Prop
  | 0, _, _, _ => False
  | n + 1, ρ, τ, De => t ρ τ (fun b τ1 => if b = true then g ρ τ1 { De with nx := fun ρ2 τ2 => loopW t g n ρ2 τ2 De } else De.nx ρ τ1) De.er
def dWhile (t : TDT) (g : TDS) : TDS := fun ρ τ De => ∃ n, loopW t g n ρ τ De
theorem s_while {c : Expr} {body : List Stmt} (hp : PassesOwn (model X.prog X.w) X.A X.env X.xe) (hc : PT X c (tDT G t)) (hb : PSs X body (sD G g)) : PS X (.While c body [] pos) (sD G (dWhile t g)) := ps_weak (ps_while hp hc hb) fun D σ H h => by
  obtain ⟨C, As, ρ, τ, De, R, ⟨n, h1⟩, her, kn, kr⟩ := h
  refine ⟨fun m σ' H' => ∃ C' As' ρ' τ', Same C C' ∧ Rel G C' As' ρ' τ' σ' H' ∧ loopW t g m ρ' τ' De, ⟨n, C, As, ρ, τ, Same.refl _, R, h1⟩, ?_⟩
  rintro m σ' H' ⟨C', As', ρ', τ', e', R', q'⟩
  cases m with
  | zero => exact q'.elim
  | succ m =>
    have q2 : t ρ' τ' (fun b τ1 => if b = true then g ρ' τ1 { De with nx := fun ρ2 τ2 => loopW t g m ρ2 τ2 De } else De.nx ρ' τ1) G.err := by rw [← her]; exact q'
    refine ⟨C', As', ρ', τ', _, R', q2, fun C1 H1 b τ1 s1 R1 q1 => ?_⟩
    cases b with
    | true =>
      refine iteT ⟨fun σ2 H2 => ∃ C' As' ρ' τ', Same C C' ∧ Rel G C' As' ρ' τ' σ2 H2 ∧ loopW t g m ρ' τ' De, fun σ2 H2 z => ⟨m, Nat.lt_succ_self _, z⟩, ?_⟩
      exact ⟨C1, As', ρ', τ1, _, R1, q1, her, fun C4 As4 ρ4 τ4 σ4 H4 s4 R4 q4 => ⟨C4, As4, ρ4, τ4, (e'.trans s1.ex).trans s4, R4, q4⟩, kr⟩
    | false => exact iteF (kn C1 As' ρ' τ1 σ' H1 (e'.trans s1.ex) R1 q1)

/-! ### a list that is changed -/
theorem RsOk.ne {mg : Str → Option Value} {C H : Hp} {p D : Addr} {r : RS} {xs : List V} {o : HO} (h : RsOk mg C H p r) (n : p ≠ D) (hD : H D = some (.lst xs)) : RsOk mg C (upd H D o) p r := by
  have k : ∀ a u, H a = some u → (∀ ys, u ≠ .lst ys) → upd H D o a = some u := fun a u h1 h2 => by
    by_cases q : a = D
    · rw [q, hD] at h1; cases h1; exact absurd rfl (h2 xs)
    · rw [upd_ne q]; exact h1
  cases r with
  | gone => trivial
  | dice => obtain ⟨a, b, h1⟩ := h; exact ⟨a, b, by rw [upd_ne n]; exact h1⟩
  | lst ds => obtain ⟨vs, h1, h2⟩ := h; exact ⟨vs, by rw [upd_ne n]; exact h1, h2⟩
  | tab q =>
    obtain ⟨ps, h1, h2, h3⟩ := h
    refine ⟨ps, k _ _ h1 (fun _ z => nomatch z), h2, fun pos cv hc => ?_⟩
    obtain ⟨c, e1, e2⟩ := h3 pos cv hc
    exact ⟨c, e1, k _ _ e2 (fun ys z => by unfold LamX.CodeO at z; cases z)⟩
  | bri fs => obtain ⟨CB, dx, vs, g, h1, h2⟩ := h; exact ⟨CB, dx, vs, g, by rw [upd_ne n]; exact h1, h2⟩
theorem upd_there {H : Hp} {D : Addr} {o u : HO} (hD : H D = some u) : ∀ a, H a ≠ none → upd H D o a ≠ none := fun a h => by
  by_cases q : a = D
  · rw [q, upd_same]; exact fun z => nomatch z
  · rw [upd_ne q]; exact h
theorem Base.other {mg : Str → Option Value} {As : List Addr} {C H : Hp} {τ : Rs} {D : Addr} {xs : List V} {o : HO} (b : Base mg As C τ H) (hD : H D = some (.lst xs)) (nD : D ∉ As) (cD : C D = none) : Base mg As C τ (upd H D o) :=
  ⟨fun a u h => by rw [upd_ne (ne_of_none h cD)]; exact b.core _ _ h, b.nd, b.len, fun p hp => ⟨(b.off p hp).1, upd_there hD p (b.off p hp).2⟩,
   fun k p r h1 h2 => (b.rs k p r h1 h2).ne (fun z => nD (by rw [← z]; exact List.mem_of_getElem? h1)) hD, b.sz⟩
/-- a resource's list is changed -/
theorem Base.set {mg : Str → Option Value} {As : List Addr} {C H : Hp} {τ : Rs} {p : Addr} {k : Nat} {xs : List V} {o : HO} {r : RS} (b : Base mg As C τ H) (hp : As[k]? = some p) (hD : H p = some (.lst xs)) (hr : RsOk mg C (upd H p o) p r) : Base mg As C (τ.set k r) (upd H p o) := by
  have mp : p ∈ As := List.mem_of_getElem? hp
  have kl : k < τ.length := by rw [← b.len]; exact (List.getElem?_eq_some_iff.mp hp).1
  refine ⟨fun a u h => by rw [upd_ne (ne_of_none h (b.off p mp).1)]; exact b.core _ _ h, b.nd, by rw [List.length_set]; exact b.len, fun q hq => ⟨(b.off q hq).1, upd_there hD q (b.off q hq).2⟩, fun j q s h1 h2 => ?_, b.sz⟩
  by_cases e : k = j
  · subst e
    rw [hp] at h1
    cases h1
    rw [List.getElem?_set_self kl] at h2
    cases h2
    exact hr
  · rw [List.getElem?_set_ne e] at h2
    refine (b.rs j q s h1 h2).ne (fun z => ?_) hD
    subst z
    obtain ⟨l1, e1⟩ := List.getElem?_eq_some_iff.mp hp
    obtain ⟨l2, e2⟩ := List.getElem?_eq_some_iff.mp h1
    exact e ((List.getElem_inj b.nd).mp (e1.trans e2.symm))
theorem Step.upd {As : List Addr} {C H : Hp} {D : Addr} {o u : HO} (hD : H D = some u) (m : D ∈ As) : Step As C H C (upd H D o) :=
  ⟨Same.refl _, fun a u h n => by rw [upd_ne (fun z => n (by rw [z]; exact m))]; exact h, upd_there hD, fun _ _ n => n⟩

/-! ### comprehensions -/
def wipeD (ρ : Ds) : List Nat → Ds
  | [] => ρ
  | v :: vs => (wipeD ρ vs).set v .un
theorem wipeD_length (ρ : Ds) : ∀ vs : List Nat, (wipeD ρ vs).length = ρ.length
  | [] => rfl
  | v :: vs => by unfold wipeD; rw [List.length_set, wipeD_length ρ vs]
theorem wipe_out' {σ : L2.St} {i : Nat} : ∀ {vs : List Nat}, i ∉ vs → (wipe σ vs)[i]? = σ[i]?
  | [], _ => rfl
  | v :: vs, h => by
    unfold wipe
    rw [List.getElem?_set_ne (fun z => h (by rw [z]; exact List.mem_cons_self)), wipe_out' fun z => h (List.mem_cons_of_mem _ z)]
theorem wipe_in' {σ : L2.St} {i : Nat} : ∀ {vs : List Nat}, i ∈ vs → i < σ.length → (wipe σ vs)[i]? = some none
  | v :: vs, h, hl => by
    unfold wipe
    by_cases e : v = i
    · subst e
      rw [List.getElem?_set_self (by rw [wipe_length]; exact hl)]
    · rw [List.getElem?_set_ne e]
      rcases List.mem_cons.mp h with z | z
      · exact absurd z.symm e
      · exact wipe_in' z hl
theorem wipe_eq {σ σ2 : L2.St} {vs : List Nat} (hl : σ2.length = σ.length) (h : ∀ i : Nat, i ∉ vs → σ2[i]? = (wipe σ vs)[i]?) : wipe σ2 vs = wipe σ vs := by
  apply List.ext_getElem?
  intro i
  by_cases hi : i ∈ vs
  · by_cases hn : i < σ.length
    · rw [wipe_in' hi (by rw [hl]; exact hn), wipe_in' hi hn]
    · rw [List.getElem?_eq_none (by rw [wipe_length]; omega), List.getElem?_eq_none (by rw [wipe_length]; omega)]
  · rw [wipe_out' hi]
    exact h i hi
theorem Rel.wipe {C H : Hp} {As : List Addr} {ρ : Ds} {τ : Rs} {σ : L2.St} (R : Rel G C As ρ τ σ H) (vs : List Nat) : Rel G C As (wipeD ρ vs) τ (L2.wipe σ vs) H := by
  refine ⟨R.base, R.step, R.pre, R.new, by rw [wipeD_length, wipe_length, R.len], fun i r hi => ?_⟩
  induction vs generalizing i r with
  | nil => exact R.sl i r hi
  | cons v vs ih =>
    unfold wipeD at hi
    unfold L2.wipe
    by_cases e : v = i
    · subst e
      have hv : v < (wipeD ρ vs).length := by
        have := (List.getElem?_eq_some_iff.mp hi).1
        simpa using this
      rw [List.getElem?_set_self hv] at hi
      cases hi
      trivial
    · rw [List.getElem?_set_ne e] at hi
      rw [List.getElem?_set_ne e]
      exact ih i r hi
def compD (t : Tg) (ft : TDT) (fe : TD) (ρ : Ds) (Q : Sl → Rs → Prop) (er : Str → Rs → Prop) : List PyData → Rs → List PyData → Prop
  | [], τ, acc => Q (.da (.list acc)) τ
  | d :: ds, τ, acc => t d ρ fun ρ1 => ft ρ1 τ (fun b τ1 => if b = true then fe ρ1 τ1 (fun z τ2 => match z with
      | .da z => compD t ft fe ρ Q er ds τ2 (acc ++ [z])
      | _ => False) er else compD t ft fe ρ Q er ds τ1 acc) er
def dComp (vs : List Nat) (f : TDI) (t : Tg) (ft : TDT) (fe : TD) : TD := fun ρ τ Q er => f ρ τ (fun ds τ1 => compD t ft fe (wipeD ρ vs) Q er ds τ1 []) er
theorem w_lc {vs : List Nat} {f : TDI} {t : Tg} {ft : TDT} {fe : TD} {σ : L2.St} {H : Hp} {Q : VK} (h : tD G (dComp vs f t ft fe) σ H Q) : tLc (iD G f) (gD G vs t) (tDT G ft) (tD G fe) vs σ H Q := by
  obtain ⟨C, As, ρ, τ, Qd, R, hf, k⟩ := h
  refine ⟨C, As, ρ, τ, _, R, hf, fun C1 H1 J ds τ1 s1 R1 it hz q1 D hD => ?_⟩
  have stD : ∀ C' H' o, Step As C1 H1 C' H' → H' D ≠ none → Step As C1 H1 C' (upd H' D o) := fun C' H' o st hd => ⟨st.ex, fun a u h n => by rw [upd_ne (ne_of_none h hD)]; exact st.keep a u h n, fun a h => by
    by_cases q : a = D
    · rw [q, hD] at h; exact absurd rfl h
    · rw [upd_ne q]; exact st.there a h, st.out⟩
  have st0 : ∀ o, Step As C1 H1 C1 (upd H1 D o) := fun o => ⟨Same.refl _, fun a u h _ => by rw [upd_ne (ne_of_none h hD)]; exact h, fun a h => by
    by_cases q : a = D
    · rw [q, hD] at h; exact absurd rfl h
    · rw [upd_ne q]; exact h, fun _ _ n => n⟩
  have cD : C1 D = none := by
    cases q : C1 D with
    | none => rfl
    | some u => rw [R1.base.core _ _ q] at hD; cases hD
  have nD : D ∉ As := fun z => (R1.base.off D z).2 hD
  refine ⟨fun i m H' => m = ds.length - i ∧ i ≤ ds.length ∧ ∃ C' τ' acc vs', Step As C1 H1 C' H' ∧ C' D = none ∧ Base G.mg As C' τ' H' ∧ H' D = some (.lst vs') ∧ DvA C' acc vs' ∧ acc.length ≤ i ∧ compD t ft fe (wipeD ρ vs) Qd G.err (ds.drop i) τ' acc,
    ⟨_, rfl, Nat.zero_le _, C1, τ1, [], [], st0 _, cD, ?_, upd_same, rfl, Nat.le_refl _, q1⟩, ?_⟩
  · exact R1.base.keep (Same.refl _) (fun a u h => by rw [upd_ne (ne_of_none (R1.base.core _ _ h) hD)]; exact R1.base.core _ _ h) (fun a u h => by rw [upd_ne (ne_of_none h hD)]; exact h) (fun _ _ n => n) R1.base.sz
  rintro i m H' ⟨rfl, hi, C', τ', acc, vs', st', cD', B', hD', dv', hl', q'⟩
  have R' := R1.go st' B'
  by_cases hlt : i < ds.length
  · obtain ⟨d, hd⟩ : ∃ d, ds[i]? = some d := ⟨ds[i], by simp [hlt]⟩
    have ed : ds.drop i = d :: ds.drop (i + 1) := by
      rw [List.drop_eq_getElem_cons hlt]
      congr 1
      have := List.getElem?_eq_getElem hlt
      rw [this] at hd
      exact Option.some.inj hd
    rw [ed] at q'
    obtain ⟨go, yl⟩ := it.go i H' d (st'.ex.trans R'.base.core) hd
    refine .inr ⟨go, fun H2 => ∃ C' τ' acc vs', Step As C1 H1 C' H2 ∧ C' D = none ∧ Base G.mg As C' τ' H2 ∧ H2 D = some (.lst vs') ∧ DvA C' acc vs' ∧ acc.length ≤ i + 1 ∧ compD t ft fe (wipeD ρ vs) Qd G.err (ds.drop (i + 1)) τ' acc,
      fun H2 z => ⟨ds.length - (i + 1), by omega, rfl, hlt, z⟩, fun x H2 hy => ?_⟩
    obtain ⟨C2, st2, R2, dv2⟩ := R'.itStep st'.ex (yl x H2 hy)
    have hD2 : H2 D = some (.lst vs') := st2.keep _ _ hD' nD
    have cD2 : C2 D = none := st2.out D (by rw [hD']; exact fun z => nomatch z) cD'
    refine ⟨C2, As, wipeD ρ vs, τ', d, _, R2.wipe vs, dv2, q', fun ρ3 σ3 R3 z3 q3 => ⟨wipe_eq (by rw [z3.1, wipe_length]) z3.2, ?_⟩⟩
    refine ⟨C2, As, ρ3, τ', _, R3, q3, fun C4 H4 b τ4 s4 R4 q4 => ?_⟩
    have hD4 : H4 D = some (.lst vs') := s4.keep _ _ hD2 nD
    have cD4 : C4 D = none := s4.out D (by rw [hD2]; exact fun z => nomatch z) cD2
    cases b with
    | true =>
      refine iteT ⟨C4, As, ρ3, τ4, _, R4, q4, fun C5 H5 v z τ5 s5 R5 d5 q5 => ?_⟩
      match z, d5, q5 with
      | .da z, d5, q5 =>
        have hD5 : H5 D = some (.lst vs') := s5.keep _ _ hD4 nD
        have cD5 : C5 D = none := s5.out D (by rw [hD4]; exact fun z => nomatch z) cD4
        have dv5 : DvA C5 acc vs' := ((dv'.mono st2.ex).mono s4.ex).mono s5.ex
        refine ⟨vs', hD5, by rw [dv5.length]; omega, ?_⟩
        exact ⟨C5, τ5, acc ++ [z], vs' ++ [v], stD _ _ _ (((st'.trans st2).trans s4).trans s5) (by rw [hD5]; exact fun z => nomatch z), cD5, R5.base.other hD5 nD cD5, upd_same, dv5.append (DvA.one (VOk.dv d5)), by simp; omega, q5⟩
    | false =>
      exact iteF ⟨C4, τ4, acc, vs', ((st'.trans st2).trans s4), cD4, R4.base, hD4, (dv'.mono st2.ex).mono s4.ex, by omega, q4⟩
  · have hl : i = ds.length := by omega
    subst hl
    rw [List.drop_length] at q'
    refine .inl ⟨it.stop _ _ (st'.ex.trans R'.base.core) (Nat.le_refl _), ?_⟩
    -- the new list is data from now on
    have sz : SzO (.lst vs') := by
      show vs'.length ≤ sizeLine
      rw [dv'.length]; omega
    have eC : Same C' (L2.upd C' D (.lst vs')) := fun a u h => by rw [upd_ne (ne_of_none h cD')]; exact h
    have stf : Step As C1 H1 (L2.upd C' D (.lst vs')) H' := ⟨st'.ex.trans eC, st'.keep, st'.there, fun a h n => by
      have nn : a ≠ D := fun z => h (by rw [z]; exact hD)
      rw [upd_ne nn]
      exact st'.out a h n⟩
    have bf : Base G.mg As (L2.upd C' D (.lst vs')) τ' H' := ⟨fun a u h => by
        by_cases z : a = D
        · rw [z, upd_same] at h; rw [z, hD']; exact h
        · rw [upd_ne z] at h; exact B'.core _ _ h, B'.nd, B'.len, fun p hp => ⟨by rw [upd_ne (fun z => nD (by rw [← z]; exact hp))]; exact (B'.off p hp).1, (B'.off p hp).2⟩, fun j p r h1 h2 => (B'.rs j p r h1 h2).keep eC (fun _ _ h => h), fun a u h => by
        by_cases z : a = D
        · rw [z, upd_same] at h; cases h; exact sz
        · rw [upd_ne z] at h; exact B'.sz _ _ h⟩
    exact k _ _ _ (.da (.list acc)) τ' (s1.trans stf) (R1.go stf bf) ⟨_, rfl, D, vs', rfl, upd_same, dv'.mono eC⟩ q'
/-- [elt for target in iter if ..] -/
theorem d_comp {own : List (Str × Nat)} {elt tg iter : Expr} {ifs : List Expr} {scope : Scope} {f : TDI} {t : Tg} {ft : TDT} {fe : TD} (hc : X.calm = true) (hN : X.N.Nodup) (hi : PI X tg iter (iD G f)) (ok : BlkOk X.N X.env.scope scope own)
    (hg : ∀ (s : Shared) (H : Hp) (C : Addr) (cl : List (Str × Addr)) (fp : List Addr), PG (X.blk s H scope (compEnvC scope cl C X.env) fp) tg (gD G (own.map (·.2)) t)) (ht : ∀ (s : Shared) (H : Hp) (C : Addr) (cl : List (Str × Addr)) (fp : List Addr), PTs (X.blk s H scope (compEnvC scope cl C X.env) fp) ifs (tDT G ft))
    (he : ∀ (s : Shared) (H : Hp) (C : Addr) (cl : List (Str × Addr)) (fp : List Addr), PE (X.blk s H scope (compEnvC scope cl C X.env) fp) elt (tD G fe)) (hs : ∀ x, foldedSetIterable iter X.env x = pure x := by intro _; rfl) :
    PE X (.ListComp elt [⟨tg, iter, ifs, 0⟩] scope pos) (tD G (dComp (own.map (·.2)) f t ft fe)) := pe_weak (pe_lc hc hN hi ok hg ht he hs) fun _ _ _ h => w_lc h
/-- name = [..] -/
theorem s_setLc {own : List (Str × Nat)} {i : Nat} {y : Str} {py : Pos} {elt tg iter : Expr} {ifs : List Expr} {scope : Scope} {spos : Pos} {f : TDI} {t : Tg} {ft : TDT} {fe : TD} (hc : X.calm = true) (hN : X.N.Nodup) (hy : X.N[i]? = some y) (hyl : X.env.scope.names.lookup y = some .local)
    (hsw : swapsWith (.ListComp elt [⟨tg, iter, ifs, 0⟩] scope pos) (some (.Name y py)) spos.line X.env = pure true) (hi : PI X tg iter (iD G f)) (ok : BlkOk X.N X.env.scope scope own)
    (hg : ∀ (s : Shared) (H : Hp) (C : Addr) (cl : List (Str × Addr)) (fp : List Addr), PG (X.blk s H scope (compEnvC scope cl C X.env) fp) tg (gD G (own.map (·.2)) t)) (ht : ∀ (s : Shared) (H : Hp) (C : Addr) (cl : List (Str × Addr)) (fp : List Addr), PTs (X.blk s H scope (compEnvC scope cl C X.env) fp) ifs (tDT G ft))
    (he : ∀ (s : Shared) (H : Hp) (C : Addr) (cl : List (Str × Addr)) (fp : List Addr), PE (X.blk s H scope (compEnvC scope cl C X.env) fp) elt (tD G fe)) (hs : ∀ x, foldedSetIterable iter X.env x = pure x := by intro _; rfl) :
    PS X (.Assign [.Name y py] (.ListComp elt [⟨tg, iter, ifs, 0⟩] scope pos) spos) (sD G (dSet i (dComp (own.map (·.2)) f t ft fe))) := ps_weak (ps_setLc hc hN hy hyl hsw hi ok hg ht he hs) fun D σ H h => by
  have h2 := w_set h
  exact w_lc h2
def dYes : TDT := fun _ τ Q _ => Q true τ
theorem ts_nil : PTs X [] (tDT G dYes) := ⟨fun pins s σ H Q I h => by
  obtain ⟨C, As, ρ, τ, Qd, R, hf, k⟩ := h
  exact pts_nil.run pins s σ H Q I (k C H true τ (Step.refl _ _ _) R hf)⟩
theorem ts_one {c : Expr} (h : PT X c (tDT G t)) : PTs X [c] (tDT G t) := pts_one h
end

/-! ### a def -/
def startD (N : List Str) (as : List Sl) : Ds := as ++ List.replicate (N.length - as.length) .un
section
variable {P : Program} {w : World} {K : PySem.W.Frag} {mg : Str → Option Value} {base : Heap}
theorem argOk_at {C : Hp} {As : List Addr} : ∀ {vs : List V} {as : List Sl} {i : Nat} {r : Sl}, ArgOk C As vs as → as[i]? = some r → ∃ v, vs[i]? = some v ∧ VOk C As v r
  | _, _, i, r, .nil, h => by simp at h
  | _, _, 0, r, .cons h1 _, h => by simp at h; subst h; exact ⟨_, rfl, h1⟩
  | _, _, i + 1, r, .cons _ t, h => by
    obtain ⟨v, e1, e2⟩ := argOk_at (i := i) (r := r) t (by simpa using h)
    exact ⟨v, by simpa using e1, e2⟩
theorem fn_mk {y x : Str} {st : Stmt} {f : Addr} {fd : FuncData} {N ps : List Str} {k n0 : Nat} {F : Fn} {body : TDS} (Fu : Fun K x x st f fd) (hm : mg y = some (.ref f)) (hb : Binds K fd ps []) (S : FnScope N ps (defScope st)) (hN : ps.length ≤ N.length)
    (len : ∀ as τ Qa Er, F as τ Qa Er → as.length = ps.length) (hn0 : ∀ as τ Qa Er, F as τ Qa Er → τ.length = n0)
    (der : ∀ (cdv : Value) (A : Around) (outer : List Env) (s : Shared) (H : Hp) (E : XK) (G : Gx), G.mg = mg → G.E = E → G.As0.length = n0 → Room k (A.deeper (envOfC x (defScope st) s.heap.objs.size f cdv)) →
      PSs (cxOf (L2N.CX P w) P w K mg base N x (defScope st) f cdv A outer s H E) (defBody st) (sD G body))
    (wp : ∀ as τ Qa Er, F as τ Qa Er → body (startD N as) τ { nx := fun _ τ' => Qa .none (τ'.take τ.length), rt := fun d τ' => Qa d (τ'.take τ.length), er := fun n τ' => Er n (τ'.take τ.length) }) : Dfn P w K mg base y (k + 1) ps F := by
  obtain ⟨oc, od, kV, doc, pm, an, cdv, ct, osl, rfl, lk, hcd⟩ := Fu.ex
  refine ⟨f, _, hm, Fu.kp, hb, fn_of lk hcd S (fun vs H Q E h => ?_) (fun A outer s H vs Q E hr h => ?_)⟩
  · obtain ⟨C, As, as, τ, Qa, Er, b, ha, hF, kq, ke⟩ := h
    rw [ha.length]
    exact len _ _ _ _ hF
  · obtain ⟨C, As, as, τ, Qa, Er, b, ha, hF, kq, ke⟩ := h
    let G : Gx := ⟨mg, C, H, As, E, Er, fun n Cn C' H' τ' h1 h2 h3 h4 => ke n Cn C' H' τ' h1 h2 h3 h4⟩
    refine ⟨_, der cdv A outer s H E G rfl rfl (by show As.length = n0; rw [b.len]; exact hn0 _ _ _ _ hF) hr, ?_⟩
    have hl : as.length = ps.length := len _ _ _ _ hF
    have hs : (startD N as).length = N.length := by simp [startD]; omega
    refine ⟨C, As, startD N as, τ, _, ⟨b, Step.refl _ _ _, List.prefix_refl _, fun p hp => .inl hp, ?_, fun i r hi => ?_⟩, wp as τ Qa Er hF, ?_, ?_, ?_⟩
    · rw [hs]; simp [L2.start]; have := ha.length; omega
    · unfold startD at hi
      by_cases h1 : i < as.length
      · rw [List.getElem?_append_left h1] at hi
        obtain ⟨v, e1, e2⟩ := argOk_at ha hi
        unfold L2.start
        rw [List.getElem?_append_left (by rw [List.length_map, ha.length]; exact h1), List.getElem?_map, e1]
        exact e2
      · rw [List.getElem?_append_right (by omega)] at hi
        have := List.getElem?_replicate (n := N.length - as.length) (a := Sl.un) (i := i - as.length)
        rw [this] at hi
        split at hi
        · cases hi; trivial
        · cases hi
    · funext n τ'
      show Er n (τ'.take τ.length) = Er n (τ'.take As.length)
      rw [b.len]
    · intro C' As' ρ' τ' σ' H' e' R' q'
      have e2 : τ.length = G.As0.length := b.len.symm
      have q2 : Qa .none (τ'.take G.As0.length) := by rw [← e2]; exact q'
      exact kq C' H' .non .none _ R'.step R'.take rfl q2
    · intro C' H' v d τ' s' b' d' q'
      have e2 : τ.length = G.As0.length := b.len.symm
      have q2 : Qa d (τ'.take G.As0.length) := by rw [← e2]; exact q'
      exact kq C' H' v d _ s' b' d' q2
/-! ### a def over data alone -/
abbrev Pf := List PyData → (PyData → Prop) → (Str → Prop) → Prop
def toFn (φ : Pf) : Fn := fun as τ Qa Er => τ = [] ∧ ∃ ds, as = ds.map Sl.da ∧ φ ds (fun d => Qa d []) (fun n => Er n [])
theorem das_eq : ∀ {as : List Sl} {ds : List PyData}, das as = some ds → as = ds.map Sl.da
  | [], _, h => by cases h; rfl
  | .un :: _, _, h => by cases h
  | .res _ :: _, _, h => by cases h
  | .da d :: r, ds, h => by
    unfold das at h
    cases q : das r with
    | none => rw [q] at h; cases h
    | some es =>
      rw [q] at h
      cases h
      rw [das_eq q]
      rfl
theorem fnP_mk {y x : Str} {st : Stmt} {f : Addr} {fd : FuncData} {N ps : List Str} {k : Nat} {φ : Pf} {body : TDS} (Fu : Fun K x x st f fd) (hm : mg y = some (.ref f)) (hb : Binds K fd ps []) (S : FnScope N ps (defScope st)) (hN : ps.length ≤ N.length)
    (len : ∀ ds Qa Er, φ ds Qa Er → ds.length = ps.length)
    (der : ∀ (cdv : Value) (A : Around) (outer : List Env) (s : Shared) (H : Hp) (E : XK) (G : Gx), G.mg = mg → G.E = E → G.As0.length = 0 → Room k (A.deeper (envOfC x (defScope st) s.heap.objs.size f cdv)) →
      PSs (cxOf (L2N.CX P w) P w K mg base N x (defScope st) f cdv A outer s H E) (defBody st) (sD G body))
    (wp : ∀ ds Qa Er, φ ds Qa Er → body (startD N (ds.map Sl.da)) [] { nx := fun _ _ => Qa .none, rt := fun d _ => Qa d, er := fun n _ => Er n }) : Dfn P w K mg base y (k + 1) ps (toFn φ) := by
  refine fn_mk (n0 := 0) Fu hm hb S hN (fun as τ Qa Er h => ?_) (fun as τ Qa Er h => ?_) der (fun as τ Qa Er h => ?_)
  · obtain ⟨_, ds, rfl, h⟩ := h
    rw [List.length_map]
    exact len _ _ _ h
  · rw [h.1]; rfl
  · obtain ⟨rfl, ds, rfl, h⟩ := h
    have := wp ds _ _ h
    simpa using this
end
section
variable {X : Cx} {G : Gx} {e : Expr} {es : List Expr} {pos p : Pos} {k n : Nat} {ps : List Str} {φ : Pf} {x : Str} {g : TDA}
def dCallP (φ : Pf) (g : TDA) : TD := fun ρ τ Q er => g ρ τ (fun xs τ1 => match das xs with
  | some ds => φ ds (fun d => Q (.da d) τ1) (fun n => er n τ1)
  | none => False) er
def dCallPN (φ : Pf) (g : TDA) : TD := fun ρ τ Q er => g ρ τ (fun xs τ1 => match das xs with
  | some ds => φ ds (fun d => Q (.da d) τ1) (fun n => False)
  | none => False) er
theorem Base.nil {mg : Str → Option Value} {As : List Addr} {C H : Hp} {τ : Rs} (b : Base mg As C τ H) : Base mg [] C [] H := ⟨b.core, List.nodup_nil, rfl, (fun p hp => nomatch hp), (fun k p r h => nomatch (show (none : Option Addr) = some p from h)), b.sz⟩
theorem step_of_nil {As : List Addr} {C H C' H' : Hp} (s : Step [] C H C' H') : Step As C H C' H' := ⟨s.ex, fun a o h _ => s.keep a o h (by simp), s.there, s.out⟩
theorem base_of_nil {mg : Str → Option Value} {As : List Addr} {C H C' H' : Hp} {τ : Rs} (b : Base mg As C τ H) (s : Step [] C H C' H') (b' : Base mg [] C' [] H') : Base mg As C' τ H' := b.keep s.ex b'.core (fun a o h => s.keep a o h (by simp)) s.out b'.sz
theorem argOk_data {C : Hp} : ∀ {ds : List PyData} {vs : List V}, DvA C ds vs → ArgOk C [] vs (ds.map Sl.da)
  | [], _, h => by cases h; exact .nil
  | d :: ds, _, ⟨v, ws, h1, h2, h3⟩ => by cases h1; exact .cons ⟨v, rfl, h2⟩ (argOk_data h3)
theorem w_callP {σ : L2.St} {H : Hp} {Q : VK} (h : tD G (dCallP φ g) σ H Q) : tCall (spA G.mg (toFn φ)) [] G.E (tDA G n g) σ H Q := by
  obtain ⟨C, As, ρ, τ, Qd, R, hf, k⟩ := h
  refine ⟨C, As, ρ, τ, _, R, hf, fun C1 H1 vs as τ1 s1 R1 d1 e1 q1 => ?_⟩
  show spA G.mg (toFn φ) (vs ++ []) H1 Q G.E
  rw [List.append_nil]
  cases q : das as with
  | none => rw [q] at q1; exact q1.elim
  | some ds =>
    rw [q] at q1
    refine ⟨C1, [], ds.map Sl.da, [], fun d _ => Qd (.da d) τ1, fun n _ => G.err n τ1, R1.base.nil, argOk_data (d1.das q), ⟨rfl, ds, rfl, q1⟩, fun C2 H2 v d τ2 s2 b2 d2 q2 => ?_, fun m Cn C2 H2 τ2 hm s2 b2 q2 => ?_⟩
    · have e : τ2 = [] := List.length_eq_zero_iff.mp b2.len.symm
      subst e
      exact k C2 H2 v (.da d) τ1 (s1.trans (step_of_nil s2)) (R1.go (step_of_nil s2) (base_of_nil R1.base s2 b2)) ⟨v, rfl, d2⟩ q2
    · have e : τ2 = [] := List.length_eq_zero_iff.mp b2.len.symm
      subst e
      have R2 := R1.go (step_of_nil s2) (base_of_nil R1.base s2 b2)
      exact G.eok m Cn C2 H2 _ hm R2.step R2.take q2
theorem w_callPN {σ : L2.St} {H : Hp} {Q : VK} (h : tD G (dCallPN φ g) σ H Q) : tCall (spA G.mg (toFn φ)) [] E0 (tDA G n g) σ H Q := by
  obtain ⟨C, As, ρ, τ, Qd, R, hf, k⟩ := h
  refine ⟨C, As, ρ, τ, _, R, hf, fun C1 H1 vs as τ1 s1 R1 d1 e1 q1 => ?_⟩
  show spA G.mg (toFn φ) (vs ++ []) H1 Q E0
  rw [List.append_nil]
  cases q : das as with
  | none => rw [q] at q1; exact q1.elim
  | some ds =>
    rw [q] at q1
    refine ⟨C1, [], ds.map Sl.da, [], fun d _ => Qd (.da d) τ1, fun n _ => False, R1.base.nil, argOk_data (d1.das q), ⟨rfl, ds, rfl, q1⟩, fun C2 H2 v d τ2 s2 b2 d2 q2 => ?_, fun m Cn C2 H2 τ2 hm s2 b2 q2 => q2⟩
    have e : τ2 = [] := List.length_eq_zero_iff.mp b2.len.symm
    subst e
    exact k C2 H2 v (.da d) τ1 (s1.trans (step_of_nil s2)) (R1.go (step_of_nil s2) (base_of_nil R1.base s2 b2)) ⟨v, rfl, d2⟩ q2
theorem d_callP (D : Dfn X.prog X.w X.K X.mg X.base x k ps (toFn φ)) (hr : Room k X.A) (hG : G.mg = X.mg) (hx : Passes (L2N.CX X.prog X.w) X G.E) (hg : Gl X x)
    (ha : PA X (e :: es) (tDA G n g)) (hdb : (x == ("__debug__" : Str)) = false := by decide) (he : starEach (e :: es) X.env = (false, eval e X.env) :: starEach es X.env := by rfl) (hpl : (backTo pos (starEach es X.env)).any (·.1) = false := by rfl) :
    PE X (.Call (.Name x p) (e :: es) [] pos) (tD G (dCallP φ g)) := by
  obtain ⟨f, fd, hm, hk, hb, FF⟩ := D.ex
  exact pe_weak (pe_call FF hr hg hm hk hb .nil hx ha hdb he hpl) fun _ _ _ h => by rw [← hG]; exact w_callP h
theorem d_callPN (D : Dfn X.prog X.w X.K X.mg X.base x k ps (toFn φ)) (hr : Room k X.A) (hG : G.mg = X.mg) (hg : Gl X x)
    (ha : PA X (e :: es) (tDA G n g)) (hdb : (x == ("__debug__" : Str)) = false := by decide) (he : starEach (e :: es) X.env = (false, eval e X.env) :: starEach es X.env := by rfl) (hpl : (backTo pos (starEach es X.env)).any (·.1) = false := by rfl) :
    PE X (.Call (.Name x p) (e :: es) [] pos) (tD G (dCallPN φ g)) := by
  obtain ⟨f, fd, hm, hk, hb, FF⟩ := D.ex
  exact pe_weak (pe_call FF hr hg hm hk hb .nil passN ha hdb he hpl) fun _ _ _ h => by rw [← hG]; exact w_callPN h
end
end DL
namespace DL
open PySem PySem.Spec PyProof.Rows L2
section
variable {X : Cx} {G : Gx} {e a b c : Expr} {es : List Expr} {f fa fb fc : TD} {pos : Pos}

/-! ### ints -/
def oI (g : Int → Int → PyData) : Op2 := fun x y _ Q => match x, y with
  | .da (.int i), .da (.int j) => Q (g i j)
  | _, _ => False
def oIC (c : Int → Int → Prop) (g : Int → Int → PyData) : Op2 := fun x y _ Q => match x, y with
  | .da (.int i), .da (.int j) => c i j ∧ Q (g i j)
  | _, _ => False
theorem ok_I {g : Int → Int → PyData} {gv : Int → Int → V} (h : ∀ i j C, Dv C (g i j) (gv i j)) : OkR (rI0 gv) (oI g) := fun {mg As C H τ x y vx vy Q Qd} b hx hy o k => by
  match x, y, hx, hy, o with
  | .da (.int i), .da (.int j), hx, hy, o => exact ⟨i, j, VOk.dv hx, VOk.dv hy, k C H _ _ (Step.refl _ _ _) b (h i j C) o⟩
theorem ok_IC {cc : Int → Int → Prop} {g : Int → Int → PyData} {gv : Int → Int → V} (h : ∀ i j C, Dv C (g i j) (gv i j)) : OkR (rI cc gv) (oIC cc g) := fun {mg As C H τ x y vx vy Q Qd} b hx hy o k => by
  match x, y, hx, hy, o with
  | .da (.int i), .da (.int j), hx, hy, ⟨hc, o⟩ => exact ⟨i, j, VOk.dv hx, VOk.dv hy, hc, k C H _ _ (Step.refl _ _ _) b (h i j C) o⟩
def oAdd : Op2 := oI fun i j => .int (i + j)
def oSub : Op2 := oI fun i j => .int (i - j)
def oMul : Op2 := oIC CMul fun i j => .int (i * j)
def oMulW : Op2 := oIC CMulW fun i j => .int (i * j)
def oDiv : Op2 := oIC CDiv fun i j => .int (i / j)
def oDivW : Op2 := oIC CDivW fun i j => .int (i / j)
def oMod : Op2 := oIC (fun _ j => 0 < j) fun i j => .int (i % j)
def oPow : Op2 := oIC CPow fun i j => .int (i ^ j.toNat)
def oLt : Op2 := oI fun i j => .bool (decide (i < j))
def oLe : Op2 := oI fun i j => .bool (decide (i ≤ j))
def oGt : Op2 := oI fun i j => .bool (decide (j < i))
def oGe : Op2 := oI fun i j => .bool (decide (j ≤ i))
variable (ha : PE X a (tD G fa)) (hb : PE X b (tD G fb)) (hc : PE X c (tD G fc))
include ha hb
theorem d_add : PE X (.BinOp a .Add b pos) (tD G (dBin oAdd fa fb)) := d_bin op_add (ok_I (by intros; rfl)) ha hb
theorem d_sub : PE X (.BinOp a .Sub b pos) (tD G (dBin oSub fa fb)) := d_bin op_sub (ok_I (by intros; rfl)) ha hb
theorem d_mul : PE X (.BinOp a .Mult b pos) (tD G (dBin oMul fa fb)) := d_bin op_mul (ok_IC (by intros; rfl)) ha hb
theorem d_mulW : PE X (.BinOp a .Mult b pos) (tD G (dBin oMulW fa fb)) := d_bin op_mulW (ok_IC (by intros; rfl)) ha hb
theorem d_div : PE X (.BinOp a .FloorDiv b pos) (tD G (dBin oDiv fa fb)) := d_bin op_fdiv (ok_IC (by intros; rfl)) ha hb
theorem d_divW : PE X (.BinOp a .FloorDiv b pos) (tD G (dBin oDivW fa fb)) := d_bin op_fdivW (ok_IC (by intros; rfl)) ha hb
theorem d_mod : PE X (.BinOp a .Mod b pos) (tD G (dBin oMod fa fb)) := d_bin op_mod (ok_IC (by intros; rfl)) ha hb
theorem d_pow : PE X (.BinOp a .Pow b pos) (tD G (dBin oPow fa fb)) := d_bin op_pow (ok_IC (by intros; rfl)) ha hb
theorem d_lt : PE X (.Compare a [.Lt] [b] pos) (tD G (dBin oLt fa fb)) := d_cmp op_lt (ok_I (by intros; rfl)) ha hb (nomark _)
theorem d_le : PE X (.Compare a [.LtE] [b] pos) (tD G (dBin oLe fa fb)) := d_cmp op_le (ok_I (by intros; rfl)) ha hb (nomark _)
theorem d_gt : PE X (.Compare a [.Gt] [b] pos) (tD G (dBin oGt fa fb)) := d_cmp op_gt (ok_I (by intros; rfl)) ha hb (nomark _)
theorem d_ge : PE X (.Compare a [.GtE] [b] pos) (tD G (dBin oGe fa fb)) := d_cmp op_ge (ok_I (by intros; rfl)) ha hb (nomark _)
theorem t_lt : PT X (.Compare a [.Lt] [b] pos) (tDT G (dB (dBin oLt fa fb))) := d_tcmp op_lt (ok_I (by intros; rfl)) ha hb (nomark _)
theorem t_le : PT X (.Compare a [.LtE] [b] pos) (tDT G (dB (dBin oLe fa fb))) := d_tcmp op_le (ok_I (by intros; rfl)) ha hb (nomark _)
theorem t_gt : PT X (.Compare a [.Gt] [b] pos) (tDT G (dB (dBin oGt fa fb))) := d_tcmp op_gt (ok_I (by intros; rfl)) ha hb (nomark _)
theorem t_ge : PT X (.Compare a [.GtE] [b] pos) (tDT G (dB (dBin oGe fa fb))) := d_tcmp op_ge (ok_I (by intros; rfl)) ha hb (nomark _)
include hc
theorem d_lele (hm : lastMarks [.LtE, .LtE] [b, c] = false := by with_unfolding_all rfl) : PE X (.Compare a [.LtE, .LtE] [b, c] pos) (tD G (dChain oLe oLe fa fb fc)) := d_chain op_le (ok_I (by intros; rfl)) op_le (ok_I (by intros; rfl)) ha hb hc hm
theorem t_lele (hm : lastMarks [.LtE, .LtE] [b, c] = false := by with_unfolding_all rfl) : PT X (.Compare a [.LtE, .LtE] [b, c] pos) (tDT G (dB (dChain oLe oLe fa fb fc))) := d_tchain op_le (ok_I (by intros; rfl)) op_le (ok_I (by intros; rfl)) ha hb hc hm
theorem d_lelt (hm : lastMarks [.LtE, .Lt] [b, c] = false := by with_unfolding_all rfl) : PE X (.Compare a [.LtE, .Lt] [b, c] pos) (tD G (dChain oLe oLt fa fb fc)) := d_chain op_le (ok_I (by intros; rfl)) op_lt (ok_I (by intros; rfl)) ha hb hc hm
theorem t_lelt (hm : lastMarks [.LtE, .Lt] [b, c] = false := by with_unfolding_all rfl) : PT X (.Compare a [.LtE, .Lt] [b, c] pos) (tDT G (dB (dChain oLe oLt fa fb fc))) := d_tchain op_le (ok_I (by intros; rfl)) op_lt (ok_I (by intros; rfl)) ha hb hc hm
theorem t_ltlt (hm : lastMarks [.Lt, .Lt] [b, c] = false := by with_unfolding_all rfl) : PT X (.Compare a [.Lt, .Lt] [b, c] pos) (tDT G (dB (dChain oLt oLt fa fb fc))) := d_tchain op_lt (ok_I (by intros; rfl)) op_lt (ok_I (by intros; rfl)) ha hb hc hm
omit hc hb
def oNeg : TD → TD := fun f ρ τ Q er => f ρ τ (fun x τ1 => match x with
  | .da (.int i) => Q (.da (.int (-i))) τ1
  | _ => False) er
theorem d_neg : PE X (.UnaryOp .USub a pos) (tD G (oNeg fa)) := pe_weak (pe_un un_neg ha) fun σ H Q h => by
  obtain ⟨C, As, ρ, τ, Qd, R, hf, k⟩ := h
  refine ⟨C, As, ρ, τ, _, R, hf, fun C1 H1 v x τ1 s1 R1 d1 q1 => ?_⟩
  match x, d1, q1 with
  | .da (.int i), d1, q1 => exact ⟨i, VOk.dv d1, k C1 H1 _ (.da (.int (-i))) τ1 s1 R1 ⟨_, rfl, rfl⟩ q1⟩
/-! ### None -/
def isNone : Sl → Option Bool
  | .da .none => some true
  | .da (.dict _) => none
  | .da _ => some false
  | _ => none
def dIsN (f : TD) : TD := fun ρ τ Q er => f ρ τ (fun x τ1 => match isNone x with
  | some b => Q (.da (.bool b)) τ1
  | none => False) er
def dNotN (f : TD) : TD := dNot (dIsN f)
omit ha
theorem isNone_ok {C : Hp} {As : List Addr} {v : V} {x : Sl} {b : Bool} (h : VOk C As v x) (q : isNone x = some b) : decide (v = .non) = b := by
  match x, h, q with
  | .da .none, h, q => have e : v = .non := VOk.dv h; subst e; cases q; rfl
  | .da (.bool z), h, q => have e : v = .bl z := VOk.dv h; subst e; cases q; rfl
  | .da (.int z), h, q => have e : v = .int z := VOk.dv h; subst e; cases q; rfl
  | .da (.str z), h, q => have e : v = .str z := VOk.dv h; subst e; cases q; rfl
  | .da (.list z), h, q => obtain ⟨p, vs, e, _⟩ := VOk.dv h; subst e; cases q; rfl
  | .da (.tuple z), h, q => obtain ⟨p, vs, e, _⟩ := VOk.dv h; subst e; cases q; rfl
theorem w_isN {σ : L2.St} {H : Hp} {Q : VK} (h : tD G (dIsN fa) σ H Q) : tIsN (tD G fa) σ H Q := by
  obtain ⟨C, As, ρ, τ, Qd, R, hf, k⟩ := h
  refine ⟨C, As, ρ, τ, _, R, hf, fun C1 H1 v x τ1 s1 R1 d1 q1 => ?_⟩
  cases q : isNone x with
  | none => simp only [q] at q1
  | some b =>
    simp only [q] at q1
    rw [isNone_ok d1 q]
    exact k C1 H1 _ (.da (.bool b)) τ1 s1 R1 ⟨_, rfl, rfl⟩ q1
theorem w_notN {σ : L2.St} {H : Hp} {Q : VK} (h : tD G (dNotN fa) σ H Q) : tNotN (tD G fa) σ H Q := by
  obtain ⟨C, As, ρ, τ, Qd, R, hf, k⟩ := h
  refine ⟨C, As, ρ, τ, _, R, hf, fun C1 H1 v x τ1 s1 R1 d1 q1 => ?_⟩
  cases q : isNone x with
  | none => simp only [q] at q1
  | some b =>
    simp only [q] at q1
    rw [isNone_ok d1 q]
    exact k C1 H1 _ (.da (.bool (!b))) τ1 s1 R1 ⟨_, rfl, rfl⟩ q1
include ha
theorem d_isN {j pos'} : PE X (.Compare a [.Is] [.Constant .none j pos'] pos) (tD G (dIsN fa)) := pe_weak (pe_cmp (pc_isN ha)) fun _ _ _ h => w_isN h
theorem d_notN {j pos'} : PE X (.Compare a [.IsNot] [.Constant .none j pos'] pos) (tD G (dNotN fa)) := pe_weak (pe_cmp (pc_notN ha)) fun _ _ _ h => w_notN h
theorem t_isN {j pos'} : PT X (.Compare a [.Is] [.Constant .none j pos'] pos) (tDT G (dB (dIsN fa))) := pt_weak (pt_cmp (pc_isN ha)) fun _ _ _ h => w_isN (w_B h)
theorem t_notN {j pos'} : PT X (.Compare a [.IsNot] [.Constant .none j pos'] pos) (tDT G (dB (dNotN fa))) := pt_weak (pt_cmp (pc_notN ha)) fun _ _ _ h => w_notN (w_B h)
omit ha
/-! ### == -/
mutual
def shp : Nat → PyData → Bool
  | _, .none => true
  | _, .bool _ => true
  | _, .int _ => true
  | _, .str x => PyData.strOk x
  | 0, .list _ => false
  | 0, .tuple _ => false
  | n + 1, .list ds => shpA n ds
  | n + 1, .tuple ds => shpA n ds
  | _, .dict _ => false
def shpA : Nat → List PyData → Bool
  | _, [] => true
  | n, d :: ds => shp n d && shpA n ds
end
mutual
theorem shp_lay : ∀ {n : Nat} {d : PyData}, shp n d = true → d.canLay0 = true ∧ d.depth ≤ n
  | n, .none, _ => ⟨rfl, by simp [PyData.depth]⟩
  | n, .bool _, _ => ⟨rfl, by simp [PyData.depth]⟩
  | n, .int _, _ => ⟨rfl, by simp [PyData.depth]⟩
  | n, .str x, h => ⟨by simpa [shp, PyData.canLay0] using h, by simp [PyData.depth]⟩
  | 0, .list _, h => by simp [shp] at h
  | 0, .tuple _, h => by simp [shp] at h
  | n + 1, .list ds, h => by
    have ih := shpA_lay (n := n) (ds := ds) (by simpa [shp] using h)
    exact ⟨by simpa [PyData.canLay0] using ih.1, by simp [PyData.depth]; omega⟩
  | n + 1, .tuple ds, h => by
    have ih := shpA_lay (n := n) (ds := ds) (by simpa [shp] using h)
    exact ⟨by simpa [PyData.canLay0] using ih.1, by simp [PyData.depth]; omega⟩
  | n, .dict _, h => by simp [shp] at h
theorem shpA_lay : ∀ {n : Nat} {ds : List PyData}, shpA n ds = true → PyData.canLayAll0 ds = true ∧ PyData.depthAll ds ≤ n
  | n, [], _ => ⟨rfl, by simp [PyData.depthAll]⟩
  | n, d :: ds, h => by
    simp [shpA] at h
    have h1 := shp_lay h.1
    have h2 := shpA_lay h.2
    exact ⟨by simp [PyData.canLayAll0, h1.1, h2.1], by simp [PyData.depthAll]; omega⟩
end
theorem shp_shaped {n : Nat} {d : PyData} (h : shp n d = true) (hn : n ≤ 64) : SeqAt.shaped d = true := by
  have := shp_lay h
  simp [SeqAt.shaped, this.1]
  omega
/-- what a value is as data now -/
def dat (τ : Rs) : Sl → Option PyData
  | .da d => some d
  | .res k => match τ[k]? with
    | some (.lst ds) => some (.list ds)
    | _ => none
  | .un => none
theorem dat_ok {mg : Str → Option Value} {As : List Addr} {C H : Hp} {τ : Rs} {v : V} {x : Sl} {d : PyData} (b : Base mg As C τ H) (h : VOk C As v x) (e : dat τ x = some d) : Dv H d v := by
  cases x with
  | un => cases e
  | da d' => cases e; exact (VOk.dv h).mono b.core
  | res k =>
    obtain ⟨p, e1, e2⟩ := h
    cases e2
    have e : (match τ[k]? with
      | some (RS.lst ds) => some (PyData.list ds)
      | _ => none) = some _ := e
    cases q : τ[k]? with
    | none => rw [q] at e; cases e
    | some r =>
      rw [q] at e
      cases r with
      | lst ds =>
        cases e
        obtain ⟨vs, h1, h2⟩ := b.rs k p _ e1 q
        exact ⟨p, vs, rfl, h1, h2.mono b.core⟩
      | gone => cases e
      | dice => cases e
      | tab _ => cases e
      | bri _ => cases e
def oEq : Op2 := fun x y τ Q => match dat τ x, dat τ y with
  | some d, some e => (shp 60 d = true ∧ shp 60 e = true) ∧ Q (.bool (PyData.eqv d e))
  | _, _ => False
def oNe : Op2 := fun x y τ Q => match dat τ x, dat τ y with
  | some d, some e => (shp 60 d = true ∧ shp 60 e = true) ∧ Q (.bool (!PyData.eqv d e))
  | _, _ => False
theorem ok_eq {K : PySem.W.Frag} : OkR (rEqD K) oEq := fun {mg As C H τ x y vx vy Q Qd} b hx hy o k => by
  unfold oEq at o
  cases q1 : dat τ x with
  | none => rw [q1] at o; exact o.elim
  | some d =>
    cases q2 : dat τ y with
    | none => rw [q1, q2] at o; exact o.elim
    | some e =>
      rw [q1, q2] at o
      exact ⟨d, e, (dat_ok b hx q1).dp, (dat_ok b hy q2).dp, shp_shaped o.1.1 (by decide), shp_shaped o.1.2 (by decide), k C H _ (.bool (PyData.eqv d e)) (Step.refl _ _ _) b rfl o.2⟩
theorem ok_ne {K : PySem.W.Frag} : OkR (rNeD K) oNe := fun {mg As C H τ x y vx vy Q Qd} b hx hy o k => by
  unfold oNe at o
  cases q1 : dat τ x with
  | none => rw [q1] at o; exact o.elim
  | some d =>
    cases q2 : dat τ y with
    | none => rw [q1, q2] at o; exact o.elim
    | some e =>
      rw [q1, q2] at o
      exact ⟨d, e, (dat_ok b hx q1).dp, (dat_ok b hy q2).dp, shp_shaped o.1.1 (by decide), shp_shaped o.1.2 (by decide), k C H _ (.bool (!PyData.eqv d e)) (Step.refl _ _ _) b rfl o.2⟩
variable (hu : X.A.units + 64 < cLine)
include ha hb hu
theorem d_eq : PE X (.Compare a [.Eq] [b] pos) (tD G (dBin oEq fa fb)) := d_cmp (op_eqD hu) ok_eq ha hb (nomark _)
theorem d_ne : PE X (.Compare a [.NotEq] [b] pos) (tD G (dBin oNe fa fb)) := d_cmp (op_neD hu) ok_ne ha hb (nomark _)
theorem t_eq : PT X (.Compare a [.Eq] [b] pos) (tDT G (dB (dBin oEq fa fb))) := d_tcmp (op_eqD hu) ok_eq ha hb (nomark _)
theorem t_ne : PT X (.Compare a [.NotEq] [b] pos) (tDT G (dB (dBin oNe fa fb))) := d_tcmp (op_neD hu) ok_ne ha hb (nomark _)
omit hu ha hb
/-! ### sequences -/
def seqD : PyData → Option (List PyData)
  | .list ds => some ds
  | .tuple ds => some ds
  | _ => none
def seqOf (τ : Rs) (x : Sl) : Option (List PyData) := match dat τ x with
  | some d => seqD d
  | none => none
theorem seqOf_ok {mg : Str → Option Value} {As : List Addr} {C H : Hp} {τ : Rs} {v : V} {x : Sl} {ds : List PyData} (b : Base mg As C τ H) (h : VOk C As v x) (e : seqOf τ x = some ds) :
    ∃ p vs, v = .ref p ∧ (H p = some (.lst vs) ∨ TpO H p vs) ∧ DvA C ds vs := by
  unfold seqOf at e
  cases x with
  | un => cases e
  | da d' =>
    have hd := VOk.dv h
    cases d' with
    | list xs => cases e; obtain ⟨p, vs, e1, e2, e3⟩ := hd; exact ⟨p, vs, e1, .inl (b.core _ _ e2), e3⟩
    | tuple xs => cases e; obtain ⟨p, vs, e1, e2, e3⟩ := hd; exact ⟨p, vs, e1, .inr (e2.mono b.core), e3⟩
    | none => cases e
    | bool _ => cases e
    | int _ => cases e
    | str _ => cases e
    | dict _ => cases e
  | res k =>
    obtain ⟨p, e1, e2⟩ := h
    cases e2
    have e : (match (match τ[k]? with
      | some (RS.lst ds) => some (PyData.list ds)
      | _ => none) with
      | some d => seqD d
      | none => none) = some ds := e
    cases q : τ[k]? with
    | none => rw [q] at e; cases e
    | some r =>
      rw [q] at e
      cases r with
      | lst xs =>
        cases e
        obtain ⟨vs, h1, h2⟩ := b.rs k p _ e1 q
        exact ⟨p, vs, rfl, .inl h1, h2⟩
      | gone => cases e
      | dice => cases e
      | tab _ => cases e
      | bri _ => cases e
theorem sq_or {K : PySem.W.Frag} {H : Hp} {p : Addr} {vs : List V} (h : H p = some (.lst vs) ∨ TpO H p vs) : SqL K H p vs ∨ SqT K H p vs := h.imp SqL.of TpO.sq
/-- flat items -/
def flatD : PyData → Bool
  | .none => true
  | .bool _ => true
  | .int _ => true
  | .str _ => true
  | _ => false
def oIn (neg : Bool) : Op2 := fun x y τ Q => match x, seqOf τ y with
  | .da d, some ds => (flatD d = true ∧ ds.all flatD = true) ∧ Q (.bool (if neg then !(ds.any fun z => PyData.eqv z d) else ds.any fun z => PyData.eqv z d))
  | _, _ => False
theorem flat_ok {C : Hp} {d : PyData} {v : V} (h : Dv C d v) (f : flatD d = true) : flatV v = true := by
  cases d with
  | none => cases (show v = .non from h); rfl
  | bool _ => cases (show v = .bl _ from h); rfl
  | int _ => cases (show v = .int _ from h); rfl
  | str _ => cases (show v = .str _ from h); rfl
  | list _ => cases f
  | tuple _ => cases f
  | dict _ => cases f
theorem flat_eqv {C : Hp} {d e : PyData} {v u : V} (h : Dv C d v) (h' : Dv C e u) (f : flatD d = true) (f' : flatD e = true) : eqV v u = PyData.eqv d e := by
  cases d <;> cases e <;> first
    | exact absurd f Bool.false_ne_true
    | exact absurd f' Bool.false_ne_true
    | (simp only [Dv] at h h'; subst h h'; simp [eqV, PyData.eqv])
theorem flat_all {C : Hp} : ∀ {ds : List PyData} {vs : List V}, DvA C ds vs → ds.all flatD = true → vs.all flatV = true
  | [], _, h, _ => by cases h; rfl
  | d :: ds, _, ⟨v, ws, h1, h2, h3⟩, f => by
    cases h1
    simp only [List.all_cons, Bool.and_eq_true] at f ⊢
    exact ⟨flat_ok h2 f.1, flat_all h3 f.2⟩
theorem flat_any {C : Hp} {d : PyData} {v : V} (h : Dv C d v) (f : flatD d = true) : ∀ {ds : List PyData} {vs : List V}, DvA C ds vs → ds.all flatD = true → inV v vs = ds.any fun z => PyData.eqv z d
  | [], _, h, _ => by cases h; rfl
  | e :: ds, _, ⟨u, ws, h1, h2, h3⟩, fa => by
    cases h1
    simp only [List.all_cons, Bool.and_eq_true] at fa
    show (eqV u v || inV v ws) = _
    rw [flat_eqv h2 h fa.1 f, flat_any h f h3 fa.2]
    rfl
theorem ok_in {K : PySem.W.Frag} {neg : Bool} : OkR (rIn K neg) (oIn neg) := fun {mg As C H τ x y vx vy Q Qd} b hx hy o k => by
  unfold oIn at o
  match x, hx, o with
  | .da d, hx, o =>
    cases q : seqOf τ y with
    | none => rw [q] at o; exact o.elim
    | some ds =>
      rw [q] at o
      obtain ⟨p, vs, e1, e2, e3⟩ := seqOf_ok b hy q
      refine ⟨p, vs, e1, sq_or e2, flat_ok (VOk.dv hx) o.1.1, flat_all e3 o.1.2, ?_⟩
      rw [flat_any (VOk.dv hx) o.1.1 e3 o.1.2]
      exact k C H _ (.bool (if neg then !(ds.any fun z => PyData.eqv z d) else ds.any fun z => PyData.eqv z d)) (Step.refl _ _ _) b (by cases neg <;> rfl) o.2
include ha hb
theorem d_in (hm : behindInMarks .In b = false := by rfl) : PE X (.Compare a [.In] [b] pos) (tD G (dBin (oIn false) fa fb)) := d_cmp op_in_seq ok_in ha hb hm
theorem d_notin (hm : behindInMarks .NotIn b = false := by rfl) : PE X (.Compare a [.NotIn] [b] pos) (tD G (dBin (oIn true) fa fb)) := d_cmp op_notIn_seq ok_in ha hb hm
theorem t_in (hm : behindInMarks .In b = false := by rfl) : PT X (.Compare a [.In] [b] pos) (tDT G (dB (dBin (oIn false) fa fb))) := d_tcmp op_in_seq ok_in ha hb hm
theorem t_notin (hm : behindInMarks .NotIn b = false := by rfl) : PT X (.Compare a [.NotIn] [b] pos) (tDT G (dB (dBin (oIn true) fa fb))) := d_tcmp op_notIn_seq ok_in ha hb hm
omit ha hb
/-- deep items, in a list -/
def oInD (neg : Bool) : Op2 := fun x y τ Q => match x, dat τ y with
  | .da d, some (.list ds) => (shp 60 d = true ∧ shp 60 (.list ds) = true) ∧ Q (.bool (if neg then !(ds.any fun z => PyData.eqv z d) else ds.any fun z => PyData.eqv z d))
  | _, _ => False
theorem ok_inD {K : PySem.W.Frag} : OkR (rInD K) (oInD false) := fun {mg As C H τ x y vx vy Q Qd} b hx hy o k => by
  unfold oInD at o
  match x, hx, o with
  | .da d, hx, o =>
    cases q : dat τ y with
    | none => rw [q] at o; exact o.elim
    | some dy =>
      rw [q] at o
      match dy, q, o with
      | .list ds, q, o => exact ⟨d, ds, ((VOk.dv hx).mono b.core).dp, (dat_ok b hy q).dp, shp_shaped o.1.1 (by decide), shp_shaped o.1.2 (by decide), k C H _ (.bool (ds.any fun z => PyData.eqv z d)) (Step.refl _ _ _) b rfl o.2⟩
include ha hb
theorem d_inD (hu : X.A.units + 65 < cLine) (hm : behindInMarks .In b = false := by rfl) : PE X (.Compare a [.In] [b] pos) (tD G (dBin (oInD false) fa fb)) := d_cmp (op_inD hu) ok_inD ha hb hm
omit ha hb
/-- x[i] -/
def oIx : Op2 := fun x y τ Q => match x, y with
  | .da (.str z), .da (.int i) => z.length ≤ 100000 ∧ match atI z.cps.toList i with
    | some c => Q (.str ⟨#[c]⟩)
    | none => False
  | x, .da (.int i) => match seqOf τ x with
    | some ds => match atI ds i with
      | some d => Q d
      | none => False
    | none => False
  | _, _ => False
theorem atI_dv {C : Hp} {ds : List PyData} {vs : List V} {i : Int} {d : PyData} (h : DvA C ds vs) (e : atI ds i = some d) : ∃ v, atI vs i = some v ∧ Dv C d v := by
  unfold atI at e ⊢
  rw [h.length]
  cases q : ixN ds.length i with
  | none => rw [q] at e; cases e
  | some j =>
    rw [q] at e
    exact h.at e
theorem ok_ix {K : PySem.W.Frag} : OkR (rIx K) oIx := fun {mg As C H τ x y vx vy Q Qd} b hx hy o k => by
  have main : ∀ i : Int, vy = .int i → (match seqOf τ x with
    | some ds => match atI ds i with
      | some d => Qd d
      | none => False
    | none => False) → rIx K vx vy H Q := fun i hi o => by
    cases q : seqOf τ x with
    | none => rw [q] at o; exact o.elim
    | some ds =>
      rw [q] at o
      obtain ⟨p, vs, e1, e2, e3⟩ := seqOf_ok b hx q
      cases q2 : atI ds i with
      | none => simp only [q2] at o
      | some d =>
        simp only [q2] at o
        obtain ⟨v, a1, a2⟩ := atI_dv e3 q2
        have fin := k C H v d (Step.refl _ _ _) b a2 o
        rcases e2 with e2 | e2
        · exact .inl ⟨p, vs, i, v, e1, hi, SqL.of e2, a1, fin⟩
        · exact .inr (.inl ⟨p, vs, i, v, e1, hi, e2.sq, a1, fin⟩)
  cases y with
  | un => cases x with
    | da d => cases d <;> exact o.elim
    | un => exact o.elim
    | res _ => exact o.elim
  | res _ => cases x with
    | da d => cases d <;> exact o.elim
    | un => exact o.elim
    | res _ => exact o.elim
  | da dy =>
    cases dy with
    | int i =>
      have ey : vy = .int i := VOk.dv hy
      cases x with
      | un => exact main i ey o
      | res k => exact main i ey o
      | da dx =>
        cases dx with
        | str z =>
          obtain ⟨hz, o⟩ := o
          have ex : vx = .str z := VOk.dv hx
          cases q : atI z.cps.toList i with
          | none => rw [q] at o; exact o.elim
          | some c => rw [q] at o; exact .inr (.inr ⟨z, i, c, ex, ey, Nat.le_trans hz (by decide), q, k C H _ (.str ⟨#[c]⟩) (Step.refl _ _ _) b rfl o⟩)
        | none => exact main i ey o
        | bool _ => exact main i ey o
        | int _ => exact main i ey o
        | list _ => exact main i ey o
        | tuple _ => exact main i ey o
        | dict _ => exact main i ey o
    | none => cases x with
      | da d => cases d <;> exact o.elim
      | un => exact o.elim
      | res _ => exact o.elim
    | bool _ => cases x with
      | da d => cases d <;> exact o.elim
      | un => exact o.elim
      | res _ => exact o.elim
    | str _ => cases x with
      | da d => cases d <;> exact o.elim
      | un => exact o.elim
      | res _ => exact o.elim
    | list _ => cases x with
      | da d => cases d <;> exact o.elim
      | un => exact o.elim
      | res _ => exact o.elim
    | tuple _ => cases x with
      | da d => cases d <;> exact o.elim
      | un => exact o.elim
      | res _ => exact o.elim
    | dict _ => cases x with
      | da d => cases d <;> exact o.elim
      | un => exact o.elim
      | res _ => exact o.elim
include ha hb
theorem d_ix (hs : PlainIx b := by exact fun _ _ => rfl) : PE X (.Subscript a b pos) (tD G (dBin oIx fa fb)) := pe_weak (pe_ix ix_seq ha hb hs) fun _ _ _ h => w_bin ok_ix h
omit ha hb
/-- tuples, lists, texts joined -/
def oCatT : Op2 := fun x y _ Q => match x, y with
  | .da (.tuple xs), .da (.tuple ys) => xs.length + ys.length ≤ 1000000 ∧ Q (.tuple (xs ++ ys))
  | _, _ => False
def rCatF (K : PySem.W.Frag) : R2 := fun x y H Q => ∃ a b xs ys, x = .ref a ∧ y = .ref b ∧ SqT K H a xs ∧ SqT K H b ys ∧ xs.length + ys.length ≤ sizeLine ∧ (xs = [] → Q (.ref b) H) ∧ (xs ≠ [] → ys = [] → Q (.ref a) H) ∧
  (xs ≠ [] → ys ≠ [] → ∀ p o, H p = none → o.dict = none → Q (.ref p) (L2.upd H p (.frz o (.tup (xs ++ ys)))))
theorem op_catF {X : Cx} : OpR X (binaryOp .Add) (rCatF X.K) := by
  rintro pins s σ H x y v u Q I rx ry ⟨a, b, xs, ys, e1, e2, ha, hb, hz, q0, q1, q2⟩
  subst e1 e2
  cases rx; cases ry
  have ⟨its, r1, p1, _⟩ := I.tuple ha
  have ⟨its2, r2, p2, _⟩ := I.tuple hb
  by_cases hx : xs = []
  · subst hx
    cases r1
    exact cat_tup0 p1 p2 ⟨.ref b, H, I, rfl, q0 rfl⟩
  · refine HT.cat_tup p1 p2 (fun z => hx (r1.nil_iff.mp z)) (fun z => ⟨.ref a, H, I, rfl, q1 hx (r2.nil_iff.mp z)⟩) (fun z => ?_) (by rw [← r1.length, ← r2.length]; exact hz)
    refine ⟨.ref s.heap.objs.size, _, I.laid (t' := s.toks) (o := .frz { cls := .type "tuple", data := .seq (its ++ its2).toArray } (.tup (xs ++ ys))) (fun _ _ => Heap.get?_push_of_some _) (Nat.le_refl _) ⟨?_, by rw [List.length_append]; exact hz, its ++ its2, r1.append r2, ?_⟩, rfl, q2 hx (fun w => z (r2.nil_iff.mpr w)) _ _ (I.hok.fresh (Nat.le_refl _)) rfl⟩
    · first | exact Heap.get?_push_size _ rfl | (have := Heap.get?_push_size (h := s.heap) (o := { cls := .type "tuple", data := .seq (its ++ its2).toArray }) rfl; simpa using this)
    · first | exact IsTup.new _ _ | (have := IsTup.new s.heap (its ++ its2).toArray; simpa using this)
theorem ok_catT {K : PySem.W.Frag} : OkR (rCatF K) oCatT := fun {mg As C H τ x y vx vy Q Qd} b hx hy o k => by
  match x, y, hx, hy, o with
  | .da (.tuple xs), .da (.tuple ys), hx, hy, ⟨hz, o⟩ =>
    obtain ⟨p, vs, e1, e2, e3⟩ := VOk.dv hx
    obtain ⟨q, ws, f1, f2, f3⟩ := VOk.dv hy
    have hz2 : vs.length + ws.length ≤ sizeLine := by rw [e3.length, f3.length]; exact Nat.le_trans hz (by decide)
    refine ⟨p, q, vs, ws, e1, f1, (e2.mono b.core).sq, (f2.mono b.core).sq, hz2, fun z => ?_, fun _ z => ?_, fun _ _ r o' hr ho => ?_⟩
    · subst z
      have : xs = [] := List.length_eq_zero_iff.mp e3.length.symm
      subst this
      exact k C H _ (.tuple ys) (Step.refl _ _ _) b ⟨q, ws, rfl, f2, f3⟩ o
    · subst z
      have : ys = [] := List.length_eq_zero_iff.mp f3.length.symm
      subst this
      rw [List.append_nil] at o
      exact k C H _ (.tuple xs) (Step.refl _ _ _) b ⟨p, vs, rfl, e2, e3⟩ o
    · have st := Step.new (As := As) (o := .frz o' (.tup (vs ++ ws))) hr b.core
      exact k _ _ _ (.tuple (xs ++ ys)) st (b.new hr (by show (vs ++ ws).length ≤ sizeLine; rw [List.length_append]; exact hz2)) ⟨r, _, rfl, .new ho, (e3.append f3).mono st.ex⟩ o
def oCatL : Op2 := fun x y τ Q => match dat τ x, dat τ y with
  | some (.list xs), some (.list ys) => xs.length + ys.length ≤ 1000000 ∧ Q (.list (xs ++ ys))
  | _, _ => False
theorem lst_ok {mg : Str → Option Value} {As : List Addr} {C H : Hp} {τ : Rs} {v : V} {x : Sl} {ds : List PyData} (b : Base mg As C τ H) (h : VOk C As v x) (e : dat τ x = some (.list ds)) : ∃ p vs, v = .ref p ∧ H p = some (.lst vs) ∧ DvA C ds vs := by
  cases x with
  | un => cases e
  | da d => cases e; obtain ⟨p, vs, e1, e2, e3⟩ := VOk.dv h; exact ⟨p, vs, e1, b.core _ _ e2, e3⟩
  | res k =>
    obtain ⟨p, e1, e2⟩ := h
    cases e2
    have e : (match τ[k]? with
      | some (RS.lst ds) => some (PyData.list ds)
      | _ => none) = some _ := e
    cases q : τ[k]? with
    | none => rw [q] at e; cases e
    | some r =>
      rw [q] at e
      cases r with
      | lst xs =>
        cases e
        obtain ⟨vs, h1, h2⟩ := b.rs k p _ e1 q
        exact ⟨p, vs, rfl, h1, h2⟩
      | gone => cases e
      | dice => cases e
      | tab _ => cases e
      | bri _ => cases e
theorem ok_catL : OkR rCat oCatL := fun {mg As C H τ x y vx vy Q Qd} b hx hy o k => by
  unfold oCatL at o
  cases q1 : dat τ x with
  | none => rw [q1] at o; exact o.elim
  | some d =>
    cases q2 : dat τ y with
    | none => rw [q1, q2] at o; cases d <;> exact o.elim
    | some e =>
      rw [q1, q2] at o
      match d, e, q1, q2, o with
      | .list xs, .list ys, q1, q2, ⟨hz, o⟩ =>
        obtain ⟨p, vs, e1, e2, e3⟩ := lst_ok b hx q1
        obtain ⟨q, ws, f1, f2, f3⟩ := lst_ok b hy q2
        have hz2 : vs.length + ws.length ≤ sizeLine := by rw [e3.length, f3.length]; exact Nat.le_trans hz (by decide)
        refine ⟨p, q, vs, ws, e1, f1, e2, f2, hz2, fun r hr => ?_⟩
        have st := Step.new (As := As) (o := .lst (vs ++ ws)) hr b.core
        exact k _ _ _ (.list (xs ++ ys)) st (b.new hr (by show (vs ++ ws).length ≤ sizeLine; rw [List.length_append]; exact hz2)) ⟨r, _, rfl, upd_same, (e3.append f3).mono st.ex⟩ o
def oCatS : Op2 := fun x y _ Q => match x, y with
  | .da (.str i), .da (.str j) => i.length + j.length ≤ 100000 ∧ Q (.str (i ++ j))
  | _, _ => False
theorem ok_catS : OkR (fun x y H Q => ∃ i j, x = .str i ∧ y = .str j ∧ i.length + j.length ≤ sizeLine ∧ Q (.str (i ++ j)) H) oCatS := fun {mg As C H τ x y vx vy Q Qd} b hx hy o k => by
  match x, y, hx, hy, o with
  | .da (.str i), .da (.str j), hx, hy, ⟨hz, o⟩ => exact ⟨i, j, VOk.dv hx, VOk.dv hy, Nat.le_trans hz (by decide), k C H _ (.str (i ++ j)) (Step.refl _ _ _) b rfl o⟩
include ha hb
theorem d_catT : PE X (.BinOp a .Add b pos) (tD G (dBin oCatT fa fb)) := d_bin op_catF ok_catT ha hb
theorem d_catL : PE X (.BinOp a .Add b pos) (tD G (dBin oCatL fa fb)) := d_bin op_cat ok_catL ha hb
theorem d_catS : PE X (.BinOp a .Add b pos) (tD G (dBin oCatS fa fb)) := d_bin op_add_str ok_catS ha hb
omit ha hb
end
end DL
namespace DL
open PySem PySem.Spec PyProof.Rows L2
section
variable {X : Cx} {G : Gx} {e a b c : Expr} {es : List Expr} {f fa fb fc : TD} {pos p : Pos} {n : Nat} {g : TDA}

/-! ### built-in calls -/
def lenOf (τ : Rs) : Sl → Option Nat
  | .da (.str z) => if z.length ≤ 100000 then some z.length else none
  | .da d => (seqD d).map List.length
  | .res k => (seqOf τ (.res k)).map List.length
  | .un => none
def oLen : OpC := fun xs τ Q => match xs with
  | [x] => match lenOf τ x with
    | some n => Q (.int (n : Int))
    | none => False
  | _ => False
theorem arg1 {C : Hp} {As : List Addr} {vs : List V} {x : Sl} (h : ArgOk C As vs [x]) : ∃ v, vs = [v] ∧ VOk C As v x := by
  cases h with
  | cons h1 h2 => cases h2; exact ⟨_, rfl, h1⟩
theorem arg2 {C : Hp} {As : List Addr} {vs : List V} {x y : Sl} (h : ArgOk C As vs [x, y]) : ∃ v w, vs = [v, w] ∧ VOk C As v x ∧ VOk C As w y := by
  cases h with
  | cons h1 h2 =>
    obtain ⟨w, rfl, h3⟩ := arg1 h2
    exact ⟨_, w, rfl, h1, h3⟩
theorem ok_len {K : PySem.W.Frag} : OkC (fun xs H Q => ∃ x n, xs = [x] ∧ LenV K x H n ∧ Q (.int n) H) oLen := fun {mg As C H τ xs vs Q Qd} b ha o k => by
  have seq : ∀ x v ds n, VOk C As v x → seqOf τ x = some ds → n = ds.length → LenV K v H n := fun x v ds n hv q e => by
    obtain ⟨r, ws, e1, e2, e3⟩ := seqOf_ok b hv q
    subst e1
    rw [e, ← e3.length]
    rcases e2 with e2 | e2
    · exact .inl ⟨ws, SqL.of e2, rfl⟩
    · exact .inr ⟨ws, e2.sq, rfl⟩
  have main : ∀ x v n, VOk C As v x → lenOf τ x = some n → LenV K v H n := fun x v n hv q => by
    cases x with
    | un => cases q
    | res j =>
      cases z : seqOf τ (.res j) with
      | none => simp [lenOf, z] at q
      | some ds => exact seq _ v ds n hv z (by simpa [lenOf, z] using q.symm)
    | da d =>
      cases d with
      | str z =>
        have ev : v = .str z := VOk.dv hv
        subst ev
        have q : (if z.length ≤ 100000 then some z.length else none) = some n := q
        by_cases hz : z.length ≤ 100000
        · rw [if_pos hz] at q
          cases q
          exact ⟨Nat.le_trans hz (by decide), rfl⟩
        · rw [if_neg hz] at q
          cases q
      | list ds => exact seq _ v ds n hv rfl (Option.some.inj q).symm
      | tuple ds => exact seq _ v ds n hv rfl (Option.some.inj q).symm
      | none => cases q
      | bool _ => cases q
      | int _ => cases q
      | dict _ => cases q
  match xs, ha, o with
  | [x], ha, o =>
    obtain ⟨v, rfl, hv⟩ := arg1 ha
    unfold oLen at o
    cases q : lenOf τ x with
    | none => simp only [q] at o
    | some n =>
      simp only [q] at o
      exact ⟨v, n, rfl, main x v n hv q, k C H _ (.int (n : Int)) (Step.refl _ _ _) b rfl o⟩
theorem d_len (ha : PA X [a] (tDA G n g)) (hm : X.mg "len" = none) (hg : Gl X "len" := by rfl) (he : starEach [a] X.env = (false, eval a X.env) :: starEach [] X.env := by rfl) (hpl : (backTo pos (starEach [] X.env)).any (·.1) = false := by rfl) : PE X (.Call (.Name "len" p) [a] [] pos) (tD G (dCB oLen g)) :=
  d_callB call_len ok_len hg hm PySem.boot_len ha (by decide) (by decide) he hpl
/-- all, any of bools -/
def oAll : OpC := fun xs τ Q => match xs with
  | [x] => ∃ bs : List Bool, dat τ x = some (.list (bs.map .bool)) ∧ Q (.bool (bs.all id))
  | _ => False
def oAny : OpC := fun xs τ Q => match xs with
  | [x] => ∃ bs : List Bool, dat τ x = some (.list (bs.map .bool)) ∧ Q (.bool (bs.any id))
  | _ => False
theorem ok_all {K : PySem.W.Frag} : OkC (rAll K) oAll := fun {mg As C H τ xs vs Q Qd} b ha o k => by
  match xs, ha, o with
  | [x], ha, ⟨bs, q, o⟩ =>
    obtain ⟨v, rfl, hv⟩ := arg1 ha
    obtain ⟨r, ws, e1, e2, e3⟩ := lst_ok b hv q
    subst e1
    rw [e3.bools] at e2
    exact ⟨r, bs, rfl, SqL.of e2, k C H _ (.bool (bs.all id)) (Step.refl _ _ _) b rfl o⟩
theorem ok_any {K : PySem.W.Frag} : OkC (rAny K) oAny := fun {mg As C H τ xs vs Q Qd} b ha o k => by
  match xs, ha, o with
  | [x], ha, ⟨bs, q, o⟩ =>
    obtain ⟨v, rfl, hv⟩ := arg1 ha
    obtain ⟨r, ws, e1, e2, e3⟩ := lst_ok b hv q
    subst e1
    rw [e3.bools] at e2
    exact ⟨r, bs, rfl, SqL.of e2, k C H _ (.bool (bs.any id)) (Step.refl _ _ _) b rfl o⟩
theorem d_all (ha : PA X [a] (tDA G n g)) (hm : X.mg "all" = none) (hc : X.calm = true := by rfl) (hg : Gl X "all" := by rfl) (he : starEach [a] X.env = (false, eval a X.env) :: starEach [] X.env := by rfl) (hpl : (backTo pos (starEach [] X.env)).any (·.1) = false := by rfl) : PE X (.Call (.Name "all" p) [a] [] pos) (tD G (dCB oAll g)) :=
  d_callB (cr_all hc) ok_all hg hm (by decide +kernel) ha (by decide) (by decide) he hpl
theorem d_any (ha : PA X [a] (tDA G n g)) (hm : X.mg "any" = none) (hc : X.calm = true := by rfl) (hg : Gl X "any" := by rfl) (he : starEach [a] X.env = (false, eval a X.env) :: starEach [] X.env := by rfl) (hpl : (backTo pos (starEach [] X.env)).any (·.1) = false := by rfl) : PE X (.Call (.Name "any" p) [a] [] pos) (tD G (dCB oAny g)) :=
  d_callB (cr_any hc) ok_any hg hm (by decide +kernel) ha (by decide) (by decide) he hpl
/-- min, max of two ints; abs -/
def oMin2 : OpC := fun xs _ Q => match xs with
  | [.da (.int i), .da (.int j)] => Q (.int (if j < i then j else i))
  | _ => False
def oMax2 : OpC := fun xs _ Q => match xs with
  | [.da (.int i), .da (.int j)] => Q (.int (if j > i then j else i))
  | _ => False
def oAbs : OpC := fun xs _ Q => match xs with
  | [.da (.int i)] => Q (.int (if i < 0 then -i else i))
  | _ => False
theorem ok_min2 : OkC (fun xs H Q => ∃ i j, xs = [.int i, .int j] ∧ Q (.int (if j < i then j else i)) H) oMin2 := fun {mg As C H τ xs vs Q Qd} b ha o k => by
  match xs, ha, o with
  | [.da (.int i), .da (.int j)], ha, o =>
    obtain ⟨v, w, rfl, hv, hw⟩ := arg2 ha
    have ev : v = .int i := VOk.dv hv
    have ew : w = .int j := VOk.dv hw
    subst ev ew
    exact ⟨i, j, rfl, k C H _ (.int (if j < i then j else i)) (Step.refl _ _ _) b rfl o⟩
theorem ok_max2 : OkC (fun xs H Q => ∃ i j, xs = [.int i, .int j] ∧ Q (.int (if j > i then j else i)) H) oMax2 := fun {mg As C H τ xs vs Q Qd} b ha o k => by
  match xs, ha, o with
  | [.da (.int i), .da (.int j)], ha, o =>
    obtain ⟨v, w, rfl, hv, hw⟩ := arg2 ha
    have ev : v = .int i := VOk.dv hv
    have ew : w = .int j := VOk.dv hw
    subst ev ew
    exact ⟨i, j, rfl, k C H _ (.int (if j > i then j else i)) (Step.refl _ _ _) b rfl o⟩
theorem ok_abs : OkC (fun xs H Q => ∃ i, xs = [.int i] ∧ Q (.int (if i < 0 then -i else i)) H) oAbs := fun {mg As C H τ xs vs Q Qd} b ha o k => by
  match xs, ha, o with
  | [.da (.int i)], ha, o =>
    obtain ⟨v, rfl, hv⟩ := arg1 ha
    have ev : v = .int i := VOk.dv hv
    subst ev
    exact ⟨i, rfl, k C H _ (.int (if i < 0 then -i else i)) (Step.refl _ _ _) b rfl o⟩
theorem d_min2 (ha : PA X [a, b] (tDA G n g)) (hm : X.mg "min" = none) (hc : X.calm = true := by rfl) (hg : Gl X "min" := by rfl) (he : starEach [a, b] X.env = (false, eval a X.env) :: starEach [b] X.env := by rfl) (hpl : (backTo pos (starEach [b] X.env)).any (·.1) = false := by rfl) : PE X (.Call (.Name "min" p) [a, b] [] pos) (tD G (dCB oMin2 g)) :=
  d_callB (call_min2 hc) ok_min2 hg hm (by decide +kernel) ha (by decide) (by decide) he hpl
theorem d_max2 (ha : PA X [a, b] (tDA G n g)) (hm : X.mg "max" = none) (hc : X.calm = true := by rfl) (hg : Gl X "max" := by rfl) (he : starEach [a, b] X.env = (false, eval a X.env) :: starEach [b] X.env := by rfl) (hpl : (backTo pos (starEach [b] X.env)).any (·.1) = false := by rfl) : PE X (.Call (.Name "max" p) [a, b] [] pos) (tD G (dCB oMax2 g)) :=
  d_callB (call_max2 hc) ok_max2 hg hm (by decide +kernel) ha (by decide) (by decide) he hpl
theorem d_abs (ha : PA X [a] (tDA G n g)) (hm : X.mg "abs" = none) (hg : Gl X "abs" := by rfl) (he : starEach [a] X.env = (false, eval a X.env) :: starEach [] X.env := by rfl) (hpl : (backTo pos (starEach [] X.env)).any (·.1) = false := by rfl) : PE X (.Call (.Name "abs" p) [a] [] pos) (tD G (dCB oAbs g)) :=
  d_callB call_abs ok_abs hg hm (by decide +kernel) ha (by decide) (by decide) he hpl
/-- min, max of a list of ints; sum -/
def oMinL : OpC := fun xs τ Q => match xs with
  | [x] => ∃ ns : List Int, dat τ x = some (.list (ns.map .int)) ∧ 0 < ns.length ∧ ∀ m, m ∈ ns → (∀ y, y ∈ ns → m ≤ y) → Q (.int m)
  | _ => False
def oMaxL : OpC := fun xs τ Q => match xs with
  | [x] => ∃ ns : List Int, dat τ x = some (.list (ns.map .int)) ∧ 0 < ns.length ∧ ∀ m, m ∈ ns → (∀ y, y ∈ ns → y ≤ m) → Q (.int m)
  | _ => False
def oSum : OpC := fun xs τ Q => match xs with
  | [x] => ∃ ns : List Int, dat τ x = some (.list (ns.map .int)) ∧ Q (.int ns.sum)
  | _ => False
theorem ok_minL {K : PySem.W.Frag} : OkC (rMin K) oMinL := fun {mg As C H τ xs vs Q Qd} b ha o k => by
  match xs, ha, o with
  | [x], ha, ⟨ns, q, hl, o⟩ =>
    obtain ⟨v, rfl, hv⟩ := arg1 ha
    obtain ⟨r, ws, e1, e2, e3⟩ := lst_ok b hv q
    subst e1
    rw [e3.ints] at e2
    exact ⟨r, ns, rfl, SqL.of e2, hl, fun m h1 h2 => k C H _ (.int m) (Step.refl _ _ _) b rfl (o m h1 h2)⟩
theorem ok_maxL {K : PySem.W.Frag} : OkC (rMax K) oMaxL := fun {mg As C H τ xs vs Q Qd} b ha o k => by
  match xs, ha, o with
  | [x], ha, ⟨ns, q, hl, o⟩ =>
    obtain ⟨v, rfl, hv⟩ := arg1 ha
    obtain ⟨r, ws, e1, e2, e3⟩ := lst_ok b hv q
    subst e1
    rw [e3.ints] at e2
    exact ⟨r, ns, rfl, SqL.of e2, hl, fun m h1 h2 => k C H _ (.int m) (Step.refl _ _ _) b rfl (o m h1 h2)⟩
theorem ok_sum {K : PySem.W.Frag} : OkC (rSum K) oSum := fun {mg As C H τ xs vs Q Qd} b ha o k => by
  match xs, ha, o with
  | [x], ha, ⟨ns, q, o⟩ =>
    obtain ⟨v, rfl, hv⟩ := arg1 ha
    obtain ⟨r, ws, e1, e2, e3⟩ := lst_ok b hv q
    subst e1
    rw [e3.ints] at e2
    exact ⟨r, ns, rfl, SqL.of e2, k C H _ (.int ns.sum) (Step.refl _ _ _) b rfl o⟩
theorem d_minL (ha : PA X [a] (tDA G n g)) (hm : X.mg "min" = none) (hc : X.calm = true := by rfl) (hg : Gl X "min" := by rfl) (he : starEach [a] X.env = (false, eval a X.env) :: starEach [] X.env := by rfl) (hpl : (backTo pos (starEach [] X.env)).any (·.1) = false := by rfl) : PE X (.Call (.Name "min" p) [a] [] pos) (tD G (dCB oMinL g)) :=
  d_callB (cr_min hc) ok_minL hg hm (by decide +kernel) ha (by decide) (by decide) he hpl
theorem d_maxL (ha : PA X [a] (tDA G n g)) (hm : X.mg "max" = none) (hc : X.calm = true := by rfl) (hg : Gl X "max" := by rfl) (he : starEach [a] X.env = (false, eval a X.env) :: starEach [] X.env := by rfl) (hpl : (backTo pos (starEach [] X.env)).any (·.1) = false := by rfl) : PE X (.Call (.Name "max" p) [a] [] pos) (tD G (dCB oMaxL g)) :=
  d_callB (cr_max hc) ok_maxL hg hm (by decide +kernel) ha (by decide) (by decide) he hpl
theorem d_sum (ha : PA X [a] (tDA G n g)) (hm : X.mg "sum" = none) (hc : X.calm = true := by rfl) (hg : Gl X "sum" := by rfl) (he : starEach [a] X.env = (false, eval a X.env) :: starEach [] X.env := by rfl) (hpl : (backTo pos (starEach [] X.env)).any (·.1) = false := by rfl) : PE X (.Call (.Name "sum" p) [a] [] pos) (tD G (dCB oSum g)) :=
  d_callB (cr_sum hc) ok_sum hg hm (by decide +kernel) ha (by decide) (by decide) he hpl
/-- tuple(..), list(..) -/
def oTup : OpC := fun xs τ Q => match xs with
  | [x] => match dat τ x with
    | some (.list ds) => Q (.tuple ds)
    | some (.tuple ds) => Q (.tuple ds)
    | _ => False
  | _ => False
def oLst : OpC := fun xs τ Q => match xs with
  | [x] => match seqOf τ x with
    | some ds => Q (.list ds)
    | none => False
  | _ => False
theorem lst_sz {mg : Str → Option Value} {As : List Addr} {C H : Hp} {τ : Rs} {v : V} {x : Sl} (b : Base mg As C τ H) (h : VOk C As v x) : True := trivial
theorem szTup {X : Cx} {pins : List (Addr × Obj)} {σ : L2.St} {H : Hp} {s : Shared} (I : Inv X pins σ H s) {p : Addr} {vs : List V} (h : H p = some (.lst vs) ∨ TpO H p vs) : vs.length ≤ sizeLine := by
  rcases h with h | h
  · exact (I.hok p _ h).1
  · obtain ⟨o, h, _⟩ := h.ex; exact (I.hok p _ h).2.1
/-- tuple(x): the size told -/
theorem call_tuple_sz : CallR X (.type "tuple") (fun xs H Q => ∃ p ys, xs = [.ref p] ∧ ((H p = some (.lst ys) ∧ ∀ l o, H l = none → o.dict = none → ys.length ≤ sizeLine → Q (.ref l) (L2.upd H l (.frz o (.tup ys)))) ∨ (TpO H p ys ∧ Q (.ref p) H))) := by
  rintro pins s σ H xs us Q I r ⟨p, ys, e, h⟩
  rcases h with ⟨h1, h2⟩ | ⟨h1, h2⟩
  · subst e
    rw [Vals.ref1 r]
    have ⟨its, rv, pl, hz⟩ := I.list (SqL.of h1)
    refine call_tuple_list pl.isList (fun h' kp => ?_) (by have := rv.length; simp only [List.size_toArray] <;> omega)
    have I1 : Inv X pins σ H { s with heap := h' } := I.kept (t' := s.toks) kp
    refine ⟨.ref h'.objs.size, _, I1.laid (t' := s.toks) (o := .frz { cls := .type "tuple", data := .seq its.toArray } (.tup ys)) (fun _ _ => Heap.get?_push_of_some _) (Nat.le_refl _) ⟨Heap.get?_push_size _ rfl, hz, its, rv, IsTup.new _ _⟩, rfl, h2 _ _ (I1.hok.fresh (Nat.le_refl _)) rfl hz⟩
  · exact call_tuple_of pins s σ H xs us Q I r ⟨p, ys, e, .inr ⟨h1.sq, h2⟩⟩
theorem call_list_sz : CallR X (.type "list") (fun xs H Q => ∃ p ys, xs = [.ref p] ∧ (H p = some (.lst ys) ∨ TpO H p ys) ∧ ∀ l, H l = none → ys.length ≤ sizeLine → Q (.ref l) (upd H l (.lst ys))) := by
  intro pins s σ H xs us Q I r h
  obtain ⟨p, ys, e, h1, h2⟩ := h
  exact call_list_of pins s σ H xs us Q I r ⟨p, ys, e, sq_or h1, fun l hl => h2 l hl (szTup I h1)⟩
theorem ok_tup : OkC (fun xs H Q => ∃ p ys, xs = [.ref p] ∧ ((H p = some (.lst ys) ∧ ∀ l o, H l = none → o.dict = none → ys.length ≤ sizeLine → Q (.ref l) (L2.upd H l (.frz o (.tup ys)))) ∨ (TpO H p ys ∧ Q (.ref p) H))) oTup := fun {mg As C H τ xs vs Q Qd} b ha o k => by
  match xs, ha, o with
  | [x], ha, o =>
    obtain ⟨v, rfl, hv⟩ := arg1 ha
    unfold oTup at o
    cases q : dat τ x with
    | none => simp only [q] at o
    | some d =>
      simp only [q] at o
      match d, q, o with
      | .list ds, q, o =>
        obtain ⟨r, ws, e1, e2, e3⟩ := lst_ok b hv q
        subst e1
        refine ⟨r, ws, rfl, .inl ⟨e2, fun l ob hl hb hz => ?_⟩⟩
        have st := Step.new (As := As) (o := .frz ob (.tup ws)) hl b.core
        exact k _ _ _ (.tuple ds) st (b.new hl hz) ⟨l, ws, rfl, .new hb, e3.mono st.ex⟩ o
      | .tuple ds, q, o =>
        match x, hv, q with
        | .da d, hv, q =>
          cases q
          obtain ⟨r, ws, e1, e2, e3⟩ := VOk.dv hv
          subst e1
          exact ⟨r, ws, rfl, .inr ⟨e2.mono b.core, k C H _ (.tuple ds) (Step.refl _ _ _) b ⟨r, ws, rfl, e2, e3⟩ o⟩⟩
        | .res j, hv, q =>
          have q : (match τ[j]? with
            | some (RS.lst ds) => some (PyData.list ds)
            | _ => none) = some (.tuple ds) := q
          cases z : τ[j]? with
          | none => rw [z] at q; cases q
          | some r => rw [z] at q; cases r <;> cases q
theorem ok_lst : OkC (fun xs H Q => ∃ p ys, xs = [.ref p] ∧ (H p = some (.lst ys) ∨ TpO H p ys) ∧ ∀ l, H l = none → ys.length ≤ sizeLine → Q (.ref l) (upd H l (.lst ys))) oLst := fun {mg As C H τ xs vs Q Qd} b ha o k => by
  match xs, ha, o with
  | [x], ha, o =>
    obtain ⟨v, rfl, hv⟩ := arg1 ha
    unfold oLst at o
    cases q : seqOf τ x with
    | none => simp only [q] at o
    | some ds =>
      simp only [q] at o
      obtain ⟨r, ws, e1, e2, e3⟩ := seqOf_ok b hv q
      subst e1
      refine ⟨r, ws, rfl, e2, fun l hl hz => ?_⟩
      have st := Step.new (As := As) (o := .lst ws) hl b.core
      exact k _ _ _ (.list ds) st (b.new hl hz) ⟨l, ws, rfl, upd_same, e3.mono st.ex⟩ o
theorem d_tuple (ha : PA X [a] (tDA G n g)) (hm : X.mg "tuple" = none) (hg : Gl X "tuple" := by rfl) (he : starEach [a] X.env = (false, eval a X.env) :: starEach [] X.env := by rfl) (hpl : (backTo pos (starEach [] X.env)).any (·.1) = false := by rfl) : PE X (.Call (.Name "tuple" p) [a] [] pos) (tD G (dCB oTup g)) :=
  d_callTy call_tuple_sz ok_tup hg hm (by decide +kernel) ha (by decide) (by decide) he hpl
theorem d_list (ha : PA X [a] (tDA G n g)) (hm : X.mg "list" = none) (hg : Gl X "list" := by rfl) (he : starEach [a] X.env = (false, eval a X.env) :: starEach [] X.env := by rfl) (hpl : (backTo pos (starEach [] X.env)).any (·.1) = false := by rfl) : PE X (.Call (.Name "list" p) [a] [] pos) (tD G (dCB oLst g)) :=
  d_callTy call_list_sz ok_lst hg hm (by decide +kernel) ha (by decide) (by decide) he hpl
/-! ### isinstance -/
def tyName : PyData → String
  | .none => "NoneType"
  | .bool _ => "bool"
  | .int _ => "int"
  | .str _ => "str"
  | .list _ => "list"
  | .tuple _ => "tuple"
  | .dict _ => "dict"
def isInt : PyData → Bool
  | .bool _ => true
  | .int _ => true
  | _ => false
def isBool : PyData → Bool
  | .bool _ => true
  | _ => false
def isTuple : PyData → Bool
  | .tuple _ => true
  | _ => false
def isStr : PyData → Bool
  | .str _ => true
  | _ => false
theorem ty_ok {K : PySem.W.Frag} {C H : Hp} (e : Same C H) {d : PyData} {v : V} (h : Dv C d v) : TyX K H v (.type (tyName d)) := by
  cases d with
  | none => cases (show v = .non from h); exact .base .non
  | bool _ => cases (show v = .bl _ from h); exact .base (.bl _)
  | int _ => cases (show v = .int _ from h); exact .base (.int _)
  | str _ => cases (show v = .str _ from h); exact .base (.str _)
  | list _ => obtain ⟨p, vs, e1, e2, _⟩ := h; subst e1; exact .base (.lst (e _ _ e2))
  | tuple _ => obtain ⟨p, vs, e1, e2, _⟩ := h; subst e1; obtain ⟨o, e2, _⟩ := e2.ex; exact .fTuple (e _ _ e2)
  | dict _ => exact h.elim
def dIsi (q : PyData → Bool) (f : TD) : TD := fun ρ τ Q er => f ρ τ (fun x τ1 => match x with
  | .da d => Q (.da (.bool (q d))) τ1
  | _ => False) er
theorem d_isi {T : Str} {Ts : String} {q : PyData → Bool} {p p2 : Pos} (hq : ∀ d, (∀ z, d ≠ .dict z) → kitB (tyName d) Ts = some (q d)) (ha : PE X a (tD G fa)) (hm : X.mg "isinstance" = none) (hT : X.mg T = none) (hv : bootBuiltins T = some (.type Ts)) (hn : T ≠ "__name__")
    (hdt : (T == ("__debug__" : Str)) = false) (hg : Gl X "isinstance" := by rfl) (hgT : Gl X T := by rfl)
    (he : starEach [a, .Name T p2] X.env = (false, eval a X.env) :: starEach [.Name T p2] X.env := by rfl) (he2 : starEach [.Name T p2] X.env = (false, eval (.Name T p2) X.env) :: starEach [] X.env := by rfl) (hpl : (backTo pos (starEach [.Name T p2] X.env)).any (·.1) = false := by rfl) :
    PE X (.Call (.Name "isinstance" p) [a, .Name T p2] [] pos) (tD G (dIsi q fa)) := by
  have hb : PE X (.Name T p2) (tC (.ty Ts)) := pe_bltn hgT hT hv rfl hn hdt
  refine pe_weak (pe_callB call_isi hg hm (by decide +kernel) (pa_cons ha (pa_cons hb pa_nil he2) he) (by decide) (by decide) he hpl) fun σ H Q h => ?_
  obtain ⟨C, As, ρ, τ, Qd, R, hf, k⟩ := h
  refine ⟨C, As, ρ, τ, _, R, hf, fun C1 H1 v x τ1 s1 R1 d1 q1 => ?_⟩
  match x, d1, q1 with
  | .da d, d1, q1 =>
    have hd := VOk.dv d1
    refine ⟨v, .ty Ts, .type (tyName d), .type Ts, q d, rfl, .ty Ts, ty_ok R1.base.core hd, kit_ty (hq d fun z e => by subst e; exact hd), ?_⟩
    exact k C1 H1 _ (.da (.bool (q d))) τ1 s1 R1 ⟨_, rfl, rfl⟩ q1
theorem kit_int : ∀ d, (∀ z, d ≠ .dict z) → kitB (tyName d) "int" = some (isInt d) := fun d h => by
  cases d with
  | dict z => exact absurd rfl (h z)
  | none => show kitB "NoneType" "int" = some false; decide +kernel
  | bool _ => show kitB "bool" "int" = some true; decide +kernel
  | int _ => show kitB "int" "int" = some true; decide +kernel
  | str _ => show kitB "str" "int" = some false; decide +kernel
  | list _ => show kitB "list" "int" = some false; decide +kernel
  | tuple _ => show kitB "tuple" "int" = some false; decide +kernel
theorem kit_bool : ∀ d, (∀ z, d ≠ .dict z) → kitB (tyName d) "bool" = some (isBool d) := fun d h => by
  cases d with
  | dict z => exact absurd rfl (h z)
  | none => show kitB "NoneType" "bool" = some false; decide +kernel
  | bool _ => show kitB "bool" "bool" = some true; decide +kernel
  | int _ => show kitB "int" "bool" = some false; decide +kernel
  | str _ => show kitB "str" "bool" = some false; decide +kernel
  | list _ => show kitB "list" "bool" = some false; decide +kernel
  | tuple _ => show kitB "tuple" "bool" = some false; decide +kernel
theorem kit_tuple : ∀ d, (∀ z, d ≠ .dict z) → kitB (tyName d) "tuple" = some (isTuple d) := fun d h => by
  cases d with
  | dict z => exact absurd rfl (h z)
  | none => show kitB "NoneType" "tuple" = some false; decide +kernel
  | bool _ => show kitB "bool" "tuple" = some false; decide +kernel
  | int _ => show kitB "int" "tuple" = some false; decide +kernel
  | str _ => show kitB "str" "tuple" = some false; decide +kernel
  | list _ => show kitB "list" "tuple" = some false; decide +kernel
  | tuple _ => show kitB "tuple" "tuple" = some true; decide +kernel
theorem kit_str : ∀ d, (∀ z, d ≠ .dict z) → kitB (tyName d) "str" = some (isStr d) := fun d h => by
  cases d with
  | dict z => exact absurd rfl (h z)
  | none => show kitB "NoneType" "str" = some false; decide +kernel
  | bool _ => show kitB "bool" "str" = some false; decide +kernel
  | int _ => show kitB "int" "str" = some false; decide +kernel
  | str _ => show kitB "str" "str" = some true; decide +kernel
  | list _ => show kitB "list" "str" = some false; decide +kernel
  | tuple _ => show kitB "tuple" "str" = some false; decide +kernel
end
end DL
namespace DL
open PySem PySem.Spec PyProof.Rows PySem.W L2
section
variable {prog : Program} {w : World} {A : Around} {E : Value → Shared → Prop} {s : Shared}
/-- sorted(x), x a list or a tuple of data -/
theorem sorted_seq {p : Addr} {T : String} {o : Obj} {n : Nat} {vs : List Value} {ds : List PyData} {R : Value → PyData → Prop} {Q : Value → Shared → Prop} (hT : T = "list" ∨ T = "tuple") (ho : s.heap.get? p = some o) (hc : o.cls = .type T) (hd : o.data = .seq vs.toArray n)
    (e : EachIs R vs ds) (er : EachIs (fun v d => ∃ as, Reads s.heap v d as) vs ds) (hal : AllAlike ds) (hk : Sortable ds) (hL : ds.length ≤ sizeLine) (hu : ∀ d, d ∈ ds → A.units + 2 + d.depth < cLine)
    (h : ∀ (h' h2 : Heap) (out : List Value) (c : Nat), (∀ b o, s.heap.get? b = some o → h'.get? b = some o) → (∀ b o, h'.get? b = some o → h2.get? b = some o) → h2.get? h'.objs.size = some (seqObj "list" out.toArray c) → EachIs R out (ds.mergeSort (dataLe false id)) → Q (.ref h'.objs.size) { s with heap := h2 }) :
    wpAny (model prog w) A (call (.builtin "sorted") [.ref p]) Q E s := by
  have hl : vs.length = ds.length := e.length
  refine call_function_entry_kw kind_sorted plain_sorted entry_sorted (args_sorted1 _) ?_
  unfold Builtin.«sorted»
  refine wpAny_bind (m := checkCount "sorted" 1 1 _) (wpAny_pure ?_)
  refine wpAny_bind (wpAny_collect_seq p hT ho hc hd (fun h' kp => ?_) (by rw [List.size_toArray, hl]; exact hL))
  refine wpAny_bind (wpAny_newList ?_ (by show vs.length ≤ sizeLine; rw [hl]; exact hL))
  have hX : (h'.push { cls := .type "list", data := .seq vs.toArray }).get? h'.objs.size = some (seqObj "list" vs.toArray 0) := Heap.get?_push_size _ rfl
  have old : ∀ b o, s.heap.get? b = some o → (sortingHeap (h'.push { cls := .type "list", data := .seq vs.toArray }) h'.objs.size vs).get? b = some o := fun b o q =>
    sortingHeap_old (Nat.ne_of_lt (Heap.lt_size (kp b o q))) (Heap.get?_push_of_some _ (kp b o q))
  have er' : EachIs (fun v d => ∃ as, Reads (sortingHeap (h'.push { cls := .type "list", data := .seq vs.toArray }) h'.objs.size vs) v d as) vs ds := er.mono fun _ _ ⟨as, r⟩ => ⟨as, PyProof.Rows.Reads.keeps old r⟩
  have hal' : AllAlike (ds.map id) := by rw [List.map_id]; exact hal
  show wpAny _ _ _ _ _ { s with heap := h'.push { cls := .type "list", data := .seq vs.toArray } }
  refine wpAny_bind (wpAny_holding (wpAny_call_entry_kw slot_list_sort ⟨_, hX, rfl⟩ entry_list_sort ?body (args_list_sort _)))
  case body =>
    show wpAny (model prog w) A.in1.in1 (Builtin.«list.sort» ⟨[.ref h'.objs.size], []⟩) _ _ { s with heap := h'.push { cls := .type "list", data := .seq vs.toArray } }
    refine list_sort_vals (s := { s with heap := h'.push { cls := .type "list", data := .seq vs.toArray } }) (κ := dataKind (sortingHeap (h'.push { cls := .type "list", data := .seq vs.toArray }) h'.objs.size vs) ds) hX (SortsAt.data (s := { s with heap := sortingHeap (h'.push { cls := .type "list", data := .seq vs.toArray }) h'.objs.size vs }) er' hal hk fun d hd' => hu d hd') (by rw [hl]; exact hL) ?_
    refine ⟨_, rfl, wpAny_pure ⟨_, rfl, ?_⟩⟩
    obtain ⟨c, hcc⟩ := sortedHeap_at (vs := vs) (out := (sortVals (dataKind (sortingHeap (h'.push { cls := .type "list", data := .seq vs.toArray }) h'.objs.size vs) ds) false vs vs).toArray) hX
    refine h h' _ _ c kp (fun b o q => ?_) hcc ?_
    · rw [sortedHeap_old (Nat.ne_of_lt (Heap.lt_size q)) (by rw [Heap.size_push]; exact Nat.lt_succ_of_lt (Heap.lt_size q))]
      exact Heap.get?_push_of_some _ q
    · have z := sortVals_data (enc := id) false e er' hal'
      rw [List.map_id] at z
      exact z
end
theorem EachIs.of_vals {R : Value → PyData → Prop} {H : Hp} (hR : ∀ u d v, RelV v u → Dv H d v → R u d) : ∀ {vs : List V} {us : List Value} {ds : List PyData}, Vals vs us → DvA H ds vs → EachIs R us ds
  | _, _, [], h, e => by cases e; cases h; exact .nil
  | _, _, d :: ds, h, ⟨v, ws, e1, e2, e3⟩ => by
    cases e1
    cases h with
    | cons r t => exact .cons (hR _ _ _ r e2) (EachIs.of_vals hR t e3)
theorem EachIs.to_vals {H : Hp} : ∀ {us : List Value} {ds : List PyData}, EachIs (fun u d => ∃ v, RelV v u ∧ Dv H d v) us ds → ∃ vs, Vals vs us ∧ DvA H ds vs
  | _, _, .nil => ⟨[], .nil, rfl⟩
  | _, _, .cons ⟨v, r, d⟩ t => by
    obtain ⟨vs, h1, h2⟩ := EachIs.to_vals t
    exact ⟨v :: vs, .cons r h1, v, vs, rfl, d, h2⟩
section
variable {X : Cx}
def rSortD : List V → Hp → VK → Prop := fun xs H Q => ∃ p vs ds C, xs = [.ref p] ∧ (H p = some (.lst vs) ∨ TpO H p vs) ∧ Same C H ∧ DvA C ds vs ∧ AllAlike ds ∧ Sortable ds ∧ (∀ d, d ∈ ds → d.depth ≤ 64) ∧
  ∀ l us, H l = none → us.length ≤ sizeLine → DvA C (ds.mergeSort (dataLe false id)) us → Q (.ref l) (L2.upd H l (.lst us))
theorem call_sortedD (hu : X.A.units + 66 < cLine) : CallR X (.builtin "sorted") rSortD := by
  intro pins s σ H xs us Q I r h
  obtain ⟨p, vs, ds, C, rfl, hp, eC, dv, hal, hk, hdp, q⟩ := h
  obtain ⟨u, rfl, rx⟩ := vals1 r
  cases rx
  have main : ∀ (T : String) (o : Obj) (n : Nat) (its : List Value), (T = "list" ∨ T = "tuple") → s.heap.get? p = some o → o.cls = .type T → o.data = .seq its.toArray n → Vals vs its → vs.length ≤ sizeLine → wpAny (model X.prog X.w) X.A (call (.builtin "sorted") [.ref p]) (EP X pins σ Q) X.xe s := by
    intro T o n its hT ho hc hd rv hz
    refine sorted_seq (R := fun u d => ∃ v, RelV v u ∧ Dv C d v) hT ho hc hd (EachIs.of_vals (fun u d v a b => ⟨v, a, b⟩) rv dv) (EachIs.of_vals (fun u d v a b => Dp.reads I d v u (b.mono eC).dp a) rv dv) hal hk (by rw [← dv.length]; exact hz) (fun d hd' => by have := hdp d hd'; omega) ?_
    intro h' h2 out c kp kp2 hl e
    obtain ⟨ws, rv2, dv2⟩ := EachIs.to_vals e
    have I1 : Inv X pins σ H { s with heap := h' } := I.kept (t' := s.toks) kp
    have hn : H h'.objs.size = none := I1.hok.fresh (Nat.le_refl _)
    have hwl : ws.length ≤ sizeLine := by
      have h1 : ws.length = ds.length := by rw [dv2.length, List.length_mergeSort]
      rw [h1, ← dv.length]; exact hz
    exact ⟨.ref h'.objs.size, _, I1.laid (t' := s.toks) kp2 (Nat.le_refl _) (show ObjOk X.prog X.w _ h2 _ (.lst ws) from ⟨hwl, out, c, rv2, hl⟩), rfl, q _ ws hn hwl dv2⟩
  rcases hp with hp | hp
  · obtain ⟨its, rv, pl, hz⟩ := I.list (SqL.of hp)
    obtain ⟨o, ho, hc, n, hd⟩ := pl.isList
    exact main "list" o n its (.inl rfl) ho hc hd rv hz
  · obtain ⟨its, rv, pl, hz⟩ := I.tuple hp.sq
    obtain ⟨o, ho, hc, n, hd⟩ := pl
    exact main "tuple" o n its (.inr rfl) ho hc hd rv hz
end
end DL
namespace DL
open PySem PySem.Spec PyProof.Rows L2
section
variable {X : Cx} {G : Gx} {e a b c : Expr} {es : List Expr} {f fa fb fc : TD} {pos p : Pos} {n : Nat} {g : TDA} {tg : Expr}
/-! ### one operator for all kinds -/
theorem OkR.or1 {r r' : R2} {o : Op2} (h : OkR r o) : OkR (fun x y H Q => r x y H Q ∨ r' x y H Q) o := fun b hx hy q k => .inl (h b hx hy q k)
theorem OkR.or2 {r r' : R2} {o : Op2} (h : OkR r' o) : OkR (fun x y H Q => r x y H Q ∨ r' x y H Q) o := fun b hx hy q k => .inr (h b hx hy q k)
inductive Kd where | int | tup | str | lst
def kdOf : Sl → Kd
  | .da (.int _) => .int
  | .da (.tuple _) => .tup
  | .da (.str _) => .str
  | _ => .lst
/-- +: ints, tuples, texts, lists, by the left one's kind -/
def oPlus : Op2 := fun x y τ Q => match kdOf x with
  | .int => oAdd x y τ Q
  | .tup => oCatT x y τ Q
  | .str => oCatS x y τ Q
  | .lst => oCatL x y τ Q
theorem d_plus (ha : PE X a (tD G fa)) (hb : PE X b (tD G fb)) : PE X (.BinOp a .Add b pos) (tD G (dBin oPlus fa fb)) := by
  refine d_bin (op_add.or (op_catF.or (op_add_str.or op_cat))) ?_ ha hb
  intro mg As C H τ x y vx vy Q Qd bs hx hy o k
  unfold oPlus at o
  cases q : kdOf x with
  | int => rw [q] at o; exact .inl (ok_I (by intros; rfl) bs hx hy o k)
  | tup => rw [q] at o; exact .inr (.inl (ok_catT bs hx hy o k))
  | str => rw [q] at o; exact .inr (.inr (.inl (ok_catS bs hx hy o k)))
  | lst => rw [q] at o; exact .inr (.inr (.inr (ok_catL bs hx hy o k)))
/-- *: one factor below 2 ^ 64, or both wide -/
def CM (i j : Int) : Prop := CMul i j ∨ CMulW i j
def oTimes : Op2 := oIC CM fun i j => .int (i * j)
theorem d_times (ha : PE X a (tD G fa)) (hb : PE X b (tD G fb)) : PE X (.BinOp a .Mult b pos) (tD G (dBin oTimes fa fb)) := by
  refine d_bin (op_mul.or op_mulW) ?_ ha hb
  intro mg As C H τ x y vx vy Q Qd bs hx hy o k
  match x, y, hx, hy, o with
  | .da (.int i), .da (.int j), hx, hy, ⟨hc, o⟩ =>
    have fin := k C H (.int (i * j)) (.int (i * j)) (Step.refl _ _ _) bs rfl o
    rcases hc with hc | hc
    · exact .inl ⟨i, j, VOk.dv hx, VOk.dv hy, hc, fin⟩
    · exact .inr ⟨i, j, VOk.dv hx, VOk.dv hy, hc, fin⟩
def CD (i j : Int) : Prop := CDiv i j ∨ CDivW i j
def oOver : Op2 := oIC CD fun i j => .int (i / j)
theorem d_over (ha : PE X a (tD G fa)) (hb : PE X b (tD G fb)) : PE X (.BinOp a .FloorDiv b pos) (tD G (dBin oOver fa fb)) := by
  refine d_bin (op_fdiv.or op_fdivW) ?_ ha hb
  intro mg As C H τ x y vx vy Q Qd bs hx hy o k
  match x, y, hx, hy, o with
  | .da (.int i), .da (.int j), hx, hy, ⟨hc, o⟩ =>
    have fin := k C H (.int (i / j)) (.int (i / j)) (Step.refl _ _ _) bs rfl o
    rcases hc with hc | hc
    · exact .inl ⟨i, j, VOk.dv hx, VOk.dv hy, hc, fin⟩
    · exact .inr ⟨i, j, VOk.dv hx, VOk.dv hy, hc, fin⟩
/-! ### sorted -/
def SortOk (ds : List PyData) : Prop := PySem.W.AllAlike ds ∧ PySem.W.Sortable ds ∧ ∀ d, d ∈ ds → d.depth ≤ 64
def sortD (ds : List PyData) : List PyData := ds.mergeSort (PySem.W.dataLe false id)
def oSort : OpC := fun xs τ Q => match xs with
  | [x] => match seqOf τ x with
    | some ds => SortOk ds ∧ Q (.list (sortD ds))
    | none => False
  | _ => False
theorem ok_sort : OkC rSortD oSort := fun {mg As C H τ xs vs Q Qd} b ha o k => by
  match xs, ha, o with
  | [x], ha, o =>
    obtain ⟨v, rfl, hv⟩ := arg1 ha
    unfold oSort at o
    cases q : seqOf τ x with
    | none => simp only [q] at o
    | some ds =>
      simp only [q] at o
      obtain ⟨r, ws, e1, e2, e3⟩ := seqOf_ok b hv q
      subst e1
      refine ⟨r, ws, ds, C, rfl, e2, b.core, e3, o.1.1, o.1.2.1, o.1.2.2, fun l us hl hz hd => ?_⟩
      have st := Step.new (As := As) (o := .lst us) hl b.core
      exact k _ _ _ (.list (sortD ds)) st (b.new hl hz) ⟨l, us, rfl, upd_same, hd.mono st.ex⟩ o.2
theorem d_sorted (ha : PA X [a] (tDA G n g)) (hm : X.mg "sorted" = none) (hu : X.A.units + 66 < cLine) (hg : Gl X "sorted" := by rfl) (he : starEach [a] X.env = (false, eval a X.env) :: starEach [] X.env := by rfl) (hpl : (backTo pos (starEach [] X.env)).any (·.1) = false := by rfl) : PE X (.Call (.Name "sorted" p) [a] [] pos) (tD G (dCB oSort g)) :=
  d_callB (call_sortedD hu) ok_sort hg hm (by decide +kernel) ha (by decide) (by decide) he hpl
theorem sortOk_ints (ns : List Int) : SortOk (ns.map .int) := by
  refine ⟨PySem.W.AllAlike.of (fun _ _ => rfl), PySem.W.Sortable.others (fun b => ⟨fun z => (nomatch z), fun xs z => (nomatch z)⟩), fun d hd => ?_⟩
  obtain ⟨i, _, rfl⟩ := List.mem_map.mp hd
  simp [PyData.depth]
def sortI (ns : List Int) : List Int := ns.mergeSort (fun a b => decide (a ≤ b))
theorem sortD_ints (ns : List Int) : sortD (ns.map .int) = (sortI ns).map .int := by
  unfold sortD sortI
  refine (PySem.W.sort_maps (r := fun a b => decide (a ≤ b)) PyData.int fun a _ b _ => ?_).symm
  have := congrFun (congrFun (PySem.W.dataLe_int (fun i : Int => i)) a) b
  exact this.symm
/-! ### what is walked: a list or a tuple -/
theorem pi_seq {l : Expr} (hl : PE X l (tD G f)) : PI X tg l (fun σ H R => tD G f σ H fun x H1 => ∃ a xs, x = .ref a ∧ ((H1 a = some (.lst xs) ∧ R (Itl X.K a) H1) ∨ (TpO H1 a xs ∧ R (Itt X.K a) H1))) := by
  refine ⟨fun pins s σ H R I h => ?_⟩
  refine thn (hl.run pins s σ H _ I h) fun v s1 ⟨x, H1, I1, r1, q1⟩ => ?_
  obtain ⟨a, xs, ex, q⟩ := q1
  subst ex
  cases r1
  rcases q with ⟨hq, q⟩ | ⟨hq, q⟩
  · obtain ⟨its, rv, p, hz⟩ := I1.list (SqL.of hq)
    refine wpAny_pyIter_list p.isList ?_
    refine ⟨s1.heap.objs.size, [s1.heap.objs.size], _, _, H1, rfl, I1.kept (t' := s1.toks) fun b o e => Heap.get?_push_of_some _ e, turn_list a _, ⟨_, Heap.get?_push_size _ rfl, rfl, rfl⟩, fun b hb => ?_, q⟩
    have e : b = s1.heap.objs.size := by simpa using hb
    subst e
    exact I1.fpOk (Nat.le_refl _) (I1.hok.fresh (Nat.le_refl _))
  · obtain ⟨its, rv, p, hz⟩ := I1.tuple hq.sq
    refine wpAny_pyIter_tuple (show s1.heap.IsTuple a its.toArray from p) ?_
    refine ⟨s1.heap.objs.size, [s1.heap.objs.size], _, _, H1, rfl, I1.kept (t' := s1.toks) fun b o e => Heap.get?_push_of_some _ e, turn_tuple a _, ⟨_, Heap.get?_push_size _ rfl, rfl, rfl⟩, fun b hb => ?_, q⟩
    have e : b = s1.heap.objs.size := by simpa using hb
    subst e
    exact I1.fpOk (Nat.le_refl _) (I1.hok.fresh (Nat.le_refl _))
theorem itd_list {K : PySem.W.Frag} {C : Hp} {p : Addr} {vs : List V} {ds : List PyData} (e2 : C p = some (.lst vs)) (e3 : DvA C ds vs) : ItD C (Itl K p) ds := by
  have sq : ∀ H2, Same C H2 → SqL K H2 p vs := fun H2 z => SqL.of (z _ _ e2)
  refine ⟨fun i H2 z l => ⟨vs, sq _ z, by rw [e3.length]; exact l⟩, fun i H2 d z hi => ?_⟩
  obtain ⟨x, hx, dx⟩ := e3.at hi
  exact ⟨⟨vs, x, sq _ z, hx⟩, fun y H3 ⟨h1, h2⟩ => .inl ⟨h1, by have h3 := h2 vs (sq _ z); rw [hx] at h3; cases h3; exact dx⟩⟩
theorem itd_tup {K : PySem.W.Frag} {C : Hp} {p : Addr} {vs : List V} {ds : List PyData} (e2 : TpO C p vs) (e3 : DvA C ds vs) : ItD C (Itt K p) ds := by
  have sq : ∀ H2, Same C H2 → SqT K H2 p vs := fun H2 z => (e2.mono z).sq
  refine ⟨fun i H2 z l => ⟨vs, sq _ z, by rw [e3.length]; exact l⟩, fun i H2 d z hi => ?_⟩
  obtain ⟨x, hx, dx⟩ := e3.at hi
  exact ⟨⟨vs, x, sq _ z, hx⟩, fun y H3 ⟨h1, h2⟩ => .inl ⟨h1, by have h3 := h2 vs (sq _ z); rw [hx] at h3; cases h3; exact dx⟩⟩
def dISeq (f : TD) : TDI := fun ρ τ Q er => f ρ τ (fun r τ1 => match r with
  | .da d => match seqD d with
    | some ds => Q ds τ1
    | none => False
  | _ => False) er
theorem i_seq (hl : PE X a (tD G f)) : PI X tg a (iD G (dISeq f)) := pi_weak (pi_seq hl) fun σ H R h => by
  obtain ⟨C, As, ρ, τ, Qd, Rl, hf, k⟩ := h
  refine ⟨C, As, ρ, τ, _, Rl, hf, fun C1 H1 v r τ1 s1 R1 d1 q1 => ?_⟩
  match r, d1, q1 with
  | .da (.list ds), d1, q1 =>
    obtain ⟨p, vs, e1, e2, e3⟩ := VOk.dv d1
    exact ⟨p, vs, e1, .inl ⟨R1.base.core _ _ e2, k C1 H1 _ ds τ1 s1 R1 (itd_list e2 e3) (by have := R1.base.sz _ _ e2; rw [← e3.length]; exact this) q1⟩⟩
  | .da (.tuple ds), d1, q1 =>
    obtain ⟨p, vs, e1, e2, e3⟩ := VOk.dv d1
    exact ⟨p, vs, e1, .inr ⟨e2.mono R1.base.core, k C1 H1 _ ds τ1 s1 R1 (itd_tup e2 e3) (by obtain ⟨o, e2, _⟩ := e2.ex; have := R1.base.sz _ _ e2; rw [← e3.length]; exact this) q1⟩⟩
/-- reversed -/
theorem rev_at {α : Type} {xs : List α} {i : Nat} (h : i < xs.length) : xs.reverse[i]? = xs[xs.length - 1 - i]? := by
  rw [List.getElem?_reverse h]
def dIRev (f : TD) : TDI := fun ρ τ Q er => f ρ τ (fun r τ1 => match r with
  | .da d => match seqD d with
    | some ds => Q ds.reverse τ1
    | none => False
  | _ => False) er
theorem i_rev {p : Pos} (hl : PE X a (tD G f)) (hm : X.mg "reversed" = none) (hg : Gl X "reversed" := by rfl) (hs : starEach [a] X.env = (false, eval a X.env) :: starEach [] X.env := by rfl) : PI X tg (.Call (.Name "reversed" p) [a] [] pos) (iD G (dIRev f)) := pi_weak (RT.pi_revA hg hm hl hs) fun σ H R h => by
  obtain ⟨C, As, ρ, τ, Qd, Rl, hf, k⟩ := h
  refine ⟨C, As, ρ, τ, _, Rl, hf, fun C1 H1 v r τ1 s1 R1 d1 q1 => ?_⟩
  match r, d1, q1 with
  | .da (.list ds), d1, q1 =>
    obtain ⟨p, vs, e1, e2, e3⟩ := VOk.dv d1
    have hz : ds.reverse.length ≤ sizeLine := by have := R1.base.sz _ _ e2; rw [List.length_reverse, ← e3.length]; exact this
    refine ⟨p, vs, e1, .inl ⟨SqL.of (R1.base.core _ _ e2), k C1 H1 _ ds.reverse τ1 s1 R1 ⟨fun i H2 z l => ?_, fun i H2 d z hi => ?_⟩ hz q1⟩⟩
    · show vs.length ≤ i
      rw [e3.length]; rw [List.length_reverse] at l; exact l
    · have hi' : i < ds.length := by
        have := (List.getElem?_eq_some_iff.mp hi).1
        rwa [List.length_reverse] at this
      rw [rev_at hi'] at hi
      obtain ⟨x, hx, dx⟩ := e3.at hi
      rw [← e3.length] at hx
      exact ⟨⟨by rw [e3.length]; exact hi', vs, x, SqL.of (z _ _ e2), hx⟩, fun y H3 ⟨h1, h2⟩ => .inl ⟨h1, by have h3 := h2 vs (SqL.of (z _ _ e2)); rw [hx] at h3; cases h3; exact dx⟩⟩
  | .da (.tuple ds), d1, q1 =>
    obtain ⟨p, vs, e1, e2, e3⟩ := VOk.dv d1
    have hz : ds.reverse.length ≤ sizeLine := by obtain ⟨o, e2, _⟩ := e2.ex; have := R1.base.sz _ _ e2; rw [List.length_reverse, ← e3.length]; exact this
    refine ⟨p, vs, e1, .inr ⟨(e2.mono R1.base.core).sq, k C1 H1 _ ds.reverse τ1 s1 R1 ⟨fun i H2 z l => ?_, fun i H2 d z hi => ?_⟩ hz q1⟩⟩
    · show vs.length ≤ i
      rw [e3.length]; rw [List.length_reverse] at l; exact l
    · have hi' : i < ds.length := by
        have := (List.getElem?_eq_some_iff.mp hi).1
        rwa [List.length_reverse] at this
      rw [rev_at hi'] at hi
      obtain ⟨x, hx, dx⟩ := e3.at hi
      rw [← e3.length] at hx
      exact ⟨⟨by rw [e3.length]; exact hi', vs, x, (e2.mono z).sq, hx⟩, fun y H3 ⟨h1, h2⟩ => .inl ⟨h1, by have h3 := h2 vs ((e2.mono z).sq); rw [hx] at h3; cases h3; exact dx⟩⟩
/-! ### slices -/
abbrev TDO := TDx (Option Int)
def oD (G : Gx) (f : TDO) : TO := fun σ H Q => ∃ C As ρ τ Qd, Rel G C As ρ τ σ H ∧ f ρ τ Qd G.err ∧ ∀ C' H' o τ', Step As C H C' H' → Rel G C' As ρ τ' σ H' → Qd o τ' → Q o H'
def dNo : TDO := fun _ τ Q _ => Q none τ
def dSo (f : TD) : TDO := fun ρ τ Q er => f ρ τ (fun x τ1 => match x with
  | .da (.int i) => Q (some i) τ1
  | _ => False) er
theorem po_weak {e : Option Expr} {t t' : TO} (h : PO X e t) (w : ∀ σ H Q, t' σ H Q → t σ H Q) : PO X e t' := ⟨fun pins s σ H Q I q => h.run pins s σ H Q I (w σ H Q q)⟩
theorem o_no : PO X none (oD G dNo) := po_weak po_none fun σ H Q h => by
  obtain ⟨C, As, ρ, τ, Qd, R, hf, k⟩ := h
  exact k C H none τ (Step.refl _ _ _) R hf
theorem o_so (h : PE X e (tD G f)) : PO X (some e) (oD G (dSo f)) := po_weak (po_some h) fun σ H Q h => by
  obtain ⟨C, As, ρ, τ, Qd, R, hf, k⟩ := h
  refine ⟨C, As, ρ, τ, _, R, hf, fun C1 H1 v x τ1 s1 R1 d1 q1 => ?_⟩
  match x, d1, q1 with
  | .da (.int i), d1, q1 => exact ⟨i, VOk.dv d1, k C1 H1 (some i) τ1 s1 R1 q1⟩
def cutD (xs : List PyData) (lo hi : Option Int) : List PyData := (xs.drop (HT.sIx xs.length 0 lo)).take (HT.sIx xs.length xs.length hi - HT.sIx xs.length 0 lo)
theorem cut_dv {C : Hp} {ds : List PyData} {vs : List V} (h : DvA C ds vs) (lo hi : Option Int) : DvA C (cutD ds lo hi) (cutV vs lo hi) := by
  unfold cutD cutV
  rw [h.length]
  exact (h.drop _).take _
theorem cut_whole {ds : List PyData} {lo hi : Option Int} (h : HT.sIx ds.length 0 lo = 0 ∧ HT.sIx ds.length ds.length hi = ds.length) : cutD ds lo hi = ds := by
  unfold cutD
  rw [h.1, h.2]
  simp
def oSl : Sl → Option Int → Option Int → Rs → (PyData → Prop) → Prop := fun x lo hi τ Q => match dat τ x with
  | some (.tuple ds) => Q (.tuple (cutD ds lo hi))
  | some (.list ds) => Q (.list (cutD ds lo hi))
  | _ => False
def dSl (f : TD) (l h : TDO) : TD := fun ρ τ Q er => f ρ τ (fun x τ1 => l ρ τ1 (fun lo τ2 => h ρ τ2 (fun hi τ3 => oSl x lo hi τ3 (fun z => Q (.da z) τ3)) er) er) er
theorem sl_sz : SlR X (fun x lo hi H Q => ∃ a xs, x = .ref a ∧ H a = some (.lst xs) ∧ ∀ p, H p = none → xs.length ≤ sizeLine → Q (.ref p) (upd H p (.lst (cutV xs lo hi)))) := by
  intro pins s σ H x v vl vu lo hi sl Q I rx hs pl pu h
  obtain ⟨a, xs, e, h1, h2⟩ := h
  exact sl_list pins s σ H x v vl vu lo hi sl Q I rx hs pl pu ⟨a, xs, e, SqL.of h1, fun p hp => h2 p hp (szTup I (.inl h1))⟩
theorem sl_szT : SlR X (fun x lo hi H Q => ∃ a xs, x = .ref a ∧ TpO H a xs ∧ (HT.sIx xs.length 0 lo = 0 ∧ HT.sIx xs.length xs.length hi = xs.length → Q (.ref a) H) ∧ (∀ p o, H p = none → o.dict = none → xs.length ≤ sizeLine → Q (.ref p) (L2.upd H p (.frz o (.tup (cutV xs lo hi)))))) := by
  rintro pins s σ H x v vl vu lo hi sl Q I rx hs pl pu ⟨a, xs, e, h1, h2, h3⟩
  subst e
  by_cases hw : HT.sIx xs.length 0 lo = 0 ∧ HT.sIx xs.length xs.length hi = xs.length
  · exact sl_tupA pins s σ H _ v vl vu lo hi sl Q I rx hs pl pu ⟨a, xs, rfl, h1.sq, h2, fun n => absurd hw n⟩
  · cases rx
    have ⟨its, r, ht, hz⟩ := I.tuple (h1.sq (K := X.K))
    have hlen : its.toArray.size = xs.length := by rw [List.size_toArray, r.length]
    refine ⟨"tuple", _, PyProof.Rows.slot_tuple_getitem.lookup, ht.typeIs, HT.getItem_tuple_cut ht hs pl pu (by rw [hlen]; exact hw) ?_ (by rw [hlen]; exact hz)⟩
    rw [hlen]
    exact ⟨.ref s.heap.objs.size, _, I.laid (t' := s.toks) (o := .frz _ (.tup (cutV xs lo hi))) (fun _ _ => Heap.get?_push_of_some _) (Nat.le_refl _) ⟨Heap.get?_push_size _ rfl, Nat.le_trans (cutV_length xs lo hi) hz, _, (r.drop _).take _, IsTup.new _ _⟩, rfl, h3 _ _ (I.hok.fresh (Nat.le_refl _)) rfl hz⟩
theorem d_slice {lo hi : Option Expr} {p2 : Pos} {l h : TDO} (he : PE X e (tD G f)) (hl : PO X lo (oD G l)) (hh : PO X hi (oD G h)) : PE X (.Subscript e (.Slice lo hi none p2) pos) (tD G (dSl f l h)) :=
  pe_weak (pe_slice (sl_sz.or sl_szT) he hl hh) fun σ H Q hw => by
    obtain ⟨C, As, ρ, τ, Qd, R, hf, k⟩ := hw
    refine ⟨C, As, ρ, τ, _, R, hf, fun C1 H1 v x τ1 s1 R1 d1 q1 => ⟨C1, As, ρ, τ1, _, R1, q1, fun C2 H2 lo τ2 s2 R2 q2 => ⟨C2, As, ρ, τ2, _, R2, q2, fun C3 H3 hi τ3 s3 R3 q3 => ?_⟩⟩⟩
    have d3 : VOk C3 As v x := SlOk.mono s3.ex (SlOk.mono s2.ex d1)
    unfold oSl at q3
    cases q : dat τ3 x with
    | none => rw [q] at q3; exact q3.elim
    | some d =>
      rw [q] at q3
      match d, q, q3 with
      | .list ds, q, q3 =>
        obtain ⟨p, vs, e1, e2, e3⟩ := lst_ok R3.base d3 q
        refine .inl ⟨p, vs, e1, e2, fun r hr hz => ?_⟩
        have st := Step.new (As := As) (o := .lst (cutV vs lo hi)) hr R3.base.core
        exact k _ _ _ (.da (.list (cutD ds lo hi))) τ3 (((s1.trans s2).trans s3).trans st) (R3.go st (R3.base.new hr (Nat.le_trans (cutV_length _ _ _) hz))) ⟨_, rfl, r, _, rfl, upd_same, (cut_dv e3 lo hi).mono st.ex⟩ q3
      | .tuple ds, q, q3 =>
        match x, d3, q with
        | .da d, d3, q =>
          cases q
          obtain ⟨p, vs, e1, e2, e3⟩ := VOk.dv d3
          refine .inr ⟨p, vs, e1, e2.mono R3.base.core, fun hw => ?_, fun r o hr ho hz => ?_⟩
          · rw [e3.length] at hw
            have q4 : Qd (.da (.tuple (cutD ds lo hi))) τ3 := q3
            rw [cut_whole hw] at q4
            subst e1
            exact k C3 H3 _ (.da (.tuple ds)) τ3 ((s1.trans s2).trans s3) R3 d3 q4
          · have st := Step.new (As := As) (o := .frz o (.tup (cutV vs lo hi))) hr R3.base.core
            exact k _ _ _ (.da (.tuple (cutD ds lo hi))) τ3 (((s1.trans s2).trans s3).trans st) (R3.go st (R3.base.new hr (Nat.le_trans (cutV_length _ _ _) hz))) ⟨_, rfl, r, _, rfl, .new ho, (cut_dv e3 lo hi).mono st.ex⟩ q3
        | .res j, d3, q =>
          have q : (match τ3[j]? with
            | some (RS.lst ds) => some (PyData.list ds)
            | _ => none) = some (.tuple ds) := q
          cases z : τ3[j]? with
          | none => rw [z] at q; cases q
          | some r => rw [z] at q; cases r <;> cases q
end
end DL
namespace DL
open PySem PySem.Spec PyProof.Rows L2
section
variable {X : Cx} {G : Gx} {e a b c : Expr} {es : List Expr} {f fa fb fc : TD} {pos p : Pos} {n : Nat} {g : TDA}
/-! ### resources: a new list that may be changed -/
theorem Rel.push {C H : Hp} {As : List Addr} {ρ : Ds} {τ : Rs} {σ : L2.St} {q : Addr} {vs : List V} {ds : List PyData} (R : Rel G C As ρ τ σ H) (hq : H q = none) (dv : DvA C ds vs) :
    Rel G C (As ++ [q]) ρ (τ ++ [.lst ds]) σ (upd H q (.lst vs)) := by
  have nA : q ∉ As := fun z => (R.base.off q z).2 hq
  have cq : C q = none := by
    cases z : C q with
    | none => rfl
    | some o => rw [R.base.core _ _ z] at hq; cases hq
  have kp : ∀ a o, H a = some o → upd H q (.lst vs) a = some o := fun a o h => by rw [upd_ne (ne_of_none h hq)]; exact h
  have h0 : G.H0 q = none := by
    cases z : G.H0 q with
    | none => rfl
    | some o => exact absurd hq (R.step.there q (by rw [z]; exact fun w => nomatch w))
  have th : ∀ a, H a ≠ none → upd H q (.lst vs) a ≠ none := fun a h => by
    cases z : H a with
    | none => exact absurd z h
    | some o => rw [kp a o z]; exact fun w => nomatch w
  refine ⟨⟨fun a o h => kp a o (R.base.core _ _ h), ?_, by simp [R.base.len], fun r hr => ?_, fun k r s h1 h2 => ?_, R.base.sz⟩, ⟨R.step.ex, fun a o h n => kp a o (R.step.keep a o h n), fun a h => th a (R.step.there a h), R.step.out⟩,
    R.pre.trans (List.prefix_append _ _), fun r hr => ?_, R.len, fun i r hi => ?_⟩
  · rw [List.nodup_append]
    exact ⟨R.base.nd, by simp, fun x hx y hy z => by simp at hy; subst hy; subst z; exact nA hx⟩
  · rcases List.mem_append.mp hr with hr | hr
    · exact ⟨(R.base.off r hr).1, th r (R.base.off r hr).2⟩
    · simp at hr; subst hr; exact ⟨cq, by rw [upd_same]; exact fun w => nomatch w⟩
  · by_cases hk : k < As.length
    · rw [List.getElem?_append_left hk] at h1
      rw [List.getElem?_append_left (by rw [← R.base.len]; exact hk)] at h2
      exact (R.base.rs k r s h1 h2).keep (Same.refl _) kp
    · rw [List.getElem?_append_right (by omega)] at h1
      rw [List.getElem?_append_right (by rw [← R.base.len]; omega)] at h2
      have e0 : k - As.length = 0 := by
        have := (List.getElem?_eq_some_iff.mp h1).1
        simp at this; omega
      rw [e0] at h1
      rw [← R.base.len, e0] at h2
      cases h1; cases h2
      exact ⟨vs, upd_same, dv⟩
  · rcases List.mem_append.mp hr with hr | hr
    · exact R.new r hr
    · simp at hr; subst hr; exact .inr h0
  · have := R.sl i r hi
    cases r with
    | un => trivial
    | da d => exact this
    | res k =>
      obtain ⟨s, e1, e2⟩ := this
      exact ⟨s, by rw [List.getElem?_append_left (List.getElem?_eq_some_iff.mp e1).1]; exact e1, e2⟩
/-- x = [] -/
def dNew (i : Nat) : TDS := fun ρ τ De => De.nx (ρ.set i (.res τ.length)) (τ ++ [.lst []])
theorem s_new {i : Nat} {x : Str} {pos' : Pos} (hN : X.N.Nodup) (hi : X.N[i]? = some x) (hx : Loc X.env.scope x) (hs : swapsWith (.List [] p) (some (.Name x pos')) pos.line X.env = pure false := by rfl) (hf : X.fn x = true ∨ X.env.scope.names.lookup x = some .local := by first | exact .inl rfl | exact .inr rfl | assumption) :
    PS X (.Assign [.Name x pos'] (.List [] p) pos) (sD G (dNew i)) := ps_weak (ps_set hN hi hx (pe_lst pa_nil) hs hf) fun D σ H h => by
  obtain ⟨C, As, ρ, τ, De, R, h1, her, kn, kr⟩ := h
  refine ⟨Nat.zero_le _, fun q hq => ?_⟩
  have R1 := R.push (vs := []) (ds := []) hq rfl
  refine kn C (As ++ [q]) _ _ _ _ (Same.refl _) (R1.set (i := i) (r := .res τ.length) ⟨q, ?_, rfl⟩) h1
  rw [← R.base.len]; simp
/-- x, y = e, [] -/
def dParNew (i j : Nat) (f : TD) : TDS := fun ρ τ De => f ρ τ (fun x τ1 => De.nx ((ρ.set i x).set j (.res τ1.length)) (τ1 ++ [.lst []])) De.er
theorem res_push {C : Hp} {As : List Addr} {q : Addr} {v : V} {r : Sl} (h : VOk C As v r) : VOk C (As ++ [q]) v r := by
  cases r with
  | un => trivial
  | da d => exact h
  | res k =>
    obtain ⟨s, e1, e2⟩ := h
    exact ⟨s, by rw [List.getElem?_append_left (List.getElem?_eq_some_iff.mp e1).1]; exact e1, e2⟩
theorem s_parNew {i j : Nat} {x y : Str} {px py pt pl : Pos} {kt k2 pt2} (hc : X.calm = true) (hN : X.N.Nodup) (hi : X.N[i]? = some x) (hj : X.N[j]? = some y) (hij : i ≠ j)
    (hx : X.env.scope.names.lookup x = some .local) (hy : X.env.scope.names.lookup y = some .local) (ha : PE X a (tD G f))
    (hw : swappedStores [.Tuple [.Name x px, .Name y py] kt pt] (.Tuple [a, .List [] pl] k2 pt2) X.env = pure (some [x, y]))
    (hs : swapsWithSole [.Tuple [.Name x px, .Name y py] kt pt] (.Tuple [a, .List [] pl] k2 pt2) pos.line X.env = pure false := by rfl)
    (hst : starEach [a, .List [] pl] X.env = (false, eval a X.env) :: starEach [.List [] pl] X.env := by rfl) (hst2 : starEach [.List [] pl] X.env = (false, eval (.List [] pl) X.env) :: starEach [] X.env := by rfl) :
    PS X (.Assign [.Tuple [.Name x px, .Name y py] kt pt] (.Tuple [a, .List [] pl] k2 pt2) pos) (sD G (dParNew i j f)) := ps_weak (ps_par hc hN hi hj hij hx hy (pa_cons ha (pa_cons (pe_lst pa_nil) pa_nil hst2) hst) hw hs) fun D σ H h => by
  obtain ⟨C, As, ρ, τ, De, R, h1, her, kn, kr⟩ := h
  unfold dParNew at h1
  rw [her] at h1
  refine ⟨C, As, ρ, τ, _, R, h1, fun C1 H1 v r τ1 s1 R1 d1 q1 => ⟨Nat.zero_le _, fun q hq => ⟨v, .ref q, rfl, ?_⟩⟩⟩
  have R2 := R1.push (vs := []) (ds := []) hq rfl
  refine kn C1 (As ++ [q]) _ _ _ _ s1.ex ((R2.set (i := i) (res_push d1)).set (i := j) (r := .res τ1.length) ⟨q, ?_, rfl⟩) q1
  rw [← R1.base.len]; simp
theorem s_parNewC {i j : Nat} {x y : Str} {px py pt pl : Pos} {kt k2 pt2} (hc : X.calm = true) (hN : X.N.Nodup) (hi : X.N[i]? = some x) (hj : X.N[j]? = some y)
    (hx : Loc X.env.scope x) (hy : Loc X.env.scope y) (ha : PE X a (tD G f))
    (hfx : X.fn x = true ∨ X.env.scope.names.lookup x = some .local := by first | exact .inl rfl | exact .inr rfl | assumption) (hfy : X.fn y = true ∨ X.env.scope.names.lookup y = some .local := by first | exact .inl rfl | exact .inr rfl | assumption)
    (hw : swappedStores [.Tuple [.Name x px, .Name y py] kt pt] (.Tuple [a, .List [] pl] k2 pt2) X.env = pure none := by rfl)
    (hs : swapsWithSole [.Tuple [.Name x px, .Name y py] kt pt] (.Tuple [a, .List [] pl] k2 pt2) pos.line X.env = pure false := by rfl)
    (hst : starEach [a, .List [] pl] X.env = (false, eval a X.env) :: starEach [.List [] pl] X.env := by rfl) (hst2 : starEach [.List [] pl] X.env = (false, eval (.List [] pl) X.env) :: starEach [] X.env := by rfl)
    (h1 : (assignEach [.Tuple [.Name x px, .Name y py] kt pt] X.env).map (·.2) = [assign (.Tuple [.Name x px, .Name y py] kt pt) X.env] := by rfl)
    (g1 : (assignEach [.Name x px, .Name y py] X.env).map (·.2) = assign (.Name x px) X.env :: (assignEach [.Name y py] X.env).map (·.2) := by rfl) (g2 : (assignEach [.Name y py] X.env).map (·.2) = assign (.Name y py) X.env :: (assignEach [] X.env).map (·.2) := by rfl)
    (g3 : (assignEach [.Name x px, .Name y py] X.env).length = 2 := by rfl) (g4 : (assignEach [.Name x px, .Name y py] X.env).findIdx? (·.1) = none := by rfl) :
    PS X (.Assign [.Tuple [.Name x px, .Name y py] kt pt] (.Tuple [a, .List [] pl] k2 pt2) pos) (sD G (dParNew i j f)) :=
  ps_weak (ps_asg (pe_tup (pa_cons ha (pa_cons (pe_lst pa_nil) pa_nil hst2) hst)) (pg_tup hc (pgs_cons (pg_name hN hi hx hfx) (pgs_cons (pg_name hN hj hy hfy) pgs_nil g2) g1) g3 g4) hs hw h1) fun D σ H h => by
  obtain ⟨C, As, ρ, τ, De, R, h1, her, kn, kr⟩ := h
  unfold dParNew at h1
  rw [her] at h1
  refine ⟨C, As, ρ, τ, _, R, h1, fun C1 H1 v r τ1 s1 R1 d1 q1 => ⟨Nat.zero_le _, fun q hq => ⟨by show 2 ≤ sizeLine; decide, fun t ht => ?_⟩⟩⟩
  have R2 := R1.push (vs := []) (ds := []) hq rfl
  have kp : ∀ a o, upd H1 q (.lst []) a = some o → upd (upd H1 q (.lst [])) t (.tup [v, .ref q]) a = some o := fun a o h => by rw [upd_ne (ne_of_none h ht)]; exact h
  have st : Step (As ++ [q]) C1 (upd H1 q (.lst [])) C1 (upd (upd H1 q (.lst [])) t (.tup [v, .ref q])) := ⟨Same.refl _, fun a o h _ => kp a o h, fun a h => by
    cases z : upd H1 q (.lst []) a with
    | none => exact absurd z h
    | some o => rw [kp a o z]; exact (fun w => nomatch w), fun _ _ n => n⟩
  have R3 := R2.go st (R2.base.keep (Same.refl _) (fun a o h => kp a o (R2.base.core _ _ h)) kp (fun _ _ n => n) R2.base.sz)
  refine ⟨t, [v, .ref q], rfl, SqT.of upd_same, rfl, v, [.ref q], rfl, .ref q, [], rfl, rfl, ?_⟩
  refine kn C1 (As ++ [q]) _ _ _ _ s1.ex ((R3.set (i := i) (res_push d1)).set (i := j) (r := .res τ1.length) ⟨q, ?_, rfl⟩) q1
  rw [← R1.base.len]; simp
/-- x = e, e a list by + : a new list of one's own -/
def dSetCat (i : Nat) (fa fb : TD) : TDS := fun ρ τ De => fa ρ τ (fun x τ1 => fb ρ τ1 (fun y τ2 => match dat τ2 x, dat τ2 y with
  | some (.list xs), some (.list ys) => xs.length + ys.length ≤ 1000000 ∧ De.nx (ρ.set i (.res τ2.length)) (τ2 ++ [.lst (xs ++ ys)])
  | _, _ => False) De.er) De.er
theorem s_setCat {i : Nat} {x : Str} {pos' : Pos} (hN : X.N.Nodup) (hi : X.N[i]? = some x) (hx : Loc X.env.scope x) (ha : PE X a (tD G fa)) (hb : PE X b (tD G fb)) (hs : swapsWith (.BinOp a .Add b p) (some (.Name x pos')) pos.line X.env = pure false := by rfl) (hf : X.fn x = true ∨ X.env.scope.names.lookup x = some .local := by first | exact .inl rfl | exact .inr rfl | assumption) :
    PS X (.Assign [.Name x pos'] (.BinOp a .Add b p) pos) (sD G (dSetCat i fa fb)) := ps_weak (ps_set hN hi hx (pe_op op_cat ha hb) hs hf) fun D σ H h => by
  obtain ⟨C, As, ρ, τ, De, R, h1, her, kn, kr⟩ := h
  unfold dSetCat at h1
  rw [her] at h1
  refine ⟨C, As, ρ, τ, _, R, h1, fun C1 H1 v x1 τ1 s1 R1 d1 q1 => ⟨C1, As, ρ, τ1, _, R1, q1, fun C2 H2 w y τ2 s2 R2 d2 q2 => ?_⟩⟩
  cases q1 : dat τ2 x1 with
  | none => rw [q1] at q2; exact q2.elim
  | some dx =>
    cases q3 : dat τ2 y with
    | none => rw [q1, q3] at q2; cases dx <;> exact q2.elim
    | some dy =>
      rw [q1, q3] at q2
      match dx, dy, q1, q3, q2 with
      | .list xs, .list ys, q1, q3, ⟨hz, q2⟩ =>
        obtain ⟨r, vs, e1, e2, e3⟩ := lst_ok R2.base (SlOk.mono s2.ex d1) q1
        obtain ⟨r2, ws, f1, f2, f3⟩ := lst_ok R2.base d2 q3
        refine ⟨r, r2, vs, ws, e1, f1, e2, f2, by rw [e3.length, f3.length]; exact Nat.le_trans hz (by decide), fun q hq => ?_⟩
        have R3 := R2.push hq (e3.append f3)
        refine kn C2 (As ++ [q]) _ _ _ _ (s1.ex.trans s2.ex) (R3.set (i := i) (r := .res τ2.length) ⟨q, ?_, rfl⟩) q2
        rw [← R2.base.len]; simp
/-- x.append(e) -/
def dAppend (i : Nat) (f : TD) : TDS := fun ρ τ De => match ρ[i]? with
  | some (.res k) => match τ[k]? with
    | some (.lst _) => f ρ τ (fun y τ1 => match y, τ1[k]? with
      | .da d, some (.lst ds) => ds.length < 100000 ∧ De.nx ρ (τ1.set k (.lst (ds ++ [d])))
      | _, _ => False) De.er
    | _ => False
  | _ => False
theorem s_append (i : Nat) {ce : Expr} (hcall : PE X ce (tBM X.K "list" rAppend (tVar i) (tCons (tD G f) tNil))) (hs : swapsWith ce none pos.line X.env = pure false := by rfl) : PS X (.Expr ce pos) (sD G (dAppend i f)) :=
  ps_weak (ps_expr hcall hs) fun D σ H h => by
    obtain ⟨C, As, ρ, τ, De, R, h1, her, kn, kr⟩ := h
    unfold dAppend at h1
    rw [her] at h1
    cases q : ρ[i]? with
    | none => rw [q] at h1; exact h1.elim
    | some r =>
      rw [q] at h1
      match r, q, h1 with
      | .res k, q, h1 =>
        obtain ⟨z, e1, e2⟩ := R.sl i _ q
        cases q2 : τ[k]? with
        | none => simp only [q2] at h1
        | some s =>
          simp only [q2] at h1
          match s, q2, h1 with
          | .lst ds0, q2, h1 =>
            obtain ⟨vs0, g1, _⟩ := R.base.rs k z _ e1 q2
            refine ⟨_, e2, .inl ⟨rfl, _, SqL.of g1⟩, C, As, ρ, τ, _, R, h1, fun C1 H1 v y τ1 s1 R1 d1 q1 => ?_⟩
            match y, d1, q1 with
            | .da d, d1, q1 =>
              cases q3 : τ1[k]? with
              | none => simp only [q3] at q1
              | some s1' =>
                simp only [q3] at q1
                match s1', q3, q1 with
                | .lst ds, q3, ⟨hl, q1⟩ =>
                  obtain ⟨vs, g2, g3⟩ := R1.base.rs k z _ e1 q3
                  refine ⟨z, vs, v, rfl, rfl, g2, by rw [g3.length]; exact Nat.lt_of_lt_of_le hl (by decide), ?_⟩
                  have st := Step.upd (As := As) (C := C1) (o := .lst (vs ++ [v])) g2 (List.mem_of_getElem? e1)
                  exact kn C1 As ρ _ σ _ s1.ex (R1.go st (R1.base.set (r := .lst (ds ++ [d])) e1 g2 ⟨_, upd_same, g3.append (DvA.one (VOk.dv d1))⟩)) q1
/-- x[k] = e -/
def dPut (i : Nat) (fk fe : TD) : TDS := fun ρ τ De => fe ρ τ (fun y τ1 => match ρ[i]? with
  | some (.res r) => fk ρ τ1 (fun kx τ2 => match y, kx, τ2[r]? with
    | .da d, .da (.int k), some (.lst ds) => match ixN ds.length k with
      | some j => De.nx ρ (τ2.set r (.lst (ds.set j d)))
      | none => False
    | _, _, _ => False) De.er
  | _ => False) De.er
theorem DvA.set {C : Hp} : ∀ {ds : List PyData} {vs : List V} {j : Nat} {d : PyData} {v : V}, DvA C ds vs → Dv C d v → DvA C (ds.set j d) (vs.set j v)
  | [], _, _, _, _, h, _ => by cases h; rfl
  | d :: ds, _, 0, _, _, ⟨w, ws, h1, h2, h3⟩, h => by cases h1; exact ⟨_, _, rfl, h, h3⟩
  | d :: ds, _, j + 1, _, _, ⟨w, ws, h1, h2, h3⟩, h => by cases h1; exact ⟨_, _, rfl, h2, DvA.set h3 h⟩
theorem s_put (i : Nat) {x : Str} {ke e : Expr} {fk fe : TD} {p1 p2 : Pos} (hk : PE X ke (tD G fk)) (he : PE X e (tD G fe)) (hN : X.N[i]? = some x := by rfl) (hv : Vis X.env.scope x := by first | exact Or.inl rfl | exact Or.inr (Or.inl rfl) | exact Or.inr (Or.inr rfl)) (hd : (x == ("__debug__" : Str)) = false := by decide)
    (hcd : (x == ("__classdict__" : Str)) = false := by decide)
    (ha : ∀ v, assign (.Subscript (.Name x p1) ke p2) X.env v = (do
      let ov ← holding [v] (eval (.Name x p1) X.env)
      let iv ← holding [v, ov] (eval ke X.env)
      standAt p2
      holding [v, ov, iv] (setItem ov iv v)
      release [v, ov, iv] []) := by intro _; rfl)
    (hs : swapsWithSole [.Subscript (.Name x p1) ke p2] e pos.line X.env = pure false := by rfl) (hw : swappedStores [.Subscript (.Name x p1) ke p2] e X.env = pure none := by rfl)
    (h1 : (assignEach [.Subscript (.Name x p1) ke p2] X.env).map (·.2) = [assign (.Subscript (.Name x p1) ke p2) X.env] := by rfl) :
    PS X (.Assign [.Subscript (.Name x p1) ke p2] e pos) (sD G (dPut i fk fe)) :=
  ps_weak (ps_asg he (pg_sub (pe_var hN hv hd hcd) hk set_list ha) hs hw h1) fun D σ H h => by
    obtain ⟨C, As, ρ, τ, De, R, hg, her, kn, kr⟩ := h
    unfold dPut at hg
    rw [her] at hg
    refine ⟨C, As, ρ, τ, _, R, hg, fun C1 H1 v y τ1 s1 R1 d1 q1 => ?_⟩
    cases q : ρ[i]? with
    | none => rw [q] at q1; exact q1.elim
    | some r =>
      rw [q] at q1
      match r, q, q1 with
      | .res k, q, q1 =>
        obtain ⟨z, e1, e2⟩ := R1.sl i _ q
        refine ⟨_, e2, C1, As, ρ, τ1, _, R1, q1, fun C2 H2 w kx τ2 s2 R2 d2 q2 => ?_⟩
        match y, kx, d1, d2, q2 with
        | .da d, .da (.int j), d1, d2, q2 =>
          cases q3 : τ2[k]? with
          | none => simp only [q3] at q2
          | some s2' =>
            simp only [q3] at q2
            match s2', q3, q2 with
            | .lst ds, q3, q2 =>
              obtain ⟨vs, g2, g3⟩ := R2.base.rs k z _ e1 q3
              cases q4 : ixN ds.length j with
              | none => simp only [q4] at q2
              | some m =>
                simp only [q4] at q2
                refine ⟨z, vs, j, m, rfl, VOk.dv d2, g2, by rw [g3.length]; exact q4, ?_⟩
                have st := Step.upd (As := As) (C := C2) (o := .lst (vs.set m v)) g2 (List.mem_of_getElem? e1)
                exact kn C2 As ρ _ σ _ (s1.ex.trans s2.ex) (R2.go st (R2.base.set (r := .lst (ds.set m d)) e1 g2 ⟨_, upd_same, g3.set ((VOk.dv d1).mono s2.ex)⟩)) q2
/-- return of a list of one's own (k ≥ n0: it was made here) -/
def dRetL (n0 : Nat) (f : TD) : TDS := fun ρ τ De => f ρ τ (fun r τ1 => match r with
  | .da d => De.rt d τ1
  | .res k => match τ1[k]? with
    | some (.lst ds) => (n0 ≤ k ∧ ds.length ≤ 1000000) ∧ De.rt (.list ds) τ1
    | _ => False
  | _ => False) De.er
theorem s_retL {n0 : Nat} (hA : G.As0.length = n0) (he : PE X e (tD G f)) : PS X (.Return (some e) pos) (sD G (dRetL n0 f)) := ps_weak (ps_ret he) fun D σ H h => by
  obtain ⟨C, As, ρ, τ, De, R, hg, her, kn, kr⟩ := h
  unfold dRetL at hg
  rw [her] at hg
  refine ⟨C, As, ρ, τ, _, R, hg, fun C1 H1 v r τ1 s1 R1 d1 q1 => ?_⟩
  match r, d1, q1 with
  | .da d, d1, q1 => exact kr C1 H1 v d τ1 R1.step R1.take (VOk.dv d1) q1
  | .res k, d1, q1 =>
    obtain ⟨z, e1, e2⟩ := d1
    cases e2
    cases q : τ1[k]? with
    | none => simp only [q] at q1
    | some s =>
      simp only [q] at q1
      match s, q, q1 with
      | .lst ds, q, ⟨⟨hk, hz⟩, q1⟩ =>
        obtain ⟨vs, g1, g2⟩ := R1.base.rs k z _ e1 q
        have zA : z ∉ G.As0 := fun hm => by
          obtain ⟨j, hj, ej⟩ := List.getElem_of_mem hm
          obtain ⟨t, et⟩ := R1.pre
          have e3 : As[j]? = some z := by rw [← et, List.getElem?_append_left hj, List.getElem?_eq_getElem hj, ej]
          obtain ⟨l1, x1⟩ := List.getElem?_eq_some_iff.mp e1
          obtain ⟨l2, x2⟩ := List.getElem?_eq_some_iff.mp e3
          have := (List.getElem_inj R1.base.nd).mp (x1.trans x2.symm)
          omega
        have h0 : G.H0 z = none := (R1.new z (List.mem_of_getElem? e1)).resolve_left zA
        have cz : C1 z = none := (R1.base.off z (List.mem_of_getElem? e1)).1
        have eC : Same C1 (upd C1 z (.lst vs)) := fun a o h => by rw [upd_ne (ne_of_none h cz)]; exact h
        have b := R1.take
        refine kr (upd C1 z (.lst vs)) H1 (.ref z) (.list ds) τ1 ⟨R1.step.ex.trans eC, R1.step.keep, R1.step.there, fun a h n => ?_⟩ ⟨fun a o h => ?_, b.nd, b.len, fun p hp => ⟨?_, (b.off p hp).2⟩, fun j p r h1 h2 => (b.rs j p r h1 h2).keep eC (fun _ _ h => h), fun a o h => ?_⟩ ⟨z, vs, rfl, upd_same, g2.mono eC⟩ q1
        · by_cases e : a = z
          · rw [e, h0] at h; exact absurd rfl h
          · rw [upd_ne e]; exact R1.step.out a h n
        · by_cases e : a = z
          · rw [e, upd_same] at h; rw [e, g1]; exact h
          · rw [upd_ne e] at h; exact R1.base.core _ _ h
        · rw [upd_ne (fun e => zA (by rw [← e]; exact hp))]; exact (b.off p hp).1
        · by_cases e : a = z
          · rw [e, upd_same] at h; cases h
            show vs.length ≤ sizeLine
            rw [g2.length]; exact Nat.le_trans hz (by decide)
          · rw [upd_ne e] at h; exact R1.base.sz _ _ h
/-! ### a def with one resource ahead -/
abbrev Rf := RS → List PyData → (PyData → RS → Prop) → (Str → RS → Prop) → Prop
def toFnR (r : Rf) : Fn := fun as τ Qa Er => ∃ s ds, τ = [s] ∧ as = .res 0 :: ds.map Sl.da ∧ r s ds (fun d s' => Qa d [s']) (fun n s' => Er n [s'])
def mutS : RS → Bool
  | .lst _ => true
  | .dice => true
  | .bri _ => true
  | _ => false
def callR1 (r : Rf) (τ1 : Rs) (xs : List Sl) (Q : PyData → Rs → Prop) (er : Str → Rs → Prop) : Prop := match xs with
  | .res k :: rest => match das rest, τ1[k]? with
    | some ds, some s => mutS s = true ∧ r s ds (fun d s' => Q d (τ1.set k s')) (fun n s' => er n (τ1.set k s'))
    | _, _ => False
  | _ => False
def dCallR (r : Rf) (g : TDA) : TD := fun ρ τ Q er => g ρ τ (fun xs τ1 => callR1 r τ1 xs (fun d τ2 => Q (.da d) τ2) er) er
def dCallRN (r : Rf) (g : TDA) : TD := fun ρ τ Q er => g ρ τ (fun xs τ1 => callR1 r τ1 xs (fun d τ2 => Q (.da d) τ2) (fun _ _ => False)) er
theorem Base.only {mg : Str → Option Value} {As : List Addr} {C H : Hp} {τ : Rs} {k : Nat} {q : Addr} {s : RS} (b : Base mg As C τ H) (hq : As[k]? = some q) (hs : τ[k]? = some s) : Base mg [q] C [s] H :=
  ⟨b.core, by simp, rfl, fun p hp => by simp at hp; subst hp; exact b.off _ (List.mem_of_getElem? hq), fun j p r h1 h2 => by
    have e0 : j = 0 := by have := (List.getElem?_eq_some_iff.mp h1).1; simp at this; omega
    subst e0
    cases h1; cases h2
    exact b.rs k _ _ hq hs, b.sz⟩
/-- the object of a resource that is passed is a list or an instance: the others stand apart -/
theorem RsOk.mut {mg : Str → Option Value} {C H : Hp} {q : Addr} {s : RS} (h : RsOk mg C H q s) (m : mutS s = true) : ∃ o, H q = some o ∧ (∀ ps, o ≠ .tbl ps) ∧ ∀ φ, o ≠ .ext φ := by
  cases s with
  | gone => cases m
  | tab _ => cases m
  | dice => obtain ⟨a, b, h⟩ := h; exact ⟨_, h, (fun _ z => nomatch z), (fun _ z => nomatch z)⟩
  | lst _ => obtain ⟨vs, h, _⟩ := h; exact ⟨_, h, (fun _ z => nomatch z), (fun _ z => nomatch z)⟩
  | bri _ => obtain ⟨CB, dx, vs, _, h, _⟩ := h; exact ⟨_, h, (fun _ z => nomatch z), (fun _ z => nomatch z)⟩
theorem base_of_one {mg : Str → Option Value} {As : List Addr} {C H C' H' : Hp} {τ : Rs} {k : Nat} {q : Addr} {s s' : RS} (b : Base mg As C τ H) (hq : As[k]? = some q) (hs : τ[k]? = some s) (m : mutS s = true) (st : Step [q] C H C' H') (b' : Base mg [q] C' [s'] H') : Base mg As C' (τ.set k s') H' := by
  obtain ⟨oq, hoq, nt, ne⟩ := (b.rs k q s hq hs).mut m
  have kp : ∀ a o, H a = some o → a ≠ q → H' a = some o := fun a o h n => st.keep a o h (by simpa using n)
  refine ⟨b'.core, b.nd, by rw [List.length_set]; exact b.len, fun p hp => ⟨st.out p (b.off p hp).2 (b.off p hp).1, st.there p (b.off p hp).2⟩, fun j p r h1 h2 => ?_, b'.sz⟩
  by_cases e : k = j
  · subst e
    rw [hq] at h1
    cases h1
    rw [List.getElem?_set_self (List.getElem?_eq_some_iff.mp hs).1] at h2
    cases h2
    exact b'.rs 0 _ _ rfl rfl
  · rw [List.getElem?_set_ne e] at h2
    have npq : p ≠ q := fun z => by
      subst z
      obtain ⟨l1, x1⟩ := List.getElem?_eq_some_iff.mp hq
      obtain ⟨l2, x2⟩ := List.getElem?_eq_some_iff.mp h1
      exact e ((List.getElem_inj b.nd).mp (x1.trans x2.symm))
    have ok := b.rs j p r h1 h2
    cases r with
    | gone => trivial
    | dice => obtain ⟨x, y, h⟩ := ok; exact ⟨x, y, kp _ _ h npq⟩
    | lst ds => obtain ⟨vs, h, hd⟩ := ok; exact ⟨vs, kp _ _ h npq, hd.mono st.ex⟩
    | tab nm =>
      obtain ⟨ps, h1', h2', h3'⟩ := ok
      refine ⟨ps, kp _ _ h1' npq, h2', fun pos cv hc => ?_⟩
      obtain ⟨c, c1, c2⟩ := h3' pos cv hc
      refine ⟨c, c1, kp _ _ c2 fun z => ?_⟩
      rw [z, hoq] at c2
      have z2 := Option.some.inj c2
      unfold LamX.CodeO at z2
      exact ne _ z2
    | bri fs => obtain ⟨CB, dx, vs, gg, h, h2'⟩ := ok; exact ⟨CB, dx, vs, gg, kp _ _ h npq, h2'.mono st.ex⟩
theorem step_of_one {As : List Addr} {C H C' H' : Hp} {q : Addr} (hq : q ∈ As) (s : Step [q] C H C' H') : Step As C H C' H' := ⟨s.ex, fun a o h n => s.keep a o h (by simp; exact fun z => n (z ▸ hq)), s.there, s.out⟩
theorem argOk_one {C : Hp} {As : List Addr} {k : Nat} {q : Addr} (hq : As[k]? = some q) : ∀ {rest : List Sl} {vs : List V} {ds : List PyData}, ArgOk C As vs (.res k :: rest) → das rest = some ds → ArgOk C [q] vs (.res 0 :: ds.map Sl.da)
  | rest, _, ds, .cons (v := v) h t, e => by
    obtain ⟨p, e1, e2⟩ := h
    rw [hq] at e1
    cases e1
    cases e2
    refine .cons ⟨q, rfl, rfl⟩ ?_
    have := t.das e
    clear e t
    rename_i vs
    induction ds generalizing vs with
    | nil => cases this; exact .nil
    | cons d ds ih =>
      obtain ⟨u, us, h1, h2, h3⟩ := this
      cases h1
      exact .cons ⟨u, rfl, h2⟩ (ih _ h3)
variable {r : Rf}
theorem one_of {mg : Str → Option Value} {q : Addr} {C H : Hp} {τ : Rs} (b : Base mg [q] C τ H) : ∃ s, τ = [s] := by
  have := b.len
  match τ, this with
  | [s], _ => exact ⟨s, rfl⟩
theorem w_callRx {E : XK} {er : Str → Rs → Prop} {C1 H1 : Hp} {As : List Addr} {vs : List V} {as : List Sl} {ρ : Ds} {τ1 : Rs} {σ : L2.St} {Q : VK} {Qd : Sl → Rs → Prop} (R1 : Rel G C1 As ρ τ1 σ H1) (d1 : ArgOk C1 As vs as)
    (q1 : callR1 r τ1 as (fun d τ2 => Qd (.da d) τ2) er)
    (k : ∀ C2 H2 v d τ2, Step As C1 H1 C2 H2 → Rel G C2 As ρ τ2 σ H2 → Dv C2 d v → Qd (.da d) τ2 → Q v H2)
    (ke : ∀ (m : Str) (Cn : Addr) C2 H2 τ2, G.mg m = some (.ref Cn) → Rel G C2 As ρ τ2 σ H2 → er m τ2 → E (.ref Cn) none H2) : spA G.mg (toFnR r) vs H1 Q E := by
  unfold callR1 at q1
  match as, d1, q1 with
  | .res j :: rest, d1, q1 =>
    cases z : das rest with
    | none => simp only [z] at q1
    | some ds =>
      cases z2 : τ1[j]? with
      | none => simp only [z, z2] at q1
      | some s =>
        simp only [z, z2] at q1
        obtain ⟨q, hq⟩ : ∃ q, As[j]? = some q := by
          cases d1 with
          | cons h _ => obtain ⟨q, hq, _⟩ := h; exact ⟨q, hq⟩
        have hm := List.mem_of_getElem? hq
        refine ⟨C1, [q], .res 0 :: ds.map Sl.da, [s], fun d τ' => Qd (.da d) (τ1.set j (τ'.headD .gone)), fun n τ' => er n (τ1.set j (τ'.headD .gone)), R1.base.only hq z2, argOk_one hq d1 z, ⟨s, ds, rfl, rfl, q1.2⟩, fun C2 H2 v d τ2 s2 b2 d2 q2 => ?_, fun m Cn C2 H2 τ2 hm' s2 b2 q2 => ?_⟩
        · obtain ⟨s', rfl⟩ := one_of b2
          exact k C2 H2 v d _ (step_of_one hm s2) (R1.go (step_of_one hm s2) (base_of_one R1.base hq z2 q1.1 s2 b2)) d2 q2
        · obtain ⟨s', rfl⟩ := one_of b2
          exact ke m Cn C2 H2 _ hm' (R1.go (step_of_one hm s2) (base_of_one R1.base hq z2 q1.1 s2 b2)) q2
theorem w_callR {σ : L2.St} {H : Hp} {Q : VK} (h : tD G (dCallR r g) σ H Q) : tCall (spA G.mg (toFnR r)) [] G.E (tDA G n g) σ H Q := by
  obtain ⟨C, As, ρ, τ, Qd, R, hf, k⟩ := h
  refine ⟨C, As, ρ, τ, _, R, hf, fun C1 H1 vs as τ1 s1 R1 d1 e1 q1 => ?_⟩
  show spA G.mg (toFnR r) (vs ++ []) H1 Q G.E
  rw [List.append_nil]
  exact w_callRx R1 d1 q1 (fun C2 H2 v d τ2 st R2 dv q2 => k C2 H2 v (.da d) τ2 (s1.trans st) R2 ⟨v, rfl, dv⟩ q2) fun m Cn C2 H2 τ2 hm R2 q2 => G.eok m Cn C2 H2 _ hm R2.step R2.take q2
theorem w_callRN {σ : L2.St} {H : Hp} {Q : VK} (h : tD G (dCallRN r g) σ H Q) : tCall (spA G.mg (toFnR r)) [] E0 (tDA G n g) σ H Q := by
  obtain ⟨C, As, ρ, τ, Qd, R, hf, k⟩ := h
  refine ⟨C, As, ρ, τ, _, R, hf, fun C1 H1 vs as τ1 s1 R1 d1 e1 q1 => ?_⟩
  show spA G.mg (toFnR r) (vs ++ []) H1 Q E0
  rw [List.append_nil]
  exact w_callRx (er := fun _ _ => False) R1 d1 q1 (fun C2 H2 v d τ2 st R2 dv q2 => k C2 H2 v (.da d) τ2 (s1.trans st) R2 ⟨v, rfl, dv⟩ q2) fun m Cn C2 H2 τ2 hm R2 q2 => q2
variable {k : Nat} {ps : List Str} {x : Str}
theorem d_callR (D : Dfn X.prog X.w X.K X.mg X.base x k ps (toFnR r)) (hr : Room k X.A) (hG : G.mg = X.mg) (hx : Passes (L2N.CX X.prog X.w) X G.E) (hg : Gl X x)
    (ha : PA X (e :: es) (tDA G n g)) (hdb : (x == ("__debug__" : Str)) = false := by decide) (he : starEach (e :: es) X.env = (false, eval e X.env) :: starEach es X.env := by rfl) (hpl : (backTo pos (starEach es X.env)).any (·.1) = false := by rfl) :
    PE X (.Call (.Name x p) (e :: es) [] pos) (tD G (dCallR r g)) := by
  obtain ⟨f, fd, hm, hk, hb, FF⟩ := D.ex
  exact pe_weak (pe_call FF hr hg hm hk hb .nil hx ha hdb he hpl) fun _ _ _ h => by rw [← hG]; exact w_callR h
theorem d_callRN (D : Dfn X.prog X.w X.K X.mg X.base x k ps (toFnR r)) (hr : Room k X.A) (hG : G.mg = X.mg) (hg : Gl X x)
    (ha : PA X (e :: es) (tDA G n g)) (hdb : (x == ("__debug__" : Str)) = false := by decide) (he : starEach (e :: es) X.env = (false, eval e X.env) :: starEach es X.env := by rfl) (hpl : (backTo pos (starEach es X.env)).any (·.1) = false := by rfl) :
    PE X (.Call (.Name x p) (e :: es) [] pos) (tD G (dCallRN r g)) := by
  obtain ⟨f, fd, hm, hk, hb, FF⟩ := D.ex
  exact pe_weak (pe_call FF hr hg hm hk hb .nil passN ha hdb he hpl) fun _ _ _ h => by rw [← hG]; exact w_callRN h
end
section
variable {P : Program} {w : World} {K : PySem.W.Frag} {mg : Str → Option Value} {base : Heap}
theorem fnR_mk {y x : Str} {st : Stmt} {f : Addr} {fd : FuncData} {N ps : List Str} {k : Nat} {r : Rf} {body : TDS} (Fu : Fun K x x st f fd) (hm : mg y = some (.ref f)) (hb : Binds K fd ps []) (S : FnScope N ps (defScope st)) (hN : ps.length ≤ N.length)
    (len : ∀ s ds Qa Er, r s ds Qa Er → ds.length + 1 = ps.length)
    (der : ∀ (cdv : Value) (A : Around) (outer : List Env) (s : Shared) (H : Hp) (E : XK) (G : Gx), G.mg = mg → G.E = E → G.As0.length = 1 → Room k (A.deeper (envOfC x (defScope st) s.heap.objs.size f cdv)) →
      PSs (cxOf (L2N.CX P w) P w K mg base N x (defScope st) f cdv A outer s H E) (defBody st) (sD G body))
    (wp : ∀ s ds (Qa : PyData → Rs → Prop) (Er : Str → Rs → Prop), r s ds (fun d s' => Qa d [s']) (fun n s' => Er n [s']) → body (startD N (.res 0 :: ds.map Sl.da)) [s] { nx := fun _ τ' => Qa .none (τ'.take 1), rt := fun d τ' => Qa d (τ'.take 1), er := fun n τ' => Er n (τ'.take 1) }) : Dfn P w K mg base y (k + 1) ps (toFnR r) := by
  refine fn_mk (n0 := 1) Fu hm hb S hN (fun as τ Qa Er h => ?_) (fun as τ Qa Er h => ?_) der (fun as τ Qa Er h => ?_)
  · obtain ⟨s, ds, _, rfl, h⟩ := h
    rw [List.length_cons, List.length_map]
    exact len _ _ _ _ h
  · obtain ⟨s, ds, rfl, _⟩ := h; rfl
  · obtain ⟨s, ds, rfl, rfl, h⟩ := h
    exact wp s ds Qa Er h
/-- a def over the dice: .dice for a list of two ints -/
def diceF (φ : List PyData → (PyData → Prop) → Prop) : Rf := fun s ds Q _ => s = .dice ∧ φ ds (fun d => Q d .dice)
/-- the same told by the list -/
def diceL (φ : List PyData → (PyData → Prop) → Prop) : Rf := fun s ds Q _ => ∃ a b, s = .lst [.int a, .int b] ∧ φ ds (fun d => ∀ a' b', Q d (.lst [.int a', .int b']))
theorem Dfn.dice {x : Str} {k : Nat} {ps : List Str} {φ : List PyData → (PyData → Prop) → Prop} (D : Dfn P w K mg base x k ps (toFnR (diceL φ))) : Dfn P w K mg base x k ps (toFnR (diceF φ)) := by
  obtain ⟨f, fd, hm, hk, hb, FF⟩ := D.ex
  refine ⟨f, fd, hm, hk, hb, FF.imp fun vs H Q E h => ?_⟩
  obtain ⟨C, As, as, τ, Qa, Er, b, ha, ⟨s, ds, rfl, rfl, rfl, hφ⟩, kq, ke⟩ := h
  obtain ⟨q, hq⟩ : ∃ q, As = [q] := by
    have := b.len
    match As, this with
    | [q], _ => exact ⟨q, rfl⟩
  subst hq
  obtain ⟨x0, y0, h0⟩ := b.rs 0 q .dice rfl rfl
  have conv : ∀ {C H : Hp} {x y : Int}, Base mg [q] C [.lst [.int x, .int y]] H → Base mg [q] C [.dice] H := fun {C H x y} b => ⟨b.core, b.nd, rfl, b.off, fun j p r h1 h2 => by
    have e0 : j = 0 := by have := (List.getElem?_eq_some_iff.mp h1).1; simp at this; omega
    subst e0
    cases h1; cases h2
    obtain ⟨vs, g1, v1, w1, e1, d1, v2, w2, e2, d2, e3⟩ := b.rs 0 q _ rfl rfl
    cases e1; cases e2; cases e3; cases d1; cases d2
    exact ⟨x, y, g1⟩, b.sz⟩
  have b' : Base mg [q] C [.lst [.int x0, .int y0]] H := ⟨b.core, b.nd, rfl, b.off, fun j p r h1 h2 => by
    have e0 : j = 0 := by have := (List.getElem?_eq_some_iff.mp h1).1; simp at this; omega
    subst e0
    cases h1; cases h2
    exact ⟨_, h0, _, _, rfl, rfl, _, _, rfl, rfl, rfl⟩, b.sz⟩
  refine ⟨C, [q], .res 0 :: ds.map Sl.da, [.lst [.int x0, .int y0]], fun d τ' => match τ' with
    | [.lst [.int _, .int _]] => Qa d [.dice]
    | _ => False, fun _ _ => False, b', ha, ⟨_, ds, rfl, rfl, x0, y0, rfl, ?_⟩, fun C' H' v d τ' st bb dv hQ => ?_, fun n Cn C' H' τ' _ _ _ z => z.elim⟩
  · have e : (fun d => ∀ (_ _ : Int), Qa d [.dice]) = fun d => Qa d [.dice] := funext fun d => propext ⟨fun h => h 0 0, fun h _ _ => h⟩
    show φ ds (fun d => ∀ (_ _ : Int), Qa d [.dice])
    rw [e]
    exact hφ
  · match τ', bb, hQ with
    | [.lst [.int x, .int y]], bb, hQ => exact kq C' H' v d _ st (conv bb) dv hQ
end
end DL
namespace DL
open PySem PySem.Spec PyProof.Rows L2
theorem ifT {b : Bool} {A B : Prop} (hb : b = true) (h : A) : if b = true then A else B := by rw [if_pos hb]; exact h
theorem ifF {b : Bool} {A B : Prop} (hb : b = false) (h : B) : if b = true then A else B := by rw [hb, if_neg Bool.false_ne_true]; exact h
theorem if2 {b : Bool} {A B : Prop} (h1 : b = true → A) (h2 : b = false → B) : if b = true then A else B := by
  cases b with
  | true => rw [if_pos rfl]; exact h1 rfl
  | false => rw [if_neg Bool.false_ne_true]; exact h2 rfl
/-! ### comprehensions without a change of state -/
theorem compD_pure {t : Tg} {ft : TDT} {fe : TD} {ρ : Ds} {Q : Sl → Rs → Prop} {er : Str → Rs → Prop} {τ : Rs} (p : PyData → Bool) (h : PyData → PyData) : ∀ (ds acc : List PyData),
    (∀ d, d ∈ ds → ∀ (A : PyData → Rs → Prop) (B : Rs → Prop), (if p d = true then A (h d) τ else B τ) → t d ρ fun ρ1 => ft ρ1 τ (fun b τ1 => if b = true then fe ρ1 τ1 (fun z τ2 => match z with
      | .da z => A z τ2
      | _ => False) er else B τ1) er) → Q (.da (.list (acc ++ (ds.filter p).map h))) τ → compD t ft fe ρ Q er ds τ acc
  | [], acc, _, q => by simpa [compD] using q
  | d :: ds, acc, hs, q => by
    unfold compD
    refine hs d List.mem_cons_self (fun z τ2 => compD t ft fe ρ Q er ds τ2 (acc ++ [z])) (fun τ1 => compD t ft fe ρ Q er ds τ1 acc) ?_
    by_cases hp : p d = true
    · rw [if_pos hp]
      refine compD_pure p h ds (acc ++ [h d]) (fun e he => hs e (List.mem_cons_of_mem _ he)) ?_
      rw [List.filter_cons_of_pos hp, List.map_cons] at q
      simpa using q
    · rw [if_neg hp]
      refine compD_pure p h ds acc (fun e he => hs e (List.mem_cons_of_mem _ he)) ?_
      rw [List.filter_cons_of_neg hp] at q
      exact q
theorem compD_map {t : Tg} {fe : TD} {ρ : Ds} {Q : Sl → Rs → Prop} {er : Str → Rs → Prop} {τ : Rs} (h : PyData → PyData) (ds : List PyData)
    (hs : ∀ d, d ∈ ds → ∀ (A : Sl → Rs → Prop), A (.da (h d)) τ → t d ρ fun ρ1 => fe ρ1 τ A er) (q : Q (.da (.list (ds.map h))) τ) : compD t dYes fe ρ Q er ds τ [] := by
  refine compD_pure (fun _ => true) h ds [] (fun d hd A B hA => ?_) (by rw [List.nil_append, List.filter_eq_self.mpr (fun _ _ => rfl)]; exact q)
  exact hs d hd (fun z τ2 => match z with
    | .da z => A z τ2
    | _ => False) hA
theorem compD_filter {t : Tg} {ft : TDT} {fe : TD} {ρ : Ds} {Q : Sl → Rs → Prop} {er : Str → Rs → Prop} {τ : Rs} (p : PyData → Bool) (ds : List PyData)
    (hs : ∀ d, d ∈ ds → ∀ (A : Sl → Rs → Prop) (B : Rs → Prop), (if p d = true then A (.da d) τ else B τ) → t d ρ fun ρ1 => ft ρ1 τ (fun b τ1 => if b = true then fe ρ1 τ1 A er else B τ1) er) (q : Q (.da (.list (ds.filter p))) τ) : compD t ft fe ρ Q er ds τ [] := by
  refine compD_pure p (fun d => d) ds [] (fun d hd A B hA => ?_) (by simpa using q)
  exact hs d hd (fun z τ2 => match z with
    | .da z => A z τ2
    | _ => False) B hA
end DL
/-! the script's cells, the rounds, the law's loop -/
namespace DL
open PySem PySem.Spec PyProof.Rows L2
/-- a call at which one stops to think -/
structure CallI (φ : Pf) (ds : List PyData) (Q : PyData → Prop) (E : Str → Prop) : Prop where
  ok : φ ds Q E
theorem callI_eq {φ : Pf} {ds : List PyData} {Q : PyData → Prop} {E : Str → Prop} : CallI φ ds Q E = φ ds Q E := propext ⟨fun h => h.ok, fun h => ⟨h⟩⟩
def dCallPI (φ : Pf) (g : TDA) : TD := fun ρ τ Q er => g ρ τ (fun xs τ1 => match das xs with
  | some ds => CallI φ ds (fun d => Q (.da d) τ1) (fun _ => False)
  | none => False) er
theorem dCallPI_eq (φ : Pf) (g : TDA) : dCallPI φ g = dCallPN φ g := by
  funext ρ τ Q er
  unfold dCallPI dCallPN
  congr 1
  funext xs τ1
  cases das xs with
  | none => rfl
  | some ds => exact callI_eq
def dCallPJ (φ : Pf) (g : TDA) : TD := fun ρ τ Q er => g ρ τ (fun xs τ1 => match das xs with
  | some ds => CallI φ ds (fun d => Q (.da d) τ1) (fun n => er n τ1)
  | none => False) er
theorem dCallPJ_eq (φ : Pf) (g : TDA) : dCallPJ φ g = dCallP φ g := by
  funext ρ τ Q er
  unfold dCallPJ dCallP
  congr 1
  funext xs τ1
  cases das xs with
  | none => rfl
  | some ds => exact callI_eq
section
variable {X : Cx} {G : Gx} {a e : Expr} {es : List Expr} {p pos : Pos}
theorem d_callPI {x : Str} {k n : Nat} {ps : List Str} {φ : Pf} {g : TDA} (D : Dfn X.prog X.w X.K X.mg X.base x k ps (toFn φ)) (hr : Room k X.A) (hG : G.mg = X.mg) (hg : Gl X x)
    (ha : PA X (e :: es) (tDA G n g)) (hdb : (x == ("__debug__" : Str)) = false := by decide) (he : starEach (e :: es) X.env = (false, eval e X.env) :: starEach es X.env := by rfl) (hpl : (backTo pos (starEach es X.env)).any (·.1) = false := by rfl) :
    PE X (.Call (.Name x p) (e :: es) [] pos) (tD G (dCallPI φ g)) := by
  rw [dCallPI_eq]
  exact d_callPN D hr hG hg ha hdb he hpl
theorem d_callPJ {x : Str} {k n : Nat} {ps : List Str} {φ : Pf} {g : TDA} (D : Dfn X.prog X.w X.K X.mg X.base x k ps (toFn φ)) (hr : Room k X.A) (hG : G.mg = X.mg) (hx : Passes (L2N.CX X.prog X.w) X G.E) (hg : Gl X x)
    (ha : PA X (e :: es) (tDA G n g)) (hdb : (x == ("__debug__" : Str)) = false := by decide) (he : starEach (e :: es) X.env = (false, eval e X.env) :: starEach es X.env := by rfl) (hpl : (backTo pos (starEach es X.env)).any (·.1) = false := by rfl) :
    PE X (.Call (.Name x p) (e :: es) [] pos) (tD G (dCallPJ φ g)) := by
  rw [dCallPJ_eq]
  exact d_callP D hr hG hx hg ha hdb he hpl
end
def spCell (K : PySem.W.Frag) : Sp := fun vs H Q _ => ∃ (a : Addr) (ns : List Int) (k : Nat), vs = [.ref a, .int (k : Int)] ∧ SqL K H a (ns.map V.int) ∧ ns.length ≤ 63 ∧ ∀ (r : Int) H', Same H H' → Q (.int r) H'
/-- some lists of two ints -/
def spRounds (K : PySem.W.Frag) : Sp := fun vs H Q _ => ∃ (a : Addr) (ns : List Int) (m : Int), vs = [.ref a, .int m] ∧ SqL K H a (ns.map V.int) ∧ ns.length ≤ 63 ∧ m ≤ 100 ∧
  ∀ (p : Addr) (qs : List Addr) H', Same H H' → H' p = some (.lst (qs.map V.ref)) → (∀ q ∈ qs, q ≠ p ∧ ∃ c d, H' q = some (.lst [.int c, .int d])) → Q (.ref p) H'
def spLaw (K : PySem.W.Frag) : Sp := fun vs H Q _ => ∃ (a : Addr) (ns : List Int), vs = [.ref a] ∧ SqL K H a (ns.map V.int) ∧ ns.length ≤ 63 ∧ ∀ H', Q (.bl true) H'
theorem dpAll_ints {K : PySem.W.Frag} {H : Hp} : ∀ ns : List Int, DpAll K H (ns.map V.int) (ns.map PyData.int)
  | [] => .nil
  | n :: ns => .cons (.int _) (dpAll_ints ns)
theorem shpA_int (n : Nat) : ∀ ns : List Int, shpA n (ns.map PyData.int) = true
  | [] => by cases n <;> rfl
  | i :: ns => by
    have := shpA_int n ns
    cases n <;> (show (true && shpA _ (ns.map PyData.int)) = true; rw [this]; rfl)
theorem shaped_ints (ns : List Int) : SeqAt.shaped (.list (ns.map PyData.int)) = true := shp_shaped (n := 60) (shpA_int 59 ns) (by decide)
theorem upd_same_new {H : Hp} {p : Addr} {o : HO} (h : H p = none) : Same H (upd H p o) := fun a u e => by rw [upd_ne (ne_of_none e h)]; exact e
section
variable {P : Program} {w : World} {K : PySem.W.Frag} {mg : Str → Option Value} {base : Heap}
structure Rfn (P : Program) (w : World) (K : PySem.W.Frag) (mg : Str → Option Value) (base : Heap) (x : Str) (k : Nat) (ps : List Str) (sp : Sp) : Prop where
  ex : ∃ (f : Addr) (fd : FuncData), mg x = some (.ref f) ∧ PySem.W.keepIn K (.ref f) = true ∧ Binds K fd ps [] ∧ FnOk P w K mg base (L2N.CX P w) k f fd ps sp
theorem rfn_ok {x : Str} {st : Stmt} {f : Addr} {fd : FuncData} {N ps : List Str} {k : Nat} {sp : Sp} (Fu : Fun K x x st f fd) (S : FnScope N ps (defScope st))
    (len : ∀ vs H Q E, sp vs H Q E → vs.length = ps.length)
    (der : ∀ (cdv : Value) (A : Around) (outer : List Env) (s : Shared) (H : Hp) (vs : List V) (Q : VK) (E : XK), Room k (A.deeper (envOfC x (defScope st) s.heap.objs.size f cdv)) → sp vs H Q E →
      ∃ t, PSs (cxOf (L2N.CX P w) P w K mg base N x (defScope st) f cdv A outer s H E) (defBody st) t ∧ t { nx := fun _ H' => Q .non H', rt := Q } (L2.start N vs) H) : FnOk P w K mg base (L2N.CX P w) (k + 1) f fd ps sp := by
  obtain ⟨oc, od, kV, doc, pm, an, cdv, ct, osl, rfl, lk, hcd⟩ := Fu.ex
  exact fn_of lk hcd S len (fun A outer s H vs Q E hr h => der cdv A outer s H vs Q E hr h)
theorem rfn_mk {x : Str} {st : Stmt} {f : Addr} {fd : FuncData} {N ps : List Str} {k : Nat} {sp : Sp} (Fu : Fun K x x st f fd) (hm : mg x = some (.ref f)) (hb : Binds K fd ps []) (S : FnScope N ps (defScope st))
    (len : ∀ vs H Q E, sp vs H Q E → vs.length = ps.length)
    (der : ∀ (cdv : Value) (A : Around) (outer : List Env) (s : Shared) (H : Hp) (vs : List V) (Q : VK) (E : XK), Room k (A.deeper (envOfC x (defScope st) s.heap.objs.size f cdv)) → sp vs H Q E →
      ∃ t, PSs (cxOf (L2N.CX P w) P w K mg base N x (defScope st) f cdv A outer s H E) (defBody st) t ∧ t { nx := fun _ H' => Q .non H', rt := Q } (L2.start N vs) H) : Rfn P w K mg base x (k + 1) ps sp :=
  ⟨f, fd, hm, Fu.kp, hb, rfn_ok Fu S len der⟩
end
/-- the law's suite, at any start -/
def tAny (mg : Str → Option Value) (E : XK) (g : TDS) : TS := fun D σ H => ∃ G : Gx, G.mg = mg ∧ G.E = E ∧ sD G g D σ H
theorem pss_any {X : Cx} {mg : Str → Option Value} {E : XK} {b : List Stmt} {g : TDS} (h : ∀ G : Gx, G.mg = mg → G.E = E → PSs X b (sD G g)) : PSs X b (tAny mg E g) := ⟨fun pins s σ H D I ⟨G, h1, h2, h3⟩ => (h G h1 h2).run pins s σ H D I h3⟩
/-- one round of the law: the dice stands at q, all else is kept -/
theorem round_go {mg : Str → Option Value} {E : XK} {body : TDS} {n i : Nat} {σ : L2.St} {H : Hp} {q : Addr} {D : Ends} (hl : σ.length = n) (hi : i < n) (hσ : σ[i]? = some (some (.ref q))) (hq : ∃ c d, H q = some (.lst [.int c, .int d]))
    (wp : body ((List.replicate n Sl.un).set i (.res 0)) [.dice] { nx := fun ρ τ => ρ.length = n ∧ τ[0]? = some .dice, rt := fun _ _ => False, er := fun _ _ => False })
    (k : ∀ σ' H', σ'.length = n → (∀ a o, H a = some o → a ≠ q → H' a = some o) → (∃ c d, H' q = some (.lst [.int c, .int d])) → D.nx σ' H') : tAny mg E body D σ H := by
  refine ⟨⟨mg, fun _ => none, H, [q], E, fun _ _ => False, fun _ _ _ _ _ _ _ _ z => z.elim⟩, rfl, rfl, ?_⟩
  refine ⟨fun _ => none, [q], _, [.dice], _, ⟨⟨fun _ _ z => (nomatch z), by simp, rfl, fun p hp => ⟨rfl, ?_⟩, fun k p r h1 h2 => ?_, fun _ _ z => (nomatch z)⟩, Step.refl _ _ _, List.prefix_refl _, fun p hp => .inl hp, ?_, fun j r hj => ?_⟩, wp, rfl, ?_, ?_⟩
  · simp at hp; subst hp; obtain ⟨c, d, h⟩ := hq; rw [h]; exact fun z => nomatch z
  · cases k with
    | zero => simp at h1 h2; subst h1 h2; exact hq
    | succ k => simp at h1
  · simp [hl]
  · by_cases e : i = j
    · subst e
      rw [List.getElem?_set_self (by simpa using hi)] at hj
      cases hj
      exact ⟨q, rfl, hσ⟩
    · rw [List.getElem?_set_ne e, List.getElem?_replicate] at hj
      split at hj
      · cases hj; trivial
      · cases hj
  · intro C' As' ρ' τ' σ' H' _ R z
    have hs := R.step
    obtain ⟨r, e⟩ := R.pre
    refine k σ' H' ?_ (fun a o h n => hs.keep a o h (by simpa using n)) ?_
    · rw [← R.len]; exact z.1
    · exact R.base.rs 0 q .dice (by rw [← e]; rfl) z.2
  · intro C' H' v d τ' _ _ _ z
    exact z.elim
/-- all rounds -/
theorem rounds_go {K : PySem.W.Frag} {mg : Str → Option Value} {E : XK} {body : TDS} {n i : Nat} {σ : L2.St} {H : Hp} {p : Addr} {qs : List Addr} {g : TG} {D : Ends} (hl : σ.length = n) (hi : i < n) (hp : H p = some (.lst (qs.map V.ref))) (hq : ∀ q ∈ qs, q ≠ p ∧ ∃ c d, H q = some (.lst [.int c, .int d]))
    (hg : ∀ v σ H Q, Q (σ.set i (some v)) H → g v σ H Q)
    (wp : body ((List.replicate n Sl.un).set i (.res 0)) [.dice] { nx := fun ρ τ => ρ.length = n ∧ τ[0]? = some .dice, rt := fun _ _ => False, er := fun _ _ => False })
    (hd : ∀ σ H, D.nx σ H) :
    ∃ W : Nat → Nat → L2.St → Hp → Prop, (∃ m, W 0 m σ H) ∧ ∀ i m σ H, W i m σ H →
      ((Itl K p).stop i H ∧ D.nx σ H) ∨ ((Itl K p).go i H ∧ ∃ N : L2.St → Hp → Prop, (∀ σ' H', N σ' H' → ∃ m', m' < m ∧ W (i + 1) m' σ' H') ∧ ∀ x H', (Itl K p).yld i H x H' → g x σ H' fun σ2 H2 => tAny mg E body { D with nx := N, ct := N, bk := D.nx } σ2 H2) := by
  refine for_list (K := K) (a := p) (xs := qs.map V.ref) (fun _ σ H => σ.length = n ∧ H p = some (.lst (qs.map V.ref)) ∧ ∀ q ∈ qs, q ≠ p ∧ ∃ c d, H q = some (.lst [.int c, .int d])) ⟨hl, hp, hq⟩ (fun i σ H _ h => SqL.of h.2.1) ?_ (fun σ H _ => hd σ H)
  rintro j x σ H hj ⟨hl, hp, hq⟩
  rw [List.getElem?_map] at hj
  cases e : qs[j]? with
  | none => rw [e] at hj; cases hj
  | some q =>
    rw [e] at hj
    cases hj
    have hm := List.mem_of_getElem? e
    refine hg _ _ _ _ (round_go (by simpa using hl) hi (by rw [List.getElem?_set_self (by rw [hl]; exact hi)]) (hq q hm).2 wp fun σ' H' z1 z2 z3 => ⟨z1, z2 _ _ hp fun z => (hq q hm).1 z.symm, fun q' hq' => ⟨(hq q' hq').1, ?_⟩⟩)
    by_cases z : q' = q
    · rw [z]; exact z3
    · obtain ⟨c, d, h⟩ := (hq q' hq').2
      exact ⟨c, d, z2 _ _ h z⟩
end DL
/-! sorted(set(t)), t.index(i) -/
namespace DL
open PySem PySem.Spec PyProof.Rows L2
/-- a def of which nothing is promised -/
theorem Dfn_none {P : Program} {w : World} {K : PySem.W.Frag} {mg : Str → Option Value} {base : Heap} {k : Nat} {f : Addr} {fd : FuncData} {ps : List Str} : FnOk P w K mg base (L2N.CX P w) k f fd ps (spA mg (toFn fun _ _ _ => False)) :=
  ⟨fun vs H Q E h => by obtain ⟨_, _, _, _, _, _, _, _, ⟨_, _, _, z⟩, _⟩ := h; exact z.elim, fun A outer s H args us vs Q E hr e0 hb r hsp => by obtain ⟨_, _, _, _, _, _, _, _, ⟨_, _, _, z⟩, _⟩ := hsp; exact z.elim⟩
section
variable {X : Cx} {G : Gx} {e a b c : Expr} {es : List Expr} {f fa fb fc : TD} {pos p : Pos} {n : Nat} {g : TDA}
def rSetTup (K : PySem.W.Frag) (w : World) : List V → Hp → VK → Prop := fun xs H Q => ∃ (l : Addr) (ns : List Int), xs = [.ref l] ∧ SqT K H l (ns.map V.int) ∧ ns.length ≤ 60 ∧
  ∀ (q : Addr) (m : Nat), m ≤ ns.length → H q = none → Q (.ref q) (upd H q (SetO w q (fun j => decide (j ∈ ns)) m))
theorem cr_setTup (hc : X.calm = true) : CallR X (.type "set") (rSetTup X.K X.w) := by
  intro pins s σ H xs us Q I r ⟨l, ns, e, hq, hl, k⟩
  subst e
  rw [Vals.ref1 r]
  obtain ⟨its, rv, pt, hz⟩ := I.tuple hq
  refine call_set_tupI ns (I.ok.hd hc) (show s.heap.IsTuple l its.toArray from pt) (ints_of_vals rv) (by unfold scanBound; omega) fun h' tk m R1 hm kp => ?_
  refine ⟨.ref _, upd H s.heap.objs.size (SetO X.w s.heap.objs.size (fun j => decide (j ∈ ns)) m), ?_, rfl, k _ m hm (I.hok.fresh (Nat.le_refl _))⟩
  exact I.laid (t' := tk) kp (Nat.le_refl _) (setO_new R1)
def dSortSet (f : TD) : TD := fun ρ τ Q er => f ρ τ (fun x τ1 => match x with
  | .da (.tuple ds) => ∃ ns : List Int, ds = ns.map .int ∧ ns.length ≤ 60 ∧ ∀ ms : List Int, ms.Pairwise (· < ·) → (∀ k, k ∈ ms ↔ k ∈ ns) → Q (.da (.list (ms.map .int))) τ1
  | _ => False) er
theorem d_sortset {p2 q : Pos} (ha : PE X a (tD G f)) (hm : X.mg "sorted" = none) (hm2 : X.mg "set" = none) (hc : X.calm = true := by rfl) (hg : Gl X "sorted" := by rfl) (hg2 : Gl X "set" := by rfl)
    (na : starEach [a] X.env = (false, eval a X.env) :: starEach [] X.env := by rfl) (nb : starEach [.Call (.Name "set" p2) [a] [] q] X.env = (false, eval (.Call (.Name "set" p2) [a] [] q) X.env) :: starEach [] X.env := by rfl)
    (h1 : (backTo pos (starEach [] X.env)).any (·.1) = false := by rfl) (h2 : (backTo q (starEach [] X.env)).any (·.1) = false := by rfl) :
    PE X (.Call (.Name "sorted" p) [.Call (.Name "set" p2) [a] [] q] [] pos) (tD G (dSortSet f)) :=
  pe_weak (pe_callB (cr_sortedSet hc) hg hm boot_sorted (pa_cons (pe_callTy (cr_setTup hc) hg2 hm2 boot_set (pa_cons ha pa_nil na) (by decide) (by decide) na h2) pa_nil nb) (by decide) (by decide) nb h1) fun σ H Q h => by
    obtain ⟨C, As, ρ, τ, Qd, R, hf, k⟩ := h
    refine ⟨C, As, ρ, τ, _, R, hf, fun C1 H1 v x τ1 s1 R1 d1 q1 => ?_⟩
    match x, d1, q1 with
    | .da (.tuple ds), d1, ⟨ns, e, hl, q1⟩ =>
      subst e
      obtain ⟨r, vs, e1, e2, e3⟩ := VOk.dv d1
      have ev := e3.ints
      subst e1 ev
      refine ⟨r, ns, rfl, (e2.mono R1.base.core).sq, hl, fun z m hm hz => ?_⟩
      refine ⟨z, _, m, rfl, upd_same, by omega, fun ms t m1 m2 m3 ht => ?_⟩
      have hz2 : H1 t = none := by
        by_cases y : t = z
        · rw [y, upd_same] at ht; cases ht
        · rw [upd_ne y] at ht; exact ht
      have kp : ∀ b o, H1 b = some o → upd H1 z (SetO X.w z (fun j => decide (j ∈ ns)) m) b = some o := fun b o h => by rw [upd_ne (ne_of_none h hz)]; exact h
      have st : Step As C1 H1 C1 (upd H1 z (SetO X.w z (fun j => decide (j ∈ ns)) m)) := ⟨Same.refl _, fun b o h _ => kp b o h, fun b h => by
        cases y : H1 b with
        | none => exact absurd y h
        | some o => rw [kp b o y]; exact (fun w => nomatch w), fun _ _ n => n⟩
      have B2 : Base G.mg As C1 τ1 (upd H1 z (SetO X.w z (fun j => decide (j ∈ ns)) m)) := R1.base.keep (Same.refl _) (fun b o h => kp b o (R1.base.core _ _ h)) kp (fun _ _ n => n) R1.base.sz
      have sz : SzO (.lst (ms.map V.int)) := by show (ms.map V.int).length ≤ sizeLine; rw [List.length_map, m3]; exact Nat.le_trans hm (Nat.le_trans hl (by decide))
      have st2 := Step.new (As := As) (o := .lst (ms.map V.int)) ht B2.core
      have R2 := R1.go st B2
      exact k _ _ _ (.da (.list (ms.map .int))) τ1 (s1.trans (st.trans st2)) (R2.go st2 (B2.new ht sz)) ⟨_, rfl, t, _, rfl, upd_same, DvA.of_ints ms⟩ (q1 ms m1 fun j => by rw [m2 j]; exact decide_eq_true_iff)
/-! ### t.index(i) -/
def rTix (K : PySem.W.Frag) : V → List V → Hp → VK → Prop := fun x xs H Q => ∃ (l : Addr) (ns : List Int) (k : Int) (j : Nat), x = .ref l ∧ xs = [.int k] ∧ SqT K H l (ns.map V.int) ∧ ns[j]? = some k ∧ (∀ m : Nat, m < j → ns[m]? ≠ some k) ∧ Q (.int (j : Nat)) H
theorem mt_tixI : MtR X "tuple.index" (rTix X.K) := by
  intro pins s σ H x xs v us Q I rx rs ⟨l, ns, k, j, e1, e2, hq, hy, hno, hQ⟩
  subst e1 e2
  cases rx
  obtain ⟨u, rfl, t, rfl⟩ := vals1 rs
  obtain ⟨its, r, ⟨⟨cls, dd, dt, sl⟩, ho, hc, m0, hd⟩, hz⟩ := I.tuple hq
  simp only at hc hd
  subst hc hd
  have hl : its.length = ns.length := by rw [← r.length, List.length_map]
  have get : ∀ (m : Nat) (hm : m < its.toArray.size), ∃ y t', ns[m]? = some y ∧ its.toArray[m] = Value.int y t' := fun m hm => by
    have hm2 : m < its.length := by simpa using hm
    have hm' : m < ns.length := by omega
    obtain ⟨w, hw, t', hw'⟩ := r.get (i := m) (x := .int ns[m]) (by simp [hm'])
    exact ⟨ns[m], t', List.getElem?_eq_getElem hm', by rw [← hw', ← (List.getElem?_eq_some_iff.mp hw).2]; simp⟩
  have hj : j < its.toArray.size := by
    have := (List.getElem?_eq_some_iff.mp hy).1
    simp; omega
  refine call_meets PySem.F.slot_tuple_index ⟨_, ho, rfl⟩ PySem.F.entry_tuple_index (PySem.F.args_tuple_index_2 _ _) (TI.tuple_indexAt l its.toArray m0 dd sl (.int k t) (eqU (.int k)) j hj ?_ ?_) ⟨ho, fun w hw => mem_eqAt (x := .int k) ⟨t, rfl⟩ rfl r (by rw [List.all_map, List.all_eq_true]; intros; rfl) w (by simpa using hw), ⟨.int (j : Nat), H, I.tok _, ⟨_, rfl⟩, hQ⟩⟩
  · obtain ⟨y, t', h1, h2⟩ := get j hj
    rw [hy] at h1; cases h1
    rw [h2]; exact beq_self_eq_true k
  · intro m hm hmj
    obtain ⟨y, t', h1, h2⟩ := get m hm
    rw [h2]; exact beq_eq_false_iff_ne.mpr fun e => hno m hmj (e ▸ h1)
/-- o.index(e), o a tuple that the program made -/
def tTix (K : PySem.W.Frag) (to : TE) (t : TA) : TE := fun σ H Q => to σ H fun x H1 => ∃ l vs, x = .ref l ∧ TpO H1 l vs ∧ t σ H1 fun xs H2 => rTix K x xs H2 Q
theorem pe_tix {o : Expr} {to : TE} {t : TA} {apos cpos : Pos} (ho : PE X o to) (ha : PA X [e] t) (hbase : attributeBase o "index" X.env (eval o X.env) = eval o X.env := by rfl)
    (hfew : ((backTo cpos (starEach [e] X.env)).all (fun x => !x.1) && (backToKw cpos (keywordEach [] X.env)).all (fun x => x.1.isSome) && decide ([e].length + ([] : List Keyword).length + (if ([] : List Keyword).isEmpty then 0 else 1) < 30)) = true := by rfl)
    (hline : (apos.endLine == cpos.line) = true := by rfl) (hs : starEach [e] X.env = (false, eval e X.env) :: starEach [] X.env := by rfl) (hplain : (backTo cpos (starEach [] X.env)).any (·.1) = false := by rfl) :
    PE X (.Call (.Attribute o "index" apos) [e] [] cpos) (tTix X.K to t) := by
  refine ⟨fun pins s σ H Q I h => wpAny_Call_method_late hbase hfew hline rfl (thn (ho.run pins s σ H _ I h) fun v s1 hv => ?_)⟩
  obtain ⟨x, H1, I1, r1, l, vs, e1, tp, q1⟩ := hv
  subst e1
  cases r1
  have ⟨its, _, ht, _⟩ := I1.tuple (tp.sq (K := X.K))
  obtain ⟨ob, h1, h2⟩ := tp.ex
  refine ⟨"tuple", "tuple.index", PySem.F.plainAttrs_tuple, PySem.F.slot_tuple_index, PySem.F.type_tuple_index, ht.typeIs, fun a e => ?_, ?_⟩
  · cases e
    exact ⟨ob, (I1.hok l _ h1).1, h2⟩
  · have hA := ha.run cpos pins s1 σ H1 _ I1 q1
    rw [hs] at hA ⊢
    refine Calls.callWith_builtin (by show (false || (backTo cpos (starEach [] X.env)).any (·.1)) = false; rw [hplain] <;> rfl) (Calls.evalArgs_plain (thn hA fun us s2 hu => ?_))
    obtain ⟨ws, H2, I2, r2, q2⟩ := hu
    exact mt_tixI pins s2 σ H2 (.ref l) ws _ us Q I2 rfl r2 q2
def dTix (fo f : TD) : TD := fun ρ τ Q er => fo ρ τ (fun x τ1 => match x with
  | .da (.tuple ds) => f ρ τ1 (fun y τ2 => match y with
    | .da (.int k) => ∃ (ns : List Int) (j : Nat), ds = ns.map .int ∧ ns[j]? = some k ∧ (∀ m : Nat, m < j → ns[m]? ≠ some k) ∧ Q (.da (.int (j : Int))) τ2
    | _ => False) er
  | _ => False) er
theorem d_tix {o : Expr} {apos cpos : Pos} (ho : PE X o (tD G fa)) (ha : PE X e (tD G f)) (hbase : attributeBase o "index" X.env (eval o X.env) = eval o X.env := by rfl)
    (hfew : ((backTo cpos (starEach [e] X.env)).all (fun x => !x.1) && (backToKw cpos (keywordEach [] X.env)).all (fun x => x.1.isSome) && decide ([e].length + ([] : List Keyword).length + (if ([] : List Keyword).isEmpty then 0 else 1) < 30)) = true := by rfl)
    (hline : (apos.endLine == cpos.line) = true := by rfl) (hs : starEach [e] X.env = (false, eval e X.env) :: starEach [] X.env := by rfl) (hplain : (backTo cpos (starEach [] X.env)).any (·.1) = false := by rfl) :
    PE X (.Call (.Attribute o "index" apos) [e] [] cpos) (tD G (dTix fa f)) := pe_weak (pe_tix ho (pa_cons ha pa_nil hs) hbase hfew hline hs hplain) fun σ H Q h => by
  obtain ⟨C, As, ρ, τ, Qd, R, h1, k⟩ := h
  refine ⟨C, As, ρ, τ, _, R, h1, fun C1 H1 v x τ1 s1 R1 d1 q1 => ?_⟩
  match x, d1, q1 with
  | .da (.tuple ds), d1, q1 =>
    obtain ⟨l, vs, g1, g2, g3⟩ := VOk.dv d1
    refine ⟨l, vs, g1, g2.mono R1.base.core, C1, As, ρ, τ1, _, R1, q1, fun C2 H2 u y τ2 s2 R2 d2 q2 => ?_⟩
    match y, d2, q2 with
    | .da (.int kk), d2, ⟨ns, j, e, hy, hno, q3⟩ =>
      subst e
      have ev := g3.ints
      subst ev
      have e3 : u = .int kk := VOk.dv d2
      subst e3
      exact ⟨l, ns, kk, j, g1, rfl, ((g2.mono s2.ex).mono R2.base.core).sq, hy, hno, k C2 H2 _ (.da (.int (j : Int))) τ2 (s1.trans s2) R2 ⟨_, rfl, rfl⟩ q3⟩
end
end DL
/-! min of a list of data -/
namespace DL
open PySem PySem.Spec PyProof.Rows PySem.W L2
section
variable {X : Cx} {G : Gx} {e a b c : Expr} {es : List Expr} {f fa fb fc : TD} {pos p : Pos} {n : Nat} {g : TDA}
theorem minD_mem (x : PyData) : ∀ xs : List PyData, minD x xs ∈ x :: xs := by
  intro xs
  unfold minD
  induction xs generalizing x with
  | nil => exact List.mem_cons_self
  | cons y t ih =>
    rw [List.foldl_cons]
    have := ih (if dataLt y x then y else x)
    rcases List.mem_cons.mp this with h | h
    · rw [h]
      split
      · exact List.mem_cons_of_mem _ List.mem_cons_self
      · exact List.mem_cons_self
    · exact List.mem_cons_of_mem _ (List.mem_cons_of_mem _ h)
def rMinD : List V → Hp → VK → Prop := fun xs H Q => ∃ p vs d ds C, xs = [.ref p] ∧ H p = some (.lst vs) ∧ Same C H ∧ DvA C (d :: ds) vs ∧ AlikeAll (d :: ds) ∧ PyData.depthAll (d :: ds) ≤ 60 ∧ ∀ v, Dv C (minD d ds) v → Q v H
theorem call_minD (hc : X.calm = true) (hu : X.A.units + 65 < cLine) : CallR X (.builtin "min") rMinD := by
  intro pins s σ H xs us Q I r ⟨p, vs, d, ds, C, e, hp, eC, dv, ha, hd, q⟩
  subst e
  rw [Vals.ref1 r]
  obtain ⟨its, rv, pl, hz⟩ := I.list (SqL.of hp)
  obtain ⟨as, hr⟩ := Dp.readsAll I (d :: ds) vs its (DvA.dp (dv.mono eC)) rv
  refine min_list_data (I.ok.hd hc) pl.isList (x := d) (xs := ds) (as := as) hr ha (by omega) fun i u h' tk bs hi hm kp => ?_
  have hi' : its[i]? = some u := by simpa using hi
  have il : i < vs.length := by
    have := (List.getElem?_eq_some_iff.mp hi').1
    rw [rv.length]; exact this
  obtain ⟨u', hu', ru⟩ := rv.get (i := i) (x := vs[i]) (by simp [il])
  rw [hi'] at hu'
  cases hu'
  obtain ⟨d', hd', dv'⟩ := dv.get (i := i) (v := vs[i]) (by simp [il])
  have I2 : Inv X pins σ H { s with heap := h', toks := tk } := I.kept kp
  obtain ⟨as', rd'⟩ := Dp.reads I2 d' vs[i] u (Dv.dp (dv'.mono eC)) ru
  have ee : d' = minD d ds := alike_unique d' (minD d ds) u as' bs (ha.1 _ (List.mem_of_getElem? hd') _ (minD_mem d ds)) rd' hm
  subst ee
  exact ⟨vs[i], H, I2, ru, q _ dv'⟩
def oMinD : OpC := fun xs τ Q => match xs with
  | [x] => match dat τ x with
    | some (.list (d :: ds)) => (AlikeAll (d :: ds) ∧ PyData.depthAll (d :: ds) ≤ 60) ∧ Q (minD d ds)
    | _ => False
  | _ => False
theorem ok_minD : OkC rMinD oMinD := fun {mg As C H τ xs vs Q Qd} b ha o k => by
  match xs, ha, o with
  | [x], ha, o =>
    obtain ⟨v, rfl, hv⟩ := arg1 ha
    unfold oMinD at o
    cases q : dat τ x with
    | none => simp only [q] at o
    | some dx =>
      simp only [q] at o
      match dx, q, o with
      | .list (d :: ds), q, ⟨⟨h1, h2⟩, o⟩ =>
        obtain ⟨r, ws, e1, e2, e3⟩ := lst_ok b hv q
        subst e1
        exact ⟨r, ws, d, ds, C, rfl, e2, b.core, e3, h1, h2, fun v hv => k C H v (minD d ds) (Step.refl _ _ _) b hv o⟩
theorem d_minD (ha : PA X [a] (tDA G n g)) (hm : X.mg "min" = none) (hu : X.A.units + 65 < cLine) (hc : X.calm = true := by rfl) (hg : Gl X "min" := by rfl) (he : starEach [a] X.env = (false, eval a X.env) :: starEach [] X.env := by rfl) (hpl : (backTo pos (starEach [] X.env)).any (·.1) = false := by rfl) : PE X (.Call (.Name "min" p) [a] [] pos) (tD G (dCB oMinD g)) :=
  d_callB (call_minD hc hu) ok_minD hg hm (by decide +kernel) ha (by decide) (by decide) he hpl
end
end DL
namespace DL
open PySem PySem.Spec PyProof.Rows L2 HotX
section
variable {prog : Program} {w : World} {A : Around} {E : Value → Shared → Prop} {s : Shared}
/-- a list's iterator at its end, while the exception at x1 is handled -/
theorem next_list_end_hot {it l x1 : Addr} {i : Nat} {items : Array Value} {o1 : Obj} {vs1 : Array Value} {Q : Option Value → Shared → Prop} (hh : A.handled = some (.ref x1)) (h1 : s.heap.get? x1 = some o1) (d1 : o1.data = .fields vs1) (c1 : vs1[2]? = some .none) (hne : x1 ≠ it)
    (hit : s.heap.IsListIter it l i) (hl : s.heap.IsList l items) (hx : items[i]? = none)
    (hQ : ∀ h', Heap.ExtBut it s.heap h' → Q none { s with heap := h' }) : wpAny (model prog w) A (pyNext (.ref it)) Q E s := by
  obtain ⟨oi, hoi, _, hdi⟩ := id hit
  obtain ⟨ol, hol, _, nl, hdl⟩ := hl
  unfold pyNext
  refine wpAny_bind (wpAny_attempt (wpAny_callSpecial?_slot (name := Str.ofString "__next__") hit.typeIs slot_listiter_next
    (wpAny_call_entry slot_listiter_next hit.typeIs entry_listiter_next ?_ (args_listiter_next _))))
  show wpAny _ _ (field (.ref it) 0 >>= _) _ _ s
  refine wpAny_bind (wpAny_field hoi hdi (x := .ref l) rfl ?_)
  show wpAny _ _ (if (Value.ref l == Value.none) = true then _ else _) _ _ s
  rw [if_neg (show ¬ ((Value.ref l == Value.none) = true) from Bool.false_ne_true)]
  show wpAny _ _ (field (.ref it) 1 >>= _) _ _ s
  refine wpAny_bind (wpAny_field hoi hdi (x := .int i 0) rfl ?_)
  show wpAny _ _ (seqItems? (.ref l) >>= _) _ _ s
  refine wpAny_bind (wpAny_seqItems hol hdl ?_)
  simp only [Int.toNat_natCast, hx]
  refine wpAny_bind (wpAny_rule (wpAny_bind (wpAny_setField hoi hdi (by simp) ?_)))
  show wpAny _ _ (newExc (.type "StopIteration") [] >>= _) _ _ _
  refine wpAny_bind ?_
  simp only [newExc, newTuple]
  refine wpAny_bind (wpAny_newObj_type ?_ (by size_fits))
  refine wpAny_bind (m := firstArgMember _ _) (wpAny_of_eq (a := Value.none) (by first | rfl | (simp only [firstArgMember]; rfl)) ?_)
  refine wpAny_newObj_type ?_ (by size_fits)
  have ext := ((Heap.SameBut.update s.heap it (Obj.mapFields (·.setIfInBounds 0 Value.none))).extBut)
  have e1 := ext x1 o1 hne h1
  refine raiseNew_hot ⟨hh, o1, vs1, Heap.get?_push_of_some _ (Heap.get?_push_of_some _ e1), d1, c1⟩ (Nat.ne_of_lt (Heap.lt_size (Heap.get?_push_of_some _ e1))) (Heap.get?_push_size _ rfl) rfl (by first | (simp; done) | (simp; omega) | (simp only [Array.size_append]; simp; omega)) ?_
  refine wpAny_bind (wpAny_isInstance (T := "StopIteration") (b := true) ⟨_, Heap.get?_update_self _ (Heap.get?_push_size _ rfl) rfl, rfl⟩ isSubtype_stop ?_)
  refine wpAny_pure (hQ _ fun b o hb e => ?_)
  have e2 := ext b o hb e
  rw [Heap.get?_update_other _ _ (Nat.ne_of_gt (Heap.lt_size (Heap.get?_push_of_some _ e2)))]
  exact Heap.get?_push_of_some _ (Heap.get?_push_of_some _ e2)
theorem walks_listH {x1 : Addr} {o1 : Obj} {vs1 : Array Value} (hh : A.handled = some (.ref x1)) (d1 : o1.data = .fields vs1) (c1 : vs1[2]? = some .none) (I ax : Addr) (hne : ax ≠ I) (hn1 : x1 ≠ I) (items : Array Value) :
    Walks prog w A I [I, ax, x1] [I] items.size (fun i v => items[i]? = some v) (fun i h => h.IsListIter I ax i ∧ h.IsList ax items ∧ h.get? x1 = some o1) where
  sub := fun b hb => by simp at hb; simp [hb]
  frame := fun _ _ _ st hk => ⟨st.1.at fun o e => hk I (by simp) o e, st.2.1.at fun o e => hk ax (by simp) o e, hk x1 (by simp) _ st.2.2⟩
  item := fun i s Q E hi st hQ => by
    refine wpAny_pyNext_list_item st.1 st.2.1 (x := items[i]) (by simp [hi]) fun h' hit' hs' => ?_
    exact hQ _ h' s.toks (by simp [hi]) ⟨hit', st.2.1.extBut hs'.extBut hne, hs'.extBut _ _ hn1 st.2.2⟩ fun b o hb e => hs'.extBut b o (fun h => hb (by simp [h])) e
  done := fun s Q E st hQ => next_list_end_hot hh st.2.2 d1 c1 hn1 st.1 st.2.1 (by simp) fun h' he' => hQ h' s.toks fun b o hb e => he' b o (fun h => hb (by simp [h])) e
  self := fun _ _ _ _ st hQ => wpAny_pyIter_listiter st.1 hQ
theorem sum_hot {l x1 : Addr} {o1 : Obj} {vs1 : Array Value} {its : List Value} {ns : List Int} {Q : Value → Shared → Prop} (hh : A.handled = some (.ref x1)) (h1 : s.heap.get? x1 = some o1) (d1 : o1.data = .fields vs1) (c1 : vs1[2]? = some .none) (hl : s.heap.IsList l its.toArray) (hi : IntsAre its ns)
    (h : ∀ h' tk t', (∀ b o, s.heap.get? b = some o → h'.get? b = some o) → Q (.int ns.sum t') { s with heap := h', toks := tk }) : wpAny (model prog w) A (call (.builtin "sum") [.ref l]) Q E s := by
  obtain ⟨xs, e⟩ := hi.allInts.items
  have hn : numsOf (intItems xs).toList = ns := by rw [← e]; exact hi.numsOf
  rw [nums_intItems] at hn
  rw [e] at hl
  refine call_sum_walkG (iter_intList hl fun s₂ e st hfp hlI => ?_)
  subst e
  have hx : x1 < s.heap.objs.size := Heap.lt_size h1
  refine ⟨_, _, _, _, _, _, numAt xs, rfl, walks_listH (A := A.in1) hh d1 c1 _ l hlI (Nat.ne_of_lt hx) (intItems xs), ⟨st.1, st.2, Heap.get?_push_of_some _ h1⟩, fun b hb => ?_, (fun _ _ => intItems_at), fun h' tk t' hk => ?_⟩
  · rcases List.mem_cons.mp hb with rfl | hb
    · exact hfp _ (by simp)
    · rcases List.mem_cons.mp hb with rfl | hb
      · exact hfp _ (by simp)
      · rcases List.mem_cons.mp hb with rfl | hb
        · show _ < (s.heap.push _).objs.size
          rw [Heap.size_push]
          exact Nat.lt_succ_of_lt hx
        · cases hb
  · have := h h' tk t' (old_kept hk)
    have e3 : preSum (numAt xs) (intItems xs).size = ns.sum := by
      rw [preSum_eq, ← hn, List.take_of_length_le (by simp [intItems])]
    rw [e3]
    exact this
end
end DL
namespace DL
open PySem PySem.Spec PyProof.Rows L2 HotX L2H
theorem nC2 {b N C : Nat} (hb : b < N) (hC : N + 1 ≤ C) : b ≠ C := by omega
theorem off2 {b N C D : Nat} (hb : b < N ∨ b = C) (hC : N + 1 ≤ C) (hD : N + 1 ≤ D) (h : D ≠ C) : ¬ (b = D ∨ b = N) := by omega
/-- the scope of [int(v) for v in ..] -/
structure CompI (scope : Scope) (v : Str) : Prop where
  kind : scope.kind = .function
  cell : ∀ y ∈ scope.names, y.2 ≠ .cell
  free : ∀ y ∈ scope.names, y.2 ≠ .free
  loc : ∀ y ∈ scope.names, y.2 = .local → scope.names.lookup y.1 = some .local
  v : scope.names.lookup v = some .local
  int : scope.names.lookup ("int" : Str) = some .globalImplicit
def compIB (scope : Scope) (v : Str) : Bool :=
  decide (scope.kind = .function) && (scope.names.all fun y => !decide (y.2 = .cell) && !decide (y.2 = .free) && (!decide (y.2 = .local) || decide (scope.names.lookup y.1 = some .local))) && decide (scope.names.lookup v = some .local) && decide (scope.names.lookup ("int" : Str) = some .globalImplicit)
theorem compI_by {scope : Scope} {v : Str} (h : compIB scope v = true) : CompI scope v := by
  unfold compIB at h
  simp only [Bool.and_eq_true, Bool.or_eq_true, Bool.not_eq_true', decide_eq_true_eq, decide_eq_false_iff_not, List.all_eq_true] at h
  obtain ⟨⟨⟨h1, h2⟩, h3⟩, h4⟩ := h
  refine ⟨h1, fun y hy => (h2 y hy).1.1, fun y hy => (h2 y hy).1.2, fun y hy e => ?_, h3, h4⟩
  rcases (h2 y hy).2 with z | z
  · exact absurd e z
  · exact z
section
variable {X : Cx} {pins : List (Addr × Obj)} {σ : L2.St} {H : Hp} {s : Shared}
def bI (b : Bool) : Int := if b then 1 else 0
/-- [int(v) for v in x], x a list of bools, within an except suite -/
theorem pe_intsH {i : Nat} {x v : Str} {scope : Scope} {pi pv1 pv2 px pc pos : Pos} (hc : HotC X) (hx : X.N[i]? = some x) (hv : Vis X.env.scope x) (S : CompI scope v) (hm : X.mg "int" = none) (hd : (v == ("__debug__" : Str)) = false := by decide) (hd2 : (x == ("__debug__" : Str)) = false := by decide) (hcd : (x == ("__classdict__" : Str)) = false := by decide) :
    PE X (.ListComp (.Call (.Name "int" pi) [.Name v pv1] [] pc) [⟨.Name v pv2, .Name x px, [], 0⟩] scope pos)
      (fun σ H Q => ∃ (l : Addr) (bs : List Bool), σ[i]? = some (some (.ref l)) ∧ H l = some (.lst (bs.map V.bl)) ∧ ∀ D, H D = none → Q (.ref D) (L2.upd H D (.lst (bs.map fun b => V.int (bI b))))) := by
  refine ⟨fun pins s σ H Q I h => ?_⟩
  obtain ⟨l, bs, hσ, hl, hQ⟩ := h
  have hclos : closureFor scope X.env = pure (cloFrom X.env.cells scope.names []) := closure_ok fun y hy e => absurd e (S.free y hy)
  generalize hcl : cloFrom X.env.cells scope.names [] = cl at hclos
  refine ListComp_goes hclos S.cell S.kind S.loc (thn ((pe_var (pos := px) (i := i) hx hv hd2 hcd).run pins s σ H (fun u H1 => u = .ref l ∧ H1 = H) I ⟨.ref l, hσ, rfl, rfl⟩) fun u s1 ⟨w1, H1, I1, r1, q1⟩ => ?_) (by intro _; rfl)
  obtain ⟨rfl, rfl⟩ := q1
  obtain rfl : u = Value.ref l := r1
  obtain ⟨its, rv, pl, hz⟩ := I1.list (SqL.of hl)
  have hll : s1.heap.IsList l its.toArray := pl.isList
  obtain ⟨p, ⟨hh, v1, d1, c1⟩, hp⟩ := hc
  have P1 := (I1.pin p (List.mem_append_left _ hp)).1
  have hlt : l < s1.heap.objs.size := by obtain ⟨o, ho, _⟩ := hll; exact Heap.lt_size ho
  have hlp : p.1 < s1.heap.objs.size := Heap.lt_size P1
  have hlen : its.length = bs.length := by rw [← rv.length]; simp
  have kind_v : ∀ C, (compEnvC scope cl C X.env).kindOf v = some .local := fun C => lookup_relabel_local S.v
  have kind_i : ∀ C, (compEnvC scope cl C X.env).kindOf ("int" : Str) = some .globalImplicit := fun C => lookup_relS_keep (sc := X.env.scope) (by decide) S.int
  have hpk : ∀ C, ((compEnvC scope cl C X.env).scope.kind == .class || ((compEnvC scope cl C X.env).scope.kind == .module && (compEnvC scope cl C X.env).locals != (compEnvC scope cl C X.env).globals)) = false := fun C => by
    show (scope.kind == .class || (scope.kind == .module && _)) = false
    rw [S.kind]; rfl
  refine wpAny_pyIter_list hll ?_
  have W : Goes X.prog X.w X.A (.Name v pv2) s1.heap.objs.size [s1.heap.objs.size, l, p.1] [s1.heap.objs.size] its.toArray.size (fun i v _ => its.toArray[i]? = some v) (fun i h => h.IsListIter s1.heap.objs.size l i ∧ h.IsList l its.toArray ∧ h.get? p.1 = some p.2) :=
    .ofWalks (walks_listH hh d1 c1 _ l (Nat.ne_of_lt hlt) (Nat.ne_of_lt hlp) its.toArray) fun i v s Q E st q => by
      obtain ⟨o, ho, hc, hd⟩ := st.1
      exact letGo_of_cls ho hc hd (by decide) q
  refine ⟨_, _, _, _, _, _, rfl, W, by rw [List.size_toArray, ← rv.length]; exact hz, ⟨⟨_, Heap.get?_push_size _ rfl, rfl, rfl⟩, hll.push _, Heap.get?_push_of_some _ P1⟩, fun b hb => ?_, fun D C s₃ hB => ?_⟩
  · show b < (s1.heap.push _).objs.size
    rw [Heap.size_push]
    have : b = s1.heap.objs.size ∨ b = l ∨ b = p.1 := by simpa using hb
    rcases this with e | e | e
    · rw [e]; exact Nat.lt_succ_self _
    · rw [e]; exact Nat.lt_succ_of_lt hlt
    · rw [e]; exact Nat.lt_succ_of_lt hlp
  · obtain ⟨⟨h₃, tk₃, rfl⟩, old, nD, nC, hDC, hnm⟩ := hB
    have nC' : (s1.heap.objs.size + 1 : Nat) ≤ C := by have := nC; rw [Heap.size_push] at this; exact this
    have nD' : (s1.heap.objs.size + 1 : Nat) ≤ D := by have := nD; rw [Heap.size_push] at this; exact this
    refine ⟨fun i ys s₁ => ∃ h' tk m, s₁ = { s1 with heap := h', toks := tk } ∧ h'.Ns C m ∧ Vals ((bs.take i).map fun b => V.int (bI b)) ys ∧ ∀ b o, s1.heap.get? b = some o → h'.get? b = some o,
      ⟨h₃, tk₃, _, rfl, hnm, .nil, fun b o e => old b o (Heap.get?_push_of_some _ e)⟩, ?_, ?_, ?_⟩
    · rintro i ys s₁ h' tk ⟨h₄, tk₄, m, rfl, n₄, e₄, k₄⟩ hk' _
      have off : ∀ b : Addr, (b < s1.heap.objs.size ∨ b = C) → b ∉ D :: [s1.heap.objs.size] := fun b hb hm => off2 hb nC' nD' hDC (by simpa using hm)
      exact ⟨h', tk, m, rfl, n₄.at' fun o e => hk' _ o (off _ (.inr rfl)) e, e₄, fun b o e => hk' b o (off _ (.inl (Heap.lt_size e))) (k₄ b o e)⟩
    · rintro i u ys s₁ hi hu st ⟨h₄, tk₄, m, rfl, n₄, e₄, k₄⟩ hpl
      have hu2 : its[i]? = some u := by simpa using hu
      have hib : i < bs.length := by rw [← hlen]; simpa using hi
      obtain ⟨u', hu', ru⟩ := rv.get (i := i) (x := .bl bs[i]) (by simp [hib])
      rw [hu2] at hu'
      cases hu'
      obtain rfl : u = Value.bool bs[i] := ru
      refine wpAny_assign_Name (wpAny_storeName_local (kind_v C) n₄ (fun h₆ n₆ s₆ => wpAny_tests_nil ?_) (hpk C))
      show wpAny _ _ _ _ _ _
      have up : ∀ b o, b ≠ C → h₄.get? b = some o → h₆.get? b = some o := fun b o hb e => s₆.extBut _ _ hb e
      have upo : ∀ b o, s1.heap.get? b = some o → h₆.get? b = some o := fun b o e => up b o (nC2 (Heap.lt_size e) nC') (k₄ b o e)
      obtain ⟨mb, g1, g2⟩ := I1.mod.blt
      refine wpAny_Call_Name_kw (Calls.Name_function_global S.kind (kind_i C) (Calls.loadGlobal_builtin (mg := X.mg) (mb := mb) (v := .type "int") (by
          show h₆.Ns X.env.globals X.mg
          rw [I1.ok.glob]; exact (I1.mod.glob.keeps I1.bk).keeps upo) hm (by
          show h₆.Ns X.env.builtins mb
          rw [I1.ok.blt]; exact (g1.keeps I1.bk).keeps upo) ((g2 "int" (by decide)).trans boot_int) ?_))
      refine PyProof.Rows.callWith_type1 ?_ (by rfl) (by rfl)
      show wpAny _ _ (spliced ((false, eval (.Name v pv1) (compEnvC scope cl C X.env)) :: backTo pc (starEach [] (compEnvC scope cl C X.env)))) _ _ _
      refine Calls.spliced_cons ?_
      rw [eval_Name _ _ _ hd]
      refine wpAny_bind (wpAny_standAt (wpAny_loadName_local S.kind (kind_v C) n₆ (v := .bool bs[i]) (by first | rfl | simp) (Calls.spliced_nil (call_int_bool ?_))))
      refine ⟨⟨h₆, _, _, rfl, n₆, ?_, upo⟩, ?_, hpl.at fun o e => up _ o hDC e⟩
      · have e5 : (bs.take (i + 1)).map (fun b => V.int (bI b)) = (bs.take i).map (fun b => V.int (bI b)) ++ [V.int (bI bs[i])] := by
          rw [List.take_add_one, List.map_append, List.getElem?_eq_getElem hib]; rfl
        rw [e5]
        exact e₄.append (.cons ⟨_, rfl⟩ .nil)
      · obtain ⟨z1, z2, z3⟩ := st
        exact ⟨z1.at fun o e => up _ o (Nat.ne_of_lt (Nat.lt_of_lt_of_le (Nat.lt_succ_self _) nC')) e, z2.at fun o e => up _ o (nC2 hlt nC') e, up _ _ (nC2 hlp nC') z3⟩
    · rintro ys s₁ ⟨h₄, tk₄, m, rfl, n₄, e₄, k₄⟩ hpl
      have e6 : (bs.take its.toArray.size).map (fun b => V.int (bI b)) = bs.map fun b => V.int (bI b) := by rw [List.take_of_length_le (by rw [List.size_toArray, hlen]; exact Nat.le_refl _)]
      rw [e6] at e₄
      have nD'' : s1.heap.objs.size ≤ D := Nat.le_trans (Nat.le_succ _) nD'
      refine ⟨m, n₄, fun h' hs' => ?_⟩
      have kp : ∀ b o, s1.heap.get? b = some o → h'.get? b = some o := fun b o e => hs'.extBut b o (nC2 (Heap.lt_size e) nC') (k₄ b o e)
      obtain ⟨c, hpl2⟩ := hpl.extBut hs'.extBut hDC
      have zl : (bs.map fun b => V.int (bI b)).length ≤ sizeLine := by simpa using hz
      exact ⟨.ref D, _, I1.laid (t' := tk₄) kp nD'' (show ObjOk X.prog X.w _ h' D (.lst (bs.map fun b => V.int (bI b))) from ⟨zl, ys, c, e₄, hpl2⟩), rfl, hQ D (I1.hok.fresh nD'')⟩
/-- sum(xs) there -/
theorem cr_sumH (hc : HotC X) : CallR X (.builtin "sum") (rSum X.K) := by
  intro pins s σ H vs us Q I r h
  obtain ⟨a, ns, rfl, hs, q⟩ := h
  obtain ⟨its, rv, hl, _⟩ := I.list hs
  rw [Vals.ref1 r]
  obtain ⟨p, ⟨hh, v1, d1, c1⟩, hp⟩ := hc
  exact sum_hot hh (I.pin p (List.mem_append_left _ hp)).1 d1 c1 hl.isList rv.ints fun h' tk t' hk => ⟨.int _, H, I.kept hk, ⟨_, rfl⟩, q⟩
end
end DL
/-! a deed told: the exception's name, by the law's own term -/
namespace DL
open PySem PySem.Spec PyProof.Rows L2 HotX L2H
def ERR : List Str := [Str.ofString "InvalidBrook", Str.ofString "InvalidLength", Str.ofString "InvalidPlace", Str.ofString "InvalidWeight", Str.ofString "InvalidPlanks", Str.ofString "InvalidPier",
  Str.ofString "InvalidIndex", Str.ofString "InvalidText", Str.ofString "NotFirm", Str.ofString "Overlap", Str.ofString "TooMany", Str.ofString "NothingToUndo"]
/-- the j-th of the classes Cs, as isinstance and except see it -/
structure Told1 (K : PySem.W.Frag) (CP : Addr) (Cs : List Addr) (j : Nat) (D : Addr) : Prop where
  at_ : Cs[j]? = some D
  exc : ExcC K D
  plank : PySem.W.exmOne K (.ref D) (.ref CP) = some true
  val : PySem.W.kitOne K (.ref D) (.type "ValueError") = some true
  fl : ∀ i C, Cs[i]? = some C → PySem.W.kitOne K (.ref D) (.ref C) = some (decide (i = j))
section
variable {X : Cx}
/-- isinstance(e, c) of an exception that the context holds -/
theorem call_isP {a D : Addr} {oe : Obj} (C : ExcC X.K D) (hm : (a, oe) ∈ X.pn) (hz : Zc (.ref D) none oe) (hf : ∃ vs, oe.data = .fields vs) : CallR X (.builtin "isinstance") (rIsE X.K D a) := by
  intro pins s σ H xs us Q I r h
  obtain ⟨c, cv, b, rfl, hcv, e, q⟩ := h
  obtain ⟨u1, us', rfl⟩ : ∃ u1 us', us = u1 :: us' := by cases r; exact ⟨_, _, rfl⟩
  cases r with
  | cons rx rr =>
    obtain ⟨u2, rfl, rt⟩ := vals1 rr
    cases rx
    obtain rfl := hcv _ rt
    have hget := (I.pin (a, oe) (List.mem_append_left _ hm)).1
    obtain ⟨vs, hv⟩ := hf
    have J : PySem.W.InstAt s.heap a oe D none := by
      obtain ⟨oc, od, oda, osl⟩ := oe
      obtain ⟨h1, h2⟩ := hz
      dsimp only at h1 h2 hv
      subst h1 h2 hv
      exact ⟨hget, rfl, rfl, trivial⟩
    exact PySem.W.kia_one (PySem.W.handS_kitx_exc C.hg C.hk C.hs C.hd C.ha C.hn C.ht C.hm) I.kIn J e (fun z => nomatch z) fun tk => ⟨.bl b, H, I.kept (t' := tk) fun _ _ z => z, rfl, q⟩
end
/-- what the law's own term hands back of the exception n -/
def spT (n : Str) : Hp → VK → Prop := fun H Q => ∀ t H', Same H H' → H t = none → TpO H' t [.str (Str.ofString "error"), .str n] → Q (.ref t) H'
/-- the law's term, called with the handled exception, an instance of D -/
structure FnT (P : Program) (w : World) (K : PySem.W.Frag) (mg : Str → Option Value) (base : Heap) (k : Nat) (f D : Addr) (n : Str) : Prop where
  run : ∀ (A : Around) (outer : List Env) (s : Shared) (H : Hp) (Q : VK) (p : Addr × Obj), RoomH k A → Hot1 A p → Zc (.ref D) none p.2 → PinOk outer H s p → Env0 P w K mg base A outer s H → spT n H Q →
    codeAny (model P w) A (.call (.ref f) ⟨[.ref p.1], []⟩) (CR (L2N.CX P w) outer P w H s Q (fun _ _ _ => False)) s
theorem fnT_mk {P : Program} {w : World} {K : PySem.W.Frag} {mg : Str → Option Value} {base : Heap} {k : Nat} {x a : Str} {st : Stmt} {f D : Addr} {fd : FuncData} {N : List Str} {n : Str} (Fu : L2.Fun K x x st f fd) (hb : Binds K fd [a] []) (S : FnScope N [a] (defScope st))
    (der : ∀ (cdv : Value) (A : Around) (outer : List Env) (s : Shared) (H : Hp) (Q : VK) (p : Addr × Obj), Hot1 A p → Zc (.ref D) none p.2 → RoomH k (A.deeper (envOfC x (defScope st) s.heap.objs.size f cdv)) → spT n H Q →
      ∃ t, PSs (cxH (L2N.CX P w) P w K mg base N x (defScope st) f cdv A outer s H (fun _ _ _ => False) p) (defBody st) t ∧ t { nx := fun _ H' => Q .non H', rt := Q } (L2.start N [.ref p.1]) H) : FnT P w K mg base (k + 1) f D n := by
  obtain ⟨oc, od, kV, doc, pm, an, cdv, ct, osl, rfl, lk, hcd⟩ := Fu.ex
  refine ⟨fun A outer s H Q p hr hot hz hpin e0 hsp => ?_⟩
  have KX : K.In s.heap := e0.mod.kin.keeps fun b o e => (e0.bs b o e).1
  have lim : s.heap.NoLimit := e0.mod.nolimit.keeps fun b o e => (e0.bs b o e).1
  have hl : (a, Value.ref p.1) ∈ [a].zip [Value.ref p.1] := by simp
  have hkind : ∀ y ∈ [a].zip [Value.ref p.1], (defScope st).names.lookup y.1 = some .local ∨ ((defScope st).names.lookup y.1 = some .cell ∧ ((cellsFrom (s.heap.objs.size + 1) (defScope st).names []).lookup y.1).isSome = true) := fun y hy => by
    have e : y = (a, Value.ref p.1) := by simpa using hy
    rw [e]
    rcases S.par a (by simp) with q | q
    · exact .inl q
    · exact .inr ⟨q, PySem.W.cellsFrom_some _ _ _ (.inl q)⟩
  have b := hb s [.ref p.1] KX rfl
  refine codeAny_call_function hr.depth (KX _ _ lk) rfl S.co S.gen rfl (PySem.W.codeRec_of KX hcd) (b _ _ _ _ ?_)
  refine wpAny_newFunctionEnv_cells S.kind hkind fun env he s1 x => ?_
  subst he
  refine ⟨lim.keeps x.toInCall.keep, codeAny_func ?_⟩
  obtain ⟨t, ht, hq⟩ := der cdv A outer s H Q p hot hz (hr.deeper _) hsp
  have I : Inv (cxH (L2N.CX P w) P w K mg base N _ (defScope st) f cdv A outer s H (fun _ _ _ => False) p) [] (L2.start N [.ref p.1]) H s1 := inv_startH S hpin e0 rfl (.cons rfl .nil) x
  refine wpAny_mono (ht.run [] s1 _ H _ I hq) (fun fl s' hs => ?_) fun e s' hs => hs
  cases fl with
  | ret u =>
    obtain ⟨v, σ', H', J, rv, q⟩ := hs
    exact ⟨v, H', J.os, J.bare, J.base, J.hok, rv, q⟩
  | next =>
    obtain ⟨σ', H', J, q⟩ := hs
    exact ⟨.non, H', J.os, J.bare, J.base, J.hok, rfl, q⟩
  | brk => exact hs.elim fun _ z => z.elim fun _ z => z.2.elim
  | cont => exact hs.elim fun _ z => z.elim fun _ z => z.2.elim
end DL
namespace DL
open PySem PySem.Spec PyProof.Rows L2 HotX L2H
structure TxtT (K : PySem.W.Frag) (mg : Str → Option Value) : Prop where
  isinstance_ : mg (Str.ofString "isinstance") = none
  int_ : mg (Str.ofString "int") = none
  sum : mg (Str.ofString "sum") = none
  ValueError : mg (Str.ofString "ValueError") = none
def oh (j : Nat) : List Bool := [decide (0 = j), decide (1 = j), decide (2 = j), decide (3 = j), decide (4 = j), decide (5 = j), decide (6 = j), decide (7 = j), decide (8 = j), decide (9 = j), decide (10 = j), decide (11 = j)]
theorem oh_sum {j : Nat} (h : j < 12) : ((oh j).map bI).sum = 1 := by
  have : ∀ j, j < 12 → ((oh j).map bI).sum = 1 := by decide
  exact this j h
theorem oh_get : ∀ j, j < 12 → (oh j)[j]? = some true := by decide
theorem oh_low : ∀ j, j < 12 → ∀ m, m < j → (oh j)[m]? = some false := by decide
theorem oh_at {j : Nat} (h : j < 12) : ((oh j).map V.bl)[j]? = some (.bl true) := by rw [List.getElem?_map, oh_get j h]; rfl
theorem oh_lt {j m : Nat} {z : V} (h : j < 12) (hm : m < j) (hz : ((oh j).map V.bl)[m]? = some z) : eqV z (.bl true) = false := by
  rw [List.getElem?_map, oh_low j h m hm] at hz
  cases hz
  rfl
theorem err_at {j : Nat} {n : Str} (hn : ERR[j]? = some n) : atI (ERR.map V.str) (j : Int) = some (.str n) := atI_nat (by rw [List.getElem?_map, hn]; rfl)
theorem term_tail {H H' : Hp} {q : Addr} {bs : List Bool} {Z : Hp → Prop} (s : Same H H') (e : H' q = some (.lst (bs.map V.bl))) (h : ∀ H1, Same H H1 → H1 q = some (.lst (bs.map V.bl)) → Z H1) : Z H' := h H' s e
theorem kinds_tail {H H' : Hp} {q : Addr} {Z : Hp → Prop} (s : Same H H') (e : H' q = some (.lst (ERR.map V.str))) (h : ∀ H1, Same H H1 → H1 q = some (.lst (ERR.map V.str)) → Z H1) : Z H' := h H' s e
end DL
/-! a lambda handed to the law's told -/
namespace DL
open PySem PySem.Spec PyProof.Rows L2 HotX L2H LamX
section
variable {X : Cx} {pins : List (Addr × Obj)} {σ : L2.St} {H : Hp} {s : Shared}
/-- a lambda is made: but for the table all that is tracked stays -/
theorem lam_make3 {c P : Addr} {params : Arguments} {body : Expr} {scope : Scope} {pos : Pos} {E : Value → Shared → Prop} {Q : Value → Shared → Prop} (I : Inv X pins σ H s) (TB : TabB X.base X.mg c P) (hcode : X.env.code = .ref c)
    (hT : TabS H P (X.env.qual ++ "<lambda>")) (hdef : defaultsOf params X.env = ([], [])) (hfree : ∀ y ∈ scope.names, y.2 = .free → ∃ c, X.env.cells.lookup y.1 = some c)
    (h : ∀ (f c' : Addr) (pm ctv : Value) (H1 : Hp) (s' : Shared), Inv X pins σ H1 s' → (∀ a o, a ≠ P → H a = some o → H1 a = some o) → TabS H1 P (X.env.qual ++ "<lambda>") →
      s'.heap.get? f = some (PySem.W.kla_obj "<lambda>" (X.env.qual ++ "<lambda>") params body scope (cloFrom X.env.cells scope.names []) pm c' ctv) → H1 f = none → f ∉ frs X.stack → H1 c' = some (CodeO c' (X.env.qual ++ "<lambda>")) → Q (.ref f) s') :
    wpAny (model X.prog X.w) X.A (eval (.Lambda params body scope pos) X.env) Q E s := by
  obtain ⟨ps, hP, ht, ha⟩ := hT
  refine PySem.W.kla_eval hdef ?_
  have hB : s.heap.BuiltinsAt X.mg P := TB.bm.keeps I.bk
  have hPo : s.heap.get? P = some { cls := .none, data := .fields ps } := I.hok P _ hP
  have far : ∀ f, s.heap.objs.size ≤ f → f ∉ frs X.stack := fun f hf z => by
    rcases List.mem_cons.mp (I.stkSub _ z) with e | e
    · have h1 := I.lt
      rw [← e] at h1
      exact Nat.lt_irrefl _ (Nat.lt_of_lt_of_le h1 hf)
    · exact I.nofs hf e
  cases hc : codeAmong pos ps.toList with
  | some cv =>
    obtain ⟨c', rfl, hco⟩ := ha pos cv hc
    refine PySem.W.kla_makeFunctionHit (mg := X.mg) (c := c) (P := P) (ps := ps) (closure_ok hfree) I.ok.glob (I.mod.glob.keeps I.bk) hcode (TB.code.keeps I.bk) hPo ht hc hB fun ctv h' tk hx hsz => ?_
    exact h h'.objs.size c' ((X.mg "__name__").getD .none) ctv H _ (I.kept fun b o e => Heap.get?_push_of_some _ (hx b o e)) (fun _ _ _ e => e) ⟨ps, hP, ht, ha⟩ (Heap.get?_push_size _ rfl) (I.hok.fresh hsz) (far _ hsz) hco
  | none =>
    refine PySem.W.kla_makeFunction (mg := X.mg) (c := c) (P := P) (ps := ps) (closure_ok hfree) I.ok.glob (I.mod.glob.keeps I.bk) hcode (TB.code.keeps I.bk) hPo ht hc TB.gP hB fun c' ctv h' tk hx hge hlt hrec htb => ?_
    obtain ⟨c2, oc, vs, t, e2, hoc, hd, hv⟩ := hrec
    cases e2
    have hsz : s.heap.objs.size ≤ h'.objs.size := Nat.le_trans hge (Nat.le_of_lt hlt)
    have nC : H c' = none := I.hok.fresh hge
    have I1 := inv_table (t' := tk) (more := #[rawInt pos.line, rawInt pos.col, .ref c']) (h' := h'.push (PySem.W.kla_obj "<lambda>" (X.env.qual ++ "<lambda>") params body scope (cloFrom X.env.cells scope.names []) ((X.mg "__name__").getD .none) c' ctv)) I hP
      (fun b o hb e => Heap.get?_push_of_some _ (hx b o hb e)) (Heap.get?_push_of_some _ htb) hge ⟨oc, vs, t, Heap.get?_push_of_some _ hoc, hd, hv⟩
    have kp : ∀ a o, a ≠ P → H a = some o → upd (upd H P (.tbl (ps ++ #[rawInt pos.line, rawInt pos.col, .ref c']))) c' (CodeO c' (X.env.qual ++ "<lambda>")) a = some o := fun a o na e => by
      rw [upd_ne (ne_of_none e nC), upd_ne na]; exact e
    have eL : (ps ++ #[rawInt pos.line, rawInt pos.col, .ref c']).toList = ps.toList ++ [rawInt pos.line, rawInt pos.col, .ref c'] := by simp
    refine h h'.objs.size c' ((X.mg "__name__").getD .none) ctv _ _ I1 kp ⟨_, by rw [upd_ne (ne_of_none hP nC), upd_same], by rw [eL]; exact PySem.TriplesOk_snoc _ _ _ _ ht, fun p' cv hcv => ?_⟩ (Heap.get?_push_size _ rfl) ?_ (far _ hsz) upd_same
    · rw [eL] at hcv
      rcases among_app _ ht hcv with z | z
      · obtain ⟨c0, e1, e2⟩ := ha p' cv z
        exact ⟨c0, e1, kp _ _ (fun y => codeO_ne ps (Option.some.inj (e2.symm.trans (by rw [y]; exact hP)))) e2⟩
      · exact ⟨c', z, upd_same⟩
    · have n1 : h'.objs.size ≠ c' := Nat.ne_of_gt hlt
      have n2 : h'.objs.size ≠ P := Nat.ne_of_gt (Nat.lt_of_lt_of_le (Heap.lt_size hPo) hsz)
      rw [upd_ne n1, upd_ne n2]
      exact I.hok.fresh hsz
/-- the lambda's body, its errors without a context -/
def lamN (X : Cx) (A : Around) (outer : List Env) (s : Shared) (H : Hp) (E : XK) (scope : Scope) (f c' : Addr) : Cx :=
  (lamCx X A outer s H E scope f c').tr [] fun e s' => wpAny (model X.prog X.w) (A.deeper (lamEnv X scope s.heap.objs.size f c')) (leaving (lamEnv X scope s.heap.objs.size f c') e) (fun _ s'' => L2N.CX X.prog X.w outer H s E e s'') (fun e' s'' => L2N.CX X.prog X.w outer H s E e' s'') s'
theorem act_N {Eg : XK} {Ng : List Str} {qg : Str} {sg : Scope} {g f c' : Addr} {cdg pm ctv : Value} {params : Arguments} {body : Expr} {scope : Scope} {k i : Nat} {a : Str} {pn : List (Addr × Obj)} {xe : Value → Shared → Prop} {W : WX} {E : XK} {tb : TE} {p1 p2 : Pos}
    (I : Inv X pins σ H s) (L : LamS X.env.scope scope) (hf : s.heap.get? f = some (PySem.W.kla_obj "<lambda>" (X.env.qual ++ "<lambda>") params body scope (cloFrom X.env.cells scope.names []) pm c' ctv)) (hfn : H f = none) (hfr : f ∉ frs X.stack)
    (hbind : bindArgs (PySem.W.kla_fn "<lambda>" (X.env.qual ++ "<lambda>") params body scope (cloFrom X.env.cells scope.names []) pm (.ref c') ctv) ⟨[], []⟩ = pure [])
    (tk : L2N.Takes ((cxOf (L2N.CX X.prog X.w) X.prog X.w X.K X.mg X.base Ng qg sg g cdg X.A X.stack s H Eg).tr pn xe) W) (hW : ∀ cls d σ' H', σ'.length = Ng.length → E cls d H' → W cls d σ' H') (hr : Room (k + 1) (X.A.deeper (envOfC qg sg s.heap.objs.size g cdg)))
    (hbody : ∀ (A : Around) (outer : List Env) (s : Shared) (H : Hp), Room k (A.deeper (lamEnv X scope s.heap.objs.size f c')) → PE (lamN X A outer s H E scope f c') body tb)
    (hN : Ng[i]? = some a) (hv : Vis sg a) (hd : (a == ("__debug__" : Str)) = false := by decide) (hcd : (a == ("__classdict__" : Str)) = false := by decide) :
    PE ((cxOf (L2N.CX X.prog X.w) X.prog X.w X.K X.mg X.base Ng qg sg g cdg X.A X.stack s H Eg).tr pn xe) (.Call (.Name a p1) [] [] p2)
      (fun σZ HZ Q => σZ[i]? = some (some (.ref f)) ∧ HZ c' = some (CodeO c' (X.env.qual ++ "<lambda>")) ∧ tb σ HZ Q) := by
  refine ⟨fun pinsZ sZ σZ HZ Q IZ h => ?_⟩
  obtain ⟨hs, hc, ht⟩ := h
  refine wpAny_Call_Name_kw (thn ((pe_var (pos := p1) (i := i) hN hv hd hcd).run pinsZ sZ σZ HZ (fun v H1 => v = .ref f ∧ H1 = HZ) IZ ⟨.ref f, hs, rfl, rfl⟩) fun u s1 ⟨v, H1, I1, r1, q1⟩ => ?_)
  obtain ⟨rfl, rfl⟩ := q1
  obtain rfl : u = Value.ref f := r1
  have of1 := I1.base.keep f _ hf hfn hfr (fun z => nomatch (show f ∈ ([] : List Addr) from z))
  refine PySem.W.callWith_F0 ⟨_, _, _, _, of1⟩ ?_
  have un : Un (frs X.stack) [] H H1 s.heap s1.heap := I1.base
  obtain ⟨⟨oc, vs, t, hoc, hdc, hvc⟩, _, _⟩ := I1.hok c' _ hc
  have rc : codeAny (model X.prog X.w) (X.A.deeper (envOfC qg sg s.heap.objs.size g cdg)) (.call (.ref f) ⟨[], []⟩) (CR (L2N.CX X.prog X.w) (envOfC qg sg s.heap.objs.size g cdg :: X.stack) X.prog X.w H1 s1 Q E) s1 := by
    refine PySem.W.kla_callFunE hr.depth of1 rfl L.co L.gen rfl ⟨c', oc, vs, t, rfl, hoc, hdc, hvc⟩ ?_
    rw [hbind]
    refine wpAny_pure (wpAny_newFunctionEnv (fun y hy => (L.own y hy).2) (fun y hy => absurd hy (by simp)) (fun h₁ hns hsb => ⟨I1.nolimit.fresh _ hsb, ?_⟩) L.kind)
    show codeAny _ _ (.expr body (lamEnv X scope s1.heap.objs.size f c')) _ _
    have kp : ∀ b o, s1.heap.get? b = some o → h₁.get? b = some o := fun b o e => hsb.extBut b o (Nat.ne_of_lt (Heap.lt_size e)) (Heap.get?_push_of_some _ e)
    have J0 : Inv (lamCx X (X.A.deeper (envOfC qg sg s.heap.objs.size g cdg)) (envOfC qg sg s.heap.objs.size g cdg :: X.stack) s1 H1 E scope f c') [] σ H1 { s1 with heap := h₁, toks := s1.toks + ([] : List (Str × Value)).length } :=
      lam_start2 I L I1.env0 hr.hd un hns kp
    have J : Inv (lamN X (X.A.deeper (envOfC qg sg s.heap.objs.size g cdg)) (envOfC qg sg s.heap.objs.size g cdg :: X.stack) s1 H1 E scope f c') [] σ H1 { s1 with heap := h₁, toks := s1.toks + ([] : List (Str × Value)).length } := J0.toTry _
    refine PySem.W.kla_codeExpr (wpAny_mono ((hbody _ _ s1 H1 (hr.deeper _)).run [] _ _ H1 Q J ht) (fun v s' hq => ?_) fun e s' hq => hq)
    obtain ⟨w', H', J', rv, q⟩ := hq
    exact ⟨w', H', J'.os, J'.bare, J'.base, J'.hok, rv, q⟩
  refine wpAny_call (codeAny_mono rc fun r s' hq => ?_)
  cases r with
  | error e => exact tk e s' (L2N.XE.of_call I1 (fun cls d H' h => hW cls d σZ H' I1.len h) hq)
  | ok fl =>
    cases fl with
    | ret u => exact I1.after hq
    | next => exact False.elim hq
    | brk => exact False.elim hq
    | cont => exact False.elim hq
end
/-! ### told -/
/-- the exception n, of the class D: the except clause takes it, the law's term tells it -/
structure TermOf (P : Program) (w : World) (K : PySem.W.Frag) (mg : Str → Option Value) (base : Heap) (CP fT : Addr) (n : Str) (D : Addr) : Prop where
  plank : PySem.W.exmOne K (.ref D) (.ref CP) = some true
  fn : FnT P w K mg base 1 fT D n
structure TermAt (K : PySem.W.Frag) (mg : Str → Option Value) (CP fT : Addr) : Prop where
  mP : mg (Str.ofString "PlankError") = some (.ref CP)
  mT : mg (Str.ofString "_law_term") = some (.ref fT)
  kT : PySem.W.keepIn K (.ref fT) = true
theorem takesF {X : Cx} : L2N.Takes X (fun _ _ _ _ => False) := fun _ _ x => by
  obtain ⟨_, _, _, _, _, _, _, _, _, _, _, _, _, _, _, _, z⟩ := x
  exact z.elim
section
variable {X : Cx}
theorem pe_term {a CP fT : Addr} {oe : Obj} {pn : List (Addr × Obj)} {i k : Nat} {e : Str} {d : Option Addr} {cls : Value} {p p2 pos : Pos} (T : TermAt X.K X.mg CP fT) (hz : L2N.Zn cls d oe) (hf : ∃ vs, oe.data = .fields vs) (hr : Room (k + 1) X.A) (hg : Gl X (Str.ofString "_law_term"))
    (hN : X.N[i]? = some e) (hv : Vis X.env.scope e) (hd : (e == ("__debug__" : Str)) = false := by decide) (hcd : (e == ("__classdict__" : Str)) = false := by decide) :
    PE (X.suite a ((a, oe) :: pn)) (.Call (.Name (Str.ofString "_law_term") p) [.Name e p2] [] pos)
      (fun σ H Q => ∃ n D, σ[i]? = some (some (.ref a)) ∧ cls = .ref D ∧ d = none ∧ TermOf X.prog X.w X.K X.mg X.base CP fT n D ∧ spT n H Q) := by
  refine ⟨fun pins s σ H Q I h => ?_⟩
  obtain ⟨n, D, hs, rfl, rfl, F, hsp⟩ := h
  refine wpAny_Call_Name_kw (ld_glob I hg T.mT ?_ (by decide))
  have ha : PA (X.suite a ((a, oe) :: pn)) [.Name e p2] (tCons (tVar i) tNil) := pa_cons (pe_var (i := i) hN hv hd hcd) pa_nil
  refine PySem.W.callWith_K (h₀ := X.base) I.ok.mod.kin T.kT (thn (ha.run pos pins s σ H (fun vs H1 => vs = [.ref a] ∧ H1 = H) I ⟨_, hs, rfl, rfl⟩) fun us s1 ⟨vs, H1, I1, r, q⟩ => ⟨I1.kIn, ?_⟩) (by rfl) (by rfl)
  obtain ⟨rfl, rfl⟩ := q
  obtain ⟨u, rfl, ru⟩ := vals1 r
  cases ru
  obtain ⟨vs, hv2⟩ := hf
  have P1 := I1.pin (a, oe) (List.mem_append_left _ List.mem_cons_self)
  have hpin : PinOk (X.suite a ((a, oe) :: pn)).stack H1 s1 (a, oe) := ⟨P1.1, P1.2.1, fun hm => (List.mem_cons.mp (I1.stkSub a hm)).elim P1.2.2.1 P1.2.2.2.1, P1.2.2.2.2⟩
  have hot : Hot1 (X.suite a ((a, oe) :: pn)).A (a, oe) := ⟨rfl, vs, hv2, hz.2.2 vs hv2⟩
  have hrH : RoomH 1 (X.suite a ((a, oe) :: pn)).A := ⟨(hr.mono (show 1 ≤ k + 1 by omega)).dp, (hr.mono (show 1 ≤ k + 1 by omega)).un⟩
  refine wpAny_call (codeAny_mono (F.fn.run _ _ s1 H1 Q (a, oe) hrH hot hz.zc hpin I1.env0 hsp) fun r s' hq => ?_)
  cases r with
  | error e =>
    obtain ⟨_, _, _, _, _, _, _, _, _, _, _, _, z⟩ := hq
    exact z.elim
  | ok fl =>
    cases fl with
    | ret u => exact I1.after hq
    | next => exact False.elim hq
    | brk => exact False.elim hq
    | cont => exact False.elim hq
end
/-- what is told of an exception: its name, in a new tuple -/
def ToldE (P : Program) (w : World) (K : PySem.W.Frag) (mg : Str → Option Value) (base : Heap) (CP fT : Addr) (Q : VK) : XK := fun cls d H' => ∃ n D, cls = .ref D ∧ d = none ∧ TermOf P w K mg base CP fT n D ∧ spT n H' Q
def ToldTo (P : Program) (w : World) (K : PySem.W.Frag) (mg : Str → Option Value) (base : Heap) (CP fT : Addr) (Ng : List Str) (sg : Scope) (g : Addr) (cdg : Value) (bg : List Stmt) : Prop :=
  ∀ (k : Nat) (A : Around) (outer : List Env) (s : Shared) (H : Hp) (f c' : Addr) (q : Str) (Q : VK) (tl : XK → Hp → VK → Prop), Room (k + 1) (A.deeper (envOfC (Str.ofString "_law_told") sg s.heap.objs.size g cdg)) →
    (∀ (W : WX) (pn : List (Addr × Obj)) (xe : Value → Shared → Prop) (E : XK) (p1 p2 : Pos), L2N.Takes ((cxOf (L2N.CX P w) P w K mg base Ng (Str.ofString "_law_told") sg g cdg A outer s H E0).tr pn xe) W → (∀ cls d σ' H', σ'.length = Ng.length → E cls d H' → W cls d σ' H') →
      PE ((cxOf (L2N.CX P w) P w K mg base Ng (Str.ofString "_law_told") sg g cdg A outer s H E0).tr pn xe) (.Call (.Name (Str.ofString "deed") p1) [] [] p2) (fun σZ HZ Q => σZ[0]? = some (some (.ref f)) ∧ HZ c' = some (CodeO c' q) ∧ tl E HZ Q)) →
    H c' = some (CodeO c' q) → tl (ToldE P w K mg base CP fT Q) H Q →
    ∃ t, PSs (cxOf (L2N.CX P w) P w K mg base Ng (Str.ofString "_law_told") sg g cdg A outer s H E0) bg t ∧ t { nx := fun _ H' => Q .non H', rt := Q } (L2.start Ng [.ref f]) H
theorem told_to {P : Program} {w : World} {K : PySem.W.Frag} {mg : Str → Option Value} {base : Heap} {CP fT g : Addr} {sg : Scope} {cdg : Value} {p1 p2 p3 p4 p5 p6 p7 p8 p9 : Pos} (T : TermAt K mg CP fT)
    (h1 : sg.names.lookup (Str.ofString "PlankError") = some .globalImplicit) (h2 : sg.names.lookup (Str.ofString "_law_term") = some .globalImplicit) (h3 : sg.names.lookup (Str.ofString "e") = some .local) (h4 : sg.names.lookup (Str.ofString "deed") = some .local) :
    ToldTo P w K mg base CP fT [Str.ofString "deed", Str.ofString "e"] sg g cdg [.Try [.Return (some (.Call (.Name (Str.ofString "deed") p1) [] [] p2)) p3] [.ExceptHandler (some (.Name (Str.ofString "PlankError") p4)) (some (Str.ofString "e")) [.Return (some (.Call (.Name (Str.ofString "_law_term") p5) [.Name (Str.ofString "e") p6] [] p7)) p8] p9] [] [] pT] := by
  intro k A outer s H f c' q Q tl hr act hc h
  refine ⟨_, pss_one (L2N.ps_try_as (i := 1) (c := .ref CP) (tb := fun W D σ H => ∃ Ech : XK, (∀ cls d σ' H', σ'.length = 2 → Ech cls d H' → W cls d σ' H') ∧ σ[0]? = some (some (.ref f)) ∧ H c' = some (CodeO c' q) ∧ tl Ech H D.rt)
    rfl rfl (show [Str.ofString "deed", Str.ofString "e"].Nodup by decide) rfl h3 ⟨h1, by decide, .inl T.mP⟩ takesF (fun W pn xe tk _ => ?_) (fun a oe cls d pn hz hf => pss_one (ps_ret (pe_term (i := 1) T hz hf hr h2 rfl (.inl h3))))), ?_⟩
  · refine ⟨fun pins s' σ H' D I h' => ?_⟩
    obtain ⟨Ech, hW, g1, g2, g3⟩ := h'
    exact (pss_one (ps_ret (pos := p3) (act W pn xe Ech p1 p2 tk hW))).run pins s' σ H' D I ⟨g1, g2, g3⟩
  · refine ⟨ToldE P w K mg base CP fT Q, fun cls d σ' H' hl ⟨n, D, e1, e2, F, hsp⟩ => ?_, rfl, hc, h⟩
    subst e1 e2
    refine ⟨true, F.plank, fun _ a na => ⟨n, D, by rw [List.getElem?_set_self (by omega)], rfl, rfl, F, hsp⟩, fun z => nomatch z⟩
end DL
/-! told over data -/
namespace DL
open PySem PySem.Spec PyProof.Rows L2 HotX L2H LamX
def errT (n : Str) : PyData := .tuple [.str (Str.ofString "error"), .str n]
/-- _law_told(lambda: ..): the k-th resource is the table of the maker's code object, es the errors that may be told -/
def dTold (kt : Nat) (q : Str) (es : List Str) (fb : TD) : TD := fun ρ τ Q er => τ[kt]? = some (.tab q) ∧ fb ρ τ Q (fun n τ1 => n ∈ es ∧ Q (.da (errT n)) (τ1.take τ.length))
structure ToldD (P : Program) (w : World) (K : PySem.W.Frag) (mg : Str → Option Value) (base : Heap) (es : List Str) : Prop where
  ex : ∃ (CP fT g : Addr) (fd : FuncData) (st : Stmt) (Ng : List Str), mg (Str.ofString "_law_told") = some (.ref g) ∧ L2.Fun K (Str.ofString "_law_told") (Str.ofString "_law_told") st g fd ∧ Binds K fd [Str.ofString "deed"] [] ∧ FnScope Ng [Str.ofString "deed"] (defScope st) ∧
    Ng[0]? = some (Str.ofString "deed") ∧ Vis (defScope st) (Str.ofString "deed") ∧ (∀ cdv, ToldTo P w K mg base CP fT Ng (defScope st) g cdv (defBody st)) ∧ ∀ n ∈ es, ∀ D, mg n = some (.ref D) → TermOf P w K mg base CP fT n D
/-- a table written: all else stays -/
theorem Base.tab {mg : Str → Option Value} {As : List Addr} {C H H1 : Hp} {τ : Rs} {kt : Nat} {p : Addr} {q : Str} (b : Base mg As C τ H) (hp : As[kt]? = some p) (hr : τ[kt]? = some (.tab q)) (kp : ∀ a o, a ≠ p → H a = some o → H1 a = some o) (ht : TabS H1 p q) : Base mg As C τ H1 := by
  have hm : p ∈ As := List.mem_of_getElem? hp
  have hT : TabS H p q := b.rs kt p _ hp hr
  obtain ⟨ps0, hP0, _⟩ := id hT
  have hP1 : H1 p ≠ none := by obtain ⟨ps, h, _⟩ := id ht; rw [h]; exact fun z => nomatch z
  refine ⟨fun a o h => kp a o (fun z => ?_) (b.core a o h), b.nd, b.len, fun a ha => ⟨(b.off a ha).1, ?_⟩, fun k a r h1 h2 => ?_, b.sz⟩
  · rw [z, (b.off p hm).1] at h; cases h
  · by_cases z : a = p
    · rw [z]; exact hP1
    · obtain ⟨_, h⟩ := b.off a ha
      cases e : H a with
      | none => exact absurd e h
      | some o => rw [kp a o z e]; exact fun z => nomatch z
  · have hR := b.rs k a r h1 h2
    by_cases z : a = p
    · subst z
      have ek : k = kt := by
        have hk := (List.getElem?_eq_some_iff.mp h1)
        have hk2 := (List.getElem?_eq_some_iff.mp hp)
        obtain ⟨k1, e1⟩ := hk
        obtain ⟨k2, e2⟩ := hk2
        exact (List.getElem_inj b.nd).mp (e1.trans e2.symm)
      subst ek
      rw [hr] at h2
      cases h2
      exact ht
    · cases r with
      | gone => trivial
      | dice => obtain ⟨x, y, h⟩ := hR; exact ⟨x, y, kp _ _ z h⟩
      | lst ds => obtain ⟨vs, h, h'⟩ := hR; exact ⟨vs, kp _ _ z h, h'⟩
      | tab q' =>
        obtain ⟨ps, g1, g2, g3⟩ := hR
        refine ⟨ps, kp _ _ z g1, g2, fun pos cv hc => ?_⟩
        obtain ⟨c, e1, e2⟩ := g3 pos cv hc
        exact ⟨c, e1, kp _ _ (fun y => codeO_ne ps0 (Option.some.inj (e2.symm.trans (by rw [y]; exact hP0)))) e2⟩
      | bri fs => obtain ⟨CB, dx, vs, g, h1, h2⟩ := hR; exact ⟨CB, dx, vs, g, kp _ _ z h1, h2⟩
theorem Step.tab {As : List Addr} {C H H1 : Hp} {p : Addr} (hm : p ∈ As) (kp : ∀ a o, a ≠ p → H a = some o → H1 a = some o) (hP1 : H1 p ≠ none) : Step As C H C H1 :=
  ⟨Same.refl _, fun a o h n => kp a o (fun z => n (by rw [z]; exact hm)) h, fun a h => by
    by_cases z : a = p
    · rw [z]; exact hP1
    · cases e : H a with
      | none => exact absurd e h
      | some o => rw [kp a o z e]; exact (fun z => nomatch z), fun _ _ h => h⟩
/-- a tuple of data comes up -/
theorem new_data {mg : Str → Option Value} {As : List Addr} {C H H2 : Hp} {τ : Rs} {t : Addr} {vs : List V} {ds : List PyData} (b : Base mg As C τ H) (sm : Same H H2) (ht : H t = none) (hT : TpO H2 t vs) (hv : DvA C ds vs) (hz : vs.length ≤ 1000) : ∃ C2, Step As C H C2 H2 ∧ Base mg As C2 τ H2 ∧ Dv C2 (.tuple ds) (.ref t) := by
  obtain ⟨o, e1, e2⟩ := hT.ex
  have nC : C t = none := by
    cases e : C t with
    | none => rfl
    | some u => rw [b.core _ _ e] at ht; cases ht
  have eC : Same C (L2.upd C t (.frz o (.tup vs))) := fun a u h => by rw [upd_ne (ne_of_none h nC)]; exact h
  have core : Same (L2.upd C t (.frz o (.tup vs))) H2 := fun a u h => by
    by_cases z : a = t
    · rw [z, upd_same] at h; rw [z]; cases h; exact e1
    · rw [upd_ne z] at h; exact sm _ _ (b.core _ _ h)
  have out : ∀ a, H a ≠ none → C a = none → L2.upd C t (.frz o (.tup vs)) a = none := fun a h n => by
    rw [upd_ne (fun z => h (by rw [z]; exact ht))]; exact n
  refine ⟨L2.upd C t (.frz o (.tup vs)), ⟨eC, fun a u h _ => sm _ _ h, fun a h => ?_, out⟩, b.keep eC core (fun a u h => sm _ _ h) out fun a u h => ?_, t, vs, rfl, TpO.new e2, hv.mono eC⟩
  · cases e : H a with
    | none => exact absurd e h
    | some u => rw [sm _ _ e]; exact fun z => nomatch z
  · by_cases z : a = t
    · rw [z, upd_same] at h; cases h; exact sz1000 hz
    · rw [upd_ne z] at h; exact b.sz _ _ h
theorem d_told {X : Cx} {G : Gx} {params : Arguments} {body : Expr} {scope : Scope} {lpos pos p : Pos} {k kt : Nat} {c P : Addr} {fb : TD} {es : List Str} (T : ToldD X.prog X.w X.K X.mg X.base es) (hG : G.mg = X.mg) (hP : G.As0[kt]? = some P) (hg : Gl X (Str.ofString "_law_told"))
    (TB : TabB X.base X.mg c P) (hcode : X.env.code = .ref c) (hr : Room (k + 2) X.A) (L : LamS X.env.scope scope) (hdef : defaultsOf params X.env = ([], []))
    (hbind : ∀ (q : Str) (cl : List (Str × Addr)) (pm cv ctv : Value), bindArgs (PySem.W.kla_fn "<lambda>" q params body scope cl pm cv ctv) ⟨[], []⟩ = pure [])
    (hbody : ∀ (A : Around) (outer : List Env) (s : Shared) (H : Hp) (G' : Gx) (f c' : Addr), G'.mg = X.mg → Room k (A.deeper (lamEnv X scope s.heap.objs.size f c')) → PE (lamN X A outer s H G'.E scope f c') body (tD G' fb)) :
    PE X (.Call (.Name (Str.ofString "_law_told") p) [.Lambda params body scope lpos] [] pos) (tD G (dTold kt (X.env.qual ++ "<lambda>") es fb)) := by
  obtain ⟨CP, fT, g, fd, st, Ng, hm, Fu, hb, Sg, hN0, hva, TT, hes⟩ := T.ex
  obtain ⟨oc, od, kV, doc, pm0, an, cdv, ct, osl, rfl, lk, hcd⟩ := Fu.ex
  refine ⟨fun pins s σ H Q I h => ?_⟩
  obtain ⟨C, As, ρ, τ, Qd, R, ⟨ht, hf⟩, kq⟩ := h
  have hPA : As[kt]? = some P := by
    obtain ⟨r, e⟩ := R.pre
    rw [← e, List.getElem?_append_left (List.getElem?_eq_some_iff.mp hP).1]
    exact hP
  have hPm : P ∈ As := List.mem_of_getElem? hPA
  refine wpAny_Call_Name_kw (ld_glob I hg hm ?_ (by decide))
  refine PySem.W.callWith_K (h₀ := X.base) I.ok.mod.kin Fu.kp ?_ (by rfl) (by rfl)
  show wpAny _ _ (spliced ((false, eval (.Lambda params body scope lpos) X.env) :: backTo pos (starEach [] X.env))) _ _ s
  refine Calls.spliced_cons (lam_make3 I TB hcode (R.base.rs kt P _ hPA ht) hdef (L.has I.ok) fun f c' pm ctv H1 s' I1 kp T1 hfo hfn hfr hco => ?_)
  refine Calls.spliced_nil ⟨I1.kIn, ?_⟩
  have hP1 : H1 P ≠ none := by obtain ⟨ps, h, _⟩ := id T1; rw [h]; exact fun z => nomatch z
  have st1 : Step As C H C H1 := Step.tab hPm kp hP1
  have b1 : Base G.mg As C τ H1 := R.base.tab hPA ht kp T1
  have R1 : Rel G C As ρ τ σ H1 := R.go st1 b1
  have hlen : As.length = τ.length := R.base.len
  -- what follows a value, a told error
  let G' : Gx := ⟨G.mg, C, H1, As, fun cls d H' => ToldE X.prog X.w X.K X.mg X.base CP fT Q cls d H', fun n τ' => n ∈ es ∧ Qd (.da (errT n)) (τ'.take τ.length), fun n Cn C' H' τ' hn st' b' q' => by
    refine ⟨n, Cn, rfl, rfl, hes n q'.1 Cn (by rw [← hG]; exact hn), fun t H2 sm htn hT => ?_⟩
    obtain ⟨C2, st2, b2, dv⟩ := new_data b' sm htn hT (ds := [.str (Str.ofString "error"), .str n]) ⟨_, _, rfl, rfl, _, _, rfl, rfl, rfl⟩ (show 2 ≤ 1000 by decide)
    have e2 : τ'.take τ.length = τ' := List.take_of_length_le (by rw [← hlen, b'.len]; exact Nat.le_refl _)
    have q2 := q'.2
    rw [e2] at q2
    exact kq C2 H2 _ (.da (errT n)) τ' (st1.trans (st'.trans st2)) (R1.go (st'.trans st2) b2) ⟨_, rfl, dv⟩ q2⟩
  have R' : Rel G' C As ρ τ σ H1 := ⟨b1, Step.refl _ _ _, List.prefix_refl _, fun p hp => .inl hp, R1.len, R1.sl⟩
  have rc : codeAny (model X.prog X.w) X.A (.call (.ref g) ⟨[.ref f], []⟩) (CR (L2N.CX X.prog X.w) X.stack X.prog X.w H1 s' Q E0) s' := by
    refine run_ofS (N := Ng) (ps := [Str.ofString "deed"]) (us := [.ref f]) (vs := [.ref f]) lk hcd Sg hr I1.env0 (hb s' [.ref f] I1.kIn rfl) (.cons rfl .nil) rfl fun hr' => ?_
    refine TT cdv k X.A X.stack s' H1 f c' (X.env.qual ++ "<lambda>") Q (fun E H' Q' => E = G'.E ∧ tD G' fb σ H' Q') hr' (fun W pn xe E p1 p2 tk hW => ?_) hco ⟨rfl, C, As, ρ, τ, Qd, R', ?_, fun C2 H2 v r τ2 st2 R2 dv q2 => ?_⟩
    · by_cases hE : E = G'.E
      · subst hE
        have := act_N (i := 0) (p1 := p1) (p2 := p2) (tb := tD G' fb) I1 L hfo hfn hfr (hbind _ _ _ _ _) tk hW hr' (fun A outer s H hr2 => hbody A outer s H G' f c' hG hr2) hN0 hva
        exact pe_weak this fun σZ HZ Q h => ⟨h.1, h.2.1, h.2.2.2⟩
      · exact ⟨fun pins s σ H Q I h => absurd h.2.2.1 hE⟩
    · have e : G'.err = fun n τ1 => n ∈ es ∧ Qd (.da (errT n)) (τ1.take τ.length) := by
        funext n τ1
        show (n ∈ es ∧ Qd (.da (errT n)) ((τ1.take As.length).take τ.length)) = _
        rw [hlen, List.take_take, Nat.min_self]
      rw [e]
      exact hf
    · exact kq C2 H2 v r τ2 (st1.trans st2) (R1.go st2 R2.base) dv q2
  refine wpAny_call (codeAny_mono rc fun r s2 hq => ?_)
  cases r with
  | error e =>
    obtain ⟨_, _, _, _, _, _, _, _, _, _, _, _, z⟩ := hq
    exact z.elim
  | ok fl =>
    cases fl with
    | ret u => exact I1.after hq
    | next => exact False.elim hq
    | brk => exact False.elim hq
    | cont => exact False.elim hq
end DL
/-! the law's loop with a table; the classes of the errors as read off the written part -/
namespace DL
open PySem PySem.Spec PyProof.Rows L2 HotX L2H LamX
def told1B (K : PySem.W.Frag) (CP : Addr) (Cs : List Addr) (j : Nat) (D : Addr) : Bool :=
  decide (Cs[j]? = some D) && (PySem.W.findIn K (.ref D) "__getattribute__" == some (some (.builtin "BaseException.__getattribute__"))) && (PySem.W.findIn K (.ref D) "__getattr__" == some none) && (PySem.W.subIn K (.ref D) (.type "BaseException") == some true) &&
  PySem.W.hasDictIn K D && (PySem.W.findIn K (.ref D) "__class__" == some (some (.builtin "object.__class__"))) && (PySem.W.specialIn K (.builtin "object.__class__") "__get__" == some (some (.builtin "getset_descriptor.__get__"))) && (PySem.W.takesIn K (.builtin "object.__class__") == some true) && (PySem.W.mroIn K D (.type "object") == some true) &&
  (PySem.W.exmOne K (.ref D) (.ref CP) == some true) && (PySem.W.kitOne K (.ref D) (.type "ValueError") == some true) && (List.range Cs.length).all fun i => match Cs[i]? with
    | some C => PySem.W.kitOne K (.ref D) (.ref C) == some (decide (i = j))
    | none => true
theorem told1_by {K : PySem.W.Frag} {CP : Addr} {Cs : List Addr} {j : Nat} {D : Addr} (h : told1B K CP Cs j D = true) : Told1 K CP Cs j D := by
  unfold told1B at h
  simp only [Bool.and_eq_true, decide_eq_true_eq, beq_iff_eq] at h
  obtain ⟨⟨⟨⟨⟨⟨⟨⟨⟨⟨⟨h0, h1⟩, h2⟩, h3⟩, h4⟩, h5⟩, h6⟩, h7⟩, h8⟩, h9⟩, h10⟩, h11⟩ := h
  refine ⟨h0, ⟨h1, h2, h3, h4, h5, h6, h7, h8⟩, h9, h10, fun i C hi => ?_⟩
  have := List.all_eq_true.mp h11 i (List.mem_range.mpr (List.getElem?_eq_some_iff.mp hi).1)
  rw [hi] at this
  exact beq_iff_eq.mp this
def tAnyT (mg : Str → Option Value) (E : XK) (kt : Nat) (P : Addr) (g : TDS) : TS := fun D σ H => ∃ G : Gx, G.mg = mg ∧ G.E = E ∧ G.As0[kt]? = some P ∧ sD G g D σ H
theorem pss_anyT {X : Cx} {mg : Str → Option Value} {E : XK} {b : List Stmt} {g : TDS} {kt : Nat} {P : Addr} (h : ∀ G : Gx, G.mg = mg → G.E = E → G.As0[kt]? = some P → PSs X b (sD G g)) : PSs X b (tAnyT mg E kt P g) := ⟨fun pins s σ H D I ⟨G, h1, h2, h3, h4⟩ => (h G h1 h2 h3).run pins s σ H D I h4⟩
def spLawT (K : PySem.W.Frag) (P : Addr) : Sp := fun vs H Q _ => ∃ (a : Addr) (ns : List Int), vs = [.ref a] ∧ SqL K H a (ns.map V.int) ∧ ns.length ≤ 63 ∧ H P = some (.tbl #[]) ∧ ∀ H', Q (.bl true) H'
theorem round_goT {mg : Str → Option Value} {E : XK} {body : TDS} {n i : Nat} {σ : L2.St} {H : Hp} {q P : Addr} {ql : Str} {D : Ends} (hl : σ.length = n) (hi : i < n) (hσ : σ[i]? = some (some (.ref q))) (hq : ∃ c d, H q = some (.lst [.int c, .int d])) (hP : TabS H P ql)
    (wp : body ((List.replicate n Sl.un).set i (.res 0)) [.dice, .tab ql] { nx := fun ρ τ => ρ.length = n ∧ τ[0]? = some .dice ∧ τ[1]? = some (.tab ql), rt := fun _ _ => False, er := fun _ _ => False })
    (k : ∀ σ' H', σ'.length = n → (∀ a o, H a = some o → a ≠ q → a ≠ P → H' a = some o) → (∃ c d, H' q = some (.lst [.int c, .int d])) → TabS H' P ql → D.nx σ' H') : tAnyT mg E 1 P body D σ H := by
  have hqP : q ≠ P := fun z => by
    obtain ⟨c, d, h⟩ := hq
    obtain ⟨ps, h2, _⟩ := hP
    rw [z, h2] at h; cases h
  refine ⟨⟨mg, fun _ => none, H, [q, P], E, fun _ _ => False, fun _ _ _ _ _ _ _ _ z => z.elim⟩, rfl, rfl, rfl, ?_⟩
  refine ⟨fun _ => none, [q, P], _, [.dice, .tab ql], _, ⟨⟨fun _ _ z => (nomatch z), by simp [hqP], rfl, fun p hp => ⟨rfl, ?_⟩, fun k p r h1 h2 => ?_, fun _ _ z => (nomatch z)⟩, Step.refl _ _ _, List.prefix_refl _, fun p hp => .inl hp, ?_, fun j r hj => ?_⟩, wp, rfl, ?_, ?_⟩
  · rcases List.mem_cons.mp hp with rfl | hp
    · obtain ⟨c, d, h⟩ := hq; rw [h]; exact fun z => nomatch z
    · obtain rfl : p = P := by simpa using hp
      obtain ⟨ps, h, _⟩ := hP; rw [h]; exact fun z => nomatch z
  · match k, h1, h2 with
    | 0, h1, h2 => simp at h1 h2; subst h1 h2; exact hq
    | 1, h1, h2 => simp at h1 h2; subst h1 h2; exact hP
    | k + 2, h1, h2 => simp at h1
  · simp [hl]
  · by_cases e : i = j
    · subst e
      rw [List.getElem?_set_self (by simpa using hi)] at hj
      cases hj
      exact ⟨q, rfl, hσ⟩
    · rw [List.getElem?_set_ne e, List.getElem?_replicate] at hj
      split at hj
      · cases hj; trivial
      · cases hj
  · intro C' As' ρ' τ' σ' H' _ R z
    have hs := R.step
    obtain ⟨r, e⟩ := R.pre
    refine k σ' H' ?_ (fun a o h n1 n2 => hs.keep a o h (by simp [n1, n2])) ?_ ?_
    · rw [← R.len]; exact z.1
    · exact R.base.rs 0 q .dice (by rw [← e]; rfl) z.2.1
    · exact R.base.rs 1 P (.tab ql) (by rw [← e]; rfl) z.2.2
  · intro C' H' v d τ' _ _ _ z
    exact z.elim
theorem rounds_goT {K : PySem.W.Frag} {mg : Str → Option Value} {E : XK} {body : TDS} {n i : Nat} {σ : L2.St} {H : Hp} {p P : Addr} {ql : Str} {qs : List Addr} {g : TG} {D : Ends} (hl : σ.length = n) (hi : i < n) (hp : H p = some (.lst (qs.map V.ref))) (hq : ∀ q ∈ qs, q ≠ p ∧ ∃ c d, H q = some (.lst [.int c, .int d])) (hP : TabS H P ql)
    (hg : ∀ v σ H Q, Q (σ.set i (some v)) H → g v σ H Q)
    (wp : body ((List.replicate n Sl.un).set i (.res 0)) [.dice, .tab ql] { nx := fun ρ τ => ρ.length = n ∧ τ[0]? = some .dice ∧ τ[1]? = some (.tab ql), rt := fun _ _ => False, er := fun _ _ => False })
    (hd : ∀ σ H, D.nx σ H) :
    ∃ W : Nat → Nat → L2.St → Hp → Prop, (∃ m, W 0 m σ H) ∧ ∀ i m σ H, W i m σ H →
      ((Itl K p).stop i H ∧ D.nx σ H) ∨ ((Itl K p).go i H ∧ ∃ N : L2.St → Hp → Prop, (∀ σ' H', N σ' H' → ∃ m', m' < m ∧ W (i + 1) m' σ' H') ∧ ∀ x H', (Itl K p).yld i H x H' → g x σ H' fun σ2 H2 => tAnyT mg E 1 P body { D with nx := N, ct := N, bk := D.nx } σ2 H2) := by
  refine for_list (K := K) (a := p) (xs := qs.map V.ref) (fun _ σ H => σ.length = n ∧ H p = some (.lst (qs.map V.ref)) ∧ TabS H P ql ∧ ∀ q ∈ qs, q ≠ p ∧ ∃ c d, H q = some (.lst [.int c, .int d])) ⟨hl, hp, hP, hq⟩ (fun i σ H _ h => SqL.of h.2.1) ?_ (fun σ H _ => hd σ H)
  rintro j x σ H hj ⟨hl, hp, hP, hq⟩
  rw [List.getElem?_map] at hj
  cases e : qs[j]? with
  | none => rw [e] at hj; cases hj
  | some q =>
    rw [e] at hj
    cases hj
    have hm := List.mem_of_getElem? e
    have nP : ∀ a xs, H a = some (.lst xs) → a ≠ P := fun a xs h z => by
      obtain ⟨ps, h2, _⟩ := hP
      rw [z, h2] at h; cases h
    refine hg _ _ _ _ (round_goT (by simpa using hl) hi (by rw [List.getElem?_set_self (by rw [hl]; exact hi)]) (hq q hm).2 hP wp fun σ' H' z1 z2 z3 z4 => ⟨z1, z2 _ _ hp (fun z => (hq q hm).1 z.symm) (nP _ _ hp), z4, fun q' hq' => ⟨(hq q' hq').1, ?_⟩⟩)
    by_cases z : q' = q
    · rw [z]; exact z3
    · obtain ⟨c, d, h⟩ := (hq q' hq').2
      exact ⟨c, d, z2 _ _ h z (nP _ _ h)⟩
theorem lamN_px {X : Cx} {A : Around} {outer : List Env} {s : Shared} {H : Hp} {E : XK} {scope : Scope} {f c' : Addr} : Passes (L2N.CX (lamN X A outer s H E scope f c').prog (lamN X A outer s H E scope f c').w) (lamN X A outer s H E scope f c') E :=
  L2N.passes_call (W := fun cls d _ H => E cls d H) (L2N.takes_of rfl rfl rfl rfl) fun _ _ _ _ h => h
theorem lamN_room {X : Cx} {A : Around} {outer : List Env} {s : Shared} {H : Hp} {E : XK} {scope : Scope} {f c' : Addr} {j k : Nat} (hr : Room k (A.deeper (lamEnv X scope s.heap.objs.size f c'))) (h : j ≤ k) : Room j (lamN X A outer s H E scope f c').A := Room.mono hr h
theorem toldD_mk {P : Program} {w : World} {K : PySem.W.Frag} {mg : Str → Option Value} {base : Heap} {es : List Str} {CP fT g : Addr} {fd : FuncData} {st : Stmt} {Ng : List Str} (m : mg (Str.ofString "_law_told") = some (.ref g)) (Fu : L2.Fun K (Str.ofString "_law_told") (Str.ofString "_law_told") st g fd) (hb : Binds K fd [Str.ofString "deed"] []) (S : FnScope Ng [Str.ofString "deed"] (defScope st))
    (h0 : Ng[0]? = some (Str.ofString "deed")) (hv : Vis (defScope st) (Str.ofString "deed")) (T : ∀ cdv, ToldTo P w K mg base CP fT Ng (defScope st) g cdv (defBody st)) (he : ∀ n ∈ es, ∀ D, mg n = some (.ref D) → TermOf P w K mg base CP fT n D) : ToldD P w K mg base es := ⟨CP, fT, g, fd, st, Ng, m, Fu, hb, S, h0, hv, T, he⟩
theorem term_of {P : Program} {w : World} {K : PySem.W.Frag} {mg : Str → Option Value} {base : Heap} {CP fT D D' : Addr} {Cs : List Addr} {j : Nat} {n : Str} (h : Told1 K CP Cs j D) (F : FnT P w K mg base 1 fT D n) (m : mg n = some (.ref D)) (m' : mg n = some (.ref D')) : TermOf P w K mg base CP fT n D' := by
  rw [m] at m'
  cases m'
  exact ⟨h.plank, F⟩
theorem lawT_mk {l : PySem.W.OpenLaw} {w : World} {K : PySem.W.Frag} {mg : Str → Option Value} {h : Heap} {k : Nat} {fa c P : Addr} {fd : FuncData} (X : K.In h) (nP : K.lookup P = none) (hh : PySem.W.codeHdIn K c P = true) (ht : h.get? P = some (PySem.W.tabObj #[])) (hb : ∀ (s : Shared) (u : Value), BindsTo s fd ⟨[u], []⟩ [(Str.ofString "script", u)])
    (F : ∀ base : Heap, K.In base → base.Ns mainGlobals mg → TabB base mg c P → FnOk l.prog w K mg base (L2N.CX l.prog w) k fa fd [Str.ofString "script"] (spLawT K P)) : LawAtS l w K (L2N.CX l.prog w) k 63 (Str.ofString "script") mg fa h := by
  refine ⟨fd, [(c, P)], spLawT K P, fun p hp => ?_, fun p hp => ?_, fun p hp => ?_, hb, fun H a ns hl _ hH hS => ⟨a, ns, rfl, hS, hl, hH (c, P) (by simp), fun _ => rfl⟩, fun base KX G TB => F base KX G (TB (c, P) (by simp))⟩
  · obtain rfl : p = (c, P) := by simpa using hp
    exact ht
  · obtain rfl : p = (c, P) := by simpa using hp
    exact nP
  · obtain rfl : p = (c, P) := by simpa using hp
    exact PySem.W.codeHd_of_K X hh
end DL
/-! t * k -/
namespace DL
open PySem PySem.Spec PyProof.Rows L2
def rRepF (K : PySem.W.Frag) : R2 := fun x y H Q => ∃ l k xs, x = .ref l ∧ y = .int k ∧ SqT K H l xs ∧ xs ≠ [] ∧ 2 ≤ k ∧ k ≤ 1000 ∧ xs.length ≤ 1000 ∧ ∀ p o, H p = none → o.dict = none → Q (.ref p) (L2.upd H p (.frz o (.tup (List.replicate k.toNat xs).flatten)))
section
variable {X : Cx} {G : Gx} {a b : Expr} {fa fb : TD} {pos : Pos}
theorem op_repF : OpR X (binaryOp .Mult) (rRepF X.K) := by
  intro pins s σ H x y v u Q I rx ry h
  obtain ⟨l, k, xs, rfl, rfl, hT, hne, h1, h2, hz, q⟩ := h
  cases rx
  obtain ⟨t, rfl⟩ := ry
  obtain ⟨its, r, ⟨⟨cls, dd, dat, sl⟩, ho, hc, n, hd⟩, hs⟩ := I.tuple hT
  simp only at hc hd
  subst hc hd
  have hle : its.length = xs.length := r.length.symm
  have hi : its.toArray.isEmpty = false := by
    cases its with
    | nil => exact absurd (List.eq_nil_of_length_eq_zero hle.symm) hne
    | cons a b => rfl
  have hb : k.toNat * xs.length ≤ 1000 * 1000 := Nat.mul_le_mul (by omega) hz
  have hm : ((its.toArray.size : Nat) : Int) * k ≤ 1000000 := by
    rw [List.size_toArray, hle]
    have a1 : ((xs.length : Nat) : Int) * k ≤ 1000 * k := Int.mul_le_mul_of_nonneg_right (by omega) (by omega)
    omega
  have fl : (List.replicate k.toNat its).flatten.length ≤ sizeLine := by rw [PyProof.Rows.lm_len_rep_flat, hle, sizeLine_eq]; omega
  have fx : (List.replicate k.toNat xs).flatten.length ≤ sizeLine := by rw [PyProof.Rows.lm_len_rep_flat, sizeLine_eq]; omega
  refine wpAny_binaryOp_repeat_ref (T := "tuple") (U := "int") (by decide) ⟨_, ho, rfl⟩ (fun s' => typeIs_int s' k t) noFill_tuple_mul F.fills_int_mul F.slot_int_rmul repeat_tuple F.slot_int_index.lookup
    (call_meets F.slot_int_rmul (typeIs_int s k t) F.entry_int_rmul (F.args_int_rmul_2 _ _) (int_rmul_tuple k t l its.toArray n dd sl)
      ⟨ho, rfl, ⟨_, ho, rfl⟩, call_meets F.slot_tuple_mul ⟨_, ho, rfl⟩ F.entry_tuple_mul (F.args_tuple_mul_2 _ _) (tuple_mulW l its.toArray n dd sl k t ?_ ?_ ?_ (by omega) ?_ (by rw [size_rep, List.size_toArray]; exact fl)) ⟨ho, ?_⟩⟩)
  · rw [decide_eq_false (by omega), decide_eq_false (by omega)] <;> rfl
  · rw [hi, Bool.false_or]; exact beq_eq_false_iff_ne.mpr (by omega)
  · rw [hi, Bool.or_false]; exact decide_eq_false (by omega)
  · unfold Builtin.Tuple.tupleTooMany; rw [sizeLine_eq]; exact decide_eq_false (by omega)
  · rw [size_rep]
    have J := I.laid (t' := s.toks) (o := .frz { cls := .type "tuple", data := .seq (List.replicate k.toNat its).flatten.toArray } (.tup (List.replicate k.toNat xs).flatten)) (h' := s.heap.push { cls := .type "tuple", data := .seq (List.replicate k.toNat its).flatten.toArray }) (fun _ _ e => Heap.get?_push_of_some _ e) (Nat.le_refl _) ⟨Heap.get?_push_size _ rfl, fx, _, r.rep k.toNat, ⟨_, Heap.get?_push_size _ rfl, rfl, _, rfl⟩⟩
    exact ⟨.ref s.heap.objs.size, _, J, rfl, q _ _ (I.hok.fresh (Nat.le_refl _)) rfl⟩
theorem DvA.rep {C : Hp} {ds : List PyData} {vs : List V} (h : DvA C ds vs) : ∀ m : Nat, DvA C (List.replicate m ds).flatten (List.replicate m vs).flatten
  | 0 => rfl
  | m + 1 => by
    rw [List.replicate_succ, List.replicate_succ, List.flatten_cons, List.flatten_cons]
    exact h.append (DvA.rep h m)
def oRep : Op2 := fun x y _ Q => match x, y with
  | .da (.tuple ds), .da (.int k) => (ds ≠ [] ∧ 2 ≤ k ∧ k ≤ 1000 ∧ ds.length ≤ 1000) ∧ Q (.tuple (List.replicate k.toNat ds).flatten)
  | _, _ => False
theorem ok_rep {K : PySem.W.Frag} : OkR (rRepF K) oRep := fun {mg As C H τ x y vx vy Q Qd} b hx hy o k => by
  match x, y, hx, hy, o with
  | .da (.tuple ds), .da (.int j), hx, hy, ⟨⟨h1, h2, h3, h4⟩, q⟩ =>
    obtain ⟨p, vs, rfl, hp, dv⟩ := VOk.dv hx
    have e : vy = .int j := VOk.dv hy
    subst e
    have hl := dv.length
    refine ⟨p, j, vs, rfl, rfl, (hp.mono b.core).sq, fun e => h1 (List.eq_nil_of_length_eq_zero (by rw [← hl, e]; rfl)), h2, h3, by omega, fun t o ht ho => ?_⟩
    have fx : (List.replicate j.toNat vs).flatten.length ≤ sizeLine := by
      rw [PyProof.Rows.lm_len_rep_flat, sizeLine_eq]
      have : j.toNat * vs.length ≤ 1000 * 1000 := Nat.mul_le_mul (by omega) (by omega)
      omega
    have st := Step.new (As := As) (o := .frz o (.tup (List.replicate j.toNat vs).flatten)) ht b.core
    exact k _ _ _ (.tuple (List.replicate j.toNat ds).flatten) st (b.new ht fx) ⟨t, _, rfl, TpO.new ho, (dv.rep _).mono st.ex⟩ q
theorem d_rep (ha : PE X a (tD G fa)) (hb : PE X b (tD G fb)) : PE X (.BinOp a .Mult b pos) (tD G (dBin oRep fa fb)) := d_bin op_repF ok_rep ha hb
end
section
variable {X : Cx} {G : Gx} {a : Expr} {fa : TD} {j : Nat} {pos' pos : Pos}
theorem t_notN2 (ha : PE X a (tD G fa)) : PT X (.Compare a [.IsNot] [.Constant .none j pos'] pos) (tDT G (dB (dNotN fa))) := t_notN ha
theorem t_isN2 (ha : PE X a (tD G fa)) : PT X (.Compare a [.Is] [.Constant .none j pos'] pos) (tDT G (dB (dIsN fa))) := t_isN ha
theorem d_notN2 (ha : PE X a (tD G fa)) : PE X (.Compare a [.IsNot] [.Constant .none j pos'] pos) (tD G (dNotN fa)) := d_notN ha
theorem d_isN2 (ha : PE X a (tD G fa)) : PE X (.Compare a [.Is] [.Constant .none j pos'] pos) (tD G (dIsN fa)) := d_isN ha
/-! list(range(n)) -/
theorem DvA.maps {C : Hp} {α : Type} (f : α → PyData) (g : α → V) (h : ∀ i, Dv C (f i) (g i)) : ∀ l : List α, DvA C (l.map f) (l.map g)
  | [] => rfl
  | x :: l => ⟨_, _, rfl, h x, DvA.maps f g h l⟩
def dListR (f : TD) : TD := fun ρ τ Q er => f ρ τ (fun x τ1 => match x with
  | .da (.int n) => (-1000 ≤ n ∧ n ≤ 100000) ∧ Q (.da (.list (rangeL 0 n.toNat))) τ1
  | _ => False) er
theorem d_listR {p q2 pos2 : Pos} {f : TD} (ha : PE X a (tD G f)) (hm : X.mg "list" = none) (hm2 : X.mg "range" = none) (hc : X.calm = true := by rfl) (hg : Gl X "list" := by rfl) (hg2 : Gl X "range" := by rfl) (na : starEach [a] X.env = (false, eval a X.env) :: starEach [] X.env := by rfl)
    (nb : starEach [.Call (.Name "range" p) [a] [] pos2] X.env = (false, eval (.Call (.Name "range" p) [a] [] pos2) X.env) :: starEach [] X.env := by rfl) :
    PE X (.Call (.Name "list" q2) [.Call (.Name "range" p) [a] [] pos2] [] pos) (tD G (dListR f)) := pe_weak (pe_listRg hc hg hm (prg_1 hg2 hm2 ha na) nb) fun σ H Q h => by
  obtain ⟨C, As, ρ, τ, Qd, R, hf, k⟩ := h
  refine ⟨C, As, ρ, τ, _, R, hf, fun C1 H1 v x τ1 s1 R1 d1 q1 => ?_⟩
  match x, d1, q1 with
  | .da (.int n), d1, ⟨⟨b1, b2⟩, q1⟩ =>
    have e : v = .int n := VOk.dv d1
    refine ⟨n, e, ⟨by decide, by decide, by omega, by omega, by omega⟩, fun p hp => ?_⟩
    have ez : (rgV 0 n).length ≤ sizeLine := by rw [rgV_length, sizeLine_eq]; omega
    have st := Step.new (As := As) (o := .lst (rgV 0 n)) hp R1.base.core
    have dv : DvA (L2.upd C1 p (.lst (rgV 0 n))) (rangeL 0 n.toNat) (rgV 0 n) := by
      unfold rgV rangeL
      rw [show n - 0 = n by omega]
      exact DvA.maps (fun i : Nat => PyData.int (0 + (i : Int))) (fun i : Nat => V.int (0 + (i : Int))) (fun i => rfl) _
    exact k _ _ _ (.da (.list (rangeL 0 n.toNat))) τ1 (s1.trans st) (R1.go st (R1.base.new hp ez)) ⟨_, rfl, p, _, rfl, upd_same, dv⟩ q1
end
end DL
/-! for i, x in enumerate(t), t a tuple -/
namespace DL
open PySem PySem.Spec PyProof.Rows L2
theorem enum_new1 {v : Value} {o : Obj} {H : Heap → Prop} (B : Begins v o H) :
    Meets (Builtin.«enumerate.__new__» ⟨[.type "enumerate", v], []⟩) (fun _ R s => H s.heap ∧
      R (.ok (.ret (.ref (s.heap.push o).objs.size))) { s with heap := (s.heap.push o).push { cls := .type "enumerate", data := .fields #[.none, .bool false, .ref s.heap.objs.size, rawInt 0, .none, .none] } }) :=
  .of_wp fun prog w A R s h => by
    obtain ⟨hp, g, d, tk, os⟩ := s; obtain ⟨h1, h⟩ := h
    have hsub := sub_enumerate
    have q1 : ∀ {A' : Around} {E : Value → Shared → Prop} {Q : Value → Shared → Prop}, Q (.ref hp.objs.size) ⟨hp.push o, g, d, tk, os⟩ → wpAny (model prog w) A' (pyIter v) Q E ⟨hp, g, d, tk, os⟩ :=
      fun q => B.iter prog w _ _ ⟨hp, g, d, tk, os⟩ _ h1 q
    wp_walk using q1
    refine wpAny_stack_any fun st => wpAny_pure ?_
    split
    · rename_i c _ _ _ _ _
      cases (c == Value.type "enumerate")
      · wp_walk using q1
        exact ⟨_, rfl, h⟩
      · wp_walk using q1
        exact ⟨_, rfl, h⟩
    · wp_walk using q1
      exact ⟨_, rfl, h⟩
section
variable {prog : Program} {w : World} {A : Around} {E : Value → Shared → Prop} {s : Shared}
theorem enum_call1 {v : Value} {o : Obj} {H : Heap → Prop} {Q : Value → Shared → Prop} (B : Begins v o H) (h1 : H s.heap)
    (h : ∀ h', IsEnum h' (s.heap.objs.size + 1) s.heap.objs.size 0 .none → h'.get? s.heap.objs.size = some o → (∀ b o, s.heap.get? b = some o → h'.get? b = some o) → Q (.ref (s.heap.objs.size + 1)) { s with heap := h' }) :
    wpAny (model prog w) A (call (.type "enumerate") [v]) Q E s := by
  refine callType_new F.called_enumerate (by decide) (F.typeCall_enumerate_1 _) (F.newCall_enumerate_1 _) (fun obj => F.args_object_init_2 obj _) F.entry_enumerate_new (enum_new1 B) ⟨h1, ?_⟩
  have hz : (s.heap.push o).objs.size = s.heap.objs.size + 1 := Heap.size_push ..
  show _ ∧ _
  rw [hz]
  have he : IsEnum ((s.heap.push o).push { cls := .type "enumerate", data := .fields #[.none, .bool false, .ref s.heap.objs.size, rawInt 0, .none, .none] }) (s.heap.objs.size + 1) s.heap.objs.size 0 .none := by
    have := Heap.get?_push_size (s.heap.push o) (o := { cls := .type "enumerate", data := .fields #[.none, .bool false, .ref s.heap.objs.size, rawInt 0, .none, .none] }) rfl
    rw [hz] at this; exact this
  exact ⟨⟨_, he, rfl⟩, h _ he (Heap.get?_push_of_some _ (Heap.get?_push_size _ B.free)) fun b o x => Heap.get?_push_of_some _ (Heap.get?_push_of_some _ x)⟩
end
/-- pairs of a place and an item of the tuple at a, which has n items -/
def ItE (K : PySem.W.Frag) (a : Addr) (n : Nat) : It :=
  ⟨fun i H => ∃ xs x, SqT K H a xs ∧ xs.length = n ∧ xs[i]? = some x, fun i H v H' => ∃ T o x, v = .ref T ∧ H T = none ∧ o.dict = none ∧ H' = L2.upd H T (.frz o (.tup [.int (i : Nat), x])) ∧ ∀ xs, SqT K H a xs → xs[i]? = some x, fun i H => ∃ xs, SqT K H a xs ∧ xs.length = n ∧ n ≤ i⟩
theorem turn_enumT {P : Program} {w : World} {K : PySem.W.Frag} {elts : List Expr} {kk : Nat} {tpos : Pos} (a e it : Addr) (n : Nat) :
    Turn P w K (.Tuple elts kk tpos) (ItE K a n) [e, it] e (fun i h => (∃ old, IsEnum h e it ((i : Nat) : Int) old) ∧ h.IsTupleIter it a i ∧ e ≠ it ∧ i ≤ n) where
  mem := by simp
  obj := fun i h st b hb => by
    obtain ⟨⟨old, he⟩, ⟨o, ho, hc, hd⟩, _⟩ := st
    have e' : b = e ∨ b = it := by simpa using hb
    rcases e' with z | z
    · rw [z]; exact ⟨_, he, fun v q => nomatch q⟩
    · rw [z]; exact ⟨o, ho, fun v q => by rw [hd] at q; cases q⟩
  keep := fun i h h' st k => let ⟨⟨old, he⟩, hi, hne⟩ := st; ⟨⟨old, k e (by simp) _ he⟩, hi.at fun o q => k it (by simp) o q, hne⟩
  item := by
    intro X hP hw hK hc i pins s σ H E I hf st hg
    subst hP hw hK
    obtain ⟨⟨old, he⟩, hit, hne, hin⟩ := st
    obtain ⟨xs, x, hq, hxn, hx⟩ := hg
    obtain ⟨its, rv, pt, hz⟩ := I.tuple hq
    obtain ⟨u, hu, ru⟩ := rv.get hx
    have hel : e < s.heap.objs.size := Heap.lt_size he
    have hil : it < s.heap.objs.size := by obtain ⟨_, q, _⟩ := hit; exact Heap.lt_size q
    have nai : a ≠ it := fun z => by
      obtain ⟨o1, g1, g2, _⟩ := pt
      obtain ⟨o2, k1, k2, _⟩ := hit
      rw [z] at g1
      rw [g1] at k1; cases k1
      rw [g2] at k2
      exact absurd (Value.type.inj k2) (by decide)
    have nae : a ≠ e := fun z => by
      obtain ⟨o1, g1, g2, _⟩ := pt
      rw [z] at g1
      have := g1.symm.trans he
      cases this
      exact absurd (Value.type.inj g2) (by decide)
    have hD := Draws.tuple (prog := X.prog) (w := X.w) (A := X.A.in1) (I.ok.hd hc) it a nai its.toArray
    refine wpAny_pyNext_enum_itemC (i := i) hD he ⟨hit, pt⟩ (by have := (List.getElem?_eq_some_iff.mp hu).1; simpa using this) hne (by simp [hne, Ne.symm nae]) fun x' h' tk hP' ho st' hT hsz hk => ?_
    have ex' : x' = u := by
      have : its.toArray[i]? = some x' := hP'
      simp at this
      rw [hu] at this
      exact (Option.some.inj this).symm
    subst ex'
    refine ⟨_, rfl, wpAny_letOwnedTupleGo_enum (s := { s with heap := h', toks := tk + 1 }) ho fun h'' he' sb => ?_⟩
    have hT2 : h''.get? s.heap.objs.size = some { cls := .type "tuple", data := .seq #[.int i tk, x'] } := (sb.2 _ (Nat.ne_of_gt hel)).trans hT
    have new : ObjOk X.prog X.w (L2.upd H s.heap.objs.size (.frz { cls := .type "tuple", data := .seq #[.int i tk, x'] } (.tup [.int (i : Nat), x]))) h'' s.heap.objs.size (.frz { cls := .type "tuple", data := .seq #[.int i tk, x'] } (.tup [.int (i : Nat), x])) :=
      ⟨hT2, by show 2 ≤ sizeLine; decide, [.int i tk, x'], .cons ⟨_, rfl⟩ (.cons ru .nil), ⟨_, hT2, rfl, _, rfl⟩⟩
    have I1 := I.turnedNew (t' := tk + 1) (ch := [e, it]) (fun b ob hb q => (sb.2 b (fun z => hb (by simp [z]))).trans (hk b ob (fun z => hb (by simp [z])) (fun z => hb (by simp [z])) q)) hf (Nat.le_refl _) new
    refine ⟨.ref s.heap.objs.size, _, I1, rfl, ⟨_, { cls := .type "tuple", data := .seq #[.int i tk, x'] }, x, rfl, I.hok.fresh (Nat.le_refl _), rfl, rfl, fun ys hy => ?_⟩, ⟨⟨x', ?_⟩, st'.1.at fun o q => (sb.2 it (Ne.symm hne)).trans q, hne, ?_⟩, fun b hb => ?_⟩
    · rw [I.tuple_inj hy hq]; exact hx
    · have e1 : ((i + 1 : Nat) : Int) = (i : Int) + 1 := by omega
      rw [e1]; exact he'
    · have := (List.getElem?_eq_some_iff.mp hx).1
      omega
    · have hb' : b < s.heap.objs.size := by
        have e' : b = e ∨ b = it := by simpa using hb
        rcases e' with z | z
        · rw [z]; exact hel
        · rw [z]; exact hil
      rw [upd_ne (Nat.ne_of_lt hb')]
      exact (hf b hb).1
  done := by
    intro X hP hw hK hc i pins s σ H E I hf st hg
    subst hP hw hK
    obtain ⟨⟨old, he⟩, hit, hne, hin⟩ := st
    obtain ⟨xs, hq, hxn, hx⟩ := hg
    obtain ⟨its, rv, pt, hz⟩ := I.tuple hq
    have nai : a ≠ it := fun z => by
      obtain ⟨o1, g1, g2, _⟩ := pt
      obtain ⟨o2, k1, k2, _⟩ := hit
      rw [z] at g1
      rw [g1] at k1; cases k1
      rw [g2] at k2
      exact absurd (Value.type.inj k2) (by decide)
    have hD := Draws.tuple (prog := X.prog) (w := X.w) (A := X.A.in1) (I.ok.hd hc) it a nai its.toArray
    obtain ⟨f0, f1, f2, f3, f4, f5⟩ := hf it (by simp)
    have ei : its.toArray.size = i := by rw [List.size_toArray, ← rv.length]; omega
    exact wpAny_pyNext_enum_endD hD he ⟨by rw [ei]; exact hit, pt⟩ fun h' eb => ⟨rfl, I.turned (t' := s.toks) (fun b o hb q => eb b o hb q) f0 f1 f3 f4 f5⟩
  self := fun A i s Q E st h => let ⟨⟨_, he⟩, _⟩ := st; wpAny_pyIter_enum he h
section
variable {X : Cx} {G : Gx} {e : Expr} {p pos tpos : Pos} {elts : List Expr} {kk : Nat}
def iEnumT (K : PySem.W.Frag) (ta : TE) : TI := fun σ H R => ta σ H fun v H1 => ∃ a xs, v = .ref a ∧ SqT K H1 a xs ∧ R (ItE K a xs.length) H1
theorem pi_enumT {ta : TE} (hg : Gl X "enumerate") (hm : X.mg "enumerate" = none) (ha : PE X e ta) (hs : starEach [e] X.env = (false, eval e X.env) :: starEach [] X.env := by rfl) :
    PI X (.Tuple elts kk tpos) (.Call (.Name "enumerate" p) [e] [] pos) (iEnumT X.K ta) := by
  refine ⟨fun pins s σ H R I h => ?_⟩
  refine Call_ (ld_blt I hg hm boot_enumerate (PyProof.Rows.callWith_type1 (args_cons (thn (ha.run pins s σ H _ I h) fun u s1 ⟨v, H1, I1, r1, q1⟩ => args_nil ?_) hs) hs))
  obtain ⟨a, xs, rfl, hq, q⟩ := q1
  obtain rfl : u = Value.ref a := r1
  obtain ⟨its, rv, pt, hz⟩ := I1.tuple hq
  refine enum_call1 (begins_tuple a its.toArray) pt fun h' he ho hk => wpAny_pyIter_enum he ?_
  have I2 : Inv X pins σ H1 { s1 with heap := h' } := I1.kept (t' := s1.toks) hk
  refine ⟨s1.heap.objs.size + 1, [s1.heap.objs.size + 1, s1.heap.objs.size], _, _, H1, rfl, I2, turn_enumT a (s1.heap.objs.size + 1) s1.heap.objs.size xs.length, ⟨⟨.none, he⟩, ⟨_, ho, rfl, rfl⟩, Nat.succ_ne_self _, Nat.zero_le _⟩, fun b hb => ?_, q⟩
  have e' : b = s1.heap.objs.size + 1 ∨ b = s1.heap.objs.size := by simpa using hb
  have hle : s1.heap.objs.size ≤ b := by
    rcases e' with z | z
    · rw [z]; exact Nat.le_add_right _ _
    · rw [z]; exact Nat.le_refl _
  exact I1.fpOk hle (I1.hok.fresh hle)
/-- the places with the items -/
def enumD (ds : List PyData) : List PyData := (List.range ds.length).map fun i : Nat => match ds[i]? with
  | some d => .tuple [.int (i : Int), d]
  | none => .none
theorem enumD_len (ds : List PyData) : (enumD ds).length = ds.length := by unfold enumD; simp
theorem enumD_get {ds : List PyData} {i : Nat} {d : PyData} (h : (enumD ds)[i]? = some d) : ∃ x, ds[i]? = some x ∧ d = .tuple [.int (i : Int), x] := by
  unfold enumD at h
  have hi : i < ds.length := by have := (List.getElem?_eq_some_iff.mp h).1; simpa using this
  rw [List.getElem?_map, List.getElem?_range hi] at h
  refine ⟨ds[i], by simp [hi], ?_⟩
  simp [hi] at h
  exact h.symm
def dIEnum (f : TD) : TDI := fun ρ τ Q er => f ρ τ (fun r τ1 => match r with
  | .da (.tuple ds) => Q (enumD ds) τ1
  | _ => False) er
theorem i_enum {f : TD} (hl : PE X e (tD G f)) (hm : X.mg "enumerate" = none) (hg : Gl X "enumerate" := by rfl) (hs : starEach [e] X.env = (false, eval e X.env) :: starEach [] X.env := by rfl) : PI X (.Tuple elts kk tpos) (.Call (.Name "enumerate" p) [e] [] pos) (iD G (dIEnum f)) := pi_weak (pi_enumT hg hm hl hs) fun σ H R h => by
  obtain ⟨C, As, ρ, τ, Qd, Rl, hf, k⟩ := h
  refine ⟨C, As, ρ, τ, _, Rl, hf, fun C1 H1 v r τ1 s1 R1 d1 q1 => ?_⟩
  match r, d1, q1 with
  | .da (.tuple ds), d1, q1 =>
    obtain ⟨p, vs, e1, e2, e3⟩ := VOk.dv d1
    have hz : (enumD ds).length ≤ sizeLine := by obtain ⟨o, e2, _⟩ := e2.ex; have := R1.base.sz _ _ e2; rw [enumD_len, ← e3.length]; exact this
    refine ⟨p, vs, e1, (e2.mono R1.base.core).sq, k C1 H1 _ (enumD ds) τ1 s1 R1 ⟨fun i H2 z l => ?_, fun i H2 d z hi => ?_⟩ hz q1⟩
    · exact ⟨vs, (e2.mono z).sq, rfl, by rw [enumD_len] at l; rw [e3.length]; exact l⟩
    · obtain ⟨x, hx, rfl⟩ := enumD_get hi
      obtain ⟨xv, hxv, dx⟩ := e3.at hx
      refine ⟨⟨vs, xv, (e2.mono z).sq, rfl, hxv⟩, fun y H3 ⟨T, o, y', h1, h2, h3, h4, h5⟩ => .inr ⟨T, .frz o (.tup [.int (i : Nat), y']), h2, by show 2 ≤ sizeLine; decide, h4, fun C2 q n => ?_⟩⟩
      have h6 := h5 vs ((e2.mono z).sq)
      rw [hxv] at h6
      cases h6
      subst h1
      have sm : Same C2 (L2.upd C2 T (.frz o (.tup [.int (i : Nat), xv]))) := fun a u h => by rw [upd_ne (ne_of_none h n)]; exact h
      exact ⟨T, [.int (i : Nat), xv], rfl, TpO.new h3, _, _, rfl, rfl, _, _, rfl, dx.mono (q.trans sm), rfl⟩
end
end DL
/-! the newest list of the def is data from now on -/
namespace DL
open PySem PySem.Spec PyProof.Rows L2
def slPop (k : Nat) (ds : List PyData) : Sl → Sl
  | .res j => if j = k then .da (.list ds) else .res j
  | s => s
theorem Rel.pop {G : Gx} {C H : Hp} {As : List Addr} {ρ : Ds} {τ0 : Rs} {σ : L2.St} {ds : List PyData} (R : Rel G C As ρ (τ0 ++ [.lst ds]) σ H) (hn : G.As0.length ≤ τ0.length) (hd : ds.length ≤ 1000000) : ∃ C2 As2, Same C C2 ∧ Rel G C2 As2 (ρ.map (slPop τ0.length ds)) τ0 σ H := by
  have hl : As.length = τ0.length + 1 := by rw [R.base.len]; simp
  obtain ⟨As2, p, rfl⟩ : ∃ As2 p, As = As2 ++ [p] := by
    refine ⟨As.dropLast, As.getLast (by intro z; rw [z] at hl; simp at hl), ?_⟩
    rw [List.dropLast_concat_getLast]
  have hl2 : As2.length = τ0.length := by simpa using hl
  have hp : (As2 ++ [p])[τ0.length]? = some p := by rw [← hl2]; simp
  obtain ⟨vs, hv, dv⟩ := R.base.rs τ0.length p (.lst ds) hp (by simp)
  have hoff := R.base.off p (by simp)
  have npA : p ∉ As2 := fun h => by
    have := R.base.nd
    rw [List.nodup_append] at this
    exact this.2.2 p h p (by simp) rfl
  have pre2 : G.As0 <+: As2 := by
    obtain ⟨r, e⟩ := R.pre
    have : G.As0 = (As2 ++ [p]).take G.As0.length := by rw [← e]; simp
    rw [this, List.take_append_of_le_length (by omega)]
    exact List.take_prefix _ _
  have np0 : p ∉ G.As0 := fun h => npA (pre2.subset h)
  have eC : Same C (L2.upd C p (.lst vs)) := fun a u h => by rw [upd_ne (ne_of_none h hoff.1)]; exact h
  have hz : SzO (.lst vs) := by
    show vs.length ≤ sizeLine
    rw [dv.length, sizeLine_eq]; omega
  have core : Same (L2.upd C p (.lst vs)) H := fun a u h => by
    by_cases z : a = p
    · rw [z, upd_same] at h; rw [z]; cases h; exact hv
    · rw [upd_ne z] at h; exact R.base.core _ _ h
  refine ⟨L2.upd C p (.lst vs), As2, eC, ⟨⟨core, ?_, hl2, fun a ha => ⟨?_, (R.base.off a (by simp [ha])).2⟩, fun k a r h1 h2 => ?_, fun a u h => ?_⟩, ?_, pre2, fun a ha => R.new a (by simp [ha]), by simp [R.len], fun i r hi => ?_⟩⟩
  · have := R.base.nd
    rw [List.nodup_append] at this
    exact this.1
  · rw [upd_ne (fun z => npA (by rw [← z]; exact ha))]
    exact (R.base.off a (by simp [ha])).1
  · have hk : k < As2.length := (List.getElem?_eq_some_iff.mp h1).1
    exact (R.base.rs k a r (by rw [List.getElem?_append_left hk]; exact h1) (by rw [List.getElem?_append_left (by omega)]; exact h2)).keep eC fun _ _ h => h
  · by_cases z : a = p
    · rw [z, upd_same] at h; cases h; exact hz
    · rw [upd_ne z] at h; exact R.base.sz _ _ h
  · have s := R.step
    refine ⟨s.ex.trans eC, s.keep, s.there, fun a h n => ?_⟩
    have na : a ≠ p := fun z => by
      rcases R.new p (by simp) with h1 | h1
      · exact np0 h1
      · rw [z] at h; exact h h1
    rw [upd_ne na]
    exact s.out a h n
  · rw [List.getElem?_map] at hi
    obtain ⟨r0, h1, rfl⟩ := Option.map_eq_some_iff.mp hi
    have hs := R.sl i r0 h1
    cases r0 with
    | un => trivial
    | da d => obtain ⟨v, e1, e2⟩ := hs; exact ⟨v, e1, e2.mono eC⟩
    | res j =>
      obtain ⟨a, e1, e2⟩ := hs
      show SlOk _ _ _ (if j = τ0.length then .da (.list ds) else .res j)
      by_cases z : j = τ0.length
      · rw [if_pos z]
        rw [z, hp] at e1
        cases e1
        exact ⟨_, e2, p, vs, rfl, upd_same, dv.mono eC⟩
      · rw [if_neg z]
        have hj : j < As2.length := by
          have := (List.getElem?_eq_some_iff.mp e1).1
          simp at this
          omega
        exact ⟨a, by rw [List.getElem?_append_left hj] at e1; exact e1, e2⟩
/-- before g the newest list is made data; the def has n0 resources of its callers -/
def dPop (n0 : Nat) (g : TDS) : TDS := fun ρ τ De => ∃ τ0 ds, τ = τ0 ++ [.lst ds] ∧ n0 ≤ τ0.length ∧ ds.length ≤ 1000000 ∧ g (ρ.map (slPop τ0.length ds)) τ0 De
theorem s_pop {X : Cx} {G : Gx} {b : List Stmt} {g : TDS} {n0 : Nat} (hA : G.As0.length = n0) (h : PSs X b (sD G g)) : PSs X b (sD G (dPop n0 g)) := pss_weak h fun D σ H hq => by
  obtain ⟨C, As, ρ, τ, De, R, ⟨τ0, ds, e, h1, h2, hg⟩, her, kn, kr⟩ := hq
  subst e
  obtain ⟨C2, As2, s2, R2⟩ := R.pop (by omega) h2
  exact ⟨C2, As2, _, τ0, De, R2, hg, her, fun C' As' ρ' τ' σ' H' s' R' q => kn C' As' ρ' τ' σ' H' (s2.trans s') R' q, kr⟩
end DL
/-! t.count(i), sum(t), t[::-1], t a tuple of ints -/
namespace DL
open PySem PySem.Spec PyProof.Rows L2
section
variable {X : Cx} {G : Gx} {e a b c : Expr} {es : List Expr} {f fa fb fc : TD} {pos p : Pos} {n : Nat} {g : TDA}
def rTcn (K : PySem.W.Frag) : V → List V → Hp → VK → Prop := fun x xs H Q => ∃ (l : Addr) (ns : List Int) (k : Int), x = .ref l ∧ xs = [.int k] ∧ SqT K H l (ns.map V.int) ∧ Q (.int (ns.count k : Nat)) H
theorem countP_vals {k : Int} : ∀ {ns : List Int} {its : List Value}, Vals (ns.map V.int) its → its.countP (eqU (.int k)) = ns.count k
  | [], [], _ => rfl
  | [], _ :: _, r => by have := r.length; simp at this
  | _ :: _, [], r => by have := r.length; simp at this
  | y :: ns, v :: its, r => by
    cases r with
    | cons r1 r2 =>
      obtain ⟨t, rfl⟩ := r1
      rw [List.countP_cons, countP_vals r2, List.count_cons]
      rfl
theorem mt_tcn : MtR X "tuple.count" (rTcn X.K) := by
  intro pins s σ H x xs v us Q I rx rs ⟨l, ns, k, e1, e2, hq, hQ⟩
  subst e1 e2
  cases rx
  obtain ⟨u, rfl, t, rfl⟩ := vals1 rs
  obtain ⟨its, r, ⟨⟨cls, dd, dt, sl⟩, ho, hc, m0, hd⟩, hz⟩ := I.tuple hq
  simp only at hc hd
  subst hc hd
  refine call_meets PySem.F.slot_tuple_count ⟨_, ho, rfl⟩ PySem.F.entry_tuple_count (PySem.F.args_tuple_count_2 _ _) (PySem.SeqAt.tuple_countAt l its.toArray m0 dd sl (.int k t) (eqU (.int k))) ⟨ho, fun w hw => mem_eqAt (x := .int k) ⟨t, rfl⟩ rfl r (by rw [List.all_map, List.all_eq_true]; intros; rfl) w (by simpa using hw), ⟨.int (ns.count k : Nat), H, I.tok _, ⟨s.toks, ?_⟩, hQ⟩⟩
  rw [show its.toArray.toList = its from rfl, countP_vals r]
/-- o.count(e), o a tuple that the program made -/
def tTcn (K : PySem.W.Frag) (to : TE) (t : TA) : TE := fun σ H Q => to σ H fun x H1 => ∃ l vs, x = .ref l ∧ TpO H1 l vs ∧ t σ H1 fun xs H2 => rTcn K x xs H2 Q
theorem pe_tcn {o : Expr} {to : TE} {t : TA} {apos cpos : Pos} (ho : PE X o to) (ha : PA X [e] t) (hbase : attributeBase o "count" X.env (eval o X.env) = eval o X.env := by rfl)
    (hfew : ((backTo cpos (starEach [e] X.env)).all (fun x => !x.1) && (backToKw cpos (keywordEach [] X.env)).all (fun x => x.1.isSome) && decide ([e].length + ([] : List Keyword).length + (if ([] : List Keyword).isEmpty then 0 else 1) < 30)) = true := by rfl)
    (hline : (apos.endLine == cpos.line) = true := by rfl) (hs : starEach [e] X.env = (false, eval e X.env) :: starEach [] X.env := by rfl) (hplain : (backTo cpos (starEach [] X.env)).any (·.1) = false := by rfl) :
    PE X (.Call (.Attribute o "count" apos) [e] [] cpos) (tTcn X.K to t) := by
  refine ⟨fun pins s σ H Q I h => wpAny_Call_method_late hbase hfew hline rfl (thn (ho.run pins s σ H _ I h) fun v s1 hv => ?_)⟩
  obtain ⟨x, H1, I1, r1, l, vs, e1, tp, q1⟩ := hv
  subst e1
  cases r1
  have ⟨its, _, ht, _⟩ := I1.tuple (tp.sq (K := X.K))
  obtain ⟨ob, h1, h2⟩ := tp.ex
  refine ⟨"tuple", "tuple.count", PySem.F.plainAttrs_tuple, PySem.F.slot_tuple_count, PySem.F.type_tuple_count, ht.typeIs, fun a e => ?_, ?_⟩
  · cases e
    exact ⟨ob, (I1.hok l _ h1).1, h2⟩
  · have hA := ha.run cpos pins s1 σ H1 _ I1 q1
    rw [hs] at hA ⊢
    refine Calls.callWith_builtin (by show (false || (backTo cpos (starEach [] X.env)).any (·.1)) = false; rw [hplain] <;> rfl) (Calls.evalArgs_plain (thn hA fun us s2 hu => ?_))
    obtain ⟨ws, H2, I2, r2, q2⟩ := hu
    exact mt_tcn pins s2 σ H2 (.ref l) ws _ us Q I2 rfl r2 q2
def dTcn (fo f : TD) : TD := fun ρ τ Q er => fo ρ τ (fun x τ1 => match x with
  | .da (.tuple ds) => f ρ τ1 (fun y τ2 => match y with
    | .da (.int k) => ∃ ns : List Int, ds = ns.map .int ∧ Q (.da (.int (ns.count k : Nat))) τ2
    | _ => False) er
  | _ => False) er
theorem d_tcn {o : Expr} {apos cpos : Pos} (ho : PE X o (tD G fa)) (ha : PE X e (tD G f)) (hbase : attributeBase o "count" X.env (eval o X.env) = eval o X.env := by rfl)
    (hfew : ((backTo cpos (starEach [e] X.env)).all (fun x => !x.1) && (backToKw cpos (keywordEach [] X.env)).all (fun x => x.1.isSome) && decide ([e].length + ([] : List Keyword).length + (if ([] : List Keyword).isEmpty then 0 else 1) < 30)) = true := by rfl)
    (hline : (apos.endLine == cpos.line) = true := by rfl) (hs : starEach [e] X.env = (false, eval e X.env) :: starEach [] X.env := by rfl) (hplain : (backTo cpos (starEach [] X.env)).any (·.1) = false := by rfl) :
    PE X (.Call (.Attribute o "count" apos) [e] [] cpos) (tD G (dTcn fa f)) := pe_weak (pe_tcn ho (pa_cons ha pa_nil hs) hbase hfew hline hs hplain) fun σ H Q h => by
  obtain ⟨C, As, ρ, τ, Qd, R, h1, k⟩ := h
  refine ⟨C, As, ρ, τ, _, R, h1, fun C1 H1 v x τ1 s1 R1 d1 q1 => ?_⟩
  match x, d1, q1 with
  | .da (.tuple ds), d1, q1 =>
    obtain ⟨l, vs, g1, g2, g3⟩ := VOk.dv d1
    refine ⟨l, vs, g1, g2.mono R1.base.core, C1, As, ρ, τ1, _, R1, q1, fun C2 H2 u y τ2 s2 R2 d2 q2 => ?_⟩
    match y, d2, q2 with
    | .da (.int kk), d2, ⟨ns, e, q3⟩ =>
      subst e
      have ev := g3.ints
      subst ev
      have e3 : u = .int kk := VOk.dv d2
      subst e3
      exact ⟨l, ns, kk, g1, rfl, ((g2.mono s2.ex).mono R2.base.core).sq, k C2 H2 _ (.da (.int (ns.count kk : Nat))) τ2 (s1.trans s2) R2 ⟨_, rfl, rfl⟩ q3⟩
end
end DL
/-! sum(t), t[::-1], t a tuple of ints -/
namespace DL
open PySem PySem.Spec PyProof.Rows L2
section
variable {prog : Program} {w : World} {A : Around} {E : Value → Shared → Prop} {s : Shared}
theorem sumT_raw {l : Addr} {its : List Value} {ns : List Int} {Q : Value → Shared → Prop} (hh : A.handled = none) (hl : s.heap.IsTuple l its.toArray) (hi : IntsAre its ns)
    (h : ∀ h' tk t', (∀ b o, s.heap.get? b = some o → h'.get? b = some o) → Q (.int ns.sum t') { s with heap := h', toks := tk }) : wpAny (model prog w) A (call (.builtin "sum") [.ref l]) Q E s := by
  obtain ⟨xs, e⟩ := hi.allInts.items
  have hn : numsOf (intItems xs).toList = ns := by rw [← e]; exact hi.numsOf
  rw [nums_intItems] at hn
  rw [e] at hl
  have hlt : l < s.heap.objs.size := by obtain ⟨_, e, _⟩ := hl; exact Heap.lt_size e
  refine call_sum_walkG (wpAny_pyIter_tuple hl ⟨_, _, _, _, _, _, numAt xs, rfl, Walks.tuple (A := A.in1) hh _ l (Nat.ne_of_lt hlt) (intItems xs), ⟨⟨_, Heap.get?_push_size _ rfl, rfl, rfl⟩, hl.push _⟩, fun b hb => ?_, (fun _ _ => intItems_at), fun h' tk t' hk => ?_⟩)
  · show b < (s.heap.push _).objs.size
    rw [Heap.size_push]
    rcases List.mem_cons.mp hb with rfl | hb
    · exact Nat.lt_succ_self _
    · rcases List.mem_cons.mp hb with rfl | hb
      · exact Nat.lt_succ_of_lt hlt
      · cases hb
  · have := h h' tk t' fun b o e => hk b o (fun hm => absurd (Heap.lt_size e) ((List.mem_singleton.mp hm) ▸ Nat.lt_irrefl _)) (Heap.get?_push_of_some _ e)
    rw [preSum_eq, List.take_of_length_le (by simp [intItems]), hn]; exact this
/-- a tuple's item by [::-1] -/
theorem sliceApplied_rev {sl : Addr} {vs : Value} {n : Nat} {Q : Int × Int × Nat → Shared → Prop} (hs : s.heap.IsSliceOf sl .none .none vs) (ps : IsPart vs (some (-1)))
    (h : Q ((n : Int) - 1, -1, n) s) : wpAny (model prog w) A (Builtin.Slice.sliceApplied (.ref sl) (pure (n : Int))) Q E s := by
  obtain ⟨os, hos, hcs, hds⟩ := id hs
  unfold Builtin.Slice.sliceApplied Builtin.Slice.sliceFields
  refine wpAny_bind (wpAny_bind (wpAny_field hos hds (x := .none) rfl (wpAny_bind (wpAny_field hos hds (x := .none) rfl (wpAny_bind (wpAny_field hos hds (x := vs) rfl (wpAny_pure ?_)))))))
  refine wpAny_bind (HT.slicePart_ ps ?_)
  show wpAny _ _ (if ((-1 : Int) == 0) = true then _ else _) _ _ s
  rw [if_neg (by decide)]
  refine wpAny_bind (HT.slicePart_ .none (wpAny_bind (HT.slicePart_ .none (wpAny_bind (wpAny_pure ?_)))))
  show wpAny _ _ (pure ((n : Int) - 1, (-1 : Int), Builtin.Slice.slicePlaces ((n : Int) - 1) (-1) (-1))) _ _ s
  have e : Builtin.Slice.slicePlaces ((n : Int) - 1) (-1) (-1) = n := by
    unfold Builtin.Slice.slicePlaces
    rw [if_neg (by decide)]
    by_cases z : (n : Int) - 1 > -1
    · rw [if_pos z, show (- -1 : Int) = 1 by decide, Int.ediv_one]; omega
    · rw [if_neg z]; omega
  rw [e]
  exact wpAny_pure h
theorem pick_rev (xs : Array Value) : ((List.range xs.size).filterMap fun (m : Nat) => xs[((xs.size : Int) - 1 + (m : Int) * -1).toNat]?).toArray = xs.toList.reverse.toArray := by
  rw [← PySem.W.krv_all, ← List.filterMap_reverse, ← PySem.W.krv_range, List.filterMap_map]
  congr 1
  have e : (fun (m : Nat) => xs[((xs.size : Int) - 1 + (m : Int) * -1).toNat]?) = (fun x => xs[x]?) ∘ fun k => xs.size - 1 - k := by
    funext m
    show _ = xs[xs.size - 1 - m]?
    rw [show ((xs.size : Int) - 1 + (m : Int) * -1).toNat = xs.size - 1 - m by omega]
  rw [e]
theorem getItem_tuple_rev {t sl : Addr} {items : Array Value} {vs : Value} {Q : Value → Shared → Prop} (ht : IsTup s.heap t items) (hs : s.heap.IsSliceOf sl .none .none vs) (ps : IsPart vs (some (-1)))
    (h : Q (.ref s.heap.objs.size) { s with heap := s.heap.push { cls := .type "tuple", data := .seq items.toList.reverse.toArray } })
    (hsz : items.size ≤ sizeLine) : wpAny (model prog w) A (getItem (.ref t) (.ref sl)) Q E s := by
  have htake : sizeOk (.seq items.toList.reverse.toArray) := by
    show items.toList.reverse.toArray.size ≤ sizeLine
    rw [List.size_toArray, List.length_reverse, Array.length_toList]
    exact hsz
  obtain ⟨os, hos, hcs, hds⟩ := id hs
  have hTs : s.TypeIs (.ref sl) "slice" := ⟨os, hos, hcs⟩
  unfold getItem
  try with_reducible refine wpAny_holding ?_
  first | refine wpAny_bind (wpAny_pure ?_) | skip
  refine wpAny_bind (wpAny_sequenceKey ht.typeIs (by decide) ?_)
  refine wpAny_bind (wpAny_callSpecial?_slot (name := Str.ofString "__getitem__") ht.typeIs PyProof.Rows.slot_tuple_getitem
    (wpAny_call_entry PyProof.Rows.slot_tuple_getitem ht.typeIs entry_tuple_getitem ?_ (args_tuple_getitem _ _)))
  show wpAny _ _ (Builtin.Tuple.tupleItemsOf (.ref t) >>= _) _ _ s
  refine wpAny_bind (tupleItemsOf_ ht ?_)
  refine wpAny_bind (wpAny_typeOf hTs ?_)
  rw [if_pos (by decide)]
  refine wpAny_bind (sliceApplied_rev hs ps ?_)
  have hno : ¬ ((((items.size : Int) - 1) == 0 && (-1 : Int) == 1 && items.size == items.size) = true) := by
    intro q
    rw [Bool.and_eq_true, Bool.and_eq_true] at q
    exact absurd q.1.2 (by decide)
  show wpAny _ _ (if (((items.size : Int) - 1) == 0 && (-1 : Int) == 1 && items.size == items.size) = true then _ else _) _ _ s
  rw [if_neg hno, pick_rev]
  first
    | exact wpAny_bind (m := Builtin.Tuple.tupleExact _) (wpAny_newObj_type (wpAny_pure ⟨_, rfl, wpAny_pure h⟩) htake)
    | exact wpAny_bind (m := Builtin.Tuple.tupleExact _) (wpAny_newObj_type (wpAny_bind (wpAny_pure (wpAny_pure ⟨_, rfl, wpAny_pure h⟩))) htake)
    | exact wpAny_bind (wpAny_bind (m := Builtin.Tuple.tupleExact _) (wpAny_newObj_type (wpAny_pure (wpAny_pure ⟨_, rfl, wpAny_pure h⟩)) htake))
    | exact wpAny_bind (wpAny_bind (m := Builtin.Tuple.tupleExact _) (wpAny_newObj_type (wpAny_pure ⟨_, rfl, wpAny_pure h⟩) htake))
end
section
variable {X : Cx} {G : Gx} {e a b c : Expr} {es : List Expr} {f fa fb fc : TD} {pos p : Pos} {n : Nat} {g : TDA}
def rSumT (K : PySem.W.Frag) : List V → Hp → VK → Prop := fun vs H Q => ∃ (a : Addr) (ns : List Int), vs = [V.ref a] ∧ SqT K H a (ns.map V.int) ∧ Q (.int ns.sum) H
theorem cr_sumT (hc : X.calm = true) : CallR X (.builtin "sum") (rSumT X.K) := by
  intro pins s σ H vs us Q I r h
  obtain ⟨a, ns, rfl, hs, q⟩ := h
  obtain ⟨its, rv, hl, _⟩ := I.tuple hs
  rw [Vals.ref1 r]
  exact sumT_raw (I.ok.hd hc) hl rv.ints fun h' tk t' hk => ⟨.int _, H, I.kept hk, ⟨_, rfl⟩, q⟩
def oSumT : OpC := fun xs _ Q => match xs with
  | [.da (.tuple ds)] => ∃ ns : List Int, ds = ns.map .int ∧ Q (.int ns.sum)
  | _ => False
theorem ok_sumT {K : PySem.W.Frag} : OkC (rSumT K) oSumT := fun {mg As C H τ xs vs Q Qd} b ha o k => by
  match xs, ha, o with
  | [.da (.tuple ds)], .cons (v := v) r .nil, ⟨ns, e, o⟩ =>
    subst e
    obtain ⟨p, ws, e1, e2, e3⟩ := VOk.dv r
    have := e3.ints
    subst this
    exact ⟨p, ns, by rw [e1], (e2.mono b.core).sq, k C H _ (.int ns.sum) (Step.refl _ _ _) b rfl o⟩
theorem d_sumT (ha : PA X [a] (tDA G n g)) (hm : X.mg "sum" = none) (hc : X.calm = true := by rfl) (hg : Gl X "sum" := by rfl) (he : starEach [a] X.env = (false, eval a X.env) :: starEach [] X.env := by rfl) (hpl : (backTo pos (starEach [] X.env)).any (·.1) = false := by rfl) : PE X (.Call (.Name "sum" p) [a] [] pos) (tD G (dCB oSumT g)) :=
  d_callB (cr_sumT hc) ok_sumT hg hm (by decide +kernel) ha (by decide) (by decide) he hpl
def tRevT (K : PySem.W.Frag) (te : TE) : TE := fun σ H Q => te σ H fun x H1 => ∃ a xs, x = .ref a ∧ TpO H1 a xs ∧ ∀ p o, H1 p = none → o.dict = none → xs.length ≤ sizeLine → Q (.ref p) (L2.upd H1 p (.frz o (.tup xs.reverse)))
theorem pe_revT {te : TE} {k : Nat} {p1 p2 p3 pos : Pos} (he : PE X e te) : PE X (.Subscript e (.Slice none none (some (.UnaryOp .USub (.Constant (.int 1) k p1) p2)) p3) pos) (tRevT X.K te) := by
  refine ⟨fun pins s σ H Q I h => ?_⟩
  refine Subscript_ (thn (he.run pins s σ H _ I h) fun v s1 ⟨x, H1, I1, r1, q1⟩ => ?_)
  obtain ⟨a, xs, ex, hx, q⟩ := q1
  subst ex
  cases r1
  have hst : PO X (some (.UnaryOp .USub (.Constant (.int 1) k p1) p2)) (tPart (tUn (rU fun i => .int (-i)) (tC (.int 1)))) := po_some (pe_un un_neg pe_int)
  refine wpAny_Slice (thn (po_none.run pins s1 σ H1 (fun o H2 => o = none ∧ H2 = H1) I1 ⟨rfl, rfl⟩) fun vl s2 ⟨l, H2, I2, pl, el, e2⟩ => ?_)
  subst el e2
  refine thn (po_none.run pins s2 σ H2 (fun o H3 => o = none ∧ H3 = H2) I2 ⟨rfl, rfl⟩) fun vu s3 ⟨u, H3, I3, pu, eu, e3⟩ => ?_
  subst eu e3
  refine thn (hst.run pins s3 σ H3 (fun o H4 => o = some (-1) ∧ H4 = H3) I3 ⟨1, rfl, -1, rfl, rfl, rfl⟩) fun vs s4 ⟨o, H4, I4, ps, eo, e4⟩ => ?_
  subst eo e4
  cases pl
  cases pu
  have I5 : Inv X pins σ H4 { s4 with heap := s4.heap.push { cls := .type "slice", data := .fields #[.none, .none, vs] } } := I4.kept (t' := s4.toks) fun b ob q => Heap.get?_push_of_some _ q
  obtain ⟨its, r, ht, hz⟩ := I5.tuple (hx.sq (K := X.K))
  have hlen := r.length
  show wpAny (model X.prog X.w) X.A (subscriptTail e (.Slice none none (some (.UnaryOp .USub (.Constant (.int 1) k p1) p2)) p3) (.ref a) (.ref s4.heap.objs.size)) (EP X pins σ Q) X.xe { s4 with heap := s4.heap.push { cls := .type "slice", data := .fields #[.none, .none, vs] } }
  refine tail_any (ops := [.ref a, .ref s4.heap.objs.size]) ht.typeIs (PyProof.Rows.slot_tuple_getitem.lookup) ?_ (by with_unfolding_all rfl)
  refine getItem_tuple_rev ht (Heap.IsSliceOf.new _ .none .none vs) ps ?_ (by rw [List.size_toArray]; omega)
  exact ⟨.ref _, _, I5.laid (t' := s4.toks) (o := .frz _ (.tup xs.reverse)) (fun b ob q => Heap.get?_push_of_some _ q) (Nat.le_refl _) ⟨Heap.get?_push_size _ rfl, by rw [List.length_reverse]; exact hz, _, r.reverse, IsTup.new _ _⟩, rfl, q _ _ (I5.hok.fresh (Nat.le_refl _)) rfl hz⟩
theorem DvA.reverse {C : Hp} : ∀ {ds : List PyData} {vs : List V}, DvA C ds vs → DvA C ds.reverse vs.reverse
  | [], _, h => by cases h; exact rfl
  | d :: ds, _, ⟨v, ws, h1, h2, h3⟩ => by cases h1; rw [List.reverse_cons, List.reverse_cons]; exact (DvA.reverse h3).append (.one h2)
def dRevT (f : TD) : TD := fun ρ τ Q er => f ρ τ (fun x τ1 => match x with
  | .da (.tuple ds) => Q (.da (.tuple ds.reverse)) τ1
  | _ => False) er
theorem d_revT {k : Nat} {p1 p2 p3 pos : Pos} (he : PE X e (tD G f)) : PE X (.Subscript e (.Slice none none (some (.UnaryOp .USub (.Constant (.int 1) k p1) p2)) p3) pos) (tD G (dRevT f)) := pe_weak (pe_revT he) fun σ H Q h => by
  obtain ⟨C, As, ρ, τ, Qd, R, h1, k⟩ := h
  refine ⟨C, As, ρ, τ, _, R, h1, fun C1 H1 v x τ1 s1 R1 d1 q1 => ?_⟩
  match x, d1, q1 with
  | .da (.tuple ds), d1, q1 =>
    obtain ⟨l, vs, g1, g2, g3⟩ := VOk.dv d1
    refine ⟨l, vs, g1, g2.mono R1.base.core, fun p o hp ho hz => ?_⟩
    have st := Step.new (As := As) (o := .frz o (.tup vs.reverse)) hp R1.base.core
    exact k _ _ _ (.da (.tuple ds.reverse)) τ1 (s1.trans st) (R1.go st (R1.base.new hp (by show vs.reverse.length ≤ sizeLine; rw [List.length_reverse]; exact hz))) ⟨_, rfl, p, _, rfl, .new ho, g3.reverse.mono st.ex⟩ q1
end
end DL
/-! instances of the one class: fields, methods, made -/
namespace DL
open PySem PySem.Spec PyProof.Rows L2
/-! ### fields -/
theorem DvF.nil {C : Hp} : DvF C [] [] := ⟨rfl, rfl⟩
theorem DvF.cons {C : Hp} {x : Str} {d : PyData} {fs : List (Str × PyData)} {vs : List (Str × V)} (h : DvF C ((x, d) :: fs) vs) : ∃ v ws, vs = (x, v) :: ws ∧ Dv C d v ∧ DvF C fs ws := by
  obtain ⟨h1, h2⟩ := h
  match vs, h1, h2 with
  | [], h1, _ => cases h1
  | (y, v) :: ws, h1, ⟨v', ws', e, dv, da⟩ =>
    simp only [List.map_cons, List.cons.injEq] at h1 e
    obtain ⟨e1, e2⟩ := e
    subst e1 e2
    exact ⟨v, ws, by rw [h1.1], dv, h1.2, da⟩
theorem DvF.mk {C : Hp} {x : Str} {d : PyData} {fs : List (Str × PyData)} {v : V} {ws : List (Str × V)} (h : Dv C d v) (t : DvF C fs ws) : DvF C ((x, d) :: fs) ((x, v) :: ws) := ⟨by simp [t.1], v, _, rfl, h, t.2⟩
theorem DvF.get {C : Hp} {f : Str} {d : PyData} : ∀ {fs : List (Str × PyData)} {vs : List (Str × V)}, DvF C fs vs → fs.lookup f = some d → ∃ v, vs.lookup f = some v ∧ Dv C d v
  | [], _, _, e => by cases e
  | (x, d0) :: fs, vs, h, e => by
    obtain ⟨v, ws, rfl, dv, t⟩ := h.cons
    rw [List.lookup_cons] at e ⊢
    cases q : f == x with
    | true => rw [q] at e; cases e; exact ⟨v, rfl, dv⟩
    | false => rw [q] at e; exact DvF.get t e
theorem DvF.not {C : Hp} {f : Str} : ∀ {fs : List (Str × PyData)} {vs : List (Str × V)}, DvF C fs vs → fs.lookup f = none → vs.lookup f = none
  | [], vs, h, _ => by
    have := h.1
    cases vs with
    | nil => rfl
    | cons _ _ => cases this
  | (x, d0) :: fs, vs, h, e => by
    obtain ⟨v, ws, rfl, dv, t⟩ := h.cons
    rw [List.lookup_cons] at e ⊢
    cases q : f == x with
    | true => rw [q] at e; cases e
    | false => rw [q] at e; exact DvF.not t e
def putD (f : Str) (d : PyData) : List (Str × PyData) → List (Str × PyData)
  | [] => [(f, d)]
  | (g, x) :: r => if g = f then (g, d) :: r else (g, x) :: putD f d r
theorem DvF.put {C : Hp} {f : Str} {d : PyData} {v : V} (dv : Dv C d v) : ∀ {fs : List (Str × PyData)} {vs : List (Str × V)}, DvF C fs vs → DvF C (putD f d fs) (putF f v vs)
  | [], vs, h => by
    have := h.1
    cases vs with
    | nil => exact .mk dv .nil
    | cons _ _ => cases this
  | (x, d0) :: fs, vs, h => by
    obtain ⟨u, ws, rfl, du, t⟩ := h.cons
    unfold putD putF
    by_cases q : x = f
    · rw [if_pos q, if_pos q]; exact .mk dv t
    · rw [if_neg q, if_neg q]; exact .mk du (DvF.put dv t)
theorem DvF.length {C : Hp} {fs : List (Str × PyData)} {vs : List (Str × V)} (h : DvF C fs vs) : vs.length = fs.length := by
  have := congrArg List.length h.1
  simpa using this

/-! ### the heap -/
theorem RsOk.neI {mg : Str → Option Value} {C H : Hp} {p D : Addr} {r : RS} {CB dx : Addr} {vs : List (Str × V)} {o : HO} (h : RsOk mg C H p r) (n : p ≠ D) (hD : H D = some (.ins CB dx vs)) : RsOk mg C (upd H D o) p r := by
  have k : ∀ a u, H a = some u → (∀ c d f, u ≠ .ins c d f) → upd H D o a = some u := fun a u h1 h2 => by
    by_cases q : a = D
    · rw [q, hD] at h1; cases h1; exact absurd rfl (h2 CB dx vs)
    · rw [upd_ne q]; exact h1
  cases r with
  | gone => trivial
  | dice => obtain ⟨a, b, h1⟩ := h; exact ⟨a, b, by rw [upd_ne n]; exact h1⟩
  | lst ds => obtain ⟨vs, h1, h2⟩ := h; exact ⟨vs, by rw [upd_ne n]; exact h1, h2⟩
  | tab q =>
    obtain ⟨ps, h1, h2, h3⟩ := h
    refine ⟨ps, k _ _ h1 (fun _ _ _ z => nomatch z), h2, fun pos cv hc => ?_⟩
    obtain ⟨c, e1, e2⟩ := h3 pos cv hc
    exact ⟨c, e1, k _ _ e2 (fun _ _ _ z => by unfold LamX.CodeO at z; cases z)⟩
  | bri fs => obtain ⟨CB, dx, vs, g, h1, h2⟩ := h; exact ⟨CB, dx, vs, g, by rw [upd_ne n]; exact h1, h2⟩
theorem Base.setI {mg : Str → Option Value} {As : List Addr} {C H : Hp} {τ : Rs} {p : Addr} {k : Nat} {CB dx : Addr} {vs : List (Str × V)} {o : HO} {r : RS} (b : Base mg As C τ H) (hp : As[k]? = some p) (hD : H p = some (.ins CB dx vs)) (hr : RsOk mg C (upd H p o) p r) : Base mg As C (τ.set k r) (upd H p o) := by
  have mp : p ∈ As := List.mem_of_getElem? hp
  have kl : k < τ.length := by rw [← b.len]; exact (List.getElem?_eq_some_iff.mp hp).1
  refine ⟨fun a u h => by rw [upd_ne (ne_of_none h (b.off p mp).1)]; exact b.core _ _ h, b.nd, by rw [List.length_set]; exact b.len, fun q hq => ⟨(b.off q hq).1, upd_there hD q (b.off q hq).2⟩, fun j q s h1 h2 => ?_, b.sz⟩
  by_cases e : k = j
  · subst e
    rw [hp] at h1
    cases h1
    rw [List.getElem?_set_self kl] at h2
    cases h2
    exact hr
  · rw [List.getElem?_set_ne e] at h2
    refine (b.rs j q s h1 h2).neI (fun z => ?_) hD
    subst z
    obtain ⟨l1, e1⟩ := List.getElem?_eq_some_iff.mp hp
    obtain ⟨l2, e2⟩ := List.getElem?_eq_some_iff.mp h1
    exact e ((List.getElem_inj b.nd).mp (e1.trans e2.symm))
section
variable {X : Cx} {G : Gx} {e a b c o : Expr} {es : List Expr} {f fa fb fc fo : TD} {pos p apos pos' : Pos} {n : Nat} {g : TDA}
theorem kept_there {H : Hp} {q : Addr} {o : HO} (hq : H q = none) : ∀ a, H a ≠ none → upd H q o a ≠ none := fun a h => by
  rw [upd_ne (fun z => h (by rw [z]; exact hq))]; exact h
/-- an object comes up that nobody looks at -/
theorem step_junk {As : List Addr} {C H : Hp} {q : Addr} {o : HO} (hq : H q = none) : Step As C H C (upd H q o) := ⟨Same.refl _, fun a u h _ => by rw [upd_ne (ne_of_none h hq)]; exact h, kept_there hq, fun _ _ n => n⟩
theorem Rel.junk {C H : Hp} {As : List Addr} {ρ : Ds} {τ : Rs} {σ : L2.St} {q : Addr} {o : HO} (R : Rel G C As ρ τ σ H) (hq : H q = none) : Rel G C As ρ τ σ (upd H q o) := by
  have kp : ∀ a u, H a = some u → upd H q o a = some u := fun a u h => by rw [upd_ne (ne_of_none h hq)]; exact h
  exact R.go (step_junk hq) (R.base.keep (Same.refl _) (fun a u h => kp a u (R.base.core _ _ h)) kp (fun _ _ n => n) R.base.sz)
theorem Rel.pushO {C H : Hp} {As : List Addr} {ρ : Ds} {τ : Rs} {σ : L2.St} {q : Addr} {o : HO} {r : RS} (R : Rel G C As ρ τ σ H) (hq : H q = none) (ok : RsOk G.mg C (upd H q o) q r) :
    Rel G C (As ++ [q]) ρ (τ ++ [r]) σ (upd H q o) := by
  have nA : q ∉ As := fun z => (R.base.off q z).2 hq
  have cq : C q = none := by
    cases z : C q with
    | none => rfl
    | some o => rw [R.base.core _ _ z] at hq; cases hq
  have kp : ∀ a u, H a = some u → upd H q o a = some u := fun a u h => by rw [upd_ne (ne_of_none h hq)]; exact h
  have h0 : G.H0 q = none := by
    cases z : G.H0 q with
    | none => rfl
    | some o => exact absurd hq (R.step.there q (by rw [z]; exact fun w => nomatch w))
  have th := kept_there (o := o) hq
  refine ⟨⟨fun a u h => kp a u (R.base.core _ _ h), ?_, by simp [R.base.len], fun r hr => ?_, fun k r s h1 h2 => ?_, R.base.sz⟩, ⟨R.step.ex, fun a u h n => kp a u (R.step.keep a u h n), fun a h => th a (R.step.there a h), R.step.out⟩,
    R.pre.trans (List.prefix_append _ _), fun r hr => ?_, R.len, fun i r hi => ?_⟩
  · rw [List.nodup_append]
    exact ⟨R.base.nd, by simp, fun x hx y hy z => by simp at hy; subst hy; subst z; exact nA hx⟩
  · rcases List.mem_append.mp hr with hr | hr
    · exact ⟨(R.base.off r hr).1, th r (R.base.off r hr).2⟩
    · simp at hr; subst hr; exact ⟨cq, by rw [upd_same]; exact fun w => nomatch w⟩
  · by_cases hk : k < As.length
    · rw [List.getElem?_append_left hk] at h1
      rw [List.getElem?_append_left (by rw [← R.base.len]; exact hk)] at h2
      exact (R.base.rs k r s h1 h2).keep (Same.refl _) kp
    · rw [List.getElem?_append_right (by omega)] at h1
      rw [List.getElem?_append_right (by rw [← R.base.len]; omega)] at h2
      have e0 : k - As.length = 0 := by
        have := (List.getElem?_eq_some_iff.mp h1).1
        simp at this; omega
      rw [e0] at h1
      rw [← R.base.len, e0] at h2
      cases h1; cases h2
      exact ok
  · rcases List.mem_append.mp hr with hr | hr
    · exact R.new r hr
    · simp at hr; subst hr; exact .inr h0
  · have := R.sl i r hi
    cases r with
    | un => trivial
    | da d => exact this
    | res k =>
      obtain ⟨s, e1, e2⟩ := this
      exact ⟨s, by rw [List.getElem?_append_left (List.getElem?_eq_some_iff.mp e1).1]; exact e1, e2⟩

/-! ### o.f -/
def flds : List Str := [Str.ofString "brook", Str.ofString "some", Str.ofString "earlier", Str.ofString "undone"]
structure BrT (K : PySem.W.Frag) (mg : Str → Option Value) : Prop where
  ex : ∃ CB : Addr, mg "Bridge" = some (.ref CB) ∧ Cls K CB ∧ ∀ f ∈ flds, NoAttr K CB f
def dFld (f : Str) (fa : TD) : TD := fun ρ τ Q er => fa ρ τ (fun x τ1 => match x with
  | .res k => match τ1[k]? with
    | some (.bri fs) => match fs.lookup f with
      | some d => Q (.da d) τ1
      | none => False
    | _ => False
  | _ => False) er
/-- the instance of a resource -/
theorem ins_of {C H : Hp} {As : List Addr} {ρ : Ds} {τ : Rs} {σ : L2.St} {v : V} {k : Nat} {fs : List (Str × PyData)} {CB : Addr} {mg : Str → Option Value} (b : Base mg As C τ H) (d : VOk C As v (.res k)) (q : τ[k]? = some (.bri fs)) (hB : mg "Bridge" = some (.ref CB)) :
    ∃ p dx vs, As[k]? = some p ∧ v = .ref p ∧ H p = some (.ins CB dx vs) ∧ DvF C fs vs := by
  obtain ⟨p, e1, e2⟩ := d
  cases e2
  obtain ⟨CB', dx, vs, g, h1, h2⟩ := b.rs k p _ e1 q
  rw [hB] at g
  cases g
  exact ⟨p, dx, vs, e1, rfl, h1, h2⟩
theorem d_fld {f : Str} (T : BrT X.K X.mg) (hG : G.mg = X.mg) (he : PE X e (tD G fa)) (hf : f ∈ flds := by decide) (hb : attributeBase e f X.env (eval e X.env) = eval e X.env := by rfl) : PE X (.Attribute e f pos) (tD G (dFld f fa)) := pe_weak (pe_fld he hb) fun σ H Q h => by
  obtain ⟨CB, hB, cl, na⟩ := T.ex
  obtain ⟨C, As, ρ, τ, Qd, R, h1, k⟩ := h
  refine ⟨C, As, ρ, τ, _, R, h1, fun C1 H1 v x τ1 s1 R1 d1 q1 => ?_⟩
  match x, d1, q1 with
  | .res j, d1, q1 =>
    cases z : τ1[j]? with
    | none => simp only [z] at q1
    | some s =>
      simp only [z] at q1
      match s, z, q1 with
      | .bri fs, z, q1 =>
        cases z2 : fs.lookup f with
        | none => simp only [z2] at q1
        | some d =>
          simp only [z2] at q1
          obtain ⟨p, dx, vs, e1, e2, e3, e4⟩ := ins_of (ρ := ρ) (σ := σ) R1.base d1 z (by rw [hG]; exact hB)
          obtain ⟨u, g1, g2⟩ := e4.get z2
          exact ⟨p, CB, dx, vs, u, e2, e3, cl, na f hf, g1, k C1 H1 u (.da d) τ1 s1 R1 ⟨u, rfl, g2⟩ q1⟩
/-! ### o.f = e -/
def dFldS (f : Str) (fo fv : TD) : TDS := fun ρ τ De => fv ρ τ (fun y τ1 => fo ρ τ1 (fun x τ2 => match x, y with
  | .res k, .da d => match τ2[k]? with
    | some (.bri fs) => fs.length < 100 ∧ De.nx ρ (τ2.set k (.bri (putD f d fs)))
    | _ => False
  | _, _ => False) De.er) De.er
theorem s_fld {f : Str} {fv : TD} {value : Expr} (T : BrT X.K X.mg) (hG : G.mg = X.mg) (ho : PE X o (tD G fo)) (hv : PE X value (tD G fv)) (hf : f ∈ flds := by decide) (hs : swapsWith value (some (.Attribute o f pos')) pos.line X.env = pure false := by rfl) : PS X (.Assign [.Attribute o f pos'] value pos) (sD G (dFldS f fo fv)) := ps_weak (ps_fld ho hv hs) fun D σ H h => by
  obtain ⟨CB, hB, cl, na⟩ := T.ex
  obtain ⟨C, As, ρ, τ, De, R, h1, her, kn, kr⟩ := h
  unfold dFldS at h1
  rw [her] at h1
  refine ⟨C, As, ρ, τ, _, R, h1, fun C1 H1 v y τ1 s1 R1 d1 q1 => ⟨C1, As, ρ, τ1, _, R1, q1, fun C2 H2 w x τ2 s2 R2 d2 q2 => ?_⟩⟩
  match x, y, d1, d2, q2 with
  | .res j, .da d, d1, d2, q2 =>
    cases z : τ2[j]? with
    | none => simp only [z] at q2
    | some s =>
      simp only [z] at q2
      match s, z, q2 with
      | .bri fs, z, ⟨hl, q2⟩ =>
        obtain ⟨p, dx, vs, e1, e2, e3, e4⟩ := ins_of (ρ := ρ) (σ := σ) R2.base d2 z (by rw [hG]; exact hB)
        refine ⟨p, CB, dx, vs, e2, e3, cl, na f hf, by rw [e4.length]; omega, ?_⟩
        have st := Step.upd (As := As) (C := C2) (o := .ins CB dx (putF f v vs)) e3 (List.mem_of_getElem? e1)
        have dv := (VOk.dv d1).mono s2.ex
        exact kn C2 As ρ _ σ _ (s1.ex.trans s2.ex) (R2.go st (R2.base.setI (r := .bri (putD f d fs)) e1 e3 ⟨CB, dx, _, by rw [hG]; exact hB, upd_same, e4.put dv⟩)) q2
/-! ### o.m(..) -/
def dMeth (m : Str) (r : Rf) (fo : TD) (g : TDA) : TD := fun ρ τ Q er => fo ρ τ (fun x τ1 => match x with
  | .res k => match τ1[k]? with
    | some (.bri fs) => fs.lookup m = none ∧ g ρ τ1 (fun xs τ2 => callR1 r τ2 (.res k :: xs) (fun d τ3 => Q (.da d) τ3) er) er
    | _ => False
  | _ => False) er
def dMethN (m : Str) (r : Rf) (fo : TD) (g : TDA) : TD := fun ρ τ Q er => fo ρ τ (fun x τ1 => match x with
  | .res k => match τ1[k]? with
    | some (.bri fs) => fs.lookup m = none ∧ g ρ τ1 (fun xs τ2 => callR1 r τ2 (.res k :: xs) (fun d τ3 => Q (.da d) τ3) (fun _ _ => False)) er
    | _ => False
  | _ => False) er
structure Dmt (P : Program) (w : World) (K : PySem.W.Frag) (mg : Str → Option Value) (base : Heap) (m : Str) (k : Nat) (ps : List Str) (F : Fn) : Prop where
  ex : ∃ (CB f : Addr) (fd : FuncData), mg "Bridge" = some (.ref CB) ∧ Cls K CB ∧ Meth K CB m f ∧ Binds K fd ps [] ∧ FnOk P w K mg base (L2N.CX P w) k f fd ps (spA mg F)
variable {r : Rf} {k : Nat} {ps : List Str} {m x : Str}
theorem w_meth {CB : Addr} {σ : L2.St} {H : Hp} {Q : VK} (hB : G.mg "Bridge" = some (.ref CB)) (h : tD G (dMeth m r fo g) σ H Q) : tMeth CB m (spA G.mg (toFnR r)) [] G.E (tD G fo) (tDA G n g) σ H Q := by
  obtain ⟨C, As, ρ, τ, Qd, R, hf, k⟩ := h
  refine ⟨C, As, ρ, τ, _, R, hf, fun C1 H1 v x τ1 s1 R1 d1 q1 => ?_⟩
  match x, d1, q1 with
  | .res j, d1, q1 =>
    cases z : τ1[j]? with
    | none => simp only [z] at q1
    | some s =>
      simp only [z] at q1
      match s, z, q1 with
      | .bri fs, z, ⟨hl, q1⟩ =>
        obtain ⟨p, dx, vs, e1, e2, e3, e4⟩ := ins_of (ρ := ρ) (σ := σ) R1.base d1 z hB
        refine ⟨p, dx, vs, e2, e3, e4.not hl, C1, As, ρ, τ1, _, R1, q1, fun C2 H2 ws as τ2 s2 R2 d2 e2' q2 => ?_⟩
        show spA G.mg (toFnR r) (v :: (ws ++ [])) H2 Q G.E
        rw [List.append_nil]
        exact w_callRx R2 (.cons (SlOk.mono s2.ex d1) d2) q2 (fun C3 H3 v d τ3 st R3 dv q3 => k C3 H3 v (.da d) τ3 ((s1.trans s2).trans st) R3 ⟨v, rfl, dv⟩ q3) fun m Cn C3 H3 τ3 hm R3 q3 => G.eok m Cn C3 H3 _ hm R3.step R3.take q3
theorem w_methN {CB : Addr} {σ : L2.St} {H : Hp} {Q : VK} (hB : G.mg "Bridge" = some (.ref CB)) (h : tD G (dMethN m r fo g) σ H Q) : tMeth CB m (spA G.mg (toFnR r)) [] E0 (tD G fo) (tDA G n g) σ H Q := by
  obtain ⟨C, As, ρ, τ, Qd, R, hf, k⟩ := h
  refine ⟨C, As, ρ, τ, _, R, hf, fun C1 H1 v x τ1 s1 R1 d1 q1 => ?_⟩
  match x, d1, q1 with
  | .res j, d1, q1 =>
    cases z : τ1[j]? with
    | none => simp only [z] at q1
    | some s =>
      simp only [z] at q1
      match s, z, q1 with
      | .bri fs, z, ⟨hl, q1⟩ =>
        obtain ⟨p, dx, vs, e1, e2, e3, e4⟩ := ins_of (ρ := ρ) (σ := σ) R1.base d1 z hB
        refine ⟨p, dx, vs, e2, e3, e4.not hl, C1, As, ρ, τ1, _, R1, q1, fun C2 H2 ws as τ2 s2 R2 d2 e2' q2 => ?_⟩
        show spA G.mg (toFnR r) (v :: (ws ++ [])) H2 Q E0
        rw [List.append_nil]
        exact w_callRx (er := fun _ _ => False) R2 (.cons (SlOk.mono s2.ex d1) d2) q2 (fun C3 H3 v d τ3 st R3 dv q3 => k C3 H3 v (.da d) τ3 ((s1.trans s2).trans st) R3 ⟨v, rfl, dv⟩ q3) fun m Cn C3 H3 τ3 hm R3 q3 => q3
theorem d_meth {pl : Sem Bool} (D : Dmt X.prog X.w X.K X.mg X.base m k ps (toFnR r)) (hr : Room k X.A) (hG : G.mg = X.mg) (hx : Passes (L2N.CX X.prog X.w) X G.E) (ho : PE X o (tD G fo)) (ha : PA X (e :: es) (tDA G n g))
    (hst : starEach (e :: es) X.env = (false, eval e X.env) :: starEach es X.env := by rfl) (hpl : (backTo pos (starEach es X.env)).any (·.1) = false := by rfl)
    (ht : eval (.Call (.Attribute o m apos) (e :: es) [] pos) X.env = (do
      let ov ← eval o X.env
      standAt apos.atName
      let (f, first) ← holding [ov] (getMethod ov m pl)
      callWith pos f first (backTo pos (starEach (e :: es) X.env)) (backToKw pos (keywordEach [] X.env))) := by rfl) :
    PE X (.Call (.Attribute o m apos) (e :: es) [] pos) (tD G (dMeth m r fo g)) := by
  obtain ⟨CB, f, fd, hB, cl, hm, hb, FF⟩ := D.ex
  exact pe_weak (pe_meth (pl := pl) ho cl hm FF hr hb .nil hx ha hst hpl ht) fun _ _ _ h => by rw [← hG]; exact w_meth (by rw [hG]; exact hB) h
theorem d_methN {pl : Sem Bool} (D : Dmt X.prog X.w X.K X.mg X.base m k ps (toFnR r)) (hr : Room k X.A) (hG : G.mg = X.mg) (ho : PE X o (tD G fo)) (ha : PA X (e :: es) (tDA G n g))
    (hst : starEach (e :: es) X.env = (false, eval e X.env) :: starEach es X.env := by rfl) (hpl : (backTo pos (starEach es X.env)).any (·.1) = false := by rfl)
    (ht : eval (.Call (.Attribute o m apos) (e :: es) [] pos) X.env = (do
      let ov ← eval o X.env
      standAt apos.atName
      let (f, first) ← holding [ov] (getMethod ov m pl)
      callWith pos f first (backTo pos (starEach (e :: es) X.env)) (backToKw pos (keywordEach [] X.env))) := by rfl) :
    PE X (.Call (.Attribute o m apos) (e :: es) [] pos) (tD G (dMethN m r fo g)) := by
  obtain ⟨CB, f, fd, hB, cl, hm, hb, FF⟩ := D.ex
  exact pe_weak (pe_meth (pl := pl) ho cl hm FF hr hb .nil passN ha hst hpl ht) fun _ _ _ h => by rw [← hG]; exact w_methN (by rw [hG]; exact hB) h
theorem nil_tDA {σ : L2.St} {H : Hp} {Q : List V → Hp → Prop} (h : tDA G 0 dNil σ H Q) : L2.tNil σ H Q := by
  obtain ⟨C, As, ρ, τ, Qd, R, hf, k⟩ := h
  exact k C H [] [] τ (Step.refl _ _ _) R .nil rfl hf
theorem d_meth0 {pl : Sem Bool} (D : Dmt X.prog X.w X.K X.mg X.base m k ps (toFnR r)) (hr : Room k X.A) (hG : G.mg = X.mg) (hx : Passes (L2N.CX X.prog X.w) X G.E) (ho : PE X o (tD G fo))
    (ht : eval (.Call (.Attribute o m apos) [] [] pos) X.env = (do
      let ov ← eval o X.env
      standAt apos.atName
      let (f, first) ← holding [ov] (getMethod ov m pl)
      callWith pos f first (backTo pos (starEach [] X.env)) (backToKw pos (keywordEach [] X.env))) := by rfl) :
    PE X (.Call (.Attribute o m apos) [] [] pos) (tD G (dMeth m r fo dNil)) := by
  obtain ⟨CB, f, fd, hB, cl, hm, hb, FF⟩ := D.ex
  refine pe_weak (pe_meth0 (pl := pl) ho cl hm FF hr hb .nil hx ht) fun σ H Q h => ?_
  have h := w_meth (n := 0) (CB := CB) (by rw [hG]; exact hB) h
  rw [hG] at h
  obtain ⟨C, As, ρ, τ, Qd, R, hf, k⟩ := h
  exact ⟨C, As, ρ, τ, Qd, R, hf, fun C1 H1 v x τ1 s1 R1 d1 q1 => by
    obtain ⟨a, dx, fs, e1, e2, e3, q2⟩ := k C1 H1 v x τ1 s1 R1 d1 q1
    exact ⟨a, dx, fs, e1, e2, e3, nil_tDA q2⟩⟩
theorem d_methN0 {pl : Sem Bool} (D : Dmt X.prog X.w X.K X.mg X.base m k ps (toFnR r)) (hr : Room k X.A) (hG : G.mg = X.mg) (ho : PE X o (tD G fo))
    (ht : eval (.Call (.Attribute o m apos) [] [] pos) X.env = (do
      let ov ← eval o X.env
      standAt apos.atName
      let (f, first) ← holding [ov] (getMethod ov m pl)
      callWith pos f first (backTo pos (starEach [] X.env)) (backToKw pos (keywordEach [] X.env))) := by rfl) :
    PE X (.Call (.Attribute o m apos) [] [] pos) (tD G (dMethN m r fo dNil)) := by
  obtain ⟨CB, f, fd, hB, cl, hm, hb, FF⟩ := D.ex
  refine pe_weak (pe_meth0 (pl := pl) ho cl hm FF hr hb .nil passN ht) fun σ H Q h => ?_
  have h := w_methN (n := 0) (CB := CB) (by rw [hG]; exact hB) h
  rw [hG] at h
  obtain ⟨C, As, ρ, τ, Qd, R, hf, k⟩ := h
  exact ⟨C, As, ρ, τ, Qd, R, hf, fun C1 H1 v x τ1 s1 R1 d1 q1 => by
    obtain ⟨a, dx, fs, e1, e2, e3, q2⟩ := k C1 H1 v x τ1 s1 R1 d1 q1
    exact ⟨a, dx, fs, e1, e2, e3, nil_tDA q2⟩⟩
/-! ### x = Bridge(..) -/
structure Dmk (P : Program) (w : World) (K : PySem.W.Frag) (mg : Str → Option Value) (base : Heap) (k : Nat) (ps : List Str) (F : Fn) : Prop where
  ex : ∃ (CB f : Addr) (fd : FuncData), mg "Bridge" = some (.ref CB) ∧ Mk K CB f ∧ Binds K fd ps [] ∧ FnOk P w K mg base (L2N.CX P w) k f fd ps (spA mg F)
def dMakeS (i : Nat) (r : Rf) (g : TDA) : TDS := fun ρ τ De => g ρ τ (fun xs τ1 => callR1 r (τ1 ++ [.bri []]) (.res τ1.length :: xs) (fun d τ2 => d = .none ∧ De.nx (ρ.set i (.res τ1.length)) τ2) (fun _ _ => False)) De.er
theorem argOk_push {C : Hp} {As : List Addr} {q : Addr} : ∀ {vs : List V} {as : List Sl}, ArgOk C As vs as → ArgOk C (As ++ [q]) vs as
  | _, _, .nil => .nil
  | _, _, .cons h t => .cons (res_push h) (argOk_push t)
/-- the call of __init__ at the new instance -/
theorem w_make {CB : Addr} {C H : Hp} {As : List Addr} {ρ : Ds} {τ : Rs} {σ : L2.St} {vs : List V} {as : List Sl} {x dx : Addr} {Qx : VK} {Qd : Rs → Prop} (R : Rel G C As ρ τ σ H) (d : ArgOk C As vs as) (hB : G.mg "Bridge" = some (.ref CB)) (hx : H x = none) (hd : H dx = none) (hne : dx ≠ x)
    (q : callR1 r (τ ++ [.bri []]) (.res τ.length :: as) (fun d τ2 => d = .none ∧ Qd τ2) (fun _ _ => False))
    (k : ∀ C2 H2 τ2, Same C C2 → Rel G C2 (As ++ [x]) ρ τ2 σ H2 → Qd τ2 → Qx (.ref x) H2) :
    spA G.mg (toFnR r) (.ref x :: vs) (upd (upd H dx (.own x)) x (.ins CB dx [])) (fun v H2 => v = .non ∧ Qx (.ref x) H2) E0 := by
  have R2 := R.junk (o := .own x) hd
  have R3 := R2.pushO (q := x) (o := .ins CB dx []) (r := .bri []) (by rw [upd_ne hne.symm]; exact hx) ⟨CB, dx, [], hB, upd_same, .nil⟩
  have hk : (As ++ [x])[τ.length]? = some x := by rw [← R.base.len]; simp
  refine w_callRx (er := fun _ _ => False) (Qd := fun y τ2 => y = .da .none ∧ Qd τ2) (ρ := ρ) (σ := σ) R3 (.cons (r := .res τ.length) ⟨x, hk, rfl⟩ (argOk_push d)) ?_ (fun C3 H3 v d τ3 st R4 dv q3 => ?_) fun m Cn C3 H3 τ3 hm R4 q3 => q3
  · have e : (fun (d : PyData) (τ2 : Rs) => (Sl.da d = .da .none ∧ Qd τ2)) = fun d τ2 => d = .none ∧ Qd τ2 := by
      funext d τ2
      rw [Sl.da.injEq]
    rw [e]
    exact q
  · obtain ⟨e, q3⟩ := q3
    cases e
    exact ⟨dv, k C3 H3 τ3 st.ex R4 q3⟩
theorem s_make {i : Nat} {xn : Str} {p2 : Pos} (D : Dmk X.prog X.w X.K X.mg X.base k ps (toFnR r)) (hr : Room (k + 1) X.A) (hG : G.mg = X.mg) (hg : Gl X "Bridge") (hN : X.N.Nodup) (hi : X.N[i]? = some xn) (hx : Loc X.env.scope xn) (ha : PA X (e :: es) (tDA G n g))
    (he : starEach (e :: es) X.env = (false, eval e X.env) :: starEach es X.env := by rfl) (hpl : (backTo p2 (starEach es X.env)).any (·.1) = false := by rfl)
    (hs : swapsWith (.Call (.Name "Bridge" p) (e :: es) [] p2) (some (.Name xn pos')) pos.line X.env = pure false := by rfl) (hf : X.fn xn = true ∨ X.env.scope.names.lookup xn = some .local := by first | exact .inl rfl | exact .inr rfl | assumption) :
    PS X (.Assign [.Name xn pos'] (.Call (.Name "Bridge" p) (e :: es) [] p2) pos) (sD G (dMakeS i r g)) := by
  obtain ⟨CB, f, fd, hB, M, hb, FF⟩ := D.ex
  refine ps_weak (ps_set hN hi hx (pe_make M FF hr hg hB hb .nil passN ha (by decide) he hpl) hs hf) fun Dn σ H h => ?_
  obtain ⟨C, As, ρ, τ, De, R, h1, her, kn, kr⟩ := h
  unfold dMakeS at h1
  rw [her] at h1
  refine ⟨C, As, ρ, τ, _, R, h1, fun C1 H1 vs as τ1 s1 R1 d1 e1 q1 y dx hy hd hne => ?_⟩
  rw [List.append_nil, ← hG]
  refine w_make (Qx := fun x H1 => L2.gName i x σ H1 Dn.nx) R1 d1 (by rw [hG]; exact hB) hy hd hne q1 fun C2 H2 τ2 s2 R2 q2 => ?_
  refine kn C2 (As ++ [y]) _ _ _ _ (s1.ex.trans s2) (R2.set (i := i) (r := .res τ1.length) ⟨y, ?_, rfl⟩) q2
  rw [← R1.base.len]; simp
end
section
variable {P : Program} {w : World} {K : PySem.W.Frag} {mg : Str → Option Value} {base : Heap}
/-- a def of any qualified name -/
theorem fnQ_ok {q x : Str} {st : Stmt} {f : Addr} {fd : FuncData} {N ps : List Str} {k n0 : Nat} {F : Fn} {body : TDS} (Fu : Fun K x q st f fd) (S : FnScope N ps (defScope st)) (hN : ps.length ≤ N.length)
    (len : ∀ as τ Qa Er, F as τ Qa Er → as.length = ps.length) (hn0 : ∀ as τ Qa Er, F as τ Qa Er → τ.length = n0)
    (der : ∀ (cdv : Value) (A : Around) (outer : List Env) (s : Shared) (H : Hp) (E : XK) (G : Gx), G.mg = mg → G.E = E → G.As0.length = n0 → Room k (A.deeper (envOfC q (defScope st) s.heap.objs.size f cdv)) →
      PSs (cxOf (L2N.CX P w) P w K mg base N q (defScope st) f cdv A outer s H E) (defBody st) (sD G body))
    (wp : ∀ as τ Qa Er, F as τ Qa Er → body (startD N as) τ { nx := fun _ τ' => Qa .none (τ'.take τ.length), rt := fun d τ' => Qa d (τ'.take τ.length), er := fun n τ' => Er n (τ'.take τ.length) }) : FnOk P w K mg base (L2N.CX P w) (k + 1) f fd ps (spA mg F) := by
  obtain ⟨oc, od, kV, doc, pm, an, cdv, ct, osl, rfl, lk, hcd⟩ := Fu.ex
  refine fn_of lk hcd S (fun vs H Q E h => ?_) (fun A outer s H vs Q E hr h => ?_)
  · obtain ⟨C, As, as, τ, Qa, Er, b, ha, hF, kq, ke⟩ := h
    rw [ha.length]
    exact len _ _ _ _ hF
  · obtain ⟨C, As, as, τ, Qa, Er, b, ha, hF, kq, ke⟩ := h
    let G : Gx := ⟨mg, C, H, As, E, Er, fun n Cn C' H' τ' h1 h2 h3 h4 => ke n Cn C' H' τ' h1 h2 h3 h4⟩
    refine ⟨_, der cdv A outer s H E G rfl rfl (by show As.length = n0; rw [b.len]; exact hn0 _ _ _ _ hF) hr, ?_⟩
    have hl : as.length = ps.length := len _ _ _ _ hF
    have hs : (startD N as).length = N.length := by simp [startD]; omega
    refine ⟨C, As, startD N as, τ, _, ⟨b, Step.refl _ _ _, List.prefix_refl _, fun p hp => .inl hp, ?_, fun i r hi => ?_⟩, wp as τ Qa Er hF, ?_, ?_, ?_⟩
    · rw [hs]; simp [L2.start]; have := ha.length; omega
    · unfold startD at hi
      by_cases h1 : i < as.length
      · rw [List.getElem?_append_left h1] at hi
        obtain ⟨v, e1, e2⟩ := argOk_at ha hi
        unfold L2.start
        rw [List.getElem?_append_left (by rw [List.length_map, ha.length]; exact h1), List.getElem?_map, e1]
        exact e2
      · rw [List.getElem?_append_right (by omega)] at hi
        have := List.getElem?_replicate (n := N.length - as.length) (a := Sl.un) (i := i - as.length)
        rw [this] at hi
        split at hi
        · cases hi; trivial
        · cases hi
    · funext n τ'
      show Er n (τ'.take τ.length) = Er n (τ'.take As.length)
      rw [b.len]
    · intro C' As' ρ' τ' σ' H' e' R' q'
      have e2 : τ.length = G.As0.length := b.len.symm
      have q2 : Qa .none (τ'.take G.As0.length) := by rw [← e2]; exact q'
      exact kq C' H' .non .none _ R'.step R'.take rfl q2
    · intro C' H' v d τ' s' b' d' q'
      have e2 : τ.length = G.As0.length := b.len.symm
      have q2 : Qa d (τ'.take G.As0.length) := by rw [← e2]; exact q'
      exact kq C' H' v d _ s' b' d' q2
theorem fnM_ok {q x : Str} {st : Stmt} {f : Addr} {fd : FuncData} {N ps : List Str} {k : Nat} {r : Rf} {body : TDS} (Fu : Fun K x q st f fd) (S : FnScope N ps (defScope st)) (hN : ps.length ≤ N.length)
    (len : ∀ s ds Qa Er, r s ds Qa Er → ds.length + 1 = ps.length)
    (der : ∀ (cdv : Value) (A : Around) (outer : List Env) (s : Shared) (H : Hp) (E : XK) (G : Gx), G.mg = mg → G.E = E → G.As0.length = 1 → Room k (A.deeper (envOfC q (defScope st) s.heap.objs.size f cdv)) →
      PSs (cxOf (L2N.CX P w) P w K mg base N q (defScope st) f cdv A outer s H E) (defBody st) (sD G body))
    (wp : ∀ s ds (Qa : PyData → Rs → Prop) (Er : Str → Rs → Prop), r s ds (fun d s' => Qa d [s']) (fun n s' => Er n [s']) → body (startD N (.res 0 :: ds.map Sl.da)) [s] { nx := fun _ τ' => Qa .none (τ'.take 1), rt := fun d τ' => Qa d (τ'.take 1), er := fun n τ' => Er n (τ'.take 1) }) : FnOk P w K mg base (L2N.CX P w) (k + 1) f fd ps (spA mg (toFnR r)) := by
  refine fnQ_ok (n0 := 1) Fu S hN (fun as τ Qa Er h => ?_) (fun as τ Qa Er h => ?_) der (fun as τ Qa Er h => ?_)
  · obtain ⟨s, ds, _, rfl, h⟩ := h
    rw [List.length_cons, List.length_map]
    exact len _ _ _ _ h
  · obtain ⟨s, ds, rfl, _⟩ := h; rfl
  · obtain ⟨s, ds, rfl, rfl, h⟩ := h
    exact wp s ds Qa Er h
end
end DL
/-! len(o), Bridge(..) that raises, tuple(range(a, b, c)), t * 1 -/
namespace DL
open PySem PySem.Spec PyProof.Rows L2
section
variable {X : Cx} {G : Gx} {e a b c o : Expr} {es : List Expr} {f fa fb fc fo : TD} {pos p apos pos' : Pos} {n : Nat} {g : TDA} {r : Rf} {k : Nat} {ps : List Str}
/-! ### len(o), o of a class with __len__ -/
theorem call_lenI {CB fn : Addr} {fd : FuncData} {sp : Sp} (me : Meth X.K CB "__len__" fn) (F : FnOk X.prog X.w X.K X.mg X.base (L2N.CX X.prog X.w) k fn fd ps sp) (hr : Room (k + 1) X.A) (hb : Binds X.K fd ps []) :
    CallR X (.builtin "len") (fun xs H Q => ∃ p dx fs, xs = [V.ref p] ∧ H p = some (.ins CB dx fs) ∧ sp [.ref p] H (fun v H' => ∃ n : Int, v = .int n ∧ (0 ≤ n ∧ n < 1000000) ∧ Q (.int n) H') E0) := by
  intro pins s σ H xs us Q I r h
  obtain ⟨p, dx, fs, rfl, hp, hsp⟩ := h
  obtain ⟨u, rfl, ru⟩ := vals1 r
  obtain rfl : u = Value.ref p := ru
  obtain ⟨mA, O, _, _, _, _⟩ := ins_get I.hok hp
  obtain ⟨od, J, _⟩ := O.look
  refine Calls.call_function_entry kind_len plain_len entry_len (args_len1 _) ?_
  unfold Builtin.«len»
  refine wpAny_bind (m := oneArg "len" _) (wpAny_pure ?_)
  refine wpAny_bind (m := callSpecial? (.ref p) (Str.ofString "__len__")) (PySem.W.special_fn I.kIn J me.at_ (beq_iff_eq.mp me.fn) ?_)
  have hl : ([Value.ref p] ++ ([] : List Value)).length = ps.length := by have := F.len _ _ _ _ hsp; simpa using this
  refine wpAny_call (codeAny_mono (F.run X.A.in1 X.stack s H ⟨[.ref p], []⟩ [.ref p] [.ref p] _ E0 hr.in1 I.env0.in1 (hb s [.ref p] I.kIn hl) (.cons rfl .nil) hsp) fun r s' hq => ?_)
  cases r with
  | error e =>
    obtain ⟨_, _, _, _, _, _, _, _, _, _, _, _, z⟩ := hq
    exact z.elim
  | ok fl =>
    cases fl with
    | ret u =>
      obtain ⟨v, H', I', rv, m, rfl, ⟨h0, h1⟩, q⟩ := I.after hq
      obtain ⟨t, rfl⟩ := rv
      refine wpAny_bind (wpAny_holding (wpAny_pure ?_))
      refine wpAny_bind (wpAny_letGo ?_)
      show wpAny _ _ (if m < 0 then _ else _) _ _ _
      rw [if_neg (by omega)]
      show wpAny _ _ (if m ≥ 2 ^ 63 then _ else _) _ _ _
      rw [if_neg (by omega)]
      exact wpAny_bind (wpAny_mkInt (wpAny_pure ⟨_, rfl, .int m, H', I'.tok _, ⟨_, rfl⟩, q⟩))
    | next => exact False.elim hq
    | brk => exact False.elim hq
    | cont => exact False.elim hq
def dLenB (r : Rf) (fo : TD) : TD := fun ρ τ Q er => fo ρ τ (fun x τ1 => match x with
  | .res k => match τ1[k]? with
    | some (.bri _) => callR1 r τ1 [.res k] (fun d τ2 => match d with
      | .int n => (0 ≤ n ∧ n < 1000000) ∧ Q (.da (.int n)) τ2
      | _ => False) (fun _ _ => False)
    | _ => False
  | _ => False) er
theorem d_lenB (D : Dmt X.prog X.w X.K X.mg X.base "__len__" k ps (toFnR r)) (hr : Room (k + 1) X.A) (hG : G.mg = X.mg) (ho : PE X o (tD G fo)) (hm : X.mg "len" = none) (hg : Gl X "len" := by rfl) (he : starEach [o] X.env = (false, eval o X.env) :: starEach [] X.env := by rfl) (hpl : (backTo pos (starEach [] X.env)).any (·.1) = false := by rfl) :
    PE X (.Call (.Name "len" p) [o] [] pos) (tD G (dLenB r fo)) := by
  obtain ⟨CB, f, fd, hB, cl, me, hb, FF⟩ := D.ex
  refine pe_weak (pe_callB (call_lenI me FF hr hb) hg hm PySem.boot_len (pa_cons ho pa_nil he) (by decide) (by decide) he hpl) fun σ H Q h => ?_
  obtain ⟨C, As, ρ, τ, Qd, R, hf, kq⟩ := h
  refine ⟨C, As, ρ, τ, _, R, hf, fun C1 H1 v x τ1 s1 R1 d1 q1 => ?_⟩
  match x, d1, q1 with
  | .res j, d1, q1 =>
    cases z : τ1[j]? with
    | none => simp only [z] at q1
    | some s =>
      simp only [z] at q1
      match s, z, q1 with
      | .bri fs, z, q1 =>
        obtain ⟨p, dx, vs, e1, e2, e3, e4⟩ := ins_of (ρ := ρ) (σ := σ) R1.base d1 z (by rw [hG]; exact hB)
        subst e2
        refine ⟨p, dx, vs, rfl, e3, ?_⟩
        rw [← hG]
        refine w_callRx (er := fun _ _ => False) (Qd := fun y τ2 => ∃ n : Int, y = .da (.int n) ∧ (0 ≤ n ∧ n < 1000000) ∧ Qd (.da (.int n)) τ2) R1 (.cons d1 .nil) ?_ (fun C3 H3 v d τ3 st R3 dv q3 => ?_) fun m Cn C3 H3 τ3 hm R3 q3 => q3
        · have e : (fun (d : PyData) (τ2 : Rs) => (∃ n : Int, Sl.da d = .da (.int n) ∧ (0 ≤ n ∧ n < 1000000) ∧ Qd (.da (.int n)) τ2)) = fun d τ2 => match d with
              | .int n => (0 ≤ n ∧ n < 1000000) ∧ Qd (.da (.int n)) τ2
              | _ => False := by
            funext d τ2
            apply propext
            constructor
            · rintro ⟨n, e, h⟩
              cases e
              exact h
            · intro h
              match d, h with
              | .int n, h => exact ⟨n, rfl, h⟩
          rw [e]
          exact q1
        · obtain ⟨n, e, hn, q3⟩ := q3
          cases e
          have ev : v = .int n := dv
          subst ev
          exact ⟨n, rfl, hn, kq C3 H3 _ (.da (.int n)) τ3 (s1.trans st) R3 ⟨_, rfl, rfl⟩ q3⟩
/-! ### Bridge(..) that raises -/
def dMakeX (r : Rf) (g : TDA) : TD := fun ρ τ _ er => g ρ τ (fun xs τ1 => callR1 r (τ1 ++ [.bri []]) (.res τ1.length :: xs) (fun _ _ => False) er) er
theorem d_makeX (D : Dmk X.prog X.w X.K X.mg X.base k ps (toFnR r)) (hr : Room (k + 1) X.A) (hG : G.mg = X.mg) (hx : Passes (L2N.CX X.prog X.w) X G.E) (hg : Gl X "Bridge") (ha : PA X (e :: es) (tDA G n g))
    (he : starEach (e :: es) X.env = (false, eval e X.env) :: starEach es X.env := by rfl) (hpl : (backTo pos (starEach es X.env)).any (·.1) = false := by rfl) :
    PE X (.Call (.Name "Bridge" p) (e :: es) [] pos) (tD G (dMakeX r g)) := by
  obtain ⟨CB, f, fd, hB, M, hb, FF⟩ := D.ex
  refine pe_weak (pe_make M FF hr hg hB hb .nil hx ha (by decide) he hpl) fun σ H Q h => ?_
  obtain ⟨C, As, ρ, τ, Qd, R, h1, kq⟩ := h
  refine ⟨C, As, ρ, τ, _, R, h1, fun C1 H1 vs as τ1 s1 R1 d1 e1 q1 y dx hy hd hne => ?_⟩
  rw [List.append_nil, ← hG]
  have R2 := R1.junk (o := .own y) hd
  have R3 := R2.pushO (q := y) (o := .ins CB dx []) (r := .bri []) (by rw [upd_ne hne.symm]; exact hy) ⟨CB, dx, [], by rw [hG]; exact hB, upd_same, .nil⟩
  have hk : (As ++ [y])[τ1.length]? = some y := by rw [← R1.base.len]; simp
  refine w_callRx (er := G.err) (Qd := fun _ _ => False) (ρ := ρ) (σ := σ) R3 (.cons (r := .res τ1.length) ⟨y, hk, rfl⟩ (argOk_push d1)) q1 (fun C3 H3 v d τ3 st R4 dv q3 => q3.elim) fun m Cn C3 H3 τ3 hm R4 q3 => G.eok m Cn C3 H3 _ hm R4.step R4.take q3
/-! ### tuple(range(a, b, c)) -/
def rngV (i c : Int) (n : Nat) : List V := (List.range n).map fun k : Nat => V.int (i + (k : Int) * c)
def rngD (i c : Int) (n : Nat) : List PyData := (List.range n).map fun k : Nat => PyData.int (i + (k : Int) * c)
structure RgK (i j c : Int) (n : Nat) (Q : PyData → Prop) : Prop where
  ok : RgC i j c n
  sz : n ≤ 1000
  q : Q (.tuple (rngD i c n))
structure RgE (i j c : Int) (Q : PyData → Prop) : Prop where
  ex : ∃ n, RgK i j c n Q
def triP (xs : List Sl) (P : Int → Int → Int → Prop) : Prop := match xs with
  | [.da (.int i), .da (.int j), .da (.int c)] => P i j c
  | _ => False
theorem tri {xs : List Sl} {P : Int → Int → Int → Prop} (h : triP xs P) : ∃ i j c, xs = [.da (.int i), .da (.int j), .da (.int c)] ∧ P i j c := by
  unfold triP at h
  split at h
  · exact ⟨_, _, _, rfl, h⟩
  · exact h.elim
theorem arg3 {C : Hp} {As : List Addr} {vs : List V} {x y z : Sl} (h : ArgOk C As vs [x, y, z]) : ∃ a b c, vs = [a, b, c] ∧ VOk C As a x ∧ VOk C As b y ∧ VOk C As c z := by
  cases h with
  | cons h1 t => cases t with
    | cons h2 t => cases t with
      | cons h3 t => cases t; exact ⟨_, _, _, rfl, h1, h2, h3⟩
def dTupR (g : TDA) : TD := fun ρ τ Q er => g ρ τ (fun xs τ1 => triP xs fun i j c => RgE i j c (fun d => Q (.da d) τ1)) er
theorem d_tupR {p2 q2 : Pos} (ha : PA X [a, b, c] (tDA G n g)) (hm : X.mg "tuple" = none) (hm2 : X.mg "range" = none) (hc : X.calm = true := by rfl) (hg : Gl X "tuple" := by rfl) (hg2 : Gl X "range" := by rfl)
    (hs : starEach [a, b, c] X.env = (false, eval a X.env) :: starEach [b, c] X.env := by rfl) (hpl : (backTo q2 (starEach [b, c] X.env)).any (·.1) = false := by rfl)
    (nb : starEach [.Call (.Name "range" p2) [a, b, c] [] q2] X.env = (false, eval (.Call (.Name "range" p2) [a, b, c] [] q2) X.env) :: starEach [] X.env := by rfl) :
    PE X (.Call (.Name "tuple" p) [.Call (.Name "range" p2) [a, b, c] [] q2] [] pos) (tD G (dTupR g)) := by
  refine ⟨fun pins s σ H Q I h => ?_⟩
  obtain ⟨C, As, ρ, τ, Qd, R, hf, kq⟩ := h
  have h2 : tDA G n g σ H (fun vs H1 => ∃ (i j c : Int) (m : Nat), vs = [.int i, .int j, .int c] ∧ (RgC i j c m ∧ m ≤ 1000) ∧ ∀ q o, H1 q = none → o.dict = none → Q (.ref q) (L2.upd H1 q (.frz o (.tup (rngV i c m))))) := by
    refine ⟨C, As, ρ, τ, _, R, hf, fun C1 H1 vs as τ1 s1 R1 d1 e1 q1 => ?_⟩
    obtain ⟨i, j, c, rfl, q1⟩ := tri q1
    · obtain ⟨v1, v2, v3, rfl, r1, r2, r3⟩ := arg3 d1
      obtain ⟨m, hm, hz, q1⟩ := q1.ex
      have e1 := pe_intV r1
      have e2 := pe_intV r2
      have e3 := pe_intV r3
      subst e1 e2 e3
      refine ⟨i, j, c, m, rfl, ⟨hm, hz⟩, fun q o hq ho => ?_⟩
      have ez : (rngV i c m).length ≤ sizeLine := by unfold rngV; rw [List.length_map, List.length_range]; exact sz1000 hz
      have st := Step.new (As := As) (o := .frz o (.tup (rngV i c m))) hq R1.base.core
      exact kq _ _ _ (.da (.tuple (rngD i c m))) τ1 (s1.trans st) (R1.go st (R1.base.new hq ez)) ⟨_, rfl, q, _, rfl, .new ho, DvA.maps (fun k : Nat => PyData.int (i + (k : Int) * c)) (fun k : Nat => V.int (i + (k : Int) * c)) (fun _ => rfl) _⟩ q1
  refine Call_ (ld_blt I hg hm boot_tuple (PyProof.Rows.callWith_type1 (args_cons ?_ nb) nb))
  refine Call_ (ld_blt I hg2 hm2 boot_range (PyProof.Rows.callWith_type1 (thn (ha.run q2 pins s σ H _ I h2) fun us s1 ⟨vs, H1, I1, r1, q1⟩ => ?_) hs hpl))
  obtain ⟨i, j, k, m, e, ⟨⟨c0, c1, c2, c3⟩, hz⟩, q⟩ := q1
  subst e
  cases r1 with
  | cons r rr =>
    cases rr with
    | cons r' rr =>
      cases rr with
      | cons r'' rr =>
        cases rr
        obtain ⟨t, rfl⟩ := r
        obtain ⟨t', rfl⟩ := r'
        obtain ⟨t'', rfl⟩ := r''
        refine call_range_3 c0 ?_ (.inl (PyProof.noPylong_small c1))
        refine args_nil ?_
        have I2 : Inv X pins σ H1 { s1 with heap := s1.heap.push { cls := .type "range", data := .fields #[.int i t, .int j t', .int k t''] } } := I1.kept (t' := s1.toks) fun b o e => Heap.get?_push_of_some _ e
        refine call_tuple_range (n := m) (I2.ok.hd hc) (IsRange.new ..) c2 c3 (by omega) fun h' tk acc hk hi => ?_
        have I3 : Inv X pins σ H1 { s1 with heap := h', toks := tk } := I2.kept hk
        have hl : acc.toList.length = m := by rw [Array.length_toList]; exact hi.1
        have rv : Vals (rngV i k m) acc.toList := by
          unfold rngV
          rw [← hl]
          refine vals_of_get acc.toList _ fun j u hj => ?_
          obtain ⟨t, rfl⟩ := hi.2 j u (by rw [← hj, Array.getElem?_toList])
          exact ⟨t, rfl⟩
        have ez : (rngV i k m).length ≤ sizeLine := by rw [rv.length, hl]; exact sz1000 hz
        have J := I3.laid (t' := tk) (o := .frz { cls := .type "tuple", data := .seq acc } (.tup (rngV i k m))) (h' := h'.push { cls := .type "tuple", data := .seq acc }) (fun _ _ e => Heap.get?_push_of_some _ e) (Nat.le_refl _) ⟨Heap.get?_push_size _ rfl, ez, acc.toList, rv, ⟨_, Heap.get?_push_size _ rfl, rfl, _, by rw [Array.toArray_toList]⟩⟩
        exact ⟨.ref h'.objs.size, _, J, rfl, q _ _ (I3.hok.fresh (Nat.le_refl _)) rfl⟩
end
/-! ### t * k, k ≥ 1 -/
theorem tuple_mul1 (l : Addr) (items : Array Value) (n : Nat) (dd : Option Addr) (sl : Array (Option Value)) (u : Tok) :
    Meets (Builtin.«tuple.__mul__» ⟨[.ref l, .int 1 u], []⟩) (fun _ R s => s.heap.get? l = some { cls := .type "tuple", dict := dd, data := .seq items n, slots := sl } ∧ R (.ok (.ret (Value.ref l))) s) :=
  .of_wp fun prog w A R s h => by
    obtain ⟨hp, g, d, tk, os⟩ := s
    obtain ⟨hl, h⟩ := h
    have f1 := AutoSeq1.idx_int
    have c1 : (items.isEmpty || (1 : Int) == 1) = true := by simp
    wp_walk using wpAny_loadPart' hl
    repeat (first
      | (refine wpAny_ite_true (decide_eq_true c1) ?_; wp_walk using wpAny_loadPart' hl))
    exact ⟨_, rfl, h⟩
def rRep1 (K : PySem.W.Frag) : R2 := fun x y H Q => ∃ l xs, x = .ref l ∧ y = .int 1 ∧ SqT K H l xs ∧ Q (.ref l) H
theorem op_rep1 {X : Cx} : OpR X (binaryOp .Mult) (rRep1 X.K) := by
  intro pins s σ H x y v u Q I rx ry h
  obtain ⟨l, xs, rfl, rfl, hT, q⟩ := h
  cases rx
  obtain ⟨t, rfl⟩ := ry
  obtain ⟨its, r, ⟨⟨cls, dd, dat, sl⟩, ho, hc, n, hd⟩, hs⟩ := I.tuple hT
  simp only at hc hd
  subst hc hd
  exact wpAny_binaryOp_repeat_ref (T := "tuple") (U := "int") (by decide) ⟨_, ho, rfl⟩ (fun s' => typeIs_int s' 1 t) noFill_tuple_mul F.fills_int_mul F.slot_int_rmul repeat_tuple F.slot_int_index.lookup
    (call_meets F.slot_int_rmul (typeIs_int s 1 t) F.entry_int_rmul (F.args_int_rmul_2 _ _) (int_rmul_tuple 1 t l its.toArray n dd sl)
      ⟨ho, rfl, ⟨_, ho, rfl⟩, call_meets F.slot_tuple_mul ⟨_, ho, rfl⟩ F.entry_tuple_mul (F.args_tuple_mul_2 _ _) (tuple_mul1 l its.toArray n dd sl t) ⟨ho, .ref l, H, I, rfl, q⟩⟩)
section
variable {X : Cx} {G : Gx} {a b : Expr} {fa fb : TD} {pos : Pos}
def oRep1 : Op2 := fun x y _ Q => match x, y with
  | .da (.tuple ds), .da (.int k) => (ds ≠ [] ∧ 1 ≤ k ∧ k ≤ 1000 ∧ ds.length ≤ 1000) ∧ Q (.tuple (List.replicate k.toNat ds).flatten)
  | _, _ => False
theorem ok_rep1 {K : PySem.W.Frag} : OkR (fun x y H Q => rRep1 K x y H Q ∨ rRepF K x y H Q) oRep1 := fun {mg As C H τ x y vx vy Q Qd} b hx hy o k => by
  match x, y, hx, hy, o with
  | .da (.tuple ds), .da (.int j), hx, hy, ⟨⟨h1, h2, h3, h4⟩, q⟩ =>
    by_cases e : j = 1
    · subst e
      obtain ⟨p, vs, rfl, hp, dv⟩ := VOk.dv hx
      have ey : vy = .int 1 := VOk.dv hy
      subst ey
      have ee : (List.replicate (1 : Int).toNat ds).flatten = ds := by simp
      rw [ee] at q
      exact .inl ⟨p, vs, rfl, rfl, (hp.mono b.core).sq, k C H _ (.tuple ds) (Step.refl _ _ _) b ⟨p, vs, rfl, hp, dv⟩ q⟩
    · exact .inr (ok_rep (K := K) b hx hy ⟨⟨h1, by omega, h3, h4⟩, q⟩ k)
theorem d_rep1 (ha : PE X a (tD G fa)) (hb : PE X b (tD G fb)) : PE X (.BinOp a .Mult b pos) (tD G (dBin oRep1 fa fb)) :=
  d_bin (r := fun x y H Q => rRep1 X.K x y H Q ∨ rRepF X.K x y H Q) (fun pins s σ H x y v u Q I rx ry h => h.elim (op_rep1 pins s σ H x y v u Q I rx ry) (op_repF pins s σ H x y v u Q I rx ry)) ok_rep1 ha hb
end
end DL
/-! a comprehension over a list that is a resource: it stands as it is all the time -/
namespace DL
open PySem PySem.Spec PyProof.Rows L2
section
variable {X : Cx} {G : Gx} {e a b c o : Expr} {es : List Expr} {f fa fb fc fo : TD} {pos p apos pos' : Pos} {n : Nat} {g : TDA}
def compDR (k : Nat) (ds0 : List PyData) (t : Tg) (ft : TDT) (fe : TD) (ρ : Ds) (Q : Sl → Rs → Prop) (er : Str → Rs → Prop) : List PyData → Rs → List PyData → Prop
  | [], τ, acc => τ[k]? = some (.lst ds0) ∧ Q (.da (.list acc)) τ
  | d :: ds, τ, acc => τ[k]? = some (.lst ds0) ∧ t d ρ fun ρ1 => ft ρ1 τ (fun b τ1 => if b = true then fe ρ1 τ1 (fun z τ2 => match z with
      | .da z => compDR k ds0 t ft fe ρ Q er ds τ2 (acc ++ [z])
      | _ => False) er else compDR k ds0 t ft fe ρ Q er ds τ1 acc) er
theorem compDR_at {k : Nat} {ds0 : List PyData} {t : Tg} {ft : TDT} {fe : TD} {ρ : Ds} {Q : Sl → Rs → Prop} {er : Str → Rs → Prop} {ds : List PyData} {τ : Rs} {acc : List PyData} (h : compDR k ds0 t ft fe ρ Q er ds τ acc) : τ[k]? = some (.lst ds0) := by
  cases ds with
  | nil => exact h.1
  | cons d ds => exact h.1
def dCompR (vs : List Nat) (f : TD) (t : Tg) (ft : TDT) (fe : TD) : TD := fun ρ τ Q er => f ρ τ (fun r τ1 => match r with
  | .res k => match τ1[k]? with
    | some (.lst ds) => ds.length ≤ 1000000 ∧ compDR k ds t ft fe (wipeD ρ vs) Q er ds τ1 []
    | _ => False
  | _ => False) er
theorem w_lcR {K : PySem.W.Frag} {vs : List Nat} {t : Tg} {ft : TDT} {fe : TD} {σ : L2.St} {H : Hp} {Q : VK} (h : tD G (dCompR vs f t ft fe) σ H Q) : tLc (iList K (tD G f)) (gD G vs t) (tDT G ft) (tD G fe) vs σ H Q := by
  obtain ⟨C, As, ρ, τ, Qd, R, hf, k⟩ := h
  refine ⟨C, As, ρ, τ, _, R, hf, fun C1 H1 v r τ1 s1 R1 d1 q1 => ?_⟩
  match r, d1, q1 with
  | .res j, d1, q1 =>
    cases z : τ1[j]? with
    | none => simp only [z] at q1
    | some sx =>
      simp only [z] at q1
      match sx, z, q1 with
      | .lst ds, z, ⟨hz, q1⟩ =>
        obtain ⟨p, e1, e2⟩ := d1
        cases e2
        obtain ⟨vs1, g1, g2⟩ := R1.base.rs j p _ e1 z
        refine ⟨p, rfl, ⟨vs1, SqL.of g1⟩, fun D hD => ?_⟩
        have stD : ∀ C' H' o, Step As C1 H1 C' H' → H' D ≠ none → Step As C1 H1 C' (upd H' D o) := fun C' H' o st hd => ⟨st.ex, fun a u h n => by rw [upd_ne (ne_of_none h hD)]; exact st.keep a u h n, fun a h => by
          by_cases q : a = D
          · rw [q, hD] at h; exact absurd rfl h
          · rw [upd_ne q]; exact st.there a h, st.out⟩
        have st0 : ∀ o, Step As C1 H1 C1 (upd H1 D o) := fun o => ⟨Same.refl _, fun a u h _ => by rw [upd_ne (ne_of_none h hD)]; exact h, fun a h => by
          by_cases q : a = D
          · rw [q, hD] at h; exact absurd rfl h
          · rw [upd_ne q]; exact h, fun _ _ n => n⟩
        have cD : C1 D = none := by
          cases q : C1 D with
          | none => rfl
          | some u => rw [R1.base.core _ _ q] at hD; cases hD
        have nD : D ∉ As := fun z => (R1.base.off D z).2 hD
        refine ⟨fun i m H' => m = ds.length - i ∧ i ≤ ds.length ∧ ∃ C' τ' acc vs', Step As C1 H1 C' H' ∧ C' D = none ∧ Base G.mg As C' τ' H' ∧ H' D = some (.lst vs') ∧ DvA C' acc vs' ∧ acc.length ≤ i ∧ compDR j ds t ft fe (wipeD ρ vs) Qd G.err (ds.drop i) τ' acc,
          ⟨_, rfl, Nat.zero_le _, C1, τ1, [], [], st0 _, cD, ?_, upd_same, rfl, Nat.le_refl _, q1⟩, ?_⟩
        · exact R1.base.keep (Same.refl _) (fun a u h => by rw [upd_ne (ne_of_none (R1.base.core _ _ h) hD)]; exact R1.base.core _ _ h) (fun a u h => by rw [upd_ne (ne_of_none h hD)]; exact h) (fun _ _ n => n) R1.base.sz
        rintro i m H' ⟨rfl, hi, C', τ', acc, vs', st', cD', B', hD', dv', hl', q'⟩
        have R' := R1.go st' B'
        obtain ⟨vs2, g3, g4⟩ := B'.rs j p _ e1 (compDR_at q')
        by_cases hlt : i < ds.length
        · obtain ⟨d, hd⟩ : ∃ d, ds[i]? = some d := ⟨ds[i], by simp [hlt]⟩
          have ed : ds.drop i = d :: ds.drop (i + 1) := by
            rw [List.drop_eq_getElem_cons hlt]
            congr 1
            have := List.getElem?_eq_getElem hlt
            rw [this] at hd
            exact Option.some.inj hd
          rw [ed] at q'
          obtain ⟨x0, hx0, dx0⟩ := g4.at hd
          refine .inr ⟨⟨vs2, x0, SqL.of g3, hx0⟩, fun H2 => ∃ C' τ' acc vs', Step As C1 H1 C' H2 ∧ C' D = none ∧ Base G.mg As C' τ' H2 ∧ H2 D = some (.lst vs') ∧ DvA C' acc vs' ∧ acc.length ≤ i + 1 ∧ compDR j ds t ft fe (wipeD ρ vs) Qd G.err (ds.drop (i + 1)) τ' acc,
            fun H2 z => ⟨ds.length - (i + 1), by omega, rfl, hlt, z⟩, fun x H2 hy => ?_⟩
          obtain ⟨hy1, hy2⟩ := hy
          have hy3 := hy2 vs2 (SqL.of g3)
          rw [hx0] at hy3
          cases hy3
          subst hy1
          refine ⟨C', As, wipeD ρ vs, τ', d, _, R'.wipe vs, dx0, q'.2, fun ρ3 σ3 R3 z3 q3 => ⟨wipe_eq (by rw [z3.1, wipe_length]) z3.2, ?_⟩⟩
          refine ⟨C', As, ρ3, τ', _, R3, q3, fun C4 H4 b τ4 s4 R4 q4 => ?_⟩
          have hD4 : H4 D = some (.lst vs') := s4.keep _ _ hD' nD
          have cD4 : C4 D = none := s4.out D (by rw [hD']; exact fun z => nomatch z) cD'
          cases b with
          | true =>
            refine iteT ⟨C4, As, ρ3, τ4, _, R4, q4, fun C5 H5 v z τ5 s5 R5 d5 q5 => ?_⟩
            match z, d5, q5 with
            | .da z, d5, q5 =>
              have hD5 : H5 D = some (.lst vs') := s5.keep _ _ hD4 nD
              have cD5 : C5 D = none := s5.out D (by rw [hD4]; exact fun z => nomatch z) cD4
              have dv5 : DvA C5 acc vs' := (dv'.mono s4.ex).mono s5.ex
              refine ⟨vs', hD5, by rw [dv5.length]; rw [sizeLine_eq]; omega, ?_⟩
              exact ⟨C5, τ5, acc ++ [z], vs' ++ [v], stD _ _ _ ((st'.trans s4).trans s5) (by rw [hD5]; exact fun z => nomatch z), cD5, R5.base.other hD5 nD cD5, upd_same, dv5.append (DvA.one (VOk.dv d5)), by simp; omega, q5⟩
          | false =>
            exact iteF ⟨C4, τ4, acc, vs', (st'.trans s4), cD4, R4.base, hD4, dv'.mono s4.ex, by omega, q4⟩
        · have hl : i = ds.length := by omega
          subst hl
          rw [List.drop_length] at q'
          refine .inl ⟨⟨vs2, SqL.of g3, by rw [g4.length]; exact Nat.le_refl _⟩, ?_⟩
          have sz : SzO (.lst vs') := by
            show vs'.length ≤ sizeLine
            rw [dv'.length, sizeLine_eq]; omega
          have eC : Same C' (L2.upd C' D (.lst vs')) := fun a u h => by rw [upd_ne (ne_of_none h cD')]; exact h
          have stf : Step As C1 H1 (L2.upd C' D (.lst vs')) H' := ⟨st'.ex.trans eC, st'.keep, st'.there, fun a h n => by
            have nn : a ≠ D := fun z => h (by rw [z]; exact hD)
            rw [upd_ne nn]
            exact st'.out a h n⟩
          have bf : Base G.mg As (L2.upd C' D (.lst vs')) τ' H' := ⟨fun a u h => by
              by_cases z : a = D
              · rw [z, upd_same] at h; rw [z, hD']; exact h
              · rw [upd_ne z] at h; exact B'.core _ _ h, B'.nd, B'.len, fun p hp => ⟨by rw [upd_ne (fun z => nD (by rw [← z]; exact hp))]; exact (B'.off p hp).1, (B'.off p hp).2⟩, fun j p r h1 h2 => (B'.rs j p r h1 h2).keep eC (fun _ _ h => h), fun a u h => by
              by_cases z : a = D
              · rw [z, upd_same] at h; cases h; exact sz
              · rw [upd_ne z] at h; exact B'.sz _ _ h⟩
          exact k _ _ _ (.da (.list acc)) τ' (s1.trans stf) (R1.go stf bf) ⟨_, rfl, D, vs', rfl, upd_same, dv'.mono eC⟩ q'.2
theorem d_compR {own : List (Str × Nat)} {elt tg iter : Expr} {ifs : List Expr} {scope : Scope} {f : TD} {t : Tg} {ft : TDT} {fe : TD} (hc : X.calm = true) (hN : X.N.Nodup) (hi : PE X iter (tD G f)) (ok : BlkOk X.N X.env.scope scope own)
    (hg : ∀ (s : Shared) (H : Hp) (C : Addr) (cl : List (Str × Addr)) (fp : List Addr), PG (X.blk s H scope (compEnvC scope cl C X.env) fp) tg (gD G (own.map (·.2)) t)) (ht : ∀ (s : Shared) (H : Hp) (C : Addr) (cl : List (Str × Addr)) (fp : List Addr), PTs (X.blk s H scope (compEnvC scope cl C X.env) fp) ifs (tDT G ft))
    (he : ∀ (s : Shared) (H : Hp) (C : Addr) (cl : List (Str × Addr)) (fp : List Addr), PE (X.blk s H scope (compEnvC scope cl C X.env) fp) elt (tD G fe)) (hs : ∀ x, foldedSetIterable iter X.env x = pure x := by intro _; rfl) :
    PE X (.ListComp elt [⟨tg, iter, ifs, 0⟩] scope pos) (tD G (dCompR (own.map (·.2)) f t ft fe)) := pe_weak (pe_lc hc hN (pi_list hi) ok hg ht he hs) fun σ H Q h => w_lcR h
theorem s_setLcR {own : List (Str × Nat)} {i : Nat} {y : Str} {py : Pos} {elt tg iter : Expr} {ifs : List Expr} {scope : Scope} {spos : Pos} {f : TD} {t : Tg} {ft : TDT} {fe : TD} (hc : X.calm = true) (hN : X.N.Nodup) (hy : X.N[i]? = some y) (hyl : X.env.scope.names.lookup y = some .local)
    (hsw : swapsWith (.ListComp elt [⟨tg, iter, ifs, 0⟩] scope pos) (some (.Name y py)) spos.line X.env = pure true) (hi : PE X iter (tD G f)) (ok : BlkOk X.N X.env.scope scope own)
    (hg : ∀ (s : Shared) (H : Hp) (C : Addr) (cl : List (Str × Addr)) (fp : List Addr), PG (X.blk s H scope (compEnvC scope cl C X.env) fp) tg (gD G (own.map (·.2)) t)) (ht : ∀ (s : Shared) (H : Hp) (C : Addr) (cl : List (Str × Addr)) (fp : List Addr), PTs (X.blk s H scope (compEnvC scope cl C X.env) fp) ifs (tDT G ft))
    (he : ∀ (s : Shared) (H : Hp) (C : Addr) (cl : List (Str × Addr)) (fp : List Addr), PE (X.blk s H scope (compEnvC scope cl C X.env) fp) elt (tD G fe)) (hs : ∀ x, foldedSetIterable iter X.env x = pure x := by intro _; rfl) :
    PS X (.Assign [.Name y py] (.ListComp elt [⟨tg, iter, ifs, 0⟩] scope pos) spos) (sD G (dSet i (dCompR (own.map (·.2)) f t ft fe))) := ps_weak (ps_setLc hc hN hy hyl hsw (pi_list hi) ok hg ht he hs) fun D σ H h => by
  have h2 := w_set h
  exact w_lcR h2
end
section
variable {X : Cx} {G : Gx} {a b : Expr} {fa fb : TD} {pos : Pos}
/-! x is not True, x a bool -/
def oNotB : Op2 := fun x y _ Q => match x, y with
  | .da (.bool a), .da (.bool b) => Q (.bool (!decide (a = b)))
  | _, _ => False
theorem ok_notB : OkR (fun x y H Q => ∃ a b, x = .bl a ∧ y = .bl b ∧ Q (.bl (!decide (a = b))) H) oNotB := fun {mg As C H τ x y vx vy Q Qd} b hx hy o k => by
  match x, y, hx, hy, o with
  | .da (.bool a), .da (.bool c), hx, hy, q =>
    have e1 : vx = .bl a := VOk.dv hx
    have e2 : vy = .bl c := VOk.dv hy
    exact ⟨a, c, e1, e2, k C H _ (.bool (!decide (a = c))) (Step.refl _ _ _) b rfl q⟩
theorem t_notB (ha : PE X a (tD G fa)) (hb : PE X b (tD G fb)) (hm : behindInMarks .IsNot b = false := by first | exact nomark _ | rfl) : PT X (.Compare a [.IsNot] [b] pos) (tDT G (dB (dBin oNotB fa fb))) := d_tcmp op_isnot_bl ok_notB ha hb hm
theorem d_notB (ha : PE X a (tD G fa)) (hb : PE X b (tD G fb)) (hm : behindInMarks .IsNot b = false := by first | exact nomark _ | rfl) : PE X (.Compare a [.IsNot] [b] pos) (tD G (dBin oNotB fa fb)) := d_cmp op_isnot_bl ok_notB ha hb hm
end
theorem compDR_pure {k : Nat} {ds0 : List PyData} {t : Tg} {ft : TDT} {fe : TD} {ρ : Ds} {Q : Sl → Rs → Prop} {er : Str → Rs → Prop} {τ : Rs} (hk : τ[k]? = some (.lst ds0)) (p : PyData → Bool) (h : PyData → PyData) : ∀ (ds acc : List PyData),
    (∀ d, d ∈ ds → ∀ (A : PyData → Rs → Prop) (B : Rs → Prop), (if p d = true then A (h d) τ else B τ) → t d ρ fun ρ1 => ft ρ1 τ (fun b τ1 => if b = true then fe ρ1 τ1 (fun z τ2 => match z with
      | .da z => A z τ2
      | _ => False) er else B τ1) er) → Q (.da (.list (acc ++ (ds.filter p).map h))) τ → compDR k ds0 t ft fe ρ Q er ds τ acc
  | [], acc, _, q => ⟨hk, by simpa using q⟩
  | d :: ds, acc, hs, q => by
    refine ⟨hk, hs d List.mem_cons_self (fun z τ2 => compDR k ds0 t ft fe ρ Q er ds τ2 (acc ++ [z])) (fun τ1 => compDR k ds0 t ft fe ρ Q er ds τ1 acc) ?_⟩
    by_cases hp : p d = true
    · rw [if_pos hp]
      refine compDR_pure hk p h ds (acc ++ [h d]) (fun e he => hs e (List.mem_cons_of_mem _ he)) ?_
      rw [List.filter_cons_of_pos hp, List.map_cons] at q
      simpa using q
    · rw [if_neg hp]
      refine compDR_pure hk p h ds acc (fun e he => hs e (List.mem_cons_of_mem _ he)) ?_
      rw [List.filter_cons_of_neg hp] at q
      exact q
theorem compDR_map {k : Nat} {ds0 : List PyData} {t : Tg} {fe : TD} {ρ : Ds} {Q : Sl → Rs → Prop} {er : Str → Rs → Prop} {τ : Rs} (hk : τ[k]? = some (.lst ds0)) (h : PyData → PyData) (ds : List PyData)
    (hs : ∀ d, d ∈ ds → ∀ (A : Sl → Rs → Prop), A (.da (h d)) τ → t d ρ fun ρ1 => fe ρ1 τ A er) (q : Q (.da (.list (ds.map h))) τ) : compDR k ds0 t dYes fe ρ Q er ds τ [] := by
  refine compDR_pure hk (fun _ => true) h ds [] (fun d hd A B hA => ?_) (by rw [List.nil_append, List.filter_eq_self.mpr (fun _ _ => rfl)]; exact q)
  exact hs d hd (fun z τ2 => match z with
    | .da z => A z τ2
    | _ => False) hA
theorem compDR_filter {k : Nat} {ds0 : List PyData} {t : Tg} {ft : TDT} {fe : TD} {ρ : Ds} {Q : Sl → Rs → Prop} {er : Str → Rs → Prop} {τ : Rs} (hk : τ[k]? = some (.lst ds0)) (p : PyData → Bool) (ds : List PyData)
    (hs : ∀ d, d ∈ ds → ∀ (A : Sl → Rs → Prop) (B : Rs → Prop), (if p d = true then A (.da d) τ else B τ) → t d ρ fun ρ1 => ft ρ1 τ (fun b τ1 => if b = true then fe ρ1 τ1 A er else B τ1) er) (q : Q (.da (.list (ds.filter p))) τ) : compDR k ds0 t ft fe ρ Q er ds τ [] := by
  refine compDR_pure hk p (fun d => d) ds [] (fun d hd A B hA => ?_) (by simpa using q)
  exact hs d hd (fun z τ2 => match z with
    | .da z => A z τ2
    | _ => False) B hA
end DL
/-! an instance among the values of an assignment -/
namespace DL
open PySem PySem.Spec PyProof.Rows L2
section
variable {X : Cx} {G : Gx} {e a b c o : Expr} {es : List Expr} {f fa fb fc fo : TD} {pos p apos pos' : Pos} {n : Nat} {g : TDA} {r : Rf} {k : Nat} {ps : List Str}
/-- x, y = Bridge(..), [] -/
def dMakeNew (i j : Nat) (r : Rf) (g : TDA) : TDS := fun ρ τ De => g ρ τ (fun xs τ1 => callR1 r (τ1 ++ [.bri []]) (.res τ1.length :: xs) (fun d τ2 => d = .none ∧ De.nx ((ρ.set i (.res τ1.length)).set j (.res τ2.length)) (τ2 ++ [.lst []])) (fun _ _ => False)) De.er
theorem s_makeNew {i j : Nat} {x y : Str} {px py pt pl p2 : Pos} {kt k2 pt2} (D : Dmk X.prog X.w X.K X.mg X.base k ps (toFnR r)) (hr : Room (k + 1) X.A) (hG : G.mg = X.mg) (hg : Gl X "Bridge") (hc : X.calm = true) (hN : X.N.Nodup) (hi : X.N[i]? = some x) (hj : X.N[j]? = some y) (hij : i ≠ j)
    (hx : Loc X.env.scope x) (hy : Loc X.env.scope y) (ha : PA X (e :: es) (tDA G n g))
    (he : starEach (e :: es) X.env = (false, eval e X.env) :: starEach es X.env := by rfl) (hpl : (backTo p2 (starEach es X.env)).any (·.1) = false := by rfl)
    (hfx : X.fn x = true ∨ X.env.scope.names.lookup x = some .local := by first | exact .inl rfl | exact .inr rfl | assumption) (hfy : X.fn y = true ∨ X.env.scope.names.lookup y = some .local := by first | exact .inl rfl | exact .inr rfl | assumption)
    (hw : swappedStores [.Tuple [.Name x px, .Name y py] kt pt] (.Tuple [.Call (.Name "Bridge" p) (e :: es) [] p2, .List [] pl] k2 pt2) X.env = pure none := by rfl)
    (hs : swapsWithSole [.Tuple [.Name x px, .Name y py] kt pt] (.Tuple [.Call (.Name "Bridge" p) (e :: es) [] p2, .List [] pl] k2 pt2) pos.line X.env = pure false := by rfl)
    (hst : starEach [.Call (.Name "Bridge" p) (e :: es) [] p2, .List [] pl] X.env = (false, eval (.Call (.Name "Bridge" p) (e :: es) [] p2) X.env) :: starEach [.List [] pl] X.env := by rfl) (hst2 : starEach [.List [] pl] X.env = (false, eval (.List [] pl) X.env) :: starEach [] X.env := by rfl)
    (h1 : (assignEach [.Tuple [.Name x px, .Name y py] kt pt] X.env).map (·.2) = [assign (.Tuple [.Name x px, .Name y py] kt pt) X.env] := by rfl)
    (g1 : (assignEach [.Name x px, .Name y py] X.env).map (·.2) = assign (.Name x px) X.env :: (assignEach [.Name y py] X.env).map (·.2) := by rfl) (g2 : (assignEach [.Name y py] X.env).map (·.2) = assign (.Name y py) X.env :: (assignEach [] X.env).map (·.2) := by rfl)
    (g3 : (assignEach [.Name x px, .Name y py] X.env).length = 2 := by rfl) (g4 : (assignEach [.Name x px, .Name y py] X.env).findIdx? (·.1) = none := by rfl) :
    PS X (.Assign [.Tuple [.Name x px, .Name y py] kt pt] (.Tuple [.Call (.Name "Bridge" p) (e :: es) [] p2, .List [] pl] k2 pt2) pos) (sD G (dMakeNew i j r g)) := by
  obtain ⟨CB, fn, fd, hB, M, hb, FF⟩ := D.ex
  refine ps_weak (ps_asg (pe_tup (pa_cons (pe_make M FF hr hg hB hb .nil passN ha (by decide) he hpl) (pa_cons (pe_lst pa_nil) pa_nil hst2) hst)) (pg_tup hc (pgs_cons (pg_name hN hi hx hfx) (pgs_cons (pg_name hN hj hy hfy) pgs_nil g2) g1) g3 g4) hs hw h1) fun Dn σ H h => ?_
  obtain ⟨C, As, ρ, τ, De, R, h1, her, kn, kr⟩ := h
  unfold dMakeNew at h1
  rw [her] at h1
  refine ⟨C, As, ρ, τ, _, R, h1, fun C1 H1 vs as τ1 s1 R1 d1 e1 q1 z dx hz hd hne => ?_⟩
  rw [List.append_nil, ← hG]
  refine w_make (Qx := fun x H1 => tCons (tLst tNil) tNil σ H1 fun xs H2 => (x :: xs).length ≤ sizeLine ∧ ∀ p : Addr, H2 p = none → L2.gTup X.K 2 (L2.gCons (L2.gName i) (L2.gCons (L2.gName j) L2.gNil)) (V.ref p) σ (upd H2 p (HO.tup (x :: xs))) Dn.nx) (Qd := fun τ2 => De.nx ((ρ.set i (.res τ1.length)).set j (.res τ2.length)) (τ2 ++ [.lst []])) R1 d1 (by rw [hG]; exact hB) hz hd hne q1 fun C2 H2 τ2 s2 R2 q2 => ?_
  refine ⟨Nat.zero_le _, fun q hq => ⟨by show 2 ≤ sizeLine; decide, fun t ht => ?_⟩⟩
  have R3 := R2.push (vs := []) (ds := []) hq rfl
  have R4 := R3.junk (o := .tup [.ref z, .ref q]) ht
  refine ⟨t, [.ref z, .ref q], rfl, SqT.of upd_same, rfl, .ref z, [.ref q], rfl, .ref q, [], rfl, rfl, ?_⟩
  have e1 : ((As ++ [z]) ++ [q])[τ1.length]? = some z := by rw [← R1.base.len]; simp
  have e2 : ((As ++ [z]) ++ [q])[τ2.length]? = some q := by rw [← R2.base.len]; simp
  exact kn C2 (As ++ [z] ++ [q]) _ _ _ _ (s1.ex.trans s2) ((R4.set (i := i) (r := .res τ1.length) ⟨z, e1, rfl⟩).set (i := j) (r := .res τ2.length) ⟨q, e2, rfl⟩) q2
end
end DL
/-! defs that are handed all resources of the caller; a table that stands at a known place; two tables -/
namespace DL
open PySem PySem.Spec PyProof.Rows L2 HotX L2H LamX
def spAP (mg : Str → Option Value) (kt : Nat) (tP : Addr) (F : Fn) : Sp := fun vs H Q E => ∃ C As as τ Qa Er, As[kt]? = some tP ∧ Base mg As C τ H ∧ ArgOk C As vs as ∧ F as τ Qa Er ∧
  (∀ C' H' v d τ', Step As C H C' H' → Base mg As C' τ' H' → Dv C' d v → Qa d τ' → Q v H') ∧
  (∀ (n : Str) (Cn : Addr) C' H' τ', mg n = some (.ref Cn) → Step As C H C' H' → Base mg As C' τ' H' → Er n τ' → E (.ref Cn) none H')
structure DfnP (P : Program) (w : World) (K : PySem.W.Frag) (mg : Str → Option Value) (base : Heap) (x : Str) (k : Nat) (ps : List Str) (kt : Nat) (tP : Addr) (F : Fn) : Prop where
  ex : ∃ (f : Addr) (fd : FuncData), mg x = some (.ref f) ∧ PySem.W.keepIn K (.ref f) = true ∧ Binds K fd ps [] ∧ FnOk P w K mg base (L2N.CX P w) k f fd ps (spAP mg kt tP F)
section
variable {X : Cx} {G : Gx} {e a b c o : Expr} {es : List Expr} {pos p : Pos} {n k kt : Nat} {g : TDA} {ps : List Str} {F : Fn} {x : Str} {tP : Addr}
theorem w_callNP {σ : L2.St} {H : Hp} {Q : VK} (hP : G.As0[kt]? = some tP) (h : tD G (dCallN F g) σ H Q) : tCall (spAP G.mg kt tP F) [] E0 (tDA G n g) σ H Q := by
  obtain ⟨C, As, ρ, τ, Qd, R, hf, k⟩ := h
  refine ⟨C, As, ρ, τ, _, R, hf, fun C1 H1 vs as τ1 s1 R1 d1 e1 q1 => ?_⟩
  show spAP G.mg kt tP F (vs ++ []) H1 Q E0
  rw [List.append_nil]
  have hPA : As[kt]? = some tP := by
    obtain ⟨r, e⟩ := R.pre
    rw [← e, List.getElem?_append_left (List.getElem?_eq_some_iff.mp hP).1]
    exact hP
  exact ⟨C1, As, as, τ1, _, _, hPA, R1.base, d1, q1, fun C2 H2 v d τ2 s2 b2 d2 q2 => k C2 H2 v (.da d) τ2 (s1.trans s2) (R1.go s2 b2) ⟨v, rfl, d2⟩ q2, fun m Cn C2 H2 τ2 hm s2 b2 q2 => q2⟩
theorem d_callNP (D : DfnP X.prog X.w X.K X.mg X.base x k ps kt tP F) (hr : Room k X.A) (hG : G.mg = X.mg) (hP : G.As0[kt]? = some tP) (hg : Gl X x)
    (ha : PA X (e :: es) (tDA G n g)) (hdb : (x == ("__debug__" : Str)) = false := by decide) (he : starEach (e :: es) X.env = (false, eval e X.env) :: starEach es X.env := by rfl) (hpl : (backTo pos (starEach es X.env)).any (·.1) = false := by rfl) :
    PE X (.Call (.Name x p) (e :: es) [] pos) (tD G (dCallN F g)) := by
  obtain ⟨f, fd, hm, hk, hb, FF⟩ := D.ex
  exact pe_weak (pe_call FF hr hg hm hk hb .nil passN ha hdb he hpl) fun _ _ _ h => by rw [← hG]; exact w_callNP hP h
end
section
variable {P : Program} {w : World} {K : PySem.W.Frag} {mg : Str → Option Value} {base : Heap}
theorem fnAP_ok {x : Str} {st : Stmt} {f tP : Addr} {N ps : List Str} {k kt : Nat} {F : Fn} {body : TDS} {oc kV doc pm ct cdv : Value} {od an : Option Addr} {osl : Array (Option Value)} (lk : K.lookup f = some ⟨oc, od, .func (PySem.W.fnOf x x (defArgs st) (defBody st) (defScope st) .none kV doc pm an cdv ct), osl⟩) (hcd : PySem.W.codeIn K cdv x = true)
    (S : FnScope N ps (defScope st)) (hN : ps.length ≤ N.length)
    (len : ∀ as τ Qa Er, F as τ Qa Er → as.length = ps.length)
    (der : ∀ (A : Around) (outer : List Env) (s : Shared) (H : Hp) (E : XK) (G : Gx), G.mg = mg → G.E = E → G.As0[kt]? = some tP → Room k (A.deeper (envOfC x (defScope st) s.heap.objs.size f cdv)) →
      PSs (cxOf (L2N.CX P w) P w K mg base N x (defScope st) f cdv A outer s H E) (defBody st) (sD G body))
    (wp : ∀ as τ Qa Er, F as τ Qa Er → body (startD N as) τ { nx := fun _ τ' => Qa .none (τ'.take τ.length), rt := fun d τ' => Qa d (τ'.take τ.length), er := fun n τ' => Er n (τ'.take τ.length) }) : FnOk P w K mg base (L2N.CX P w) (k + 1) f (PySem.W.fnOf x x (defArgs st) (defBody st) (defScope st) .none kV doc pm an cdv ct) ps (spAP mg kt tP F) := by
  refine fn_of lk hcd S (fun vs H Q E h => ?_) (fun A outer s H vs Q E hr h => ?_)
  · obtain ⟨C, As, as, τ, Qa, Er, hP, b, ha, hF, kq, ke⟩ := h
    rw [ha.length]
    exact len _ _ _ _ hF
  · obtain ⟨C, As, as, τ, Qa, Er, hP, b, ha, hF, kq, ke⟩ := h
    let G : Gx := ⟨mg, C, H, As, E, Er, fun n Cn C' H' τ' h1 h2 h3 h4 => ke n Cn C' H' τ' h1 h2 h3 h4⟩
    refine ⟨_, der A outer s H E G rfl rfl hP hr, ?_⟩
    have hl : as.length = ps.length := len _ _ _ _ hF
    have hs : (startD N as).length = N.length := by simp [startD]; omega
    refine ⟨C, As, startD N as, τ, _, ⟨b, Step.refl _ _ _, List.prefix_refl _, fun p hp => .inl hp, ?_, fun i r hi => ?_⟩, wp as τ Qa Er hF, ?_, ?_, ?_⟩
    · rw [hs]; simp [L2.start]; have := ha.length; omega
    · unfold startD at hi
      by_cases h1 : i < as.length
      · rw [List.getElem?_append_left h1] at hi
        obtain ⟨v, e1, e2⟩ := argOk_at ha hi
        unfold L2.start
        rw [List.getElem?_append_left (by rw [List.length_map, ha.length]; exact h1), List.getElem?_map, e1]
        exact e2
      · rw [List.getElem?_append_right (by omega)] at hi
        have := List.getElem?_replicate (n := N.length - as.length) (a := Sl.un) (i := i - as.length)
        rw [this] at hi
        split at hi
        · cases hi; trivial
        · cases hi
    · funext n τ'
      show Er n (τ'.take τ.length) = Er n (τ'.take As.length)
      rw [b.len]
    · intro C' As' ρ' τ' σ' H' e' R' q'
      have e2 : τ.length = G.As0.length := b.len.symm
      have q2 : Qa .none (τ'.take G.As0.length) := by rw [← e2]; exact q'
      exact kq C' H' .non .none _ R'.step R'.take rfl q2
    · intro C' H' v d τ' s' b' d' q'
      have e2 : τ.length = G.As0.length := b.len.symm
      have q2 : Qa d (τ'.take G.As0.length) := by rw [← e2]; exact q'
      exact kq C' H' v d _ s' b' d' q2
end
/-! ### the law's loop with two tables -/
def tAnyT2 (mg : Str → Option Value) (E : XK) (P P2 : Addr) (g : TDS) : TS := fun D σ H => ∃ G : Gx, G.mg = mg ∧ G.E = E ∧ G.As0[1]? = some P ∧ G.As0[2]? = some P2 ∧ sD G g D σ H
theorem pss_anyT2 {X : Cx} {mg : Str → Option Value} {E : XK} {b : List Stmt} {g : TDS} {P P2 : Addr} (h : ∀ G : Gx, G.mg = mg → G.E = E → G.As0[1]? = some P → G.As0[2]? = some P2 → PSs X b (sD G g)) : PSs X b (tAnyT2 mg E P P2 g) := ⟨fun pins s σ H D I ⟨G, h1, h2, h3, h4, h5⟩ => (h G h1 h2 h3 h4).run pins s σ H D I h5⟩
def spLawT2 (K : PySem.W.Frag) (P P2 : Addr) : Sp := fun vs H Q _ => ∃ (a : Addr) (ns : List Int), vs = [.ref a] ∧ SqL K H a (ns.map V.int) ∧ ns.length ≤ 63 ∧ H P = some (.tbl #[]) ∧ H P2 = some (.tbl #[]) ∧ P ≠ P2 ∧ ∀ H', Q (.bl true) H'
theorem round_goT2 {mg : Str → Option Value} {E : XK} {body : TDS} {n i : Nat} {σ : L2.St} {H : Hp} {q P P2 : Addr} {ql q2 : Str} {D : Ends} (hl : σ.length = n) (hi : i < n) (hσ : σ[i]? = some (some (.ref q))) (hq : ∃ c d, H q = some (.lst [.int c, .int d])) (hP : TabS H P ql) (hP2 : TabS H P2 q2) (hne : P ≠ P2)
    (wp : body ((List.replicate n Sl.un).set i (.res 0)) [.dice, .tab ql, .tab q2] { nx := fun ρ τ => ρ.length = n ∧ τ[0]? = some .dice ∧ τ[1]? = some (.tab ql) ∧ τ[2]? = some (.tab q2), rt := fun _ _ => False, er := fun _ _ => False })
    (k : ∀ σ' H', σ'.length = n → (∀ a o, H a = some o → a ≠ q → a ≠ P → a ≠ P2 → H' a = some o) → (∃ c d, H' q = some (.lst [.int c, .int d])) → TabS H' P ql → TabS H' P2 q2 → D.nx σ' H') : tAnyT2 mg E P P2 body D σ H := by
  have hqP : ∀ {P : Addr} {ql : Str}, TabS H P ql → q ≠ P := fun hP z => by
    obtain ⟨c, d, h⟩ := hq
    obtain ⟨ps, h2, _⟩ := hP
    rw [z, h2] at h; cases h
  refine ⟨⟨mg, fun _ => none, H, [q, P, P2], E, fun _ _ => False, fun _ _ _ _ _ _ _ _ z => z.elim⟩, rfl, rfl, rfl, rfl, ?_⟩
  refine ⟨fun _ => none, [q, P, P2], _, [.dice, .tab ql, .tab q2], _, ⟨⟨fun _ _ z => (nomatch z), by simp [hqP hP, hqP hP2, hne], rfl, fun p hp => ⟨rfl, ?_⟩, fun k p r h1 h2 => ?_, fun _ _ z => (nomatch z)⟩, Step.refl _ _ _, List.prefix_refl _, fun p hp => .inl hp, ?_, fun j r hj => ?_⟩, wp, rfl, ?_, ?_⟩
  · simp only [List.mem_cons, List.not_mem_nil, or_false] at hp
    rcases hp with rfl | rfl | rfl
    · obtain ⟨c, d, h⟩ := hq; rw [h]; exact fun z => nomatch z
    · obtain ⟨ps, h, _⟩ := hP; rw [h]; exact fun z => nomatch z
    · obtain ⟨ps, h, _⟩ := hP2; rw [h]; exact fun z => nomatch z
  · match k, h1, h2 with
    | 0, h1, h2 => simp at h1 h2; subst h1 h2; exact hq
    | 1, h1, h2 => simp at h1 h2; subst h1 h2; exact hP
    | 2, h1, h2 => simp at h1 h2; subst h1 h2; exact hP2
    | k + 3, h1, h2 => simp at h1
  · simp [hl]
  · by_cases e : i = j
    · subst e
      rw [List.getElem?_set_self (by simpa using hi)] at hj
      cases hj
      exact ⟨q, rfl, hσ⟩
    · rw [List.getElem?_set_ne e, List.getElem?_replicate] at hj
      split at hj
      · cases hj; trivial
      · cases hj
  · intro C' As' ρ' τ' σ' H' _ R z
    have hs := R.step
    obtain ⟨r, e⟩ := R.pre
    refine k σ' H' ?_ (fun a o h n1 n2 n3 => hs.keep a o h (by simp [n1, n2, n3])) ?_ ?_ ?_
    · rw [← R.len]; exact z.1
    · exact R.base.rs 0 q .dice (by rw [← e]; rfl) z.2.1
    · exact R.base.rs 1 P (.tab ql) (by rw [← e]; rfl) z.2.2.1
    · exact R.base.rs 2 P2 (.tab q2) (by rw [← e]; rfl) z.2.2.2
  · intro C' H' v d τ' _ _ _ z
    exact z.elim
theorem rounds_goT2 {K : PySem.W.Frag} {mg : Str → Option Value} {E : XK} {body : TDS} {n i : Nat} {σ : L2.St} {H : Hp} {p P P2 : Addr} {ql q2 : Str} {qs : List Addr} {g : TG} {D : Ends} (hl : σ.length = n) (hi : i < n) (hp : H p = some (.lst (qs.map V.ref))) (hq : ∀ q ∈ qs, q ≠ p ∧ ∃ c d, H q = some (.lst [.int c, .int d])) (hP : TabS H P ql) (hP2 : TabS H P2 q2) (hne : P ≠ P2)
    (hg : ∀ v σ H Q, Q (σ.set i (some v)) H → g v σ H Q)
    (wp : body ((List.replicate n Sl.un).set i (.res 0)) [.dice, .tab ql, .tab q2] { nx := fun ρ τ => ρ.length = n ∧ τ[0]? = some .dice ∧ τ[1]? = some (.tab ql) ∧ τ[2]? = some (.tab q2), rt := fun _ _ => False, er := fun _ _ => False })
    (hd : ∀ σ H, D.nx σ H) :
    ∃ W : Nat → Nat → L2.St → Hp → Prop, (∃ m, W 0 m σ H) ∧ ∀ i m σ H, W i m σ H →
      ((Itl K p).stop i H ∧ D.nx σ H) ∨ ((Itl K p).go i H ∧ ∃ N : L2.St → Hp → Prop, (∀ σ' H', N σ' H' → ∃ m', m' < m ∧ W (i + 1) m' σ' H') ∧ ∀ x H', (Itl K p).yld i H x H' → g x σ H' fun σ2 H2 => tAnyT2 mg E P P2 body { D with nx := N, ct := N, bk := D.nx } σ2 H2) := by
  refine for_list (K := K) (a := p) (xs := qs.map V.ref) (fun _ σ H => σ.length = n ∧ H p = some (.lst (qs.map V.ref)) ∧ TabS H P ql ∧ TabS H P2 q2 ∧ ∀ q ∈ qs, q ≠ p ∧ ∃ c d, H q = some (.lst [.int c, .int d])) ⟨hl, hp, hP, hP2, hq⟩ (fun i σ H _ h => SqL.of h.2.1) ?_ (fun σ H _ => hd σ H)
  rintro j x σ H hj ⟨hl, hp, hP, hP2, hq⟩
  rw [List.getElem?_map] at hj
  cases e : qs[j]? with
  | none => rw [e] at hj; cases hj
  | some q =>
    rw [e] at hj
    cases hj
    have hm := List.mem_of_getElem? e
    have nP : ∀ {P : Addr} {ql : Str}, TabS H P ql → ∀ a xs, H a = some (.lst xs) → a ≠ P := fun hP a xs h z => by
      obtain ⟨ps, h2, _⟩ := hP
      rw [z, h2] at h; cases h
    refine hg _ _ _ _ (round_goT2 (by simpa using hl) hi (by rw [List.getElem?_set_self (by rw [hl]; exact hi)]) (hq q hm).2 hP hP2 hne wp fun σ' H' z1 z2 z3 z4 z5 => ⟨z1, z2 _ _ hp (fun z => (hq q hm).1 z.symm) (nP hP _ _ hp) (nP hP2 _ _ hp), z4, z5, fun q' hq' => ⟨(hq q' hq').1, ?_⟩⟩)
    by_cases z : q' = q
    · rw [z]; exact z3
    · obtain ⟨c, d, h⟩ := (hq q' hq').2
      exact ⟨c, d, z2 _ _ h z (nP hP _ _ h) (nP hP2 _ _ h)⟩
theorem lawT2_mk {l : PySem.W.OpenLaw} {w : World} {K : PySem.W.Frag} {mg : Str → Option Value} {h : Heap} {k : Nat} {fa c P c2 P2 : Addr} {fd : FuncData} (X : K.In h) (nP : K.lookup P = none) (hh : PySem.W.codeHdIn K c P = true) (ht : h.get? P = some (PySem.W.tabObj #[])) (nP2 : K.lookup P2 = none) (hh2 : PySem.W.codeHdIn K c2 P2 = true) (ht2 : h.get? P2 = some (PySem.W.tabObj #[])) (hne : P ≠ P2) (hb : ∀ (s : Shared) (u : Value), BindsTo s fd ⟨[u], []⟩ [(Str.ofString "script", u)])
    (F : ∀ base : Heap, K.In base → base.Ns mainGlobals mg → TabB base mg c P → TabB base mg c2 P2 → FnOk l.prog w K mg base (L2N.CX l.prog w) k fa fd [Str.ofString "script"] (spLawT2 K P P2)) : LawAtS l w K (L2N.CX l.prog w) k 63 (Str.ofString "script") mg fa h := by
  refine ⟨fd, [(c, P), (c2, P2)], spLawT2 K P P2, fun p hp => ?_, fun p hp => ?_, fun p hp => ?_, hb, fun H a ns hl _ hH hS => ⟨a, ns, rfl, hS, hl, hH (c, P) (by simp), hH (c2, P2) (by simp), hne, fun _ => rfl⟩, fun base KX G TB => F base KX G (TB (c, P) (by simp)) (TB (c2, P2) (by simp))⟩
  · simp only [List.mem_cons, List.not_mem_nil, or_false] at hp
    rcases hp with rfl | rfl
    · exact ht
    · exact ht2
  · simp only [List.mem_cons, List.not_mem_nil, or_false] at hp
    rcases hp with rfl | rfl
    · exact nP
    · exact nP2
  · simp only [List.mem_cons, List.not_mem_nil, or_false] at hp
    rcases hp with rfl | rfl
    · exact PySem.W.codeHd_of_K X hh
    · exact PySem.W.codeHd_of_K X hh2
/-! ### x, y, z, u = Bridge(..), (), [], [] -/
section
variable {X : Cx} {G : Gx} {e : Expr} {es : List Expr} {pos p : Pos} {n : Nat} {g : TDA} {r : Rf} {k : Nat} {ps : List Str}
def dMake4 (i1 i2 i3 i4 : Nat) (r : Rf) (g : TDA) : TDS := fun ρ τ De => g ρ τ (fun xs τ1 => callR1 r (τ1 ++ [.bri []]) (.res τ1.length :: xs) (fun d τ2 => d = .none ∧ De.nx ((((ρ.set i1 (.res τ1.length)).set i2 (.da (.tuple []))).set i3 (.da (.list []))).set i4 (.da (.list []))) τ2) (fun _ _ => False)) De.er
theorem s_make4 {i1 i2 i3 i4 : Nat} {x1 x2 x3 x4 : Str} {q1 q2 q3 q4 pt pl pl2 pu p2 : Pos} {kt k2 k3 pt2} (D : Dmk X.prog X.w X.K X.mg X.base k ps (toFnR r)) (hr : Room (k + 1) X.A) (hG : G.mg = X.mg) (hg : Gl X "Bridge") (hc : X.calm = true) (hN : X.N.Nodup)
    (h1 : X.N[i1]? = some x1) (h2 : X.N[i2]? = some x2) (h3 : X.N[i3]? = some x3) (h4 : X.N[i4]? = some x4)
    (l1 : Loc X.env.scope x1) (l2 : Loc X.env.scope x2) (l3 : Loc X.env.scope x3) (l4 : Loc X.env.scope x4) (ha : PA X (e :: es) (tDA G n g))
    (he : starEach (e :: es) X.env = (false, eval e X.env) :: starEach es X.env := by rfl) (hpl : (backTo p2 (starEach es X.env)).any (·.1) = false := by rfl)
    (f1 : X.fn x1 = true ∨ X.env.scope.names.lookup x1 = some .local := by first | exact .inl rfl | exact .inr rfl | assumption) (f2 : X.fn x2 = true ∨ X.env.scope.names.lookup x2 = some .local := by first | exact .inl rfl | exact .inr rfl | assumption)
    (f3 : X.fn x3 = true ∨ X.env.scope.names.lookup x3 = some .local := by first | exact .inl rfl | exact .inr rfl | assumption) (f4 : X.fn x4 = true ∨ X.env.scope.names.lookup x4 = some .local := by first | exact .inl rfl | exact .inr rfl | assumption)
    (hw : swappedStores [.Tuple [.Name x1 q1, .Name x2 q2, .Name x3 q3, .Name x4 q4] kt pt] (.Tuple [.Call (.Name "Bridge" p) (e :: es) [] p2, .Tuple [] k3 pu, .List [] pl, .List [] pl2] k2 pt2) X.env = pure none := by rfl)
    (hs : swapsWithSole [.Tuple [.Name x1 q1, .Name x2 q2, .Name x3 q3, .Name x4 q4] kt pt] (.Tuple [.Call (.Name "Bridge" p) (e :: es) [] p2, .Tuple [] k3 pu, .List [] pl, .List [] pl2] k2 pt2) pos.line X.env = pure false := by rfl)
    (s1 : starEach [.Call (.Name "Bridge" p) (e :: es) [] p2, .Tuple [] k3 pu, .List [] pl, .List [] pl2] X.env = (false, eval (.Call (.Name "Bridge" p) (e :: es) [] p2) X.env) :: starEach [.Tuple [] k3 pu, .List [] pl, .List [] pl2] X.env := by rfl)
    (s2 : starEach [.Tuple [] k3 pu, .List [] pl, .List [] pl2] X.env = (false, eval (.Tuple [] k3 pu) X.env) :: starEach [.List [] pl, .List [] pl2] X.env := by rfl)
    (s3 : starEach [.List [] pl, .List [] pl2] X.env = (false, eval (.List [] pl) X.env) :: starEach [.List [] pl2] X.env := by rfl) (s4 : starEach [.List [] pl2] X.env = (false, eval (.List [] pl2) X.env) :: starEach [] X.env := by rfl)
    (g0 : (assignEach [.Tuple [.Name x1 q1, .Name x2 q2, .Name x3 q3, .Name x4 q4] kt pt] X.env).map (·.2) = [assign (.Tuple [.Name x1 q1, .Name x2 q2, .Name x3 q3, .Name x4 q4] kt pt) X.env] := by rfl)
    (g1 : (assignEach [.Name x1 q1, .Name x2 q2, .Name x3 q3, .Name x4 q4] X.env).map (·.2) = assign (.Name x1 q1) X.env :: (assignEach [.Name x2 q2, .Name x3 q3, .Name x4 q4] X.env).map (·.2) := by rfl)
    (g2 : (assignEach [.Name x2 q2, .Name x3 q3, .Name x4 q4] X.env).map (·.2) = assign (.Name x2 q2) X.env :: (assignEach [.Name x3 q3, .Name x4 q4] X.env).map (·.2) := by rfl)
    (g3 : (assignEach [.Name x3 q3, .Name x4 q4] X.env).map (·.2) = assign (.Name x3 q3) X.env :: (assignEach [.Name x4 q4] X.env).map (·.2) := by rfl) (g4 : (assignEach [.Name x4 q4] X.env).map (·.2) = assign (.Name x4 q4) X.env :: (assignEach [] X.env).map (·.2) := by rfl)
    (g5 : (assignEach [.Name x1 q1, .Name x2 q2, .Name x3 q3, .Name x4 q4] X.env).length = 4 := by rfl) (g6 : (assignEach [.Name x1 q1, .Name x2 q2, .Name x3 q3, .Name x4 q4] X.env).findIdx? (·.1) = none := by rfl) :
    PS X (.Assign [.Tuple [.Name x1 q1, .Name x2 q2, .Name x3 q3, .Name x4 q4] kt pt] (.Tuple [.Call (.Name "Bridge" p) (e :: es) [] p2, .Tuple [] k3 pu, .List [] pl, .List [] pl2] k2 pt2) pos) (sD G (dMake4 i1 i2 i3 i4 r g)) := by
  obtain ⟨CB, fn, fd, hB, M, hb, FF⟩ := D.ex
  refine ps_weak (ps_asg (pe_tup (pa_cons (pe_make M FF hr hg hB hb .nil passN ha (by decide) he hpl) (pa_cons (pe_tupF pa_nil) (pa_cons (pe_lst pa_nil) (pa_cons (pe_lst pa_nil) pa_nil s4) s3) s2) s1)) (pg_tup hc (pgs_cons (pg_name hN h1 l1 f1) (pgs_cons (pg_name hN h2 l2 f2) (pgs_cons (pg_name hN h3 l3 f3) (pgs_cons (pg_name hN h4 l4 f4) pgs_nil g4) g3) g2) g1) g5 g6) hs hw g0) fun Dn σ H h => ?_
  obtain ⟨C, As, ρ, τ, De, R, hh, her, kn, kr⟩ := h
  unfold dMake4 at hh
  rw [her] at hh
  refine ⟨C, As, ρ, τ, _, R, hh, fun C1 H1 vs as τ1 st1 R1 d1 e1 q z dx hz hd hne => ?_⟩
  rw [List.append_nil, ← hG]
  refine w_make (Qx := fun x H1 => tCons (fun σ H Q => tNil σ H fun xs H1 => xs.length ≤ sizeLine ∧ ∀ p o, H1 p = none → o.dict = none → Q (.ref p) (L2.upd H1 p (.frz o (.tup xs)))) (tCons (tLst tNil) (tCons (tLst tNil) tNil)) σ H1 fun xs H2 => (x :: xs).length ≤ sizeLine ∧ ∀ p : Addr, H2 p = none → L2.gTup X.K 4 (L2.gCons (L2.gName i1) (L2.gCons (L2.gName i2) (L2.gCons (L2.gName i3) (L2.gCons (L2.gName i4) L2.gNil)))) (V.ref p) σ (upd H2 p (HO.tup (x :: xs))) Dn.nx) (Qd := fun τ2 => De.nx ((((ρ.set i1 (.res τ1.length)).set i2 (.da (.tuple []))).set i3 (.da (.list []))).set i4 (.da (.list []))) τ2) R1 d1 (by rw [hG]; exact hB) hz hd hne q fun C2 H2 τ2 s2 R2 q2 => ?_
  refine ⟨Nat.zero_le _, fun t o ht ho => ⟨Nat.zero_le _, fun a1 ha1 => ⟨Nat.zero_le _, fun a2 ha2 => ⟨by show 4 ≤ sizeLine; decide, fun u hu => ?_⟩⟩⟩⟩
  have t3 := Step.new (As := As ++ [z]) (o := .frz o (.tup [])) ht R2.base.core
  have R3 := R2.go t3 (R2.base.new ht (sz1000 (show 0 ≤ 1000 by decide)))
  have t4 := Step.new (As := As ++ [z]) (o := .lst []) ha1 R3.base.core
  have R4 := R3.go t4 (R3.base.new ha1 (sz1000 (show 0 ≤ 1000 by decide)))
  have t5 := Step.new (As := As ++ [z]) (o := .lst []) ha2 R4.base.core
  have R5 := R4.go t5 (R4.base.new ha2 (sz1000 (show 0 ≤ 1000 by decide)))
  have R6 := R5.junk (o := .tup [.ref z, .ref t, .ref a1, .ref a2]) hu
  refine ⟨u, [.ref z, .ref t, .ref a1, .ref a2], rfl, SqT.of upd_same, rfl, .ref z, [.ref t, .ref a1, .ref a2], rfl, .ref t, [.ref a1, .ref a2], rfl, .ref a1, [.ref a2], rfl, .ref a2, [], rfl, rfl, ?_⟩
  have e1 : (As ++ [z])[τ1.length]? = some z := by rw [← R1.base.len]; simp
  have d2 : Dv (upd (upd (upd C2 t (.frz o (.tup []))) a1 (.lst [])) a2 (.lst [])) (.tuple []) (.ref t) := Dv.mono (t4.ex.trans t5.ex) ⟨t, [], rfl, TpO.new ho, rfl⟩
  have d3 : Dv (upd (upd (upd C2 t (.frz o (.tup []))) a1 (.lst [])) a2 (.lst [])) (.list []) (.ref a1) := Dv.mono t5.ex ⟨a1, [], rfl, upd_same, rfl⟩
  have d4 : Dv (upd (upd (upd C2 t (.frz o (.tup []))) a1 (.lst [])) a2 (.lst [])) (.list []) (.ref a2) := ⟨a2, [], rfl, upd_same, rfl⟩
  exact kn _ (As ++ [z]) _ _ _ _ (st1.ex.trans (s2.trans (t3.ex.trans (t4.ex.trans t5.ex)))) ((((R6.set (i := i1) (r := .res τ1.length) ⟨z, e1, rfl⟩).set (i := i2) (r := .da (.tuple [])) ⟨_, rfl, d2⟩).set (i := i3) (r := .da (.list [])) ⟨_, rfl, d3⟩).set (i := i4) (r := .da (.list [])) ⟨_, rfl, d4⟩) q2
end
end DL
/-! an error that leaves a list comprehension: name = [f(x) for x in xs] -/
namespace DL
open PySem PySem.Spec PyProof.Rows L2
theorem note_same {u : Value} {ce env : Env} (hf : ce.frame = env.frame) : noteFrame u ce = noteFrame u env := by
  unfold noteFrame PySem.frameOf
  simp only [hf]
theorem frames_sub {h1 h2 B B2 : Heap} (hB : ∀ b, B.get? b = none → B2.get? b = none) : ∀ {l : List Env}, (∀ b ∈ frs l, h2.get? b = h1.get? b) → h1.FunFrames B l → h2.FunFrames B2 l
  | [], _, _ => trivial
  | env :: l, k, ⟨a, ⟨L, o, f1, f2, f3, f4⟩, r⟩ => by
    have hm : L ∈ frs (env :: l) := List.mem_filterMap.mpr ⟨env, List.mem_cons_self, f1⟩
    refine ⟨a, ⟨L, o, f1, hB L f2, (k L hm).trans f3, f4⟩, frames_sub hB (fun b hb => k b ?_) r⟩
    obtain ⟨e, he, hf⟩ := List.mem_filterMap.mp hb
    exact List.mem_filterMap.mpr ⟨e, List.mem_cons_of_mem _ he, hf⟩
def errPost (X : Cx) (ce : Env) (u : Value) (t : Shared) : Prop := ∃ m, t.heap.Ns ce.locals m ∧ ∀ h', Heap.SameBut ce.locals t.heap h' → wpAny (model X.prog X.w) X.A (PySem.passOn "comprehension.variables-let-go" u ce : Sem Value) (fun _ _ => False) X.xe { t with heap := h' }
section
variable {X : Cx} {W : WX} {E : XK} {pins : List (Addr × Obj)} {σ : L2.St} {H : Hp} {s s' : Shared} {u : Value} {ce : Env} {m : Str → Option Value}
/-- noted in the def's frame, the block's variables let go, on the way again -/
theorem comp_err {E1 : Value → Shared → Prop} (tk : L2N.Takes X W) (hW : ∀ cls d σ H, E cls d H → W cls d σ H) (hstk : X.stack = X.env :: X.outer) (hfr : X.env.frame = some X.env.locals) (I : Inv X pins σ H s) (fC : FpOk X pins H ce.locals) (hCf : ce.locals ∉ frs X.stack) (hns : s.heap.Ns ce.locals m) (hcf : ce.frame = X.env.frame)
    (c : L2N.CX X.prog X.w X.stack H s E u s') : wpAny (model X.prog X.w) X.A (noteFrame u ce) (fun _ t => errPost X ce u t) E1 s' := by
  generalize hC : ce.locals = C at fC hCf hns
  obtain ⟨oc, es, ep, hoc, hdc, hk, hm⟩ := hns
  have cs : s'.heap.get? C = some oc := by
    obtain ⟨a, B, H', cls, d, e, fl, hok, ub, r⟩ := c
    exact fl.1 C oc (ub.keep C oc hoc fC.1 hCf)
  have c2 : L2N.CX X.prog X.w X.stack H s (fun cls d H2 => E cls d H2 ∧ H2 C = none) u s' := by
    obtain ⟨a, B, H', cls, d, e, fl, hok, ub, na, os, ag, hE⟩ := c
    exact ⟨a, B, H', cls, d, e, fl, hok, ub, na, os, ag, hE, ub.free C oc hoc fC.1⟩
  obtain ⟨a, B, sI, pins', σ', H', cls, d, rfl, I', nb, up, sky, na, os, ag, hw, hC0⟩ := L2N.XE.of_call (W := fun cls d σ H2 => W cls d σ H2 ∧ H2 C = none) I (fun cls d H2 h => ⟨hW _ _ _ _ h.1, h.2⟩) c2
  rw [note_same hcf]
  have hA : X.A.frames = some (X.env :: X.outer) := by rw [I.ok.frames, hstk]
  have fin : ∀ h1, HandSPX.HeldZ B (X.env :: X.outer) a (L2N.Zn cls d) X.env.locals h1 → s'.heap.UpToSlots h1 → errPost X ce (.ref a) { s' with heap := h1 } := fun h1 held up1 => by
    obtain ⟨sl, c1⟩ := up1 C oc cs (fun vs z => by rw [hdc] at z; cases z)
    refine ⟨m, by rw [hC]; exact ⟨_, es, ep, c1, hdc, hk, hm⟩, fun h2 sb => ?_⟩
    rw [hC] at sb
    obtain ⟨k1, k2, k3, oe, vs, T, oT, ts, he, hz, hd, hv1, nT, Te, hT, hdT, h3⟩ := held
    have aC : a ≠ C := fun z => by rw [z, c1] at he; cases he; rw [hdc] at hd; cases hd
    have tC : T ≠ C := fun z => by rw [z, c1] at hT; cases hT; rw [hdc] at hdT; cases hdT
    obtain ⟨B2, b1, b2⟩ := restrict B fun b => decide (b ≠ C)
    have bsub : ∀ b o, B2.get? b = some o → b ≠ C ∧ B.get? b = some o := fun b o e => by
      by_cases z : b = C
      · rw [b2 b (by simp [z])] at e; cases e
      · rw [b1 b (by simp [z])] at e; exact ⟨z, e⟩
    have bn : ∀ b, B.get? b = none → B2.get? b = none := fun b e => by
      cases q : B2.get? b with
      | none => rfl
      | some o => rw [(bsub b o q).2] at e; cases e
    have tr : HandSPX.TracedZ h2 B2 a (L2N.Zn cls d) (rawInt X.env.locals) := ⟨oe, vs, T, oT, ts, (sb.2 a aC).trans he, hz, hd, hv1, bn T nT, Te, (sb.2 T tC).trans hT, hdT, h3⟩
    have st : B2.StaysIn h2 := fun b o e => (sb.2 b (bsub b o e).1).trans (k1 b o (bsub b o e).2)
    have ff : h2.FunFrames B2 (X.env :: X.outer) := frames_sub bn (fun b hb => sb.2 b fun z => hCf (by rw [hstk, ← z]; exact hb)) k3
    unfold PySem.passOn
    refine wpAny_bind (wpAny_field ((sb.2 a aC).trans he) hd hv1 ?_)
    rw [if_neg (show ¬ ((Value.ref T == Value.none) = true) by simp)]
    refine wpAny_bind (HandSPX.setFlight_anyZ st ff tr fun h4 q1 q2 q3 q4 => wpAny_throw ?_)
    rw [hcf, hfr] at q3
    obtain ⟨G, g1, g2⟩ := restrict sI.heap fun b => decide (b ≠ C)
    have gs : ∀ b o, G.get? b = some o → b ≠ C ∧ sI.heap.get? b = some o := fun b o e => by
      by_cases z : b = C
      · rw [g2 b (by simp [z])] at e; cases e
      · rw [g1 b (by simp [z])] at e; exact ⟨z, e⟩
    have J : Inv X [] σ' H' { sI with heap := G, toks := sI.toks } := (Inv.unpinned (pins := []) (pl := pins') I').turned (it := C) (fun b o hb e => by rw [g1 b (by simp [hb])]; exact e) hC0 fC.2.1 fC.2.2.2.1 fC.2.2.2.2.1 (fun p hp => fC.2.2.2.2.2 p (by rw [List.append_nil] at hp; exact List.mem_append_left _ hp))
    refine tk (.ref a) _ ⟨a, B2, { sI with heap := G, toks := sI.toks }, [], σ', H', cls, d, rfl, J, fun b o e nf => ?_, fun b o e nf => ?_, ?_, na, os, ag, hw⟩
    · obtain ⟨z, e2⟩ := gs b o e
      rw [b1 b (by simp [z])]
      exact nb b o e2 nf
    · obtain ⟨z, e2⟩ := gs b o e
      obtain ⟨l1, f1⟩ := up b o e2 nf
      obtain ⟨l2, f2⟩ := up1 b _ f1 nf
      have f3 : h2.get? b = some { o with slots := l2 } := (sb.2 b z).trans f2
      obtain ⟨l3, f4⟩ := q4 b _ f3 nf
      exact ⟨l3, f4⟩
    · rw [hstk]
      exact .inr (.inr ⟨q1, bn a k2, q2, q3⟩)
  rw [hstk] at sky
  rcases sky with ⟨hB, hn, hl, oe, vs, he, hz, hd, h1⟩ | fl | hh
  · exact PXN.look_newZ L2N.Zn.steady hA hl hfr he hB hn hd h1 hz fin
  · exact PXN.looks_onZ L2N.Zn.steady hA hfr fl fin
  · exact HandSPX.againZ hfr hh.2.2.2 (fin s'.heap hh (Heap.UpToSlots.refl _))
end
/-- what comes behind the block: the list is stored, or an error goes on -/
def postX (X : Cx) (use : Value → Sem Unit) (Q : Value → Shared → Prop) (acc : Value) (ce : Env) (r : Result) (t : Shared) : Prop := match r with
  | .ok _ => wpAny (model X.prog X.w) X.A (use acc) (fun _ t2 => ∃ m, t2.heap.Ns ce.locals m ∧ ∀ h', Heap.SameBut ce.locals t2.heap h' → Q .none { t2 with heap := h' }) X.xe t
  | .error u => errPost X ce u t
section
variable {X : Cx}
theorem comp_enter {s : Shared} {e : Expr} {scope : Scope} {pos : Pos} {newAcc first : Sem Value} {g : Comprehension} {gs : List Comprehension} {cl : List (Str × Addr)} {use : Value → Sem Unit} {Q : Value → Shared → Prop}
    (hcl : clausesOf e = g :: gs) (hs : ∀ x, foldedSetIterable g.iter X.env x = pure x) (hclos : closureFor scope X.env = pure cl) (hkind : scope.kind = .function) (hloc : ∀ x ∈ scope.names, x.2 = .local → scope.names.lookup x.1 = some .local)
    (h : wpAny (model X.prog X.w) X.A first (fun x t1 => wpAny (model X.prog X.w) X.A (pyIter x) (fun it t2 => wpAny (model X.prog X.w) X.A newAcc (fun acc t3 => wpAny (model X.prog X.w) X.A (newFunctionEnv scope X.env.globals cl [] X.env.qual none .none (some X.env))
      (fun ce t4 => codeAny (model X.prog X.w) X.A (.compStart e 0 it acc { ce with scope := relabel scope X.env }) (postX X use Q acc { ce with scope := relabel scope X.env }) t4) X.xe t3) X.xe t2) X.xe t1) X.xe s) :
    wpAny (model X.prog X.w) X.A (comprehension e scope X.env pos newAcc false first (some use)) Q X.xe s := by
  unfold comprehension
  rw [hclos, hcl]
  refine wpAny_bind (wpAny_mono h (fun x t1 k1 => ?_) fun _ _ z => z)
  refine wpAny_bind (wpAny_standAt (wpAny_bind (wpAny_of_eq (hs x) (wpAny_bind (wpAny_holding (wpAny_mono k1 (fun it t2 k2 => ?_) fun _ _ z => z))))))
  refine wpAny_standIf (wpAny_bind (wpAny_mono k2 (fun acc t3 k3 => ?_) fun _ _ z => z))
  refine wpAny_bind (wpAny_pure (wpAny_bind (wpAny_mono k3 (fun ce t4 k4 => ?_) fun _ _ z => z)))
  dsimp only
  generalize hvs : (scope.names.filter fun x => (x.2 == .local || x.2 == .cell) && x.1 != (".0" : Str)).reverse = vs
  have own : ∀ x ∈ vs, x.2 = .local → Env.kindOf { ce with scope := relabel scope X.env } x.1 = some .local := fun x hx hl => by
    rw [← hvs] at hx
    exact lookup_relabel_local (hloc x (List.mem_filter.mp (List.mem_reverse.mp hx)).1 hl)
  refine wpAny_holding (wpAny_bind (wpAny_attempt (wpAny_holding (wpAny_run (codeAny_mono k4 fun r t5 hr => ?_)))))
  cases r with
  | ok f =>
    refine wpAny_bind (wpAny_rule (wpAny_bind (wpAny_holding (wpAny_mono hr (fun _ t6 ⟨m, hn, q⟩ => ?_) fun _ _ z => z))))
    refine wpAny_bind (wpAny_comp_letGo (cenv := { ce with scope := relabel scope X.env }) hkind _ t6 m (fun x hx hl => own x ?_ hl) hn fun h' m' _ sb => wpAny_pure (q h' sb))
    rcases List.mem_append.mp hx with hx | hx
    · exact List.mem_of_mem_drop hx
    · exact List.mem_of_mem_take hx
  | error u =>
    obtain ⟨m, hn, q⟩ := hr
    exact wpAny_bind (wpAny_holding (wpAny_comp_letGo (cenv := { ce with scope := relabel scope X.env }) hkind _ t5 m own hn fun h' m' _ sb => wpAny_mono (q h' sb) (fun _ _ z => z.elim) fun _ _ z => z))
/-- name = [elt for target in iter if ..], the elements' defs may raise -/
theorem ps_setLcX {E : XK} {W : WX} {i : Nat} {y : Str} {py pos spos : Pos} {elt tg iter : Expr} {ifs : List Expr} {scope : Scope} {own : List (Str × Nat)} {wi : TI} {g : TG} {tt : TT} {te : TE} (tk : L2N.Takes X W) (hW : ∀ cls d σ H, E cls d H → W cls d σ H) (hstk : X.stack = X.env :: X.outer) (hfr : X.env.frame = some X.env.locals)
    (hc : X.calm = true) (hN : X.N.Nodup) (hy : X.N[i]? = some y) (hyl : X.env.scope.names.lookup y = some .local) (hsw : swapsWith (.ListComp elt [⟨tg, iter, ifs, 0⟩] scope pos) (some (.Name y py)) spos.line X.env = pure true) (hi : PI X tg iter wi) (ok : BlkOk X.N X.env.scope scope own)
    (hg : ∀ (s : Shared) (H : Hp) (C : Addr) (cl : List (Str × Addr)) (fp : List Addr) (xe : Value → Shared → Prop), PG ((X.blk s H scope (compEnvC scope cl C X.env) fp).tr [] xe) tg g)
    (ht : ∀ (s : Shared) (H : Hp) (C : Addr) (cl : List (Str × Addr)) (fp : List Addr) (xe : Value → Shared → Prop), PTs ((X.blk s H scope (compEnvC scope cl C X.env) fp).tr [] xe) ifs tt)
    (he : ∀ (s : Shared) (H : Hp) (C : Addr) (cl : List (Str × Addr)) (fp : List Addr) (xe : Value → Shared → Prop), Passes (L2N.CX X.prog X.w) ((X.blk s H scope (compEnvC scope cl C X.env) fp).tr [] xe) E → PE ((X.blk s H scope (compEnvC scope cl C X.env) fp).tr [] xe) elt te)
    (hs : ∀ x, foldedSetIterable iter X.env x = pure x := by intro _; rfl) : PS X (.Assign [.Name y py] (.ListComp elt [⟨tg, iter, ifs, 0⟩] scope pos) spos) (tAsg (tLc wi g tt te (own.map (·.2))) (L2.gName i)) := by
  refine ⟨fun pins s σ H D I h => ?_⟩
  have main : wpAny (model X.prog X.w) X.A (comprehension (.ListComp elt [⟨tg, iter, ifs, 0⟩] scope pos) scope X.env (firstIterPos [⟨tg, iter, ifs, 0⟩] pos) (newList []) false (eval iter X.env) (some (assign (.Name y py) X.env))) (fun _ t => SP X pins D .next t) X.xe s := by
    have fre : ∀ z ∈ scope.names, z.2 = .free → ∃ c, X.env.cells.lookup z.1 = some c := fun z hz e => (ok.free z hz e).elim (fun k => I.ok.has _ (.inl k)) fun k => I.ok.has _ (.inr k)
    refine comp_enter rfl hs (closure_ok fre) ok.kind (fun z hz e => by rw [ok.uniq z hz, e]) (thn (hi.run pins s σ H _ I h) fun xv t1 hx => thn hx fun iv t2 h2 => ?_)
    obtain ⟨it, fp, tn, J, H2, rfl, I2, T, st2, f2, q⟩ := h2
    refine wpAny_newObj_type (newEnv_comp ?_) (Nat.zero_le _)
    obtain ⟨L, hL⟩ : ∃ L, t2.heap.objs.size = L := ⟨_, rfl⟩
    rw [hL]
    have nL : H2 L = none := I2.hok.fresh (Nat.le_of_eq hL)
    obtain ⟨V, ⟨m0, v0⟩, turn⟩ := q L nL
    obtain ⟨t3, e3⟩ : ∃ t3 : Shared, ({ t2 with heap := t2.heap.push { cls := .type "list", data := .seq ([] : List Value).toArray } } : Shared) = t3 := ⟨_, rfl⟩
    have h3 : t3.heap = t2.heap.push { cls := .type "list", data := .seq ([] : List Value).toArray } := by rw [← e3]
    have I3 : Inv X pins σ (upd H2 L (.lst [])) t3 := by
      rw [← e3]
      exact I2.laid (t' := t2.toks) (fun b o e => Heap.get?_push_of_some _ e) (Nat.le_of_eq hL) ⟨Nat.zero_le _, [], 0, .nil, by rw [← hL]; exact Heap.get?_push_size _ rfl⟩
    have fz : ∀ b ∈ fp, b < t2.heap.objs.size := fun b hb => let ⟨o, e, _⟩ := T.obj _ _ st2 b hb; Heap.lt_size e
    have f3 : ∀ b ∈ fp, FpOk X pins (upd H2 L (.lst [])) b ∧ b < t3.heap.objs.size := fun b hb => ⟨⟨by rw [upd_ne (by rw [← hL]; exact Nat.ne_of_lt (fz b hb))]; exact (f2 b hb).1, (f2 b hb).2⟩, by rw [h3, Heap.size_push]; exact Nat.lt_succ_of_lt (fz b hb)⟩
    have st3 : tn 0 t3.heap := T.keep _ _ _ st2 fun b _ o e => by rw [h3]; exact Heap.get?_push_of_some _ e
    have J4 := block_start I3 ok hN f3
    obtain ⟨cl, ecl⟩ : ∃ cl, cellsFrom (t3.heap.objs.size + 1) scope.names (cloFrom X.env.cells scope.names []) = cl := ⟨_, rfl⟩
    obtain ⟨H3, eH3⟩ : ∃ H3, upd H2 L (.lst []) = H3 := ⟨_, rfl⟩
    obtain ⟨ce, ece⟩ : ∃ ce, compEnvC scope cl t3.heap.objs.size X.env = ce := ⟨_, rfl⟩
    have ceL : ce.locals = t3.heap.objs.size := by rw [← ece]; rfl
    have ceF : ce.frame = X.env.frame := by rw [← ece]; rfl
    rw [e3]
    show codeAny _ _ (.compStart (.ListComp elt [⟨tg, iter, ifs, 0⟩] scope pos) 0 (.ref it) (.ref L) (compEnvC scope (cellsFrom (t3.heap.objs.size + 1) scope.names (cloFrom X.env.cells scope.names [])) t3.heap.objs.size X.env)) (postX X (assign (.Name y py) X.env) (fun _ t => SP X pins D .next t) (.ref L) (compEnvC scope (cellsFrom (t3.heap.objs.size + 1) scope.names (cloFrom X.env.cells scope.names [])) t3.heap.objs.size X.env)) _
    rw [ecl] at J4 ⊢
    rw [eH3] at J4 I3 f3 v0
    rw [ece] at J4 ⊢
    obtain ⟨xb, exb⟩ : ∃ xb, notedBy (model X.prog X.w) X.A ce (fun u t => postX X (assign (.Name y py) X.env) (fun _ t => SP X pins D .next t) (.ref L) ce (.error u) t) = xb := ⟨_, rfl⟩
    obtain ⟨Y, eY⟩ : ∃ Y, (X.blk t3 H3 scope ce fp).tr [] xb = Y := ⟨_, rfl⟩
    have back : ∀ {pins5 : List (Addr × Obj)} {σ5 : L2.St} {H5 : Hp} {t5 : Shared}, Inv Y pins5 σ5 H5 t5 → Inv X pins σ H5 t5 ∧ FpOk X pins H5 ce.locals ∧ ∃ m, t5.heap.Ns ce.locals m := fun {pins5 σ5 H5 t5} I5 => by
      subst eY
      refine ⟨I3.call' (ch := fp) I5.os I5.base I5.hok I5.bare fun b hb => ⟨(f3 b hb).1.2.2.2.1, (f3 b hb).1.2.1, (f3 b hb).1.2.2.2.2.1, (f3 b hb).1.2.2.2.2.2⟩, ?_, ?_⟩
      · have z : H5 ce.locals = none := I5.free
        exact I3.fpOk (by rw [ceL]; exact Nat.le_refl _) z
      · obtain ⟨m, hn, _⟩ := I5.loc
        exact ⟨m, hn⟩
    have nst : ce.locals ∉ frs X.stack := fun hm => by
      rcases List.mem_cons.mp (I3.stkSub _ hm) with z | z
      · have := I3.lt
        rw [← z, ceL] at this
        exact Nat.lt_irrefl _ this
      · exact I3.nofs (by rw [ceL]; exact Nat.le_refl _) z
    have px : Passes (L2N.CX X.prog X.w) Y E := fun pins5 σ5 H5 t5 u t6 I5 c => by
      obtain ⟨J5, fC, m, hn⟩ := back I5
      subst eY
      show xb u t6
      rw [← exb]
      exact comp_err tk hW hstk hfr J5 fC nst hn ceF c
    have pg : PG Y tg g := by rw [← eY, ← ece]; exact hg ..
    have pt : PTs Y ifs tt := by rw [← eY, ← ece]; exact ht ..
    have pe : PE Y elt te := by
      have := he t3 H3 t3.heap.objs.size cl fp xb
      rw [ece, eY] at this
      exact this px
    obtain ⟨t4, e4⟩ : ∃ t4 : Shared, ({ t3 with heap := pushCells (t3.heap.push { cls := .type "dict", data := .dict #[] }) scope.names } : Shared) = t4 := ⟨_, rfl⟩
    have I4 : Inv Y [] (wipe σ (own.map (·.2))) H3 t4 := by rw [← eY, ← e4]; exact J4.toTry xb
    have st4 : tn 0 t4.heap := T.keep _ _ _ st3 fun b _ o e => by rw [← e4]; exact pushCells_keeps _ _ _ _ (Heap.get?_push_of_some _ e)
    have Yex : Y.ex = fp := by rw [← eY]
    have Ypn : Y.pn = [] := by rw [← eY]
    have YA : Y.A = X.A := by rw [← eY]
    have Yenv : Y.env = ce := by rw [← eY]
    have Yxe : Y.xe = xb := by rw [← eY]
    have Yp : Y.prog = X.prog := by rw [← eY]
    have Yw : Y.w = X.w := by rw [← eY]
    have YK : Y.K = X.K := by rw [← eY]
    have Yc : Y.calm = true := by rw [← eY]; exact hc
    have YN : Y.N = X.N := by rw [← eY]
    rw [e4]
    clear eY e4 J4
    have fpY : ∀ {σ' : L2.St} {H' : Hp} {t' : Shared}, Inv Y [] σ' H' t' → (∀ b ∈ fp, H' b = none) → ∀ b ∈ fp, FpOk Y [] H' b := fun {σ' H' t'} I' hn b hb =>
      ⟨hn b hb, (I'.ok.exf b (by rw [Yex]; exact hb)).1, I'.ok.exfs b (by rw [Yex]; exact hb), .inl (by rw [Yex]; exact hb), fun x c e => (I'.ok.exf b (by rw [Yex]; exact hb)).2 x c e, fun p hp => by rw [Ypn] at hp; cases hp⟩
    have loop : codeAny (model X.prog X.w) X.A (.compLoop (.ListComp elt [⟨tg, iter, ifs, 0⟩] scope pos) 0 (.ref it) (.ref L) ce) (postX X (assign (.Name y py) X.env) (fun _ t => SP X pins D .next t) (.ref L) ce) t4 := by
      refine compLoop_any (fun n t => ∃ j H', Inv Y [] (wipe σ (own.map (·.2))) H' t ∧ tn j t.heap ∧ (∀ b ∈ fp, H' b = none) ∧ V j n H') ?_ m0 ⟨0, H3, I4, st4, fun b hb => (f3 b hb).1.1, v0⟩
      rintro n t5 ⟨j, H5, I5, st5, n5, v5⟩
      rw [exb]
      rcases turn j n H5 v5 with ⟨stop, qq⟩ | ⟨go, Nx, hNx, step⟩
      · have td := T.done Y Yp Yw YK Yc j [] t5 _ H5 (fun _ _ => False) I5 (fpY I5 n5) st5 stop
        rw [YA] at td
        refine thnF td fun r t6 ⟨hr, I6⟩ => ?_
        subst hr
        obtain ⟨I7, fC, m, hn⟩ := back I6
        show wpAny _ _ (assign (.Name y py) X.env (.ref L)) _ _ _
        refine wpAny_assign_Name (store_ok2 (v := L2.V.ref L) I7 hN hy (.inl hyl) rfl (fun t8 I8 ⟨a, sb, ha⟩ => ?_) (.inr hyl))
        have neq : ce.locals ≠ a := by
          rcases ha with z | z
          · rw [z]; exact fC.2.1
          · exact fun e => fC.2.2.2.2.1 y a z e.symm
        exact ⟨m, hn.sameBut sb neq, fun h9 s9 => ⟨_, H5, I8.turned (t' := t8.toks) (fun b o hb e => (s9.2 b hb).trans e) fC.1 fC.2.1 fC.2.2.2.1 fC.2.2.2.2.1 fC.2.2.2.2.2, qq⟩⟩
      · have ti := T.item Y Yp Yw YK Yc j [] t5 _ H5 (fun _ _ => False) I5 (fpY I5 n5) st5 go
        rw [YA] at ti
        refine thnF ti fun r t6 ⟨v, hr, h6⟩ => ?_
        subst hr
        refine thnF h6 fun _ t7 ⟨x, H7, I7, r7, y7, st7, n7⟩ => ?_
        have P7 := I7.pinned (fpY I7 n7) (T.obj _ _ st7)
        have pg1 := pg.run _ t7 _ H7 x v _ P7 r7 (step x H7 y7)
        rw [YA, Yenv, Yxe, Yp, Yw] at pg1
        refine thn pg1 fun _ t8 ⟨σ8, H8, I8, hw8, q8⟩ => ?_
        have pt1 := pt.run _ t8 σ8 H8 _ I8 q8
        rw [YA, Yenv, Yxe, Yp, Yw] at pt1
        refine thn pt1 fun b t9 ⟨H9, I9, q9⟩ => ?_
        have fin : ∀ {t' : Shared} {H' : Hp}, Inv Y ([] ++ pinsAt fp t7.heap) σ8 H' t' → Nx H' → ∃ k, k < n ∧ ∃ j H', Inv Y [] (wipe σ (own.map (·.2))) H' t' ∧ tn j t'.heap ∧ (∀ b ∈ fp, H' b = none) ∧ V j k H' := fun {t' H'} I' nx => by
          obtain ⟨k, hk, v'⟩ := hNx H' nx
          have kept : ∀ b ∈ fp, ∀ o, t7.heap.get? b = some o → t'.heap.get? b = some o ∧ H' b = none := fun b hb o e =>
            let z := I'.pin (b, o) (List.mem_append_right _ (List.mem_append_right _ (mem_pinsAt hb e)))
            ⟨z.1, z.2.1⟩
          refine ⟨k, hk, j + 1, H', (I'.unpinned (pins := [])).weak (by rw [← hw8, wipe_length]) (fun l z e => ?_), T.keep _ _ _ st7 fun b hb o e => (kept b hb o e).1, fun b hb => ?_, v'⟩
          · rw [← hw8] at e; exact (wipe_some e).1
          · obtain ⟨o, e, _⟩ := T.obj _ _ st7 b hb; exact (kept b hb o e).2
        cases b with
        | false =>
          simp only [Bool.false_eq_true, if_false] at q9 ⊢
          exact fin I9 q9
        | true =>
          simp only [if_true] at q9 ⊢
          have pe1 := pe.run _ t9 σ8 H9 _ I9 q9
          rw [YA, Yenv, Yxe, Yp, Yw] at pe1
          refine thn pe1 fun z t10 ⟨yv, H10, I10, r10, acc, hD10, hz10, nx⟩ => ?_
          have ap := app_ok (X := Y) (E := xb) (Q := fun _ t => ∃ k, k < n ∧ ∃ j H', Inv Y [] (wipe σ (own.map (·.2))) H' t ∧ tn j t.heap ∧ (∀ b ∈ fp, H' b = none) ∧ V j k H') I10 hD10 hz10 r10 fun t11 I11 => fin I11 nx
          rw [YA, Yp, Yw] at ap
          exact ap
    exact codeAny_compStart_list loop (T.self X.A 0 _ _ _ st4 loop)
  rw [exec_Assign_Name_used _ _ _ _ hsw]
  refine wpAny_bind (wpAny_standAt (wpAny_bind ?_))
  exact wpAny_bind (thn main fun _ t hq => wpAny_pure (wpAny_pure hq))
end
end DL
/-! texts over data -/
namespace DL
open PySem PySem.Spec PyProof.Rows L2
section
variable {X : Cx} {G : Gx} {e a b c o tg : Expr} {es : List Expr} {f fa fb fc fo : TD} {pos p apos pos' : Pos} {n : Nat} {g : TDA}
theorem DvA.strs {C : Hp} : ∀ {ys : List Str} {vs : List V}, DvA C (ys.map PyData.str) vs → vs = ys.map V.str
  | [], _, h => h
  | n :: ns, _, ⟨w, ws, h1, h2, h3⟩ => by cases h1; cases h2; rw [DvA.strs h3]; rfl
theorem DvA.of_strs {C : Hp} : ∀ (ys : List Str), DvA C (ys.map PyData.str) (ys.map V.str)
  | [] => rfl
  | n :: ns => ⟨_, _, rfl, rfl, DvA.of_strs ns⟩
/-! ### name = [f(x) for ..] that may raise -/
theorem s_setLcX {own : List (Str × Nat)} {i : Nat} {y : Str} {py spos : Pos} {elt iter : Expr} {ifs : List Expr} {scope : Scope} {f : TDI} {t : Tg} {ft : TDT} {fe : TD} (tk : L2N.Takes X fun cls d _ H => G.E cls d H) (hstk : X.stack = X.env :: X.outer) (hfr : X.env.frame = some X.env.locals) (hc : X.calm = true) (hN : X.N.Nodup) (hy : X.N[i]? = some y) (hyl : X.env.scope.names.lookup y = some .local)
    (hsw : swapsWith (.ListComp elt [⟨tg, iter, ifs, 0⟩] scope pos) (some (.Name y py)) spos.line X.env = pure true) (hi : PI X tg iter (iD G f)) (ok : BlkOk X.N X.env.scope scope own)
    (hg : ∀ (s : Shared) (H : Hp) (C : Addr) (cl : List (Str × Addr)) (fp : List Addr) (xe : Value → Shared → Prop), PG ((X.blk s H scope (compEnvC scope cl C X.env) fp).tr [] xe) tg (gD G (own.map (·.2)) t))
    (ht : ∀ (s : Shared) (H : Hp) (C : Addr) (cl : List (Str × Addr)) (fp : List Addr) (xe : Value → Shared → Prop), PTs ((X.blk s H scope (compEnvC scope cl C X.env) fp).tr [] xe) ifs (tDT G ft))
    (he : ∀ (s : Shared) (H : Hp) (C : Addr) (cl : List (Str × Addr)) (fp : List Addr) (xe : Value → Shared → Prop), Passes (L2N.CX X.prog X.w) ((X.blk s H scope (compEnvC scope cl C X.env) fp).tr [] xe) G.E → PE ((X.blk s H scope (compEnvC scope cl C X.env) fp).tr [] xe) elt (tD G fe))
    (hs : ∀ x, foldedSetIterable iter X.env x = pure x := by intro _; rfl) : PS X (.Assign [.Name y py] (.ListComp elt [⟨tg, iter, ifs, 0⟩] scope pos) spos) (sD G (dSet i (dComp (own.map (·.2)) f t ft fe))) :=
  ps_weak (ps_setLcX tk (fun _ _ _ _ h => h) hstk hfr hc hN hy hyl hsw hi ok hg ht he hs) fun D σ H h => w_lc (w_set h)
/-! ### str(i), int(s) -/
def oStrI : OpC := fun xs _ Q => match xs with
  | [.da (.int i)] => (-1000000 ≤ i ∧ i ≤ 1000000) ∧ Q (.str (Str.ofString (toString i)))
  | _ => False
theorem log_small {i : Int} (h1 : -1000000 ≤ i) (h2 : i ≤ 1000000) : i.natAbs.log2 < 1920 := by
  by_cases z : i.natAbs = 0
  · rw [z]; decide
  · exact Nat.lt_trans ((Nat.log2_lt z).mpr (show i.natAbs < 2 ^ 20 by omega)) (by decide)
theorem ok_strI : OkC (fun xs H Q => ∃ i : Int, xs = [V.int i] ∧ i.natAbs.log2 < 1920 ∧ Q (.str (Str.ofString (toString i))) H) oStrI := fun {mg As C H τ xs vs Q Qd} b ha o k => by
  match xs, ha, o with
  | [.da (.int i)], ha, ⟨⟨h1, h2⟩, q⟩ =>
    obtain ⟨v, rfl, hv⟩ := arg1 ha
    have e : v = .int i := VOk.dv hv
    exact ⟨i, by rw [e], log_small h1 h2, k C H _ (.str (Str.ofString (toString i))) (Step.refl _ _ _) b rfl q⟩
theorem d_strI (ha : PA X [a] (tDA G n g)) (hm : X.mg "str" = none) (hg : Gl X "str" := by rfl) (he : starEach [a] X.env = (false, eval a X.env) :: starEach [] X.env := by rfl) (hpl : (backTo pos (starEach [] X.env)).any (·.1) = false := by rfl) : PE X (.Call (.Name "str" p) [a] [] pos) (tD G (dCB oStrI g)) :=
  d_callTy call_str_int ok_strI hg hm (by decide +kernel) ha (by decide) (by decide) he hpl
def oInt : OpC := fun xs _ Q => match xs with
  | [.da (.str z)] => ∃ i, PySem.intText? z = some i ∧ z.length ≤ 640 ∧ Q (.int i)
  | _ => False
theorem ok_int : OkC (fun xs H Q => ∃ a n, xs = [V.str a] ∧ PySem.intText? a = some n ∧ a.length ≤ 640 ∧ Q (.int n) H) oInt := fun {mg As C H τ xs vs Q Qd} b ha o k => by
  match xs, ha, o with
  | [.da (.str z)], ha, ⟨i, h1, h2, q⟩ =>
    obtain ⟨v, rfl, hv⟩ := arg1 ha
    have e : v = .str z := VOk.dv hv
    exact ⟨z, i, by rw [e], h1, h2, k C H _ (.int i) (Step.refl _ _ _) b rfl q⟩
theorem d_int1 (ha : PA X [a] (tDA G n g)) (hm : X.mg "int" = none) (hg : Gl X "int" := by rfl) (he : starEach [a] X.env = (false, eval a X.env) :: starEach [] X.env := by rfl) (hpl : (backTo pos (starEach [] X.env)).any (·.1) = false := by rfl) : PE X (.Call (.Name "int" p) [a] [] pos) (tD G (dCB oInt g)) :=
  d_callTy call_int_str ok_int hg hm (by decide +kernel) ha (by decide) (by decide) he hpl
/-! ### s.join(l), s.split(t) -/
def dM_join (fa fb : TD) : TD := fun ρ τ Q er => fa ρ τ (fun x τ1 => match x with
  | .da (.str z) => fb ρ τ1 (fun y τ2 => match dat τ2 y with
    | some (.list ds) => ∃ ys : List Str, ds = ys.map .str ∧ ((ys.map (·.length)).sum + ys.length * z.length ≤ 100000) ∧ Q (.da (.str (Txt.join z ys))) τ2
    | _ => False) er
  | _ => False) er
theorem d_m_join (ha : PE X a (tD G fa)) (hb : PE X b (tD G fb)) (hs : starEach [b] X.env = [(false, eval b X.env)] := by rfl) (hbase : attributeBase a "join" X.env (eval a X.env) = eval a X.env := by rfl) (hline : (apos.endLine == pos.line) = true := by rfl) :
    PE X (.Call (.Attribute a "join" apos) [b] [] pos) (tD G (dM_join fa fb)) := pe_weak (pe_join ha hb hs hbase hline) fun σ H Q h => by
  obtain ⟨C, As, ρ, τ, Qd, R, hf, k⟩ := h
  refine ⟨C, As, ρ, τ, _, R, hf, fun C1 H1 v x τ1 s1 R1 d1 q1 => ?_⟩
  match x, d1, q1 with
  | .da (.str z), d1, q1 =>
    have e : v = .str z := VOk.dv d1
    refine ⟨⟨z, e⟩, C1, As, ρ, τ1, _, R1, q1, fun C2 H2 w y τ2 s2 R2 d2 q2 => ?_⟩
    cases q : dat τ2 y with
    | none => rw [q] at q2; exact q2.elim
    | some d =>
      rw [q] at q2
      match d, q, q2 with
      | .list ds, q, ⟨ys, g1, g2, g3⟩ =>
        obtain ⟨p, vs, e1, e2, e3⟩ := lst_ok R2.base d2 q
        rw [g1] at e3
        refine ⟨z, p, ys, e, by rw [e1], .inl (by rw [← e3.strs]; exact SqL.of e2), Nat.le_trans g2 (by decide), ?_⟩
        exact k C2 H2 _ (.da (.str (Txt.join z ys))) τ2 (s1.trans s2) R2 ⟨_, rfl, rfl⟩ g3
def dM_split (fa fb : TD) : TD := fun ρ τ Q er => fa ρ τ (fun x τ1 => match x with
  | .da (.str z) => fb ρ τ1 (fun y τ2 => match y with
    | .da (.str w) => (w.length == 0) = false ∧ z.length ≤ 100000 ∧ Q (.da (.list ((Txt.split z w).map .str))) τ2
    | _ => False) er
  | _ => False) er
theorem d_m_split (ha : PE X a (tD G fa)) (hb : PE X b (tD G fb)) (hs : starEach [b] X.env = [(false, eval b X.env)] := by rfl) (hbase : attributeBase a "split" X.env (eval a X.env) = eval a X.env := by rfl) (hline : (apos.endLine == pos.line) = true := by rfl) :
    PE X (.Call (.Attribute a "split" apos) [b] [] pos) (tD G (dM_split fa fb)) := pe_weak (pe_split ha hb hs hbase hline) fun σ H Q h => by
  obtain ⟨C, As, ρ, τ, Qd, R, hf, k⟩ := h
  refine ⟨C, As, ρ, τ, _, R, hf, fun C1 H1 v x τ1 s1 R1 d1 q1 => ?_⟩
  match x, d1, q1 with
  | .da (.str z), d1, q1 =>
    have e : v = .str z := VOk.dv d1
    refine ⟨⟨z, e⟩, C1, As, ρ, τ1, _, R1, q1, fun C2 H2 w y τ2 s2 R2 d2 q2 => ?_⟩
    match y, d2, q2 with
    | .da (.str u), d2, ⟨g1, g2, g3⟩ =>
      have e' : w = .str u := VOk.dv d2
      have hsl : 100000 + 2 ≤ sizeLine := by decide
      have hz : ((Txt.split z u).map V.str).length ≤ sizeLine := by rw [List.length_map]; exact Nat.le_trans (PyProof.Rows.split_le z u) (by omega)
      refine ⟨z, u, e, by rw [e'], g1, by omega, fun p hp => ?_⟩
      have st := Step.new (As := As) (o := .lst ((Txt.split z u).map V.str)) hp R2.base.core
      exact k _ _ _ (.da (.list ((Txt.split z u).map .str))) τ2 ((s1.trans s2).trans st) (R2.go st (R2.base.new hp hz)) ⟨_, rfl, p, _, rfl, upd_same, DvA.of_strs _⟩ g3
/-! ### one sign in a text -/
def oInS : Op2 := fun x y τ Q => match x, y with
  | .da (.str w), .da (.str z) => ∃ c : Nat, w = ⟨#[c]⟩ ∧ Q (.bool (decide (c ∈ z.cps.toList)))
  | _, _ => False
theorem ok_inS : OkR (fun x y H Q => ∃ (c : Nat) (z : Str), x = V.str ⟨#[c]⟩ ∧ y = V.str z ∧ Q (.bl (decide (c ∈ z.cps.toList))) H) oInS := fun {mg As C H τ x y vx vy Q Qd} b hx hy o k => by
  match x, y, hx, hy, o with
  | .da (.str w), .da (.str z), hx, hy, ⟨c, e, q⟩ =>
    have e1 : vx = .str w := VOk.dv hx
    have e2 : vy = .str z := VOk.dv hy
    exact ⟨c, z, by rw [e1, e], e2, k C H _ (.bool (decide (c ∈ z.cps.toList))) (Step.refl _ _ _) b rfl q⟩
theorem d_inS (ha : PE X a (tD G fa)) (hb : PE X b (tD G fb)) (hm : behindInMarks .In b = false := by rfl) : PE X (.Compare a [.In] [b] pos) (tD G (dBin oInS fa fb)) := d_cmp op_in_sign ok_inS ha hb hm
theorem t_inS (ha : PE X a (tD G fa)) (hb : PE X b (tD G fb)) (hm : behindInMarks .In b = false := by rfl) : PT X (.Compare a [.In] [b] pos) (tDT G (dB (dBin oInS fa fb))) := d_tcmp op_in_sign ok_inS ha hb hm
/-! ### the signs of a text -/
def signsD (z : Str) : List PyData := z.cps.toList.map fun c => .str ⟨#[c]⟩
def dIStr (f : TD) : TDI := fun ρ τ Q er => f ρ τ (fun r τ1 => match r with
  | .da (.str z) => z.length ≤ 100000 ∧ Q (signsD z) τ1
  | _ => False) er
theorem i_str (hl : PE X a (tD G f)) : PI X tg a (iD G (dIStr f)) := pi_weak (pi_str hl) fun σ H R h => by
  obtain ⟨C, As, ρ, τ, Qd, Rl, hf, k⟩ := h
  refine ⟨C, As, ρ, τ, _, Rl, hf, fun C1 H1 v r τ1 s1 R1 d1 q1 => ?_⟩
  match r, d1, q1 with
  | .da (.str z), d1, ⟨hz, q1⟩ =>
    have e : v = .str z := VOk.dv d1
    have ln : (signsD z).length = z.cps.size := by simp [signsD]
    have hsl : 100000 ≤ sizeLine := by decide
    refine ⟨z, e, k C1 H1 _ (signsD z) τ1 s1 R1 ⟨fun i H2 _ l => ?_, fun i H2 d _ hi => ?_⟩ (by rw [ln]; exact Nat.le_trans hz hsl) q1⟩
    · rw [ln] at l; exact l
    · have hi2 : i < z.cps.size := by rw [← ln]; exact (List.getElem?_eq_some_iff.mp hi).1
      refine ⟨hi2, fun x H3 ⟨h1, c, h2, h3⟩ => .inl ⟨h1, ?_⟩⟩
      have hq : (signsD z)[i]? = some (.str ⟨#[c]⟩) := by
        unfold signsD
        rw [List.getElem?_map, Array.getElem?_toList, h2]
        rfl
      rw [hq] at hi
      cases hi
      exact h3
/-! ### a text's slice -/
def dSlS (f : TD) (l h : TDO) : TD := fun ρ τ Q er => f ρ τ (fun x τ1 => match x with
  | .da (.str z) => l ρ τ1 (fun lo τ2 => h ρ τ2 (fun hi τ3 => z.length ≤ 100000 ∧ Q (.da (.str (cutS z lo hi))) τ3) er) er
  | _ => False) er
theorem d_sliceS {lo hi : Option Expr} {p2 : Pos} {l h : TDO} (he : PE X e (tD G f)) (hl : PO X lo (oD G l)) (hh : PO X hi (oD G h)) : PE X (.Subscript e (.Slice lo hi none p2) pos) (tD G (dSlS f l h)) :=
  pe_weak (pe_slice sl_str he hl hh) fun σ H Q hw => by
    obtain ⟨C, As, ρ, τ, Qd, R, hf, k⟩ := hw
    refine ⟨C, As, ρ, τ, _, R, hf, fun C1 H1 v x τ1 s1 R1 d1 q1 => ?_⟩
    match x, d1, q1 with
    | .da (.str z), d1, q1 =>
      have e : v = .str z := VOk.dv d1
      have hsl : 100000 ≤ sizeLine := by decide
      exact ⟨C1, As, ρ, τ1, _, R1, q1, fun C2 H2 lo τ2 s2 R2 q2 => ⟨C2, As, ρ, τ2, _, R2, q2, fun C3 H3 hi τ3 s3 R3 q3 => ⟨z, e, Nat.le_trans q3.1 hsl, k C3 H3 _ (.da (.str (cutS z lo hi))) τ3 ((s1.trans s2).trans s3) R3 ⟨_, rfl, rfl⟩ q3.2⟩⟩⟩
end
end DL
namespace DL
open PySem PySem.Spec PyProof.Rows L2 HotX L2H LamX
def isWhole (v : PyData) (lo hi : Int) : Bool := match v with
  | .int i => decide (lo ≤ i) && decide (i ≤ hi)
  | _ => false
theorem isWhole_int (i lo hi : Int) : isWhole (.int i) lo hi = (decide (lo ≤ i) && decide (i ≤ hi)) := rfl
theorem isWhole_true {v : PyData} {lo hi : Int} (h : isWhole v lo hi = true) : ∃ i, v = .int i ∧ lo ≤ i ∧ i ≤ hi := by
  cases v with
  | int i =>
    have h : (decide (lo ≤ i) && decide (i ≤ hi)) = true := h
    simp only [Bool.and_eq_true, decide_eq_true_eq] at h
    exact ⟨i, rfl, h.1, h.2⟩
  | _ => exact absurd h Bool.false_ne_true
/-- ints alone -/
def intsOf : List PyData → Option (List Int)
  | [] => some []
  | .int i :: r => match intsOf r with
    | some ns => some (i :: ns)
    | none => none
  | _ :: _ => none
theorem intsOf_map : ∀ ns : List Int, intsOf (ns.map .int) = some ns
  | [] => rfl
  | n :: ns => by show (match intsOf (ns.map .int) with | some ns => some (n :: ns) | none => none) = _; rw [intsOf_map ns]
theorem intsOf_some : ∀ {ds : List PyData} {ns : List Int}, intsOf ds = some ns → ds = ns.map .int
  | [], _, h => by cases h; rfl
  | .int i :: r, ns, h => by
    have h : (match intsOf r with | some ns => some (i :: ns) | none => none) = some ns := h
    cases q : intsOf r with
    | none => rw [q] at h; cases h
    | some ms => rw [q] at h; cases h; rw [intsOf_some q]; rfl
  | .none :: r, _, h => by cases h
  | .bool _ :: r, _, h => by cases h
  | .str _ :: r, _, h => by cases h
  | .list _ :: r, _, h => by cases h
  | .tuple _ :: r, _, h => by cases h
  | .dict _ :: r, _, h => by cases h
theorem all_whole_ints {lo hi : Int} : ∀ {ds : List PyData}, ds.all (fun v => isWhole v lo hi) = true → ∃ ns : List Int, ds = ns.map PyData.int ∧ ∀ n ∈ ns, lo ≤ n ∧ n ≤ hi
  | [], _ => ⟨[], rfl, by simp⟩
  | d :: ds, h => by
    simp only [List.all_cons, Bool.and_eq_true] at h
    obtain ⟨i, rfl, h1, h2⟩ := isWhole_true h.1
    obtain ⟨ns, rfl, h3⟩ := all_whole_ints h.2
    exact ⟨i :: ns, rfl, by simp only [List.mem_cons]; rintro n (rfl | hn); exact ⟨h1, h2⟩; exact h3 n hn⟩
theorem all_whole_of {lo hi : Int} {ns : List Int} (h : ∀ n ∈ ns, lo ≤ n ∧ n ≤ hi) : (ns.map PyData.int).all (fun v => isWhole v lo hi) = true := by
  rw [List.all_map, List.all_eq_true]
  intro n hn
  show (decide (lo ≤ n) && decide (n ≤ hi)) = true
  simp [h n hn]
/-- x < y < .. : by neighbours -/
def asc (r : Int → Int → Bool) : List Int → Bool
  | x :: y :: t => r x y && asc r (y :: t)
  | _ => true
def bD (w : Int) (ps : List Int) : PyData := .tuple [.int w, .tuple (ps.map .int)]
def okB (w : Int) (ps : List Int) : Bool := decide (1 ≤ w) && decide (w ≤ 12) && decide (ps.length ≤ 5) && ps.all (fun p => decide (1 ≤ p) && decide (p ≤ w - 1)) && asc (fun x y => decide (x < y)) ps
/-- a tuple of an int and a tuple of ints -/
def asB : PyData → Option (Int × List Int)
  | .tuple [.int w, .tuple ds] => match intsOf ds with
    | some ns => some (w, ns)
    | none => none
  | _ => none
theorem asB_bD (w : Int) (ps : List Int) : asB (bD w ps) = some (w, ps) := by
  show (match intsOf (ps.map .int) with | some ns => some (w, ns) | none => none) = _
  rw [intsOf_map]
def brookOf (v : PyData) : Option (Int × List Int) := match asB v with
  | some (w, ps) => if okB w ps = true then some (w, ps) else none
  | none => none
theorem brookOf_bD {w : Int} {ps : List Int} (h : okB w ps = true) : brookOf (bD w ps) = some (w, ps) := by
  unfold brookOf
  rw [asB_bD]
  exact if_pos h
def isBrook (v : PyData) : Bool := (brookOf v).isSome
theorem asB_some {v : PyData} {w : Int} {ps : List Int} (h : asB v = some (w, ps)) : v = bD w ps := by
  unfold asB at h
  split at h
  · rename_i w' ds
    split at h
    · rename_i ns hn
      cases h
      rw [intsOf_some hn]
      rfl
    · cases h
  · cases h
theorem brookOf_some {v : PyData} {w : Int} {ps : List Int} (h : brookOf v = some (w, ps)) : v = bD w ps ∧ okB w ps = true := by
  unfold brookOf at h
  split at h
  · rename_i w' ps' q
    split at h
    · rename_i hk
      cases h
      exact ⟨asB_some q, hk⟩
    · cases h
  · cases h
theorem okB_spec {w : Int} {ps : List Int} : okB w ps = true ↔ (1 ≤ w ∧ w ≤ 12 ∧ ps.length ≤ 5 ∧ (∀ p ∈ ps, 1 ≤ p ∧ p ≤ w - 1) ∧ asc (fun x y => decide (x < y)) ps = true) := by
  unfold okB
  simp only [Bool.and_eq_true, decide_eq_true_eq, List.all_eq_true]
  constructor
  · rintro ⟨⟨⟨⟨a, b⟩, c⟩, d⟩, e⟩; exact ⟨a, b, c, d, e⟩
  · rintro ⟨a, b, c, d, e⟩; exact ⟨⟨⟨⟨a, b⟩, c⟩, d⟩, e⟩
theorem asc_pairwise : ∀ {l : List Int}, asc (fun x y => decide (x < y)) l = true ↔ l.Pairwise (· < ·)
  | [] => by simp [asc]
  | [x] => by simp [asc]
  | x :: y :: t => by
    have ih := asc_pairwise (l := y :: t)
    show (decide (x < y) && asc _ (y :: t)) = true ↔ _
    rw [Bool.and_eq_true, decide_eq_true_eq, ih]
    constructor
    · rintro ⟨h1, h2⟩
      refine List.Pairwise.cons (fun z hz => ?_) h2
      rcases List.mem_cons.mp hz with rfl | hz
      · exact h1
      · exact Int.lt_trans h1 (List.rel_of_pairwise_cons h2 hz)
    · intro h
      exact ⟨List.rel_of_pairwise_cons h List.mem_cons_self, (List.pairwise_cons.mp h).2⟩
theorem ascLe_pairwise : ∀ {l : List Int}, asc (fun x y => decide (x ≤ y)) l = true ↔ l.Pairwise (· ≤ ·)
  | [] => by simp [asc]
  | [x] => by simp [asc]
  | x :: y :: t => by
    have ih := ascLe_pairwise (l := y :: t)
    show (decide (x ≤ y) && asc _ (y :: t)) = true ↔ _
    rw [Bool.and_eq_true, decide_eq_true_eq, ih]
    constructor
    · rintro ⟨h1, h2⟩
      refine List.Pairwise.cons (fun z hz => ?_) h2
      rcases List.mem_cons.mp hz with rfl | hz
      · exact h1
      · exact Int.le_trans h1 (List.rel_of_pairwise_cons h2 hz)
    · intro h
      exact ⟨List.rel_of_pairwise_cons h List.mem_cons_self, (List.pairwise_cons.mp h).2⟩
/-- [xs[at] < xs[at + 1] for at in range(len(xs) - 1)] -/
def steps (r : Int → Int → Bool) : List Int → List Bool
  | x :: y :: t => r x y :: steps r (y :: t)
  | _ => []
theorem steps_all (r : Int → Int → Bool) : ∀ l : List Int, (steps r l).all id = asc r l
  | [] => rfl
  | [_] => rfl
  | x :: y :: t => by
    show (r x y && (steps r (y :: t)).all id) = _
    rw [steps_all r (y :: t)]
    rfl
theorem steps_length (r : Int → Int → Bool) : ∀ l : List Int, (steps r l).length = l.length - 1
  | [] => rfl
  | [_] => rfl
  | x :: y :: t => by
    show (steps r (y :: t)).length + 1 = _
    rw [steps_length r (y :: t)]
    simp
theorem steps_get (r : Int → Int → Bool) : ∀ (l : List Int) (i : Nat) (x y : Int), l[i]? = some x → l[i + 1]? = some y → (steps r l)[i]? = some (r x y)
  | [], _, _, _, h, _ => by simp at h
  | [_], 0, _, _, _, h => by simp at h
  | [_], i + 1, _, _, h, _ => by simp at h
  | a :: b :: t, 0, x, y, h, h2 => by
    have e1 : a = x := Option.some.inj h
    have e2 : b = y := Option.some.inj h2
    rw [← e1, ← e2]
    rfl
  | a :: b :: t, i + 1, x, y, h, h2 => steps_get r (b :: t) i x y h h2
theorem atI_ints {ns : List Int} {j : Nat} {x : Int} (h : ns[j]? = some x) : atI (ns.map PyData.int) (j : Int) = some (.int x) := atI_nat (by rw [List.getElem?_map, h]; rfl)
/-- the comprehension of neighbours -/
theorem comp_steps {t : Tg} {fe : TD} {ρ : Ds} {Q : Sl → Rs → Prop} {er : Str → Rs → Prop} {τ : Rs} (r : Int → Int → Bool) (ns : List Int)
    (hs : ∀ (i : Nat) (x y : Int), ns[i]? = some x → ns[i + 1]? = some y → ∀ (A : Sl → Rs → Prop), A (.da (.bool (r x y))) τ → t (.int (0 + (i : Int))) ρ fun ρ1 => fe ρ1 τ A er) (q : Q (.da (.list ((steps r ns).map .bool))) τ) : compD t dYes fe ρ Q er (rangeL 0 (ns.length - 1)) τ [] := by
  have key : ∀ (k m : Nat) (acc : List PyData), k + m = ns.length - 1 → acc = ((steps r ns).take k).map .bool → compD t dYes fe ρ Q er ((List.range' k m).map fun i : Nat => PyData.int (0 + (i : Int))) τ acc := by
    intro k m
    induction m generalizing k with
    | zero =>
      intro acc e ea
      show Q (.da (.list acc)) τ
      rw [ea, List.take_of_length_le (by rw [steps_length]; omega)]
      exact q
    | succ m ih =>
      intro acc e ea
      obtain ⟨x, hx⟩ : ∃ x, ns[k]? = some x := ⟨ns[k]'(by omega), by simp⟩
      obtain ⟨y, hy⟩ : ∃ y, ns[k + 1]? = some y := ⟨ns[k + 1]'(by omega), by simp⟩
      refine hs k x y hx hy (fun z τ2 => match z with
        | .da z => compD t dYes fe ρ Q er ((List.range' (k + 1) m).map fun i : Nat => PyData.int (0 + (i : Int))) τ2 (acc ++ [z])
        | _ => False) ?_
      refine ih (k + 1) _ (by omega) ?_
      have hg := steps_get r ns k x y hx hy
      rw [ea, List.take_add_one, hg]
      simp
  have := key 0 (ns.length - 1) [] (by omega) (by simp)
  unfold rangeL
  rw [List.range_eq_range']
  exact this
def p_is_whole : Pf := fun ds Q _ => match ds with
  | [v, .int lo, .int hi] => Q (.bool (isWhole v lo hi))
  | _ => False
def N_is_whole : List Str := [Str.ofString "value", Str.ofString "low", Str.ofString "high"]
def body_is_whole : TDS := dRet (dAnd (dIsi isInt (dVar 0)) (dAnd (dNot (dIsi isBool (dVar 0))) (dChain oLe oLe (dVar 1) (dVar 0) (dVar 2))))

theorem wp_is_whole : ∀ ds Qa Er, p_is_whole ds Qa Er → body_is_whole (startD N_is_whole (ds.map Sl.da)) [] { nx := fun _ _ => Qa .none, rt := fun d _ => Qa d, er := fun n _ => Er n } := by
  intro ds Qa Er h
  match ds, h with
  | [v, .int lo, .int hi], h =>
    cases v with
    | int i =>
      show if decide (lo ≤ i) = true then _ else _
      have h : Qa (.bool (decide (lo ≤ i) && decide (i ≤ hi))) := h
      by_cases h1 : lo ≤ i
      · rw [if_pos (decide_eq_true h1)]
        rw [decide_eq_true h1] at h
        exact h
      · rw [if_neg (by simpa using h1)]
        rw [decide_eq_false h1] at h
        exact h
    | bool b => exact h
    | none => exact h
    | str _ => exact h
    | list _ => exact h
    | tuple _ => exact h
    | dict _ => exact h
theorem len_is_whole : ∀ ds Qa Er, p_is_whole ds Qa Er → ds.length = 3 := fun ds Qa Er h => by
  match ds, h with
  | [v, .int lo, .int hi], h => rfl
def p_is_brook : Pf := fun ds Q _ => match ds with
  | [v] => Q (.bool (isBrook v))
  | _ => False
def N_is_brook : List Str := [Str.ofString "value", Str.ofString "width", Str.ofString "piers", Str.ofString "one", Str.ofString "at"]
def body_is_brook : TDS := dSeq (dIfS (dOrT (dNotT (dB (dIsi isTuple (dVar 0)))) (dOrT (dB (dBin oNe (dCB oLen (dCons (dVar 0) (dNil))) (dC (.int 2)))) (dNotT (dB (dCallP p_is_whole (dCons (dBin oIx (dVar 0) (dC (.int 0))) (dCons (dC (.int 1)) (dCons (dC (.int 12)) (dNil))))))))) (dRet (dC (.bool false))) (dNext))
  (dSeq (dAsg (dVar 0) (gTup 2 (gCons (gName 1) (gCons (gName 2) (gNil)))))
  (dSeq (dIfS (dOrT (dNotT (dB (dIsi isTuple (dVar 2)))) (dOrT (dB (dBin oGt (dCB oLen (dCons (dVar 2) (dNil))) (dC (.int 5)))) (dNotT (dB (dCB oAll (dCons (dComp [3] (dISeq (dVar 2)) (gName 3) (dYes) (dCallPN p_is_whole (dCons (dVar 3) (dCons (dC (.int 1)) (dCons (dBin oSub (dVar 1) (dC (.int 1))) (dNil)))))) (dNil))))))) (dRet (dC (.bool false))) (dNext))
  (dRet (dCB oAll (dCons (dComp [4] (dIRng1 (dCons (dBin oSub (dCB oLen (dCons (dVar 2) (dNil))) (dC (.int 1))) (dNil))) (gName 4) (dYes) (dBin oLt (dBin oIx (dVar 2) (dVar 4)) (dBin oIx (dVar 2) (dBin oPlus (dVar 4) (dC (.int 1)))))) (dNil))))))

theorem isBrook_pair {x : PyData} {ps : List PyData} {w : Int} (hx : x = .int w) (h1 : 1 ≤ w ∧ w ≤ 12) {ns : List Int} (hps : ps = ns.map .int) (hl : ns.length ≤ 5) (ha : ∀ n ∈ ns, 1 ≤ n ∧ n ≤ w - 1) : isBrook (.tuple [x, .tuple ps]) = asc (fun x y => decide (x < y)) ns := by
  subst hx hps
  show (brookOf (bD w ns)).isSome = _
  unfold brookOf
  rw [asB_bD]
  show (if okB w ns = true then some (w, ns) else none).isSome = _
  cases q : asc (fun x y => decide (x < y)) ns with
  | true => rw [if_pos (okB_spec.mpr ⟨h1.1, h1.2, hl, ha, q⟩)]; rfl
  | false =>
    rw [if_neg]
    · rfl
    · intro z
      have := (okB_spec.mp z).2.2.2.2
      rw [q] at this
      cases this
theorem isBrook_false {v : PyData} (h : ∀ w ps, v = bD w ps → okB w ps = true → False) : isBrook v = false := by
  unfold isBrook
  cases q : brookOf v with
  | none => rfl
  | some p =>
    obtain ⟨w, ps⟩ := p
    obtain ⟨a, b⟩ := brookOf_some q
    exact (h w ps a b).elim
theorem wp_is_brook : ∀ ds Qa Er, p_is_brook ds Qa Er → body_is_brook (startD N_is_brook (ds.map Sl.da)) [] { nx := fun _ _ => Qa .none, rt := fun d _ => Qa d, er := fun n _ => Er n } := by
  intro ds Qa Er h
  match ds, h with
  | [v], h =>
    have h : Qa (.bool (isBrook v)) := h
    by_cases hv : ∃ xs, v = .tuple xs
    · obtain ⟨xs, rfl⟩ := hv
      match xs, h with
      | [], h =>
        rw [isBrook_false (fun w ps e _ => by cases e)] at h
        exact ⟨⟨rfl, rfl⟩, h⟩
      | [x], h =>
        rw [isBrook_false (fun w ps e _ => by cases e)] at h
        exact ⟨⟨rfl, rfl⟩, h⟩
      | x :: y :: z :: t, h =>
        rw [isBrook_false (fun w ps e _ => by cases e)] at h
        have hb : (!PyData.eqv (.int (((x :: y :: z :: t).length : Nat) : Int)) (.int 2)) = true := by
          simp [PyData.eqv]; omega
        refine ⟨⟨rfl, rfl⟩, ?_⟩
        show if (!PyData.eqv (.int (((x :: y :: z :: t).length : Nat) : Int)) (.int 2)) = true then _ else _
        rw [if_pos hb]
        exact h
      | [x, y], h =>
        refine ⟨⟨rfl, rfl⟩, ?_⟩
        show if (!isWhole x 1 12) = true then _ else _
        by_cases hx : isWhole x 1 12 = true
        · obtain ⟨w, rfl, h1, h2⟩ := isWhole_true hx
          rw [if_neg (by rw [hx]; decide)]
          refine ⟨rfl, ?_⟩
          by_cases hy : ∃ ps, y = .tuple ps
          · obtain ⟨ps, rfl⟩ := hy
            show if decide ((5 : Int) < ((ps.length : Nat) : Int)) = true then _ else _
            by_cases hl : ps.length ≤ 5
            · rw [if_neg (by simp; omega)]
              refine compD_map (fun d => .bool (isWhole d 1 (w - 1))) ps (fun d hd A hA => hA) ?_
              refine ⟨ps.map fun d => isWhole d 1 (w - 1), by show some _ = some _; rw [List.map_map]; rfl, ?_⟩
              show if (!(ps.map fun d => isWhole d 1 (w - 1)).all id) = true then _ else _
              have ea : (ps.map fun d => isWhole d 1 (w - 1)).all id = ps.all (fun d => isWhole d 1 (w - 1)) := by rw [List.all_map]; rfl
              rw [ea]
              cases qa : ps.all (fun d => isWhole d 1 (w - 1)) with
              | false =>
                refine ifT rfl ?_
                rw [isBrook_false (fun w' ns e ok => ?_)] at h
                · exact h
                · injection e with e
                  injection e with e1 e2
                  injection e1 with e1
                  injection e2 with e2 _
                  injection e2 with e2
                  subst e1 e2
                  have := all_whole_of (lo := 1) (hi := w - 1) (ns := ns) (fun n hn => (okB_spec.mp ok).2.2.2.1 n hn)
                  rw [qa] at this
                  cases this
              | true =>
                refine ifF rfl ?_
                obtain ⟨ns, rfl, hn⟩ := all_whole_ints qa
                rw [List.length_map] at hl
                rw [isBrook_pair rfl ⟨h1, h2⟩ rfl hl hn, ← steps_all] at h
                have el : (((ns.map PyData.int).length : Nat) : Int) - 1 = (ns.length : Int) - 1 := by simp
                refine ⟨?_, ?_⟩
                · show -1000 ≤ (((ns.map PyData.int).length : Nat) : Int) - 1 ∧ (((ns.map PyData.int).length : Nat) : Int) - 1 ≤ 1000
                  rw [el]; omega
                · show compD _ _ _ _ _ _ (rangeL 0 ((((ns.map PyData.int).length : Nat) : Int) - 1).toNat) _ _
                  have et : ((((ns.map PyData.int).length : Nat) : Int) - 1).toNat = ns.length - 1 := by rw [el]; omega
                  rw [et]
                  refine comp_steps (fun x y => decide (x < y)) ns (fun i x y hx hy A hA => ?_) ⟨_, rfl, h⟩
                  have a1 : atI (ns.map PyData.int) (0 + (i : Int)) = some (.int x) := by rw [Int.zero_add]; exact atI_ints hx
                  have a2 : atI (ns.map PyData.int) (0 + (i : Int) + 1) = some (.int y) := by rw [Int.zero_add]; exact atI_ints hy
                  show (match atI (ns.map PyData.int) (0 + (i : Int)) with
                    | some d => _
                    | none => False)
                  rw [a1]
                  show (match atI (ns.map PyData.int) (0 + (i : Int) + 1) with
                    | some d => _
                    | none => False)
                  rw [a2]
                  exact hA
            · rw [if_pos (by simp; omega)]
              rw [isBrook_false (fun w' ns e ok => ?_)] at h
              · exact h
              · injection e with e
                injection e with e1 e2
                injection e2 with e2 _
                injection e2 with e2
                subst e2
                have := (okB_spec.mp ok).2.2.1
                rw [List.length_map] at hl
                exact hl this
          · rw [isBrook_false (fun w' ns e ok => hy ⟨ns.map .int, by injection e with e; injection e with e1 e2; injection e2⟩)] at h
            cases y with
            | tuple ps => exact absurd ⟨ps, rfl⟩ hy
            | none => exact h
            | bool _ => exact h
            | int _ => exact h
            | str _ => exact h
            | list _ => exact h
            | dict _ => exact h
        · rw [if_pos (by simpa using hx)]
          rw [isBrook_false (fun w' ns e ok => ?_)] at h
          · exact h
          · injection e with e
            injection e with e1 e2
            subst e1
            have := okB_spec.mp ok
            refine hx ?_
            rw [isWhole_int]
            simp [this.1, this.2.1]
    · rw [isBrook_false (fun w ps e _ => hv ⟨_, e⟩)] at h
      cases v with
      | tuple xs => exact absurd ⟨xs, rfl⟩ hv
      | none => exact h
      | bool _ => exact h
      | int _ => exact h
      | str _ => exact h
      | list _ => exact h
      | dict _ => exact h
theorem len_is_brook : ∀ ds Qa Er, p_is_brook ds Qa Er → ds.length = 1 := fun ds Qa Er h => by
  match ds, h with
  | [v], h => rfl
def p_need_brook : Pf := fun ds Q E => match ds with
  | [v] => if isBrook v = true then Q .none else E (Str.ofString "InvalidBrook")
  | _ => False
def N_need_brook : List Str := [Str.ofString "brook"]
def body_need_brook : TDS := dIfS (dNotT (dB (dCallP p_is_brook (dCons (dVar 0) (dNil))))) (dRaise (Str.ofString "InvalidBrook")) (dNext)

theorem wp_need_brook : ∀ ds Qa Er, p_need_brook ds Qa Er → body_need_brook (startD N_need_brook (ds.map Sl.da)) [] { nx := fun _ _ => Qa .none, rt := fun d _ => Qa d, er := fun n _ => Er n } := by
  intro ds Qa Er h
  match ds, h with
  | [v], h =>
    show if (!isBrook v) = true then _ else _
    have h : if isBrook v = true then Qa .none else Er (Str.ofString "InvalidBrook") := h
    cases q : isBrook v with
    | true => rw [q, if_pos rfl] at h; exact h
    | false => rw [q, if_neg (by decide)] at h; exact h
theorem len_need_brook : ∀ ds Qa Er, p_need_brook ds Qa Er → ds.length = 1 := fun ds Qa Er h => by
  match ds, h with
  | [v], h => rfl
theorem shpA_ints (n : Nat) : ∀ ns : List Int, shpA n (ns.map .int) = true
  | [] => rfl
  | x :: ns => by show (true && shpA n (ns.map .int)) = true; rw [shpA_ints n ns]; rfl
theorem shp_ints (n : Nat) (ns : List Int) : shp (n + 1) (.list (ns.map .int)) = true := by show shpA n _ = true; exact shpA_ints n ns
theorem shp_intsT (n : Nat) (ns : List Int) : shp (n + 1) (.tuple (ns.map .int)) = true := by show shpA n _ = true; exact shpA_ints n ns
theorem eqv_nilL (ds : List PyData) : PyData.eqv (.list ds) (.list []) = ds.isEmpty := by cases ds <;> rfl
theorem eqv_nilT (ds : List PyData) : PyData.eqv (.tuple ds) (.tuple []) = ds.isEmpty := by cases ds <;> rfl
theorem eqv_int (i j : Int) : PyData.eqv (.int i) (.int j) = (i == j) := rfl
theorem eqvAll_ints : ∀ (xs ys : List Int), PyData.eqvAll (xs.map .int) (ys.map .int) = decide (xs = ys)
  | [], [] => rfl
  | [], _ :: _ => rfl
  | _ :: _, [] => rfl
  | x :: xs, y :: ys => by
    show (PyData.eqv (.int x) (.int y) && PyData.eqvAll (xs.map .int) (ys.map .int)) = _
    rw [eqvAll_ints xs ys, eqv_int]
    by_cases h : x = y
    · subst h; simp
    · simp [h]
theorem eqv_intsT (xs ys : List Int) : PyData.eqv (.tuple (xs.map .int)) (.tuple (ys.map .int)) = decide (xs = ys) := eqvAll_ints xs ys
theorem eqv_intsL (xs ys : List Int) : PyData.eqv (.list (xs.map .int)) (.list (ys.map .int)) = decide (xs = ys) := eqvAll_ints xs ys
theorem any_eqv_ints (ns : List Int) (i : Int) : ((ns.map PyData.int).any fun z => PyData.eqv z (.int i)) = decide (i ∈ ns) := by
  rw [List.any_map]
  by_cases h : i ∈ ns
  · rw [decide_eq_true h, List.any_eq_true]
    exact ⟨i, h, by show (i == i) = true; simp⟩
  · rw [decide_eq_false h, List.any_eq_false]
    intro x hx
    show ¬ (x == i) = true
    intro e
    rw [beq_iff_eq] at e
    exact h (e ▸ hx)
theorem flat_ints (ns : List Int) : (ns.map PyData.int).all flatD = true := by rw [List.all_map, List.all_eq_true]; intro _ _; rfl
theorem eqv_bD (w : Int) (ps : List Int) (w' : Int) (ps' : List Int) : PyData.eqv (bD w ps) (bD w' ps') = decide (w = w' ∧ ps = ps') := by
  show (PyData.eqv (.int w) (.int w') && (PyData.eqv (.tuple (ps.map .int)) (.tuple (ps'.map .int)) && true)) = _
  rw [eqv_int, eqv_intsT]
  by_cases h : w = w'
  · subst h; simp
  · simp [h]
theorem shp_bD (n : Nat) (w : Int) (ps : List Int) : shp (n + 2) (bD w ps) = true := by
  show (true && (shp (n + 1) (.tuple (ps.map .int)) && true)) = true
  rw [shp_intsT]; rfl
def pD (ns : List Int) : PyData := .tuple (ns.map .int)
def okP (ns : List Int) : Bool := decide (1 ≤ ns.length) && decide (ns.length ≤ 4) && ns.all (fun n => decide (1 ≤ n) && decide (n ≤ 8)) && asc (fun x y => decide (x ≤ y)) ns
theorem okP_spec {ns : List Int} : okP ns = true ↔ (1 ≤ ns.length ∧ ns.length ≤ 4 ∧ (∀ n ∈ ns, 1 ≤ n ∧ n ≤ 8) ∧ asc (fun x y => decide (x ≤ y)) ns = true) := by
  unfold okP
  simp only [Bool.and_eq_true, decide_eq_true_eq, List.all_eq_true]
  constructor
  · rintro ⟨⟨⟨a, b⟩, c⟩, d⟩; exact ⟨a, b, c, d⟩
  · rintro ⟨a, b, c, d⟩; exact ⟨⟨⟨a, b⟩, c⟩, d⟩
def planksOf : PyData → Option (List Int)
  | .tuple ds => match intsOf ds with
    | some ns => if okP ns = true then some ns else none
    | none => none
  | _ => none
theorem planksOf_pD {ns : List Int} (h : okP ns = true) : planksOf (pD ns) = some ns := by
  show (match intsOf (ns.map .int) with | some ns => if okP ns = true then some ns else none | none => none) = _
  rw [intsOf_map]
  exact if_pos h
theorem planksOf_some {v : PyData} {ns : List Int} (h : planksOf v = some ns) : v = pD ns ∧ okP ns = true := by
  unfold planksOf at h
  split at h
  · rename_i ds
    split at h
    · rename_i ms hm
      split at h
      · rename_i hk
        cases h
        rw [intsOf_some hm]
        exact ⟨rfl, hk⟩
      · cases h
    · cases h
  · cases h
def arePlanks (v : PyData) : Bool := (planksOf v).isSome
theorem arePlanks_false {v : PyData} (h : ∀ ns, v = pD ns → okP ns = true → False) : arePlanks v = false := by
  unfold arePlanks
  cases q : planksOf v with
  | none => rfl
  | some ns => exact (h ns (planksOf_some q).1 (planksOf_some q).2).elim
def p_are_planks : Pf := fun ds Q _ => match ds with
  | [v] => Q (.bool (arePlanks v))
  | _ => False
def N_are_planks : List Str := [Str.ofString "value", Str.ofString "one", Str.ofString "at"]
def body_are_planks : TDS := dSeq (dIfS (dOrT (dNotT (dB (dIsi isTuple (dVar 0)))) (dOrT (dNotT (dB (dChain oLe oLe (dC (.int 1)) (dCB oLen (dCons (dVar 0) (dNil))) (dC (.int 4))))) (dNotT (dB (dCB oAll (dCons (dComp [1] (dISeq (dVar 0)) (gName 1) (dYes) (dCallPN p_is_whole (dCons (dVar 1) (dCons (dC (.int 1)) (dCons (dC (.int 8)) (dNil)))))) (dNil))))))) (dRet (dC (.bool false))) (dNext))
  (dRet (dCB oAll (dCons (dComp [2] (dIRng1 (dCons (dBin oSub (dCB oLen (dCons (dVar 0) (dNil))) (dC (.int 1))) (dNil))) (gName 2) (dYes) (dBin oLe (dBin oIx (dVar 0) (dVar 2)) (dBin oIx (dVar 0) (dBin oPlus (dVar 2) (dC (.int 1)))))) (dNil))))

theorem wp_are_planks : ∀ ds Qa Er, p_are_planks ds Qa Er → body_are_planks (startD N_are_planks (ds.map Sl.da)) [] { nx := fun _ _ => Qa .none, rt := fun d _ => Qa d, er := fun n _ => Er n } := by
  intro ds Qa Er h
  match ds, h with
  | [v], h =>
    have h : Qa (.bool (arePlanks v)) := h
    by_cases hv : ∃ xs, v = .tuple xs
    · obtain ⟨xs, rfl⟩ := hv
      show if decide ((1 : Int) ≤ ((xs.length : Nat) : Int)) = true then _ else _
      refine if2 (fun h1 => ?_) (fun h1 => ?_)
      · show if (!decide (((xs.length : Nat) : Int) ≤ 4)) = true then _ else _
        refine if2 (fun h2 => ?_) (fun h2 => ?_)
        · rw [arePlanks_false (fun ns e ok => ?_)] at h
          · exact h
          · injection e with e
            subst e
            have := (okP_spec.mp ok).2.1
            simp at h2
            omega
        · refine compD_map (fun d => .bool (isWhole d 1 8)) xs (fun d hd A hA => hA) ?_
          refine ⟨xs.map fun d => isWhole d 1 8, by show some _ = some _; rw [List.map_map]; rfl, ?_⟩
          show if (!(xs.map fun d => isWhole d 1 8).all id) = true then _ else _
          have ea : (xs.map fun d => isWhole d 1 8).all id = xs.all (fun d => isWhole d 1 8) := by rw [List.all_map]; rfl
          rw [ea]
          cases qa : xs.all (fun d => isWhole d 1 8) with
          | false =>
            refine ifT rfl ?_
            rw [arePlanks_false (fun ns e ok => ?_)] at h
            · exact h
            · injection e with e
              subst e
              have := all_whole_of (lo := 1) (hi := 8) (ns := ns) (fun n hn => (okP_spec.mp ok).2.2.1 n hn)
              rw [qa] at this
              cases this
          | true =>
            refine ifF rfl ?_
            obtain ⟨ns, rfl, hn⟩ := all_whole_ints qa
            have hl1 : 1 ≤ ns.length := by simp at h1; omega
            have hl2 : ns.length ≤ 4 := by simp at h2; omega
            have el : (((ns.map PyData.int).length : Nat) : Int) - 1 = (ns.length : Int) - 1 := by simp
            have ep : arePlanks (.tuple (ns.map .int)) = asc (fun x y => decide (x ≤ y)) ns := by
              cases qq : asc (fun x y => decide (x ≤ y)) ns with
              | true =>
                show (planksOf (pD ns)).isSome = true
                rw [planksOf_pD (okP_spec.mpr ⟨hl1, hl2, hn, qq⟩)]; rfl
              | false =>
                refine arePlanks_false fun ms e ok => ?_
                injection e with e
                have e2 := congrArg intsOf e
                rw [intsOf_map, intsOf_map] at e2
                cases e2
                have := (okP_spec.mp ok).2.2.2
                rw [qq] at this
                cases this
            rw [ep, ← steps_all] at h
            refine ⟨?_, ?_⟩
            · show -1000 ≤ (((ns.map PyData.int).length : Nat) : Int) - 1 ∧ (((ns.map PyData.int).length : Nat) : Int) - 1 ≤ 1000
              rw [el]; omega
            · show compD _ _ _ _ _ _ (rangeL 0 ((((ns.map PyData.int).length : Nat) : Int) - 1).toNat) _ _
              have et : ((((ns.map PyData.int).length : Nat) : Int) - 1).toNat = ns.length - 1 := by rw [el]; omega
              rw [et]
              refine comp_steps (fun x y => decide (x ≤ y)) ns (fun i x y hx hy A hA => ?_) ⟨_, rfl, h⟩
              have a1 : atI (ns.map PyData.int) (0 + (i : Int)) = some (.int x) := by rw [Int.zero_add]; exact atI_ints hx
              have a2 : atI (ns.map PyData.int) (0 + (i : Int) + 1) = some (.int y) := by rw [Int.zero_add]; exact atI_ints hy
              show (match atI (ns.map PyData.int) (0 + (i : Int)) with
                | some d => _
                | none => False)
              rw [a1]
              show (match atI (ns.map PyData.int) (0 + (i : Int) + 1) with
                | some d => _
                | none => False)
              rw [a2]
              exact hA
      · rw [arePlanks_false (fun ns e ok => ?_)] at h
        · exact h
        · injection e with e
          subst e
          have := (okP_spec.mp ok).1
          simp at h1
          omega
    · rw [arePlanks_false (fun ns e _ => hv ⟨_, e⟩)] at h
      cases v with
      | tuple xs => exact absurd ⟨xs, rfl⟩ hv
      | none => exact h
      | bool _ => exact h
      | int _ => exact h
      | str _ => exact h
      | list _ => exact h
      | dict _ => exact h
theorem len_are_planks : ∀ ds Qa Er, p_are_planks ds Qa Er → ds.length = 1 := fun ds Qa Er h => by
  match ds, h with
  | [v], h => rfl
def p_need_length : Pf := fun ds Q E => match ds with
  | [v] => if isWhole v 1 8 = true then Q .none else E (Str.ofString "InvalidLength")
  | _ => False
def N_need_length : List Str := [Str.ofString "length"]
def body_need_length : TDS := dIfS (dNotT (dB (dCallP p_is_whole (dCons (dVar 0) (dCons (dC (.int 1)) (dCons (dC (.int 8)) (dNil))))))) (dRaise (Str.ofString "InvalidLength")) (dNext)

theorem wp_need_length : ∀ ds Qa Er, p_need_length ds Qa Er → body_need_length (startD N_need_length (ds.map Sl.da)) [] { nx := fun _ _ => Qa .none, rt := fun d _ => Qa d, er := fun n _ => Er n } := by
  intro ds Qa Er h
  match ds, h with
  | [v], h =>
    show if (!isWhole v 1 8) = true then _ else _
    have h : if isWhole v 1 8 = true then Qa .none else Er (Str.ofString "InvalidLength") := h
    cases q : isWhole v 1 8 with
    | true => rw [q, if_pos rfl] at h; exact h
    | false => rw [q, if_neg (by decide)] at h; exact h
theorem len_need_length : ∀ ds Qa Er, p_need_length ds Qa Er → ds.length = 1 := fun ds Qa Er h => by
  match ds, h with
  | [v], h => rfl
def p_need_place : Pf := fun ds Q E => match ds with
  | [v] => if isWhole v (-8) 12 = true then Q .none else E (Str.ofString "InvalidPlace")
  | _ => False
def N_need_place : List Str := [Str.ofString "place"]
def body_need_place : TDS := dIfS (dNotT (dB (dCallP p_is_whole (dCons (dVar 0) (dCons (oNeg (dC (.int 8))) (dCons (dC (.int 12)) (dNil))))))) (dRaise (Str.ofString "InvalidPlace")) (dNext)

theorem wp_need_place : ∀ ds Qa Er, p_need_place ds Qa Er → body_need_place (startD N_need_place (ds.map Sl.da)) [] { nx := fun _ _ => Qa .none, rt := fun d _ => Qa d, er := fun n _ => Er n } := by
  intro ds Qa Er h
  match ds, h with
  | [v], h =>
    show if (!isWhole v (-8) 12) = true then _ else _
    have h : if isWhole v (-8) 12 = true then Qa .none else Er (Str.ofString "InvalidPlace") := h
    cases q : isWhole v (-8) 12 with
    | true => rw [q, if_pos rfl] at h; exact h
    | false => rw [q, if_neg (by decide)] at h; exact h
theorem len_need_place : ∀ ds Qa Er, p_need_place ds Qa Er → ds.length = 1 := fun ds Qa Er h => by
  match ds, h with
  | [v], h => rfl
def p_need_weight : Pf := fun ds Q E => match ds with
  | [v] => if isWhole v 0 60 = true then Q .none else E (Str.ofString "InvalidWeight")
  | _ => False
def N_need_weight : List Str := [Str.ofString "weight"]
def body_need_weight : TDS := dIfS (dNotT (dB (dCallP p_is_whole (dCons (dVar 0) (dCons (dC (.int 0)) (dCons (dC (.int 60)) (dNil))))))) (dRaise (Str.ofString "InvalidWeight")) (dNext)

theorem wp_need_weight : ∀ ds Qa Er, p_need_weight ds Qa Er → body_need_weight (startD N_need_weight (ds.map Sl.da)) [] { nx := fun _ _ => Qa .none, rt := fun d _ => Qa d, er := fun n _ => Er n } := by
  intro ds Qa Er h
  match ds, h with
  | [v], h =>
    show if (!isWhole v 0 60) = true then _ else _
    have h : if isWhole v 0 60 = true then Qa .none else Er (Str.ofString "InvalidWeight") := h
    cases q : isWhole v 0 60 with
    | true => rw [q, if_pos rfl] at h; exact h
    | false => rw [q, if_neg (by decide)] at h; exact h
theorem len_need_weight : ∀ ds Qa Er, p_need_weight ds Qa Er → ds.length = 1 := fun ds Qa Er h => by
  match ds, h with
  | [v], h => rfl
def p_need_planks : Pf := fun ds Q E => match ds with
  | [b, v] => if isBrook b = true then (if arePlanks v = true then Q .none else E (Str.ofString "InvalidPlanks")) else E (Str.ofString "InvalidBrook")
  | _ => False
def N_need_planks : List Str := [Str.ofString "brook", Str.ofString "planks"]
def body_need_planks : TDS := dSeq (dExpr (dCallP p_need_brook (dCons (dVar 0) (dNil))))
  (dIfS (dNotT (dB (dCallP p_are_planks (dCons (dVar 1) (dNil))))) (dRaise (Str.ofString "InvalidPlanks")) (dNext))

theorem wp_need_planks : ∀ ds Qa Er, p_need_planks ds Qa Er → body_need_planks (startD N_need_planks (ds.map Sl.da)) [] { nx := fun _ _ => Qa .none, rt := fun d _ => Qa d, er := fun n _ => Er n } := by
  intro ds Qa Er h
  match ds, h with
  | [b, v], h =>
    show if isBrook b = true then _ else _
    have h : if isBrook b = true then (if arePlanks v = true then Qa .none else Er (Str.ofString "InvalidPlanks")) else Er (Str.ofString "InvalidBrook") := h
    refine if2 (fun q => ?_) (fun q => ?_)
    · rw [q, if_pos rfl] at h
      show if (!arePlanks v) = true then _ else _
      cases q : arePlanks v with
      | true => rw [q, if_pos rfl] at h; exact h
      | false => rw [q, if_neg (by decide)] at h; exact h
    · rw [q, if_neg (by decide)] at h; exact h
theorem len_need_planks : ∀ ds Qa Er, p_need_planks ds Qa Er → ds.length = 2 := fun ds Qa Er h => by
  match ds, h with
  | [b, v], h => rfl
def p_need_laid : Pf := fun ds Q E => match ds with
  | [b, l, p] => if isBrook b = true then (if isWhole l 1 8 = true then (if isWhole p (-8) 12 = true then Q .none else E (Str.ofString "InvalidPlace")) else E (Str.ofString "InvalidLength")) else E (Str.ofString "InvalidBrook")
  | _ => False
def N_need_laid : List Str := [Str.ofString "brook", Str.ofString "length", Str.ofString "place"]
def body_need_laid : TDS := dSeq (dExpr (dCallP p_need_brook (dCons (dVar 0) (dNil))))
  (dSeq (dExpr (dCallP p_need_length (dCons (dVar 1) (dNil))))
  (dExpr (dCallP p_need_place (dCons (dVar 2) (dNil)))))

theorem wp_need_laid : ∀ ds Qa Er, p_need_laid ds Qa Er → body_need_laid (startD N_need_laid (ds.map Sl.da)) [] { nx := fun _ _ => Qa .none, rt := fun d _ => Qa d, er := fun n _ => Er n } := by
  intro ds Qa Er h
  match ds, h with
  | [b, l, p], h => exact h
theorem len_need_laid : ∀ ds Qa Er, p_need_laid ds Qa Er → ds.length = 3 := fun ds Qa Er h => by
  match ds, h with
  | [b, l, p], h => rfl
def mirP (w : Int) (ps : List Int) : List Int := ps.reverse.map fun p => w - p
def p_mirrored : Pf := fun ds Q E => match ds with
  | [b] => match brookOf b with
    | some (w, ps) => Q (bD w (mirP w ps))
    | none => E (Str.ofString "InvalidBrook")
  | _ => False
def N_mirrored : List Str := [Str.ofString "brook", Str.ofString "width", Str.ofString "piers", Str.ofString "pier"]
def body_mirrored : TDS := dSeq (dExpr (dCallP p_need_brook (dCons (dVar 0) (dNil))))
  (dSeq (dAsg (dVar 0) (gTup 2 (gCons (gName 1) (gCons (gName 2) (gNil)))))
  (dRet (dTup (dCons (dVar 1) (dCons (dCB oTup (dCons (dComp [3] (dIRev (dVar 2)) (gName 3) (dYes) (dBin oSub (dVar 1) (dVar 3))) (dNil))) (dNil))))))

theorem wp_mirrored : ∀ ds Qa Er, p_mirrored ds Qa Er → body_mirrored (startD N_mirrored (ds.map Sl.da)) [] { nx := fun _ _ => Qa .none, rt := fun d _ => Qa d, er := fun n _ => Er n } := by
  intro ds Qa Er h
  match ds, h with
  | [b], h =>
    replace h : (match brookOf b with
      | some (w, ps) => Qa (bD w (mirP w ps))
      | none => Er (Str.ofString "InvalidBrook")) := h
    show if (brookOf b).isSome = true then _ else _
    cases q : brookOf b with
    | none => rw [q] at h; exact ifF rfl h
    | some r =>
      obtain ⟨w, ps⟩ := r
      rw [q] at h
      obtain ⟨rfl, _⟩ := brookOf_some q
      refine ifT rfl ⟨rfl, ?_⟩
      refine compD_map (fun d => match d with
        | .int p => .int (w - p)
        | d => d) _ (fun d hd A hA => ?_) ?_
      · rw [List.mem_reverse] at hd
        obtain ⟨p, _, rfl⟩ := List.mem_map.mp hd
        exact hA
      · show Qa (.tuple [.int w, .tuple ((ps.map PyData.int).reverse.map _)])
        have e : (ps.map PyData.int).reverse.map (fun d => match d with
          | .int p => PyData.int (w - p)
          | d => d) = (mirP w ps).map PyData.int := by
          unfold mirP
          rw [← List.map_reverse, List.map_map, List.map_map]
          rfl
        rw [e]
        exact h
theorem len_mirrored : ∀ ds Qa Er, p_mirrored ds Qa Er → ds.length = 1 := fun ds Qa Er h => by
  match ds, h with
  | [b], h => rfl
def p_joined : Pf := fun ds Q _ => match ds with
  | [b, .int p] => match asB b with
    | some (w, ps) => ps.length ≤ 1000 ∧ Q (bD w (sortI (ps ++ [p])))
    | none => False
  | _ => False
def N_joined : List Str := [Str.ofString "brook", Str.ofString "pier"]
def body_joined : TDS := dRet (dTup (dCons (dBin oIx (dVar 0) (dC (.int 0))) (dCons (dCB oTup (dCons (dCB oSort (dCons (dBin oPlus (dBin oIx (dVar 0) (dC (.int 1))) (dTup (dCons (dVar 1) (dNil)))) (dNil))) (dNil))) (dNil))))

theorem wp_joined : ∀ ds Qa Er, p_joined ds Qa Er → body_joined (startD N_joined (ds.map Sl.da)) [] { nx := fun _ _ => Qa .none, rt := fun d _ => Qa d, er := fun n _ => Er n } := by
  intro ds Qa Er h
  match ds, h with
  | [b, .int p], h =>
    replace h : (match asB b with
      | some (w, ps) => ps.length ≤ 1000 ∧ Qa (bD w (sortI (ps ++ [p])))
      | none => False) := h
    cases q : asB b with
    | none => rw [q] at h; exact h.elim
    | some r =>
      obtain ⟨w, ps⟩ := r
      rw [q] at h
      have e := asB_some q
      subst e
      obtain ⟨hl, h⟩ := h
      have e2 : ps.map PyData.int ++ [PyData.int p] = (ps ++ [p]).map PyData.int := by simp
      refine ⟨?_, ?_, ?_⟩
      · show (ps.map PyData.int).length + 1 ≤ 1000000
        rw [List.length_map]; omega
      · show SortOk (ps.map PyData.int ++ [PyData.int p])
        rw [e2]; exact sortOk_ints _
      · show Qa (.tuple [.int w, .tuple (sortD (ps.map PyData.int ++ [PyData.int p]))])
        rw [e2, sortD_ints]
        exact h
theorem len_joined : ∀ ds Qa Er, p_joined ds Qa Er → ds.length = 2 := fun ds Qa Er h => by
  match ds, h with
  | [b, .int p], h => rfl
def p_with_pier : Pf := fun ds Q E => match ds with
  | [b, v] => match brookOf b with
    | some (w, ps) => match v with
      | .int i => if (isWhole v 1 (w - 1) && !decide (i ∈ ps)) = true then (if decide (ps.length = 5) = true then E (Str.ofString "TooMany") else Q (bD w (sortI (ps ++ [i])))) else E (Str.ofString "InvalidPier")
      | _ => E (Str.ofString "InvalidPier")
    | none => E (Str.ofString "InvalidBrook")
  | _ => False
def N_with_pier : List Str := [Str.ofString "brook", Str.ofString "pier"]
def body_with_pier : TDS := dSeq (dExpr (dCallP p_need_brook (dCons (dVar 0) (dNil))))
  (dSeq (dIfS (dOrT (dNotT (dB (dCallP p_is_whole (dCons (dVar 1) (dCons (dC (.int 1)) (dCons (dBin oSub (dBin oIx (dVar 0) (dC (.int 0))) (dC (.int 1))) (dNil))))))) (dB (dBin (oIn false) (dVar 1) (dBin oIx (dVar 0) (dC (.int 1)))))) (dRaise (Str.ofString "InvalidPier")) (dNext))
  (dSeq (dIfS (dB (dBin oEq (dCB oLen (dCons (dBin oIx (dVar 0) (dC (.int 1))) (dNil))) (dC (.int 5)))) (dRaise (Str.ofString "TooMany")) (dNext))
  (dRet (dCallP p_joined (dCons (dVar 0) (dCons (dVar 1) (dNil)))))))

theorem wp_with_pier : ∀ ds Qa Er, p_with_pier ds Qa Er → body_with_pier (startD N_with_pier (ds.map Sl.da)) [] { nx := fun _ _ => Qa .none, rt := fun d _ => Qa d, er := fun n _ => Er n } := by
  intro ds Qa Er h
  match ds, h with
  | [b, v], h =>
    unfold p_with_pier at h
    simp only at h
    show if (brookOf b).isSome = true then _ else _
    cases q : brookOf b with
    | none => rw [q] at h; exact ifF rfl h
    | some r =>
      obtain ⟨w, ps⟩ := r
      rw [q] at h
      obtain ⟨rfl, ok⟩ := brookOf_some q
      refine ifT rfl ?_
      show if (!isWhole v 1 (w - 1)) = true then _ else _
      cases hw : isWhole v 1 (w - 1) with
      | false =>
        refine ifT rfl ?_
        cases v with
        | int i => simp only [hw] at h; exact h
        | _ => exact h
      | true =>
        refine ifF rfl ?_
        obtain ⟨i, rfl, h1, h2⟩ := isWhole_true hw
        simp only [hw, Bool.true_and] at h
        refine ⟨⟨rfl, flat_ints ps⟩, ?_⟩
        show if ((ps.map PyData.int).any fun z => PyData.eqv z (.int i)) = true then _ else _
        rw [any_eqv_ints]
        by_cases hi : i ∈ ps
        · refine ifT (decide_eq_true hi) ?_
          rw [decide_eq_true hi] at h
          exact h
        · refine ifF (decide_eq_false hi) ?_
          rw [decide_eq_false hi] at h
          have h : if decide (ps.length = 5) = true then Er (Str.ofString "TooMany") else Qa (bD w (sortI (ps ++ [i]))) := h
          refine ⟨⟨rfl, rfl⟩, ?_⟩
          show if PyData.eqv (.int (((ps.map PyData.int).length : Nat) : Int)) (.int 5) = true then _ else _
          have e5 : PyData.eqv (.int (((ps.map PyData.int).length : Nat) : Int)) (.int 5) = decide (ps.length = 5) := by
            rw [eqv_int, List.length_map]
            by_cases z : ps.length = 5
            · simp [z]
            · rw [decide_eq_false z, beq_eq_false_iff_ne]; omega
          rw [e5]
          refine if2 (fun z => ?_) (fun z => ?_)
          · rw [z, if_pos rfl] at h; exact h
          · rw [z, if_neg (by decide)] at h
            show (match asB (bD w ps) with
              | some (w, ps) => ps.length ≤ 1000 ∧ Qa (bD w (sortI (ps ++ [i])))
              | none => False)
            rw [asB_bD]
            have := (okB_spec.mp ok).2.2.1
            exact ⟨by omega, h⟩
theorem len_with_pier : ∀ ds Qa Er, p_with_pier ds Qa Er → ds.length = 2 := fun ds Qa Er h => by
  match ds, h with
  | [b, v], h => rfl
def p__law_drawn : Pf := fun ds Q _ => match ds with
  | [.int _, .int _] => ∀ r : Int, Q (.int r)
  | _ => False
def N__law_drawn : List Str := [Str.ofString "cell", Str.ofString "k", Str.ofString "more"]
def body__law_drawn : TDS := dSeq (dSet 2 (dBin oMod (dBin oPlus (dBin oTimes (dVar 0) (dC (.int 6364136223846793005))) (dBin oTimes (dBin oPlus (dVar 1) (dC (.int 1))) (dC (.int 1442695040888963407)))) (dC (.int 340282366920938463463374607431768211507))))
  (dSeq (dSet 2 (dBin oMod (dBin oTimes (dVar 2) (dVar 2)) (dC (.int 340282366920938463463374607431768211297))))
  (dSeq (dSet 2 (dBin oTimes (dBin oTimes (dBin oPlus (dBin oMod (dVar 2) (dC (.int 18446744073709551557))) (dC (.int 1))) (dBin oPlus (dBin oOver (dVar 2) (dC (.int 18446744073709551557))) (dC (.int 1)))) (dVar 2)))
  (dRet (dBin oMod (dVar 2) (dC (.int 340282366920938463463374607431768211507))))))

theorem na_lt {i m : Int} {b : Nat} (h0 : 0 ≤ i) (h : i < m) (hm : m.natAbs ≤ 2 ^ b) : i.natAbs < 2 ^ b := by omega
theorem wp__law_drawn : ∀ ds Qa Er, p__law_drawn ds Qa Er → body__law_drawn (startD N__law_drawn (ds.map Sl.da)) [] { nx := fun _ _ => Qa .none, rt := fun d _ => Qa d, er := fun n _ => Er n } := by
  intro ds Qa Er h
  match ds, h with
  | [.int c, .int k], h =>
    have h : ∀ r : Int, Qa (.int r) := h
    have md : ∀ x : Int, (x % 340282366920938463463374607431768211507).natAbs < 2 ^ 129 := fun x => na_lt (Int.emod_nonneg _ (by decide)) (Int.emod_lt_of_pos _ (by decide)) (by decide)
    have md0 : ∀ x : Int, 0 ≤ x % 340282366920938463463374607431768211297 := fun x => Int.emod_nonneg _ (by decide)
    have md1 : ∀ x : Int, x % 340282366920938463463374607431768211297 < 340282366920938463463374607431768211297 := fun x => Int.emod_lt_of_pos _ (by decide)
    have md2 : ∀ x : Int, (x % 340282366920938463463374607431768211297).natAbs < 2 ^ 129 := fun x => na_lt (md0 x) (md1 x) (by decide)
    have ml : ∀ y : Int, (y % 18446744073709551557 + 1).natAbs < 2 ^ 66 := fun y => by
      have c1 : 0 ≤ y % 18446744073709551557 := Int.emod_nonneg _ (by decide)
      have c2 : y % 18446744073709551557 < 18446744073709551557 := Int.emod_lt_of_pos _ (by decide)
      omega
    have mr : ∀ x : Int, (x % 340282366920938463463374607431768211297 / 18446744073709551557 + 1).natAbs < 2 ^ 130 := fun x => by
      have b1 := md0 x
      have b2 := md1 x
      have d1 := Int.ediv_nonneg b1 (show (0 : Int) ≤ 18446744073709551557 by decide)
      have d2 := Int.ediv_le_self (18446744073709551557 : Int) b1
      omega
    refine ⟨.inl (.inr ⟨by decide, by decide⟩), .inl (.inr ⟨by decide, by decide⟩), (show (0 : Int) < 340282366920938463463374607431768211507 by decide), ?_⟩
    refine ⟨.inr (wide_mul (md _) (md _) (by decide) (by decide) (by decide)), (show (0 : Int) < 340282366920938463463374607431768211297 by decide), ?_⟩
    refine ⟨(show (0 : Int) < 18446744073709551557 by decide), .inr (wide_div (b := 65) (by decide) (by decide) (by decide) (by decide)), .inr (wide_mul (ml _) (mr _) (by decide) (by decide) (by decide)), .inr (wide_mul (wide_lt (ml _) (mr _)) (md2 _) (by decide) (by decide) (by decide)), (show (0 : Int) < 340282366920938463463374607431768211507 by decide), h _⟩
theorem len__law_drawn : ∀ ds Qa Er, p__law_drawn ds Qa Er → ds.length = 2 := fun ds Qa Er h => by
  match ds, h with
  | [.int c, .int k], h => rfl
def f_roll (ds : List PyData) (Q : PyData → Prop) : Prop := match ds with
  | [.int m] => (1 ≤ m ∧ m ≤ 1000) ∧ ∀ r : Int, 0 ≤ r → r < m → Q (.int r)
  | _ => False
def rL__law_roll : Rf := diceL f_roll
def r__law_roll : Rf := diceF f_roll
def N__law_roll : List Str := [Str.ofString "dice", Str.ofString "many", Str.ofString "told"]
def body__law_roll : TDS := dSeq (dIfS (dB (dBin oGe (dBin oIx (dVar 0) (dC (.int 0))) (dBin oPow (dC (.int 10)) (dC (.int 18))))) (dSeq (dSet 2 (dBin oMod (dBin oIx (dVar 0) (dC (.int 0))) (dVar 1)))
  (dSeq (dPut 0 (dC (.int 0)) (dBin oOver (dBin oIx (dVar 0) (dC (.int 0))) (dVar 1)))
  (dRet (dVar 2)))) (dNext))
  (dSeq (dPut 0 (dC (.int 1)) (dBin oPlus (dBin oIx (dVar 0) (dC (.int 1))) (dC (.int 1))))
  (dRet (dBin oMod (dBin oOver (dCallP p__law_drawn (dCons (dBin oIx (dVar 0) (dC (.int 0))) (dCons (dBin oIx (dVar 0) (dC (.int 1))) (dNil)))) (dC (.int 8))) (dVar 1))))

theorem wp__law_roll : ∀ s ds (Qa : PyData → Rs → Prop) (Er : Str → Rs → Prop), rL__law_roll s ds (fun d s' => Qa d [s']) (fun n s' => Er n [s']) → body__law_roll (startD N__law_roll (.res 0 :: ds.map Sl.da)) [s] { nx := fun _ τ' => Qa .none (τ'.take 1), rt := fun d τ' => Qa d (τ'.take 1), er := fun n τ' => Er n (τ'.take 1) } := by
  intro s ds Qa Er h
  obtain ⟨a, b, rfl, h⟩ := h
  match ds, h with
  | [.int m], ⟨⟨h1, h2⟩, h⟩ =>
    refine ⟨⟨by decide, by decide, by decide⟩, ?_⟩
    show if decide ((10 : Int) ^ (18 : Int).toNat ≤ a) = true then _ else _
    refine if2 (fun q => ?_) (fun q => ?_)
    · refine ⟨by omega, .inl ⟨by omega, by omega⟩, ?_⟩
      exact h (a % m) (Int.emod_nonneg _ (by omega)) (Int.emod_lt_of_pos _ (by omega)) _ _
    · intro r
      refine ⟨.inl ⟨by decide, by decide⟩, by omega, ?_⟩
      exact h _ (Int.emod_nonneg _ (by omega)) (Int.emod_lt_of_pos _ (by omega)) _ _
theorem len__law_roll : ∀ s ds Qa Er, rL__law_roll s ds Qa Er → ds.length + 1 = 2 := fun s ds Qa Er h => by
  obtain ⟨a, b, _, h⟩ := h
  match ds, h with
  | [.int m], h => rfl
def f_weight (ds : List PyData) (Q : PyData → Prop) : Prop := match ds with
  | [] => ∀ wt : Int, 0 ≤ wt → wt ≤ 60 → Q (.int wt)
  | _ => False
def r__law_any_weight : Rf := diceF f_weight
def N__law_any_weight : List Str := [Str.ofString "dice"]
def body__law_any_weight : TDS := dRet (dCallR r__law_roll (dCons (dVar 0) (dCons (dBin oIx (dLst (dCons (dC (.int 61)) (dCons (dC (.int 5)) (dCons (dC (.int 2)) (dNil))))) (dCallR r__law_roll (dCons (dVar 0) (dCons (dC (.int 3)) (dNil))))) (dNil))))

theorem wp__law_any_weight : ∀ s ds (Qa : PyData → Rs → Prop) (Er : Str → Rs → Prop), r__law_any_weight s ds (fun d s' => Qa d [s']) (fun n s' => Er n [s']) → body__law_any_weight (startD N__law_any_weight (.res 0 :: ds.map Sl.da)) [s] { nx := fun _ τ' => Qa .none (τ'.take 1), rt := fun d τ' => Qa d (τ'.take 1), er := fun n τ' => Er n (τ'.take 1) } := by
  intro s ds Qa Er h
  obtain ⟨rfl, h⟩ := h
  match ds, h with
  | [], h =>
    refine ⟨rfl, rfl, ⟨by decide, by decide⟩, fun r r1 r2 => ?_⟩
    have hr : r = 0 ∨ r = 1 ∨ r = 2 := by omega
    rcases hr with rfl | rfl | rfl
    · exact ⟨rfl, rfl, ⟨by decide, by decide⟩, fun q q1 q2 => h q q1 (by omega)⟩
    · exact ⟨rfl, rfl, ⟨by decide, by decide⟩, fun q q1 q2 => h q q1 (by omega)⟩
    · exact ⟨rfl, rfl, ⟨by decide, by decide⟩, fun q q1 q2 => h q q1 (by omega)⟩
theorem len__law_any_weight : ∀ s ds Qa Er, r__law_any_weight s ds Qa Er → ds.length + 1 = 1 := fun s ds Qa Er h => by
  obtain ⟨_, h⟩ := h
  match ds, h with
  | [], h => rfl
def f_laid (ds : List PyData) (Q : PyData → Prop) : Prop := match ds with
  | [b] => match asB b with
    | some (w, _) => (1 ≤ w ∧ w ≤ 12) ∧ ∀ l p : Int, 1 ≤ l → l ≤ 8 → -8 ≤ p → p ≤ 12 → Q (.tuple [.int l, .int p])
    | none => False
  | _ => False
def r__law_any_laid : Rf := diceF f_laid
def N__law_any_laid : List Str := [Str.ofString "dice", Str.ofString "brook", Str.ofString "length"]
def body__law_any_laid : TDS := dSeq (dSet 2 (dBin oPlus (dC (.int 1)) (dCallR r__law_roll (dCons (dVar 0) (dCons (dC (.int 8)) (dNil))))))
  (dSeq (dIfS (dB (dBin oEq (dCallR r__law_roll (dCons (dVar 0) (dCons (dC (.int 4)) (dNil)))) (dC (.int 0)))) (dRet (dTup (dCons (dVar 2) (dCons (dBin oSub (dCallR r__law_roll (dCons (dVar 0) (dCons (dC (.int 21)) (dNil)))) (dC (.int 8))) (dNil))))) (dNext))
  (dRet (dTup (dCons (dVar 2) (dCons (dCB oMax2 (dCons (oNeg (dC (.int 8))) (dCons (dCB oMin2 (dCons (dC (.int 12)) (dCons (dBin oPlus (dBin oSub (dCallR r__law_roll (dCons (dVar 0) (dCons (dBin oPlus (dBin oIx (dVar 1) (dC (.int 0))) (dVar 2)) (dNil)))) (dVar 2)) (dC (.int 1))) (dNil)))) (dNil)))) (dNil))))))

theorem wp__law_any_laid : ∀ s ds (Qa : PyData → Rs → Prop) (Er : Str → Rs → Prop), r__law_any_laid s ds (fun d s' => Qa d [s']) (fun n s' => Er n [s']) → body__law_any_laid (startD N__law_any_laid (.res 0 :: ds.map Sl.da)) [s] { nx := fun _ τ' => Qa .none (τ'.take 1), rt := fun d τ' => Qa d (τ'.take 1), er := fun n τ' => Er n (τ'.take 1) } := by
  intro s ds Qa Er h
  obtain ⟨rfl, h⟩ := h
  match ds, h with
  | [b], h =>
    unfold f_laid at h
    simp only at h
    cases q : asB b with
    | none => rw [q] at h; exact h.elim
    | some z =>
      obtain ⟨w, ps⟩ := z
      rw [q] at h
      have e := asB_some q
      subst e
      obtain ⟨⟨w1, w2⟩, h⟩ := h
      refine ⟨rfl, rfl, ⟨by decide, by decide⟩, fun r r1 r2 => ?_⟩
      refine ⟨rfl, rfl, ⟨by decide, by decide⟩, fun r3 r4 r5 => ⟨⟨rfl, rfl⟩, ?_⟩⟩
      show if PyData.eqv (.int r3) (.int 0) = true then _ else _
      refine if2 (fun z => ?_) (fun z => ?_)
      · exact ⟨rfl, rfl, ⟨by decide, by decide⟩, fun r6 r7 r8 => h (1 + r) (r6 - 8) (by omega) (by omega) (by omega) (by omega)⟩
      · refine ⟨rfl, rfl, ⟨by omega, by omega⟩, fun r6 r7 r8 => ?_⟩
        refine h (1 + r) _ (by omega) (by omega) ?_ ?_
        · split <;> split <;> omega
        · split <;> split <;> omega
theorem len__law_any_laid : ∀ s ds Qa Er, r__law_any_laid s ds Qa Er → ds.length + 1 = 2 := fun s ds Qa Er h => by
  obtain ⟨_, h⟩ := h
  match ds, h with
  | [b], h => rfl
def f_brook (ds : List PyData) (Q : PyData → Prop) : Prop := match ds with
  | [.int m] => (1 ≤ m ∧ m ≤ 12) ∧ ∀ (w : Int) (ps : List Int), w ≤ m → okB w ps = true → Q (bD w ps)
  | _ => False
def r__law_any_brook : Rf := diceF f_brook
def N__law_any_brook : List Str := [Str.ofString "dice", Str.ofString "wide", Str.ofString "width", Str.ofString "piers", Str.ofString "share", Str.ofString "point"]
def body__law_any_brook : TDS := dSeq (dParNew 2 3 (dBin oPlus (dC (.int 1)) (dCallR r__law_roll (dCons (dVar 0) (dCons (dVar 1) (dNil))))))
  (dSeq (dSet 4 (dBin oPlus (dC (.int 2)) (dCallR r__law_roll (dCons (dVar 0) (dCons (dC (.int 3)) (dNil))))))
  (dSeq (dFor (dIRng2 (dCons (dC (.int 1)) (dCons (dVar 2) (dNil)))) (gName 5)
  (dIfS (dAndT (dB (dBin oEq (dCallR r__law_roll (dCons (dVar 0) (dCons (dVar 4) (dNil)))) (dC (.int 0)))) (dB (dBin oLt (dCB oLen (dCons (dVar 3) (dNil))) (dC (.int 5))))) (dAppend 3 (dVar 5)) (dNext)))
  (dRet (dTup (dCons (dVar 2) (dCons (dCB oTup (dCons (dVar 3) (dNil))) (dNil)))))))

theorem asc_snoc : ∀ {l : List Int} {x : Int}, l.Pairwise (· < ·) → (∀ y ∈ l, y < x) → (l ++ [x]).Pairwise (· < ·) := fun {l x} h1 h2 => by
  rw [List.pairwise_append]
  exact ⟨h1, by simp, fun a ha b hb => by simp at hb; subst hb; exact h2 a ha⟩
theorem wp__law_any_brook : ∀ s ds (Qa : PyData → Rs → Prop) (Er : Str → Rs → Prop), r__law_any_brook s ds (fun d s' => Qa d [s']) (fun n s' => Er n [s']) → body__law_any_brook (startD N__law_any_brook (.res 0 :: ds.map Sl.da)) [s] { nx := fun _ τ' => Qa .none (τ'.take 1), rt := fun d τ' => Qa d (τ'.take 1), er := fun n τ' => Er n (τ'.take 1) } := by
  intro s ds Qa Er h
  obtain ⟨rfl, h⟩ := h
  match ds, h with
  | [.int m], ⟨⟨m1, m2⟩, h⟩ =>
    refine ⟨rfl, rfl, ⟨by omega, by omega⟩, fun r r1 r2 => ?_⟩
    refine ⟨rfl, rfl, ⟨by decide, by decide⟩, fun r3 r4 r5 => ?_⟩
    refine ⟨⟨by decide, by decide, by omega, by omega⟩, ?_⟩
    -- the loop: piers so far lie below the point
    have key : ∀ (n k : Nat) (ps : List Int) (pt : Sl), (k : Int) + 1 + n ≤ 1 + r → ps.length ≤ 5 → (∀ x ∈ ps, 1 ≤ x ∧ x < (k : Int) + 1) → ps.Pairwise (· < ·) →
        loopD (gName 5) (dIfS (dAndT (dB (dBin oEq (dCallR r__law_roll (dCons (dVar 0) (dCons (dVar 4) (dNil)))) (dC (.int 0)))) (dB (dBin oLt (dCB oLen (dCons (dVar 3) (dNil))) (dC (.int 5))))) (dAppend 3 (dVar 5)) (dNext))
          ((List.range' k n).map fun i : Nat => PyData.int (1 + (i : Int))) [.res 0, .da (.int m), .da (.int (1 + r)), .res 1, .da (.int (2 + r3)), pt] [.dice, .lst (ps.map .int)]
          { nx := fun ρ' τ' => dRet (dTup (dCons (dVar 2) (dCons (dCB oTup (dCons (dVar 3) (dNil))) (dNil)))) ρ' τ' { nx := fun _ τ' => Qa .none (τ'.take 1), rt := fun d τ' => Qa d (τ'.take 1), er := fun n τ' => Er n (τ'.take 1) }, rt := fun d τ' => Qa d (τ'.take 1), er := fun n τ' => Er n (τ'.take 1) } := by
      intro n
      induction n with
      | zero =>
        intro k ps pt hk hl hb hp
        exact h (1 + r) ps (by omega) (okB_spec.mpr ⟨by omega, by omega, hl, fun p hpp => ⟨(hb p hpp).1, by have := (hb p hpp).2; omega⟩, asc_pairwise.mpr hp⟩)
      | succ n ih =>
        intro k ps pt hk hl hb hp
        refine ⟨rfl, rfl, ⟨by omega, by omega⟩, fun q q1 q2 => ⟨⟨rfl, rfl⟩, ?_⟩⟩
        have skip : ∀ pt', loopD _ _ ((List.range' (k + 1) n).map fun i : Nat => PyData.int (1 + (i : Int))) [.res 0, .da (.int m), .da (.int (1 + r)), .res 1, .da (.int (2 + r3)), pt'] [.dice, .lst (ps.map .int)] _ :=
          fun pt' => ih (k + 1) ps pt' (by omega) hl (fun x hx => ⟨(hb x hx).1, by have := (hb x hx).2; omega⟩) hp
        show if PyData.eqv (.int q) (.int 0) = true then _ else _
        refine if2 (fun z => ?_) (fun z => ?_)
        · show if decide ((((ps.map PyData.int).length : Nat) : Int) < 5) = true then _ else _
          refine if2 (fun z2 => ?_) (fun z2 => ?_)
          · have hl2 : ps.length < 5 := by simp at z2; omega
            refine ⟨by show (ps.map PyData.int).length < 100000; rw [List.length_map]; omega, ?_⟩
            have := ih (k + 1) (ps ++ [1 + (k : Int)]) (.da (.int (1 + (k : Int)))) (by omega) (by simp; omega) (fun x hx => by
              rcases List.mem_append.mp hx with hx | hx
              · exact ⟨(hb x hx).1, by have := (hb x hx).2; omega⟩
              · simp at hx; subst hx; exact ⟨by omega, by omega⟩) (asc_snoc hp fun y hy => by have := (hb y hy).2; omega)
            rw [List.map_append] at this
            exact this
          · exact skip _
        · exact skip _
    have := key (1 + r - 1).toNat 0 [] .un (by omega) (by simp) (by simp) List.Pairwise.nil
    show loopD _ _ (rangeL 1 (1 + r - 1).toNat) _ _ _
    unfold rangeL
    rw [List.range_eq_range']
    exact this
theorem len__law_any_brook : ∀ s ds Qa Er, r__law_any_brook s ds Qa Er → ds.length + 1 = 2 := fun s ds Qa Er h => by
  obtain ⟨_, h⟩ := h
  match ds, h with
  | [.int m], h => rfl
def f_planks (ds : List PyData) (Q : PyData → Prop) : Prop := match ds with
  | [.int m] => (1 ≤ m ∧ m ≤ 4) ∧ ∀ ns : List Int, (ns.length : Int) ≤ m → okP ns = true → Q (pD ns)
  | _ => False
def r__law_any_planks : Rf := diceF f_planks
def N__law_any_planks : List Str := [Str.ofString "dice", Str.ofString "most", Str.ofString "turn"]
def body__law_any_planks : TDS := dRet (dCB oTup (dCons (dCB oSort (dCons (dComp [2] (dIRng1 (dCons (dBin oPlus (dC (.int 1)) (dCallR r__law_roll (dCons (dVar 0) (dCons (dVar 1) (dNil))))) (dNil))) (gName 2) (dYes) (dBin oPlus (dC (.int 1)) (dCallRN r__law_roll (dCons (dVar 0) (dCons (dBin oIx (dLst (dCons (dC (.int 8)) (dCons (dC (.int 4)) (dNil)))) (dCallRN r__law_roll (dCons (dVar 0) (dCons (dC (.int 2)) (dNil))))) (dNil)))))) (dNil))) (dNil)))

theorem sortI_perm (ns : List Int) : (sortI ns).Perm ns := List.mergeSort_perm _ _
theorem sortI_pair (ns : List Int) : (sortI ns).Pairwise (· ≤ ·) := by
  have := List.pairwise_mergeSort (le := fun (a b : Int) => decide (a ≤ b)) (fun a b c h1 h2 => by simp at *; omega) (fun a b => by simp; omega) ns
  exact this.imp fun h => by simpa using h
theorem wp__law_any_planks : ∀ s ds (Qa : PyData → Rs → Prop) (Er : Str → Rs → Prop), r__law_any_planks s ds (fun d s' => Qa d [s']) (fun n s' => Er n [s']) → body__law_any_planks (startD N__law_any_planks (.res 0 :: ds.map Sl.da)) [s] { nx := fun _ τ' => Qa .none (τ'.take 1), rt := fun d τ' => Qa d (τ'.take 1), er := fun n τ' => Er n (τ'.take 1) } := by
  intro s ds Qa Er h
  obtain ⟨rfl, h⟩ := h
  match ds, h with
  | [.int m], ⟨⟨m1, m2⟩, h⟩ =>
    refine ⟨rfl, rfl, ⟨by omega, by omega⟩, fun r r1 r2 => ⟨⟨by omega, by omega⟩, ?_⟩⟩
    have key : ∀ (n : Nat) (ds : List PyData) (ns : List Int), ds.length = n → (ns.length + n : Int) = 1 + r → (∀ x ∈ ns, 1 ≤ x ∧ x ≤ 8) →
        compD (gName 2) dYes (dBin oPlus (dC (.int 1)) (dCallRN r__law_roll (dCons (dVar 0) (dCons (dBin oIx (dLst (dCons (dC (.int 8)) (dCons (dC (.int 4)) (dNil)))) (dCallRN r__law_roll (dCons (dVar 0) (dCons (dC (.int 2)) (dNil))))) (dNil)))))
          [.res 0, .da (.int m), .un] (fun x τ2 => oSort [x] τ2 (fun z => oTup [.da z] τ2 (fun z => Qa z (τ2.take 1)))) (fun n τ' => Er n (τ'.take 1)) ds [.dice] (ns.map .int) := by
      intro n
      induction n with
      | zero =>
        intro ds ns hd hn hb
        have : ds = [] := List.length_eq_zero_iff.mp hd
        subst this
        refine ⟨sortOk_ints ns, ?_⟩
        show Qa (.tuple (sortD (ns.map .int))) [.dice]
        rw [sortD_ints]
        have hp := sortI_perm ns
        refine h (sortI ns) (by rw [hp.length_eq]; omega) (okP_spec.mpr ⟨by rw [hp.length_eq]; omega, by rw [hp.length_eq]; omega, fun x hx => hb x (hp.mem_iff.mp hx), ascLe_pairwise.mpr (sortI_pair ns)⟩)
      | succ n ih =>
        intro ds ns hd hn hb
        match ds, hd with
        | d :: ds, hd =>
          refine ⟨rfl, rfl, ⟨by decide, by decide⟩, fun q q1 q2 => ?_⟩
          have go : ∀ q : Int, 0 ≤ q → q < 8 → compD _ _ _ _ _ _ ds [.dice] ((ns ++ [1 + q]).map .int) := fun q h1 h2 => ih ds (ns ++ [1 + q]) (by simpa using hd) (by simp; omega) (fun x hx => by
            rcases List.mem_append.mp hx with hx | hx
            · exact hb x hx
            · simp at hx; subst hx; exact ⟨by omega, by omega⟩)
          have hq : q = 0 ∨ q = 1 := by omega
          rcases hq with rfl | rfl
          · refine ⟨rfl, rfl, ⟨by decide, by decide⟩, fun t t1 t2 => ?_⟩
            have := go t t1 t2
            rw [List.map_append] at this
            exact this
          · refine ⟨rfl, rfl, ⟨by decide, by decide⟩, fun t t1 t2 => ?_⟩
            have := go t t1 (by omega)
            rw [List.map_append] at this
            exact this
    exact key (1 + r).toNat (rangeL 0 (1 + r).toNat) [] (rangeL_length _ _) (by simp; omega) (by simp)
theorem len__law_any_planks : ∀ s ds Qa Er, r__law_any_planks s ds Qa Er → ds.length + 1 = 2 := fun s ds Qa Er h => by
  obtain ⟨_, h⟩ := h
  match ds, h with
  | [.int m], h => rfl
/-- the points from p to p + l that hold a plank -/
def pts (w : Int) (ps : List Int) (l p : Int) : List Int := ((List.range (l + 1).toNat).map fun i : Nat => p + (i : Int)).filter fun x => decide (x ≤ 0) || (decide (w ≤ x) || decide (x ∈ ps))
theorem mem_pts {w : Int} {ps : List Int} {l p x : Int} : x ∈ pts w ps l p ↔ (p ≤ x ∧ x ≤ p + l) ∧ (x ≤ 0 ∨ w ≤ x ∨ x ∈ ps) := by
  unfold pts
  simp only [List.mem_filter, List.mem_map, List.mem_range, Bool.or_eq_true, decide_eq_true_eq]
  constructor
  · rintro ⟨⟨i, h1, rfl⟩, h2⟩; exact ⟨⟨by omega, by omega⟩, h2⟩
  · rintro ⟨⟨h1, h2⟩, h3⟩; exact ⟨⟨(x - p).toNat, by omega, by omega⟩, h3⟩
theorem range_asc (p : Int) (n : Nat) : ((List.range n).map fun i : Nat => p + (i : Int)).Pairwise (· < ·) := by
  rw [List.pairwise_map]
  exact List.pairwise_lt_range.imp fun h => by omega
theorem pts_asc (w : Int) (ps : List Int) (l p : Int) : (pts w ps l p).Pairwise (· < ·) := (range_asc p _).filter _
def hdL (l : List Int) : Option (Int × Int) := match l.head?, l.getLast? with
  | some a, some b => some (a, b)
  | _, _ => none
theorem hdL_asc : ∀ {l : List Int}, l.Pairwise (· < ·) → ∀ {a b : Int}, hdL l = some (a, b) → a ∈ l ∧ b ∈ l ∧ ∀ x ∈ l, a ≤ x ∧ x ≤ b
  | [], _, a, b, h => by cases h
  | y :: t, hp, a, b, h => by
    have h : some (y, (y :: t).getLast (List.cons_ne_nil _ _)) = some (a, b) := by
      rw [← h]; unfold hdL; rw [List.getLast?_eq_some_getLast (List.cons_ne_nil _ _)]; rfl
    cases h
    refine ⟨List.mem_cons_self, List.getLast_mem _, fun x hx => ⟨?_, ?_⟩⟩
    · rcases List.mem_cons.mp hx with rfl | hx
      · exact Int.le_refl _
      · exact Int.le_of_lt (List.rel_of_pairwise_cons hp hx)
    · have e := List.dropLast_concat_getLast (List.cons_ne_nil y t)
      rw [← e] at hx hp
      rcases List.mem_append.mp hx with hx | hx
      · exact Int.le_of_lt ((List.pairwise_append.mp hp).2.2 x hx _ (by simp))
      · simp at hx; rw [hx]; exact Int.le_refl _
theorem hdL_none {l : List Int} : hdL l = none ↔ l = [] := by
  cases l with
  | nil => simp [hdL]
  | cons y t => simp [hdL, List.getLast?_cons]
def hld (w : Int) (ps : List Int) (l p : Int) : Option (Int × Int) := hdL (pts w ps l p)
theorem hld_some {w : Int} {ps : List Int} {l p a b : Int} (h : hld w ps l p = some (a, b)) : a ∈ pts w ps l p ∧ b ∈ pts w ps l p ∧ ∀ x ∈ pts w ps l p, a ≤ x ∧ x ≤ b := hdL_asc (pts_asc w ps l p) h
theorem hld_of {w : Int} {ps : List Int} {l p a b : Int} (ha : a ∈ pts w ps l p) (hb : b ∈ pts w ps l p) (h : ∀ x ∈ pts w ps l p, a ≤ x ∧ x ≤ b) : hld w ps l p = some (a, b) := by
  cases q : hld w ps l p with
  | none => rw [hdL_none.mp q] at ha; cases ha
  | some z =>
    obtain ⟨c, d⟩ := z
    obtain ⟨h1, h2, h3⟩ := hld_some q
    have e1 : c = a := Int.le_antisymm (h3 a ha).1 (h c h1).1
    have e2 : d = b := Int.le_antisymm (h d h2).2 (h3 b hb).2
    rw [e1, e2]
def hldD : Option (Int × Int) → PyData
  | some (a, b) => .tuple [.int a, .int b]
  | none => .none
def lieH (l p : Int) : Option (Int × Int) → Bool
  | some (a, b) => decide (2 * a ≤ 2 * p + l) && decide (2 * p + l ≤ 2 * b)
  | none => false
def lie (w : Int) (ps : List Int) (l p : Int) : Bool := lieH l p (hld w ps l p)
theorem lie_iff {w : Int} {ps : List Int} {l p : Int} : lie w ps l p = true ↔ ∃ a b, a ∈ pts w ps l p ∧ b ∈ pts w ps l p ∧ 2 * a ≤ 2 * p + l ∧ 2 * p + l ≤ 2 * b := by
  unfold lie
  cases q : hld w ps l p with
  | none =>
    have e := hdL_none.mp q
    simp [lieH, e]
  | some z =>
    obtain ⟨c, d⟩ := z
    obtain ⟨h1, h2, h3⟩ := hld_some q
    show (decide (2 * c ≤ 2 * p + l) && decide (2 * p + l ≤ 2 * d)) = true ↔ _
    rw [Bool.and_eq_true, decide_eq_true_eq, decide_eq_true_eq]
    constructor
    · rintro ⟨a, b⟩; exact ⟨c, d, h1, h2, a, b⟩
    · rintro ⟨a, b, ha, hb, h4, h5⟩
      have := (h3 a ha).1
      have := (h3 b hb).2
      exact ⟨by omega, by omega⟩
def plD (w : Int) (ps : List Int) (l : Int) : List Int := ((List.range (w + 1 + l).toNat).map fun i : Nat => -l + (i : Int)).filter fun p => lie w ps l p
theorem mem_plD {w : Int} {ps : List Int} {l p : Int} : p ∈ plD w ps l ↔ (-l ≤ p ∧ p ≤ w) ∧ lie w ps l p = true := by
  unfold plD
  simp only [List.mem_filter, List.mem_map, List.mem_range]
  constructor
  · rintro ⟨⟨i, h1, rfl⟩, h2⟩; exact ⟨⟨by omega, by omega⟩, h2⟩
  · rintro ⟨⟨h1, h2⟩, h3⟩; exact ⟨⟨(p + l).toNat, by omega, by omega⟩, h3⟩
theorem plD_asc (w : Int) (ps : List Int) (l : Int) : (plD w ps l).Pairwise (· < ·) := (range_asc _ _).filter _
theorem rangeL_ints (lo : Int) (n : Nat) : rangeL lo n = ((List.range n).map fun i : Nat => lo + (i : Int)).map PyData.int := by
  unfold rangeL
  rw [List.map_map]
  rfl
theorem filter_ints (f : PyData → Bool) (ns : List Int) : (ns.map PyData.int).filter f = (ns.filter fun n => f (.int n)).map PyData.int := by
  rw [List.filter_map]
  rfl
def p_held : Pf := fun ds Q _ => match ds with
  | [b, .int l, .int p] => match asB b with
    | some (w, ps) => (0 ≤ l ∧ ps.length ≤ 1000) ∧ Q (hldD (hld w ps l p))
    | none => False
  | _ => False
def N_held : List Str := [Str.ofString "brook", Str.ofString "length", Str.ofString "place", Str.ofString "width", Str.ofString "piers", Str.ofString "end", Str.ofString "some", Str.ofString "pier"]
def body_held : TDS := dSeq (dAsg (dVar 0) (gTup 2 (gCons (gName 3) (gCons (gName 4) (gNil)))))
  (dSeq (dSet 5 (dBin oPlus (dVar 2) (dVar 1)))
  (dSeq (dSet 6 (dComp [7] (dISeq (dVar 4)) (gName 7) (dB (dChain oLe oLe (dVar 2) (dVar 7) (dVar 5))) (dVar 7)))
  (dSeq (dIfS (dB (dBin oLe (dVar 2) (dC (.int 0)))) (dSet 6 (dBin oPlus (dVar 6) (dLst (dCons (dVar 2) (dCons (dCB oMin2 (dCons (dC (.int 0)) (dCons (dVar 5) (dNil)))) (dNil)))))) (dNext))
  (dSeq (dIfS (dB (dBin oGe (dVar 5) (dVar 3))) (dSet 6 (dBin oPlus (dVar 6) (dLst (dCons (dCB oMax2 (dCons (dVar 3) (dCons (dVar 2) (dNil)))) (dCons (dVar 5) (dNil)))))) (dNext))
  (dRet (dIf (dB (dBin oNe (dVar 6) (dLst (dNil)))) (dTup (dCons (dCB oMinL (dCons (dVar 6) (dNil))) (dCons (dCB oMaxL (dCons (dVar 6) (dNil))) (dNil)))) (dC .none)))))))

theorem wp_held : ∀ ds Qa Er, p_held ds Qa Er → body_held (startD N_held (ds.map Sl.da)) [] { nx := fun _ _ => Qa .none, rt := fun d _ => Qa d, er := fun n _ => Er n } := by
  intro ds Qa Er h
  match ds, h with
  | [b, .int l, .int p], h =>
    unfold p_held at h
    simp only at h
    cases q : asB b with
    | none => rw [q] at h; exact h.elim
    | some z =>
      obtain ⟨w, ps⟩ := z
      rw [q] at h
      have e := asB_some q
      subst e
      obtain ⟨⟨hl, hn⟩, h⟩ := h
      have fin : ∀ ns : List Int, (∀ x ∈ ns, x ∈ pts w ps l p) → (∀ x ∈ pts w ps l p, (∃ y ∈ ns, y ≤ x) ∧ ∃ y ∈ ns, x ≤ y) →
          dRet (dIf (dB (dBin oNe (dVar 6) (dLst (dNil)))) (dTup (dCons (dCB oMinL (dCons (dVar 6) (dNil))) (dCons (dCB oMaxL (dCons (dVar 6) (dNil))) (dNil)))) (dC .none))
          [.da (bD w ps), .da (.int l), .da (.int p), .da (.int w), .da (.tuple (ps.map .int)), .da (.int (p + l)), .da (.list (ns.map .int)), .un] [] { nx := fun _ _ => Qa .none, rt := fun d _ => Qa d, er := fun n _ => Er n } := by
        intro ns h1 h2
        refine ⟨⟨shp_ints 59 ns, rfl⟩, ?_⟩
        show if (!PyData.eqv (.list (ns.map .int)) (.list [])) = true then _ else _
        rw [eqv_nilL]
        cases ns with
        | nil =>
          refine ifF rfl ?_
          have e : hld w ps l p = none := hdL_none.mpr (by
            cases z : pts w ps l p with
            | nil => rfl
            | cons y t => obtain ⟨⟨_, a, _⟩, _⟩ := h2 y (by rw [z]; exact List.mem_cons_self); cases a)
          rw [e] at h
          exact h
        | cons n ns =>
          refine ifT rfl ⟨n :: ns, rfl, Nat.succ_pos _, fun a ha hamin => ⟨n :: ns, rfl, Nat.succ_pos _, fun b hb hbmax => ?_⟩⟩
          have e : hld w ps l p = some (a, b) := hld_of (h1 a ha) (h1 b hb) fun x hx => by
            obtain ⟨⟨y, y1, y2⟩, ⟨z, z1, z2⟩⟩ := h2 x hx
            exact ⟨Int.le_trans (hamin y y1) y2, Int.le_trans z2 (hbmax z z1)⟩
          rw [e] at h
          exact h
      refine ⟨rfl, ?_⟩
      show compD _ _ _ _ _ _ (ps.map PyData.int) [] []
      refine compD_filter (fun d => match d with
        | .int x => decide (p ≤ x) && decide (x ≤ p + l)
        | _ => false) _ (fun d hd A B hA => ?_) ?_
      · obtain ⟨x, _, rfl⟩ := List.mem_map.mp hd
        show if decide (p ≤ x) = true then _ else _
        replace hA : if (decide (p ≤ x) && decide (x ≤ p + l)) = true then _ else _ := hA
        refine if2 (fun z => ?_) (fun z => ?_)
        · rw [z] at hA; exact hA
        · rw [z] at hA; exact hA
      · have ef := filter_ints (fun d => match d with
          | .int x => decide (p ≤ x) && decide (x ≤ p + l)
          | _ => false) ps
        simp only at ef
        rw [ef]
        generalize hs : (ps.filter fun x => decide (p ≤ x) && decide (x ≤ p + l)) = ns0
        have m0 : ∀ x, x ∈ ns0 ↔ x ∈ ps ∧ p ≤ x ∧ x ≤ p + l := fun x => by rw [← hs]; simp
        have l0 : ns0.length ≤ 1000 := by rw [← hs]; exact Nat.le_trans (List.length_filter_le _ _) hn
        -- the second test
        have snd : ∀ ns : List Int, ns.length ≤ 1002 → (∀ x ∈ ns, x ∈ pts w ps l p) → (∀ x ∈ pts w ps l p, (x ≤ 0 ∨ x ∈ ps) → (∃ y ∈ ns, y ≤ x) ∧ ∃ y ∈ ns, x ≤ y) →
            dSeq (dIfS (dB (dBin oGe (dVar 5) (dVar 3))) (dSet 6 (dBin oPlus (dVar 6) (dLst (dCons (dCB oMax2 (dCons (dVar 3) (dCons (dVar 2) (dNil)))) (dCons (dVar 5) (dNil)))))) (dNext))
              (dRet (dIf (dB (dBin oNe (dVar 6) (dLst (dNil)))) (dTup (dCons (dCB oMinL (dCons (dVar 6) (dNil))) (dCons (dCB oMaxL (dCons (dVar 6) (dNil))) (dNil)))) (dC .none)))
          [.da (bD w ps), .da (.int l), .da (.int p), .da (.int w), .da (.tuple (ps.map .int)), .da (.int (p + l)), .da (.list (ns.map .int)), .un] [] { nx := fun _ _ => Qa .none, rt := fun d _ => Qa d, er := fun n _ => Er n } := by
          intro ns hl2 h1 h2
          show if decide (w ≤ p + l) = true then _ else _
          refine if2 (fun z => ?_) (fun z => ?_)
          · rw [decide_eq_true_eq] at z
            have key := fin (ns ++ [if p > w then p else w, p + l]) (fun x hx => by
              rcases List.mem_append.mp hx with hx | hx
              · exact h1 x hx
              · simp only [List.mem_cons, List.not_mem_nil, or_false] at hx
                rw [mem_pts]
                rcases hx with rfl | rfl
                · split <;> omega
                · omega) (fun x hx => by
              have hx2 := mem_pts.mp hx
              refine ⟨?_, p + l, by simp, hx2.1.2⟩
              rcases hx2.2 with h0 | h0 | h0
              · obtain ⟨⟨y, y1, y2⟩, _⟩ := h2 x hx (.inl h0); exact ⟨y, List.mem_append_left _ y1, y2⟩
              · refine ⟨if p > w then p else w, by simp, ?_⟩
                split <;> omega
              · obtain ⟨⟨y, y1, y2⟩, _⟩ := h2 x hx (.inr h0); exact ⟨y, List.mem_append_left _ y1, y2⟩)
            rw [List.map_append] at key
            refine ⟨?_, key⟩
            show (ns.map PyData.int).length + 2 ≤ 1000000
            rw [List.length_map]; omega
          · rw [decide_eq_false_iff_not] at z
            exact fin ns h1 fun x hx => by
              have hx2 := mem_pts.mp hx
              refine h2 x hx ?_
              rcases hx2.2 with h0 | h0 | h0
              · exact .inl h0
              · omega
              · exact .inr h0
        show if decide (p ≤ 0) = true then _ else _
        refine if2 (fun z => ?_) (fun z => ?_)
        · rw [decide_eq_true_eq] at z
          have key := snd (ns0 ++ [p, if p + l < 0 then p + l else 0]) (by simp; omega) (fun x hx => by
            rcases List.mem_append.mp hx with hx | hx
            · have := (m0 x).mp hx
              rw [mem_pts]; exact ⟨this.2, .inr (.inr this.1)⟩
            · simp only [List.mem_cons, List.not_mem_nil, or_false] at hx
              rw [mem_pts]
              rcases hx with rfl | rfl
              · omega
              · split <;> omega) (fun x hx h0 => by
            have hx2 := mem_pts.mp hx
            refine ⟨⟨p, by simp, hx2.1.1⟩, ?_⟩
            rcases h0 with h0 | h0
            · refine ⟨if p + l < 0 then p + l else 0, by simp, ?_⟩
              split <;> omega
            · exact ⟨x, List.mem_append_left _ ((m0 x).mpr ⟨h0, hx2.1⟩), Int.le_refl _⟩)
          rw [List.map_append] at key
          refine ⟨?_, key⟩
          show (ns0.map PyData.int).length + 2 ≤ 1000000
          rw [List.length_map]; omega
        · rw [decide_eq_false_iff_not] at z
          exact snd ns0 (by omega) (fun x hx => by
            have := (m0 x).mp hx
            rw [mem_pts]; exact ⟨this.2, .inr (.inr this.1)⟩) (fun x hx h0 => by
            have hx2 := mem_pts.mp hx
            rcases h0 with h0 | h0
            · omega
            · have : x ∈ ns0 := (m0 x).mpr ⟨h0, hx2.1⟩
              exact ⟨⟨x, this, Int.le_refl _⟩, ⟨x, this, Int.le_refl _⟩⟩)
theorem len_held : ∀ ds Qa Er, p_held ds Qa Er → ds.length = 3 := fun ds Qa Er h => by
  match ds, h with
  | [b, .int l, .int p], h => rfl
def p_lies : Pf := fun ds Q _ => match ds with
  | [b, .int l, .int p] => match asB b with
    | some (w, ps) => (0 ≤ l ∧ ps.length ≤ 1000) ∧ Q (.bool (lie w ps l p))
    | none => False
  | _ => False
def N_lies : List Str := [Str.ofString "brook", Str.ofString "length", Str.ofString "place", Str.ofString "both"]
def body_lies : TDS := dSeq (dSet 3 (dCallP p_held (dCons (dVar 0) (dCons (dVar 1) (dCons (dVar 2) (dNil))))))
  (dRet (dAnd (dNotN (dVar 3)) (dChain oLe oLe (dBin oTimes (dC (.int 2)) (dBin oIx (dVar 3) (dC (.int 0)))) (dBin oPlus (dBin oTimes (dC (.int 2)) (dVar 2)) (dVar 1)) (dBin oTimes (dC (.int 2)) (dBin oIx (dVar 3) (dC (.int 1)))))))

theorem wp_lies : ∀ ds Qa Er, p_lies ds Qa Er → body_lies (startD N_lies (ds.map Sl.da)) [] { nx := fun _ _ => Qa .none, rt := fun d _ => Qa d, er := fun n _ => Er n } := by
  intro ds Qa Er h
  match ds, h with
  | [b, .int l, .int p], h =>
    unfold p_lies at h
    simp only at h
    cases q : asB b with
    | none => rw [q] at h; exact h.elim
    | some z =>
      obtain ⟨w, ps⟩ := z
      rw [q] at h
      have e := asB_some q
      subst e
      obtain ⟨hc, h⟩ := h
      show (match asB (bD w ps) with
        | some (w, ps) => (0 ≤ l ∧ ps.length ≤ 1000) ∧ _
        | none => False)
      rw [asB_bD]
      refine ⟨hc, ?_⟩
      unfold lie at h
      cases q2 : hld w ps l p with
      | none => rw [q2] at h; exact h
      | some z =>
        obtain ⟨a, c⟩ := z
        rw [q2] at h
        replace h : Qa (.bool (decide (2 * a ≤ 2 * p + l) && decide (2 * p + l ≤ 2 * c))) := h
        refine ⟨.inl (.inl ⟨by decide, by decide⟩), .inl (.inl ⟨by decide, by decide⟩), ?_⟩
        show if decide (2 * a ≤ 2 * p + l) = true then _ else _
        refine if2 (fun z => ?_) (fun z => ?_)
        · rw [z] at h; exact ⟨.inl (.inl ⟨by decide, by decide⟩), h⟩
        · rw [z] at h; exact h
theorem len_lies : ∀ ds Qa Er, p_lies ds Qa Er → ds.length = 3 := fun ds Qa Er h => by
  match ds, h with
  | [b, .int l, .int p], h => rfl
def p_is_firm : Pf := fun ds Q E => match ds with
  | [b, l, p] => match brookOf b with
    | some (w, ps) => if isWhole l 1 8 = true then (if isWhole p (-8) 12 = true then (match l, p with
        | .int l, .int p => Q (.bool (lie w ps l p))
        | _, _ => False) else E (Str.ofString "InvalidPlace")) else E (Str.ofString "InvalidLength")
    | none => E (Str.ofString "InvalidBrook")
  | _ => False
def N_is_firm : List Str := [Str.ofString "brook", Str.ofString "length", Str.ofString "place"]
def body_is_firm : TDS := dSeq (dExpr (dCallP p_need_laid (dCons (dVar 0) (dCons (dVar 1) (dCons (dVar 2) (dNil))))))
  (dRet (dCallP p_lies (dCons (dVar 0) (dCons (dVar 1) (dCons (dVar 2) (dNil))))))

theorem wp_is_firm : ∀ ds Qa Er, p_is_firm ds Qa Er → body_is_firm (startD N_is_firm (ds.map Sl.da)) [] { nx := fun _ _ => Qa .none, rt := fun d _ => Qa d, er := fun n _ => Er n } := by
  intro ds Qa Er h
  match ds, h with
  | [b, l, p], h =>
    unfold p_is_firm at h
    simp only at h
    show if (brookOf b).isSome = true then (if isWhole l 1 8 = true then (if isWhole p (-8) 12 = true then _ else _) else _) else _
    cases q : brookOf b with
    | none => rw [q] at h; exact ifF rfl h
    | some z =>
      obtain ⟨w, ps⟩ := z
      rw [q] at h
      obtain ⟨rfl, ok⟩ := brookOf_some q
      refine ifT rfl (if2 (fun z => ?_) (fun z => ?_))
      · obtain ⟨l, rfl, l1, l2⟩ := isWhole_true z
        simp only [z, if_true] at h
        refine if2 (fun z => ?_) (fun z => ?_)
        · obtain ⟨p, rfl, p1, p2⟩ := isWhole_true z
          simp only [z, if_true] at h
          show (match asB (bD w ps) with
            | some (w, ps) => (0 ≤ l ∧ ps.length ≤ 1000) ∧ _
            | none => False)
          rw [asB_bD]
          have := (okB_spec.mp ok).2.2.1
          exact ⟨⟨by omega, by omega⟩, h⟩
        · rw [z] at h; exact h
      · simp only [z] at h; exact h
theorem len_is_firm : ∀ ds Qa Er, p_is_firm ds Qa Er → ds.length = 3 := fun ds Qa Er h => by
  match ds, h with
  | [b, l, p], h => rfl
def p_firm_places : Pf := fun ds Q E => match ds with
  | [b, l] => match brookOf b with
    | some (w, ps) => if isWhole l 1 8 = true then (match l with
        | .int l => Q (.tuple ((plD w ps l).map .int))
        | _ => False) else E (Str.ofString "InvalidLength")
    | none => E (Str.ofString "InvalidBrook")
  | _ => False
def N_firm_places : List Str := [Str.ofString "brook", Str.ofString "length", Str.ofString "place"]
def body_firm_places : TDS := dSeq (dExpr (dCallP p_need_brook (dCons (dVar 0) (dNil))))
  (dSeq (dExpr (dCallP p_need_length (dCons (dVar 1) (dNil))))
  (dRet (dCB oTup (dCons (dComp [2] (dIRng2 (dCons (oNeg (dVar 1)) (dCons (dBin oPlus (dBin oIx (dVar 0) (dC (.int 0))) (dC (.int 1))) (dNil)))) (gName 2) (dB (dCallPN p_lies (dCons (dVar 0) (dCons (dVar 1) (dCons (dVar 2) (dNil)))))) (dVar 2)) (dNil)))))

theorem wp_firm_places : ∀ ds Qa Er, p_firm_places ds Qa Er → body_firm_places (startD N_firm_places (ds.map Sl.da)) [] { nx := fun _ _ => Qa .none, rt := fun d _ => Qa d, er := fun n _ => Er n } := by
  intro ds Qa Er h
  match ds, h with
  | [b, l], h =>
    unfold p_firm_places at h
    simp only at h
    show if (brookOf b).isSome = true then (if isWhole l 1 8 = true then _ else _) else _
    cases q : brookOf b with
    | none => rw [q] at h; exact ifF rfl h
    | some z =>
      obtain ⟨w, ps⟩ := z
      rw [q] at h
      obtain ⟨rfl, ok⟩ := brookOf_some q
      obtain ⟨w1, w2, hn, _⟩ := okB_spec.mp ok
      refine ifT rfl (if2 (fun z => ?_) (fun z => ?_))
      · obtain ⟨l, rfl, l1, l2⟩ := isWhole_true z
        simp only [z, if_true] at h
        refine ⟨⟨by omega, by omega, by omega, by omega⟩, ?_⟩
        show compD _ _ _ _ _ _ (rangeL (-l) (w + 1 - -l).toNat) [] []
        refine compD_filter (fun d => match d with
          | .int x => lie w ps l x
          | _ => false) _ (fun d hd A B hA => ?_) ?_
        · rw [rangeL_ints] at hd
          obtain ⟨x, _, rfl⟩ := List.mem_map.mp hd
          show (match asB (bD w ps) with
            | some (w, ps) => (0 ≤ l ∧ ps.length ≤ 1000) ∧ _
            | none => False)
          rw [asB_bD]
          exact ⟨⟨by omega, by omega⟩, hA⟩
        · have ef := filter_ints (fun d => match d with
            | .int x => lie w ps l x
            | _ => false) ((List.range (w + 1 - -l).toNat).map fun i : Nat => -l + (i : Int))
          simp only at ef
          rw [rangeL_ints, ef]
          have e : w + 1 - -l = w + 1 + l := by omega
          rw [e]
          exact h
      · simp only [z] at h; exact h
theorem len_firm_places : ∀ ds Qa Er, p_firm_places ds Qa Er → ds.length = 2 := fun ds Qa Er h => by
  match ds, h with
  | [b, l], h => rfl
theorem loopD_ind {t : Tg} {g : TDS} {De : DEnds} (I : Nat → Ds → Rs → Prop) (ds : List PyData) {ρ : Ds} {τ : Rs} (h0 : I 0 ρ τ)
    (hs : ∀ (i : Nat) d ρ τ, ds[i]? = some d → I i ρ τ → ∀ K : Ds → Rs → Prop, (∀ ρ' τ', I (i + 1) ρ' τ' → K ρ' τ') → t d ρ fun ρ1 => g ρ1 τ { De with nx := K }) (hf : ∀ ρ τ, I ds.length ρ τ → De.nx ρ τ) : loopD t g ds ρ τ De := by
  have key : ∀ (m k : Nat) (ρ : Ds) (τ : Rs), k + m = ds.length → I k ρ τ → loopD t g (ds.drop k) ρ τ De := by
    intro m
    induction m with
    | zero =>
      intro k ρ τ e h
      rw [List.drop_of_length_le (by omega)]
      have e2 : k = ds.length := by omega
      rw [e2] at h
      exact hf ρ τ h
    | succ m ih =>
      intro k ρ τ e h
      have hk : k < ds.length := by omega
      rw [List.drop_eq_getElem_cons hk]
      exact hs k _ ρ τ (List.getElem?_eq_getElem hk) h _ fun ρ' τ' h' => ih (k + 1) ρ' τ' (by omega) h'
  exact key ds.length 0 ρ τ (by omega) h0
theorem rangeL_get {lo : Int} {n i : Nat} {d : PyData} (h : (rangeL lo n)[i]? = some d) : d = .int (lo + (i : Int)) ∧ i < n := by
  have hi := (List.getElem?_eq_some_iff.mp h).1
  rw [rangeL_length] at hi
  unfold rangeL at h
  rw [List.getElem?_map, List.getElem?_range hi] at h
  exact ⟨(Option.some.inj h).symm, hi⟩
/-- the first n ints from lo that pass -/
def upTo (q : Int → Bool) (lo : Int) (n : Nat) : List Int := ((List.range n).map fun i : Nat => lo + (i : Int)).filter q
theorem upTo_succ (q : Int → Bool) (lo : Int) (n : Nat) : upTo q lo (n + 1) = upTo q lo n ++ (if q (lo + (n : Int)) = true then [lo + (n : Int)] else []) := by
  unfold upTo
  rw [List.range_succ, List.map_append, List.filter_append]
  congr 1
  simp only [List.map_cons, List.map_nil, List.filter_cons, List.filter_nil]
theorem upTo_len (q : Int → Bool) (lo : Int) (n : Nat) : (upTo q lo n).length ≤ n := by
  unfold upTo
  exact Nat.le_trans (List.length_filter_le _ _) (by simp)
def strS : Sl → Bool
  | .da (.str _) => true
  | _ => false
theorem ix_go {τ : Rs} {x : Sl} {i : Int} {ds : List PyData} {d : PyData} {Q : PyData → Prop} (hx : strS x = false) (hs : seqOf τ x = some ds) (h : atI ds i = some d) (q : Q d) : oIx x (.da (.int i)) τ Q := by
  have main : (match seqOf τ x with
    | some ds => match atI ds i with
      | some d => Q d
      | none => False
    | none => False) := by rw [hs]; simp only; rw [h]; exact q
  cases x with
  | un => exact main
  | res k => exact main
  | da z => cases z with
    | str _ => cases hx
    | _ => exact main
def p__law_held : Pf := fun ds Q _ => match ds with
  | [b, .int l, .int p] => match asB b with
    | some (w, ps) => (0 ≤ l ∧ l ≤ 100 ∧ -100 ≤ p ∧ p ≤ 100) ∧ Q (hldD (hld w ps l p))
    | none => False
  | _ => False
def N__law_held : List Str := [Str.ofString "brook", Str.ofString "length", Str.ofString "place", Str.ofString "some", Str.ofString "point"]
def body__law_held : TDS := dSeq (dNew 3)
  (dSeq (dFor (dIRng2 (dCons (dVar 2) (dCons (dBin oPlus (dBin oPlus (dVar 2) (dVar 1)) (dC (.int 1))) (dNil)))) (gName 4)
  (dIfS (dOrT (dB (dBin oLe (dVar 4) (dC (.int 0)))) (dOrT (dB (dBin oGe (dVar 4) (dBin oIx (dVar 0) (dC (.int 0))))) (dB (dBin (oIn false) (dVar 4) (dBin oIx (dVar 0) (dC (.int 1))))))) (dAppend 3 (dVar 4)) (dNext)))
  (dRet (dIf (dB (dBin oNe (dVar 3) (dLst (dNil)))) (dTup (dCons (dBin oIx (dVar 3) (dC (.int 0))) (dCons (dBin oIx (dVar 3) (oNeg (dC (.int 1)))) (dNil)))) (dC .none))))

theorem atI_last {ns : List Int} {b : Int} (h : ns.getLast? = some b) : atI (ns.map PyData.int) (-1) = some (.int b) := by
  cases ns with
  | nil => cases h
  | cons y t =>
    unfold atI
    have e : ixN ((y :: t).map PyData.int).length (-1) = some t.length := by
      unfold ixN
      simp
      omega
    rw [e]
    show ((y :: t).map PyData.int)[t.length]? = some (.int b)
    rw [List.getElem?_map]
    rw [List.getLast?_eq_getElem?] at h
    rw [show t.length = (y :: t).length - 1 by simp, h]
    rfl
theorem wp__law_held : ∀ ds Qa Er, p__law_held ds Qa Er → body__law_held (startD N__law_held (ds.map Sl.da)) [] { nx := fun _ _ => Qa .none, rt := fun d _ => Qa d, er := fun n _ => Er n } := by
  intro ds Qa Er h
  match ds, h with
  | [b, .int l, .int p], h =>
    unfold p__law_held at h
    simp only at h
    cases q : asB b with
    | none => rw [q] at h; exact h.elim
    | some z =>
      obtain ⟨w, ps⟩ := z
      rw [q] at h
      have e := asB_some q
      subst e
      obtain ⟨⟨l1, l2, p1, p2⟩, h⟩ := h
      refine ⟨⟨by omega, by omega, by omega, by omega⟩, ?_⟩
      have e : p + l + 1 - p = l + 1 := by omega
      show loopD _ _ (rangeL p (p + l + 1 - p).toNat) _ _ _
      rw [e]
      refine loopD_ind (fun i ρ τ => ∃ v, ρ = [.da (bD w ps), .da (.int l), .da (.int p), .res 0, v] ∧ τ = [.lst ((upTo (fun x => decide (x ≤ 0) || (decide (w ≤ x) || decide (x ∈ ps))) p i).map .int)]) _ ⟨_, rfl, rfl⟩ ?_ ?_
      · rintro i d ρ τ hi ⟨v, rfl, rfl⟩ K hK
        obtain ⟨rfl, hi⟩ := rangeL_get hi
        have go : (decide (p + (i : Int) ≤ 0) || (decide (w ≤ p + (i : Int)) || decide (p + (i : Int) ∈ ps))) = true →
            dAppend 3 (dVar 4) [.da (bD w ps), .da (.int l), .da (.int p), .res 0, .da (.int (p + (i : Int)))] [.lst ((upTo (fun x => decide (x ≤ 0) || (decide (w ≤ x) || decide (x ∈ ps))) p i).map .int)] { nx := K, rt := fun d _ => Qa d, er := fun n _ => Er n } := fun z => by
          refine ⟨?_, hK _ _ ⟨_, rfl, ?_⟩⟩
          · have := upTo_len (fun x => decide (x ≤ 0) || (decide (w ≤ x) || decide (x ∈ ps))) p i
            rw [List.length_map]; omega
          · rw [upTo_succ, if_pos z, List.map_append]; rfl
        show if decide (p + (i : Int) ≤ 0) = true then _ else _
        refine if2 (fun z => ?_) (fun z => ?_)
        · exact go (by rw [z]; rfl)
        · show if decide (w ≤ p + (i : Int)) = true then _ else _
          refine if2 (fun z2 => ?_) (fun z2 => ?_)
          · exact go (by rw [z, z2]; rfl)
          · refine ⟨⟨rfl, flat_ints ps⟩, ?_⟩
            show if ((ps.map PyData.int).any fun z => PyData.eqv z (.int (p + (i : Int)))) = true then _ else _
            rw [any_eqv_ints]
            refine if2 (fun z3 => ?_) (fun z3 => ?_)
            · exact go (by rw [z3]; simp)
            · refine hK _ _ ⟨_, rfl, ?_⟩
              rw [upTo_succ, if_neg (by rw [z, z2, z3]; decide), List.append_nil]
      · rintro ρ τ ⟨v, rfl, rfl⟩
        rw [rangeL_length]
        have e : upTo (fun x => decide (x ≤ 0) || (decide (w ≤ x) || decide (x ∈ ps))) p (l + 1).toNat = pts w ps l p := rfl
        rw [e]
        refine ⟨⟨shp_ints 59 _, rfl⟩, ?_⟩
        show if (!PyData.eqv (.list ((pts w ps l p).map .int)) (.list [])) = true then _ else _
        rw [eqv_nilL]
        unfold hld at h
        generalize pts w ps l p = ns at h
        cases ns with
        | nil => exact ifF rfl h
        | cons y t =>
          refine ifT rfl ?_
          have hl : (y :: t).getLast? = some ((y :: t).getLast (List.cons_ne_nil _ _)) := List.getLast?_eq_some_getLast _
          have e : hdL (y :: t) = some (y, (y :: t).getLast (List.cons_ne_nil _ _)) := by
            unfold hdL; rw [hl]; rfl
          rw [e] at h
          show (match atI ((y :: t).map PyData.int) 0 with
            | some d => (match atI ((y :: t).map PyData.int) (-1) with
              | some d' => _
              | none => False)
            | none => False)
          rw [atI_last hl, show atI ((y :: t).map PyData.int) 0 = some (.int y) from atI_ints (ns := y :: t) (j := 0) rfl]
          exact h
theorem len__law_held : ∀ ds Qa Er, p__law_held ds Qa Er → ds.length = 3 := fun ds Qa Er h => by
  match ds, h with
  | [b, .int l, .int p], h => rfl
def laidK (b l p : PyData) (k : Int → List Int → Int → Int → Prop) (E : Str → Prop) : Prop := match brookOf b with
  | some (w, ps) => if isWhole l 1 8 = true then (if isWhole p (-8) 12 = true then (match l, p with
      | .int l, .int p => k w ps l p
      | _, _ => False) else E (Str.ofString "InvalidPlace")) else E (Str.ofString "InvalidLength")
  | none => E (Str.ofString "InvalidBrook")
theorem whole_of {i lo hi : Int} (h1 : lo ≤ i) (h2 : i ≤ hi) : isWhole (.int i) lo hi = true := by rw [isWhole_int]; simp [h1, h2]
theorem laid_need {b l p : PyData} {k : Int → List Int → Int → Int → Prop} {E : Str → Prop} {R : PyData → Prop} (h : laidK b l p k E)
    (g : ∀ w ps l' p', b = bD w ps → l = .int l' → p = .int p' → okB w ps = true → 1 ≤ l' → l' ≤ 8 → -8 ≤ p' → p' ≤ 12 → k w ps l' p' → R .none) : p_need_laid [b, l, p] R E := by
  unfold laidK at h
  show if (brookOf b).isSome = true then (if isWhole l 1 8 = true then (if isWhole p (-8) 12 = true then R .none else _) else _) else _
  cases q : brookOf b with
  | none => rw [q] at h; exact ifF rfl h
  | some z =>
    obtain ⟨w, ps⟩ := z
    rw [q] at h
    obtain ⟨rfl, ok⟩ := brookOf_some q
    refine ifT rfl (if2 (fun z => ?_) (fun z => ?_))
    · obtain ⟨l, rfl, l1, l2⟩ := isWhole_true z
      simp only [z, if_true] at h
      refine if2 (fun z => ?_) (fun z => ?_)
      · obtain ⟨p, rfl, p1, p2⟩ := isWhole_true z
        simp only [z, if_true] at h
        exact g w ps l p rfl rfl rfl ok l1 l2 p1 p2 h
      · rw [z] at h; exact h
    · simp only [z] at h; exact h
theorem laid_of {w l p : Int} {ps : List Int} {k : Int → List Int → Int → Int → Prop} {E : Str → Prop} (ok : okB w ps = true) (h1 : 1 ≤ l) (h2 : l ≤ 8) (h3 : -8 ≤ p) (h4 : p ≤ 12) (q : k w ps l p) : laidK (bD w ps) (.int l) (.int p) k E := by
  unfold laidK; rw [brookOf_bD ok]; simp only [whole_of h1 h2, whole_of h3 h4, if_true]; exact q
def weiK (v : PyData) (k : Int → Prop) (E : Str → Prop) : Prop := if isWhole v 0 60 = true then (match v with
  | .int i => k i
  | _ => False) else E (Str.ofString "InvalidWeight")
theorem wei_of {i : Int} {k : Int → Prop} {E : Str → Prop} (h1 : 0 ≤ i) (h2 : i ≤ 60) (q : k i) : weiK (.int i) k E := by
  unfold weiK; rw [whole_of h1 h2, if_pos rfl]; exact q
def sml (l p W : Int) : Prop := (0 ≤ l ∧ l ≤ 100) ∧ (-100 ≤ p ∧ p ≤ 100) ∧ 0 ≤ W ∧ W ≤ 100
def mL (a l p W : Int) : Int := if 2 * W * p > 2 * a * (l + W) - l * (2 * p + l) then 2 * W * p else 2 * a * (l + W) - l * (2 * p + l)
def mR (b l p W : Int) : Int := if 2 * W * (p + l) < 2 * b * (l + W) - l * (2 * p + l) then 2 * W * (p + l) else 2 * b * (l + W) - l * (2 * p + l)
def wlkH (l p W : Int) : Option (Int × Int) → Bool
  | some (a, b) => lieH l p (some (a, b)) && ((mL a l p W == 2 * W * p) && (mR b l p W == 2 * W * (p + l)))
  | none => false
def wlk (w : Int) (ps : List Int) (l p W : Int) : Bool := wlkH l p W (hld w ps l p)
def hvy (w : Int) (ps : List Int) (l p : Int) : Option Int := (upTo (fun W => wlk w ps l p W) 0 61).getLast?
def optD : Option Int → PyData
  | some i => .int i
  | none => .none
def low2 (t u : Int) : PyData := .tuple [.int (t / (Int.gcd t u : Int)), .int (u / (Int.gcd t u : Int))]
def stnH (l p W t u : Int) : Option (Int × Int) → Bool
  | some (a, b) => lieH l p (some (a, b)) && (decide (a * (2 * (l + W) * u) ≤ l * (2 * p + l) * u + 2 * W * t) && decide (l * (2 * p + l) * u + 2 * W * t ≤ b * (2 * (l + W) * u)))
  | none => false
def stn (w : Int) (ps : List Int) (l p W t u : Int) : Bool := stnH l p W t u (hld w ps l p)
theorem c_held {w l p : Int} {ps : List Int} {Q : PyData → Prop} {E : Str → Prop} (h : 0 ≤ l ∧ ps.length ≤ 1000) (q : Q (hldD (hld w ps l p))) : p_held [bD w ps, .int l, .int p] Q E := by
  unfold p_held; simp only; rw [asB_bD]; exact ⟨h, q⟩
theorem c_lies {w l p : Int} {ps : List Int} {Q : PyData → Prop} {E : Str → Prop} (h : 0 ≤ l ∧ ps.length ≤ 1000) (q : Q (.bool (lie w ps l p))) : p_lies [bD w ps, .int l, .int p] Q E := by
  unfold p_lies; simp only; rw [asB_bD]; exact ⟨h, q⟩
theorem c__law_held {w l p : Int} {ps : List Int} {Q : PyData → Prop} {E : Str → Prop} (h : 0 ≤ l ∧ l ≤ 100 ∧ -100 ≤ p ∧ p ≤ 100) (q : Q (hldD (hld w ps l p))) : p__law_held [bD w ps, .int l, .int p] Q E := by
  unfold p__law_held; simp only; rw [asB_bD]; exact ⟨h, q⟩
theorem okB_len {w : Int} {ps : List Int} (h : okB w ps = true) : ps.length ≤ 1000 := by have := (okB_spec.mp h).2.2.1; omega
def p_supports : Pf := fun ds Q E => match ds with
  | [b, l, p] => laidK b l p (fun w ps l p => Q (hldD (hld w ps l p))) E
  | _ => False
def N_supports : List Str := [Str.ofString "brook", Str.ofString "length", Str.ofString "place"]
def body_supports : TDS := dSeq (dExpr (dCallPJ p_need_laid (dCons (dVar 0) (dCons (dVar 1) (dCons (dVar 2) (dNil))))))
  (dRet (dCallPJ p_held (dCons (dVar 0) (dCons (dVar 1) (dCons (dVar 2) (dNil))))))

theorem wp_supports : ∀ ds Qa Er, p_supports ds Qa Er → body_supports (startD N_supports (ds.map Sl.da)) [] { nx := fun _ _ => Qa .none, rt := fun d _ => Qa d, er := fun n _ => Er n } := by
  intro ds Qa Er h
  match ds, h with
  | [b, l, p], h => exact ⟨laid_need h fun w ps l' p' e1 e2 e3 ok l1 l2 p1 p2 q => by subst e1 e2 e3; exact ⟨c_held ⟨by omega, okB_len ok⟩ q⟩⟩
theorem len_supports : ∀ ds Qa Er, p_supports ds Qa Er → ds.length = 3 := fun ds Qa Er h => by
  match ds, h with
  | [b, l, p], h => rfl
def p_divisor : Pf := fun ds Q _ => match ds with
  | [.int a, .int b] => (0 ≤ a ∧ 0 ≤ b) ∧ Q (.int (Int.gcd a b : Int))
  | _ => False
def N_divisor : List Str := [Str.ofString "one", Str.ofString "other"]
def body_divisor : TDS := dSeq (dWhile (dB (dBin oNe (dVar 1) (dC (.int 0)))) (dPar 0 1 (dCons (dVar 1) (dCons (dBin oMod (dVar 0) (dVar 1)) (dNil)))))
  (dRet (dVar 0))

theorem wp_divisor : ∀ ds Qa Er, p_divisor ds Qa Er → body_divisor (startD N_divisor (ds.map Sl.da)) [] { nx := fun _ _ => Qa .none, rt := fun d _ => Qa d, er := fun n _ => Er n } := by
  intro ds Qa Er h
  match ds, h with
  | [.int a, .int b], ⟨⟨h1, h2⟩, h⟩ =>
    obtain ⟨m, rfl⟩ : ∃ m : Nat, a = (m : Int) := ⟨a.toNat, by omega⟩
    obtain ⟨n, rfl⟩ : ∃ n : Nat, b = (n : Int) := ⟨b.toNat, by omega⟩
    have key : ∀ (k n m : Nat), n < k → Qa (.int (Nat.gcd m n : Int)) → loopW (dB (dBin oNe (dVar 1) (dC (.int 0)))) (dPar 0 1 (dCons (dVar 1) (dCons (dBin oMod (dVar 0) (dVar 1)) (dNil)))) k [.da (.int (m : Int)), .da (.int (n : Int))] []
        { nx := fun ρ' τ' => dRet (dVar 0) ρ' τ' { nx := fun _ _ => Qa .none, rt := fun d _ => Qa d, er := fun n _ => Er n }, rt := fun d _ => Qa d, er := fun n _ => Er n } := by
      intro k
      induction k with
      | zero => intro n m hk; omega
      | succ k ih =>
        intro n m hk hq
        refine ⟨⟨rfl, rfl⟩, ?_⟩
        show if (!((n : Int) == 0)) = true then _ else _
        cases n with
        | zero => rw [Nat.gcd_zero_right] at hq; exact ifF rfl hq
        | succ n =>
          refine ifT (by rw [beq_eq_false_iff_ne.mpr (by omega)]; rfl) ⟨by show (0 : Int) < ((n + 1 : Nat) : Int); omega, ?_⟩
          have := ih (m % (n + 1)) (n + 1) (by have := Nat.mod_lt m (show 0 < n + 1 by omega); omega) (by rw [Nat.gcd_comm, ← Nat.gcd_rec, Nat.gcd_comm]; exact hq)
          rw [Int.natCast_emod] at this
          exact this
    exact ⟨n + 1, key (n + 1) n m (by omega) h⟩
theorem len_divisor : ∀ ds Qa Er, p_divisor ds Qa Er → ds.length = 2 := fun ds Qa Er h => by
  match ds, h with
  | [.int a, .int b], h => rfl
def p_lowest : Pf := fun ds Q _ => match ds with
  | [.int t, .int u] => (0 < u ∧ u ≤ 1000) ∧ Q (low2 t u)
  | _ => False
def N_lowest : List Str := [Str.ofString "top", Str.ofString "under", Str.ofString "common"]
def body_lowest : TDS := dSeq (dSet 2 (dCallPJ p_divisor (dCons (dCB oAbs (dCons (dVar 0) (dNil))) (dCons (dVar 1) (dNil)))))
  (dRet (dTup (dCons (dBin oOver (dVar 0) (dVar 2)) (dCons (dBin oOver (dVar 1) (dVar 2)) (dNil)))))

theorem gcd_bnd {t u : Int} (h : 0 < u) : 0 < (Int.gcd t u : Int) ∧ (Int.gcd t u : Int) ≤ u := by
  have h1 : 0 < Int.gcd t u := Int.gcd_pos_of_ne_zero_right _ (by omega)
  have h2 : Int.gcd t u ≤ u.natAbs := Nat.le_of_dvd (by omega) (Int.gcd_dvd_natAbs_right t u)
  omega
theorem wp_lowest : ∀ ds Qa Er, p_lowest ds Qa Er → body_lowest (startD N_lowest (ds.map Sl.da)) [] { nx := fun _ _ => Qa .none, rt := fun d _ => Qa d, er := fun n _ => Er n } := by
  intro ds Qa Er h
  match ds, h with
  | [.int t, .int u], ⟨⟨h1, h2⟩, h⟩ =>
    have e : (Int.gcd (if t < 0 then -t else t) u : Int) = Int.gcd t u := by split <;> simp
    have g := gcd_bnd (t := t) h1
    refine ⟨⟨⟨?_, by omega⟩, ?_⟩⟩
    · split <;> omega
    · rw [e]
      exact ⟨.inl ⟨g.1, by omega⟩, .inl ⟨g.1, by omega⟩, h⟩
theorem len_lowest : ∀ ds Qa Er, p_lowest ds Qa Er → ds.length = 2 := fun ds Qa Er h => by
  match ds, h with
  | [.int t, .int u], h => rfl
def p_moments : Pf := fun ds Q _ => match ds with
  | [b, .int l, .int p, .int W] => ∃ w ps a c, b = bD w ps ∧ ps.length ≤ 1000 ∧ hld w ps l p = some (a, c) ∧ sml l p W ∧ Q (.tuple [.int (mL a l p W), .int (mR c l p W)])
  | _ => False
def N_moments : List Str := [Str.ofString "brook", Str.ofString "length", Str.ofString "place", Str.ofString "weight", Str.ofString "low", Str.ofString "high", Str.ofString "own", Str.ofString "left", Str.ofString "right"]
def body_moments : TDS := dSeq (dAsg (dCallPJ p_held (dCons (dVar 0) (dCons (dVar 1) (dCons (dVar 2) (dNil))))) (gTup 2 (gCons (gName 4) (gCons (gName 5) (gNil)))))
  (dSeq (dSet 6 (dBin oTimes (dVar 1) (dBin oPlus (dBin oTimes (dC (.int 2)) (dVar 2)) (dVar 1))))
  (dSeq (dSet 7 (dCB oMax2 (dCons (dBin oSub (dBin oTimes (dBin oTimes (dC (.int 2)) (dVar 4)) (dBin oPlus (dVar 1) (dVar 3))) (dVar 6)) (dCons (dBin oTimes (dBin oTimes (dC (.int 2)) (dVar 3)) (dVar 2)) (dNil)))))
  (dSeq (dSet 8 (dCB oMin2 (dCons (dBin oSub (dBin oTimes (dBin oTimes (dC (.int 2)) (dVar 5)) (dBin oPlus (dVar 1) (dVar 3))) (dVar 6)) (dCons (dBin oTimes (dBin oTimes (dC (.int 2)) (dVar 3)) (dBin oPlus (dVar 2) (dVar 1))) (dNil)))))
  (dRet (dTup (dCons (dVar 7) (dCons (dVar 8) (dNil))))))))

theorem wp_moments : ∀ ds Qa Er, p_moments ds Qa Er → body_moments (startD N_moments (ds.map Sl.da)) [] { nx := fun _ _ => Qa .none, rt := fun d _ => Qa d, er := fun n _ => Er n } := by
  intro ds Qa Er h
  match ds, h with
  | [b, .int l, .int p, .int W], ⟨w, ps, a, c, eb, hn, hh, ⟨⟨l1, l2⟩, ⟨p1, p2⟩, w1, w2⟩, h⟩ =>
    subst eb
    refine ⟨c_held ⟨l1, hn⟩ ?_⟩
    rw [hh]
    refine ⟨rfl, ?_⟩
    refine ⟨.inl (.inl ⟨by decide, by decide⟩), .inl (.inl ⟨by omega, by omega⟩), ?_⟩
    refine ⟨.inl (.inl ⟨by decide, by decide⟩), .inl (.inr ⟨by omega, by omega⟩), ?_⟩
    refine ⟨.inl (.inl ⟨by decide, by decide⟩), .inl (.inl ⟨by omega, by omega⟩), ?_⟩
    refine ⟨.inl (.inl ⟨by decide, by decide⟩), .inl (.inr ⟨by omega, by omega⟩), ?_⟩
    refine ⟨.inl (.inl ⟨by decide, by decide⟩), .inl (.inl ⟨by omega, by omega⟩), ?_⟩
    exact h
theorem len_moments : ∀ ds Qa Er, p_moments ds Qa Er → ds.length = 4 := fun ds Qa Er h => by
  match ds, h with
  | [b, .int l, .int p, .int W], h => rfl
def p_need_all_lying : Pf := fun ds Q E => match ds with
  | [b, l, p, v] => laidK b l p (fun _ _ _ _ => weiK v (fun _ => Q .none) E) E
  | _ => False
def N_need_all_lying : List Str := [Str.ofString "brook", Str.ofString "length", Str.ofString "place", Str.ofString "weight"]
def body_need_all_lying : TDS := dSeq (dExpr (dCallPJ p_need_laid (dCons (dVar 0) (dCons (dVar 1) (dCons (dVar 2) (dNil))))))
  (dExpr (dCallPJ p_need_weight (dCons (dVar 3) (dNil))))

theorem wei_need {v : PyData} {k : Int → Prop} {E : Str → Prop} {R : PyData → Prop} (h : weiK v k E) (g : ∀ i, v = .int i → 0 ≤ i → i ≤ 60 → k i → R .none) : p_need_weight [v] R E := by
  unfold weiK at h
  show if isWhole v 0 60 = true then R .none else _
  refine if2 (fun z => ?_) (fun z => ?_)
  · obtain ⟨i, rfl, h1, h2⟩ := isWhole_true z
    rw [z, if_pos rfl] at h
    exact g i rfl h1 h2 h
  · rw [z] at h; exact h
theorem wp_need_all_lying : ∀ ds Qa Er, p_need_all_lying ds Qa Er → body_need_all_lying (startD N_need_all_lying (ds.map Sl.da)) [] { nx := fun _ _ => Qa .none, rt := fun d _ => Qa d, er := fun n _ => Er n } := by
  intro ds Qa Er h
  match ds, h with
  | [b, l, p, v], h => exact ⟨laid_need h fun w ps l' p' e1 e2 e3 ok l1 l2 p1 p2 q => ⟨wei_need q fun i e h1 h2 q => q⟩⟩
theorem len_need_all_lying : ∀ ds Qa Er, p_need_all_lying ds Qa Er → ds.length = 4 := fun ds Qa Er h => by
  match ds, h with
  | [b, l, p, v], h => rfl
theorem all_need {b l p v : PyData} {k : Int → List Int → Int → Int → Int → Prop} {E : Str → Prop} {R : PyData → Prop} (h : laidK b l p (fun w ps l p => weiK v (fun i => k w ps l p i) E) E)
    (g : ∀ w ps l' p' i, b = bD w ps → l = .int l' → p = .int p' → v = .int i → okB w ps = true → 1 ≤ l' → l' ≤ 8 → -8 ≤ p' → p' ≤ 12 → 0 ≤ i → i ≤ 60 → k w ps l' p' i → R .none) : p_need_all_lying [b, l, p, v] R E := by
  show laidK b l p (fun _ _ _ _ => weiK v (fun _ => R .none) E) E
  have h2 := laid_need (R := fun _ => laidK b l p (fun _ _ _ _ => weiK v (fun _ => R .none) E) E) h fun w ps l' p' e1 e2 e3 ok l1 l2 p1 p2 q => by
    subst e1 e2 e3
    refine laid_of ok l1 l2 p1 p2 ?_
    have q2 := wei_need (R := fun _ => weiK v (fun _ => R .none) E) q fun i e h1 h2 q' => by subst e; exact wei_of h1 h2 (g w ps l' p' i rfl rfl rfl rfl ok l1 l2 p1 p2 h1 h2 q')
    replace q2 : if isWhole v 0 60 = true then weiK v (fun _ => R .none) E else E (Str.ofString "InvalidWeight") := q2
    cases z : isWhole v 0 60 with
    | true => rw [z] at q2; exact q2
    | false => rw [z] at q2; unfold weiK; rw [z]; exact q2
  replace h2 : if (brookOf b).isSome = true then (if isWhole l 1 8 = true then (if isWhole p (-8) 12 = true then laidK b l p (fun _ _ _ _ => weiK v (fun _ => R .none) E) E else E (Str.ofString "InvalidPlace")) else E (Str.ofString "InvalidLength")) else E (Str.ofString "InvalidBrook") := h2
  cases z : brookOf b with
  | none => rw [z] at h2; unfold laidK; rw [z]; exact h2
  | some y =>
    obtain ⟨w, ps⟩ := y
    rw [z] at h2
    simp only [Option.isSome_some, if_true] at h2
    cases z1 : isWhole l 1 8 with
    | false => rw [z1] at h2; unfold laidK; rw [z]; simp only [z1]; exact h2
    | true =>
      rw [z1, if_pos rfl] at h2
      cases z2 : isWhole p (-8) 12 with
      | false => rw [z2] at h2; unfold laidK; rw [z]; simp only [z1, z2, if_true]; exact h2
      | true => rw [z2, if_pos rfl] at h2; exact h2
def strK (w : Int) (ps : List Int) (l p W : Int) (Q : PyData → Prop) (E : Str → Prop) : Prop := match hld w ps l p with
  | some (a, c) => if lieH l p (some (a, c)) = true then (if (W == 0) = true then Q (.tuple [.tuple [.int p, .int 1], .tuple [.int (p + l), .int 1]]) else Q (.tuple [low2 (mL a l p W) (2 * W), low2 (mR c l p W) (2 * W)])) else E (Str.ofString "NotFirm")
  | none => E (Str.ofString "NotFirm")
def p_stretch : Pf := fun ds Q E => match ds with
  | [b, l, p, v] => laidK b l p (fun w ps l p => weiK v (fun W => strK w ps l p W Q E) E) E
  | _ => False
def N_stretch : List Str := [Str.ofString "brook", Str.ofString "length", Str.ofString "place", Str.ofString "weight", Str.ofString "left", Str.ofString "right"]
def body_stretch : TDS := dSeq (dExpr (dCallPJ p_need_all_lying (dCons (dVar 0) (dCons (dVar 1) (dCons (dVar 2) (dCons (dVar 3) (dNil)))))))
  (dSeq (dIfS (dNotT (dB (dCallPJ p_lies (dCons (dVar 0) (dCons (dVar 1) (dCons (dVar 2) (dNil))))))) (dRaise (Str.ofString "NotFirm")) (dNext))
  (dSeq (dIfS (dB (dBin oEq (dVar 3) (dC (.int 0)))) (dRet (dTup (dCons (dTup (dCons (dVar 2) (dCons (dC (.int 1)) (dNil)))) (dCons (dTup (dCons (dBin oPlus (dVar 2) (dVar 1)) (dCons (dC (.int 1)) (dNil)))) (dNil))))) (dNext))
  (dSeq (dAsg (dCallPJ p_moments (dCons (dVar 0) (dCons (dVar 1) (dCons (dVar 2) (dCons (dVar 3) (dNil)))))) (gTup 2 (gCons (gName 4) (gCons (gName 5) (gNil)))))
  (dRet (dTup (dCons (dCallPJ p_lowest (dCons (dVar 4) (dCons (dBin oTimes (dC (.int 2)) (dVar 3)) (dNil)))) (dCons (dCallPJ p_lowest (dCons (dVar 5) (dCons (dBin oTimes (dC (.int 2)) (dVar 3)) (dNil)))) (dNil))))))))

theorem wp_stretch : ∀ ds Qa Er, p_stretch ds Qa Er → body_stretch (startD N_stretch (ds.map Sl.da)) [] { nx := fun _ _ => Qa .none, rt := fun d _ => Qa d, er := fun n _ => Er n } := by
  intro ds Qa Er h
  match ds, h with
  | [b, l, p, v], h =>
    refine ⟨all_need h fun w ps l' p' i e1 e2 e3 e4 ok l1 l2 p1 p2 i1 i2 q => ?_⟩
    subst e1 e2 e3 e4
    refine ⟨c_lies ⟨by omega, okB_len ok⟩ ?_⟩
    show if (!lieH l' p' (hld w ps l' p')) = true then _ else _
    unfold strK at q
    cases z : hld w ps l' p' with
    | none => rw [z] at q; exact ifT rfl q
    | some y =>
      obtain ⟨a, c⟩ := y
      rw [z] at q
      replace q : if lieH l' p' (some (a, c)) = true then _ else _ := q
      cases z2 : lieH l' p' (some (a, c)) with
      | false => rw [z2, if_neg (by decide)] at q; exact ifT rfl q
      | true =>
        rw [z2, if_pos rfl] at q
        refine ifF rfl ⟨⟨rfl, rfl⟩, ?_⟩
        show if (i == 0) = true then _ else _
        refine if2 (fun z3 => ?_) (fun z3 => ?_)
        · rw [z3, if_pos rfl] at q; exact q
        · rw [z3, if_neg (by decide)] at q
          have i0 : i ≠ 0 := by simpa using z3
          refine ⟨⟨w, ps, a, c, rfl, okB_len ok, z, ⟨⟨by omega, by omega⟩, ⟨by omega, by omega⟩, by omega, by omega⟩, ?_⟩⟩
          refine ⟨rfl, ?_⟩
          refine ⟨.inl (.inl ⟨by decide, by decide⟩), ⟨⟨by omega, by omega⟩, ?_⟩⟩
          exact ⟨.inl (.inl ⟨by decide, by decide⟩), ⟨⟨by omega, by omega⟩, q⟩⟩
theorem len_stretch : ∀ ds Qa Er, p_stretch ds Qa Er → ds.length = 4 := fun ds Qa Er h => by
  match ds, h with
  | [b, l, p, v], h => rfl
def p_walks : Pf := fun ds Q _ => match ds with
  | [b, .int l, .int p, .int W] => ∃ w ps, b = bD w ps ∧ ps.length ≤ 1000 ∧ sml l p W ∧ Q (.bool (wlk w ps l p W))
  | _ => False
def N_walks : List Str := [Str.ofString "brook", Str.ofString "length", Str.ofString "place", Str.ofString "weight", Str.ofString "left", Str.ofString "right"]
def body_walks : TDS := dSeq (dIfS (dNotT (dB (dCallPJ p_lies (dCons (dVar 0) (dCons (dVar 1) (dCons (dVar 2) (dNil))))))) (dRet (dC (.bool false))) (dNext))
  (dSeq (dAsg (dCallPJ p_moments (dCons (dVar 0) (dCons (dVar 1) (dCons (dVar 2) (dCons (dVar 3) (dNil)))))) (gTup 2 (gCons (gName 4) (gCons (gName 5) (gNil)))))
  (dRet (dAnd (dBin oEq (dVar 4) (dBin oTimes (dBin oTimes (dC (.int 2)) (dVar 3)) (dVar 2))) (dBin oEq (dVar 5) (dBin oTimes (dBin oTimes (dC (.int 2)) (dVar 3)) (dBin oPlus (dVar 2) (dVar 1)))))))

theorem wp_walks : ∀ ds Qa Er, p_walks ds Qa Er → body_walks (startD N_walks (ds.map Sl.da)) [] { nx := fun _ _ => Qa .none, rt := fun d _ => Qa d, er := fun n _ => Er n } := by
  intro ds Qa Er h
  match ds, h with
  | [b, .int l, .int p, .int W], ⟨w, ps, eb, hn, hs, h⟩ =>
    subst eb
    obtain ⟨⟨l1, l2⟩, ⟨p1, p2⟩, w1, w2⟩ := id hs
    refine ⟨c_lies ⟨l1, hn⟩ ?_⟩
    show if (!lieH l p (hld w ps l p)) = true then _ else _
    unfold wlk at h
    cases z : hld w ps l p with
    | none => rw [z] at h; exact ifT rfl h
    | some y =>
      obtain ⟨a, c⟩ := y
      rw [z] at h
      replace h : Qa (.bool (lieH l p (some (a, c)) && ((mL a l p W == 2 * W * p) && (mR c l p W == 2 * W * (p + l))))) := h
      cases z2 : lieH l p (some (a, c)) with
      | false => rw [z2] at h; exact ifT rfl h
      | true =>
        rw [z2, Bool.true_and] at h
        refine ifF rfl ⟨⟨w, ps, a, c, rfl, hn, z, hs, ?_⟩⟩
        refine ⟨rfl, ?_⟩
        refine ⟨.inl (.inl ⟨by decide, by decide⟩), .inl (.inl ⟨by omega, by omega⟩), ⟨rfl, rfl⟩, ?_⟩
        show if (mL a l p W == 2 * W * p) = true then _ else _
        refine if2 (fun z3 => ?_) (fun z3 => ?_)
        · rw [z3, Bool.true_and] at h
          exact ⟨.inl (.inl ⟨by decide, by decide⟩), .inl (.inl ⟨by omega, by omega⟩), ⟨rfl, rfl⟩, h⟩
        · rw [z3, Bool.false_and] at h; exact h
theorem len_walks : ∀ ds Qa Er, p_walks ds Qa Er → ds.length = 4 := fun ds Qa Er h => by
  match ds, h with
  | [b, .int l, .int p, .int W], h => rfl
def p_can_walk : Pf := fun ds Q E => match ds with
  | [b, l, p, v] => laidK b l p (fun w ps l p => weiK v (fun W => Q (.bool (wlk w ps l p W))) E) E
  | _ => False
def N_can_walk : List Str := [Str.ofString "brook", Str.ofString "length", Str.ofString "place", Str.ofString "weight"]
def body_can_walk : TDS := dSeq (dExpr (dCallPJ p_need_all_lying (dCons (dVar 0) (dCons (dVar 1) (dCons (dVar 2) (dCons (dVar 3) (dNil)))))))
  (dRet (dCallPJ p_walks (dCons (dVar 0) (dCons (dVar 1) (dCons (dVar 2) (dCons (dVar 3) (dNil)))))))

theorem wp_can_walk : ∀ ds Qa Er, p_can_walk ds Qa Er → body_can_walk (startD N_can_walk (ds.map Sl.da)) [] { nx := fun _ _ => Qa .none, rt := fun d _ => Qa d, er := fun n _ => Er n } := by
  intro ds Qa Er h
  match ds, h with
  | [b, l, p, v], h =>
    refine ⟨all_need h fun w ps l' p' i e1 e2 e3 e4 ok l1 l2 p1 p2 i1 i2 q => ?_⟩
    subst e1 e2 e3 e4
    exact ⟨⟨w, ps, rfl, okB_len ok, ⟨⟨by omega, by omega⟩, ⟨by omega, by omega⟩, by omega, by omega⟩, q⟩⟩
theorem len_can_walk : ∀ ds Qa Er, p_can_walk ds Qa Er → ds.length = 4 := fun ds Qa Er h => by
  match ds, h with
  | [b, l, p, v], h => rfl
def p_heaviest : Pf := fun ds Q E => match ds with
  | [b, l, p] => laidK b l p (fun w ps l p => Q (optD (hvy w ps l p))) E
  | _ => False
def N_heaviest : List Str := [Str.ofString "brook", Str.ofString "length", Str.ofString "place", Str.ofString "some", Str.ofString "weight"]
def body_heaviest : TDS := dSeq (dExpr (dCallPJ p_need_laid (dCons (dVar 0) (dCons (dVar 1) (dCons (dVar 2) (dNil))))))
  (dSeq (dSet 3 (dComp [4] (dIRng1 (dCons (dC (.int 61)) (dNil))) (gName 4) (dB (dCallPI p_walks (dCons (dVar 0) (dCons (dVar 1) (dCons (dVar 2) (dCons (dVar 4) (dNil))))))) (dVar 4)))
  (dRet (dIf (dB (dBin oNe (dVar 3) (dLst (dNil)))) (dBin oIx (dVar 3) (oNeg (dC (.int 1)))) (dC .none))))

theorem wp_heaviest : ∀ ds Qa Er, p_heaviest ds Qa Er → body_heaviest (startD N_heaviest (ds.map Sl.da)) [] { nx := fun _ _ => Qa .none, rt := fun d _ => Qa d, er := fun n _ => Er n } := by
  intro ds Qa Er h
  match ds, h with
  | [b, l, p], h =>
    refine ⟨laid_need h fun w ps l' p' e1 e2 e3 ok l1 l2 p1 p2 q => ?_⟩
    subst e1 e2 e3
    refine ⟨⟨by decide, by decide⟩, ?_⟩
    show compD _ _ _ _ _ _ (rangeL 0 61) _ []
    refine compD_filter (fun d => match d with
      | .int x => wlk w ps l' p' x
      | _ => false) _ (fun d hd A B hA => ?_) ?_
    · obtain ⟨i, hi⟩ := List.mem_iff_getElem?.mp hd
      obtain ⟨rfl, hi⟩ := rangeL_get hi
      exact ⟨⟨w, ps, rfl, okB_len ok, ⟨⟨by omega, by omega⟩, ⟨by omega, by omega⟩, by omega, by omega⟩, hA⟩⟩
    · have ef := filter_ints (fun d => match d with
        | .int x => wlk w ps l' p' x
        | _ => false) ((List.range 61).map fun i : Nat => 0 + (i : Int))
      simp only at ef
      rw [rangeL_ints, ef]
      replace q : Qa (optD ((((List.range 61).map fun i : Nat => 0 + (i : Int)).filter fun W => wlk w ps l' p' W).getLast?)) := q
      generalize (((List.range 61).map fun i : Nat => 0 + (i : Int)).filter fun W => wlk w ps l' p' W) = ns at q
      refine ⟨⟨shp_ints 59 _, rfl⟩, ?_⟩
      show if (!PyData.eqv (.list (ns.map .int)) (.list [])) = true then _ else _
      rw [eqv_nilL]
      cases ns with
      | nil => exact ifF rfl q
      | cons y t =>
        refine ifT rfl ?_
        have hl : (y :: t).getLast? = some ((y :: t).getLast (List.cons_ne_nil _ _)) := List.getLast?_eq_some_getLast _
        rw [hl] at q
        show (match atI ((y :: t).map PyData.int) (-1) with
          | some d => _
          | none => False)
        rw [atI_last hl]
        exact q
theorem len_heaviest : ∀ ds Qa Er, p_heaviest ds Qa Er → ds.length = 3 := fun ds Qa Er h => by
  match ds, h with
  | [b, l, p], h => rfl
def p__law_stands : Pf := fun ds Q _ => match ds with
  | [b, .int l, .int p, .int W, .int t, .int u] => ∃ w ps, b = bD w ps ∧ sml l p W ∧ (-(2 ^ 60) ≤ u ∧ u ≤ 2 ^ 60) ∧ Q (.bool (stn w ps l p W t u))
  | _ => False
def N__law_stands : List Str := [Str.ofString "brook", Str.ofString "length", Str.ofString "place", Str.ofString "weight", Str.ofString "top", Str.ofString "under", Str.ofString "both", Str.ofString "moment", Str.ofString "whole"]
def body__law_stands : TDS := dSeq (dSet 6 (dCallPJ p__law_held (dCons (dVar 0) (dCons (dVar 1) (dCons (dVar 2) (dNil))))))
  (dSeq (dIfS (dOrT (dB (dIsN (dVar 6))) (dNotT (dB (dChain oLe oLe (dBin oTimes (dC (.int 2)) (dBin oIx (dVar 6) (dC (.int 0)))) (dBin oPlus (dBin oTimes (dC (.int 2)) (dVar 2)) (dVar 1)) (dBin oTimes (dC (.int 2)) (dBin oIx (dVar 6) (dC (.int 1)))))))) (dRet (dC (.bool false))) (dNext))
  (dSeq (dSet 7 (dBin oPlus (dBin oTimes (dBin oTimes (dVar 1) (dBin oPlus (dBin oTimes (dC (.int 2)) (dVar 2)) (dVar 1))) (dVar 5)) (dBin oTimes (dBin oTimes (dC (.int 2)) (dVar 3)) (dVar 4))))
  (dSeq (dSet 8 (dBin oTimes (dBin oTimes (dC (.int 2)) (dBin oPlus (dVar 1) (dVar 3))) (dVar 5)))
  (dRet (dChain oLe oLe (dBin oTimes (dBin oIx (dVar 6) (dC (.int 0))) (dVar 8)) (dVar 7) (dBin oTimes (dBin oIx (dVar 6) (dC (.int 1))) (dVar 8)))))))

theorem wp__law_stands : ∀ ds Qa Er, p__law_stands ds Qa Er → body__law_stands (startD N__law_stands (ds.map Sl.da)) [] { nx := fun _ _ => Qa .none, rt := fun d _ => Qa d, er := fun n _ => Er n } := by
  intro ds Qa Er h
  match ds, h with
  | [b, .int l, .int p, .int W, .int t, .int u], ⟨w, ps, eb, hs, ⟨u1, u2⟩, h⟩ =>
    subst eb
    obtain ⟨⟨l1, l2⟩, ⟨p1, p2⟩, w1, w2⟩ := id hs
    refine ⟨c__law_held ⟨l1, l2, p1, p2⟩ ?_⟩
    unfold stn at h
    cases z : hld w ps l p with
    | none => rw [z] at h; exact h
    | some y =>
      obtain ⟨a, c⟩ := y
      rw [z] at h
      obtain ⟨ha, hc, _⟩ := hld_some z
      have ha := (mem_pts.mp ha).1
      have hc := (mem_pts.mp hc).1
      replace h : Qa (.bool ((decide (2 * a ≤ 2 * p + l) && decide (2 * p + l ≤ 2 * c)) && (decide (a * (2 * (l + W) * u) ≤ l * (2 * p + l) * u + 2 * W * t) && decide (l * (2 * p + l) * u + 2 * W * t ≤ c * (2 * (l + W) * u))))) := h
      have go : Qa (.bool (decide (a * (2 * (l + W) * u) ≤ l * (2 * p + l) * u + 2 * W * t) && decide (l * (2 * p + l) * u + 2 * W * t ≤ c * (2 * (l + W) * u)))) →
        (dSeq (dSet 7 (dBin oPlus (dBin oTimes (dBin oTimes (dVar 1) (dBin oPlus (dBin oTimes (dC (.int 2)) (dVar 2)) (dVar 1))) (dVar 5)) (dBin oTimes (dBin oTimes (dC (.int 2)) (dVar 3)) (dVar 4))))
          (dSeq (dSet 8 (dBin oTimes (dBin oTimes (dC (.int 2)) (dBin oPlus (dVar 1) (dVar 3))) (dVar 5)))
          (dRet (dChain oLe oLe (dBin oTimes (dBin oIx (dVar 6) (dC (.int 0))) (dVar 8)) (dVar 7) (dBin oTimes (dBin oIx (dVar 6) (dC (.int 1))) (dVar 8))))))
          [.da (bD w ps), .da (.int l), .da (.int p), .da (.int W), .da (.int t), .da (.int u), .da (.tuple [.int a, .int c]), .un, .un] [] { nx := fun _ _ => Qa .none, rt := fun d _ => Qa d, er := fun n _ => Er n } := fun h => by
        refine ⟨.inl (.inl ⟨by decide, by decide⟩), .inl (.inl ⟨by omega, by omega⟩), .inl (.inr ⟨by omega, by omega⟩), .inl (.inl ⟨by decide, by decide⟩), .inl (.inl ⟨by omega, by omega⟩), ?_⟩
        refine ⟨.inl (.inl ⟨by decide, by decide⟩), .inl (.inr ⟨by omega, by omega⟩), ?_⟩
        refine ⟨.inl (.inl ⟨by omega, by omega⟩), ?_⟩
        show if decide (a * (2 * (l + W) * u) ≤ l * (2 * p + l) * u + 2 * W * t) = true then _ else _
        refine if2 (fun z => ?_) (fun z => ?_)
        · rw [z, Bool.true_and] at h
          exact ⟨.inl (.inl ⟨by omega, by omega⟩), h⟩
        · rw [z, Bool.false_and] at h; exact h
      refine ⟨.inl (.inl ⟨by decide, by decide⟩), .inl (.inl ⟨by decide, by decide⟩), ?_⟩
      show if decide (2 * a ≤ 2 * p + l) = true then _ else _
      refine if2 (fun z => ?_) (fun z => ?_)
      · refine ⟨.inl (.inl ⟨by decide, by decide⟩), ?_⟩
        show if (!decide (2 * p + l ≤ 2 * c)) = true then _ else _
        rw [z, Bool.true_and] at h
        cases z2 : decide (2 * p + l ≤ 2 * c) with
        | false => rw [z2] at h; exact ifT rfl h
        | true => rw [z2, Bool.true_and] at h; exact ifF rfl (go h)
      · rw [z] at h; exact h
theorem len__law_stands : ∀ ds Qa Er, p__law_stands ds Qa Er → ds.length = 6 := fun ds Qa Er h => by
  match ds, h with
  | [b, .int l, .int p, .int W, .int t, .int u], h => rfl
def p__law_walks : Pf := fun ds Q _ => match ds with
  | [b, .int l, .int p, .int W] => ∃ w ps, b = bD w ps ∧ sml l p W ∧ Q (.bool (stn w ps l p W p 1 && stn w ps l p W (p + l) 1))
  | _ => False
def N__law_walks : List Str := [Str.ofString "brook", Str.ofString "length", Str.ofString "place", Str.ofString "weight"]
def body__law_walks : TDS := dSeq (dIfS (dNotT (dB (dCallPJ p__law_stands (dCons (dVar 0) (dCons (dVar 1) (dCons (dVar 2) (dCons (dVar 3) (dCons (dVar 2) (dCons (dC (.int 1)) (dNil)))))))))) (dRet (dC (.bool false))) (dNext))
  (dRet (dCallPJ p__law_stands (dCons (dVar 0) (dCons (dVar 1) (dCons (dVar 2) (dCons (dVar 3) (dCons (dBin oPlus (dVar 2) (dVar 1)) (dCons (dC (.int 1)) (dNil)))))))))

theorem wp__law_walks : ∀ ds Qa Er, p__law_walks ds Qa Er → body__law_walks (startD N__law_walks (ds.map Sl.da)) [] { nx := fun _ _ => Qa .none, rt := fun d _ => Qa d, er := fun n _ => Er n } := by
  intro ds Qa Er h
  match ds, h with
  | [b, .int l, .int p, .int W], ⟨w, ps, eb, hs, h⟩ =>
    subst eb
    refine ⟨⟨w, ps, rfl, hs, ⟨by decide, by decide⟩, ?_⟩⟩
    show if (!stn w ps l p W p 1) = true then _ else _
    cases z : stn w ps l p W p 1 with
    | false => rw [z] at h; exact ifT rfl h
    | true => rw [z, Bool.true_and] at h; exact ifF rfl ⟨⟨w, ps, rfl, hs, ⟨by decide, by decide⟩, h⟩⟩
theorem len__law_walks : ∀ ds Qa Er, p__law_walks ds Qa Er → ds.length = 4 := fun ds Qa Er h => by
  match ds, h with
  | [b, .int l, .int p, .int W], h => rfl
/-! ### plain laws of lying -/
theorem lie_low {w : Int} {ps : List Int} {l : Int} (h : 0 ≤ l) : lie w ps l (-l) = true := lie_iff.mpr ⟨-l, 0, mem_pts.mpr ⟨⟨by omega, by omega⟩, .inl (by omega)⟩, mem_pts.mpr ⟨⟨by omega, by omega⟩, .inl (by omega)⟩, by omega, by omega⟩
theorem lie_high {w : Int} {ps : List Int} {l : Int} (h : 0 ≤ l) : lie w ps l w = true := lie_iff.mpr ⟨w, w + l, mem_pts.mpr ⟨⟨by omega, by omega⟩, .inr (.inl (by omega))⟩, mem_pts.mpr ⟨⟨by omega, by omega⟩, .inr (.inl (by omega))⟩, by omega, by omega⟩
theorem pts_mono {w : Int} {ps qs : List Int} {l p x : Int} (h : ∀ y ∈ ps, y ∈ qs) (hx : x ∈ pts w ps l p) : x ∈ pts w qs l p := by
  rw [mem_pts] at hx ⊢
  exact ⟨hx.1, hx.2.imp id fun z => z.imp id (h x)⟩
theorem lie_mono {w : Int} {ps qs : List Int} {l p : Int} (h : ∀ y ∈ ps, y ∈ qs) (hx : lie w ps l p = true) : lie w qs l p = true := by
  obtain ⟨a, b, h1, h2, h3⟩ := lie_iff.mp hx
  exact lie_iff.mpr ⟨a, b, pts_mono h h1, pts_mono h h2, h3⟩
theorem mem_mirP {w x : Int} {ps : List Int} : x ∈ mirP w ps ↔ w - x ∈ ps := by
  unfold mirP
  rw [List.mem_map]
  constructor
  · rintro ⟨p, hp, rfl⟩; rw [List.mem_reverse] at hp; rwa [show w - (w - p) = p by omega]
  · intro h; exact ⟨w - x, by rwa [List.mem_reverse], by omega⟩
theorem pts_mir {w : Int} {ps : List Int} {l p x : Int} : x ∈ pts w (mirP w ps) l p ↔ w - x ∈ pts w ps l (w - p - l) := by
  rw [mem_pts, mem_pts, mem_mirP]
  constructor
  · rintro ⟨h1, h2⟩
    refine ⟨by omega, ?_⟩
    rcases h2 with h | h | h
    · exact .inr (.inl (by omega))
    · exact .inl (by omega)
    · exact .inr (.inr h)
  · rintro ⟨h1, h2⟩
    refine ⟨by omega, ?_⟩
    rcases h2 with h | h | h
    · exact .inr (.inl (by omega))
    · exact .inl (by omega)
    · exact .inr (.inr h)
theorem lie_mir {w : Int} {ps : List Int} {l p : Int} : lie w (mirP w ps) l p = lie w ps l (w - p - l) := by
  rw [Bool.eq_iff_iff, lie_iff, lie_iff]
  constructor
  · rintro ⟨a, b, h1, h2, h3, h4⟩
    exact ⟨w - b, w - a, pts_mir.mp h2, pts_mir.mp h1, by omega, by omega⟩
  · rintro ⟨a, b, h1, h2, h3, h4⟩
    refine ⟨w - b, w - a, pts_mir.mpr (by rwa [show w - (w - b) = b by omega]), pts_mir.mpr (by rwa [show w - (w - a) = a by omega]), by omega, by omega⟩
theorem nodup_asc {l : List Int} (h : l.Pairwise (· < ·)) : l.Nodup := List.Pairwise.imp (fun h => by omega) h
theorem sortI_eq {l m : List Int} (hl : l.Pairwise (· < ·)) (hp : l.Perm m) : sortI m = l := by
  refine List.Perm.eq_of_pairwise (le := (· ≤ ·)) (fun a b _ _ h1 h2 => Int.le_antisymm h1 h2) (sortI_pair m) (hl.imp fun h => Int.le_of_lt h) ((sortI_perm m).trans hp.symm)
theorem plD_mir (w : Int) (ps : List Int) (l : Int) : sortI ((plD w ps l).map fun p => w - p - l) = plD w (mirP w ps) l := by
  refine sortI_eq (plD_asc _ _ _) ((List.perm_ext_iff_of_nodup (nodup_asc (plD_asc _ _ _)) ?_).mpr fun x => ?_)
  · have := nodup_asc (plD_asc w ps l)
    rw [List.nodup_iff_pairwise_ne, List.pairwise_map]
    rw [List.nodup_iff_pairwise_ne] at this
    exact this.imp fun h => by omega
  · rw [mem_plD, lie_mir, List.mem_map]
    constructor
    · rintro ⟨h1, h2⟩; exact ⟨w - x - l, mem_plD.mpr ⟨by omega, h2⟩, by omega⟩
    · rintro ⟨p, hp, rfl⟩
      obtain ⟨h1, h2⟩ := mem_plD.mp hp
      exact ⟨by omega, by rw [show w - (w - p - l) - l = p by omega]; exact h2⟩
theorem okB_mir {w : Int} {ps : List Int} (h : okB w ps = true) : okB w (mirP w ps) = true := by
  obtain ⟨h1, h2, h3, h4, h5⟩ := okB_spec.mp h
  refine okB_spec.mpr ⟨h1, h2, by simpa [mirP] using h3, fun p hp => ?_, ?_⟩
  · have := h4 _ (mem_mirP.mp hp); omega
  · rw [asc_pairwise] at h5 ⊢
    unfold mirP
    rw [List.pairwise_map, List.pairwise_reverse]
    exact h5.imp fun h => by omega
theorem okB_with {w p : Int} {ps : List Int} (h : okB w ps = true) (hl : ps.length < 5) (h1 : 1 ≤ p) (h2 : p ≤ w - 1) (hp : p ∉ ps) : okB w (sortI (ps ++ [p])) = true := by
  obtain ⟨g1, g2, g3, g4, g5⟩ := okB_spec.mp h
  have pm := sortI_perm (ps ++ [p])
  refine okB_spec.mpr ⟨g1, g2, by rw [pm.length_eq]; simp; omega, fun x hx => ?_, ?_⟩
  · rcases List.mem_append.mp (pm.mem_iff.mp hx) with hx | hx
    · exact g4 x hx
    · simp at hx; subst hx; exact ⟨h1, h2⟩
  · rw [asc_pairwise] at g5 ⊢
    have nd : (sortI (ps ++ [p])).Nodup := pm.nodup_iff.mpr (by
      rw [List.nodup_append]
      exact ⟨nodup_asc g5, by simp, fun a ha b hb => by simp at hb; subst hb; exact fun z => hp (z ▸ ha)⟩)
    have := (sortI_pair (ps ++ [p])).and (List.nodup_iff_pairwise_ne.mp nd)
    exact this.imp fun h => by omega
theorem mem_with {p x : Int} {ps : List Int} : x ∈ sortI (ps ++ [p]) ↔ x ∈ ps ∨ x = p := by
  rw [(sortI_perm _).mem_iff]; simp
/-! ### calls at good arguments -/
theorem c_firm_places {w l : Int} {ps : List Int} {Q : PyData → Prop} {E : Str → Prop} (ok : okB w ps = true) (h1 : 1 ≤ l) (h2 : l ≤ 8) (q : Q (.tuple ((plD w ps l).map .int))) : p_firm_places [bD w ps, .int l] Q E := by
  unfold p_firm_places; simp only; rw [brookOf_bD ok]; simp only [whole_of h1 h2, if_true]; exact q
theorem c_is_firm {w l p : Int} {ps : List Int} {Q : PyData → Prop} {E : Str → Prop} (ok : okB w ps = true) (h1 : 1 ≤ l) (h2 : l ≤ 8) (h3 : -8 ≤ p) (h4 : p ≤ 12) (q : Q (.bool (lie w ps l p))) : p_is_firm [bD w ps, .int l, .int p] Q E := by
  unfold p_is_firm; simp only; rw [brookOf_bD ok]; simp only [whole_of h1 h2, whole_of h3 h4, if_true]; exact q
theorem c_mirrored {w : Int} {ps : List Int} {Q : PyData → Prop} {E : Str → Prop} (ok : okB w ps = true) (q : Q (bD w (mirP w ps))) : p_mirrored [bD w ps] Q E := by
  unfold p_mirrored; simp only; rw [brookOf_bD ok]; exact q
theorem c_with_pier {w p : Int} {ps : List Int} {Q : PyData → Prop} {E : Str → Prop} (ok : okB w ps = true) (hl : ps.length < 5) (h1 : 1 ≤ p) (h2 : p ≤ w - 1) (hp : p ∉ ps) (q : Q (bD w (sortI (ps ++ [p])))) : p_with_pier [bD w ps, .int p] Q E := by
  unfold p_with_pier; simp only; rw [brookOf_bD ok]
  have e1 : decide (p ∈ ps) = false := by simpa using hp
  have e2 : decide (ps.length = 5) = false := by simp; omega
  simp only [whole_of h1 h2, e1, e2, Bool.not_false, Bool.and_true, if_true]; exact q
/-! ### plain laws of walking -/
structure Frm (a c l p : Int) : Prop where
  l0 : 0 ≤ l
  pa : p ≤ a
  ac : a ≤ c
  cp : c ≤ p + l
  lo : 2 * a ≤ 2 * p + l
  hi : 2 * p + l ≤ 2 * c
theorem lie_frm {w l p : Int} {ps : List Int} (hl : 0 ≤ l) (h : lie w ps l p = true) : ∃ a c, hld w ps l p = some (a, c) ∧ Frm a c l p := by
  unfold lie at h
  cases q : hld w ps l p with
  | none => rw [q] at h; cases h
  | some z =>
    obtain ⟨a, c⟩ := z
    rw [q] at h
    replace h : (decide (2 * a ≤ 2 * p + l) && decide (2 * p + l ≤ 2 * c)) = true := h
    rw [Bool.and_eq_true, decide_eq_true_eq, decide_eq_true_eq] at h
    obtain ⟨h1, h2, h3⟩ := hld_some q
    have g1 := (mem_pts.mp h1).1
    have g2 := (mem_pts.mp h2).1
    exact ⟨a, c, rfl, ⟨hl, g1.1, (h3 a h1).2, g2.2, h.1, h.2⟩⟩
theorem Frm.lie {a c l p : Int} (F : Frm a c l p) : lieH l p (some (a, c)) = true := by
  show (decide (2 * a ≤ 2 * p + l) && decide (2 * p + l ≤ 2 * c)) = true
  simp [F.lo, F.hi]
theorem mL_ge1 (a l p W : Int) : 2 * a * (l + W) - l * (2 * p + l) ≤ mL a l p W := by unfold mL; split <;> omega
theorem mL_ge2 (a l p W : Int) : 2 * W * p ≤ mL a l p W := by unfold mL; split <;> omega
theorem mL_or (a l p W : Int) : mL a l p W = 2 * a * (l + W) - l * (2 * p + l) ∨ mL a l p W = 2 * W * p := by unfold mL; split <;> omega
theorem mR_le1 (b l p W : Int) : mR b l p W ≤ 2 * b * (l + W) - l * (2 * p + l) := by unfold mR; split <;> omega
theorem mR_le2 (b l p W : Int) : mR b l p W ≤ 2 * W * (p + l) := by unfold mR; split <;> omega
theorem mR_or (b l p W : Int) : mR b l p W = 2 * b * (l + W) - l * (2 * p + l) ∨ mR b l p W = 2 * W * (p + l) := by unfold mR; split <;> omega
theorem wlk_iff {w l p a c W : Int} {ps : List Int} (hh : hld w ps l p = some (a, c)) (F : Frm a c l p) : wlk w ps l p W = true ↔ 2 * a * (l + W) - l * (2 * p + l) ≤ 2 * W * p ∧ 2 * W * (p + l) ≤ 2 * c * (l + W) - l * (2 * p + l) := by
  unfold wlk
  rw [hh]
  show (lieH l p (some (a, c)) && ((mL a l p W == 2 * W * p) && (mR c l p W == 2 * W * (p + l)))) = true ↔ _
  rw [F.lie, Bool.true_and, Bool.and_eq_true, beq_iff_eq, beq_iff_eq]
  have h1 := mL_ge1 a l p W
  have h2 := mL_or a l p W
  have h3 := mR_le1 c l p W
  have h4 := mR_or c l p W
  have h5 := mL_ge2 a l p W
  have h6 := mR_le2 c l p W
  constructor
  · rintro ⟨e1, e2⟩; rw [e1] at h1; rw [e2] at h3; exact ⟨h1, h3⟩
  · rintro ⟨e1, e2⟩
    constructor
    · rcases h2 with h2 | h2
      · omega
      · exact h2
    · rcases h4 with h4 | h4
      · omega
      · exact h4
theorem wlk_not {w l p W : Int} {ps : List Int} (h : lie w ps l p = false) : wlk w ps l p W = false := by
  unfold wlk
  unfold lie at h
  cases q : hld w ps l p with
  | none => rfl
  | some z =>
    obtain ⟨a, c⟩ := z
    rw [q] at h
    show (lieH l p (some (a, c)) && _) = false
    rw [h]; rfl
theorem wlk_mono {w l p a c V W : Int} {ps : List Int} (hh : hld w ps l p = some (a, c)) (F : Frm a c l p) (h1 : V ≤ W) (h : wlk w ps l p W = true) : wlk w ps l p V = true := by
  rw [wlk_iff hh F] at h ⊢
  have g1 : 0 ≤ (a - p) * (W - V) := Int.mul_nonneg (by have := F.pa; omega) (by omega)
  have g2 : 0 ≤ (p + l - c) * (W - V) := Int.mul_nonneg (by have := F.cp; omega) (by omega)
  constructor
  · grind
  · grind
theorem wlk_zero {w l p a c : Int} {ps : List Int} (hh : hld w ps l p = some (a, c)) (F : Frm a c l p) : wlk w ps l p 0 = true := by
  rw [wlk_iff hh F]
  have g1 : 0 ≤ l * (2 * p + l - 2 * a) := Int.mul_nonneg F.l0 (by have := F.lo; omega)
  have g2 : 0 ≤ l * (2 * c - (2 * p + l)) := Int.mul_nonneg F.l0 (by have := F.hi; omega)
  constructor
  · grind
  · grind
theorem wlk_full {w l p W : Int} {ps : List Int} (hh : hld w ps l p = some (p, p + l)) (F : Frm p (p + l) l p) : wlk w ps l p W = true := by
  rw [wlk_iff hh F]
  have g1 : 0 ≤ l * l := Int.mul_nonneg F.l0 F.l0
  constructor
  · grind
  · grind
theorem mem_upTo {q : Int → Bool} {lo x : Int} {n : Nat} : x ∈ upTo q lo n ↔ (lo ≤ x ∧ x < lo + (n : Int)) ∧ q x = true := by
  unfold upTo
  simp only [List.mem_filter, List.mem_map, List.mem_range]
  constructor
  · rintro ⟨⟨i, h1, rfl⟩, h2⟩; exact ⟨⟨by omega, by omega⟩, h2⟩
  · rintro ⟨⟨h1, h2⟩, h3⟩; exact ⟨⟨(x - lo).toNat, by omega, by omega⟩, h3⟩
theorem upTo_asc (q : Int → Bool) (lo : Int) (n : Nat) : (upTo q lo n).Pairwise (· < ·) := (range_asc lo n).filter _
theorem last_asc {l : List Int} (h : l.Pairwise (· < ·)) {x : Int} (hx : x ∈ l) : ∃ b, l.getLast? = some b ∧ b ∈ l ∧ ∀ y ∈ l, y ≤ b := by
  cases e : hdL l with
  | none => rw [hdL_none.mp e] at hx; cases hx
  | some z =>
    obtain ⟨a, b⟩ := z
    obtain ⟨_, h2, h3⟩ := hdL_asc h e
    unfold hdL at e
    cases e1 : l.getLast? with
    | none => rw [e1] at e; cases e2 : l.head? <;> rw [e2] at e <;> cases e
    | some b' =>
      rw [e1] at e
      cases e2 : l.head? with
      | none => rw [e2] at e; cases e
      | some a' => rw [e2] at e; cases e; exact ⟨b, rfl, h2, fun y hy => (h3 y hy).2⟩
theorem hvy_lie {w l p : Int} {ps : List Int} (hl : 0 ≤ l) (h : lie w ps l p = true) : ∃ m, hvy w ps l p = some m ∧ (0 ≤ m ∧ m ≤ 60) ∧ ∀ W, 0 ≤ W → W ≤ 60 → (W ≤ m ↔ wlk w ps l p W = true) := by
  obtain ⟨a, c, hh, F⟩ := lie_frm hl h
  obtain ⟨m, e, h1, h2⟩ := last_asc (upTo_asc (fun W => wlk w ps l p W) 0 61) (mem_upTo.mpr ⟨⟨Int.le_refl _, by decide⟩, wlk_zero hh F⟩)
  obtain ⟨⟨m1, m2⟩, m3⟩ := mem_upTo.mp h1
  refine ⟨m, e, ⟨m1, by omega⟩, fun W w1 w2 => ⟨fun z => wlk_mono hh F z m3, fun z => h2 W (mem_upTo.mpr ⟨⟨w1, by omega⟩, z⟩)⟩⟩
theorem hvy_not {w l p : Int} {ps : List Int} (h : lie w ps l p = false) : hvy w ps l p = none := by
  unfold hvy
  have : upTo (fun W => wlk w ps l p W) 0 61 = [] := by
    cases e : upTo (fun W => wlk w ps l p W) 0 61 with
    | nil => rfl
    | cons y t =>
      have := (mem_upTo.mp (show y ∈ upTo (fun W => wlk w ps l p W) 0 61 by rw [e]; exact List.mem_cons_self)).2
      rw [wlk_not h] at this
      cases this
  rw [this]; rfl
theorem low2_spec {t u : Int} (hu : 0 < u) : ∃ x y g, low2 t u = .tuple [.int x, .int y] ∧ 0 < g ∧ x * g = t ∧ y * g = u ∧ 0 < y ∧ y ≤ u := by
  have g := gcd_bnd (t := t) hu
  have e1 : t / (Int.gcd t u : Int) * (Int.gcd t u : Int) = t := Int.ediv_mul_cancel (Int.gcd_dvd_left _ _)
  have e2 : u / (Int.gcd t u : Int) * (Int.gcd t u : Int) = u := Int.ediv_mul_cancel (Int.gcd_dvd_right _ _)
  refine ⟨_, _, _, rfl, g.1, e1, e2, ?_, ?_⟩
  · by_cases z : 0 < u / (Int.gcd t u : Int)
    · exact z
    · have := Int.mul_nonneg (show (0 : Int) ≤ -(u / (Int.gcd t u : Int)) by omega) (show 0 ≤ (Int.gcd t u : Int) by omega)
      grind
  · exact Int.ediv_le_self _ (by omega)
/-- one end of a stretch: x / y, where top / (2 W) is meant, or place for a walker of none -/
def EndF (x y e W top : Int) : Prop := (0 < y ∧ y ≤ 120) ∧ ((W = 0 ∧ x = e ∧ y = 1) ∨ (0 < W ∧ ∃ g, 0 < g ∧ x * g = top ∧ y * g = 2 * W))
theorem str_go {w l p a c W : Int} {ps : List Int} {Q : PyData → Prop} {E : Str → Prop} (hh : hld w ps l p = some (a, c)) (F : Frm a c l p) (h1 : 0 ≤ W) (h2 : W ≤ 60)
    (q : ∀ x y z v, EndF x y p W (mL a l p W) → EndF z v (p + l) W (mR c l p W) → Q (.tuple [.tuple [.int x, .int y], .tuple [.int z, .int v]])) : strK w ps l p W Q E := by
  unfold strK
  rw [hh]
  show if lieH l p (some (a, c)) = true then _ else _
  refine ifT F.lie (if2 (fun z => ?_) (fun z => ?_))
  · have z : W = 0 := by simpa using z
    exact q p 1 (p + l) 1 ⟨by decide, .inl ⟨z, rfl, rfl⟩⟩ ⟨by decide, .inl ⟨z, rfl, rfl⟩⟩
  · have z : W ≠ 0 := by simpa using z
    obtain ⟨x, y, g, e1, e2, e3, e4, e5, e6⟩ := low2_spec (t := mL a l p W) (u := 2 * W) (by omega)
    obtain ⟨x', y', g', f1, f2, f3, f4, f5, f6⟩ := low2_spec (t := mR c l p W) (u := 2 * W) (by omega)
    rw [e1, f1]
    exact q x y x' y' ⟨⟨e5, by omega⟩, .inr ⟨by omega, g, e2, e3, e4⟩⟩ ⟨⟨f5, by omega⟩, .inr ⟨by omega, g', f2, f3, f4⟩⟩
theorem cancel_le {x y g : Int} (hg : 0 < g) (h : x * g ≤ y * g) : x ≤ y := Int.le_of_mul_le_mul_right h hg
/-- the stretch of a heavier walker lies within that of a lighter one: the left end -/
theorem near_le {l p a c V W x y x' y' : Int} (F : Frm a c l p) (h0 : 0 ≤ V) (h1 : V ≤ W) (hW : 0 < W) (e : EndF x y p W (mL a l p W)) (e' : EndF x' y' p V (mL a l p V)) : x' * y ≤ x * y' := by
  obtain ⟨_, e⟩ := e
  obtain ⟨_, e'⟩ := e'
  rcases e with ⟨z, _⟩ | ⟨_, g, g0, g1, g2⟩
  · omega
  have k2 := mL_ge2 a l p W
  have k1 := mL_ge1 a l p W
  rcases e' with ⟨z, rfl, rfl⟩ | ⟨v0, g', g0', g1', g2'⟩
  · refine cancel_le g0 ?_
    have : 2 * W * x' = x' * y * g := by rw [← g2]; grind
    rw [← this, Int.mul_one, g1]
    exact k2
  · refine cancel_le g0 (cancel_le g0' ?_)
    have f1 : x' * y * g * g' = mL a l p V * (2 * W) := by rw [← g1', ← g2]; grind
    have f2 : x * y' * g * g' = mL a l p W * (2 * V) := by rw [← g1, ← g2']; grind
    rw [f1, f2]
    have b1 : 0 ≤ l * (2 * p + l - 2 * a) := Int.mul_nonneg F.l0 (by have := F.lo; omega)
    have b2 : 0 ≤ l * (2 * p + l - 2 * a) * (W - V) := Int.mul_nonneg b1 (by omega)
    rcases mL_or a l p V with o | o
    · rw [o]
      have b3 : 0 ≤ (mL a l p W - (2 * a * (l + W) - l * (2 * p + l))) * V := Int.mul_nonneg (by omega) h0
      grind
    · rw [o]
      have b3 : 0 ≤ (mL a l p W - 2 * W * p) * V := Int.mul_nonneg (by omega) h0
      grind
theorem far_le {l p a c V W x y x' y' : Int} (F : Frm a c l p) (h0 : 0 ≤ V) (h1 : V ≤ W) (hW : 0 < W) (e : EndF x y (p + l) W (mR c l p W)) (e' : EndF x' y' (p + l) V (mR c l p V)) : x * y' ≤ x' * y := by
  obtain ⟨_, e⟩ := e
  obtain ⟨_, e'⟩ := e'
  rcases e with ⟨z, _⟩ | ⟨_, g, g0, g1, g2⟩
  · omega
  have k2 := mR_le2 c l p W
  have k1 := mR_le1 c l p W
  rcases e' with ⟨z, rfl, rfl⟩ | ⟨v0, g', g0', g1', g2'⟩
  · refine cancel_le g0 ?_
    have : 2 * W * (p + l) = (p + l) * y * g := by rw [← g2]; grind
    rw [← this, Int.mul_one, g1]
    exact k2
  · refine cancel_le g0 (cancel_le g0' ?_)
    have f1 : x' * y * g * g' = mR c l p V * (2 * W) := by rw [← g1', ← g2]; grind
    have f2 : x * y' * g * g' = mR c l p W * (2 * V) := by rw [← g1, ← g2']; grind
    rw [f1, f2]
    have b1 : 0 ≤ l * (2 * c - (2 * p + l)) := Int.mul_nonneg F.l0 (by have := F.hi; omega)
    have b2 : 0 ≤ l * (2 * c - (2 * p + l)) * (W - V) := Int.mul_nonneg b1 (by omega)
    rcases mR_or c l p V with o | o
    · rw [o]
      have b3 : 0 ≤ (2 * c * (l + W) - l * (2 * p + l) - mR c l p W) * V := Int.mul_nonneg (by omega) h0
      grind
    · rw [o]
      have b3 : 0 ≤ (2 * W * (p + l) - mR c l p W) * V := Int.mul_nonneg (by omega) h0
      grind
theorem stn_iff {w l p a c W t u : Int} {ps : List Int} (hh : hld w ps l p = some (a, c)) (F : Frm a c l p) : stn w ps l p W t u = true ↔ a * (2 * (l + W) * u) ≤ l * (2 * p + l) * u + 2 * W * t ∧ l * (2 * p + l) * u + 2 * W * t ≤ c * (2 * (l + W) * u) := by
  unfold stn
  rw [hh]
  show (lieH l p (some (a, c)) && (decide _ && decide _)) = true ↔ _
  rw [F.lie, Bool.true_and, Bool.and_eq_true, decide_eq_true_eq, decide_eq_true_eq]
theorem stn_left {w l p a c W x y : Int} {ps : List Int} (hh : hld w ps l p = some (a, c)) (F : Frm a c l p) (hW : 0 < W) (e : EndF x y p W (mL a l p W)) : stn w ps l p W x y = true := by
  rw [stn_iff hh F]
  obtain ⟨_, e⟩ := e
  rcases e with ⟨z, _⟩ | ⟨_, g, g0, g1, g2⟩
  · omega
  have k1 := mL_ge1 a l p W
  have k3 : mL a l p W ≤ 2 * c * (l + W) - l * (2 * p + l) := by
    have b1 : 0 ≤ (c - a) * (l + W) := Int.mul_nonneg (by have := F.ac; omega) (by have := F.l0; omega)
    have b2 : 0 ≤ l * (2 * c - (2 * p + l)) := Int.mul_nonneg F.l0 (by have := F.hi; omega)
    have b3 : 0 ≤ (c - p) * W := Int.mul_nonneg (by have := F.pa; have := F.ac; omega) (by omega)
    rcases mL_or a l p W with o | o <;> rw [o] <;> grind
  have f1 : (l * (2 * p + l) * y + 2 * W * x) * g = (l * (2 * p + l) + mL a l p W) * (2 * W) := by rw [← g1, ← g2]; grind
  constructor
  · refine cancel_le g0 ?_
    have f2 : a * (2 * (l + W) * y) * g = 2 * a * (l + W) * (2 * W) := by rw [← g2]; grind
    rw [f1, f2]
    exact Int.mul_le_mul_of_nonneg_right (by omega) (by omega)
  · refine cancel_le g0 ?_
    have f2 : c * (2 * (l + W) * y) * g = 2 * c * (l + W) * (2 * W) := by rw [← g2]; grind
    rw [f1, f2]
    exact Int.mul_le_mul_of_nonneg_right (by omega) (by omega)
/-! ### calls -/
section
variable {w l p W : Int} {ps : List Int} {Q : PyData → Prop} {E : Str → Prop}
theorem c_stretch (ok : okB w ps = true) (h1 : 1 ≤ l) (h2 : l ≤ 8) (h3 : -8 ≤ p) (h4 : p ≤ 12) (h5 : 0 ≤ W) (h6 : W ≤ 60) (q : strK w ps l p W Q E) : p_stretch [bD w ps, .int l, .int p, .int W] Q E := by
  unfold p_stretch
  exact laid_of ok h1 h2 h3 h4 (wei_of h5 h6 q)
theorem c_can_walk (ok : okB w ps = true) (h1 : 1 ≤ l) (h2 : l ≤ 8) (h3 : -8 ≤ p) (h4 : p ≤ 12) (h5 : 0 ≤ W) (h6 : W ≤ 60) (q : Q (.bool (wlk w ps l p W))) : p_can_walk [bD w ps, .int l, .int p, .int W] Q E := by
  unfold p_can_walk
  exact laid_of ok h1 h2 h3 h4 (wei_of h5 h6 q)
theorem c_heaviest (ok : okB w ps = true) (h1 : 1 ≤ l) (h2 : l ≤ 8) (h3 : -8 ≤ p) (h4 : p ≤ 12) (q : Q (optD (hvy w ps l p))) : p_heaviest [bD w ps, .int l, .int p] Q E := by
  unfold p_heaviest
  exact laid_of ok h1 h2 h3 h4 q
theorem c_supports (ok : okB w ps = true) (h1 : 1 ≤ l) (h2 : l ≤ 8) (h3 : -8 ≤ p) (h4 : p ≤ 12) (q : Q (hldD (hld w ps l p))) : p_supports [bD w ps, .int l, .int p] Q E := by
  unfold p_supports
  exact laid_of ok h1 h2 h3 h4 q
theorem c_laid {Q : PyData → Prop} (h : 1 ≤ w ∧ w ≤ 12) (q : ∀ l p : Int, 1 ≤ l → l ≤ 8 → -8 ≤ p → p ≤ 12 → Q (.tuple [.int l, .int p])) : f_laid [bD w ps] Q := by
  unfold f_laid; simp only; rw [asB_bD]; exact ⟨h, q⟩
end
theorem append_go {i k : Nat} {ρ : Ds} {τ : Rs} {De : DEnds} {f : TD} {d : PyData} {ds : List PyData} (h1 : ρ[i]? = some (.res k)) (h2 : τ[k]? = some (.lst ds)) (hf : ∀ Q : Sl → Rs → Prop, Q (.da d) τ → f ρ τ Q De.er) (hl : ds.length < 100000)
    (h : De.nx ρ (τ.set k (.lst (ds ++ [d])))) : dAppend i f ρ τ De := by
  unfold dAppend
  simp only [h1, h2]
  refine hf _ ?_
  simp only [h2]
  exact ⟨hl, h⟩
theorem setCat_go {i k : Nat} {ρ : Ds} {τ : Rs} {De : DEnds} {g : TD} {ds es : List PyData} (h1 : ρ[i]? = some (.res k)) (h2 : τ[k]? = some (.lst ds)) (hg : ∀ Q : Sl → Rs → Prop, Q (.da (.list es)) τ → g ρ τ Q De.er) (hl : ds.length + es.length ≤ 1000000)
    (h : De.nx (ρ.set i (.res τ.length)) (τ ++ [.lst (ds ++ es)])) : dSetCat i (dVar i) g ρ τ De := by
  unfold dSetCat dVar
  simp only [h1]
  refine hg _ ?_
  have e : dat τ (.res k) = some (.list ds) := by
    show (match τ[k]? with
      | some (RS.lst ds) => some (PyData.list ds)
      | _ => none) = _
    rw [h2]
  rw [e]
  exact ⟨hl, h⟩
/-- planks without one of them; the lengths, each once, upwards -/
def lens (ns : List Int) : List Int := upTo (fun x => decide (x ∈ ns)) 1 8
def smallP (ns : List Int) : Prop := ∀ x ∈ ns, 1 ≤ x ∧ x ≤ 8
theorem lens_eq {ns ms : List Int} (hs : smallP ns) (h1 : ms.Pairwise (· < ·)) (h2 : ∀ k, k ∈ ms ↔ k ∈ ns) : ms = lens ns := by
  have a1 : (lens ns).Pairwise (· < ·) := upTo_asc _ _ _
  refine List.Perm.eq_of_pairwise (le := (· ≤ ·)) (fun a b _ _ h1 h2 => Int.le_antisymm h1 h2) (h1.imp fun h => Int.le_of_lt h) (a1.imp fun h => Int.le_of_lt h) ?_
  refine (List.perm_ext_iff_of_nodup (List.Pairwise.imp (fun h => by omega) h1) (List.Pairwise.imp (fun h => by omega) a1)).mpr fun x => ?_
  unfold lens upTo
  simp only [List.mem_filter, List.mem_map, List.mem_range, decide_eq_true_eq, h2]
  constructor
  · intro hx; exact ⟨⟨(x - 1).toNat, by have := hs x hx; omega, by have := hs x hx; omega⟩, hx⟩
  · exact fun h => h.2
theorem mem_lens {ns : List Int} {x : Int} (h : x ∈ lens ns) : x ∈ ns := by
  unfold lens upTo at h
  simp only [List.mem_filter, decide_eq_true_eq] at h
  exact h.2
theorem smallP_erase {ns : List Int} (h : smallP ns) (l : Int) : smallP (ns.erase l) := fun x hx => h x (List.mem_of_mem_erase hx)
/-- the rows that lead from a place to the other bank -/
def onw (w : Int) (ps : List Int) (W : Int) : Nat → List Int → Int → List (List Int)
  | 0, _, _ => []
  | n + 1, ns, p => (lens ns).flatMap fun l => if wlk w ps l p W = true then (if decide (w ≤ p + l) = true then [[l]] else if decide (0 < p + l) = true then (onw w ps W n (ns.erase l) (p + l)).map (l :: ·) else []) else []
def rowD (r : List Int) : PyData := .tuple (r.map .int)
def rowsD (rs : List (List Int)) : PyData := .list (rs.map rowD)
def p_without : Pf := fun ds Q _ => match ds with
  | [b, .int l] => ∃ ns : List Int, b = pD ns ∧ ns.length ≤ 1000 ∧ l ∈ ns ∧ Q (pD (ns.erase l))
  | _ => False
def N_without : List Str := [Str.ofString "planks", Str.ofString "length", Str.ofString "place"]
def body_without : TDS := dSeq (dSet 2 (dTix (dVar 0) (dVar 1)))
  (dRet (dBin oPlus (dSl (dVar 0) (dNo) (dSo (dVar 2))) (dSl (dVar 0) (dSo (dBin oPlus (dVar 2) (dC (.int 1)))) (dNo))))

theorem erase_cut {ns : List Int} {l : Int} (h : l ∈ ns) : ∃ j : Nat, ns[j]? = some l ∧ (∀ m : Nat, m < j → ns[m]? ≠ some l) ∧ j < ns.length ∧ ns.take j ++ ns.drop (j + 1) = ns.erase l := by
  induction ns with
  | nil => cases h
  | cons x t ih =>
    by_cases e : x = l
    · subst e
      exact ⟨0, rfl, fun m hm => absurd hm (Nat.not_lt_zero m), Nat.succ_pos _, by simp⟩
    · have ht : l ∈ t := by
        rcases List.mem_cons.mp h with z | z
        · exact absurd z.symm e
        · exact z
      obtain ⟨j, h1, h2, h3, h4⟩ := ih ht
      refine ⟨j + 1, h1, fun m hm => ?_, by simp; omega, ?_⟩
      · cases m with
        | zero => simpa using e
        | succ m => exact h2 m (by omega)
      · rw [List.erase_cons_tail (by simpa using e), ← h4]
        rfl
theorem wp_without : ∀ ds Qa Er, p_without ds Qa Er → body_without (startD N_without (ds.map Sl.da)) [] { nx := fun _ _ => Qa .none, rt := fun d _ => Qa d, er := fun n _ => Er n } := by
  intro ds Qa Er h
  match ds, h with
  | [b, .int l], ⟨ns, eb, hn, hl, h⟩ =>
    subst eb
    obtain ⟨j, h1, h2, h3, h4⟩ := erase_cut hl
    refine ⟨ns, j, rfl, h1, h2, ?_⟩
    have e1 : cutD (ns.map PyData.int) none (some (j : Int)) = (ns.take j).map PyData.int := by
      unfold cutD
      rw [HT.sIx_none, HT.sIx_nat, List.length_map, Nat.min_eq_left (by omega), Nat.sub_zero, List.drop_zero, List.map_take]
    have e2 : cutD (ns.map PyData.int) (some ((j : Int) + 1)) none = (ns.drop (j + 1)).map PyData.int := by
      unfold cutD
      rw [HT.sIx_none, show ((j : Int) + 1) = ((j + 1 : Nat) : Int) by omega, HT.sIx_nat, List.length_map, Nat.min_eq_left (by omega), List.map_drop, List.take_of_length_le (by rw [List.length_drop, List.length_map]; exact Nat.le_refl _)]
    show (cutD (ns.map PyData.int) none (some (j : Int))).length + (cutD (ns.map PyData.int) (some ((j : Int) + 1)) none).length ≤ 1000000 ∧ Qa (.tuple (cutD (ns.map PyData.int) none (some (j : Int)) ++ cutD (ns.map PyData.int) (some ((j : Int) + 1)) none))
    rw [e1, e2, ← List.map_append, h4]
    refine ⟨?_, h⟩
    rw [List.length_map, List.length_map, List.length_take, List.length_drop]
    omega
theorem len_without : ∀ ds Qa Er, p_without ds Qa Er → ds.length = 2 := fun ds Qa Er h => by
  match ds, h with
  | [b, .int l], h => rfl
def stepO (w : Int) (ps : List Int) (W : Int) (n : Nat) (ns : List Int) (p l : Int) : List (List Int) := if wlk w ps l p W = true then (if decide (w ≤ p + l) = true then [[l]] else if decide (0 < p + l) = true then (onw w ps W n (ns.erase l) (p + l)).map (l :: ·) else []) else []
theorem onw_succ (w : Int) (ps : List Int) (W : Int) (n : Nat) (ns : List Int) (p : Int) : onw w ps W (n + 1) ns p = (lens ns).flatMap (stepO w ps W n ns p) := rfl
theorem lens_len (ns : List Int) : (lens ns).length ≤ 8 := upTo_len _ _ _
theorem flat_len {α β : Type} (f : α → List β) (b : Nat) : ∀ l : List α, (∀ x ∈ l, (f x).length ≤ b) → (l.flatMap f).length ≤ l.length * b
  | [], _ => by simp
  | x :: t, h => by
    have h1 := h x List.mem_cons_self
    have h2 := flat_len f b t fun y hy => h y (List.mem_cons_of_mem _ hy)
    rw [List.flatMap_cons, List.length_append, List.length_cons, Nat.succ_mul]
    omega
theorem onw_len (w : Int) (ps : List Int) (W : Int) : ∀ (n : Nat) (ns : List Int) (p : Int), (onw w ps W n ns p).length ≤ 8 ^ n
  | 0, _, _ => by simp [onw]
  | n + 1, ns, p => by
    rw [onw_succ]
    have h := flat_len (stepO w ps W n ns p) (8 ^ n) (lens ns) fun l _ => by
      have : 0 < 8 ^ n := Nat.pow_pos (by decide)
      unfold stepO
      split
      · split
        · simp; omega
        · split
          · rw [List.length_map]; exact onw_len w ps W n _ _
          · simp
      · simp
    have h2 := Nat.mul_le_mul_right (8 ^ n) (lens_len ns)
    rw [Nat.pow_succ]
    omega
theorem onw_row (w : Int) (ps : List Int) (W : Int) : ∀ (n : Nat) (ns : List Int) (p : Int) (r : List Int), r ∈ onw w ps W n ns p → r.length ≤ n
  | 0, _, _, r, h => by simp [onw] at h
  | n + 1, ns, p, r, h => by
    rw [onw_succ, List.mem_flatMap] at h
    obtain ⟨l, _, h⟩ := h
    unfold stepO at h
    split at h
    · split at h
      · simp at h; subst h; simp
      · split at h
        · obtain ⟨q, hq, rfl⟩ := List.mem_map.mp h
          have := onw_row w ps W n _ _ q hq
          simp; omega
        · cases h
    · cases h
def pn_onward : Nat → Pf
  | 0 => fun _ _ _ => False
  | n + 1 => fun ds Q _ => match ds with
    | [b, v, .int W, .int p] => ∃ w ps ns, b = bD w ps ∧ v = pD ns ∧ okB w ps = true ∧ smallP ns ∧ (ns.length ≤ n ∧ n ≤ 4) ∧ (0 ≤ W ∧ W ≤ 60) ∧ (-8 ≤ p ∧ p ≤ 12) ∧ Q (rowsD (onw w ps W (n + 1) ns p))
    | _ => False
def p_onward : Pf := pn_onward 5
def N_onward : List Str := [Str.ofString "brook", Str.ofString "planks", Str.ofString "weight", Str.ofString "place", Str.ofString "found", Str.ofString "length", Str.ofString "rest", Str.ofString "row"]
def body_onward (φr : Pf) : TDS := dSeq (dNew 4)
  (dSeq (dFor (dISeq (dSortSet (dVar 1))) (gName 5)
  (dIfS (dB (dCallPJ p_walks (dCons (dVar 0) (dCons (dVar 5) (dCons (dVar 3) (dCons (dVar 2) (dNil))))))) (dIfS (dB (dBin oGe (dBin oPlus (dVar 3) (dVar 5)) (dBin oIx (dVar 0) (dC (.int 0))))) (dAppend 4 (dTup (dCons (dVar 5) (dNil)))) (dIfS (dB (dBin oGt (dBin oPlus (dVar 3) (dVar 5)) (dC (.int 0)))) (dSeq (dSet 6 (dCallPJ φr (dCons (dVar 0) (dCons (dCallPJ p_without (dCons (dVar 1) (dCons (dVar 5) (dNil)))) (dCons (dVar 2) (dCons (dBin oPlus (dVar 3) (dVar 5)) (dNil)))))))
  (dSetCat 4 (dVar 4) (dComp [7] (dISeq (dVar 6)) (gName 7) (dYes) (dBin oPlus (dTup (dCons (dVar 5) (dNil))) (dVar 7))))) (dNext))) (dNext)))
  (dRetL 0 (dVar 4)))

theorem wp_onward : ∀ n, ∀ ds Qa Er, pn_onward (n + 1) ds Qa Er → body_onward (pn_onward n) (startD N_onward (ds.map Sl.da)) [] { nx := fun _ _ => Qa .none, rt := fun d _ => Qa d, er := fun n _ => Er n } := by
  intro n ds Qa Er h
  match ds, h with
  | [b, v, .int W, .int p], ⟨w, ps, ns, eb, ev, ok, hs, ⟨hn, hn4⟩, ⟨W1, W2⟩, ⟨p1, p2⟩, h⟩ =>
    subst eb ev
    have hw := okB_spec.mp ok
    refine ⟨ns, rfl, by omega, fun ms hm1 hm2 => ?_⟩
    have em := lens_eq hs hm1 hm2
    subst em
    show loopD _ _ ((lens ns).map PyData.int) _ _ _
    rw [onw_succ] at h
    refine loopD_ind (fun i ρ τ => ∃ k v5 v6, ρ = [.da (bD w ps), .da (pD ns), .da (.int W), .da (.int p), .res k, v5, v6, .un] ∧ τ[k]? = some (.lst ((((lens ns).take i).flatMap (stepO w ps W n ns p)).map rowD))) _ ⟨0, _, _, rfl, rfl⟩ ?_ ?_
    · rintro i d ρ τ hi ⟨k, v5, v6, rfl, hk⟩ K hK
      rw [List.getElem?_map] at hi
      obtain ⟨l, hl, rfl⟩ := Option.map_eq_some_iff.mp hi
      have hm := mem_lens (List.mem_of_getElem? hl)
      have hl8 := hs l hm
      have et : ((lens ns).take (i + 1)).flatMap (stepO w ps W n ns p) = ((lens ns).take i).flatMap (stepO w ps W n ns p) ++ stepO w ps W n ns p l := by
        rw [List.take_add_one, hl, List.flatMap_append]
        simp
      have hlen : (((lens ns).take i).flatMap (stepO w ps W n ns p)).length ≤ 8 ^ 5 := by
        have h1 := onw_len w ps W (n + 1) ns p
        rw [onw_succ] at h1
        have h2 : (((lens ns).take i).flatMap (stepO w ps W n ns p)).length ≤ ((lens ns).flatMap (stepO w ps W n ns p)).length := by
          conv => rhs; rw [← List.take_append_drop i (lens ns), List.flatMap_append, List.length_append]
          omega
        have h3 : 8 ^ (n + 1) ≤ 8 ^ 5 := Nat.pow_le_pow_right (by decide) (by omega)
        omega
      have h85 : 8 ^ 5 = 32768 := by decide
      refine ⟨⟨w, ps, rfl, okB_len ok, ⟨⟨by omega, by omega⟩, ⟨by omega, by omega⟩, by omega, by omega⟩, ?_⟩⟩
      show if wlk w ps l p W = true then _ else _
      have skip : stepO w ps W n ns p l = [] → ∀ v5 v6, K [.da (bD w ps), .da (pD ns), .da (.int W), .da (.int p), .res k, v5, v6, .un] τ := fun z v5 v6 => hK _ _ ⟨k, v5, v6, rfl, by rw [et, z, List.append_nil]; exact hk⟩
      refine if2 (fun z1 => ?_) (fun z1 => skip (by unfold stepO; rw [if_neg (by rw [z1]; decide)]) _ _)
      show if decide (w ≤ p + l) = true then _ else _
      refine if2 (fun z2 => ?_) (fun z2 => ?_)
      · refine append_go (k := k) (d := rowD [l]) rfl hk (fun Q q => q) (by rw [List.length_map]; omega) (hK _ _ ⟨k, _, _, rfl, ?_⟩)
        rw [List.getElem?_set_self (List.getElem?_eq_some_iff.mp hk).1, et]
        have : stepO w ps W n ns p l = [[l]] := by unfold stepO; rw [if_pos z1, if_pos z2]
        rw [this, List.map_append]
        rfl
      · show if decide (0 < p + l) = true then _ else _
        refine if2 (fun z3 => ?_) (fun z3 => skip (by unfold stepO; rw [if_pos z1, if_neg (by rw [z2]; decide), if_neg (by rw [z3]; decide)]) _ _)
        have z2' := of_decide_eq_false z2
        have z3' := of_decide_eq_true z3
        refine ⟨⟨ns, rfl, by omega, hm, ⟨?_⟩⟩⟩
        have hle : (ns.erase l).length + 1 = ns.length := by
          rw [List.length_erase_of_mem hm]
          have := List.length_pos_of_mem hm
          omega
        match n, hn, hn4, hk, et, hlen, skip, h with
        | 0, hn, _, _, _, _, _, _ => omega
        | m + 1, hn, hn4, hk, et, hlen, skip, h =>
          refine ⟨w, ps, ns.erase l, rfl, rfl, ok, smallP_erase hs l, ⟨by omega, by omega⟩, ⟨W1, W2⟩, ⟨by omega, by omega⟩, ?_⟩
          have es : stepO w ps W (m + 1) ns p l = (onw w ps W (m + 1) (ns.erase l) (p + l)).map (l :: ·) := by unfold stepO; rw [if_pos z1, if_neg (by rw [z2]; decide), if_pos z3]
          have hrl := onw_len w ps W (m + 1) (ns.erase l) (p + l)
          have hrr := onw_row w ps W (m + 1) (ns.erase l) (p + l)
          have h8 : 8 ^ (m + 1) ≤ 8 ^ 5 := Nat.pow_le_pow_right (by decide) (by omega)
          show dSetCat 4 (dVar 4) (dComp [7] (dISeq (dVar 6)) (gName 7) dYes (dBin oPlus (dTup (dCons (dVar 5) dNil)) (dVar 7))) [.da (bD w ps), .da (pD ns), .da (.int W), .da (.int p), .res k, .da (.int l), .da (rowsD (onw w ps W (m + 1) (ns.erase l) (p + l))), .un] τ { nx := K, rt := fun d _ => Qa d, er := fun n _ => Er n }
          refine setCat_go (k := k) (es := (stepO w ps W (m + 1) ns p l).map rowD) rfl hk (fun Q q => ?_) (by rw [List.length_map, List.length_map, es, List.length_map]; omega) (hK _ _ ⟨τ.length, _, _, rfl, ?_⟩)
          · show compD _ _ _ _ _ _ ((onw w ps W (m + 1) (ns.erase l) (p + l)).map rowD) _ []
            refine compD_map (fun d => match d with
              | .tuple r => .tuple (.int l :: r)
              | d => d) _ (fun d hd A hA => ?_) ?_
            · obtain ⟨r, hr, rfl⟩ := List.mem_map.mp hd
              have := hrr r hr
              exact ⟨by show 1 + (r.map PyData.int).length ≤ 1000000; rw [List.length_map]; omega, hA⟩
            · rw [es] at q
              have ee : ((onw w ps W (m + 1) (ns.erase l) (p + l)).map rowD).map (fun d => match d with
                | .tuple r => PyData.tuple (.int l :: r)
                | d => d) = ((onw w ps W (m + 1) (ns.erase l) (p + l)).map (l :: ·)).map rowD := by
                rw [List.map_map, List.map_map]
                rfl
              rw [ee]
              exact q
          · rw [et, List.map_append]
            simp
    · rintro ρ τ ⟨k, v5, v6, rfl, hk⟩
      rw [List.length_map, List.take_length] at hk
      have hlen := onw_len w ps W (n + 1) ns p
      have h8 : 8 ^ (n + 1) ≤ 8 ^ 5 := Nat.pow_le_pow_right (by decide) (by omega)
      have h85 : 8 ^ 5 = 32768 := by decide
      rw [onw_succ] at hlen
      show (match τ[k]? with
        | some (.lst ds) => (0 ≤ k ∧ ds.length ≤ 1000000) ∧ Qa (.list ds)
        | _ => False)
      rw [hk]
      exact ⟨⟨Nat.zero_le _, by rw [List.length_map]; omega⟩, h⟩
theorem len_onward : ∀ n, ∀ ds Qa Er, pn_onward (n + 1) ds Qa Er → ds.length = 4 := fun n ds Qa Er h => by
  match ds, h with
  | [b, v, .int W, .int p], h => rfl
def starts : List Int := (List.range 9).map fun i : Nat => -8 + (i : Int)
def atC (w : Int) (ps : List Int) (W : Int) (ns : List Int) (s : Int) : List (Int × List Int) := (onw w ps W 5 ns s).map fun r => (s, r)
def allC (w : Int) (ps : List Int) (W : Int) (ns : List Int) : List (Int × List Int) := starts.flatMap (atC w ps W ns)
def crD (c : Int × List Int) : PyData := .tuple [.int c.1, rowD c.2]
structure Cro (b v : PyData) (w : Int) (ps ns : List Int) (W : Int) : Prop where
  eb : b = bD w ps
  ev : v = pD ns
  ok : okB w ps = true
  sm : smallP ns
  ln : ns.length ≤ 4
  wt : 0 ≤ W ∧ W ≤ 60
def p_all_crossings : Pf := fun ds Q _ => match ds with
  | [b, v, .int W] => ∃ w ps ns, Cro b v w ps ns W ∧ Q (.list ((allC w ps W ns).map crD))
  | _ => False
def N_all_crossings : List Str := [Str.ofString "brook", Str.ofString "planks", Str.ofString "weight", Str.ofString "found", Str.ofString "start", Str.ofString "row"]
def body_all_crossings : TDS := dSeq (dSet 3 (dLst (dNil)))
  (dSeq (dFor (dIRng2 (dCons (oNeg (dC (.int 8))) (dCons (dC (.int 1)) (dNil)))) (gName 4)
  (dSet 3 (dBin oPlus (dVar 3) (dComp [5] (dISeq (dCallPJ p_onward (dCons (dVar 0) (dCons (dVar 1) (dCons (dVar 2) (dCons (dVar 4) (dNil))))))) (gName 5) (dYes) (dTup (dCons (dVar 4) (dCons (dVar 5) (dNil))))))))
  (dRet (dVar 3)))

theorem c_onward {w : Int} {ps ns : List Int} {W p : Int} {Q : PyData → Prop} {E : Str → Prop} (ok : okB w ps = true) (hs : smallP ns) (hn : ns.length ≤ 4) (hW : 0 ≤ W ∧ W ≤ 60) (hp : -8 ≤ p ∧ p ≤ 12) (q : Q (rowsD (onw w ps W 5 ns p))) : p_onward [bD w ps, pD ns, .int W, .int p] Q E :=
  ⟨w, ps, ns, rfl, rfl, ok, hs, ⟨hn, by decide⟩, hW, hp, q⟩
theorem rangeL_starts : rangeL (-8) 9 = starts.map PyData.int := rangeL_ints _ _
theorem starts_get {i : Nat} {s : Int} (h : starts[i]? = some s) : -8 ≤ s ∧ s ≤ 0 := by
  have := List.mem_of_getElem? h
  unfold starts at this
  simp only [List.mem_map, List.mem_range] at this
  obtain ⟨j, h1, rfl⟩ := this
  omega
theorem wp_all_crossings : ∀ ds Qa Er, p_all_crossings ds Qa Er → body_all_crossings (startD N_all_crossings (ds.map Sl.da)) [] { nx := fun _ _ => Qa .none, rt := fun d _ => Qa d, er := fun n _ => Er n } := by
  intro ds Qa Er h
  match ds, h with
  | [b, v, .int W], ⟨w, ps, ns, c, h⟩ =>
    obtain ⟨eb, ev, ok, hs, hn, hW⟩ := c
    subst eb ev
    refine ⟨⟨by decide, by decide, by decide, by decide⟩, ?_⟩
    show loopD _ _ (rangeL (-8) 9) _ _ _
    rw [rangeL_starts]
    refine loopD_ind (fun i ρ τ => ∃ v4, ρ = [.da (bD w ps), .da (pD ns), .da (.int W), .da (.list (((starts.take i).flatMap (atC w ps W ns)).map crD)), v4, .un] ∧ τ = []) _ ⟨_, rfl, rfl⟩ ?_ ?_
    · rintro i d ρ τ hi ⟨v4, rfl, rfl⟩ K hK
      rw [List.getElem?_map] at hi
      obtain ⟨s, hs1, rfl⟩ := Option.map_eq_some_iff.mp hi
      have hs2 := starts_get hs1
      refine ⟨c_onward ok hs hn hW ⟨hs2.1, by omega⟩ ?_⟩
      show compD _ _ _ _ _ _ ((onw w ps W 5 ns s).map rowD) _ []
      refine compD_map (fun d => .tuple [.int s, d]) _ (fun d hd A hA => hA) ?_
      have ee : ((onw w ps W 5 ns s).map rowD).map (fun d => PyData.tuple [.int s, d]) = (atC w ps W ns s).map crD := by
        unfold atC
        rw [List.map_map, List.map_map]
        rfl
      rw [ee]
      have hl : ∀ j, ((starts.take j).flatMap (atC w ps W ns)).length ≤ 9 * 32768 := fun j => by
        have := flat_len (atC w ps W ns) 32768 (starts.take j) fun x _ => by unfold atC; rw [List.length_map]; exact onw_len w ps W 5 ns x
        have h9 : (starts.take j).length ≤ 9 := by rw [List.length_take]; have : starts.length = 9 := rfl; omega
        have := Nat.mul_le_mul_right 32768 h9
        omega
      have et : (starts.take (i + 1)).flatMap (atC w ps W ns) = (starts.take i).flatMap (atC w ps W ns) ++ atC w ps W ns s := by
        rw [List.take_add_one, hs1, List.flatMap_append]; simp
      refine ⟨?_, hK _ _ ⟨.da (.int s), ?_, rfl⟩⟩
      · have h1 := hl i
        have h2 := onw_len w ps W 5 ns s
        show ((((starts.take i).flatMap (atC w ps W ns)).map crD).length + ((atC w ps W ns s).map crD).length ≤ 1000000)
        rw [List.length_map, List.length_map]
        unfold atC at h1 ⊢
        rw [List.length_map]
        have : 8 ^ 5 = 32768 := by decide
        omega
      · rw [et, List.map_append]
        rfl
    · rintro ρ τ ⟨v4, rfl, rfl⟩
      rw [List.length_map, List.take_length]
      exact h
theorem len_all_crossings : ∀ ds Qa Er, p_all_crossings ds Qa Er → ds.length = 3 := fun ds Qa Er h => by
  match ds, h with
  | [b, v, .int W], h => rfl
def plaK (b v : PyData) (k : Int → List Int → List Int → Prop) (E : Str → Prop) : Prop := match brookOf b with
  | some (w, ps) => (match planksOf v with
    | some ns => k w ps ns
    | none => E (Str.ofString "InvalidPlanks"))
  | none => E (Str.ofString "InvalidBrook")
theorem pla_need {b v : PyData} {k : Int → List Int → List Int → Prop} {E : Str → Prop} {R : PyData → Prop} (h : plaK b v k E) (g : ∀ w ps ns, b = bD w ps → v = pD ns → okB w ps = true → okP ns = true → k w ps ns → R .none) : p_need_planks [b, v] R E := by
  unfold plaK at h
  show if (brookOf b).isSome = true then (if (planksOf v).isSome = true then R .none else _) else _
  cases q : brookOf b with
  | none => rw [q] at h; exact ifF rfl h
  | some z =>
    obtain ⟨w, ps⟩ := z
    rw [q] at h
    obtain ⟨rfl, ok⟩ := brookOf_some q
    refine ifT rfl ?_
    cases q2 : planksOf v with
    | none => rw [q2] at h; exact ifF rfl h
    | some ns =>
      rw [q2] at h
      obtain ⟨rfl, okp⟩ := planksOf_some q2
      exact ifT rfl (g w ps ns rfl rfl ok okp h)
theorem pla_of {w : Int} {ps ns : List Int} {k : Int → List Int → List Int → Prop} {E : Str → Prop} (ok : okB w ps = true) (okp : okP ns = true) (q : k w ps ns) : plaK (bD w ps) (pD ns) k E := by
  unfold plaK; rw [brookOf_bD ok, planksOf_pD okp]; exact q
theorem okP_cro {w : Int} {ps ns : List Int} {W : Int} (ok : okB w ps = true) (okp : okP ns = true) (h1 : 0 ≤ W) (h2 : W ≤ 60) : Cro (bD w ps) (pD ns) w ps ns W :=
  ⟨rfl, rfl, ok, (okP_spec.mp okp).2.2.1, (okP_spec.mp okp).2.1, ⟨h1, h2⟩⟩
def p_need_all_crossings : Pf := fun ds Q E => match ds with
  | [b, v, u] => plaK b v (fun _ _ _ => weiK u (fun _ => Q .none) E) E
  | _ => False
def N_need_all_crossings : List Str := [Str.ofString "brook", Str.ofString "planks", Str.ofString "weight"]
def body_need_all_crossings : TDS := dSeq (dExpr (dCallPJ p_need_planks (dCons (dVar 0) (dCons (dVar 1) (dNil)))))
  (dExpr (dCallPJ p_need_weight (dCons (dVar 2) (dNil))))

theorem wp_need_all_crossings : ∀ ds Qa Er, p_need_all_crossings ds Qa Er → body_need_all_crossings (startD N_need_all_crossings (ds.map Sl.da)) [] { nx := fun _ _ => Qa .none, rt := fun d _ => Qa d, er := fun n _ => Er n } := by
  intro ds Qa Er h
  match ds, h with
  | [b, v, u], h => exact ⟨pla_need h fun w ps ns e1 e2 ok okp q => ⟨wei_need q fun i e h1 h2 q => q⟩⟩
theorem len_need_all_crossings : ∀ ds Qa Er, p_need_all_crossings ds Qa Er → ds.length = 3 := fun ds Qa Er h => by
  match ds, h with
  | [b, v, u], h => rfl
/-- all is well, or the same error -/
theorem plw_need {b v u : PyData} {k : Int → List Int → List Int → Int → Prop} {E : Str → Prop} {R : PyData → Prop} (h : plaK b v (fun w ps ns => weiK u (fun i => k w ps ns i) E) E)
    (g : ∀ w ps ns i, b = bD w ps → v = pD ns → u = .int i → okB w ps = true → okP ns = true → 0 ≤ i → i ≤ 60 → k w ps ns i → R .none) : p_need_all_crossings [b, v, u] R E := by
  show plaK b v (fun _ _ _ => weiK u (fun _ => R .none) E) E
  unfold plaK at h ⊢
  cases q : brookOf b with
  | none => rw [q] at h; exact h
  | some z =>
    obtain ⟨w, ps⟩ := z
    rw [q] at h
    obtain ⟨rfl, ok⟩ := brookOf_some q
    cases q2 : planksOf v with
    | none => simp only [q2] at h ⊢; exact h
    | some ns =>
      simp only [q2] at h ⊢
      obtain ⟨rfl, okp⟩ := planksOf_some q2
      unfold weiK at h ⊢
      cases q3 : isWhole u 0 60 with
      | false => rw [q3] at h; exact h
      | true =>
        rw [q3, if_pos rfl] at h
        rw [if_pos rfl]
        obtain ⟨i, rfl, i1, i2⟩ := isWhole_true q3
        exact g w ps ns i rfl rfl rfl ok okp i1 i2 h
def p_count_crossings : Pf := fun ds Q E => match ds with
  | [b, v, u] => plaK b v (fun w ps ns => weiK u (fun W => Q (.int ((allC w ps W ns).length : Int))) E) E
  | _ => False
def N_count_crossings : List Str := [Str.ofString "brook", Str.ofString "planks", Str.ofString "weight"]
def body_count_crossings : TDS := dSeq (dExpr (dCallPJ p_need_all_crossings (dCons (dVar 0) (dCons (dVar 1) (dCons (dVar 2) (dNil))))))
  (dRet (dCB oLen (dCons (dCallPJ p_all_crossings (dCons (dVar 0) (dCons (dVar 1) (dCons (dVar 2) (dNil))))) (dNil))))

theorem wp_count_crossings : ∀ ds Qa Er, p_count_crossings ds Qa Er → body_count_crossings (startD N_count_crossings (ds.map Sl.da)) [] { nx := fun _ _ => Qa .none, rt := fun d _ => Qa d, er := fun n _ => Er n } := by
  intro ds Qa Er h
  match ds, h with
  | [b, v, u], h =>
    refine ⟨plw_need h fun w ps ns i e1 e2 e3 ok okp i1 i2 q => ?_⟩
    subst e1 e2 e3
    refine ⟨⟨w, ps, ns, okP_cro ok okp i1 i2, ?_⟩⟩
    show Qa (.int (((allC w ps i ns).map crD).length : Nat))
    rw [List.length_map]
    exact q
theorem len_count_crossings : ∀ ds Qa Er, p_count_crossings ds Qa Er → ds.length = 3 := fun ds Qa Er h => by
  match ds, h with
  | [b, v, u], h => rfl
def crs (w : Int) (ps : List Int) (W : Int) (ns : List Int) : Bool := starts.any fun s => !(onw w ps W 5 ns s).isEmpty
theorem shpA_rows (n : Nat) : ∀ rs : List (List Int), shpA (n + 1) (rs.map rowD) = true
  | [] => rfl
  | r :: rs => by
    show (shp (n + 1) (rowD r) && shpA (n + 1) (rs.map rowD)) = true
    rw [shpA_rows n rs, Bool.and_true]
    exact shp_intsT n r
theorem shp_rows (n : Nat) (rs : List (List Int)) : shp (n + 2) (rowsD rs) = true := shpA_rows n rs
def p_crosses : Pf := fun ds Q _ => match ds with
  | [b, v, .int W] => ∃ w ps ns, Cro b v w ps ns W ∧ Q (.bool (crs w ps W ns))
  | _ => False
def N_crosses : List Str := [Str.ofString "brook", Str.ofString "planks", Str.ofString "weight", Str.ofString "start"]
def body_crosses : TDS := dSeq (dFor (dIRng2 (dCons (oNeg (dC (.int 8))) (dCons (dC (.int 1)) (dNil)))) (gName 3)
  (dIfS (dB (dBin oNe (dCallPJ p_onward (dCons (dVar 0) (dCons (dVar 1) (dCons (dVar 2) (dCons (dVar 3) (dNil)))))) (dLst (dNil)))) (dRet (dC (.bool true))) (dNext)))
  (dRet (dC (.bool false)))

theorem wp_crosses : ∀ ds Qa Er, p_crosses ds Qa Er → body_crosses (startD N_crosses (ds.map Sl.da)) [] { nx := fun _ _ => Qa .none, rt := fun d _ => Qa d, er := fun n _ => Er n } := by
  intro ds Qa Er h
  match ds, h with
  | [b, v, .int W], ⟨w, ps, ns, c, h⟩ =>
    obtain ⟨eb, ev, ok, hs, hn, hW⟩ := c
    subst eb ev
    refine ⟨⟨by decide, by decide, by decide, by decide⟩, ?_⟩
    show loopD _ _ (rangeL (-8) 9) _ _ _
    rw [rangeL_starts]
    refine loopD_ind (fun i ρ τ => ((starts.take i).any fun s => !(onw w ps W 5 ns s).isEmpty) = false ∧ ∃ v3, ρ = [.da (bD w ps), .da (pD ns), .da (.int W), v3] ∧ τ = []) _ ⟨rfl, _, rfl, rfl⟩ ?_ ?_
    · rintro i d ρ τ hi ⟨ha, v3, rfl, rfl⟩ K hK
      rw [List.getElem?_map] at hi
      obtain ⟨s, hs1, rfl⟩ := Option.map_eq_some_iff.mp hi
      have hs2 := starts_get hs1
      refine ⟨c_onward ok hs hn hW ⟨hs2.1, by omega⟩ ⟨⟨shp_rows 58 _, rfl⟩, ?_⟩⟩
      show if (!PyData.eqv (.list ((onw w ps W 5 ns s).map rowD)) (.list [])) = true then _ else _
      rw [eqv_nilL]
      refine if2 (fun z => ?_) (fun z => hK _ _ ⟨?_, _, rfl, rfl⟩)
      · have : crs w ps W ns = true := by
          unfold crs
          rw [List.any_eq_true]
          refine ⟨s, List.mem_of_getElem? hs1, ?_⟩
          cases e : onw w ps W 5 ns s with
          | nil => rw [e] at z; cases z
          | cons _ _ => rfl
        rw [this] at h
        exact h
      · rw [List.take_add_one, hs1, List.any_append, ha]
        cases e : onw w ps W 5 ns s with
        | nil => simp [e]
        | cons _ _ => rw [e] at z; cases z
    · rintro ρ τ ⟨ha, v3, rfl, rfl⟩
      rw [List.length_map, List.take_length] at ha
      have : crs w ps W ns = false := ha
      rw [this] at h
      exact h
theorem len_crosses : ∀ ds Qa Er, p_crosses ds Qa Er → ds.length = 3 := fun ds Qa Er h => by
  match ds, h with
  | [b, v, .int W], h => rfl
def p_heaviest_crossing : Pf := fun ds Q E => match ds with
  | [b, v] => plaK b v (fun w ps ns => (crs w ps 0 ns = false → Q .none) ∧ (crs w ps 0 ns = true → ∀ m : Int, 0 ≤ m → m ≤ 60 → crs w ps m ns = true → (m = 60 ∨ crs w ps (m + 1) ns = false) → Q (.int m))) E
  | _ => False
def N_heaviest_crossing : List Str := [Str.ofString "brook", Str.ofString "planks", Str.ofString "low", Str.ofString "high", Str.ofString "middle"]
def body_heaviest_crossing : TDS := dSeq (dExpr (dCallPJ p_need_planks (dCons (dVar 0) (dCons (dVar 1) (dNil)))))
  (dSeq (dIfS (dNotT (dB (dCallPJ p_crosses (dCons (dVar 0) (dCons (dVar 1) (dCons (dC (.int 0)) (dNil))))))) (dRet (dC .none)) (dNext))
  (dSeq (dAsg (dTup (dCons (dC (.int 0)) (dCons (dC (.int 61)) (dNil)))) (gTup 2 (gCons (gName 2) (gCons (gName 3) (gNil)))))
  (dSeq (dWhile (dB (dBin oGt (dBin oSub (dVar 3) (dVar 2)) (dC (.int 1)))) (dSeq (dSet 4 (dBin oOver (dBin oPlus (dVar 2) (dVar 3)) (dC (.int 2))))
  (dAsg (dIf (dB (dCallPJ p_crosses (dCons (dVar 0) (dCons (dVar 1) (dCons (dVar 4) (dNil)))))) (dTup (dCons (dVar 4) (dCons (dVar 3) (dNil)))) (dTup (dCons (dVar 2) (dCons (dVar 4) (dNil))))) (gTup 2 (gCons (gName 2) (gCons (gName 3) (gNil)))))))
  (dRet (dVar 2)))))

theorem wp_heaviest_crossing : ∀ ds Qa Er, p_heaviest_crossing ds Qa Er → body_heaviest_crossing (startD N_heaviest_crossing (ds.map Sl.da)) [] { nx := fun _ _ => Qa .none, rt := fun d _ => Qa d, er := fun n _ => Er n } := by
  intro ds Qa Er h
  match ds, h with
  | [b, v], h =>
    refine ⟨pla_need h fun w ps ns e1 e2 ok okp q => ?_⟩
    subst e1 e2
    obtain ⟨q0, q1⟩ := q
    refine ⟨⟨w, ps, ns, okP_cro ok okp (by decide) (by decide), ?_⟩⟩
    show if (!crs w ps 0 ns) = true then _ else _
    cases z : crs w ps 0 ns with
    | false => exact ifT rfl (q0 z)
    | true =>
      refine ifF rfl ?_
      have key : ∀ (k : Nat) (lo hi : Int) (v4 : Sl), 0 ≤ lo → lo < hi → hi ≤ 61 → hi - lo ≤ (k : Int) → crs w ps lo ns = true → (hi = 61 ∨ crs w ps hi ns = false) →
          loopW (dB (dBin oGt (dBin oSub (dVar 3) (dVar 2)) (dC (.int 1)))) (dSeq (dSet 4 (dBin oOver (dBin oPlus (dVar 2) (dVar 3)) (dC (.int 2))))
            (dAsg (dIf (dB (dCallPJ p_crosses (dCons (dVar 0) (dCons (dVar 1) (dCons (dVar 4) (dNil)))))) (dTup (dCons (dVar 4) (dCons (dVar 3) (dNil)))) (dTup (dCons (dVar 2) (dCons (dVar 4) (dNil))))) (gTup 2 (gCons (gName 2) (gCons (gName 3) (gNil))))))
            k [.da (bD w ps), .da (pD ns), .da (.int lo), .da (.int hi), v4] [] { nx := fun ρ' τ' => dRet (dVar 2) ρ' τ' { nx := fun _ _ => Qa .none, rt := fun d _ => Qa d, er := fun n _ => Er n }, rt := fun d _ => Qa d, er := fun n _ => Er n } := by
        intro k
        induction k with
        | zero => intro lo hi v4 h0 h1 h2 h3; omega
        | succ k ih =>
          intro lo hi v4 h0 h1 h2 h3 hc hh
          show if decide (1 < hi - lo) = true then _ else _
          refine if2 (fun y => ?_) (fun y => ?_)
          · have y := of_decide_eq_true y
            refine ⟨.inl ⟨by decide, by decide⟩, ⟨⟨w, ps, ns, okP_cro ok okp (by omega) (by omega), ?_⟩⟩⟩
            show if crs w ps ((lo + hi) / 2) ns = true then _ else _
            refine if2 (fun x => ⟨rfl, ?_⟩) (fun x => ⟨rfl, ?_⟩)
            · exact ih ((lo + hi) / 2) hi _ (by omega) (by omega) h2 (by omega) x hh
            · exact ih lo ((lo + hi) / 2) _ h0 (by omega) (by omega) (by omega) hc (.inr x)
          · have y := of_decide_eq_false y
            refine q1 z lo h0 (by omega) hc ?_
            have e : hi = lo + 1 := by omega
            subst e
            rcases hh with hh | hh
            · exact .inl (by omega)
            · exact .inr hh
      exact ⟨rfl, 61, key 61 0 61 _ (by decide) (by decide) (by decide) (by decide) z (.inl rfl)⟩
theorem len_heaviest_crossing : ∀ ds Qa Er, p_heaviest_crossing ds Qa Er → ds.length = 2 := fun ds Qa Er h => by
  match ds, h with
  | [b, v], h => rfl
def keyD (c : Int × List Int) : PyData := .tuple [.int (c.2.length : Int), .int c.1, rowD c.2]
def fstD : List (Int × List Int) → PyData
  | [] => .none
  | c :: cs => match PySem.W.minD (keyD c) (cs.map keyD) with
    | .tuple (_ :: t) => .tuple t
    | _ => .none
theorem alike_ints : ∀ xs ys : List Int, PySem.W.alikeAll (xs.map .int) (ys.map .int) = true
  | [], _ => by unfold PySem.W.alikeAll; rfl
  | _ :: _, [] => by unfold PySem.W.alikeAll; rfl
  | x :: xs, y :: ys => by
    show PySem.W.alikeAll (.int x :: xs.map .int) (.int y :: ys.map .int) = true
    unfold PySem.W.alikeAll
    rw [alike_ints xs ys]
    unfold PySem.W.alike
    rfl
theorem alike_key (a b : Int × List Int) : PySem.W.alike (keyD a) (keyD b) = true := by
  unfold keyD rowD
  simp only [PySem.W.alike, PySem.W.alikeAll, alike_ints, Bool.and_self]
theorem shpA_keys (n : Nat) : ∀ cs : List (Int × List Int), shpA (n + 2) (cs.map keyD) = true
  | [] => rfl
  | c :: cs => by
    show (shp (n + 2) (keyD c) && shpA (n + 2) (cs.map keyD)) = true
    rw [shpA_keys n cs, Bool.and_true]
    show (true && (true && (shp (n + 1) (rowD c.2) && true))) = true
    rw [show shp (n + 1) (rowD c.2) = true from shp_intsT n c.2]
    rfl
def p_first_crossing : Pf := fun ds Q E => match ds with
  | [b, v, u] => plaK b v (fun w ps ns => weiK u (fun W => Q (fstD (allC w ps W ns))) E) E
  | _ => False
def N_first_crossing : List Str := [Str.ofString "brook", Str.ofString "planks", Str.ofString "weight", Str.ofString "some", Str.ofString "start", Str.ofString "row"]
def body_first_crossing : TDS := dSeq (dExpr (dCallPJ p_need_all_crossings (dCons (dVar 0) (dCons (dVar 1) (dCons (dVar 2) (dNil))))))
  (dSeq (dSet 3 (dComp [4, 5] (dISeq (dCallPJ p_all_crossings (dCons (dVar 0) (dCons (dVar 1) (dCons (dVar 2) (dNil)))))) (gTup 2 (gCons (gName 4) (gCons (gName 5) (gNil)))) (dYes) (dTup (dCons (dCB oLen (dCons (dVar 5) (dNil))) (dCons (dVar 4) (dCons (dVar 5) (dNil)))))))
  (dRet (dIf (dB (dBin oNe (dVar 3) (dLst (dNil)))) (dSl (dCB oMinD (dCons (dVar 3) (dNil))) (dSo (dC (.int 1))) (dNo)) (dC .none))))

theorem wp_first_crossing : ∀ ds Qa Er, p_first_crossing ds Qa Er → body_first_crossing (startD N_first_crossing (ds.map Sl.da)) [] { nx := fun _ _ => Qa .none, rt := fun d _ => Qa d, er := fun n _ => Er n } := by
  intro ds Qa Er h
  match ds, h with
  | [b, v, u], h =>
    refine ⟨plw_need h fun w ps ns i e1 e2 e3 ok okp i1 i2 q => ?_⟩
    subst e1 e2 e3
    refine ⟨⟨w, ps, ns, okP_cro ok okp i1 i2, ?_⟩⟩
    show compD _ _ _ _ _ _ ((allC w ps i ns).map crD) _ []
    refine compD_map (fun d => match d with
      | .tuple [.int s, .tuple r] => .tuple [.int (r.length : Int), .int s, .tuple r]
      | d => d) _ (fun d hd A hA => ?_) ?_
    · obtain ⟨c, _, rfl⟩ := List.mem_map.mp hd
      exact ⟨rfl, hA⟩
    · have ee : ((allC w ps i ns).map crD).map (fun d => match d with
        | .tuple [.int s, .tuple r] => PyData.tuple [.int (r.length : Int), .int s, .tuple r]
        | d => d) = (allC w ps i ns).map keyD := by
        rw [List.map_map]
        refine List.map_congr_left fun c _ => ?_
        show PyData.tuple [.int ((c.2.map PyData.int).length : Int), .int c.1, .tuple (c.2.map .int)] = keyD c
        rw [List.length_map]
        rfl
      rw [ee]
      generalize allC w ps i ns = cs at q
      refine ⟨⟨shpA_keys 57 cs, rfl⟩, ?_⟩
      show if (!PyData.eqv (.list (cs.map keyD)) (.list [])) = true then _ else _
      rw [eqv_nilL]
      cases cs with
      | nil => exact ifF rfl q
      | cons c cs =>
        refine ifT rfl ⟨⟨⟨fun x hx y hy => ?_, fun x hx => ?_⟩, (shpA_lay (shpA_keys 58 (c :: cs))).2⟩, ?_⟩
        · obtain ⟨a, _, rfl⟩ := List.mem_map.mp (show x ∈ (c :: cs).map keyD from hx)
          obtain ⟨a', _, rfl⟩ := List.mem_map.mp (show y ∈ (c :: cs).map keyD from hy)
          exact alike_key a a'
        · obtain ⟨a, _, rfl⟩ := List.mem_map.mp (show x ∈ (c :: cs).map keyD from hx)
          exact fun z => nomatch z
        · obtain ⟨a, _, ea⟩ := List.mem_map.mp (show PySem.W.minD (keyD c) (cs.map keyD) ∈ (c :: cs).map keyD from minD_mem _ _)
          have q2 : Qa (match PySem.W.minD (keyD c) (cs.map keyD) with
            | .tuple (_ :: t) => .tuple t
            | _ => .none) := q
          rw [← ea] at q2 ⊢
          exact q2
theorem len_first_crossing : ∀ ds Qa Er, p_first_crossing ds Qa Er → ds.length = 3 := fun ds Qa Er h => by
  match ds, h with
  | [b, v, u], h => rfl
/-! what the calls tell of wrong arguments -/
theorem shp_errT {n : Str} (hn : PyData.strOk n = true) : shp 60 (errT n) = true := by
  show (PyData.strOk (Str.ofString "error") && (PyData.strOk n && true)) = true
  rw [hn]; decide +kernel
theorem eqv_errT (n : Str) : PyData.eqv (errT n) (errT n) = true := by
  show ((Str.ofString "error" == Str.ofString "error") && ((n == n) && true)) = true
  simp
theorem ne_errT (n : Str) {τ : Rs} {Q : PyData → Prop} (q : Q (.bool false)) (hn : PyData.strOk n = true := by decide +kernel) : oNe (.da (errT n)) (.da (errT n)) τ Q := by
  refine ⟨⟨shp_errT hn, shp_errT hn⟩, ?_⟩
  have e : PyData.eqv (errT n) (errT n) = true := by
    show ((Str.ofString "error" == Str.ofString "error") && ((n == n) && true)) = true
    simp
  rw [e]
  exact q
theorem ne_bD {w w' : Int} {ps ps' : List Int} {τ : Rs} {Q : PyData → Prop} (e : w = w' ∧ ps = ps') (q : Q (.bool false)) : oNe (.da (bD w ps)) (.da (bD w' ps')) τ Q := by
  refine ⟨⟨shp_bD 58 _ _, shp_bD 58 _ _⟩, ?_⟩
  rw [eqv_bD, decide_eq_true e]
  exact q
theorem e_with_many {w i : Int} {ps : List Int} {Q : PyData → Prop} {E : Str → Prop} (ok : okB w ps = true) (hl : ps.length = 5) (h1 : 1 ≤ i) (h2 : i ≤ w - 1) (hp : i ∉ ps) (q : E (Str.ofString "TooMany")) : p_with_pier [bD w ps, .int i] Q E := by
  unfold p_with_pier; simp only; rw [brookOf_bD ok]
  show if (isWhole (.int i) 1 (w - 1) && !decide (i ∈ ps)) = true then _ else _
  rw [whole_of h1 h2, decide_eq_false hp]
  refine ifT rfl ?_
  rw [decide_eq_true hl]
  exact ifT rfl q
theorem e_with_pier {w : Int} {v : PyData} {ps : List Int} {Q : PyData → Prop} {E : Str → Prop} (ok : okB w ps = true) (h : ∀ i, v = .int i → 1 ≤ i → i ≤ w - 1 → i ∈ ps) (q : E (Str.ofString "InvalidPier")) : p_with_pier [bD w ps, v] Q E := by
  unfold p_with_pier; simp only; rw [brookOf_bD ok]
  cases v with
  | int i =>
    show if (isWhole (.int i) 1 (w - 1) && !decide (i ∈ ps)) = true then _ else _
    refine ifF ?_ q
    cases e : isWhole (.int i) 1 (w - 1) with
    | false => rfl
    | true =>
      obtain ⟨j, e1, e2, e3⟩ := isWhole_true e
      cases e1
      rw [decide_eq_true (h i rfl e2 e3)]
      rfl
  | _ => exact q
theorem e_with_brook {b v : PyData} {Q : PyData → Prop} {E : Str → Prop} (h : brookOf b = none) (q : E (Str.ofString "InvalidBrook")) : p_with_pier [b, v] Q E := by
  unfold p_with_pier; simp only; rw [h]
  exact q
/-- the points without a pier -/
def freeP (w : Int) (ps : List Int) : List Int := ((List.range (w - 1).toNat).map fun i : Nat => 1 + (i : Int)).filter fun x => !decide (x ∈ ps)
theorem mem_freeP {w x : Int} {ps : List Int} : x ∈ freeP w ps ↔ (1 ≤ x ∧ x ≤ w - 1) ∧ x ∉ ps := by
  unfold freeP
  rw [List.mem_filter, List.mem_map]
  constructor
  · rintro ⟨⟨i, h1, rfl⟩, h2⟩
    rw [List.mem_range] at h1
    exact ⟨by omega, by simpa using h2⟩
  · rintro ⟨h1, h2⟩
    exact ⟨⟨(x - 1).toNat, List.mem_range.mpr (by omega), by omega⟩, by simpa using h2⟩
theorem freeP_len {w : Int} {ps : List Int} : (freeP w ps).length ≤ (w - 1).toNat := by
  unfold freeP
  refine Nat.le_trans (List.length_filter_le _ _) ?_
  simp
/-- [x for x in range(1, width) if x not in piers] -/
theorem free_go {t : Tg} {ft : TDT} {fe : TD} {ρ : Ds} {Q : Sl → Rs → Prop} {er : Str → Rs → Prop} {τ : Rs} {w : Int} {ps : List Int}
    (hs : ∀ x : Int, ∀ (A : Sl → Rs → Prop) (B : Rs → Prop), (if (!decide (x ∈ ps)) = true then A (.da (.int x)) τ else B τ) → t (.int x) ρ fun ρ1 => ft ρ1 τ (fun b τ1 => if b = true then fe ρ1 τ1 A er else B τ1) er)
    (q : Q (.da (.list ((freeP w ps).map .int))) τ) : compD t ft fe ρ Q er (rangeL 1 (w - 1).toNat) τ [] := by
  refine compD_filter (fun d => match d with
    | .int x => !decide (x ∈ ps)
    | _ => false) _ (fun d hd A B hA => ?_) ?_
  · rw [rangeL_ints] at hd
    obtain ⟨x, _, rfl⟩ := List.mem_map.mp hd
    exact hs x A B hA
  · have ef := filter_ints (fun d => match d with
      | .int x => !decide (x ∈ ps)
      | _ => false) ((List.range (w - 1).toNat).map fun i : Nat => 1 + (i : Int))
    simp only at ef
    rw [rangeL_ints, ef]
    exact q
theorem mirP_mirP (w : Int) (ps : List Int) : mirP w (mirP w ps) = ps := by
  unfold mirP
  rw [← List.map_reverse, List.reverse_reverse, List.map_map]
  have : ((fun p : Int => w - p) ∘ fun p => w - p) = id := by funext p; show w - (w - p) = p; omega
  rw [this, List.map_id]
theorem mirP_asc {w : Int} {ps : List Int} (h : ps.Pairwise (· < ·)) : (mirP w ps).Pairwise (· < ·) := by
  unfold mirP
  rw [List.pairwise_map, List.pairwise_reverse]
  exact h.imp fun h => by omega
theorem okB_asc {w : Int} {ps : List Int} (h : okB w ps = true) : ps.Pairwise (· < ·) := asc_pairwise.mp (okB_spec.mp h).2.2.2.2
theorem sortI_id {l : List Int} (h : l.Pairwise (· < ·)) : sortI l = l := sortI_eq h (List.Perm.refl _)
theorem mirP_sort {w : Int} {ps : List Int} (h : ps.Pairwise (· < ·)) : sortI (ps.map fun p => w - p) = mirP w ps :=
  sortI_eq (mirP_asc h) (by unfold mirP; exact (List.reverse_perm ps).map _)
theorem with_asc {x : Int} {ps : List Int} (h : ps.Pairwise (· < ·)) (hx : x ∉ ps) : (sortI (ps ++ [x])).Pairwise (· < ·) := by
  have h1 := sortI_pair (ps ++ [x])
  have h2 : (sortI (ps ++ [x])).Nodup := ((sortI_perm (ps ++ [x])).nodup_iff).mpr (List.nodup_append.mpr ⟨nodup_asc h, by simp, by simp; intro y hy e; exact hx (e ▸ hy)⟩)
  rw [List.nodup_iff_pairwise_ne] at h2
  exact (h1.and h2).imp fun ⟨a, b⟩ => by omega
theorem with_mir {w x : Int} {ps : List Int} (h : ps.Pairwise (· < ·)) (hx : x ∉ ps) : sortI (mirP w ps ++ [w - x]) = mirP w (sortI (ps ++ [x])) := by
  refine sortI_eq (mirP_asc (with_asc h hx)) ?_
  unfold mirP
  refine ((List.reverse_perm _).map _).trans (((sortI_perm _).map _).trans ?_)
  rw [List.map_append]
  exact ((List.reverse_perm ps).map _).symm.append (List.Perm.refl _)
/-- a deed that raises n, told -/
theorem told_t {kt : Nat} {q : Str} {es : List Str} {fb : TD} {n : Str} {ρ : Ds} {τ : Rs} {Q : Bool → Rs → Prop} {er : Str → Rs → Prop} (ht : τ[kt]? = some (.tab q)) (hn : n ∈ es) (h : ∀ (Q : Sl → Rs → Prop) (E : Str → Rs → Prop), E n τ → fb ρ τ Q E) (hQ : Q false τ) (hs : PyData.strOk n = true := by decide +kernel) :
    dB (dBin oNe (dTold kt q es fb) (dTup (dCons (dC (.str (Str.ofString "error"))) (dCons (dC (.str n)) (dNil))))) ρ τ Q er := by
  refine ⟨ht, h _ _ ⟨hn, ?_⟩⟩
  rw [List.take_length]
  refine ⟨⟨shp_errT hs, shp_errT hs⟩, ?_⟩
  show Q (!PyData.eqv (errT n) (errT n)) τ
  rw [eqv_errT]
  exact hQ
theorem told_if {kt : Nat} {q : Str} {es : List Str} {fb : TD} {n : Str} {ρ : Ds} {τ : Rs} {A B : TDS} {De : DEnds} (ht : τ[kt]? = some (.tab q)) (hn : n ∈ es) (h : ∀ (Q : Sl → Rs → Prop) (E : Str → Rs → Prop), E n τ → fb ρ τ Q E) (hB : B ρ τ De) (hs : PyData.strOk n = true := by decide +kernel) :
    dIfS (dB (dBin oNe (dTold kt q es fb) (dTup (dCons (dC (.str (Str.ofString "error"))) (dCons (dC (.str n)) (dNil)))))) A B ρ τ De :=
  told_t (Q := fun b τ1 => if b = true then A ρ τ1 De else B ρ τ1 De) ht hn h (ifF rfl hB) hs
/-- .. that ends -/
theorem told_ok {kt : Nat} {q : Str} {es : List Str} {fb : TD} {ρ : Ds} {τ : Rs} {Q : Sl → Rs → Prop} {er : Str → Rs → Prop} {d : PyData} (ht : τ[kt]? = some (.tab q)) (h : ∀ (Q : Sl → Rs → Prop) (E : Str → Rs → Prop), Q (.da d) τ → fb ρ τ Q E) (hQ : Q (.da d) τ) : dTold kt q es fb ρ τ Q er := ⟨ht, h _ _ hQ⟩
theorem told_er {kt : Nat} {q : Str} {es : List Str} {fb : TD} {n : Str} {ρ : Ds} {τ : Rs} {Q : Sl → Rs → Prop} {er : Str → Rs → Prop} (ht : τ[kt]? = some (.tab q)) (hn : n ∈ es) (h : ∀ (Q : Sl → Rs → Prop) (E : Str → Rs → Prop), E n τ → fb ρ τ Q E) (hQ : Q (.da (errT n)) τ) : dTold kt q es fb ρ τ Q er :=
  ⟨ht, h _ _ ⟨hn, by rw [List.take_length]; exact hQ⟩⟩
theorem for_lst {f : TDI} {t : Tg} {g rest : TDS} {ρ : Ds} {τ : Rs} {De : DEnds} (ds : List PyData) (hf : ∀ (Q : List PyData → Rs → Prop), Q ds τ → f ρ τ Q De.er) (h : loopD t g ds ρ τ { De with nx := fun ρ' τ' => rest ρ' τ' De }) : dSeq (dFor f t g) rest ρ τ De := hf _ h
theorem laid_len {w : Int} {ps : List Int} {l p : PyData} {k : Int → List Int → Int → Int → Prop} {E : Str → Prop} (ok : okB w ps = true) (h : isWhole l 1 8 = false) (q : E (Str.ofString "InvalidLength")) : laidK (bD w ps) l p k E := by
  unfold laidK; rw [brookOf_bD ok]; simp only [h]; exact q
theorem laid_place {w l : Int} {ps : List Int} {p : PyData} {k : Int → List Int → Int → Int → Prop} {E : Str → Prop} (ok : okB w ps = true) (h1 : 1 ≤ l) (h2 : l ≤ 8) (h : isWhole p (-8) 12 = false) (q : E (Str.ofString "InvalidPlace")) : laidK (bD w ps) (.int l) p k E := by
  unfold laidK; rw [brookOf_bD ok]; simp only [whole_of h1 h2, h, if_true]; exact q
theorem wei_bad {v : PyData} {k : Int → Prop} {E : Str → Prop} (h : isWhole v 0 60 = false) (q : E (Str.ofString "InvalidWeight")) : weiK v k E := by
  unfold weiK; rw [h]; exact q
theorem e_supports_len {w : Int} {ps : List Int} {l p : PyData} {Q : PyData → Prop} {E : Str → Prop} (ok : okB w ps = true) (h : isWhole l 1 8 = false) (q : E (Str.ofString "InvalidLength")) : p_supports [bD w ps, l, p] Q E := laid_len ok h q
theorem e_heaviest_len {w : Int} {ps : List Int} {l p : PyData} {Q : PyData → Prop} {E : Str → Prop} (ok : okB w ps = true) (h : isWhole l 1 8 = false) (q : E (Str.ofString "InvalidLength")) : p_heaviest [bD w ps, l, p] Q E := laid_len ok h q
theorem e_can_walk_wei {w l p : Int} {ps : List Int} {v : PyData} {Q : PyData → Prop} {E : Str → Prop} (ok : okB w ps = true) (h1 : 1 ≤ l) (h2 : l ≤ 8) (h3 : -8 ≤ p) (h4 : p ≤ 12) (h : isWhole v 0 60 = false) (q : E (Str.ofString "InvalidWeight")) : p_can_walk [bD w ps, .int l, .int p, v] Q E := by
  unfold p_can_walk; simp only
  exact laid_of ok h1 h2 h3 h4 (wei_bad h q)
theorem e_stretch_wei {w l p : Int} {ps : List Int} {v : PyData} {Q : PyData → Prop} {E : Str → Prop} (ok : okB w ps = true) (h1 : 1 ≤ l) (h2 : l ≤ 8) (h3 : -8 ≤ p) (h4 : p ≤ 12) (h : isWhole v 0 60 = false) (q : E (Str.ofString "InvalidWeight")) : p_stretch [bD w ps, .int l, .int p, v] Q E := by
  unfold p_stretch; simp only
  exact laid_of ok h1 h2 h3 h4 (wei_bad h q)
theorem e_firm_len {w : Int} {ps : List Int} {l : PyData} {Q : PyData → Prop} {E : Str → Prop} (ok : okB w ps = true) (h : isWhole l 1 8 = false) (q : E (Str.ofString "InvalidLength")) : p_firm_places [bD w ps, l] Q E := by
  unfold p_firm_places; simp only; rw [brookOf_bD ok]; simp only [h]; exact q
theorem e_firm_brook {b l : PyData} {Q : PyData → Prop} {E : Str → Prop} (h : brookOf b = none) (q : E (Str.ofString "InvalidBrook")) : p_firm_places [b, l] Q E := by
  unfold p_firm_places; simp only; rw [h]; exact q
theorem e_mirrored {b : PyData} {Q : PyData → Prop} {E : Str → Prop} (h : brookOf b = none) (q : E (Str.ofString "InvalidBrook")) : p_mirrored [b] Q E := by
  unfold p_mirrored; simp only; rw [h]; exact q
theorem e_is_firm_place {w l : Int} {ps : List Int} {p : PyData} {Q : PyData → Prop} {E : Str → Prop} (ok : okB w ps = true) (h1 : 1 ≤ l) (h2 : l ≤ 8) (h : isWhole p (-8) 12 = false) (q : E (Str.ofString "InvalidPlace")) : p_is_firm [bD w ps, .int l, p] Q E := by
  unfold p_is_firm; simp only; rw [brookOf_bD ok]; simp only [whole_of h1 h2, h, if_true]; exact q
theorem shp_hld (h : Option (Int × Int)) : shp 60 (hldD h) = true := by cases h <;> rfl
theorem eqv_hld (h : Option (Int × Int)) : PyData.eqv (hldD h) (hldD h) = true := by
  cases h with
  | none => rfl
  | some z => exact (eqv_intsT [z.1, z.2] [z.1, z.2]).trans (by simp)
def mirH (w : Int) : Option (Int × Int) → Option (Int × Int)
  | some (a, c) => some (w - c, w - a)
  | none => none
theorem hld_mir (w : Int) (ps : List Int) (l p : Int) : hld w (mirP w ps) l p = mirH w (hld w ps l (w - p - l)) := by
  cases q : hld w ps l (w - p - l) with
  | none =>
    have h0 : pts w ps l (w - p - l) = [] := hdL_none.mp q
    have h1 : pts w (mirP w ps) l p = [] := by
      cases e : pts w (mirP w ps) l p with
      | nil => rfl
      | cons x t =>
        have : x ∈ pts w (mirP w ps) l p := by rw [e]; exact List.mem_cons_self
        have := pts_mir.mp this
        rw [h0] at this; cases this
    exact hdL_none.mpr h1
  | some z =>
    obtain ⟨a, c⟩ := z
    obtain ⟨ha, hc, hx⟩ := hld_some q
    refine hld_of (pts_mir.mpr (by rwa [show w - (w - c) = c by omega])) (pts_mir.mpr (by rwa [show w - (w - a) = a by omega])) fun x h => ?_
    have := hx _ (pts_mir.mp h)
    omega
theorem pla_bad {w : Int} {ps : List Int} {v : PyData} {k : Int → List Int → List Int → Prop} {E : Str → Prop} (ok : okB w ps = true) (h : planksOf v = none) (q : E (Str.ofString "InvalidPlanks")) : plaK (bD w ps) v k E := by
  unfold plaK; rw [brookOf_bD ok]; simp only [h]; exact q
theorem e_first_planks {w : Int} {ps : List Int} {v u : PyData} {Q : PyData → Prop} {E : Str → Prop} (ok : okB w ps = true) (h : planksOf v = none) (q : E (Str.ofString "InvalidPlanks")) : p_first_crossing [bD w ps, v, u] Q E := pla_bad ok h q
theorem e_heaviest_planks {w : Int} {ps : List Int} {v : PyData} {Q : PyData → Prop} {E : Str → Prop} (ok : okB w ps = true) (h : planksOf v = none) (q : E (Str.ofString "InvalidPlanks")) : p_heaviest_crossing [bD w ps, v] Q E := pla_bad ok h q
theorem not_planks {v : PyData} (h : ∀ ns, v = pD ns → okP ns = true → False) : planksOf v = none := by
  cases q : planksOf v with
  | none => rfl
  | some ns => obtain ⟨a, b⟩ := planksOf_some q; exact (h ns a b).elim
theorem not_brook {v : PyData} (h : ∀ w ps, v = bD w ps → okB w ps = true → False) : brookOf v = none := by
  cases q : brookOf v with
  | none => rfl
  | some z => obtain ⟨w, ps⟩ := z; obtain ⟨a, b⟩ := brookOf_some q; exact (h w ps a b).elim
theorem arePlanks_of {v : PyData} (h : planksOf v = none) : arePlanks v = false := by unfold arePlanks; rw [h]; rfl
theorem isBrook_of {v : PyData} (h : brookOf v = none) : isBrook v = false := by unfold isBrook; rw [h]; rfl
theorem c_brk {v : PyData} {b : Bool} {Q : PyData → Prop} {E : Str → Prop} (h : isBrook v = b) (q : Q (.bool b)) : p_is_brook [v] Q E := by subst h; exact q
theorem c_plk {v : PyData} {b : Bool} {Q : PyData → Prop} {E : Str → Prop} (h : arePlanks v = b) (q : Q (.bool b)) : p_are_planks [v] Q E := by subst h; exact q
theorem isBrook_bD {w : Int} {ps : List Int} (ok : okB w ps = true) : isBrook (bD w ps) = true := by unfold isBrook; rw [brookOf_bD ok]; rfl
theorem arePlanks_pD {ns : List Int} (ok : okP ns = true) : arePlanks (pD ns) = true := by unfold arePlanks; rw [planksOf_pD ok]; rfl
theorem asc_ext {l m : List Int} (hl : l.Pairwise (· < ·)) (hm : m.Pairwise (· < ·)) (h : ∀ x, x ∈ l ↔ x ∈ m) : l = m :=
  (sortI_id hl).symm.trans (sortI_eq hm ((List.perm_ext_iff_of_nodup (nodup_asc hm) (nodup_asc hl)).mpr fun x => (h x).symm))
/-- walking, as the law reckons it -/
theorem lwk_eq {w l p W : Int} {ps : List Int} (hl : 0 ≤ l) (hW : 0 ≤ W) : (stn w ps l p W p 1 && stn w ps l p W (p + l) 1) = wlk w ps l p W := by
  cases q : lie w ps l p with
  | false =>
    rw [wlk_not q]
    have : ∀ t u, stn w ps l p W t u = false := fun t u => by
      unfold stn
      unfold lie at q
      cases h : hld w ps l p with
      | none => rfl
      | some z =>
        rw [h] at q
        obtain ⟨a, c⟩ := z
        show (lieH l p (some (a, c)) && _) = false
        rw [q]; rfl
    rw [this]; rfl
  | true =>
    obtain ⟨a, c, hh, F⟩ := lie_frm hl q
    rw [Bool.eq_iff_iff, Bool.and_eq_true, stn_iff hh F, stn_iff hh F, wlk_iff hh F]
    have b1 : 0 ≤ W * l := Int.mul_nonneg hW hl
    constructor
    · rintro ⟨⟨h1, h2⟩, h3, h4⟩
      exact ⟨by grind, by grind⟩
    · rintro ⟨h1, h2⟩
      exact ⟨⟨by grind, by grind⟩, by grind, by grind⟩
theorem c__law_walks {w l p W : Int} {ps : List Int} {Q : PyData → Prop} {E : Str → Prop} (h : sml l p W) (q : Q (.bool (wlk w ps l p W))) : p__law_walks [bD w ps, .int l, .int p, .int W] Q E :=
  ⟨w, ps, rfl, h, by rw [lwk_eq h.1.1 h.2.2.1]; exact q⟩
/-- the weights that walk -/
def wks (w : Int) (ps : List Int) (l p : Int) : List Int := upTo (fun W => wlk w ps l p W) 0 61
theorem wks_not {w l p : Int} {ps : List Int} (h : lie w ps l p = false) : wks w ps l p = [] := by
  cases e : wks w ps l p with
  | nil => rfl
  | cons x t =>
    have : x ∈ wks w ps l p := by rw [e]; exact List.mem_cons_self
    have := (mem_upTo.mp this).2
    rw [wlk_not h] at this; cases this
theorem wks_lie {w l p m : Int} {ps : List Int} (h1 : 0 ≤ m) (h2 : m ≤ 60) (h : ∀ W, 0 ≤ W → W ≤ 60 → (W ≤ m ↔ wlk w ps l p W = true)) : wks w ps l p = (List.range (m + 1).toNat).map fun i : Nat => 0 + (i : Int) := by
  refine asc_ext (upTo_asc _ _ _) (range_asc 0 _) fun x => ?_
  unfold wks
  rw [mem_upTo, List.mem_map]
  constructor
  · rintro ⟨⟨a, b⟩, c⟩
    have := (h x a (by omega)).mpr c
    exact ⟨x.toNat, List.mem_range.mpr (by omega), by omega⟩
  · rintro ⟨i, hi, rfl⟩
    rw [List.mem_range] at hi
    exact ⟨by omega, (h _ (by omega) (by omega)).mp (by omega)⟩
/-- an end in lowest terms -/
def EndG (x y e W top : Int) : Prop := EndF x y e W top ∧ Int.gcd x y = 1
theorem low2_spec2 {t u : Int} (hu : 0 < u) : ∃ x y g, low2 t u = .tuple [.int x, .int y] ∧ 0 < g ∧ x * g = t ∧ y * g = u ∧ 0 < y ∧ y ≤ u ∧ Int.gcd x y = 1 := by
  have g := gcd_bnd (t := t) hu
  have e1 : t / (Int.gcd t u : Int) * (Int.gcd t u : Int) = t := Int.ediv_mul_cancel (Int.gcd_dvd_left _ _)
  have e2 : u / (Int.gcd t u : Int) * (Int.gcd t u : Int) = u := Int.ediv_mul_cancel (Int.gcd_dvd_right _ _)
  refine ⟨_, _, _, rfl, g.1, e1, e2, ?_, ?_, Int.gcd_ediv_gcd_ediv_gcd (by omega)⟩
  · by_cases z : 0 < u / (Int.gcd t u : Int)
    · exact z
    · have := Int.mul_nonneg (show (0 : Int) ≤ -(u / (Int.gcd t u : Int)) by omega) (show 0 ≤ (Int.gcd t u : Int) by omega)
      grind
  · exact Int.ediv_le_self _ (by omega)
theorem str_go2 {w l p a c W : Int} {ps : List Int} {Q : PyData → Prop} {E : Str → Prop} (hh : hld w ps l p = some (a, c)) (F : Frm a c l p) (h1 : 0 ≤ W) (h2 : W ≤ 60)
    (q : ∀ x y z v, EndG x y p W (mL a l p W) → EndG z v (p + l) W (mR c l p W) → Q (.tuple [.tuple [.int x, .int y], .tuple [.int z, .int v]])) : strK w ps l p W Q E := by
  unfold strK
  rw [hh]
  show if lieH l p (some (a, c)) = true then _ else _
  refine ifT F.lie (if2 (fun z => ?_) (fun z => ?_))
  · have z : W = 0 := by simpa using z
    exact q p 1 (p + l) 1 ⟨⟨by decide, .inl ⟨z, rfl, rfl⟩⟩, Int.gcd_one_right _⟩ ⟨⟨by decide, .inl ⟨z, rfl, rfl⟩⟩, Int.gcd_one_right _⟩
  · have z : W ≠ 0 := by simpa using z
    obtain ⟨x, y, g, e1, e2, e3, e4, e5, e6, e7⟩ := low2_spec2 (t := mL a l p W) (u := 2 * W) (by omega)
    obtain ⟨x', y', g', f1, f2, f3, f4, f5, f6, f7⟩ := low2_spec2 (t := mR c l p W) (u := 2 * W) (by omega)
    rw [e1, f1]
    exact q x y x' y' ⟨⟨⟨e5, by omega⟩, .inr ⟨by omega, g, e2, e3, e4⟩⟩, e7⟩ ⟨⟨⟨f5, by omega⟩, .inr ⟨by omega, g', f2, f3, f4⟩⟩, f7⟩
/-- the very end -/
theorem endG_is {x y e W : Int} (h : EndG x y e W (2 * W * e)) : x = e ∧ y = 1 := by
  obtain ⟨⟨⟨y1, y2⟩, h⟩, hg⟩ := h
  rcases h with ⟨_, h1, h2⟩ | ⟨hW, g, g0, g1, g2⟩
  · exact ⟨h1, h2⟩
  · have e1 : x * g = (e * y) * g := by rw [g1, ← g2]; grind
    have e2 : x = e * y := Int.eq_of_mul_eq_mul_right (by omega) e1
    have d1 : y ∣ (Int.gcd x y : Int) := Int.dvd_coe_gcd ⟨e, by rw [e2]; grind⟩ (Int.dvd_refl y)
    rw [hg] at d1
    have : y ≤ 1 := Int.le_of_dvd (by decide) d1
    have y3 : y = 1 := by omega
    subst y3
    exact ⟨by omega, rfl⟩
theorem wlk_ends {w l p a c W : Int} {ps : List Int} (hh : hld w ps l p = some (a, c)) (F : Frm a c l p) (h : wlk w ps l p W = true) : mL a l p W = 2 * W * p ∧ mR c l p W = 2 * W * (p + l) := by
  obtain ⟨h1, h2⟩ := (wlk_iff hh F).mp h
  unfold mL mR
  constructor
  · split <;> omega
  · split <;> omega
theorem stn_mid {w l p a c W : Int} {ps : List Int} (hh : hld w ps l p = some (a, c)) (F : Frm a c l p) (hW : 0 ≤ W) : stn w ps l p W (2 * p + l) 2 = true := by
  rw [stn_iff hh F]
  have b1 : 0 ≤ (l + W) * (2 * p + l - 2 * a) := Int.mul_nonneg (by have := F.l0; omega) (by have := F.lo; omega)
  have b2 : 0 ≤ (l + W) * (2 * c - (2 * p + l)) := Int.mul_nonneg (by have := F.l0; omega) (by have := F.hi; omega)
  exact ⟨by grind, by grind⟩
theorem eqv_opt (o : Option Int) : PyData.eqv (optD o) (optD o) = true := by
  cases o with
  | none => rfl
  | some x => show (x == x) = true; simp
theorem shp_opt (o : Option Int) : shp 60 (optD o) = true := by cases o <;> rfl
theorem stn_zero {w l p a c t u : Int} {ps : List Int} (hh : hld w ps l p = some (a, c)) (F : Frm a c l p) (hu : 0 ≤ u) : stn w ps l p 0 t u = true := by
  rw [stn_iff hh F]
  have b1 : 0 ≤ (l * u) * (2 * p + l - 2 * a) := Int.mul_nonneg (Int.mul_nonneg F.l0 hu) (by have := F.lo; omega)
  have b2 : 0 ≤ (l * u) * (2 * c - (2 * p + l)) := Int.mul_nonneg (Int.mul_nonneg F.l0 hu) (by have := F.hi; omega)
  exact ⟨by grind, by grind⟩
theorem left_all {w l p a c W x y : Int} {ps : List Int} (hh : hld w ps l p = some (a, c)) (F : Frm a c l p) (hW : 0 ≤ W) (h : EndG x y p W (mL a l p W)) :
    (1 ≤ y ∧ y ≤ 120) ∧ (p * y ≤ x ∧ x ≤ (p + l) * y) ∧ stn w ps l p W x y = true ∧ (p * y < x → stn w ps l p W (999 * x - y) (999 * y) = false) := by
  obtain ⟨e, _⟩ := h
  have e0 := e
  obtain ⟨⟨y1, y2⟩, e⟩ := e
  have l0 := F.l0
  refine ⟨⟨by omega, y2⟩, ?_⟩
  rcases e with ⟨rfl, rfl, rfl⟩ | ⟨hW, g, g0, g1, g2⟩
  · exact ⟨⟨by omega, by omega⟩, stn_zero hh F (by omega), fun h => by omega⟩
  have d1 : 0 ≤ l * (2 * p + l - 2 * a) := Int.mul_nonneg l0 (by have := F.lo; omega)
  have d2 : 0 ≤ W * (p + l - a) := Int.mul_nonneg (Int.le_of_lt hW) (by have := F.ac; have := F.cp; omega)
  have d3 : 0 ≤ W * l := Int.mul_nonneg (Int.le_of_lt hW) l0
  have k2 := mL_ge2 a l p W
  have k4 : mL a l p W ≤ 2 * W * (p + l) := by
    rcases mL_or a l p W with o | o <;> rw [o] <;> grind
  refine ⟨⟨cancel_le g0 (by rw [g1]; have : p * y * g = 2 * W * p := by rw [Int.mul_assoc, g2]; grind
                            omega), cancel_le g0 (by rw [g1]; have : (p + l) * y * g = 2 * W * (p + l) := by rw [Int.mul_assoc, g2]; grind
                                                     omega)⟩, stn_left hh F hW e0, fun h => ?_⟩
  have h3 : 2 * W * p < mL a l p W := by
    have := Int.mul_lt_mul_of_pos_right h g0
    rw [g1, Int.mul_assoc, g2] at this
    grind
  have o : mL a l p W = 2 * a * (l + W) - l * (2 * p + l) := by
    rcases mL_or a l p W with o | o
    · exact o
    · omega
  have k : 2 * W * x = y * (2 * a * (l + W) - l * (2 * p + l)) := by rw [← o, ← g1, ← g2]; grind
  have pos : 0 < W * y := Int.mul_pos hW y1
  cases z : stn w ps l p W (999 * x - y) (999 * y) with
  | false => rfl
  | true =>
    have := (stn_iff hh F).mp z
    have t1 := this.1
    have : 2 * W * (999 * x - y) = 999 * (y * (2 * a * (l + W) - l * (2 * p + l))) - 2 * (W * y) := by rw [← k]; grind
    rw [this] at t1
    grind
theorem right_all {w l p a c W x y : Int} {ps : List Int} (hh : hld w ps l p = some (a, c)) (F : Frm a c l p) (hW : 0 ≤ W) (h : EndG x y (p + l) W (mR c l p W)) :
    (1 ≤ y ∧ y ≤ 120) ∧ (p * y ≤ x ∧ x ≤ (p + l) * y) ∧ stn w ps l p W x y = true ∧ (x < (p + l) * y → stn w ps l p W (999 * x + y) (999 * y) = false) := by
  obtain ⟨e, _⟩ := h
  obtain ⟨⟨y1, y2⟩, e⟩ := e
  have l0 := F.l0
  refine ⟨⟨by omega, y2⟩, ?_⟩
  rcases e with ⟨rfl, rfl, rfl⟩ | ⟨hW, g, g0, g1, g2⟩
  · exact ⟨⟨by omega, by omega⟩, stn_zero hh F (by omega), fun h => by omega⟩
  have d1 : 0 ≤ l * (2 * c - (2 * p + l)) := Int.mul_nonneg l0 (by have := F.hi; omega)
  have d2 : 0 ≤ W * (c - p) := Int.mul_nonneg (Int.le_of_lt hW) (by have := F.ac; have := F.pa; omega)
  have d3 : 0 ≤ W * l := Int.mul_nonneg (Int.le_of_lt hW) l0
  have d4 : 0 ≤ (c - a) * (l + W) := Int.mul_nonneg (by have := F.ac; omega) (by omega)
  have d5 : 0 ≤ l * (2 * p + l - 2 * a) := Int.mul_nonneg l0 (by have := F.lo; omega)
  have d6 : 0 ≤ W * (p + l - a) := Int.mul_nonneg (Int.le_of_lt hW) (by have := F.ac; have := F.cp; omega)
  have k1 := mR_le1 c l p W
  have k2 := mR_le2 c l p W
  have k3 : 2 * a * (l + W) - l * (2 * p + l) ≤ mR c l p W := by rcases mR_or c l p W with o | o <;> rw [o] <;> grind
  have k4 : 2 * W * p ≤ mR c l p W := by rcases mR_or c l p W with o | o <;> rw [o] <;> grind
  have xW : 2 * W * x = y * mR c l p W := by rw [← g1, ← g2]; grind
  refine ⟨⟨cancel_le g0 (by rw [g1]; have : p * y * g = 2 * W * p := by rw [Int.mul_assoc, g2]; grind
                            omega), cancel_le g0 (by rw [g1]; have : (p + l) * y * g = 2 * W * (p + l) := by rw [Int.mul_assoc, g2]; grind
                                                     omega)⟩, ?_, fun h => ?_⟩
  · rw [stn_iff hh F, xW]
    have m1 := Int.mul_le_mul_of_nonneg_left k3 (show 0 ≤ y by omega)
    have m2 := Int.mul_le_mul_of_nonneg_left k1 (show 0 ≤ y by omega)
    exact ⟨by grind, by grind⟩
  have h3 : mR c l p W < 2 * W * (p + l) := by
    have := Int.mul_lt_mul_of_pos_right h g0
    rw [g1, Int.mul_assoc, g2] at this
    grind
  have o : mR c l p W = 2 * c * (l + W) - l * (2 * p + l) := by
    rcases mR_or c l p W with o | o
    · exact o
    · omega
  rw [o] at xW
  have pos : 0 < W * y := Int.mul_pos hW y1
  cases z : stn w ps l p W (999 * x + y) (999 * y) with
  | false => rfl
  | true =>
    have := (stn_iff hh F).mp z
    have t1 := this.2
    have : 2 * W * (999 * x + y) = 999 * (y * (2 * c * (l + W) - l * (2 * p + l))) + 2 * (W * y) := by rw [← xW]; grind
    rw [this] at t1
    grind
theorem both_ends {l p a c W x y x' y' : Int} (F : Frm a c l p) (hW : 0 ≤ W) (h : EndG x y p W (mL a l p W)) (h' : EndG x' y' (p + l) W (mR c l p W)) : x * y' ≤ x' * y := by
  obtain ⟨⟨⟨y1, _⟩, e⟩, _⟩ := h
  obtain ⟨⟨⟨y1', _⟩, e'⟩, _⟩ := h'
  have l0 := F.l0
  rcases e with ⟨z, rfl, rfl⟩ | ⟨hW, g, g0, g1, g2⟩
  · rcases e' with ⟨_, rfl, rfl⟩ | ⟨hW', _⟩
    · omega
    · omega
  rcases e' with ⟨z, _⟩ | ⟨_, g', g0', g1', g2'⟩
  · omega
  have d1 : 0 ≤ l * (2 * c - (2 * p + l)) := Int.mul_nonneg l0 (by have := F.hi; omega)
  have d2 : 0 ≤ W * (c - p) := Int.mul_nonneg (Int.le_of_lt hW) (by have := F.ac; have := F.pa; omega)
  have d3 : 0 ≤ W * l := Int.mul_nonneg (Int.le_of_lt hW) l0
  have d4 : 0 ≤ (c - a) * (l + W) := Int.mul_nonneg (by have := F.ac; omega) (by omega)
  have d5 : 0 ≤ l * (2 * p + l - 2 * a) := Int.mul_nonneg l0 (by have := F.lo; omega)
  have d6 : 0 ≤ W * (p + l - a) := Int.mul_nonneg (Int.le_of_lt hW) (by have := F.ac; have := F.cp; omega)
  have m : mL a l p W ≤ mR c l p W := by
    rcases mL_or a l p W with o | o <;> rcases mR_or c l p W with o' | o' <;> rw [o, o'] <;> grind
  have n1 : (x * y') * (g * g') = mL a l p W * (2 * W) := by rw [← g1, ← g2']; grind
  have n2 : (x' * y) * (g * g') = mR c l p W * (2 * W) := by rw [← g1', ← g2]; grind
  refine cancel_le (Int.mul_pos g0 g0') ?_
  rw [n1, n2]
  exact Int.mul_le_mul_of_nonneg_right m (by omega)
theorem endG_zero {x y e top : Int} (h : EndG x y e 0 top) : x = e ∧ y = 1 := by
  obtain ⟨⟨_, h⟩, _⟩ := h
  rcases h with ⟨_, h1, h2⟩ | ⟨h, _⟩
  · exact ⟨h1, h2⟩
  · omega
theorem no_factor {x y f : Int} (hg : Int.gcd x y = 1) (hf : 2 ≤ f) : (decide (x % f = 0) && decide (y % f = 0)) = false := by
  cases q : (decide (x % f = 0) && decide (y % f = 0)) with
  | false => rfl
  | true =>
    rw [Bool.and_eq_true, decide_eq_true_eq, decide_eq_true_eq] at q
    have d := Int.dvd_coe_gcd (Int.dvd_of_emod_eq_zero q.1) (Int.dvd_of_emod_eq_zero q.2)
    rw [hg] at d
    have : f ≤ 1 := Int.le_of_dvd (by decide) d
    omega
/-! ### the law's own rows -/
def lv2D (c : List Int × List Int) : PyData := .tuple [rowD c.1, rowD c.2]
def nxt (c : List Int × List Int) : List (List Int × List Int) := (lens c.2).map fun x => (c.1 ++ [x], c.2.erase x)
def lvl (ns : List Int) : Nat → List (List Int × List Int)
  | 0 => [([], ns)]
  | k + 1 => (lvl ns k).flatMap nxt
def fnd (ns : List Int) : Nat → List (List Int)
  | 0 => []
  | k + 1 => fnd ns k ++ (lvl ns (k + 1)).map (·.1)
def rowsL (ns : List Int) : List (List Int) := fnd ns 4
theorem lvl_ok {ns : List Int} (h1 : ns.Pairwise (· ≤ ·)) (h2 : smallP ns) : ∀ (k : Nat) (c : List Int × List Int), c ∈ lvl ns k → c.2.Pairwise (· ≤ ·) ∧ smallP c.2 ∧ c.1.length = k ∧ c.2.length + k = ns.length
  | 0, c, h => by
    have : c = ([], ns) := by simpa [lvl] using h
    subst this
    exact ⟨h1, h2, rfl, rfl⟩
  | k + 1, c, h => by
    obtain ⟨d, hd, hc⟩ := List.mem_flatMap.mp (show c ∈ (lvl ns k).flatMap nxt from h)
    obtain ⟨a1, a2, a3, a4⟩ := lvl_ok h1 h2 k d hd
    obtain ⟨x, hx, rfl⟩ := List.mem_map.mp hc
    have hm := mem_lens hx
    refine ⟨a1.sublist List.erase_sublist, smallP_erase a2 x, by simp [a3], ?_⟩
    show (d.2.erase x).length + (k + 1) = ns.length
    rw [List.length_erase_of_mem hm]
    have := List.length_pos_of_mem hm
    omega
theorem lvl_len (ns : List Int) : ∀ k, (lvl ns k).length ≤ 8 ^ k
  | 0 => Nat.le_refl _
  | k + 1 => by
    have := flat_len nxt 8 (lvl ns k) fun c _ => by unfold nxt; rw [List.length_map]; exact lens_len _
    have h2 := lvl_len ns k
    have h3 := Nat.mul_le_mul_right 8 h2
    rw [Nat.pow_succ]
    exact Nat.le_trans this h3
theorem lvl_five {ns : List Int} (h1 : ns.Pairwise (· ≤ ·)) (h2 : smallP ns) (h : ns.length ≤ 4) {k : Nat} (hk : 5 ≤ k) : lvl ns k = [] := by
  cases e : lvl ns k with
  | nil => rfl
  | cons c t =>
    have := (lvl_ok h1 h2 k c (by rw [e]; exact List.mem_cons_self)).2.2.2
    omega
theorem lvl_stop {ns : List Int} {k : Nat} (h : lvl ns k = []) : ∀ j, lvl ns (k + j) = []
  | 0 => h
  | j + 1 => by show (lvl ns (k + j)).flatMap nxt = []; rw [lvl_stop h j]; rfl
theorem fnd_stop {ns : List Int} {k : Nat} (h : lvl ns k = []) : ∀ j, fnd ns (k + j) = fnd ns k
  | 0 => rfl
  | j + 1 => by show fnd ns (k + j) ++ (lvl ns (k + j + 1)).map (·.1) = _; rw [fnd_stop h j, show lvl ns (k + j + 1) = [] from lvl_stop h (j + 1)]; simp
theorem fnd_len (ns : List Int) : ∀ k, k ≤ 5 → (fnd ns k).length ≤ 8 ^ 6
  | 0, _ => Nat.zero_le _
  | k + 1, h => by
    have key : ∀ k, k ≤ 5 → (fnd ns k).length ≤ k * 8 ^ 5 := by
      intro k
      induction k with
      | zero => intro _; exact Nat.zero_le _
      | succ k ih =>
        intro hk
        show (fnd ns k ++ (lvl ns (k + 1)).map (·.1)).length ≤ _
        rw [List.length_append, List.length_map]
        have h1 := ih (by omega)
        have h2 := lvl_len ns (k + 1)
        have h3 : 8 ^ (k + 1) ≤ 8 ^ 5 := Nat.pow_le_pow_right (by decide) hk
        rw [Nat.add_mul]; omega
    have := key (k + 1) h
    have h2 : (k + 1) * 8 ^ 5 ≤ 8 * 8 ^ 5 := Nat.mul_le_mul_right _ (by omega)
    have : 8 * 8 ^ 5 = 8 ^ 6 := by decide
    omega
/-- first ones among the first j -/
def fo (rest : List Int) : Nat → List Int
  | 0 => []
  | j + 1 => fo rest j ++ (match rest[j]? with
    | some x => if j = 0 ∨ rest[j - 1]? ≠ some x then [x] else []
    | none => [])
theorem fo_props {rest : List Int} (h : rest.Pairwise (· ≤ ·)) : ∀ j, j ≤ rest.length → (fo rest j).Pairwise (· < ·) ∧ (∀ x ∈ fo rest j, ∃ i, i < j ∧ rest[i]? = some x) ∧ ∀ i, i < j → ∀ x, rest[i]? = some x → x ∈ fo rest j
  | 0, _ => ⟨List.Pairwise.nil, (fun x hx => nomatch hx), fun i hi => absurd hi (Nat.not_lt_zero _)⟩
  | j + 1, hj => by
    obtain ⟨a1, a2, a3⟩ := fo_props h j (by omega)
    have le : ∀ {i k : Nat} {x y : Int}, i ≤ k → rest[i]? = some x → rest[k]? = some y → x ≤ y := fun {i k x y} hik hx hy => by
      rcases Nat.lt_or_eq_of_le hik with hlt | rfl
      · obtain ⟨i1, rfl⟩ := List.getElem?_eq_some_iff.mp hx
        obtain ⟨k1, rfl⟩ := List.getElem?_eq_some_iff.mp hy
        exact List.pairwise_iff_getElem.mp h i k i1 k1 hlt
      · rw [hx] at hy; cases hy; exact Int.le_refl _
    obtain ⟨x, hx⟩ : ∃ x, rest[j]? = some x := ⟨rest[j]'(by omega), by simp⟩
    unfold fo
    rw [hx]
    by_cases hc : j = 0 ∨ rest[j - 1]? ≠ some x
    · simp only [if_pos hc]
      refine ⟨asc_snoc a1 fun y hy => ?_, fun y hy => ?_, fun i hi y hy => ?_⟩
      · obtain ⟨i, i1, i2⟩ := a2 y hy
        rcases hc with rfl | hc
        · omega
        · obtain ⟨z, hz⟩ : ∃ z, rest[j - 1]? = some z := ⟨rest[j - 1]'(by omega), by simp⟩
          have l1 := le (show i ≤ j - 1 by omega) i2 hz
          have l2 := le (show j - 1 ≤ j by omega) hz hx
          have : z ≠ x := fun e => hc (by rw [hz, e])
          omega
      · rcases List.mem_append.mp hy with hy | hy
        · obtain ⟨i, i1, i2⟩ := a2 y hy; exact ⟨i, by omega, i2⟩
        · have : y = x := by simpa using hy
          subst this; exact ⟨j, by omega, hx⟩
      · by_cases hij : i = j
        · subst hij; rw [hx] at hy; cases hy; exact List.mem_append_right _ (by simp)
        · exact List.mem_append_left _ (a3 i (by omega) y hy)
    · simp only [if_neg hc, List.append_nil]
      refine ⟨a1, fun y hy => ?_, fun i hi y hy => ?_⟩
      · obtain ⟨i, i1, i2⟩ := a2 y hy; exact ⟨i, by omega, i2⟩
      · by_cases hij : i = j
        · subst hij
          have h0 : i ≠ 0 := fun z => hc (.inl z)
          have h1 : rest[i - 1]? = some x := by
            by_cases q : rest[i - 1]? = some x
            · exact q
            · exact absurd (.inr q) hc
          rw [hx] at hy; cases hy
          exact a3 (i - 1) (by omega) x h1
        · exact a3 i (by omega) y hy
theorem fo_full {rest : List Int} (h : rest.Pairwise (· ≤ ·)) (hs : smallP rest) : fo rest rest.length = lens rest := by
  obtain ⟨a1, a2, a3⟩ := fo_props h rest.length (Nat.le_refl _)
  refine lens_eq hs a1 fun x => ⟨fun hx => ?_, fun hx => ?_⟩
  · obtain ⟨i, _, hi⟩ := a2 x hx; exact List.mem_of_getElem? hi
  · obtain ⟨i, hi, e⟩ := List.mem_iff_getElem.mp hx
    exact a3 i hi x (by rw [← e]; simp)
/-- the first of the equal ones goes -/
theorem erase_at {rest : List Int} (h : rest.Pairwise (· ≤ ·)) {j : Nat} {x : Int} (hx : rest[j]? = some x) (hc : j = 0 ∨ rest[j - 1]? ≠ some x) : rest.take j ++ rest.drop (j + 1) = rest.erase x := by
  obtain ⟨i, h1, h2, h3, h4⟩ := erase_cut (List.mem_of_getElem? hx)
  have hj := (List.getElem?_eq_some_iff.mp hx).1
  have e : i = j := by
    rcases Nat.lt_trichotomy i j with hlt | e | hlt
    · exfalso
      rcases hc with rfl | hc
      · omega
      · obtain ⟨z, hz⟩ : ∃ z, rest[j - 1]? = some z := ⟨rest[j - 1]'(by omega), by simp⟩
        have le : ∀ {i k : Nat} {x y : Int}, i ≤ k → rest[i]? = some x → rest[k]? = some y → x ≤ y := fun {i k x y} hik hx hy => by
          rcases Nat.lt_or_eq_of_le hik with hlt | rfl
          · obtain ⟨i1, rfl⟩ := List.getElem?_eq_some_iff.mp hx
            obtain ⟨k1, rfl⟩ := List.getElem?_eq_some_iff.mp hy
            exact List.pairwise_iff_getElem.mp h i k i1 k1 hlt
          · rw [hx] at hy; cases hy; exact Int.le_refl _
        have l1 := le (show i ≤ j - 1 by omega) h1 hz
        have l2 := le (show j - 1 ≤ j by omega) hz hx
        exact hc (by rw [hz]; congr 1; omega)
    · exact e
    · exact absurd hx (h2 j hlt)
  rw [← e]; exact h4
theorem cut_lo {ns : List Int} {j : Nat} (h : j ≤ ns.length) : cutD (ns.map PyData.int) none (some (j : Int)) = (ns.take j).map PyData.int := by
  unfold cutD
  rw [HT.sIx_none, HT.sIx_nat, List.length_map, Nat.min_eq_left (by omega), Nat.sub_zero, List.drop_zero, List.map_take]
theorem cut_hi {ns : List Int} {j : Nat} (h : j < ns.length) : cutD (ns.map PyData.int) (some ((j : Int) + 1)) none = (ns.drop (j + 1)).map PyData.int := by
  unfold cutD
  rw [HT.sIx_none, show ((j : Int) + 1) = ((j + 1 : Nat) : Int) by omega, HT.sIx_nat, List.length_map, Nat.min_eq_left (by omega), List.map_drop, List.take_of_length_le (by rw [List.length_drop, List.length_map]; exact Nat.le_refl _)]
theorem rows_inner {row rest : List Int} {a1 a2 a3 v6 v7 : Sl} {acc : List PyData} {De : DEnds} (h : rest.Pairwise (· ≤ ·)) (hs : smallP rest) (hr : row.length ≤ 10) (hl : rest.length ≤ 10) (ha : acc.length + 10 ≤ 99999) (k : ∀ v6 v7, De.nx [a1, a2, a3, .res 0, .da (rowD row), .da (rowD rest), v6, v7] [.lst (acc ++ (nxt (row, rest)).map lv2D)]) :
    dFor (dIEnum (dVar 5)) (gTup 2 (gCons (gName 6) (gCons (gName 7) (gNil))))
      (dIfS (dOrT (dB (dBin oEq (dVar 6) (dC (.int 0)))) (dB (dBin oNe (dBin oIx (dVar 5) (dBin oSub (dVar 6) (dC (.int 1)))) (dVar 7)))) (dAppend 3 (dTup (dCons (dBin oPlus (dVar 4) (dTup (dCons (dVar 7) (dNil)))) (dCons (dBin oPlus (dSl (dVar 5) (dNo) (dSo (dVar 6))) (dSl (dVar 5) (dSo (dBin oPlus (dVar 6) (dC (.int 1)))) (dNo))) (dNil))))) (dNext))
      [a1, a2, a3, .res 0, .da (rowD row), .da (rowD rest), v6, v7] [.lst acc] De := by
  show loopD _ _ (enumD (rest.map PyData.int)) _ _ _
  refine loopD_ind (fun i ρ τ => ∃ v6 v7, ρ = [a1, a2, a3, .res 0, .da (rowD row), .da (rowD rest), v6, v7] ∧ τ = [.lst (acc ++ (fo rest i).map fun x => lv2D (row ++ [x], rest.erase x))]) _ ⟨_, _, rfl, by simp [fo]⟩ ?_ ?_
  · rintro i d ρ τ hi ⟨v6, v7, rfl, rfl⟩ K hK
    obtain ⟨x0, hx0, rfl⟩ := enumD_get hi
    rw [List.getElem?_map] at hx0
    obtain ⟨x, hx, rfl⟩ := Option.map_eq_some_iff.mp hx0
    have hil := (List.getElem?_eq_some_iff.mp hx).1
    have fl : (fo rest i).length ≤ 10 := by
      have : ∀ i, (fo rest i).length ≤ i := by
        intro i
        induction i with
        | zero => exact Nat.le_refl _
        | succ i ih =>
          unfold fo
          rw [List.length_append]
          split
          · split <;> simp <;> omega
          · simp; omega
      have := this i
      omega
    have app : (i = 0 ∨ rest[i - 1]? ≠ some x) → dAppend 3 (dTup (dCons (dBin oPlus (dVar 4) (dTup (dCons (dVar 7) (dNil)))) (dCons (dBin oPlus (dSl (dVar 5) (dNo) (dSo (dVar 6))) (dSl (dVar 5) (dSo (dBin oPlus (dVar 6) (dC (.int 1)))) (dNo))) (dNil)))) [a1, a2, a3, .res 0, .da (rowD row), .da (rowD rest), .da (.int (i : Int)), .da (.int x)] [.lst (acc ++ (fo rest i).map fun x => lv2D (row ++ [x], rest.erase x))] { De with nx := K } := fun hc => by
      refine append_go (k := 0) (d := lv2D (row ++ [x], rest.erase x)) rfl rfl (fun Q q => ?_) (by rw [List.length_append, List.length_map]; omega) (hK _ _ ⟨_, _, rfl, ?_⟩)
      · refine ⟨by show (row.map PyData.int).length + 1 ≤ 1000000; rw [List.length_map]; omega, ?_⟩
        show (cutD (rest.map PyData.int) none (some (i : Int))).length + (cutD (rest.map PyData.int) (some ((i : Int) + 1)) none).length ≤ 1000000 ∧ Q (.da (.tuple [.tuple (row.map PyData.int ++ [.int x]), .tuple (cutD (rest.map PyData.int) none (some (i : Int)) ++ cutD (rest.map PyData.int) (some ((i : Int) + 1)) none)])) _
        rw [cut_lo (by omega), cut_hi hil, ← List.map_append, erase_at h hx hc]
        refine ⟨by rw [List.length_map, List.length_map, List.length_take, List.length_drop]; omega, ?_⟩
        have e1 : row.map PyData.int ++ [PyData.int x] = (row ++ [x]).map PyData.int := by simp
        rw [e1]; exact q
      · show [RS.lst (acc ++ ((fo rest i).map fun x => lv2D (row ++ [x], rest.erase x)) ++ [lv2D (row ++ [x], rest.erase x)])] = _
        have : fo rest (i + 1) = fo rest i ++ [x] := by
          conv => lhs; unfold fo
          rw [hx]; simp only [if_pos hc]
        rw [this, List.map_append, List.append_assoc]; rfl
    refine ⟨rfl, ⟨rfl, rfl⟩, ?_⟩
    show if ((i : Int) == 0) = true then _ else _
    by_cases h0 : i = 0
    · subst h0
      exact ifT rfl (app (.inl rfl))
    · refine ifF (by rw [beq_eq_false_iff_ne]; omega) ?_
      obtain ⟨z, hz⟩ : ∃ z, rest[i - 1]? = some z := ⟨rest[i - 1]'(by omega), by simp⟩
      have hat : atI (rest.map PyData.int) ((i : Int) - 1) = some (.int z) := by
        have := atI_ints (ns := rest) hz
        rwa [show (((i - 1 : Nat) : Int)) = (i : Int) - 1 by omega] at this
      show (match atI (rest.map PyData.int) ((i : Int) - 1) with
        | some d => _
        | none => False)
      rw [hat]
      refine ⟨⟨rfl, rfl⟩, ?_⟩
      show if (!(z == x)) = true then _ else _
      by_cases e : z = x
      · subst e
        refine ifF (by simp) (hK _ _ ⟨_, _, rfl, ?_⟩)
        have : fo rest (i + 1) = fo rest i := by
          conv => lhs; unfold fo
          rw [hx]; simp [h0, hz]
        rw [this]
      · exact ifT (by rw [beq_eq_false_iff_ne.mpr e]; rfl) (app (.inr (by rw [hz]; simpa using e)))
  · rintro ρ τ ⟨v6, v7, rfl, rfl⟩
    rw [enumD_len, List.length_map, fo_full h hs]
    have : (nxt (row, rest)).map lv2D = (lens rest).map fun x => lv2D (row ++ [x], rest.erase x) := by unfold nxt; rw [List.map_map]; rfl
    rw [← this]
    exact k _ _
def p__law_rows : Pf := fun ds Q _ => match ds with
  | [v] => ∃ ns, v = pD ns ∧ okP ns = true ∧ Q (.list ((rowsL ns).map rowD))
  | _ => False
def N__law_rows : List Str := [Str.ofString "planks", Str.ofString "level", Str.ofString "found", Str.ofString "later", Str.ofString "row", Str.ofString "rest", Str.ofString "at", Str.ofString "length"]
def body__law_rows : TDS := dSeq (dPar 1 2 (dCons (dLst (dCons (dTup (dCons (dTup (dNil)) (dCons (dVar 0) (dNil)))) (dNil))) (dCons (dLst (dNil)) (dNil))))
  (dSeq (dWhile (dB (dBin oNe (dVar 1) (dLst (dNil)))) (dSeq (dNew 3)
  (dSeq (dFor (dISeq (dVar 1)) (gTup 2 (gCons (gName 4) (gCons (gName 5) (gNil))))
  (dFor (dIEnum (dVar 5)) (gTup 2 (gCons (gName 6) (gCons (gName 7) (gNil))))
  (dIfS (dOrT (dB (dBin oEq (dVar 6) (dC (.int 0)))) (dB (dBin oNe (dBin oIx (dVar 5) (dBin oSub (dVar 6) (dC (.int 1)))) (dVar 7)))) (dAppend 3 (dTup (dCons (dBin oPlus (dVar 4) (dTup (dCons (dVar 7) (dNil)))) (dCons (dBin oPlus (dSl (dVar 5) (dNo) (dSo (dVar 6))) (dSl (dVar 5) (dSo (dBin oPlus (dVar 6) (dC (.int 1)))) (dNo))) (dNil))))) (dNext))))
  (dPop 0 (dSeq (dSet 2 (dBin oPlus (dVar 2) (dComp [4, 5] (dISeq (dVar 3)) (gTup 2 (gCons (gName 4) (gCons (gName 5) (gNil)))) (dYes) (dVar 4))))
  (dSet 1 (dVar 3)))))))
  (dRet (dVar 2)))

theorem shpA_lv2 (n : Nat) : ∀ cs : List (List Int × List Int), shpA (n + 2) (cs.map lv2D) = true
  | [] => rfl
  | c :: cs => by
    show (shp (n + 2) (lv2D c) && shpA (n + 2) (cs.map lv2D)) = true
    rw [shpA_lv2 n cs, Bool.and_true]
    show (shp (n + 1) (rowD c.1) && (shp (n + 1) (rowD c.2) && true)) = true
    rw [show shp (n + 1) (rowD c.1) = true from shp_intsT n c.1, show shp (n + 1) (rowD c.2) = true from shp_intsT n c.2]
    rfl
theorem wp__law_rows : ∀ ds Qa Er, p__law_rows ds Qa Er → body__law_rows (startD N__law_rows (ds.map Sl.da)) [] { nx := fun _ _ => Qa .none, rt := fun d _ => Qa d, er := fun n _ => Er n } := by
  intro ds Qa Er h
  match ds, h with
  | [v], ⟨ns, ev, okp, h⟩ =>
    subst ev
    obtain ⟨o1, o2, o3, o4⟩ := okP_spec.mp okp
    have o4 := ascLe_pairwise.mp o4
    refine ⟨6, ?_⟩
    have key : ∀ (j k : Nat) (v3 v4 v5 v6 v7 : Sl), k + j = 6 → 1 ≤ j →
      loopW (dB (dBin oNe (dVar 1) (dLst (dNil)))) (dSeq (dNew 3)
        (dSeq (dFor (dISeq (dVar 1)) (gTup 2 (gCons (gName 4) (gCons (gName 5) (gNil))))
        (dFor (dIEnum (dVar 5)) (gTup 2 (gCons (gName 6) (gCons (gName 7) (gNil))))
        (dIfS (dOrT (dB (dBin oEq (dVar 6) (dC (.int 0)))) (dB (dBin oNe (dBin oIx (dVar 5) (dBin oSub (dVar 6) (dC (.int 1)))) (dVar 7)))) (dAppend 3 (dTup (dCons (dBin oPlus (dVar 4) (dTup (dCons (dVar 7) (dNil)))) (dCons (dBin oPlus (dSl (dVar 5) (dNo) (dSo (dVar 6))) (dSl (dVar 5) (dSo (dBin oPlus (dVar 6) (dC (.int 1)))) (dNo))) (dNil))))) (dNext))))
        (dPop 0 (dSeq (dSet 2 (dBin oPlus (dVar 2) (dComp [4, 5] (dISeq (dVar 3)) (gTup 2 (gCons (gName 4) (gCons (gName 5) (gNil)))) (dYes) (dVar 4))))
        (dSet 1 (dVar 3))))))
        j [.da (pD ns), .da (.list ((lvl ns k).map lv2D)), .da (.list ((fnd ns k).map rowD)), v3, v4, v5, v6, v7] [] { nx := fun ρ' τ' => dRet (dVar 2) ρ' τ' { nx := fun _ _ => Qa .none, rt := fun d _ => Qa d, er := fun n _ => Er n }, rt := fun d _ => Qa d, er := fun n _ => Er n } := by
      intro j
      induction j with
      | zero => intro k v3 v4 v5 v6 v7 e1 e2; omega
      | succ j ih =>
        intro k v3 v4 v5 v6 v7 e1 e2
        refine ⟨⟨shpA_lv2 57 _, rfl⟩, ?_⟩
        show if (!PyData.eqv (.list ((lvl ns k).map lv2D)) (.list [])) = true then _ else _
        rw [eqv_nilL]
        cases z : lvl ns k with
        | nil =>
          refine ifF rfl ?_
          have : fnd ns k = rowsL ns := by
            unfold rowsL
            by_cases h5 : k = 5
            · subst h5
              show fnd ns 4 ++ (lvl ns 5).map (·.1) = _
              rw [z]; simp
            · have := fnd_stop z (4 - k)
              rw [show k + (4 - k) = 4 by omega] at this
              exact this.symm
          show Qa (.list ((fnd ns k).map rowD))
          rw [this]; exact h
        | cons c0 t0 =>
          refine ifT rfl ?_
          rw [← z]
          have hk : k ≤ 4 := by
            have := (lvl_ok o4 o3 k c0 (by rw [z]; exact List.mem_cons_self)).2.2.2
            omega
          have hln := lvl_len ns (k + 1)
          have h8 : 8 ^ (k + 1) ≤ 8 ^ 5 := Nat.pow_le_pow_right (by decide) (by omega)
          have h85 : 8 ^ 5 = 32768 := by decide
          have hpre : ∀ i, (((lvl ns k).take i).flatMap nxt).length ≤ (lvl ns (k + 1)).length := fun i => by
            show _ ≤ ((lvl ns k).flatMap nxt).length
            conv => rhs; rw [← List.take_append_drop i (lvl ns k), List.flatMap_append, List.length_append]
            omega
          show loopD _ _ ((lvl ns k).map lv2D) _ _ _
          refine loopD_ind (fun i ρ τ => ∃ v4 v5 v6 v7, ρ = [.da (pD ns), .da (.list ((lvl ns k).map lv2D)), .da (.list ((fnd ns k).map rowD)), .res 0, v4, v5, v6, v7] ∧ τ = [.lst ((((lvl ns k).take i).flatMap nxt).map lv2D)]) _ ⟨_, _, _, _, rfl, rfl⟩ ?_ ?_
          · rintro i d ρ τ hi ⟨v4, v5, v6, v7, rfl, rfl⟩ K hK
            rw [List.getElem?_map] at hi
            obtain ⟨c, hc, rfl⟩ := Option.map_eq_some_iff.mp hi
            obtain ⟨a1, a2, a3, a4⟩ := lvl_ok o4 o3 k c (List.mem_of_getElem? hc)
            refine ⟨rfl, ?_⟩
            have hp := hpre i
            refine rows_inner (row := c.1) (rest := c.2) a1 a2 (by omega) (by omega) (by rw [List.length_map]; omega) fun w6 w7 => hK _ _ ⟨_, _, _, _, rfl, ?_⟩
            rw [List.take_add_one, hc, List.flatMap_append, List.map_append]
            simp
          · rintro ρ τ ⟨v4, v5, v6, v7, rfl, rfl⟩
            rw [List.length_map, List.take_length]
            refine ⟨[], _, rfl, Nat.le_refl _, by rw [List.length_map]; show (lvl ns (k + 1)).length ≤ _; omega, ?_⟩
            show compD _ _ _ _ _ _ ((lvl ns (k + 1)).map lv2D) _ []
            refine compD_map (fun d => match d with
              | .tuple (r :: _) => r
              | d => d) _ (fun d hd A hA => ?_) ?_
            · obtain ⟨c, hc, rfl⟩ := List.mem_map.mp hd
              exact ⟨rfl, hA⟩
            · have e3 : ((lvl ns (k + 1)).map lv2D).map (fun d => match d with
                | .tuple (r :: _) => r
                | d => d) = ((lvl ns (k + 1)).map (·.1)).map rowD := by
                rw [List.map_map, List.map_map]; rfl
              rw [e3]
              have hf := fnd_len ns k (by omega)
              have h86 : 8 ^ 6 = 262144 := by decide
              refine ⟨by rw [List.length_map, List.length_map, List.length_map]; omega, ?_⟩
              rw [← List.map_append]
              exact ih (k + 1) _ _ _ _ _ (by omega) (by omega)
    exact key 6 0 _ _ _ _ _ rfl (by decide)
theorem len__law_rows : ∀ ds Qa Er, p__law_rows ds Qa Er → ds.length = 1 := fun ds Qa Er h => by
  match ds, h with
  | [v], h => rfl
/-- the rest of a crossing: each plank is walked, and between them the places are over the brook -/
def goR (w : Int) (ps : List Int) (W : Int) : Int → List Int → Bool
  | p, [] => decide (w ≤ p)
  | p, l :: r => wlk w ps l p W && ((r.isEmpty || (decide (0 < p + l) && decide (p + l < w))) && goR w ps W (p + l) r)
def p__law_crosses : Pf := fun ds Q _ => match ds with
  | [b, .int W, .int s, v] => ∃ w ps r, b = bD w ps ∧ v = rowD r ∧ okB w ps = true ∧ smallP r ∧ r.length ≤ 4 ∧ (0 ≤ W ∧ W ≤ 60) ∧ (-8 ≤ s ∧ s ≤ 0) ∧ Q (.bool (goR w ps W s r))
  | _ => False
def N__law_crosses : List Str := [Str.ofString "brook", Str.ofString "weight", Str.ofString "start", Str.ofString "row", Str.ofString "place", Str.ofString "at", Str.ofString "length"]
def body__law_crosses : TDS := dSeq (dSet 4 (dVar 2))
  (dSeq (dFor (dIEnum (dVar 3)) (gTup 2 (gCons (gName 5) (gCons (gName 6) (gNil))))
  (dSeq (dIfS (dNotT (dB (dCallPJ p__law_walks (dCons (dVar 0) (dCons (dVar 6) (dCons (dVar 4) (dCons (dVar 1) (dNil)))))))) (dRet (dC (.bool false))) (dNext))
  (dSeq (dSet 4 (dBin oPlus (dVar 4) (dVar 6)))
  (dIfS (dAndT (dB (dBin oLt (dBin oPlus (dVar 5) (dC (.int 1))) (dCB oLen (dCons (dVar 3) (dNil))))) (dNotT (dB (dChain oLt oLt (dC (.int 0)) (dVar 4) (dBin oIx (dVar 0) (dC (.int 0))))))) (dRet (dC (.bool false))) (dNext)))))
  (dRet (dAnd (dBin oLe (dVar 2) (dC (.int 0))) (dBin oGe (dVar 4) (dBin oIx (dVar 0) (dC (.int 0)))))))

theorem wp__law_crosses : ∀ ds Qa Er, p__law_crosses ds Qa Er → body__law_crosses (startD N__law_crosses (ds.map Sl.da)) [] { nx := fun _ _ => Qa .none, rt := fun d _ => Qa d, er := fun n _ => Er n } := by
  intro ds Qa Er h
  match ds, h with
  | [b, .int W, .int s, v], ⟨w, ps, r, eb, ev, ok, hs, hn, ⟨W1, W2⟩, ⟨s1, s2⟩, h⟩ =>
    subst eb ev
    show loopD _ _ (enumD (r.map PyData.int)) _ _ _
    refine loopD_ind (fun i ρ τ => ∃ q v5 v6, ρ = [.da (bD w ps), .da (.int W), .da (.int s), .da (rowD r), .da (.int q), v5, v6] ∧ τ = [] ∧ goR w ps W s r = goR w ps W q (r.drop i) ∧ (-8 ≤ q ∧ q ≤ 8 * (i : Int))) _ ⟨s, _, _, rfl, rfl, by rw [List.drop_zero], s1, by omega⟩ ?_ ?_
    · rintro i d ρ τ hi ⟨q, v5, v6, rfl, rfl, hg, q1, q2⟩ K hK
      obtain ⟨x0, hx0, rfl⟩ := enumD_get hi
      rw [List.getElem?_map] at hx0
      obtain ⟨l, hl, rfl⟩ := Option.map_eq_some_iff.mp hx0
      obtain ⟨hil, hl2⟩ := List.getElem?_eq_some_iff.mp hl
      have hl8 := hs l (List.mem_of_getElem? hl)
      have ed : r.drop i = l :: r.drop (i + 1) := by rw [← hl2]; exact List.drop_eq_getElem_cons hil
      rw [ed] at hg
      refine ⟨rfl, ⟨c__law_walks ⟨⟨by omega, by omega⟩, ⟨by omega, by omega⟩, by omega, by omega⟩ ?_⟩⟩
      show if (!wlk w ps l q W) = true then _ else _
      cases z : wlk w ps l q W with
      | false =>
        refine ifT rfl ?_
        have : goR w ps W s r = false := by rw [hg]; unfold goR; rw [z]; rfl
        rw [this] at h; exact h
      | true =>
        refine ifF rfl ?_
        show if decide (((i : Nat) : Int) + 1 < ((r.map PyData.int).length : Nat)) = true then _ else _
        rw [List.length_map]
        refine if2 (fun z2 => ?_) (fun z2 => ?_)
        · have z2 := of_decide_eq_true z2
          have hne : (r.drop (i + 1)).isEmpty = false := by
            cases e : r.drop (i + 1) with
            | nil => have := congrArg List.length e; rw [List.length_drop] at this; simp at this; omega
            | cons _ _ => rfl
          show if decide (0 < q + l) = true then _ else _
          cases y1 : decide (0 < q + l) with
          | false =>
            refine ifF rfl (ifT rfl ?_)
            have : goR w ps W s r = false := by rw [hg]; unfold goR; rw [z, hne, y1]; rfl
            rw [this] at h; exact h
          | true =>
            refine ifT rfl ?_
            show if (!decide (q + l < w)) = true then _ else _
            cases y2 : decide (q + l < w) with
            | false =>
              refine ifT rfl ?_
              have : goR w ps W s r = false := by rw [hg]; unfold goR; rw [z, hne, y1, y2]; rfl
              rw [this] at h; exact h
            | true =>
              refine ifF rfl (hK _ _ ⟨q + l, _, _, rfl, rfl, ?_, by omega, by omega⟩)
              rw [hg]; conv => lhs; unfold goR
              rw [z, hne, y1, y2]; rfl
        · have z2 := of_decide_eq_false z2
          have hne : (r.drop (i + 1)).isEmpty = true := by
            rw [List.isEmpty_iff, List.drop_eq_nil_iff]; omega
          refine ifF rfl (hK _ _ ⟨q + l, _, _, rfl, rfl, ?_, by omega, by omega⟩)
          rw [hg]; conv => lhs; unfold goR
          rw [z, hne]; rfl
    · rintro ρ τ ⟨q, v5, v6, rfl, rfl, hg, _⟩
      rw [enumD_len, List.length_map, List.drop_length] at hg
      rw [hg] at h
      show if decide (s ≤ 0) = true then _ else _
      exact ifT (decide_eq_true s2) h
theorem len__law_crosses : ∀ ds Qa Er, p__law_crosses ds Qa Er → ds.length = 4 := fun ds Qa Er h => by
  match ds, h with
  | [b, .int W, .int s, v], h => rfl
def atL (w : Int) (ps : List Int) (W : Int) (r : List Int) : List (Int × List Int) := (starts.filter fun s => goR w ps W s r).map fun s => (s, r)
def lawC (w : Int) (ps : List Int) (W : Int) (ns : List Int) : List (Int × List Int) := (rowsL ns).flatMap (atL w ps W)
def p__law_crossings : Pf := fun ds Q _ => match ds with
  | [b, v, .int W] => ∃ w ps ns, b = bD w ps ∧ v = pD ns ∧ okB w ps = true ∧ okP ns = true ∧ (0 ≤ W ∧ W ≤ 60) ∧ Q (.list ((lawC w ps W ns).map crD))
  | _ => False
def N__law_crossings : List Str := [Str.ofString "brook", Str.ofString "planks", Str.ofString "weight", Str.ofString "found", Str.ofString "row", Str.ofString "start"]
def body__law_crossings : TDS := dSeq (dSet 3 (dLst (dNil)))
  (dSeq (dFor (dISeq (dCallPJ p__law_rows (dCons (dVar 1) (dNil)))) (gName 4)
  (dSet 3 (dBin oPlus (dVar 3) (dComp [5] (dIRng2 (dCons (oNeg (dC (.int 8))) (dCons (dC (.int 1)) (dNil)))) (gName 5) (dB (dCallPI p__law_crosses (dCons (dVar 0) (dCons (dVar 2) (dCons (dVar 5) (dCons (dVar 4) (dNil))))))) (dTup (dCons (dVar 5) (dCons (dVar 4) (dNil))))))))
  (dRet (dVar 3)))

theorem rows_ok {ns : List Int} (okp : okP ns = true) {r : List Int} (h : r ∈ rowsL ns) : smallP r ∧ r.length ≤ 4 ∧ r ≠ [] := by
  obtain ⟨o1, o2, o3, o4⟩ := okP_spec.mp okp
  have o4 := ascLe_pairwise.mp o4
  have inv : ∀ k c, c ∈ lvl ns k → smallP c.1 := by
    intro k
    induction k with
    | zero => intro c hc; have : c = ([], ns) := by simpa [lvl] using hc
              subst this; exact fun x hx => nomatch hx
    | succ k ih =>
      intro c hc
      obtain ⟨d, hd, hc⟩ := List.mem_flatMap.mp (show c ∈ (lvl ns k).flatMap nxt from hc)
      have hd1 := ih d hd
      have hd2 := (lvl_ok o4 o3 k d hd).2.1
      obtain ⟨x, hx, rfl⟩ := List.mem_map.mp hc
      intro y hy
      rcases List.mem_append.mp hy with hy | hy
      · exact hd1 y hy
      · have : y = x := by simpa using hy
        subst this; exact hd2 _ (mem_lens hx)
  have key : ∀ k, r ∈ fnd ns k → ∃ j c, 1 ≤ j ∧ c ∈ lvl ns j ∧ r = c.1 := by
    intro k
    induction k with
    | zero => intro hr; cases hr
    | succ k ih =>
      intro hr
      rcases List.mem_append.mp (show r ∈ fnd ns k ++ (lvl ns (k + 1)).map (·.1) from hr) with hr | hr
      · exact ih hr
      · obtain ⟨c, hc, rfl⟩ := List.mem_map.mp hr
        exact ⟨k + 1, c, by omega, hc, rfl⟩
  obtain ⟨j, c, j1, hc, rfl⟩ := key 4 h
  obtain ⟨_, _, a3, a4⟩ := lvl_ok o4 o3 j c hc
  refine ⟨inv j c hc, by omega, fun z => ?_⟩
  rw [z] at a3
  simp at a3
  omega
theorem rows_len (ns : List Int) : (rowsL ns).length ≤ 5000 := by
  unfold rowsL
  have h1 := lvl_len ns 1
  have h2 := lvl_len ns 2
  have h3 := lvl_len ns 3
  have h4 := lvl_len ns 4
  simp only [fnd, List.length_append, List.length_map, List.length_nil, Nat.zero_add, Nat.reduceAdd]
  have : 8 ^ 1 = 8 ∧ 8 ^ 2 = 64 ∧ 8 ^ 3 = 512 ∧ 8 ^ 4 = 4096 := by decide
  omega
theorem wp__law_crossings : ∀ ds Qa Er, p__law_crossings ds Qa Er → body__law_crossings (startD N__law_crossings (ds.map Sl.da)) [] { nx := fun _ _ => Qa .none, rt := fun d _ => Qa d, er := fun n _ => Er n } := by
  intro ds Qa Er h
  match ds, h with
  | [b, v, .int W], ⟨w, ps, ns, eb, ev, ok, okp, hW, h⟩ =>
    subst eb ev
    refine ⟨⟨ns, rfl, okp, ?_⟩⟩
    show loopD _ _ ((rowsL ns).map rowD) _ _ _
    refine loopD_ind (fun i ρ τ => ∃ v4, ρ = [.da (bD w ps), .da (pD ns), .da (.int W), .da (.list ((((rowsL ns).take i).flatMap (atL w ps W)).map crD)), v4, .un] ∧ τ = []) _ ⟨_, rfl, rfl⟩ ?_ ?_
    · rintro i d ρ τ hi ⟨v4, rfl, rfl⟩ K hK
      rw [List.getElem?_map] at hi
      obtain ⟨r, hr, rfl⟩ := Option.map_eq_some_iff.mp hi
      obtain ⟨r1, r2, r3⟩ := rows_ok okp (List.mem_of_getElem? hr)
      refine ⟨⟨by decide, by decide, by decide, by decide⟩, ?_⟩
      show compD _ _ _ _ _ _ (rangeL (-8) 9) _ []
      rw [rangeL_starts]
      refine compD_pure (fun d => match d with
        | .int s => goR w ps W s r
        | _ => false) (fun d => .tuple [d, rowD r]) _ [] (fun d hd A B hA => ?_) ?_
      · obtain ⟨s, hs, rfl⟩ := List.mem_map.mp hd
        obtain ⟨j, hj⟩ := List.getElem?_of_mem hs
        exact ⟨⟨w, ps, r, rfl, rfl, ok, r1, r2, hW, starts_get hj, hA⟩⟩
      · have e1 : ((starts.map PyData.int).filter fun d => match d with
          | .int s => goR w ps W s r
          | _ => false).map (fun d => PyData.tuple [d, rowD r]) = (atL w ps W r).map crD := by
          unfold atL
          rw [List.filter_map, List.map_map, List.map_map]
          rfl
        rw [e1]
        have hl : ∀ j, (((rowsL ns).take j).flatMap (atL w ps W)).length ≤ 5000 * 9 := fun j => by
          have := flat_len (atL w ps W) 9 ((rowsL ns).take j) fun x _ => by
            unfold atL; rw [List.length_map]
            exact Nat.le_trans (List.length_filter_le _ _) (by decide)
          have h9 : ((rowsL ns).take j).length ≤ 5000 := by rw [List.length_take]; have := rows_len ns; omega
          omega
        have h9 : (atL w ps W r).length ≤ 9 := by unfold atL; rw [List.length_map]; exact Nat.le_trans (List.length_filter_le _ _) (by decide)
        have et : ((rowsL ns).take (i + 1)).flatMap (atL w ps W) = ((rowsL ns).take i).flatMap (atL w ps W) ++ atL w ps W r := by
          rw [List.take_add_one, hr, List.flatMap_append]; simp
        refine ⟨?_, hK _ _ ⟨.da (rowD r), ?_, rfl⟩⟩
        · show ((((rowsL ns).take i).flatMap (atL w ps W)).map crD).length + (([] : List PyData) ++ (atL w ps W r).map crD).length ≤ 1000000
          have := hl i
          rw [List.nil_append, List.length_map, List.length_map]
          omega
        · rw [et, List.map_append]
          rfl
    · rintro ρ τ ⟨v4, rfl, rfl⟩
      rw [List.length_map, List.take_length]
      exact h
theorem len__law_crossings : ∀ ds Qa Er, p__law_crossings ds Qa Er → ds.length = 3 := fun ds Qa Er h => by
  match ds, h with
  | [b, v, .int W], h => rfl
def crOf : PyData → Option (Int × List Int)
  | .tuple [.int s, .tuple rs] => match intsOf rs with
    | some r => some (s, r)
    | none => none
  | _ => none
theorem crOf_crD (c : Int × List Int) : crOf (crD c) = some c := by
  show (match intsOf (c.2.map .int) with
    | some r => some (c.1, r)
    | none => none) = _
  rw [intsOf_map]
def isCv (x : PyData) (cs : List (Int × List Int)) : Bool := match crOf x with
  | some c => decide (c ∈ cs)
  | none => false
theorem eqv_crD (c d : Int × List Int) : PyData.eqv (crD c) (crD d) = decide (c = d) := by
  show (PyData.eqv (.int c.1) (.int d.1) && (PyData.eqv (rowD c.2) (rowD d.2) && true)) = _
  unfold rowD
  rw [eqv_int, eqv_intsT, Bool.and_true]
  obtain ⟨c1, c2⟩ := c
  obtain ⟨d1, d2⟩ := d
  by_cases e1 : c1 = d1 <;> by_cases e2 : c2 = d2 <;> simp [e1, e2]
theorem any_crD (c : Int × List Int) : ∀ cs : List (Int × List Int), ((cs.map crD).any fun z => PyData.eqv z (crD c)) = decide (c ∈ cs)
  | [] => rfl
  | d :: cs => by
    rw [List.map_cons, List.any_cons, any_crD c cs, eqv_crD]
    by_cases e : d = c
    · simp [e]
    · have : c ≠ d := fun z => e z.symm
      simp [e, this]
theorem shpA_crs (n : Nat) : ∀ cs : List (Int × List Int), shpA (n + 2) (cs.map crD) = true
  | [] => rfl
  | c :: cs => by
    show (shp (n + 2) (crD c) && shpA (n + 2) (cs.map crD)) = true
    rw [shpA_crs n cs, Bool.and_true]
    show (true && (shp (n + 1) (rowD c.2) && true)) = true
    rw [show shp (n + 1) (rowD c.2) = true from shp_intsT n c.2]
    rfl
theorem shp_crD (n : Nat) (c : Int × List Int) : shp (n + 2) (crD c) = true := by
  show (true && (shp (n + 1) (rowD c.2) && true)) = true
  rw [show shp (n + 1) (rowD c.2) = true from shp_intsT n c.2]
  rfl
theorem onw_small (w : Int) (ps : List Int) (W : Int) : ∀ (n : Nat) (ns : List Int) (p : Int) (r : List Int), smallP ns → r ∈ onw w ps W n ns p → smallP r
  | 0, _, _, r, _, h => by simp [onw] at h
  | n + 1, ns, p, r, hs, h => by
    rw [onw_succ, List.mem_flatMap] at h
    obtain ⟨l, hl, h⟩ := h
    have hl := hs l (mem_lens hl)
    unfold stepO at h
    split at h
    · split at h
      · simp at h; subst h; intro x hx; simp at hx; subst hx; exact hl
      · split at h
        · obtain ⟨q, hq, rfl⟩ := List.mem_map.mp h
          have := onw_small w ps W n _ _ q (smallP_erase hs l) hq
          intro x hx
          rcases List.mem_cons.mp hx with rfl | hx
          · exact hl
          · exact this x hx
        · cases h
    · cases h
theorem allC_range {w : Int} {ps ns : List Int} {W : Int} (hs : smallP ns) {c : Int × List Int} (h : c ∈ allC w ps W ns) : (-8 ≤ c.1 ∧ c.1 ≤ 0) ∧ smallP c.2 := by
  unfold allC at h
  obtain ⟨s, h1, h2⟩ := List.mem_flatMap.mp h
  unfold atC at h2
  obtain ⟨r, hr, rfl⟩ := List.mem_map.mp h2
  obtain ⟨j, hj⟩ := List.getElem?_of_mem h1
  exact ⟨starts_get hj, onw_small w ps W 5 ns s r hs hr⟩
def p_is_crossing : Pf := fun ds Q E => match ds with
  | [b, v, u, x] => plaK b v (fun w ps ns => weiK u (fun W => Q (.bool (isCv x (allC w ps W ns)))) E) E
  | _ => False
def N_is_crossing : List Str := [Str.ofString "brook", Str.ofString "planks", Str.ofString "weight", Str.ofString "value", Str.ofString "one"]
def body_is_crossing : TDS := dSeq (dExpr (dCallPJ p_need_all_crossings (dCons (dVar 0) (dCons (dVar 1) (dCons (dVar 2) (dNil))))))
  (dSeq (dIfS (dOrT (dNotT (dB (dIsi isTuple (dVar 3)))) (dOrT (dB (dBin oNe (dCB oLen (dCons (dVar 3) (dNil))) (dC (.int 2)))) (dNotT (dB (dCallPJ p_is_whole (dCons (dBin oIx (dVar 3) (dC (.int 0))) (dCons (oNeg (dC (.int 8))) (dCons (dC (.int 0)) (dNil))))))))) (dRet (dC (.bool false))) (dNext))
  (dSeq (dIfS (dOrT (dNotT (dB (dIsi isTuple (dBin oIx (dVar 3) (dC (.int 1)))))) (dNotT (dB (dCB oAll (dCons (dComp [4] (dISeq (dBin oIx (dVar 3) (dC (.int 1)))) (gName 4) (dYes) (dCallPI p_is_whole (dCons (dVar 4) (dCons (dC (.int 1)) (dCons (dC (.int 8)) (dNil)))))) (dNil)))))) (dRet (dC (.bool false))) (dNext))
  (dRet (dBin (oInD false) (dVar 3) (dCallPJ p_all_crossings (dCons (dVar 0) (dCons (dVar 1) (dCons (dVar 2) (dNil)))))))))

theorem isCv_not {x : PyData} {cs : List (Int × List Int)} (h : ∀ c, x = crD c → c ∉ cs) : isCv x cs = false := by
  unfold isCv
  cases e : crOf x with
  | none => rfl
  | some c =>
    have : x = crD c := by
      unfold crOf at e
      split at e
      · split at e
        · rename_i s rs r hr
          cases e
          rw [intsOf_some hr]; rfl
        · cases e
      · cases e
    simpa using h c this
theorem wp_is_crossing : ∀ ds Qa Er, p_is_crossing ds Qa Er → body_is_crossing (startD N_is_crossing (ds.map Sl.da)) [] { nx := fun _ _ => Qa .none, rt := fun d _ => Qa d, er := fun n _ => Er n } := by
  intro ds Qa Er h
  match ds, h with
  | [b, v, u, x], h =>
    refine ⟨plw_need h fun w ps ns W e1 e2 e3 ok okp i1 i2 hq => ?_⟩
    subst e1 e2 e3
    have hs : smallP ns := (okP_spec.mp okp).2.2.1
    have no : (∀ c, x = crD c → (-8 ≤ c.1 ∧ c.1 ≤ 0) → smallP c.2 → False) → Qa (.bool false) := fun hn => by
      rw [isCv_not (fun c ec hc => hn c ec (allC_range hs hc).1 (allC_range hs hc).2)] at hq
      exact hq
    by_cases hv : ∃ xs, x = .tuple xs
    · obtain ⟨xs, rfl⟩ := hv
      match xs, hq, no with
      | [], hq, no => exact ⟨⟨rfl, rfl⟩, no fun c ec => by cases ec⟩
      | [x], hq, no => exact ⟨⟨rfl, rfl⟩, no fun c ec => by cases ec⟩
      | x :: y :: z :: t, hq, no =>
        have hb : (!PyData.eqv (.int (((x :: y :: z :: t).length : Nat) : Int)) (.int 2)) = true := by
          simp [PyData.eqv]; omega
        refine ⟨⟨rfl, rfl⟩, ?_⟩
        show if (!PyData.eqv (.int (((x :: y :: z :: t).length : Nat) : Int)) (.int 2)) = true then _ else _
        rw [if_pos hb]
        exact no fun c ec => by cases ec
      | [x, y], hq, no =>
        refine ⟨⟨rfl, rfl⟩, ⟨?_⟩⟩
        show if (!isWhole x (-8) 0) = true then _ else _
        cases hx : isWhole x (-8) 0 with
        | false =>
          refine ifT rfl (no fun c ec h1 _ => ?_)
          injection ec with ec
          injection ec with ec _
          rw [ec, whole_of h1.1 h1.2] at hx
          cases hx
        | true =>
          refine ifF rfl ?_
          obtain ⟨s, rfl, s1, s2⟩ := isWhole_true hx
          by_cases hy : ∃ rs, y = .tuple rs
          · obtain ⟨rs, rfl⟩ := hy
            show compD _ _ _ _ _ _ rs _ []
            refine compD_map (fun d => .bool (isWhole d 1 8)) rs (fun d hd A hA => ⟨hA⟩) ?_
            refine ⟨rs.map fun d => isWhole d 1 8, by show some _ = some _; rw [List.map_map]; rfl, ?_⟩
            show if (!(rs.map fun d => isWhole d 1 8).all id) = true then _ else _
            have ea : (rs.map fun d => isWhole d 1 8).all id = rs.all (fun d => isWhole d 1 8) := by rw [List.all_map]; rfl
            rw [ea]
            cases qa : rs.all (fun d => isWhole d 1 8) with
            | false =>
              refine ifT rfl (no fun c ec _ h2 => ?_)
              injection ec with ec
              injection ec with _ ec
              injection ec with ec _
              injection ec with ec
              rw [ec, all_whole_of h2] at qa
              cases qa
            | true =>
              refine ifF rfl ⟨⟨w, ps, ns, okP_cro ok okp i1 i2, ?_⟩⟩
              obtain ⟨r, rfl, hr⟩ := all_whole_ints qa
              refine ⟨⟨shp_crD 58 (s, r), shpA_crs 57 _⟩, ?_⟩
              show Qa (.bool (((allC w ps W ns).map crD).any fun z => PyData.eqv z (crD (s, r))))
              rw [any_crD]
              have : isCv (crD (s, r)) (allC w ps W ns) = decide ((s, r) ∈ allC w ps W ns) := by unfold isCv; rw [crOf_crD]
              rw [← this]; exact hq
          · have := no fun c ec _ _ => hy ⟨c.2.map .int, by injection ec with e; injection e with e1 e2; injection e2⟩
            cases y with
            | tuple ps => exact absurd ⟨ps, rfl⟩ hy
            | none => exact this
            | bool b => exact this
            | int i => exact this
            | str z => exact this
            | list xs => exact this
            | dict kv => exact this
    · have := no fun c ec _ _ => hv ⟨_, ec⟩
      cases x with
      | tuple ps => exact absurd ⟨ps, rfl⟩ hv
      | none => exact this
      | bool b => exact this
      | int i => exact this
      | str z => exact this
      | list xs => exact this
      | dict kv => exact this
theorem len_is_crossing : ∀ ds Qa Er, p_is_crossing ds Qa Er → ds.length = 4 := fun ds Qa Er h => by
  match ds, h with
  | [b, v, u, x], h => rfl
theorem okB_sub {w : Int} {ps qs : List Int} (ok : okB w ps = true) (h : qs.Sublist ps) : okB w qs = true := by
  obtain ⟨a1, a2, a3, a4, a5⟩ := okB_spec.mp ok
  exact okB_spec.mpr ⟨a1, a2, Nat.le_trans h.length_le a3, fun p hp => a4 p (h.subset hp), asc_pairwise.mpr ((asc_pairwise.mp a5).sublist h)⟩
def nPie (w : Int) (ps : List Int) (W : Int) (ns : List Int) : List Int := ps.filter fun x => crs w (ps.erase x) W ns
def p_needless_piers : Pf := fun ds Q E => match ds with
  | [b, v, u] => plaK b v (fun w ps ns => weiK u (fun W => Q (pD (nPie w ps W ns))) E) E
  | _ => False
def N_needless_piers : List Str := [Str.ofString "brook", Str.ofString "planks", Str.ofString "weight", Str.ofString "width", Str.ofString "piers", Str.ofString "pier"]
def body_needless_piers : TDS := dSeq (dExpr (dCallPJ p_need_all_crossings (dCons (dVar 0) (dCons (dVar 1) (dCons (dVar 2) (dNil))))))
  (dSeq (dAsg (dVar 0) (gTup 2 (gCons (gName 3) (gCons (gName 4) (gNil)))))
  (dRet (dCB oTup (dCons (dComp [5] (dISeq (dVar 4)) (gName 5) (dB (dCallPI p_crosses (dCons (dTup (dCons (dVar 3) (dCons (dCallPI p_without (dCons (dVar 4) (dCons (dVar 5) (dNil)))) (dNil)))) (dCons (dVar 1) (dCons (dVar 2) (dNil)))))) (dVar 5)) (dNil)))))

theorem wp_needless_piers : ∀ ds Qa Er, p_needless_piers ds Qa Er → body_needless_piers (startD N_needless_piers (ds.map Sl.da)) [] { nx := fun _ _ => Qa .none, rt := fun d _ => Qa d, er := fun n _ => Er n } := by
  intro ds Qa Er h
  match ds, h with
  | [b, v, u], h =>
    refine ⟨plw_need h fun w ps ns W e1 e2 e3 ok okp i1 i2 hq => ?_⟩
    subst e1 e2 e3
    refine ⟨rfl, ?_⟩
    show compD _ _ _ _ _ _ (ps.map PyData.int) _ []
    refine compD_filter (fun d => match d with
      | .int x => crs w (ps.erase x) W ns
      | _ => false) _ (fun d hd A B hA => ?_) ?_
    · obtain ⟨x, hx, rfl⟩ := List.mem_map.mp hd
      have h5 := (okB_spec.mp ok).2.2.1
      exact ⟨⟨ps, rfl, by omega, hx, ⟨⟨w, ps.erase x, ns, okP_cro (okB_sub ok List.erase_sublist) okp i1 i2, hA⟩⟩⟩⟩
    · have : (ps.map PyData.int).filter (fun d => match d with
        | .int x => crs w (ps.erase x) W ns
        | _ => false) = (nPie w ps W ns).map PyData.int := by
        unfold nPie; rw [List.filter_map]; rfl
      rw [this]
      exact hq
theorem len_needless_piers : ∀ ds Qa Er, p_needless_piers ds Qa Er → ds.length = 3 := fun ds Qa Er h => by
  match ds, h with
  | [b, v, u], h => rfl
def nPla (w : Int) (ps : List Int) (W : Int) (ns : List Int) : List Int := (lens ns).filter fun x => decide (1 < ns.length) && crs w ps W (ns.erase x)
def p_needless_planks : Pf := fun ds Q E => match ds with
  | [b, v, u] => plaK b v (fun w ps ns => weiK u (fun W => Q (pD (nPla w ps W ns))) E) E
  | _ => False
def N_needless_planks : List Str := [Str.ofString "brook", Str.ofString "planks", Str.ofString "weight", Str.ofString "found", Str.ofString "length"]
def body_needless_planks : TDS := dSeq (dExpr (dCallPJ p_need_all_crossings (dCons (dVar 0) (dCons (dVar 1) (dCons (dVar 2) (dNil))))))
  (dSeq (dNew 3)
  (dSeq (dFor (dISeq (dSortSet (dVar 1))) (gName 4)
  (dIfS (dAndT (dB (dBin oGt (dCB oLen (dCons (dVar 1) (dNil))) (dC (.int 1)))) (dB (dCallPJ p_crosses (dCons (dVar 0) (dCons (dCallPJ p_without (dCons (dVar 1) (dCons (dVar 4) (dNil)))) (dCons (dVar 2) (dNil))))))) (dAppend 3 (dVar 4)) (dNext)))
  (dRet (dCB oTup (dCons (dVar 3) (dNil))))))

theorem wp_needless_planks : ∀ ds Qa Er, p_needless_planks ds Qa Er → body_needless_planks (startD N_needless_planks (ds.map Sl.da)) [] { nx := fun _ _ => Qa .none, rt := fun d _ => Qa d, er := fun n _ => Er n } := by
  intro ds Qa Er h
  match ds, h with
  | [b, v, u], h =>
    refine ⟨plw_need h fun w ps ns W e1 e2 e3 ok okp i1 i2 hq => ?_⟩
    subst e1 e2 e3
    obtain ⟨o1, o2, hs, _⟩ := okP_spec.mp okp
    refine ⟨ns, rfl, by omega, fun ms hm1 hm2 => ?_⟩
    have em := lens_eq hs hm1 hm2
    subst em
    show loopD _ _ ((lens ns).map PyData.int) _ _ _
    refine loopD_ind (fun i ρ τ => ∃ v4, ρ = [.da (bD w ps), .da (pD ns), .da (.int W), .res 0, v4] ∧ τ = [.lst ((((lens ns).take i).filter fun x => decide (1 < ns.length) && crs w ps W (ns.erase x)).map PyData.int)]) _ ⟨_, rfl, rfl⟩ ?_ ?_
    · rintro i d ρ τ hi ⟨v4, rfl, rfl⟩ K hK
      rw [List.getElem?_map] at hi
      obtain ⟨l, hl, rfl⟩ := Option.map_eq_some_iff.mp hi
      have hm := mem_lens (List.mem_of_getElem? hl)
      have hle : (ns.erase l).length + 1 = ns.length := by
        rw [List.length_erase_of_mem hm]; omega
      have h8 : (((lens ns).take i).filter fun x => decide (1 < ns.length) && crs w ps W (ns.erase x)).length ≤ 8 :=
        Nat.le_trans (List.length_filter_le _ _) (by rw [List.length_take]; have := lens_len ns; omega)
      show if decide ((1 : Int) < (((ns.map PyData.int).length : Nat) : Int)) = true then _ else _
      rw [List.length_map]
      refine if2 (fun z => ?_) (fun z => ?_)
      · have z := of_decide_eq_true z
        refine ⟨⟨ns, rfl, by omega, hm, ⟨⟨w, ps, ns.erase l, ⟨rfl, rfl, ok, smallP_erase hs l, by omega, ⟨i1, i2⟩⟩, ?_⟩⟩⟩⟩
        show if crs w ps W (ns.erase l) = true then _ else _
        refine if2 (fun y => ?_) (fun y => hK _ _ ⟨_, rfl, ?_⟩)
        · refine append_go (k := 0) (d := .int l) rfl rfl (fun Q q => q) (by rw [List.length_map]; omega) (hK _ _ ⟨_, rfl, ?_⟩)
          rw [List.take_add_one, hl, List.filter_append, List.map_append]
          simp [y, show 1 < ns.length by omega]
        · rw [List.take_add_one, hl, List.filter_append, List.map_append]
          simp [y]
      · have z := of_decide_eq_false z
        refine hK _ _ ⟨_, rfl, ?_⟩
        rw [List.take_add_one, hl, List.filter_append, List.map_append]
        simp [show ¬ 1 < ns.length by omega]
    · rintro ρ τ ⟨v4, rfl, rfl⟩
      rw [List.length_map, List.take_length]
      exact hq
theorem len_needless_planks : ∀ ds Qa Er, p_needless_planks ds Qa Er → ds.length = 3 := fun ds Qa Er h => by
  match ds, h with
  | [b, v, u], h => rfl
/-! ### all crossings, plainly -/
/-- a row drawn from planks -/
def dr : List Int → List Int → Prop
  | _, [] => True
  | ns, l :: t => l ∈ ns ∧ dr (ns.erase l) t
theorem dr_count : ∀ {r ns : List Int}, dr ns r ↔ ∀ x, r.count x ≤ ns.count x
  | [], ns => ⟨fun _ x => Nat.zero_le _, fun _ => trivial⟩
  | l :: t, ns => by
    show (l ∈ ns ∧ dr (ns.erase l) t) ↔ _
    rw [dr_count (r := t)]
    constructor
    · rintro ⟨h1, h2⟩ x
      have := h2 x
      rw [List.count_erase] at this
      rw [List.count_cons]
      have hp : 0 < ns.count l := List.count_pos_iff.mpr h1
      by_cases e : l = x
      · subst e; simp at this ⊢; omega
      · have e2 : (l == x) = false := by simpa using e
        rw [e2] at this ⊢
        simp at this ⊢; exact this
    · intro h
      have hl := h l
      rw [List.count_cons_self] at hl
      refine ⟨List.count_pos_iff.mp (by omega), fun x => ?_⟩
      have := h x
      rw [List.count_erase]
      rw [List.count_cons] at this
      by_cases e : l = x
      · subst e; simp at this ⊢; omega
      · have e2 : (l == x) = false := by simpa using e
        rw [e2] at this ⊢
        simp at this ⊢; exact this
theorem dr_len : ∀ {r ns : List Int}, dr ns r → r.length ≤ ns.length
  | [], _, _ => Nat.zero_le _
  | l :: t, ns, ⟨h1, h2⟩ => by
    have := dr_len h2
    rw [List.length_erase_of_mem h1] at this
    have := List.length_pos_of_mem h1
    rw [List.length_cons]
    omega
theorem dr_mem {r ns : List Int} (h : dr ns r) {x : Int} (hx : x ∈ r) : x ∈ ns := by
  have := dr_count.mp h x
  have h2 : 0 < r.count x := List.count_pos_iff.mpr hx
  exact List.count_pos_iff.mp (by omega)
theorem dr_small {r ns : List Int} (hs : smallP ns) (h : dr ns r) : smallP r := fun x hx => hs x (dr_mem h hx)
theorem dr_rev {r ns : List Int} (h : dr ns r) : dr ns r.reverse := dr_count.mpr fun x => by rw [List.count_reverse]; exact dr_count.mp h x
theorem mem_lensI {ns : List Int} (hs : smallP ns) {x : Int} : x ∈ lens ns ↔ x ∈ ns := by
  refine ⟨mem_lens, fun h => ?_⟩
  unfold lens
  have := hs x h
  exact mem_upTo.mpr ⟨⟨by omega, by show x < 1 + 8; omega⟩, decide_eq_true h⟩
theorem onw_ne {w : Int} {ps : List Int} {W : Int} : ∀ {n : Nat} {ns : List Int} {p : Int}, [] ∉ onw w ps W n ns p
  | 0, _, _ => by simp [onw]
  | n + 1, ns, p => by
    rw [onw_succ, List.mem_flatMap]
    rintro ⟨l, _, h⟩
    unfold stepO at h
    split at h
    · split at h
      · simp at h
      · split at h
        · simp at h
        · cases h
    · cases h
theorem mem_step {w : Int} {ps : List Int} {W : Int} {n : Nat} {ns : List Int} {p l x : Int} {t : List Int} : (x :: t) ∈ stepO w ps W n ns p l ↔ x = l ∧ wlk w ps l p W = true ∧ ((w ≤ p + l ∧ t = []) ∨ (¬ w ≤ p + l ∧ 0 < p + l ∧ t ∈ onw w ps W n (ns.erase l) (p + l))) := by
  unfold stepO
  by_cases h1 : wlk w ps l p W = true
  · rw [if_pos h1]
    by_cases h2 : w ≤ p + l
    · rw [if_pos (decide_eq_true h2)]
      simp [h1, h2]
    · rw [if_neg (by simpa using h2)]
      by_cases h3 : 0 < p + l
      · rw [if_pos (decide_eq_true h3)]
        rw [List.mem_map]
        constructor
        · rintro ⟨q, hq, e⟩
          cases e
          exact ⟨rfl, h1, .inr ⟨h2, h3, hq⟩⟩
        · rintro ⟨rfl, _, h⟩
          rcases h with h | h
          · exact absurd h.1 h2
          · exact ⟨t, h.2.2, rfl⟩
      · rw [if_neg (by simpa using h3)]
        simp [h2, h3]
  · rw [if_neg h1]
    simp [h1]
theorem mem_onw {w : Int} {ps : List Int} {W : Int} : ∀ {n : Nat} {ns : List Int} {p : Int} {r : List Int}, smallP ns → r.length ≤ n → (r ∈ onw w ps W n ns p ↔ r ≠ [] ∧ dr ns r ∧ goR w ps W p r = true)
  | n, ns, p, [], _, _ => ⟨fun h => absurd h onw_ne, fun h => absurd rfl h.1⟩
  | 0, _, _, _ :: _, _, h => absurd h (by simp)
  | n + 1, ns, p, l :: t, hs, hl => by
    have ht : t.length ≤ n := by simpa using hl
    have ih := mem_onw (w := w) (ps := ps) (W := W) (n := n) (ns := ns.erase l) (p := p + l) (r := t) (smallP_erase hs l) ht
    rw [onw_succ, List.mem_flatMap]
    show _ ↔ l :: t ≠ [] ∧ (l ∈ ns ∧ dr (ns.erase l) t) ∧ (wlk w ps l p W && ((t.isEmpty || (decide (0 < p + l) && decide (p + l < w))) && goR w ps W (p + l) t)) = true
    simp only [Bool.and_eq_true, Bool.or_eq_true, decide_eq_true_eq, List.isEmpty_iff]
    constructor
    · rintro ⟨l', h1, h2⟩
      obtain ⟨e, h3, h4⟩ := mem_step.mp h2
      subst e
      refine ⟨by simp, ?_⟩
      rcases h4 with ⟨h5, h6⟩ | ⟨h5, h6, h7⟩
      · subst h6
        exact ⟨⟨mem_lens h1, trivial⟩, h3, .inl rfl, by unfold goR; exact decide_eq_true h5⟩
      · obtain ⟨a1, a2, a3⟩ := ih.mp h7
        exact ⟨⟨mem_lens h1, a2⟩, h3, .inr ⟨h6, by omega⟩, a3⟩
    · rintro ⟨_, ⟨h1, h2⟩, h3, h4, h5⟩
      refine ⟨l, (mem_lensI hs).mpr h1, mem_step.mpr ⟨rfl, h3, ?_⟩⟩
      cases t with
      | nil =>
        unfold goR at h5
        exact .inl ⟨of_decide_eq_true h5, rfl⟩
      | cons x u =>
        have h4 : 0 < p + l ∧ p + l < w := by
          rcases h4 with h4 | h4
          · cases h4
          · exact h4
        exact .inr ⟨by omega, h4.1, ih.mpr ⟨by simp, h2, h5⟩⟩
theorem mem_onw5 {w : Int} {ps : List Int} {W : Int} {ns : List Int} {p : Int} {r : List Int} (hs : smallP ns) (hn : ns.length ≤ 4) : r ∈ onw w ps W 5 ns p ↔ r ≠ [] ∧ dr ns r ∧ goR w ps W p r = true := by
  constructor
  · intro h; exact (mem_onw hs (onw_row w ps W 5 ns p r h)).mp h
  · intro h; exact (mem_onw hs (by have := dr_len h.2.1; omega)).mpr h
theorem lens_nodup (ns : List Int) : (lens ns).Nodup := nodup_asc (upTo_asc _ _ _)
theorem onw_nodup {w : Int} {ps : List Int} {W : Int} : ∀ (n : Nat) (ns : List Int) (p : Int), (onw w ps W n ns p).Nodup
  | 0, _, _ => List.Pairwise.nil
  | n + 1, ns, p => by
    rw [onw_succ]
    unfold List.Nodup
    rw [List.pairwise_flatMap]
    refine ⟨fun l _ => ?_, List.Pairwise.imp (fun {l m} hlm x hx y hy e => ?_) (lens_nodup ns)⟩
    · unfold stepO
      split
      · split
        · simp
        · split
          · rw [List.pairwise_map]
            exact List.Pairwise.imp (fun h e => h (by simpa using e)) (onw_nodup n _ _)
          · exact List.Pairwise.nil
      · exact List.Pairwise.nil
    · subst e
      cases x with
      | nil =>
        have : [] ∈ onw w ps W (n + 1) (l :: ns) p := by
          exfalso
          unfold stepO at hx
          split at hx
          · split at hx
            · simp at hx
            · split at hx
              · simp at hx
              · cases hx
          · cases hx
        exact absurd this onw_ne
      | cons a t =>
        have h1 := (mem_step.mp hx).1
        have h2 := (mem_step.mp hy).1
        exact hlm (by rw [← h1, h2])
theorem starts_nodup : starts.Nodup := by decide
theorem mem_starts {s : Int} : s ∈ starts ↔ -8 ≤ s ∧ s ≤ 0 := by
  unfold starts
  rw [List.mem_map]
  constructor
  · rintro ⟨i, h, rfl⟩; have := List.mem_range.mp h; omega
  · intro h; exact ⟨(s + 8).toNat, List.mem_range.mpr (by omega), by omega⟩
/-- what a crossing is -/
structure Cr (w : Int) (ps : List Int) (W : Int) (ns : List Int) (c : Int × List Int) : Prop where
  lo : -8 ≤ c.1
  hi : c.1 ≤ 0
  ne : c.2 ≠ []
  dr : dr ns c.2
  go : goR w ps W c.1 c.2 = true
theorem mem_allC {w : Int} {ps : List Int} {W : Int} {ns : List Int} (hs : smallP ns) (hn : ns.length ≤ 4) {c : Int × List Int} : c ∈ allC w ps W ns ↔ Cr w ps W ns c := by
  unfold allC
  rw [List.mem_flatMap]
  constructor
  · rintro ⟨s, h1, h2⟩
    unfold atC at h2
    obtain ⟨r, hr, rfl⟩ := List.mem_map.mp h2
    obtain ⟨a, b, d⟩ := (mem_onw5 hs hn).mp hr
    exact ⟨(mem_starts.mp h1).1, (mem_starts.mp h1).2, a, b, d⟩
  · rintro ⟨h1, h2, h3, h4, h5⟩
    exact ⟨c.1, mem_starts.mpr ⟨h1, h2⟩, List.mem_map.mpr ⟨c.2, (mem_onw5 hs hn).mpr ⟨h3, h4, h5⟩, rfl⟩⟩
theorem allC_nodup (w : Int) (ps : List Int) (W : Int) (ns : List Int) : (allC w ps W ns).Nodup := by
  unfold allC List.Nodup
  rw [List.pairwise_flatMap]
  refine ⟨fun s _ => ?_, List.Pairwise.imp (fun {l m} hlm x hx y hy e => ?_) starts_nodup⟩
  · unfold atC
    rw [List.pairwise_map]
    exact List.Pairwise.imp (fun h e => h (by simpa using e)) (onw_nodup 5 ns s)
  · subst e
    unfold atC at hx hy
    obtain ⟨r, _, rfl⟩ := List.mem_map.mp hx
    obtain ⟨q, _, e⟩ := List.mem_map.mp hy
    exact hlm (by simpa using (congrArg Prod.fst e).symm)
/-- what is left -/
def df (ns r : List Int) : List Int := r.foldl (fun a x => a.erase x) ns
theorem dr_snoc : ∀ {r ns : List Int} {x : Int}, dr ns (r ++ [x]) ↔ dr ns r ∧ x ∈ df ns r
  | [], ns, x => by
    show (x ∈ ns ∧ True) ↔ True ∧ x ∈ ns
    simp
  | l :: t, ns, x => by
    show (l ∈ ns ∧ dr (ns.erase l) (t ++ [x])) ↔ (l ∈ ns ∧ dr (ns.erase l) t) ∧ x ∈ df (ns.erase l) t
    rw [dr_snoc (r := t)]
    simp [and_assoc]
theorem df_snoc (ns r : List Int) (x : Int) : df ns (r ++ [x]) = (df ns r).erase x := by unfold df; rw [List.foldl_append]; rfl
theorem df_small {ns : List Int} (hs : smallP ns) : ∀ r : List Int, smallP (df ns r) := fun r => by
  unfold df
  induction r generalizing ns with
  | nil => exact hs
  | cons x t ih => exact ih (smallP_erase hs x)
theorem mem_lvl {ns : List Int} (hs : smallP ns) : ∀ {k : Nat} {c : List Int × List Int}, c ∈ lvl ns k ↔ c.1.length = k ∧ dr ns c.1 ∧ c.2 = df ns c.1
  | 0, c => by
    show c ∈ [([], ns)] ↔ _
    constructor
    · intro h
      have : c = ([], ns) := by simpa using h
      subst this
      exact ⟨rfl, trivial, rfl⟩
    · rintro ⟨h1, h2, h3⟩
      obtain ⟨c1, c2⟩ := c
      have : c1 = [] := List.length_eq_zero_iff.mp h1
      subst this
      have h3 : c2 = ns := h3
      subst h3
      simp
  | k + 1, c => by
    show c ∈ (lvl ns k).flatMap nxt ↔ _
    rw [List.mem_flatMap]
    constructor
    · rintro ⟨d, h1, h2⟩
      obtain ⟨a1, a2, a3⟩ := (mem_lvl hs).mp h1
      unfold nxt at h2
      obtain ⟨x, hx, rfl⟩ := List.mem_map.mp h2
      have hx := mem_lens hx
      refine ⟨by simp [a1], dr_snoc.mpr ⟨a2, by rw [← a3]; exact hx⟩, ?_⟩
      show d.2.erase x = _
      rw [df_snoc, a3]
    · rintro ⟨h1, h2, h3⟩
      obtain ⟨c1, c2⟩ := c
      have hne : c1 ≠ [] := fun z => by rw [z] at h1; simp at h1
      obtain ⟨r, x, rfl⟩ : ∃ r x, c1 = r ++ [x] := ⟨c1.dropLast, c1.getLast hne, (List.dropLast_concat_getLast hne).symm⟩
      have h2 := dr_snoc.mp h2
      have h3 : c2 = df ns (r ++ [x]) := h3
      refine ⟨(r, df ns r), (mem_lvl hs).mpr ⟨by simpa using h1, h2.1, rfl⟩, ?_⟩
      unfold nxt
      refine List.mem_map.mpr ⟨x, (mem_lensI (df_small hs r)).mpr h2.2, ?_⟩
      rw [h3, df_snoc]
theorem mem_fnd {ns : List Int} (hs : smallP ns) {r : List Int} : ∀ {k : Nat}, r ∈ fnd ns k ↔ (1 ≤ r.length ∧ r.length ≤ k) ∧ dr ns r
  | 0 => by
    constructor
    · intro h; cases h
    · rintro ⟨⟨h1, h2⟩, _⟩; omega
  | k + 1 => by
    show r ∈ fnd ns k ++ (lvl ns (k + 1)).map (·.1) ↔ _
    rw [List.mem_append, mem_fnd hs (k := k), List.mem_map]
    constructor
    · rintro (⟨⟨h1, h2⟩, h3⟩ | ⟨c, hc, rfl⟩)
      · exact ⟨⟨h1, by omega⟩, h3⟩
      · obtain ⟨a1, a2, _⟩ := (mem_lvl hs).mp hc
        exact ⟨⟨by omega, by omega⟩, a2⟩
    · rintro ⟨⟨h1, h2⟩, h3⟩
      by_cases e : r.length = k + 1
      · exact .inr ⟨(r, df ns r), (mem_lvl hs).mpr ⟨e, h3, rfl⟩, rfl⟩
      · exact .inl ⟨⟨h1, by omega⟩, h3⟩
theorem lvl_nodup (ns : List Int) : ∀ k, (lvl ns k).Pairwise (fun a b => a.1 ≠ b.1)
  | 0 => List.pairwise_singleton _ _
  | k + 1 => by
    show ((lvl ns k).flatMap nxt).Pairwise _
    rw [List.pairwise_flatMap]
    refine ⟨fun c _ => ?_, List.Pairwise.imp (fun {a b} hab x hx y hy e => ?_) (lvl_nodup ns k)⟩
    · unfold nxt
      rw [List.pairwise_map]
      exact List.Pairwise.imp (fun h e => h (by simpa using e)) (lens_nodup _)
    · unfold nxt at hx hy
      obtain ⟨u, _, rfl⟩ := List.mem_map.mp hx
      obtain ⟨v, _, rfl⟩ := List.mem_map.mp hy
      have e : a.1 ++ [u] = b.1 ++ [v] := e
      exact hab (List.append_inj_left' e rfl)
theorem fnd_nodup {ns : List Int} (hs : smallP ns) : ∀ k, (fnd ns k).Nodup
  | 0 => List.Pairwise.nil
  | k + 1 => by
    show (fnd ns k ++ (lvl ns (k + 1)).map (·.1)).Nodup
    rw [List.nodup_append]
    refine ⟨fnd_nodup hs k, ?_, fun a ha b hb e => ?_⟩
    · unfold List.Nodup
      rw [List.pairwise_map]
      exact lvl_nodup ns (k + 1)
    · subst e
      obtain ⟨c, hc, rfl⟩ := List.mem_map.mp hb
      have h1 := ((mem_fnd hs).mp ha).1.2
      have h2 := ((mem_lvl hs).mp hc).1
      omega
theorem mem_rowsL {ns : List Int} (hs : smallP ns) (hn : ns.length ≤ 4) {r : List Int} : r ∈ rowsL ns ↔ r ≠ [] ∧ dr ns r := by
  unfold rowsL
  rw [mem_fnd hs]
  constructor
  · rintro ⟨⟨h1, _⟩, h3⟩; exact ⟨fun z => by rw [z] at h1; simp at h1, h3⟩
  · rintro ⟨h1, h3⟩
    have := dr_len h3
    have := List.length_pos_iff.mpr h1
    exact ⟨⟨by omega, by omega⟩, h3⟩
theorem mem_lawC {w : Int} {ps : List Int} {W : Int} {ns : List Int} (hs : smallP ns) (hn : ns.length ≤ 4) {c : Int × List Int} : c ∈ lawC w ps W ns ↔ Cr w ps W ns c := by
  unfold lawC
  rw [List.mem_flatMap]
  constructor
  · rintro ⟨r, h1, h2⟩
    unfold atL at h2
    obtain ⟨s, hs1, rfl⟩ := List.mem_map.mp h2
    obtain ⟨a, b⟩ := List.mem_filter.mp hs1
    obtain ⟨c1, c2⟩ := (mem_rowsL hs hn).mp h1
    exact ⟨(mem_starts.mp a).1, (mem_starts.mp a).2, c1, c2, b⟩
  · rintro ⟨h1, h2, h3, h4, h5⟩
    refine ⟨c.2, (mem_rowsL hs hn).mpr ⟨h3, h4⟩, ?_⟩
    unfold atL
    exact List.mem_map.mpr ⟨c.1, List.mem_filter.mpr ⟨mem_starts.mpr ⟨h1, h2⟩, h5⟩, rfl⟩
theorem lawC_nodup {w : Int} {ps : List Int} {W : Int} {ns : List Int} (hs : smallP ns) : (lawC w ps W ns).Nodup := by
  unfold lawC List.Nodup
  rw [List.pairwise_flatMap]
  refine ⟨fun r _ => ?_, List.Pairwise.imp (fun {l m} hlm x hx y hy e => ?_) (show (rowsL ns).Nodup from fnd_nodup hs 4)⟩
  · unfold atL
    rw [List.pairwise_map]
    exact List.Pairwise.imp (fun h e => h (by simpa using e)) (starts_nodup.filter _)
  · subst e
    unfold atL at hx hy
    obtain ⟨r, _, rfl⟩ := List.mem_map.mp hx
    obtain ⟨q, _, e⟩ := List.mem_map.mp hy
    exact hlm (by simpa using (congrArg Prod.snd e).symm)
theorem law_perm {w : Int} {ps : List Int} {W : Int} {ns : List Int} (hs : smallP ns) (hn : ns.length ≤ 4) : (lawC w ps W ns).Perm (allC w ps W ns) :=
  (List.perm_ext_iff_of_nodup (lawC_nodup hs) (allC_nodup w ps W ns)).mpr fun c => by rw [mem_lawC hs hn, mem_allC hs hn]
theorem crs_iff {w : Int} {ps : List Int} {W : Int} {ns : List Int} (hs : smallP ns) (hn : ns.length ≤ 4) : crs w ps W ns = true ↔ ∃ c, Cr w ps W ns c := by
  unfold crs
  rw [List.any_eq_true]
  constructor
  · rintro ⟨s, h1, h2⟩
    cases e : onw w ps W 5 ns s with
    | nil => rw [e] at h2; cases h2
    | cons r t => exact ⟨(s, r), (mem_allC hs hn).mp (List.mem_flatMap.mpr ⟨s, h1, List.mem_map.mpr ⟨r, by rw [e]; exact List.mem_cons_self, rfl⟩⟩)⟩
  · rintro ⟨c, hc⟩
    refine ⟨c.1, mem_starts.mpr ⟨hc.lo, hc.hi⟩, ?_⟩
    have := (mem_onw5 hs hn).mpr ⟨hc.ne, hc.dr, hc.go⟩
    cases e : onw w ps W 5 ns c.1 with
    | nil => rw [e] at this; cases this
    | cons r t => rfl
theorem law_crs {w : Int} {ps : List Int} {W : Int} {ns : List Int} (hs : smallP ns) (hn : ns.length ≤ 4) : (lawC w ps W ns).isEmpty = !crs w ps W ns := by
  cases e : lawC w ps W ns with
  | nil =>
    cases z : crs w ps W ns with
    | false => rfl
    | true =>
      obtain ⟨c, hc⟩ := (crs_iff hs hn).mp z
      have := (mem_lawC hs hn).mpr hc
      rw [e] at this; cases this
  | cons c t =>
    have : crs w ps W ns = true := (crs_iff hs hn).mpr ⟨c, (mem_lawC hs hn).mp (by rw [e]; exact List.mem_cons_self)⟩
    rw [this]; rfl
/-! ### more piers, lighter walkers, more planks -/
theorem wlk_lie {w l p W : Int} {ps : List Int} (h : wlk w ps l p W = true) : lie w ps l p = true := by
  cases e : lie w ps l p with
  | true => rfl
  | false => rw [wlk_not e] at h; cases h
theorem wlk_light {w l p V W : Int} {ps : List Int} (hl : 0 ≤ l) (h1 : V ≤ W) (h : wlk w ps l p W = true) : wlk w ps l p V = true := by
  obtain ⟨a, c, hh, F⟩ := lie_frm hl (wlk_lie h)
  exact wlk_mono hh F h1 h
theorem hld_wide {w l p a c : Int} {ps qs : List Int} (hq : ∀ y ∈ ps, y ∈ qs) (hh : hld w ps l p = some (a, c)) : ∃ a' c', hld w qs l p = some (a', c') ∧ a' ≤ a ∧ c ≤ c' := by
  obtain ⟨h1, h2, _⟩ := hld_some hh
  have h1 := pts_mono hq h1
  have h2 := pts_mono hq h2
  cases e : hld w qs l p with
  | none =>
    exfalso
    unfold hld hdL at e
    cases z : pts w qs l p with
    | nil => rw [z] at h1; cases h1
    | cons x t =>
      have hne : (x :: t) ≠ [] := by simp
      rw [z] at e
      rw [List.getLast?_eq_some_getLast hne] at e
      cases e
  | some ac =>
    obtain ⟨a', c'⟩ := ac
    obtain ⟨_, _, h3⟩ := hld_some e
    exact ⟨a', c', rfl, (h3 a h1).1, (h3 c h2).2⟩
theorem wlk_piers {w l p W : Int} {ps qs : List Int} (hl : 0 ≤ l) (hW : 0 ≤ W) (hq : ∀ y ∈ ps, y ∈ qs) (h : wlk w ps l p W = true) : wlk w qs l p W = true := by
  obtain ⟨a, c, hh, F⟩ := lie_frm hl (wlk_lie h)
  obtain ⟨a', c', hh', F'⟩ := lie_frm hl (lie_mono hq (wlk_lie h))
  obtain ⟨x, y, h1, h2, h3⟩ := hld_wide hq hh
  rw [hh'] at h1
  cases h1
  rw [wlk_iff hh F] at h
  rw [wlk_iff hh' F']
  have e1 : a' * (l + W) ≤ a * (l + W) := Int.mul_le_mul_of_nonneg_right h2 (by omega)
  have e2 : c * (l + W) ≤ c' * (l + W) := Int.mul_le_mul_of_nonneg_right h3 (by omega)
  rw [Int.mul_assoc 2 a, Int.mul_assoc 2 c] at h
  rw [Int.mul_assoc 2 a', Int.mul_assoc 2 c']
  omega
theorem goR_imp {w : Int} {ps qs : List Int} {V W : Int} (h : ∀ l p, 0 ≤ l → wlk w ps l p W = true → wlk w qs l p V = true) : ∀ {r : List Int} {p : Int}, smallP r → goR w ps W p r = true → goR w qs V p r = true
  | [], _, _, h => h
  | l :: t, p, hs, hg => by
    unfold goR at hg ⊢
    simp only [Bool.and_eq_true] at hg ⊢
    exact ⟨h l p (by have := hs l (by simp); omega) hg.1, hg.2.1, goR_imp h (fun x hx => hs x (List.mem_cons_of_mem _ hx)) hg.2.2⟩
theorem Cr.piers {w : Int} {ps qs : List Int} {W : Int} {ns : List Int} {c : Int × List Int} (hs : smallP ns) (hW : 0 ≤ W) (hq : ∀ y ∈ ps, y ∈ qs) (h : Cr w ps W ns c) : Cr w qs W ns c :=
  ⟨h.lo, h.hi, h.ne, h.dr, goR_imp (fun l p hl => wlk_piers hl hW hq) (dr_small hs h.dr) h.go⟩
theorem Cr.light {w : Int} {ps : List Int} {V W : Int} {ns : List Int} {c : Int × List Int} (hs : smallP ns) (hV : V ≤ W) (h : Cr w ps W ns c) : Cr w ps V ns c :=
  ⟨h.lo, h.hi, h.ne, h.dr, goR_imp (fun l p hl => wlk_light hl hV) (dr_small hs h.dr) h.go⟩
theorem Cr.more {w : Int} {ps : List Int} {W : Int} {ns ms : List Int} {c : Int × List Int} (hm : ∀ x, ns.count x ≤ ms.count x) (h : Cr w ps W ns c) : Cr w ps W ms c :=
  ⟨h.lo, h.hi, h.ne, dr_count.mpr fun x => Nat.le_trans (dr_count.mp h.dr x) (hm x), h.go⟩
/-! ### mirrored -/
theorem wlk_mir {w l p W : Int} {ps : List Int} (hl : 0 ≤ l) (h : wlk w ps l p W = true) : wlk w (mirP w ps) l (w - p - l) W = true := by
  obtain ⟨a, c, hh, F⟩ := lie_frm hl (wlk_lie h)
  have hl2 : lie w (mirP w ps) l (w - p - l) = true := by rw [lie_mir, show w - (w - p - l) - l = p by omega]; exact wlk_lie h
  obtain ⟨a', c', hh', F'⟩ := lie_frm hl hl2
  have e := hld_mir w ps l (w - p - l)
  rw [show w - (w - p - l) - l = p by omega, hh, hh'] at e
  have e1 : a' = w - c ∧ c' = w - a := by
    have : some (a', c') = some (w - c, w - a) := e
    cases this; exact ⟨rfl, rfl⟩
  obtain ⟨rfl, rfl⟩ := e1
  rw [wlk_iff hh F] at h
  rw [wlk_iff hh' F']
  obtain ⟨h1, h2⟩ := h
  constructor
  · have : 2 * W * (w - p - l) - (2 * (w - c) * (l + W) - l * (2 * (w - p - l) + l)) = (2 * c * (l + W) - l * (2 * p + l)) - 2 * W * (p + l) := by
      simp only [Int.mul_sub, Int.sub_mul, Int.mul_add, Int.add_mul, Int.mul_assoc, Int.mul_left_comm, Int.mul_comm]
      have : l * (l * 2) = 2 * (l * l) := by rw [← Int.mul_assoc, Int.mul_comm]
      omega
    omega
  · have : (2 * (w - a) * (l + W) - l * (2 * (w - p - l) + l)) - 2 * W * (w - p - l + l) = 2 * W * p - (2 * a * (l + W) - l * (2 * p + l)) := by
      simp only [Int.mul_sub, Int.sub_mul, Int.mul_add, Int.add_mul, Int.mul_assoc, Int.mul_left_comm, Int.mul_comm]
      have : l * (l * 2) = 2 * (l * l) := by rw [← Int.mul_assoc, Int.mul_comm]
      omega
    omega
/-- the steps of a way, each plank by what lies before it -/
theorem goR_iff {w : Int} {ps : List Int} {W : Int} : ∀ {r : List Int} {p : Int}, goR w ps W p r = true ↔ (∀ a l b, r = a ++ l :: b → wlk w ps l (p + a.sum) W = true ∧ (b ≠ [] → 0 < p + a.sum + l ∧ p + a.sum + l < w)) ∧ w ≤ p + r.sum
  | [], p => by
    unfold goR
    simp
  | x :: t, p => by
    unfold goR
    simp only [Bool.and_eq_true, Bool.or_eq_true, decide_eq_true_eq, List.isEmpty_iff]
    rw [goR_iff (r := t)]
    constructor
    · rintro ⟨h1, h2, h3, h4⟩
      refine ⟨fun a l b e => ?_, by rw [List.sum_cons]; omega⟩
      cases a with
      | nil =>
        have e : x = l ∧ t = b := by simpa using e
        obtain ⟨rfl, rfl⟩ := e
        simp only [List.sum_nil, Int.add_zero]
        refine ⟨h1, fun hb => ?_⟩
        rcases h2 with h2 | h2
        · exact absurd h2 hb
        · exact h2
      | cons y a =>
        have e' : x = y ∧ t = a ++ l :: b := by simpa using e
        obtain ⟨rfl, e'⟩ := e'
        have := h3 a l b e'
        rw [List.sum_cons, ← Int.add_assoc]
        exact this
    · rintro ⟨h1, h2⟩
      have h0 := h1 [] x t rfl
      simp only [List.sum_nil, Int.add_zero] at h0
      refine ⟨h0.1, ?_, fun a l b e => ?_, by rw [List.sum_cons] at h2; omega⟩
      · cases t with
        | nil => exact .inl rfl
        | cons _ _ => exact .inr (h0.2 (by simp))
      · have := h1 (x :: a) l b (by rw [e]; rfl)
        rw [List.sum_cons, ← Int.add_assoc] at this
        exact this
def mirC (w : Int) (c : Int × List Int) : Int × List Int := (w - c.1 - c.2.sum, c.2.reverse)
theorem sum_rev (r : List Int) : r.reverse.sum = r.sum := List.sum_reverse r
theorem Cr.mir {w : Int} {ps : List Int} {W : Int} {ns : List Int} {c : Int × List Int} (hs : smallP ns) (hw : 1 ≤ w) (h : Cr w ps W ns c) : Cr w (mirP w ps) W ns (mirC w c) := by
  obtain ⟨s, r⟩ := c
  obtain ⟨h1, h2, h3, h4, h5⟩ := h
  have h1 : -8 ≤ s := h1
  have h2 : s ≤ 0 := h2
  have h3 : r ≠ [] := h3
  have h4 : DL.dr ns r := h4
  have hr := dr_small hs h4
  obtain ⟨g1, g2⟩ := goR_iff.mp (show goR w ps W s r = true from h5)
  have hlast : s + r.sum < w + 8 := by
    obtain ⟨a, l, rfl⟩ : ∃ a l, r = a ++ [l] := ⟨r.dropLast, r.getLast h3, (List.dropLast_concat_getLast h3).symm⟩
    have hl := hr l (by simp)
    rw [List.sum_append]
    simp only [List.sum_cons, List.sum_nil, Int.add_zero]
    by_cases ha : a = []
    · subst ha; simp; omega
    · obtain ⟨b, m, rfl⟩ : ∃ b m, a = b ++ [m] := ⟨a.dropLast, a.getLast ha, (List.dropLast_concat_getLast ha).symm⟩
      have := (g1 b m [l] (by simp)).2 (by simp)
      rw [List.sum_append]
      simp only [List.sum_cons, List.sum_nil, Int.add_zero]
      omega
  refine ⟨?_, ?_, ?_, dr_rev h4, ?_⟩
  · show -8 ≤ w - s - r.sum; omega
  · show w - s - r.sum ≤ 0; omega
  · show r.reverse ≠ []; simpa using h3
  · show goR w (mirP w ps) W (w - s - r.sum) r.reverse = true
    refine goR_iff.mpr ⟨fun a l b e => ?_, by rw [sum_rev]; omega⟩
    have e2 : r = b.reverse ++ l :: a.reverse := by
      have := congrArg List.reverse e
      simpa using this
    have hsum : r.sum = b.sum + l + a.sum := by
      rw [e2, List.sum_append, List.sum_cons, sum_rev, sum_rev]; omega
    have hl := hr l (by rw [e2]; simp)
    have hw1 := (g1 b.reverse l a.reverse e2).1
    rw [sum_rev] at hw1
    constructor
    · have := wlk_mir (by omega) hw1
      rw [show w - s - r.sum + a.sum = w - (s + b.sum) - l by omega]
      exact this
    · intro hb
      have hb : b.reverse ≠ [] := by simpa using hb
      obtain ⟨a0, l0, e0⟩ : ∃ a0 l0, b.reverse = a0 ++ [l0] := ⟨b.reverse.dropLast, b.reverse.getLast hb, (List.dropLast_concat_getLast hb).symm⟩
      have e3 : r = a0 ++ l0 :: (l :: a.reverse) := by rw [e2, e0]; simp
      have := (g1 a0 l0 _ e3).2 (by simp)
      have hbs : b.sum = a0.sum + l0 := by
        rw [← sum_rev b, e0, List.sum_append]; simp
      omega
theorem mirC_two (w : Int) (c : Int × List Int) : mirC w (mirC w c) = c := by
  obtain ⟨s, r⟩ := c
  show (w - (w - s - r.sum) - r.reverse.sum, r.reverse.reverse) = (s, r)
  rw [sum_rev, List.reverse_reverse]
  congr 1
  omega
theorem mir_perm {w : Int} {ps : List Int} {W : Int} {ns : List Int} (hs : smallP ns) (hn : ns.length ≤ 4) (hw : 1 ≤ w) (hp : mirP w (mirP w ps) = ps) : ((allC w ps W ns).map (mirC w)).Perm (allC w (mirP w ps) W ns) := by
  refine (List.perm_ext_iff_of_nodup ?_ (allC_nodup _ _ _ _)).mpr fun c => ?_
  · unfold List.Nodup
    rw [List.pairwise_map]
    exact List.Pairwise.imp (fun {a b} h e => h (by rw [← mirC_two w a, e, mirC_two])) (allC_nodup w ps W ns)
  · rw [List.mem_map, mem_allC hs hn]
    constructor
    · rintro ⟨d, hd, rfl⟩
      exact Cr.mir hs hw ((mem_allC hs hn).mp hd)
    · intro h
      refine ⟨mirC w c, (mem_allC hs hn).mpr ?_, mirC_two w c⟩
      have := Cr.mir hs hw h
      rw [hp] at this
      exact this
theorem mir_len {w : Int} {ps : List Int} {W : Int} {ns : List Int} (hs : smallP ns) (hn : ns.length ≤ 4) (hw : 1 ≤ w) (hp : mirP w (mirP w ps) = ps) : (allC w (mirP w ps) W ns).length = (allC w ps W ns).length := by
  rw [← (mir_perm hs hn hw hp).length_eq, List.length_map]
theorem crs_mir {w : Int} {ps : List Int} {W : Int} {ns : List Int} (hs : smallP ns) (hn : ns.length ≤ 4) (hw : 1 ≤ w) (hp : mirP w (mirP w ps) = ps) : crs w (mirP w ps) W ns = crs w ps W ns := by
  have key : ∀ qs, crs w qs W ns = true → crs w (mirP w qs) W ns = true := fun qs h => by
    obtain ⟨c, hc⟩ := (crs_iff hs hn).mp h
    exact (crs_iff hs hn).mpr ⟨_, Cr.mir hs hw hc⟩
  cases e : crs w ps W ns with
  | true => exact key ps e
  | false =>
    cases e2 : crs w (mirP w ps) W ns with
    | false => rfl
    | true =>
      have := key _ e2
      rw [hp, e] at this
      cases this
theorem crs_piers {w : Int} {ps qs : List Int} {W : Int} {ns : List Int} (hs : smallP ns) (hn : ns.length ≤ 4) (hW : 0 ≤ W) (hq : ∀ y ∈ ps, y ∈ qs) (h : crs w ps W ns = true) : crs w qs W ns = true := by
  obtain ⟨c, hc⟩ := (crs_iff hs hn).mp h
  exact (crs_iff hs hn).mpr ⟨c, hc.piers hs hW hq⟩
theorem crs_light {w : Int} {ps : List Int} {V W : Int} {ns : List Int} (hs : smallP ns) (hn : ns.length ≤ 4) (hV : V ≤ W) (h : crs w ps W ns = true) : crs w ps V ns = true := by
  obtain ⟨c, hc⟩ := (crs_iff hs hn).mp h
  exact (crs_iff hs hn).mpr ⟨c, hc.light hs hV⟩
/-! ### the calls -/
theorem c__law_crossings {w : Int} {ps ns : List Int} {W : Int} {Q : PyData → Prop} {E : Str → Prop} (ok : okB w ps = true) (okp : okP ns = true) (h1 : 0 ≤ W) (h2 : W ≤ 60) (q : Q (.list ((lawC w ps W ns).map crD))) : p__law_crossings [bD w ps, pD ns, .int W] Q E :=
  ⟨w, ps, ns, rfl, rfl, ok, okp, ⟨h1, h2⟩, q⟩
theorem c_count_crossings {w : Int} {ps ns : List Int} {W : Int} {Q : PyData → Prop} {E : Str → Prop} (ok : okB w ps = true) (okp : okP ns = true) (h1 : 0 ≤ W) (h2 : W ≤ 60) (q : Q (.int ((allC w ps W ns).length : Int))) : p_count_crossings [bD w ps, pD ns, .int W] Q E :=
  pla_of ok okp (wei_of h1 h2 q)
theorem c_is_crossing {w : Int} {ps ns : List Int} {W : Int} {x : PyData} {Q : PyData → Prop} {E : Str → Prop} (ok : okB w ps = true) (okp : okP ns = true) (h1 : 0 ≤ W) (h2 : W ≤ 60) (q : Q (.bool (isCv x (allC w ps W ns)))) : p_is_crossing [bD w ps, pD ns, .int W, x] Q E :=
  pla_of ok okp (wei_of h1 h2 q)
theorem c_needless_piers {w : Int} {ps ns : List Int} {W : Int} {Q : PyData → Prop} {E : Str → Prop} (ok : okB w ps = true) (okp : okP ns = true) (h1 : 0 ≤ W) (h2 : W ≤ 60) (q : Q (pD (nPie w ps W ns))) : p_needless_piers [bD w ps, pD ns, .int W] Q E :=
  pla_of ok okp (wei_of h1 h2 q)
theorem c_needless_planks {w : Int} {ps ns : List Int} {W : Int} {Q : PyData → Prop} {E : Str → Prop} (ok : okB w ps = true) (okp : okP ns = true) (h1 : 0 ≤ W) (h2 : W ≤ 60) (q : Q (pD (nPla w ps W ns))) : p_needless_planks [bD w ps, pD ns, .int W] Q E :=
  pla_of ok okp (wei_of h1 h2 q)
theorem c_first_crossing {w : Int} {ps ns : List Int} {W : Int} {Q : PyData → Prop} {E : Str → Prop} (ok : okB w ps = true) (okp : okP ns = true) (h1 : 0 ≤ W) (h2 : W ≤ 60) (q : Q (fstD (allC w ps W ns))) : p_first_crossing [bD w ps, pD ns, .int W] Q E :=
  pla_of ok okp (wei_of h1 h2 q)
/-- the greatest weight with a crossing -/
def hvC (w : Int) (ps ns : List Int) : Option Int := (upTo (fun W => crs w ps W ns) 0 61).getLast?
theorem hvC_some {w : Int} {ps ns : List Int} (hs : smallP ns) (hn : ns.length ≤ 4) (h : crs w ps 0 ns = true) : ∃ m, hvC w ps ns = some m ∧ (0 ≤ m ∧ m ≤ 60) ∧ ∀ W, 0 ≤ W → W ≤ 60 → (W ≤ m ↔ crs w ps W ns = true) := by
  obtain ⟨m, e, h1, h2⟩ := last_asc (upTo_asc (fun W => crs w ps W ns) 0 61) (mem_upTo.mpr ⟨⟨Int.le_refl _, by decide⟩, h⟩)
  obtain ⟨⟨m1, m2⟩, m3⟩ := mem_upTo.mp h1
  refine ⟨m, e, ⟨m1, by omega⟩, fun W w1 w2 => ⟨fun z => crs_light hs hn z m3, fun z => h2 W (mem_upTo.mpr ⟨⟨w1, by omega⟩, z⟩)⟩⟩
theorem hvC_none {w : Int} {ps ns : List Int} (hs : smallP ns) (hn : ns.length ≤ 4) (h : crs w ps 0 ns = false) : hvC w ps ns = none := by
  unfold hvC
  cases e : upTo (fun W => crs w ps W ns) 0 61 with
  | nil => rfl
  | cons x t =>
    have hx : x ∈ upTo (fun W => crs w ps W ns) 0 61 := by rw [e]; exact List.mem_cons_self
    obtain ⟨⟨m1, _⟩, m3⟩ := mem_upTo.mp hx
    rw [crs_light hs hn m1 m3] at h
    cases h
theorem c_heaviest_crossing {w : Int} {ps ns : List Int} {Q : PyData → Prop} {E : Str → Prop} (ok : okB w ps = true) (okp : okP ns = true) (q : Q (optD (hvC w ps ns))) : p_heaviest_crossing [bD w ps, pD ns] Q E := by
  have hs := (okP_spec.mp okp).2.2.1
  have hn := (okP_spec.mp okp).2.1
  refine pla_of ok okp ⟨fun h => by rw [hvC_none hs hn h] at q; exact q, fun h m m1 m2 m3 m4 => ?_⟩
  obtain ⟨k, e, ⟨k1, k2⟩, hk⟩ := hvC_some hs hn h
  have h1 := (hk m m1 m2).mpr m3
  have : m = k := by
    rcases m4 with m4 | m4
    · omega
    · by_cases z : k = m
      · exact z.symm
      · have := (hk (m + 1) (by omega) (by omega)).mp (by omega)
        rw [m4] at this; cases this
  rw [e, ← this] at q
  exact q
theorem mir_two {w : Int} {ps : List Int} (ok : okB w ps = true) : mirP w (mirP w ps) = ps := by
  refine asc_ext (okB_asc (okB_mir (okB_mir ok))) (okB_asc ok) fun x => ?_
  rw [mem_mirP, mem_mirP, show w - (w - x) = x by omega]
theorem cut_take (ds : List PyData) (k : Nat) : cutD ds none (some (k : Int)) = ds.take k := by
  unfold cutD
  rw [HT.sIx_none, HT.sIx_nat, Nat.sub_zero, List.drop_zero]
  by_cases h : k ≤ ds.length
  · rw [Nat.min_eq_left h]
  · rw [Nat.min_eq_right (by omega), List.take_of_length_le (Nat.le_refl _), List.take_of_length_le (by omega)]
theorem isCv_crD (c : Int × List Int) (cs : List (Int × List Int)) : isCv (crD c) cs = decide (c ∈ cs) := by unfold isCv; rw [crOf_crD]
theorem all_true {α : Type} (l : List α) : ((l.map fun _ => true).all id) = true := by induction l <;> simp_all
theorem nodup_le {α : Type} [DecidableEq α] : ∀ {l m : List α}, l.Nodup → (∀ x ∈ l, x ∈ m) → l.length ≤ m.length
  | [], _, _, _ => Nat.zero_le _
  | a :: t, m, hn, hs => by
    obtain ⟨h1, h2⟩ := List.nodup_cons.mp hn
    have hm := hs a (by simp)
    have := nodup_le (m := m.erase a) h2 fun x hx => (List.mem_erase_of_ne (fun e : x = a => h1 (by rw [← e]; exact hx))).mpr (hs x (by simp [hx]))
    rw [List.length_erase_of_mem hm] at this
    have := List.length_pos_of_mem hm
    rw [List.length_cons]
    omega
/-- the first crossing -/
def minC (c : Int × List Int) (cs : List (Int × List Int)) : Int × List Int := cs.foldl (fun a y => if PySem.W.dataLt (keyD y) (keyD a) then y else a) c
theorem minC_D : ∀ (cs : List (Int × List Int)) (c : Int × List Int), PySem.W.minD (keyD c) (cs.map keyD) = keyD (minC c cs)
  | [], c => rfl
  | y :: cs, c => by
    unfold PySem.W.minD minC
    rw [List.map_cons, List.foldl_cons, List.foldl_cons]
    have := minC_D cs (if PySem.W.dataLt (keyD y) (keyD c) then y else c)
    unfold PySem.W.minD minC at this
    rw [← this]
    congr 1
    split <;> rfl
theorem minC_mem : ∀ (cs : List (Int × List Int)) (c : Int × List Int), minC c cs ∈ c :: cs
  | [], c => by simp [minC]
  | y :: cs, c => by
    have := minC_mem cs (if PySem.W.dataLt (keyD y) (keyD c) then y else c)
    unfold minC at this ⊢
    rw [List.foldl_cons]
    split at this
    · rename_i h; rw [if_pos h]; rcases List.mem_cons.mp this with e | e
      · rw [e]; simp
      · simp [e]
    · rename_i h; rw [if_neg h]; rcases List.mem_cons.mp this with e | e
      · rw [e]; simp
      · simp [e]
theorem fstD_cons (c : Int × List Int) (cs : List (Int × List Int)) : fstD (c :: cs) = crD (minC c cs) := by
  show (match PySem.W.minD (keyD c) (cs.map keyD) with
    | .tuple (_ :: t) => PyData.tuple t
    | _ => .none) = _
  rw [minC_D]
  rfl
theorem fstD_mem {l : List (Int × List Int)} (h : l ≠ []) : ∃ c, c ∈ l ∧ fstD l = crD c := by
  cases l with
  | nil => exact absurd rfl h
  | cons c cs => exact ⟨_, minC_mem cs c, fstD_cons c cs⟩
theorem fst_none {w : Int} {ps : List Int} {W : Int} {ns : List Int} (hs : smallP ns) (hn : ns.length ≤ 4) (h : crs w ps W ns = false) : fstD (allC w ps W ns) = .none := by
  cases e : allC w ps W ns with
  | nil => rfl
  | cons c t =>
    rw [(crs_iff hs hn).mpr ⟨c, (mem_allC hs hn).mp (by rw [e]; exact List.mem_cons_self)⟩] at h
    cases h
theorem fst_some {w : Int} {ps : List Int} {W : Int} {ns : List Int} (hs : smallP ns) (hn : ns.length ≤ 4) (h : crs w ps W ns = true) : ∃ c, Cr w ps W ns c ∧ fstD (allC w ps W ns) = crD c := by
  obtain ⟨c, hc⟩ := (crs_iff hs hn).mp h
  have := (mem_allC hs hn).mpr hc
  obtain ⟨d, hd, e⟩ := fstD_mem (l := allC w ps W ns) (fun z => by rw [z] at this; cases this)
  exact ⟨d, (mem_allC hs hn).mp hd, e⟩
theorem law_nil {w : Int} {ps : List Int} {W : Int} {ns : List Int} (hs : smallP ns) (hn : ns.length ≤ 4) : ((lawC w ps W ns).map crD).isEmpty = !crs w ps W ns := by
  rw [← law_crs hs hn]
  cases lawC w ps W ns <;> rfl
theorem hvC_mir {w : Int} {ps ns : List Int} (hs : smallP ns) (hn : ns.length ≤ 4) (hw : 1 ≤ w) (hp : mirP w (mirP w ps) = ps) : hvC w (mirP w ps) ns = hvC w ps ns := by
  unfold hvC
  congr 2
  funext W
  exact crs_mir hs hn hw hp
/-! ### piers that are not under the planks -/
theorem filter_erase {x : Int} : ∀ {ps : List Int}, ps.Pairwise (· < ·) → ps.filter (fun y => !(y == x)) = ps.erase x
  | [], _ => rfl
  | y :: t, h => by
    obtain ⟨h1, h2⟩ := List.pairwise_cons.mp h
    by_cases e : y = x
    · subst e
      rw [List.erase_cons_head, List.filter_cons_of_neg (by simp)]
      exact List.filter_eq_self.mpr fun z hz => by have := h1 z hz; simp; omega
    · rw [List.erase_cons_tail (by simpa using e), List.filter_cons_of_pos (by simpa using e), filter_erase h2]
theorem hld_out {w l p x : Int} {ps : List Int} (hp : ps.Pairwise (· < ·)) (h : ¬ (p ≤ x ∧ x ≤ p + l)) : hld w (ps.erase x) l p = hld w ps l p := by
  have key : ∀ y, y ∈ pts w (ps.erase x) l p ↔ y ∈ pts w ps l p := fun y => by
    rw [mem_pts, mem_pts]
    by_cases e : y = x
    · subst e
      constructor
      · rintro ⟨h1, _⟩; exact absurd h1 (by omega)
      · rintro ⟨h1, _⟩; exact absurd h1 (by omega)
    · rw [List.mem_erase_of_ne e]
  have : pts w (ps.erase x) l p = pts w ps l p := asc_ext (pts_asc _ _ _ _) (pts_asc _ _ _ _) key
  unfold hld
  rw [this]
theorem goR_out {w x : Int} {ps : List Int} {W : Int} (hp : ps.Pairwise (· < ·)) {r : List Int} {p : Int} (h : ∀ a l b, r = a ++ l :: b → ¬ (p + a.sum ≤ x ∧ x ≤ p + a.sum + l)) (hg : goR w ps W p r = true) : goR w (ps.erase x) W p r = true := by
  obtain ⟨g1, g2⟩ := goR_iff.mp hg
  refine goR_iff.mpr ⟨fun a l b e => ⟨?_, (g1 a l b e).2⟩, g2⟩
  have := (g1 a l b e).1
  unfold wlk at this ⊢
  rw [hld_out hp (h a l b e)]
  exact this
/-- the piers under the planks of a row -/
def undR (ps : List Int) : Int → List Int → List Int
  | _, [] => []
  | p, l :: t => ps.filter (fun x => decide (p ≤ x) && decide (x ≤ p + l)) ++ undR ps (p + l) t
theorem undR_snoc (ps : List Int) (l : Int) : ∀ (t : List Int) (p : Int), undR ps p (t ++ [l]) = undR ps p t ++ ps.filter (fun x => decide (p + t.sum ≤ x) && decide (x ≤ p + t.sum + l))
  | [], p => by simp [undR]
  | y :: t, p => by
    show ps.filter _ ++ undR ps (p + y) (t ++ [l]) = (ps.filter _ ++ undR ps (p + y) t) ++ _
    rw [undR_snoc ps l t, List.append_assoc, List.sum_cons, ← Int.add_assoc]
theorem undR_len (ps : List Int) : ∀ (t : List Int) (p : Int), (undR ps p t).length ≤ t.length * ps.length
  | [], p => by simp [undR]
  | y :: t, p => by
    show (ps.filter _ ++ undR ps (p + y) t).length ≤ _
    rw [List.length_append, List.length_cons, Nat.succ_mul]
    have h1 := List.length_filter_le (fun x => decide (p ≤ x) && decide (x ≤ p + y)) ps
    have h2 := undR_len ps t (p + y)
    omega
theorem undR_mem {ps : List Int} {x : Int} (hx : x ∈ ps) : ∀ {r : List Int} {p : Int} {a : List Int} {l : Int} {b : List Int}, r = a ++ l :: b → p + a.sum ≤ x → x ≤ p + a.sum + l → x ∈ undR ps p r
  | [], p, a, l, b, e, _, _ => by cases a <;> cases e
  | y :: t, p, [], l, b, e, h1, h2 => by
    have e : y = l ∧ t = b := by simpa using e
    obtain ⟨rfl, rfl⟩ := e
    simp only [List.sum_nil, Int.add_zero] at h1 h2
    exact List.mem_append_left _ (List.mem_filter.mpr ⟨hx, by simp [h1, h2]⟩)
  | y :: t, p, z :: a, l, b, e, h1, h2 => by
    have e' : y = z ∧ t = a ++ l :: b := by simpa using e
    obtain ⟨rfl, e'⟩ := e'
    rw [List.sum_cons, ← Int.add_assoc] at h1 h2
    exact List.mem_append_right _ (undR_mem hx e' h1 h2)
theorem Cr.out {w x : Int} {ps : List Int} {W : Int} {ns : List Int} {c : Int × List Int} (ok : okB w ps = true) (hx : x ∈ ps) (hu : x ∉ undR ps c.1 c.2) (h : Cr w ps W ns c) : Cr w (ps.erase x) W ns c :=
  ⟨h.lo, h.hi, h.ne, h.dr, goR_out (okB_asc ok) (fun _ _ _ e hh => hu (undR_mem hx e hh.1 hh.2)) h.go⟩
theorem nPie_crs {w x : Int} {ps : List Int} {W : Int} {ns : List Int} (hs : smallP ns) (hn : ns.length ≤ 4) (hW : 0 ≤ W) (h : x ∈ nPie w ps W ns) : crs w ps W ns = true := by
  unfold nPie at h
  exact crs_piers hs hn hW (fun y hy => List.mem_of_mem_erase hy) (List.mem_filter.mp h).2
section
variable {w : Int} {ps ns : List Int} {v u : PyData} {Q : PyData → Prop} {E : Str → Prop}
theorem e_needless_piers_wei (ok : okB w ps = true) (okp : okP ns = true) (h : isWhole v 0 60 = false) (q : E (Str.ofString "InvalidWeight")) : p_needless_piers [bD w ps, pD ns, v] Q E := pla_of ok okp (wei_bad h q)
theorem e_count_wei (ok : okB w ps = true) (okp : okP ns = true) (h : isWhole v 0 60 = false) (q : E (Str.ofString "InvalidWeight")) : p_count_crossings [bD w ps, pD ns, v] Q E := pla_of ok okp (wei_bad h q)
theorem e_first_wei (ok : okB w ps = true) (okp : okP ns = true) (h : isWhole v 0 60 = false) (q : E (Str.ofString "InvalidWeight")) : p_first_crossing [bD w ps, pD ns, v] Q E := pla_of ok okp (wei_bad h q)
theorem e_is_planks {x : PyData} (ok : okB w ps = true) (h : planksOf v = none) (q : E (Str.ofString "InvalidPlanks")) : p_is_crossing [bD w ps, v, u, x] Q E := pla_bad ok h q
theorem e_needless_planks (ok : okB w ps = true) (h : planksOf v = none) (q : E (Str.ofString "InvalidPlanks")) : p_needless_planks [bD w ps, v, u] Q E := pla_bad ok h q
end
/-- what is added, and all piers then -/
abbrev Lv := List (List Int × List Int)
def lvD (w : Int) (c : List Int × List Int) : PyData := .tuple [rowD c.1, bD w c.2]
def lowA (a : List Int) : Int := match a.getLast? with
  | some x => x + 1
  | none => 1
def freeA (w : Int) (ps : List Int) (a : List Int) : List Int := upTo (fun x => !decide (x ∈ ps)) (lowA a) (w - lowA a).toNat
def nextA (w : Int) (ps : List Int) (c : List Int × List Int) : Lv := if c.2.length < 5 then (freeA w ps c.1).map fun x => (c.1 ++ [x], sortI (c.2 ++ [x])) else []
def lvN (w : Int) (ps : List Int) : Nat → Lv
  | 0 => [([], ps)]
  | n + 1 => (lvN w ps n).flatMap (nextA w ps)
def hitA (w : Int) (W : Int) (ns : List Int) (l : Lv) : Option (List Int) := (l.find? fun c => crs w c.2 W ns).map (·.1)
def ptaD : Option (List Int) → PyData
  | some a => rowD a
  | none => .none
def ptaF (w : Int) (ps : List Int) (W : Int) (ns : List Int) : Nat → Nat → Option (List Int)
  | 0, _ => none
  | m + 1, k => match hitA w W ns (lvN w ps k) with
    | some a => some a
    | none => ptaF w ps W ns m (k + 1)
def pta (w : Int) (ps : List Int) (W : Int) (ns : List Int) : Option (List Int) := ptaF w ps W ns 3 0
theorem lowA_ge {a : List Int} (h : ∀ x ∈ a, 1 ≤ x) : 1 ≤ lowA a := by
  unfold lowA
  cases e : a.getLast? with
  | none => exact Int.le_refl _
  | some x => have := h x (List.mem_of_getLast? e); show 1 ≤ x + 1; omega
theorem freeA_len {w : Int} {ps a : List Int} (hw : w ≤ 12) (h : 1 ≤ lowA a) : (freeA w ps a).length ≤ 12 := by
  unfold freeA
  have := upTo_len (fun x => !decide (x ∈ ps)) (lowA a) (w - lowA a).toNat
  omega
/-- what holds of each on a level -/
structure LvOk (w : Int) (ps : List Int) (k : Nat) (c : List Int × List Int) : Prop where
  ok : okB w c.2 = true
  ln : c.1.length = k
  pos : ∀ x ∈ c.1, 1 ≤ x
  asc : c.1.Pairwise (· < ·)
  mem : ∀ x, x ∈ c.2 ↔ x ∈ ps ∨ x ∈ c.1
  sz : c.2.length = ps.length + k
theorem low_gt {a : List Int} (h : a.Pairwise (· < ·)) {x y : Int} (hx : x ∈ a) (hy : lowA a ≤ y) : x < y := by
  unfold lowA at hy
  cases e : a.getLast? with
  | none => rw [List.getLast?_eq_none_iff] at e; rw [e] at hx; cases hx
  | some z =>
    rw [e] at hy
    have hy : z + 1 ≤ y := hy
    obtain ⟨b, hb, _, h3⟩ := last_asc h hx
    rw [e] at hb
    cases hb
    have := h3 x hx
    omega
theorem lvN_ok {w : Int} {ps : List Int} (ok : okB w ps = true) : ∀ (k : Nat) (c : List Int × List Int), c ∈ lvN w ps k → LvOk w ps k c
  | 0, c, h => by
    have : c = ([], ps) := by simpa [lvN] using h
    subst this
    exact ⟨ok, rfl, (fun x hx => nomatch hx), List.Pairwise.nil, (fun x => by simp), rfl⟩
  | k + 1, c, h => by
    obtain ⟨d, hd, hc⟩ := List.mem_flatMap.mp (show c ∈ (lvN w ps k).flatMap (nextA w ps) from h)
    have D := lvN_ok ok k d hd
    unfold nextA at hc
    split at hc
    · rename_i h5
      obtain ⟨x, hx, rfl⟩ := List.mem_map.mp hc
      unfold freeA at hx
      obtain ⟨⟨x1, x2⟩, x3⟩ := mem_upTo.mp hx
      have x3 : x ∉ ps := by simpa using x3
      have hl := lowA_ge D.pos
      have xw : x ≤ w - 1 := by omega
      have nx : x ∉ d.1 := fun z => by have := low_gt D.asc z x1; omega
      have nx2 : x ∉ d.2 := fun z => by rcases (D.mem x).mp z with z | z; exact x3 z; exact nx z
      refine ⟨okB_with D.ok h5 (by omega) xw nx2, by simp [D.ln], fun y hy => ?_, asc_snoc D.asc fun y hy => low_gt D.asc hy x1, fun y => ?_, ?_⟩
      · rcases List.mem_append.mp hy with hy | hy
        · exact D.pos y hy
        · have : y = x := by simpa using hy
          omega
      · show y ∈ sortI (d.2 ++ [x]) ↔ y ∈ ps ∨ y ∈ d.1 ++ [x]
        rw [mem_with, D.mem, List.mem_append, List.mem_singleton, or_assoc]
      · show (sortI (d.2 ++ [x])).length = _
        rw [(sortI_perm _).length_eq, List.length_append, D.sz]; rfl
    · cases hc
theorem lvN_len {w : Int} {ps : List Int} (ok : okB w ps = true) : ∀ k, (lvN w ps k).length ≤ 12 ^ k
  | 0 => Nat.le_refl _
  | k + 1 => by
    have hw := (okB_spec.mp ok).2.1
    have := flat_len (nextA w ps) 12 (lvN w ps k) fun c hc => by
      unfold nextA
      split
      · rw [List.length_map]; exact freeA_len hw (lowA_ge (lvN_ok ok k c hc).pos)
      · exact Nat.zero_le _
    have h2 := lvN_len ok k
    have h3 := Nat.mul_le_mul_right 12 h2
    rw [Nat.pow_succ]
    exact Nat.le_trans this h3
def p_piers_to_add : Pf := fun ds Q E => match ds with
  | [b, v, u] => plaK b v (fun w ps ns => weiK u (fun W => Q (ptaD (pta w ps W ns))) E) E
  | _ => False
def N_piers_to_add : List Str := [Str.ofString "brook", Str.ofString "planks", Str.ofString "weight", Str.ofString "width", Str.ofString "piers", Str.ofString "level", Str.ofString "turn", Str.ofString "added", Str.ofString "made", Str.ofString "later", Str.ofString "low", Str.ofString "free", Str.ofString "point"]
def body_piers_to_add : TDS := dSeq (dExpr (dCallPJ p_need_all_crossings (dCons (dVar 0) (dCons (dVar 1) (dCons (dVar 2) (dNil))))))
  (dSeq (dAsg (dVar 0) (gTup 2 (gCons (gName 3) (gCons (gName 4) (gNil)))))
  (dSeq (dSet 5 (dLst (dCons (dTup (dCons (dTup (dNil)) (dCons (dVar 0) (dNil)))) (dNil))))
  (dSeq (dFor (dIRng1 (dCons (dC (.int 3)) (dNil))) (gName 6)
  (dSeq (dFor (dISeq (dVar 5)) (gTup 2 (gCons (gName 7) (gCons (gName 8) (gNil))))
  (dIfS (dB (dCallPJ p_crosses (dCons (dVar 8) (dCons (dVar 1) (dCons (dVar 2) (dNil)))))) (dRet (dVar 7)) (dNext)))
  (dSeq (dSet 9 (dLst (dNil)))
  (dSeq (dFor (dISeq (dVar 5)) (gTup 2 (gCons (gName 7) (gCons (gName 8) (gNil))))
  (dSeq (dSet 10 (dIf (dB (dBin oNe (dVar 7) (dTup (dNil)))) (dBin oPlus (dBin oIx (dVar 7) (oNeg (dC (.int 1)))) (dC (.int 1))) (dC (.int 1))))
  (dIfS (dB (dBin oLt (dCB oLen (dCons (dBin oIx (dVar 8) (dC (.int 1))) (dNil))) (dC (.int 5)))) (dSeq (dSet 11 (dComp [12] (dIRng2 (dCons (dVar 10) (dCons (dVar 3) (dNil)))) (gName 12) (dB (dBin (oIn true) (dVar 12) (dVar 4))) (dVar 12)))
  (dSet 9 (dBin oPlus (dVar 9) (dComp [12] (dISeq (dVar 11)) (gName 12) (dYes) (dTup (dCons (dBin oPlus (dVar 7) (dTup (dCons (dVar 12) (dNil)))) (dCons (dCallPI p_joined (dCons (dVar 8) (dCons (dVar 12) (dNil)))) (dNil)))))))) (dNext))))
  (dSet 5 (dVar 9))))))
  (dRet (dC .none)))))

theorem wp_piers_to_add : ∀ ds Qa Er, p_piers_to_add ds Qa Er → body_piers_to_add (startD N_piers_to_add (ds.map Sl.da)) [] { nx := fun _ _ => Qa .none, rt := fun d _ => Qa d, er := fun n _ => Er n } := by
  intro ds Qa Er h
  match ds, h with
  | [b, v, u], h =>
    refine ⟨plw_need h fun w ps ns W e1 e2 e3 ok okp i1 i2 hq => ?_⟩
    subst e1 e2 e3
    obtain ⟨w1, w2, hp5, hb, _⟩ := okB_spec.mp ok
    refine ⟨rfl, ⟨by decide, by decide⟩, ?_⟩
    show loopD _ _ (rangeL 0 3) [.da (bD w ps), .da (pD ns), .da (.int W), .da (.int w), .da (.tuple (ps.map .int)), .da (.list ((lvN w ps 0).map (lvD w))), .un, .un, .un, .un, .un, .un, .un] [] _
    refine loopD_ind (fun i ρ τ => ∃ v6 v7 v8 v9 v10 v11, ρ = [.da (bD w ps), .da (pD ns), .da (.int W), .da (.int w), .da (.tuple (ps.map .int)), .da (.list ((lvN w ps i).map (lvD w))), v6, v7, v8, v9, v10, v11, .un] ∧ τ = [] ∧ pta w ps W ns = ptaF w ps W ns (3 - i) i) _ ⟨_, _, _, _, _, _, rfl, rfl, rfl⟩ ?_ ?_
    · rintro i d ρ τ hi ⟨v6, v7, v8, v9, v10, v11, rfl, rfl, hpt⟩ K hK
      have hi3 : i < 3 := by
        have := (List.getElem?_eq_some_iff.mp hi).1
        have h3 : (rangeL 0 3).length = 3 := rfl
        omega
      obtain ⟨m, hm⟩ : ∃ m, 3 - i = m + 1 := ⟨2 - i, by omega⟩
      rw [hm] at hpt
      have hln := lvN_len ok i
      have h12 : 12 ^ i ≤ 12 ^ 2 := Nat.pow_le_pow_right (by decide) (by omega)
      have h144 : 12 ^ 2 = 144 := by decide
      refine for_lst ((lvN w ps i).map (lvD w)) (fun Q h => h) ?_
      refine loopD_ind (fun j ρ τ => ((lvN w ps i).take j).find? (fun c => crs w c.2 W ns) = none ∧ ∃ v7 v8, ρ = [.da (bD w ps), .da (pD ns), .da (.int W), .da (.int w), .da (.tuple (ps.map .int)), .da (.list ((lvN w ps i).map (lvD w))), .da d, v7, v8, v9, v10, v11, .un] ∧ τ = []) _ ⟨rfl, _, _, rfl, rfl⟩ ?_ ?_
      · rintro j e ρ τ hj ⟨hf, v7, v8, rfl, rfl⟩ K2 hK2
        rw [List.getElem?_map] at hj
        obtain ⟨c, hc, rfl⟩ := Option.map_eq_some_iff.mp hj
        have C := lvN_ok ok i c (List.mem_of_getElem? hc)
        refine ⟨rfl, ⟨⟨w, c.2, ns, okP_cro C.ok okp i1 i2, ?_⟩⟩⟩
        show if crs w c.2 W ns = true then _ else _
        refine if2 (fun z => ?_) (fun z => hK2 _ _ ⟨?_, _, _, rfl, rfl⟩)
        · have hh : hitA w W ns (lvN w ps i) = some c.1 := by
            unfold hitA
            have e1 : (lvN w ps i).find? (fun c => crs w c.2 W ns) = some c := by
              rw [← List.take_append_drop j (lvN w ps i), List.find?_append, hf]
              obtain ⟨hjl, hje⟩ := List.getElem?_eq_some_iff.mp hc
              rw [List.drop_eq_getElem_cons hjl, hje]
              simp [List.find?_cons, z]
            rw [e1]; rfl
          have : pta w ps W ns = some c.1 := by
            rw [hpt]; unfold ptaF; rw [hh]
          rw [this] at hq
          exact hq
        · rw [List.take_add_one, hc, List.find?_append, hf]
          simp [z]
      · rintro ρ τ ⟨hf, v7, v8, rfl, rfl⟩
        rw [List.length_map, List.take_length] at hf
        have hh : hitA w W ns (lvN w ps i) = none := by unfold hitA; rw [hf]; rfl
        show loopD _ _ ((lvN w ps i).map (lvD w)) [.da (bD w ps), .da (pD ns), .da (.int W), .da (.int w), .da (.tuple (ps.map .int)), .da (.list ((lvN w ps i).map (lvD w))), .da d, v7, v8, .da (.list []), v10, v11, .un] [] _
        refine loopD_ind (fun j ρ τ => ∃ v7 v8 v10 v11, ρ = [.da (bD w ps), .da (pD ns), .da (.int W), .da (.int w), .da (.tuple (ps.map .int)), .da (.list ((lvN w ps i).map (lvD w))), .da d, v7, v8, .da (.list ((((lvN w ps i).take j).flatMap (nextA w ps)).map (lvD w))), v10, v11, .un] ∧ τ = []) _ ⟨_, _, _, _, rfl, rfl⟩ ?_ ?_
        · rintro j e ρ τ hj ⟨v7, v8, v10, v11, rfl, rfl⟩ K2 hK2
          rw [List.getElem?_map] at hj
          obtain ⟨c, hc, rfl⟩ := Option.map_eq_some_iff.mp hj
          have C := lvN_ok ok i c (List.mem_of_getElem? hc)
          have hlow := lowA_ge C.pos
          obtain ⟨c1, c2⟩ := c
          have hlow : 1 ≤ lowA c1 := hlow
          have hpre : (((lvN w ps i).take j).flatMap (nextA w ps)).length ≤ 12 ^ 3 := by
            have h1 := lvN_len ok (i + 1)
            have h2 : (((lvN w ps i).take j).flatMap (nextA w ps)).length ≤ ((lvN w ps i).flatMap (nextA w ps)).length := by
              conv => rhs; rw [← List.take_append_drop j (lvN w ps i), List.flatMap_append, List.length_append]
              omega
            have h3 : 12 ^ (i + 1) ≤ 12 ^ 3 := Nat.pow_le_pow_right (by decide) (by omega)
            exact Nat.le_trans h2 (Nat.le_trans h1 h3)
          have h123 : 12 ^ 3 = 1728 := by decide
          have et : ((lvN w ps i).take (j + 1)).flatMap (nextA w ps) = ((lvN w ps i).take j).flatMap (nextA w ps) ++ nextA w ps (c1, c2) := by
            rw [List.take_add_one, hc, List.flatMap_append]; simp
          refine ⟨rfl, ⟨shp_intsT 59 _, rfl⟩, ?_⟩
          have step : ∀ lo, lo = lowA c1 → dIfS (dB (dBin oLt (dCB oLen (dCons (dBin oIx (dVar 8) (dC (.int 1))) (dNil))) (dC (.int 5)))) (dSeq (dSet 11 (dComp [12] (dIRng2 (dCons (dVar 10) (dCons (dVar 3) (dNil)))) (gName 12) (dB (dBin (oIn true) (dVar 12) (dVar 4))) (dVar 12)))
              (dSet 9 (dBin oPlus (dVar 9) (dComp [12] (dISeq (dVar 11)) (gName 12) (dYes) (dTup (dCons (dBin oPlus (dVar 7) (dTup (dCons (dVar 12) (dNil)))) (dCons (dCallPI p_joined (dCons (dVar 8) (dCons (dVar 12) (dNil)))) (dNil)))))))) (dNext)
              [.da (bD w ps), .da (pD ns), .da (.int W), .da (.int w), .da (.tuple (ps.map .int)), .da (.list ((lvN w ps i).map (lvD w))), .da d, .da (rowD c1), .da (bD w c2), .da (.list ((((lvN w ps i).take j).flatMap (nextA w ps)).map (lvD w))), .da (.int lo), v11, .un] [] { nx := K2, rt := fun d _ => Qa d, er := fun n _ => Er n } := by
            intro lo hlo
            subst hlo
            show if decide ((((c2.map PyData.int).length : Nat) : Int) < 5) = true then _ else _
            rw [List.length_map]
            refine if2 (fun z => ?_) (fun z => ?_)
            · have z := of_decide_eq_true z
              have z5 : c2.length < 5 := by omega
              have hw12 : lowA c1 ≤ 13 := by
                unfold lowA
                cases e : c1.getLast? with
                | none => show (1 : Int) ≤ 13; decide
                | some x =>
                  have hx := (C.mem x).mpr (.inr (List.mem_of_getLast? e))
                  have := (okB_spec.mp C.ok).2.2.2.1 x hx
                  show x + 1 ≤ 13; omega
              refine ⟨⟨by omega, by omega, by omega, by omega⟩, ?_⟩
              show compD _ _ _ _ _ _ (rangeL (lowA c1) (w - lowA c1).toNat) _ []
              refine compD_filter (fun d => match d with
                | .int x => !decide (x ∈ ps)
                | _ => false) _ (fun d hd A B hA => ?_) ?_
              · rw [rangeL_ints] at hd
                obtain ⟨x, _, rfl⟩ := List.mem_map.mp hd
                refine ⟨⟨rfl, flat_ints _⟩, ?_⟩
                show if (!(ps.map PyData.int).any fun z => PyData.eqv z (.int x)) = true then _ else _
                rw [any_eqv_ints]
                exact hA
              have ef : (rangeL (lowA c1) (w - lowA c1).toNat).filter (fun d => match d with
                | .int x => !decide (x ∈ ps)
                | _ => false) = (freeA w ps c1).map PyData.int := by
                rw [rangeL_ints, List.filter_map]; rfl
              rw [ef]
              show compD _ _ _ _ _ _ ((freeA w ps c1).map PyData.int) _ []
              refine compD_map (fun d => match d with
                | .int x => lvD w (c1 ++ [x], sortI (c2 ++ [x]))
                | d => d) _ (fun d hd A hA => ?_) ?_
              · obtain ⟨x, hx, rfl⟩ := List.mem_map.mp hd
                have h1 := C.ln
                have h1 : c1.length = i := h1
                refine ⟨by show (c1.map PyData.int).length + 1 ≤ 1000000; rw [List.length_map]; omega, ⟨?_⟩⟩
                show (match asB (bD w c2) with
                  | some (w, ps) => ps.length ≤ 1000 ∧ _
                  | none => False)
                rw [asB_bD]
                refine ⟨by omega, ?_⟩
                have e1 : c1.map PyData.int ++ [PyData.int x] = (c1 ++ [x]).map PyData.int := by simp
                show A (.da (.tuple [.tuple (c1.map PyData.int ++ [PyData.int x]), bD w (sortI (c2 ++ [x]))])) _
                rw [e1]; exact hA
              · have e2 : ((freeA w ps c1).map PyData.int).map (fun d => match d with
                  | .int x => lvD w (c1 ++ [x], sortI (c2 ++ [x]))
                  | d => d) = (nextA w ps (c1, c2)).map (lvD w) := by
                  unfold nextA
                  rw [if_pos z5, List.map_map, List.map_map]
                  rfl
                rw [e2]
                have hnl : (nextA w ps (c1, c2)).length ≤ 12 := by
                  unfold nextA
                  rw [if_pos z5, List.length_map]
                  exact freeA_len w2 hlow
                refine ⟨by rw [List.length_map, List.length_map]; omega, hK2 _ _ ⟨.da (rowD c1), .da (bD w c2), .da (.int (lowA c1)), .da (.list ((freeA w ps c1).map .int)), ?_, rfl⟩⟩
                rw [et, List.map_append]
                rfl
            · have z := of_decide_eq_false z
              refine hK2 _ _ ⟨.da (rowD c1), .da (bD w c2), .da (.int (lowA c1)), v11, ?_, rfl⟩
              have : nextA w ps (c1, c2) = [] := by unfold nextA; rw [if_neg (by show ¬ c2.length < 5; omega)]
              rw [et, this, List.append_nil]
          show if (!PyData.eqv (.tuple (c1.map .int)) (.tuple [])) = true then _ else _
          rw [eqv_nilT]
          cases e : c1.getLast? with
          | none =>
            have : c1 = [] := List.getLast?_eq_none_iff.mp e
            subst this
            exact ifF rfl (step 1 rfl)
          | some x =>
            have hne : (c1.map PyData.int).isEmpty = false := by
              cases c1 with
              | nil => cases e
              | cons _ _ => rfl
            rw [hne]
            refine ifT rfl ?_
            show (match atI (c1.map PyData.int) (-1) with
              | some d => _
              | none => False)
            rw [atI_last e]
            exact step (x + 1) (by unfold lowA; rw [e])
        · rintro ρ τ ⟨v7, v8, v10, v11, rfl, rfl⟩
          rw [List.length_map, List.take_length]
          refine hK _ _ ⟨_, _, _, _, _, _, rfl, rfl, ?_⟩
          rw [hpt]
          conv => lhs; unfold ptaF
          rw [hh]
          show ptaF w ps W ns m (i + 1) = _
          rw [show 3 - (i + 1) = m by omega]
    · rintro ρ τ ⟨v6, v7, v8, v9, v10, v11, rfl, rfl, hpt⟩
      have : pta w ps W ns = none := by
        rw [hpt]
        rfl
      rw [this] at hq
      exact hq
theorem len_piers_to_add : ∀ ds Qa Er, p_piers_to_add ds Qa Er → ds.length = 3 := fun ds Qa Er h => by
  match ds, h with
  | [b, v, u], h => rfl
/-! ### the order of the keys -/
theorem minC_min : ∀ (cs : List (Int × List Int)) (c : Int × List Int), ∀ d ∈ c :: cs, PySem.W.dataLt (keyD d) (keyD (minC c cs)) = false
  | [], c, d, hd => by
    have : d = c := by simpa using hd
    subst this
    exact PyProof.Rows.lex_irrefl _
  | y :: cs, c, d, hd => by
    have e : minC c (y :: cs) = minC (if PySem.W.dataLt (keyD y) (keyD c) then y else c) cs := by unfold minC; rw [List.foldl_cons]
    rw [e]
    have ih := minC_min cs (if PySem.W.dataLt (keyD y) (keyD c) then y else c)
    generalize hm : minC (if PySem.W.dataLt (keyD y) (keyD c) then y else c) cs = m at ih ⊢
    have h0 := ih _ List.mem_cons_self
    rcases List.mem_cons.mp hd with rfl | hd
    · by_cases z : PySem.W.dataLt (keyD y) (keyD d) = true
      · rw [if_pos z] at h0
        cases q : PySem.W.dataLt (keyD d) (keyD m) with
        | false => rfl
        | true =>
          rcases PyProof.Rows.lex_negTrans _ (PySem.W.keyToks (keyD y)) _ q with h | h
          · have := PyProof.Rows.lex_trans _ _ _ h z
            rw [PyProof.Rows.lex_irrefl] at this; cases this
          · rw [show PySem.W.dataLt (keyD y) (keyD m) = true from h] at h0; cases h0
      · rw [if_neg z] at h0; exact h0
    · rcases List.mem_cons.mp hd with rfl | hd
      · by_cases z : PySem.W.dataLt (keyD d) (keyD c) = true
        · rw [if_pos z] at h0; exact h0
        · rw [if_neg z] at h0
          cases q : PySem.W.dataLt (keyD d) (keyD m) with
          | false => rfl
          | true =>
            rcases PyProof.Rows.lex_negTrans _ (PySem.W.keyToks (keyD c)) _ q with h | h
            · exact absurd h z
            · rw [show PySem.W.dataLt (keyD c) (keyD m) = true from h] at h0; cases h0
      · exact ih d (List.mem_cons_of_mem _ hd)
/-- the key's order -/
def KLt (a b : Int × List Int) : Prop := a.2.length < b.2.length ∨ (a.2.length = b.2.length ∧ (a.1 < b.1 ∨ (a.1 = b.1 ∧ a.2 < b.2)))
theorem key_lt (a b : Int × List Int) : PySem.W.dataLt (keyD a) (keyD b) = true ↔ KLt a b := by
  unfold keyD KLt
  rw [PySem.W.dataLt_tuple, PySem.W.dataLt_cons (by simp [PySem.W.alike]), PySem.W.dataLt_cons (by simp [PySem.W.alike]), PySem.W.dataLt_int, PySem.W.dataLt_int, eqv_int, eqv_int]
  by_cases h1 : (a.2.length : Int) = (b.2.length : Int)
  · have h1' : a.2.length = b.2.length := by omega
    rw [if_pos (by simpa using h1)]
    by_cases h2 : a.1 = b.1
    · rw [if_pos (by simpa using h2)]
      have e : PyProof.Rows.lexLt PyProof.Rows.itemOrd (PySem.W.keyToksAll [rowD a.2]) (PySem.W.keyToksAll [rowD b.2]) = decide (a.2 < b.2) := by
        unfold rowD
        rw [PySem.W.dataLt_cons (by simp only [PySem.W.alike]; exact alike_ints _ _), eqv_intsT]
        by_cases h3 : a.2 = b.2
        · rw [if_pos (decide_eq_true h3), h3, PyProof.Rows.lex_irrefl]
          symm
          exact decide_eq_false (List.lt_irrefl _)
        · rw [if_neg (by simpa using h3), PySem.W.dataLt_tuple]
          exact PySem.W.dataLt_ints a.2 b.2
      rw [e]
      simp [h1', h2]
    · rw [if_neg (by simpa using h2)]
      simp [h1', h2]
  · have h1' : a.2.length ≠ b.2.length := by omega
    rw [if_neg (by simpa using h1)]
    simp [h1']
theorem fst_min {l : List (Int × List Int)} (h : l ≠ []) : ∃ c, c ∈ l ∧ fstD l = crD c ∧ ∀ d ∈ l, ¬ KLt d c := by
  cases l with
  | nil => exact absurd rfl h
  | cons c cs =>
    refine ⟨_, minC_mem cs c, fstD_cons c cs, fun d hd z => ?_⟩
    have := minC_min cs c d hd
    rw [(key_lt d _).mpr z] at this
    cases this
/-! ### one plank, no piers -/
theorem one_hld {w l s : Int} {ps : List Int} (hl : 0 ≤ l) (h1 : s ≤ 0 ∨ w ≤ s ∨ s ∈ ps) (h2 : s + l ≤ 0 ∨ w ≤ s + l ∨ s + l ∈ ps) : hld w ps l s = some (s, s + l) :=
  hld_of (mem_pts.mpr ⟨⟨by omega, by omega⟩, h1⟩) (mem_pts.mpr ⟨⟨by omega, by omega⟩, h2⟩) fun x hx => ⟨(mem_pts.mp hx).1.1, (mem_pts.mp hx).1.2⟩
theorem one_frm {l s : Int} (hl : 0 ≤ l) : Frm s (s + l) l s := ⟨hl, by omega, by omega, by omega, by omega, by omega⟩
theorem one_wlk {w l s W : Int} {ps : List Int} (hl : 0 ≤ l) (h1 : s ≤ 0 ∨ w ≤ s ∨ s ∈ ps) (h2 : s + l ≤ 0 ∨ w ≤ s + l ∨ s + l ∈ ps) : wlk w ps l s W = true :=
  wlk_full (one_hld hl h1 h2) (one_frm hl)
theorem one_hvy {w l s : Int} {ps : List Int} (hl : 0 ≤ l) (h1 : s ≤ 0 ∨ w ≤ s ∨ s ∈ ps) (h2 : s + l ≤ 0 ∨ w ≤ s + l ∨ s + l ∈ ps) : hvy w ps l s = some 60 := by
  have hq : lie w ps l s = true := wlk_lie (one_wlk (W := 0) hl h1 h2)
  obtain ⟨m, e, ⟨m1, m2⟩, h⟩ := hvy_lie hl hq
  have := (h 60 (by decide) (by decide)).mpr (one_wlk hl h1 h2)
  rw [e]; congr 1; omega
def dueL (w l : Int) : List (Int × List Int) := (List.range (1 - (w - l)).toNat).map fun i : Nat => (w - l + (i : Int), [l])
theorem mem_dueL {w l : Int} {c : Int × List Int} : c ∈ dueL w l ↔ c.2 = [l] ∧ w - l ≤ c.1 ∧ c.1 ≤ 0 := by
  unfold dueL
  rw [List.mem_map]
  constructor
  · rintro ⟨i, h, rfl⟩; have := List.mem_range.mp h; exact ⟨rfl, by show w - l ≤ w - l + (i : Int); omega, by show w - l + (i : Int) ≤ 0; omega⟩
  · rintro ⟨h1, h2, h3⟩
    obtain ⟨c1, c2⟩ := c
    have h1 : c2 = [l] := h1
    subst h1
    have h2 : w - l ≤ c1 := h2
    have h3 : c1 ≤ 0 := h3
    exact ⟨(c1 - (w - l)).toNat, List.mem_range.mpr (by omega), by rw [show w - l + (((c1 - (w - l)).toNat : Nat) : Int) = c1 by omega]⟩
theorem dr_one {l : Int} {r : List Int} (h : dr [l] r) (hne : r ≠ []) : r = [l] := by
  have h1 := dr_len h
  match r, hne, h, h1 with
  | [x], _, h, _ => have := dr_mem h (x := x) (by simp); simp at this; rw [this]
  | x :: y :: t, _, _, h1 => simp at h1
theorem cr_one {w l W : Int} {c : Int × List Int} (w1 : 1 ≤ w) (l1 : 1 ≤ l) (l8 : l ≤ 8) : Cr w [] W [l] c ↔ c ∈ dueL w l := by
  rw [mem_dueL]
  obtain ⟨s, r⟩ := c
  constructor
  · rintro ⟨h1, h2, h3, h4, h5⟩
    have e : r = [l] := dr_one h4 h3
    subst e
    have := (goR_iff.mp (show goR w [] W s [l] = true from h5)).2
    simp at this
    exact ⟨rfl, by show w - l ≤ s; omega, h2⟩
  · rintro ⟨h1, h2, h3⟩
    have h1 : r = [l] := h1
    subst h1
    have h2 : w - l ≤ s := h2
    have h3 : s ≤ 0 := h3
    refine ⟨by show -8 ≤ s; omega, h3, (by show [l] ≠ []; simp), ⟨by simp, trivial⟩, ?_⟩
    show goR w [] W s [l] = true
    unfold goR goR
    rw [one_wlk (by omega) (.inl h3) (.inr (.inl (by omega)))]
    simp; omega
theorem dueL_nodup (w l : Int) : (dueL w l).Nodup := by
  unfold dueL List.Nodup
  rw [List.pairwise_map]
  exact List.Pairwise.imp (fun h e => h (by have := congrArg Prod.fst e; simp at this; omega)) List.nodup_range
theorem one_small {l : Int} (l1 : 1 ≤ l) (l8 : l ≤ 8) : smallP [l] := fun x hx => by
  have : x = l := by simpa using hx
  omega
theorem one_perm {w l W : Int} (w1 : 1 ≤ w) (l1 : 1 ≤ l) (l8 : l ≤ 8) : (allC w [] W [l]).Perm (dueL w l) :=
  (List.perm_ext_iff_of_nodup (allC_nodup _ _ _ _) (dueL_nodup w l)).mpr fun c => by rw [mem_allC (one_small l1 l8) (by simp), cr_one w1 l1 l8]
theorem dueL_len (w l : Int) : (dueL w l).length = (1 - (w - l)).toNat := by unfold dueL; simp
theorem one_crs {w l W : Int} (w1 : 1 ≤ w) (l1 : 1 ≤ l) (l8 : l ≤ 8) : crs w [] W [l] = decide (w ≤ l) := by
  rw [Bool.eq_iff_iff, crs_iff (one_small l1 l8) (by simp), decide_eq_true_eq]
  constructor
  · rintro ⟨c, hc⟩
    have := mem_dueL.mp ((cr_one w1 l1 l8).mp hc)
    omega
  · intro h
    exact ⟨(w - l, [l]), (cr_one w1 l1 l8).mpr (mem_dueL.mpr ⟨rfl, Int.le_refl _, by show w - l ≤ 0; omega⟩)⟩
theorem one_fst {w l W : Int} (w1 : 1 ≤ w) (l1 : 1 ≤ l) (l8 : l ≤ 8) (h : w ≤ l) : fstD (allC w [] W [l]) = crD (w - l, [l]) := by
  have m0 : (w - l, [l]) ∈ allC w [] W [l] := (one_perm w1 l1 l8).mem_iff.mpr (mem_dueL.mpr ⟨rfl, Int.le_refl _, by show w - l ≤ 0; omega⟩)
  obtain ⟨c, hc, e, hm⟩ := fst_min (l := allC w [] W [l]) (fun z => by rw [z] at m0; cases m0)
  have h1 := mem_dueL.mp ((one_perm w1 l1 l8).mem_iff.mp hc)
  have h2 := hm _ m0
  obtain ⟨s, r⟩ := c
  have hr : r = [l] := h1.1
  subst hr
  have h3 : w - l ≤ s := h1.2.1
  have : s = w - l := by
    by_cases z : s = w - l
    · exact z
    · exact absurd (.inr ⟨rfl, .inl (by show w - l < s; omega)⟩) h2
  rw [e, this]
theorem one_okB {w : Int} (w1 : 1 ≤ w) (w2 : w ≤ 12) : okB w [] = true := okB_spec.mpr ⟨w1, w2, by simp, by simp, rfl⟩
theorem one_okP {l : Int} (l1 : 1 ≤ l) (l8 : l ≤ 8) : okP [l] = true := okP_spec.mpr ⟨by simp, by simp, one_small l1 l8, rfl⟩
theorem one_hvC {w l : Int} (w1 : 1 ≤ w) (l1 : 1 ≤ l) (l8 : l ≤ 8) (h : w ≤ l) : hvC w [] [l] = some 60 := by
  obtain ⟨m, e, ⟨m1, m2⟩, hm⟩ := hvC_some (w := w) (ps := []) (one_small l1 l8) (by simp) (by rw [one_crs w1 l1 l8]; exact decide_eq_true h)
  have := (hm 60 (by decide) (by decide)).mpr (by rw [one_crs w1 l1 l8]; exact decide_eq_true h)
  rw [e]; congr 1; omega
theorem one_not {w l W : Int} {ps : List Int} (l1 : 1 ≤ l) (l8 : l ≤ 8) (h : l < w) : crs w ps W [l] = false := by
  cases e : crs w ps W [l] with
  | false => rfl
  | true =>
    obtain ⟨c, hc⟩ := (crs_iff (one_small l1 l8) (by simp)).mp e
    have e1 := dr_one hc.dr hc.ne
    have h2 := (goR_iff.mp hc.go).2
    have h3 := hc.hi
    rw [e1] at h2
    simp at h2
    omega
theorem pta_not {w l W : Int} {ps : List Int} (l1 : 1 ≤ l) (l8 : l ≤ 8) (h : l < w) : pta w ps W [l] = none := by
  have key : ∀ L : Lv, hitA w W [l] L = none := fun L => by
    unfold hitA
    rw [List.find?_eq_none.mpr (fun c _ => by rw [one_not l1 l8 h]; decide)]
    rfl
  unfold pta ptaF
  rw [key]
  simp only
  unfold ptaF
  rw [key]
  simp only
  unfold ptaF
  rw [key]
  rfl
theorem pta_yes {w W : Int} {ps ns : List Int} (h : crs w ps W ns = true) : pta w ps W ns = some [] := by
  have : hitA w W ns (lvN w ps 0) = some [] := by
    unfold hitA lvN
    rw [List.find?_cons_of_pos (by exact h)]
    rfl
  unfold pta ptaF
  rw [this]
theorem c_piers_to_add {w : Int} {ps ns : List Int} {W : Int} {Q : PyData → Prop} {E : Str → Prop} (ok : okB w ps = true) (okp : okP ns = true) (h1 : 0 ≤ W) (h2 : W ≤ 60) (q : Q (ptaD (pta w ps W ns))) : p_piers_to_add [bD w ps, pD ns, .int W] Q E :=
  pla_of ok okp (wei_of h1 h2 q)
theorem e_pta_wei {w : Int} {ps ns : List Int} {v : PyData} {Q : PyData → Prop} {E : Str → Prop} (ok : okB w ps = true) (okp : okP ns = true) (h : isWhole v 0 60 = false) (q : E (Str.ofString "InvalidWeight")) : p_piers_to_add [bD w ps, pD ns, v] Q E := pla_of ok okp (wei_bad h q)
/-! ### the sorted keys -/
theorem shpA_mem {n : Nat} : ∀ {ds : List PyData}, (∀ d ∈ ds, shp n d = true) → shpA n ds = true
  | [], _ => rfl
  | d :: ds, h => by
    show (shp n d && shpA n ds) = true
    rw [h d (by simp), shpA_mem fun x hx => h x (by simp [hx])]
    rfl
theorem shp_keyD (n : Nat) (c : Int × List Int) : shp (n + 2) (keyD c) = true := by
  show (true && (true && (shp (n + 1) (rowD c.2) && true))) = true
  rw [show shp (n + 1) (rowD c.2) = true from shp_intsT n c.2]
  rfl
theorem mem_sortD {ds : List PyData} {d : PyData} : d ∈ sortD ds ↔ d ∈ ds := (List.mergeSort_perm ds _).mem_iff
theorem shpA_sorted (l : List (Int × List Int)) : shpA 59 (sortD (l.map keyD)) = true := shpA_mem fun d hd => by
  obtain ⟨c, _, rfl⟩ := List.mem_map.mp (mem_sortD.mp hd)
  exact shp_keyD 57 c
theorem sortOk_keys (l : List (Int × List Int)) : SortOk (l.map keyD) := by
  refine ⟨PySem.W.AllAlike.of fun a b => alike_key a b, PySem.W.Sortable.tuples (fun c => ⟨_, _, rfl⟩), fun d hd => ?_⟩
  obtain ⟨c, _, rfl⟩ := List.mem_map.mp hd
  exact (shp_lay (shp_keyD 62 c)).2
theorem sorted_head {l : List (Int × List Int)} (h : l ≠ []) : ∃ c, c ∈ l ∧ (sortD (l.map keyD))[0]? = some (keyD c) ∧ ∀ d ∈ l, ¬ KLt d c := by
  have hT := PySem.W.sortLe_total (PyProof.Rows.listOrd PyProof.Rows.itemOrd) false (fun b : PyData => PySem.W.keyToks b)
  have hp : (sortD (l.map keyD)).Pairwise fun a b => PySem.W.dataLe false id a b = true := List.pairwise_mergeSort (fun a b c => hT.trans a b c) (fun a b => by have := hT.total a b; simpa using this) _
  cases e : sortD (l.map keyD) with
  | nil =>
    exfalso
    cases l with
    | nil => exact h rfl
    | cons c t =>
      have : keyD c ∈ sortD ((c :: t).map keyD) := mem_sortD.mpr (by simp)
      rw [e] at this; cases this
  | cons x t =>
    have hx : x ∈ sortD (l.map keyD) := by rw [e]; simp
    obtain ⟨c, hc, rfl⟩ := List.mem_map.mp (mem_sortD.mp hx)
    refine ⟨c, hc, by simp, fun d hd z => ?_⟩
    have hd2 : keyD d ∈ sortD (l.map keyD) := mem_sortD.mpr (List.mem_map.mpr ⟨d, hd, rfl⟩)
    rw [e] at hd2 hp
    rcases List.mem_cons.mp hd2 with e2 | hd2
    · have := (key_lt d c).mpr z
      rw [e2] at this
      rw [show PySem.W.dataLt (keyD c) (keyD c) = false from PyProof.Rows.lex_irrefl _] at this
      cases this
    · have := (List.pairwise_cons.mp hp).1 _ hd2
      have h2 : (!PySem.W.dataLt (keyD d) (keyD c)) = true := this
      rw [(key_lt d c).mpr z] at h2
      cases h2
theorem klt_eq {a b : Int × List Int} (h1 : ¬ KLt a b) (h2 : ¬ KLt b a) : a = b := by
  obtain ⟨s, r⟩ := a
  obtain ⟨s', r'⟩ := b
  unfold KLt at h1 h2
  simp only at h1 h2
  have hl : r.length = r'.length := by omega
  have hs : s = s' := by omega
  have q1 : ¬ r < r' := fun z => h1 (.inr ⟨hl, .inr ⟨hs, z⟩⟩)
  have q2 : ¬ r' < r := fun z => h2 (.inr ⟨hl.symm, .inr ⟨hs.symm, z⟩⟩)
  have : r = r' := by
    have key : ∀ x y : List Int, ¬ x < y → ¬ y < x → x = y := by
      intro x
      induction x with
      | nil =>
        intro y h1 h2
        cases y with
        | nil => rfl
        | cons b y => exact absurd (List.nil_lt_cons b y) h1
      | cons a x ih =>
        intro y h1 h2
        cases y with
        | nil => exact absurd (List.nil_lt_cons a x) h2
        | cons b y =>
          rw [List.cons_lt_cons_iff] at h1 h2
          have e : a = b := by omega
          subst e
          rw [ih y (fun z => h1 (.inr ⟨rfl, z⟩)) (fun z => h2 (.inr ⟨rfl, z⟩))]
    exact key r r' q1 q2
  rw [hs, this]
theorem first_both {w : Int} {ps : List Int} {W : Int} {ns : List Int} (hs : smallP ns) (hn : ns.length ≤ 4) (h : crs w ps W ns = true) :
    ∃ c, Cr w ps W ns c ∧ fstD (allC w ps W ns) = crD c ∧ (sortD ((lawC w ps W ns).map keyD))[0]? = some (keyD c) ∧ ∀ d, Cr w ps W ns d → ¬ KLt d c := by
  obtain ⟨c0, h0⟩ := (crs_iff hs hn).mp h
  have m1 := (mem_allC hs hn).mpr h0
  have m2 := (mem_lawC hs hn).mpr h0
  obtain ⟨c, hc, ec, hmin⟩ := fst_min (l := allC w ps W ns) (fun z => by rw [z] at m1; cases m1)
  obtain ⟨d, hd, ed, hmin2⟩ := sorted_head (l := lawC w ps W ns) (fun z => by rw [z] at m2; cases m2)
  have hcr := (mem_allC hs hn).mp hc
  have hdr := (mem_lawC hs hn).mp hd
  have : c = d := klt_eq (hmin2 c ((mem_lawC hs hn).mpr hcr)) (hmin d ((mem_allC hs hn).mpr hdr))
  subst this
  exact ⟨c, hcr, ec, ed, fun x hx => hmin x ((mem_allC hs hn).mpr hx)⟩
theorem len_klt {a b : Int × List Int} (h : ¬ KLt a b) : b.2.length ≤ a.2.length := by
  unfold KLt at h
  omega
theorem law_empty {w : Int} {ps : List Int} {W : Int} {ns : List Int} (hs : smallP ns) (hn : ns.length ≤ 4) (h : crs w ps W ns = false) : lawC w ps W ns = [] := by
  have := law_crs (w := w) (ps := ps) (W := W) hs hn
  rw [h] at this
  exact List.isEmpty_iff.mp this
theorem all_empty {w : Int} {ps : List Int} {W : Int} {ns : List Int} (hs : smallP ns) (hn : ns.length ≤ 4) (h : crs w ps W ns = false) : allC w ps W ns = [] := by
  have := (law_perm (w := w) (ps := ps) (W := W) hs hn)
  rw [law_empty hs hn h] at this
  exact this.symm.eq_nil
theorem okP_more {ns : List Int} {y : Int} (okp : okP ns = true) (h : ns.length < 4) (h1 : 1 ≤ y) (h2 : y ≤ 8) : okP (sortI (ns ++ [y])) = true := by
  obtain ⟨o1, o2, o3, _⟩ := okP_spec.mp okp
  have hp := sortI_perm (ns ++ [y])
  refine okP_spec.mpr ⟨by rw [hp.length_eq]; simp, by rw [hp.length_eq]; simp; omega, fun x hx => ?_, ascLe_pairwise.mpr (sortI_pair _)⟩
  rcases List.mem_append.mp (hp.mem_iff.mp hx) with hx | hx
  · exact o3 x hx
  · have : x = y := by simpa using hx
    omega
theorem count_more (ns : List Int) (y x : Int) : ns.count x ≤ (sortI (ns ++ [y])).count x := by
  rw [(sortI_perm (ns ++ [y])).count_eq, List.count_append]
  omega
/-! ### the points to add, plainly -/
theorem sortI_congr {l m : List Int} (h : l.Perm m) : sortI l = sortI m :=
  List.Perm.eq_of_pairwise (le := (· ≤ ·)) (fun a b _ _ h1 h2 => Int.le_antisymm h1 h2) (sortI_pair l) (sortI_pair m) ((sortI_perm l).trans (h.trans (sortI_perm m).symm))
theorem lvN_eq {w : Int} {ps : List Int} (ok : okB w ps = true) : ∀ (k : Nat) (c : List Int × List Int), c ∈ lvN w ps k → c.2 = sortI (ps ++ c.1)
  | 0, c, h => by
    have : c = ([], ps) := by simpa [lvN] using h
    subst this
    show ps = sortI (ps ++ [])
    rw [List.append_nil, sortI_id (okB_asc ok)]
  | k + 1, c, h => by
    obtain ⟨d, hd, hc⟩ := List.mem_flatMap.mp (show c ∈ (lvN w ps k).flatMap (nextA w ps) from h)
    have D := lvN_eq ok k d hd
    unfold nextA at hc
    split at hc
    · obtain ⟨x, hx, rfl⟩ := List.mem_map.mp hc
      show sortI (d.2 ++ [x]) = sortI (ps ++ (d.1 ++ [x]))
      refine sortI_congr ?_
      rw [D, ← List.append_assoc]
      exact (sortI_perm _).append_right _
    · cases hc
/-- the law's points, none, one, two -/
def som0 : List (List Int) := [[]]
def som1 (w : Int) (ps : List Int) : List (List Int) := (freeP w ps).map fun x => [x]
def som2 (w : Int) (ps : List Int) : List (List Int) := (freeP w ps).flatMap fun x => ((freeP w ps).filter fun y => decide (x < y)).map fun y => [x, y]
def prdA (w : Int) (ps : List Int) (W : Int) (ns : List Int) (a : List Int) : Bool := decide (ps.length + a.length ≤ 5) && crs w (sortI (ps ++ a)) W ns
theorem freeP_asc (w : Int) (ps : List Int) : (freeP w ps).Pairwise (· < ·) := (range_asc 1 (w - 1).toNat).filter _
theorem freeA_nil (w : Int) (ps : List Int) : freeA w ps [] = freeP w ps := rfl
theorem freeA_one {w x : Int} {ps : List Int} (hx : 1 ≤ x) : freeA w ps [x] = (freeP w ps).filter fun y => decide (x < y) := by
  refine asc_ext (upTo_asc _ _ _) ((freeP_asc w ps).filter _) fun y => ?_
  unfold freeA
  rw [mem_upTo, List.mem_filter, mem_freeP]
  show ((x + 1 ≤ y ∧ y < x + 1 + (((w - (x + 1)).toNat : Nat) : Int)) ∧ (!decide (y ∈ ps)) = true) ↔ _
  simp only [Bool.not_eq_true', decide_eq_false_iff_not, decide_eq_true_eq]
  constructor
  · rintro ⟨⟨h1, h2⟩, h3⟩; exact ⟨⟨⟨by omega, by omega⟩, h3⟩, by omega⟩
  · rintro ⟨⟨⟨h1, h2⟩, h3⟩, h4⟩; exact ⟨⟨by omega, by omega⟩, h3⟩
theorem lv0_map (w : Int) {ps : List Int} (h : ps.length ≤ 5) : (lvN w ps 0).map (·.1) = som0.filter fun a => decide (ps.length + a.length ≤ 5) := by
  unfold som0 lvN
  rw [List.filter_cons_of_pos (by simpa using h)]
  rfl
theorem lv1_eq {w : Int} {ps : List Int} (h : ps.length < 5) : lvN w ps 1 = (freeP w ps).map fun x => ([x], sortI (ps ++ [x])) := by
  show [([], ps)].flatMap (nextA w ps) = _
  rw [List.flatMap_cons, List.flatMap_nil, List.append_nil]
  unfold nextA
  rw [if_pos h]
  rfl
theorem lv1_nil {w : Int} {ps : List Int} (h : ¬ ps.length < 5) : lvN w ps 1 = [] := by
  show [([], ps)].flatMap (nextA w ps) = _
  rw [List.flatMap_cons, List.flatMap_nil, List.append_nil]
  unfold nextA
  rw [if_neg h]
theorem lv1_map (w : Int) (ps : List Int) : (lvN w ps 1).map (·.1) = (som1 w ps).filter fun a => decide (ps.length + a.length ≤ 5) := by
  unfold som1
  by_cases h : ps.length < 5
  · rw [lv1_eq h, List.map_map, List.filter_eq_self.mpr]
    · rfl
    · intro a ha
      obtain ⟨x, _, rfl⟩ := List.mem_map.mp ha
      simp; omega
  · rw [lv1_nil h, List.filter_eq_nil_iff.mpr]
    · rfl
    · intro a ha
      obtain ⟨x, _, rfl⟩ := List.mem_map.mp ha
      simp; omega
theorem flat_congr {α β : Type} {f g : α → List β} : ∀ {l : List α}, (∀ x ∈ l, f x = g x) → l.flatMap f = l.flatMap g
  | [], _ => rfl
  | x :: t, h => by
    rw [List.flatMap_cons, List.flatMap_cons, h x (by simp), flat_congr fun y hy => h y (by simp [hy])]
theorem lv2_map (w : Int) (ps : List Int) : (lvN w ps 2).map (·.1) = (som2 w ps).filter fun a => decide (ps.length + a.length ≤ 5) := by
  unfold som2
  show ((lvN w ps 1).flatMap (nextA w ps)).map (·.1) = _
  by_cases h : ps.length + 2 ≤ 5
  · rw [lv1_eq (by omega), List.flatMap_map, List.map_flatMap, List.filter_eq_self.mpr]
    · refine flat_congr fun x hx => ?_
      unfold nextA
      have hl : (sortI (ps ++ [x])).length < 5 := by rw [(sortI_perm _).length_eq]; simp; omega
      rw [if_pos hl, freeA_one (mem_freeP.mp hx).1.1, List.map_map]
      rfl
    · intro a ha
      obtain ⟨x, _, hx⟩ := List.mem_flatMap.mp ha
      obtain ⟨y, _, rfl⟩ := List.mem_map.mp hx
      simp; omega
  · rw [List.filter_eq_nil_iff.mpr]
    · have : (lvN w ps 1).flatMap (nextA w ps) = [] := by
        rw [List.flatMap_eq_nil_iff]
        intro c hc
        by_cases h5 : ps.length < 5
        · rw [lv1_eq h5] at hc
          obtain ⟨x, _, rfl⟩ := List.mem_map.mp hc
          unfold nextA
          rw [if_neg]
          show ¬ (sortI (ps ++ [x])).length < 5
          rw [(sortI_perm _).length_eq]; simp; omega
        · rw [lv1_nil h5] at hc; cases hc
      rw [this]; rfl
    · intro a ha
      obtain ⟨x, _, hx⟩ := List.mem_flatMap.mp ha
      obtain ⟨y, _, rfl⟩ := List.mem_map.mp hx
      simp; omega
theorem find_congr {α : Type} {p q : α → Bool} : ∀ {l : List α}, (∀ x ∈ l, p x = q x) → l.find? p = l.find? q
  | [], _ => rfl
  | x :: t, h => by
    rw [List.find?_cons, List.find?_cons, h x (by simp), find_congr fun y hy => h y (by simp [hy])]
theorem hit_find {w : Int} {ps : List Int} {W : Int} {ns : List Int} (ok : okB w ps = true) {k : Nat} {S : List (List Int)} (h : (lvN w ps k).map (·.1) = S.filter fun a => decide (ps.length + a.length ≤ 5)) : hitA w W ns (lvN w ps k) = S.find? (prdA w ps W ns) := by
  have e1 : hitA w W ns (lvN w ps k) = ((lvN w ps k).map (·.1)).find? fun a => crs w (sortI (ps ++ a)) W ns := by
    unfold hitA
    rw [List.find?_map]
    congr 1
    exact find_congr fun c hc => by rw [lvN_eq ok k c hc]; rfl
  rw [e1, h, List.find?_filter]
  exact find_congr fun a _ => by
    unfold prdA
    by_cases z : ps.length + a.length ≤ 5 <;> simp [z]
theorem pta_find {w : Int} {ps : List Int} {W : Int} {ns : List Int} (ok : okB w ps = true) : pta w ps W ns = (som0 ++ som1 w ps ++ som2 w ps).find? (prdA w ps W ns) := by
  have h5 := (okB_spec.mp ok).2.2.1
  rw [List.find?_append, List.find?_append, ← hit_find ok (lv0_map w h5), ← hit_find ok (lv1_map w ps), ← hit_find ok (lv2_map w ps)]
  unfold pta ptaF
  cases hitA w W ns (lvN w ps 0) with
  | some a => rfl
  | none =>
    simp only [Option.none_or]
    unfold ptaF
    cases hitA w W ns (lvN w ps 1) with
    | some a => rfl
    | none =>
      simp only [Option.none_or]
      unfold ptaF
      cases hitA w W ns (lvN w ps 2) <;> rfl
theorem eqv_pta (o : Option (List Int)) : PyData.eqv (ptaD o) (ptaD o) = true := by
  cases o with
  | none => rfl
  | some a => show PyData.eqv (.tuple (a.map .int)) (.tuple (a.map .int)) = true; rw [eqv_intsT]; simp
theorem shp_pta (o : Option (List Int)) : shp 60 (ptaD o) = true := by
  cases o with
  | none => rfl
  | some a => exact shp_intsT 59 a
/-- what is found crosses, and is on a level -/
theorem pta_lv {w : Int} {ps : List Int} {W : Int} {ns : List Int} {a : List Int} (ok : okB w ps = true) (h : pta w ps W ns = some a) : ∃ k c, LvOk w ps k c ∧ c.2 = sortI (ps ++ c.1) ∧ a = c.1 ∧ crs w c.2 W ns = true := by
  have key : ∀ k, hitA w W ns (lvN w ps k) = some a → ∃ k c, LvOk w ps k c ∧ c.2 = sortI (ps ++ c.1) ∧ a = c.1 ∧ crs w c.2 W ns = true := by
    intro k hk
    unfold hitA at hk
    obtain ⟨c, hc, rfl⟩ := Option.map_eq_some_iff.mp hk
    exact ⟨k, c, lvN_ok ok k c (List.mem_of_find?_eq_some hc), lvN_eq ok k c (List.mem_of_find?_eq_some hc), rfl, by have := List.find?_some (p := fun c : List Int × List Int => crs w c.2 W ns) hc; exact this⟩
  unfold pta ptaF at h
  cases e0 : hitA w W ns (lvN w ps 0) with
  | some b => rw [e0] at h; cases h; exact key 0 e0
  | none =>
    rw [e0] at h
    simp only at h
    unfold ptaF at h
    cases e1 : hitA w W ns (lvN w ps 1) with
    | some b => rw [e1] at h; cases h; exact key 1 e1
    | none =>
      rw [e1] at h
      simp only at h
      unfold ptaF at h
      cases e2 : hitA w W ns (lvN w ps 2) with
      | some b => rw [e2] at h; cases h; exact key 2 e2
      | none => rw [e2] at h; simp only at h; unfold ptaF at h; cases h
theorem pta_nil {w : Int} {ps : List Int} {W : Int} {ns : List Int} (ok : okB w ps = true) (h : pta w ps W ns = some []) : crs w ps W ns = true := by
  obtain ⟨k, c, _, e1, e2, e3⟩ := pta_lv ok h
  rw [e1, ← e2, List.append_nil, sortI_id (okB_asc ok)] at e3
  exact e3
/-- the points one by one -/
theorem okB_take {w : Int} {ps a : List Int} (ok : okB w (sortI (ps ++ a)) = true) (j : Nat) : okB w (sortI (ps ++ a.take j)) = true := by
  obtain ⟨h1, h2, h3, h4, h5⟩ := okB_spec.mp ok
  have hsub : (ps ++ a.take j).Sublist (ps ++ a) := List.Sublist.append (List.Sublist.refl _) (List.take_sublist _ _)
  have pm := sortI_perm (ps ++ a)
  have pt := sortI_perm (ps ++ a.take j)
  have nd : (ps ++ a).Nodup := pm.nodup_iff.mp (nodup_asc (asc_pairwise.mp h5))
  have nd2 : (sortI (ps ++ a.take j)).Nodup := pt.nodup_iff.mpr (nd.sublist hsub)
  refine okB_spec.mpr ⟨h1, h2, ?_, fun x hx => h4 x (pm.mem_iff.mpr (hsub.subset (pt.mem_iff.mp hx))), asc_pairwise.mpr ?_⟩
  · rw [pt.length_eq]; rw [pm.length_eq] at h3; exact Nat.le_trans hsub.length_le h3
  · exact (List.Pairwise.and (sortI_pair _) nd2).imp fun ⟨h1, h2⟩ => by omega
theorem take_new {w : Int} {ps a : List Int} (ok : okB w (sortI (ps ++ a)) = true) {j : Nat} {x : Int} (hx : a[j]? = some x) : (sortI (ps ++ a.take j)).length < 5 ∧ (1 ≤ x ∧ x ≤ w - 1) ∧ x ∉ sortI (ps ++ a.take j) := by
  obtain ⟨h1, h2, h3, h4, h5⟩ := okB_spec.mp ok
  have pm := sortI_perm (ps ++ a)
  have pt := sortI_perm (ps ++ a.take j)
  have nd : (ps ++ a).Nodup := pm.nodup_iff.mp (nodup_asc (asc_pairwise.mp h5))
  have hj := (List.getElem?_eq_some_iff.mp hx).1
  refine ⟨?_, h4 x (pm.mem_iff.mpr (List.mem_append_right _ (List.mem_of_getElem? hx))), fun z => ?_⟩
  · rw [pm.length_eq, List.length_append] at h3
    rw [pt.length_eq, List.length_append, List.length_take]; omega
  · have z := pt.mem_iff.mp z
    rw [List.nodup_append] at nd
    rcases List.mem_append.mp z with z | z
    · exact nd.2.2 x z x (List.mem_of_getElem? hx) rfl
    · obtain ⟨i, hi, e⟩ := List.mem_iff_getElem.mp z
      rw [List.length_take] at hi
      rw [List.getElem_take] at e
      have e2 : a[j] = x := (List.getElem?_eq_some_iff.mp hx).2
      have := (List.nodup_iff_pairwise_ne.mp nd.2.1)
      rw [List.pairwise_iff_getElem] at this
      exact this i j (by omega) hj (by omega) (by rw [e, e2])
theorem sortI_snoc (ps a : List Int) (x : Int) : sortI (sortI (ps ++ a) ++ [x]) = sortI (ps ++ (a ++ [x])) := by
  refine sortI_congr ?_
  rw [← List.append_assoc]
  exact (sortI_perm _).append_right _
def somS (w : Int) (ps : List Int) : List (List Int) := som0 ++ som1 w ps ++ som2 w ps
theorem somS_ok {w : Int} {ps : List Int} (ok : okB w ps = true) {a : List Int} (h : a ∈ somS w ps) (h5 : ps.length + a.length ≤ 5) : okB w (sortI (ps ++ a)) = true := by
  have hp := (okB_spec.mp ok).2.2.1
  have key : ∀ k (S : List (List Int)), (lvN w ps k).map (·.1) = S.filter (fun a => decide (ps.length + a.length ≤ 5)) → a ∈ S → okB w (sortI (ps ++ a)) = true := fun k S e ha => by
    have : a ∈ (lvN w ps k).map (·.1) := by rw [e]; exact List.mem_filter.mpr ⟨ha, decide_eq_true h5⟩
    obtain ⟨c, hc, rfl⟩ := List.mem_map.mp this
    have := (lvN_ok ok k c hc).ok
    rw [lvN_eq ok k c hc] at this
    exact this
  unfold somS at h
  rcases List.mem_append.mp h with h | h
  · rcases List.mem_append.mp h with h | h
    · exact key 0 _ (lv0_map w hp) h
    · exact key 1 _ (lv1_map w ps) h
  · exact key 2 _ (lv2_map w ps) h
theorem freeP_le {w : Int} {ps : List Int} (hw : w ≤ 12) : (freeP w ps).length ≤ 12 := by
  have := freeP_len (w := w) (ps := ps)
  omega
def two (F : List Int) (x : Int) : List (List Int) := (F.filter fun y => decide (x < y)).map fun y => [x, y]
theorem two_len (F : List Int) (x : Int) : (two F x).length ≤ F.length := by
  unfold two; rw [List.length_map]; exact List.length_filter_le _ _
theorem som_len {w : Int} {ps : List Int} (hw : w ≤ 12) (i : Nat) : (som0 ++ som1 w ps ++ ((freeP w ps).take i).flatMap (two (freeP w ps))).length ≤ 200 := by
  have h1 := freeP_le (w := w) (ps := ps) hw
  have h2 := flat_len (two (freeP w ps)) 12 ((freeP w ps).take i) fun x _ => Nat.le_trans (two_len _ x) h1
  have h3 : ((freeP w ps).take i).length ≤ 12 := by rw [List.length_take]; omega
  have h4 := Nat.mul_le_mul_right 12 h3
  rw [List.length_append, List.length_append]
  unfold som0 som1
  rw [List.length_map]
  simp only [List.length_cons, List.length_nil]
  omega
theorem ifS_t {t : TDT} {A B rest : TDS} {ρ : Ds} {τ : Rs} {De : DEnds} (ht : ∀ (Q : Bool → Rs → Prop) (E : Str → Rs → Prop), Q true τ → t ρ τ Q E) (h : A ρ τ { De with nx := fun ρ' τ' => rest ρ' τ' De }) : dSeq (dIfS t A B) rest ρ τ De := ht _ _ (ifT rfl h)
theorem set_var {i j : Nat} {g : TDS} {ρ : Ds} {τ : Rs} {De : DEnds} {x : PyData} (hx : ρ[j]? = some (.da x)) (h : g (ρ.set i (.da x)) τ De) : dSeq (dSet i (dVar j)) g ρ τ De := by
  unfold dSeq dSet dVar
  simp only [hx]
  exact h
theorem ifS_f {t : TDT} {A rest : TDS} {ρ : Ds} {τ : Rs} {De : DEnds} (ht : ∀ (Q : Bool → Rs → Prop) (E : Str → Rs → Prop), Q false τ → t ρ τ Q E) (h : rest ρ τ De) : dSeq (dIfS t A dNext) rest ρ τ De := ht _ _ (ifF rfl h)
/-! ### bridges -/
def prD (x : Int × Int) : PyData := .tuple [.int x.1, .int x.2]
def laD (xs : List (Int × Int)) : PyData := .tuple (xs.map prD)
def brS (w : Int) (ps : List Int) (xs : List (Int × Int)) (es us : List (List (Int × Int))) : RS :=
  .bri [(Str.ofString "brook", bD w ps), (Str.ofString "some", laD xs), (Str.ofString "earlier", .list (es.map laD)), (Str.ofString "undone", .list (us.map laD))]
def le2 (a b : Int × Int) : Bool := decide (a.1 < b.1 ∨ (a.1 = b.1 ∧ a.2 ≤ b.2))
def srt (xs : List (Int × Int)) : List (Int × Int) := xs.mergeSort le2
theorem sortD_pairs (xs : List (Int × Int)) : sortD (xs.map prD) = (srt xs).map prD := by
  unfold sortD srt
  refine (PySem.W.sort_maps (r := le2) prD fun a _ b _ => ?_).symm
  have := congrFun (congrFun (PySem.W.dataLe_ii (fun x : Int × Int => x.1) (fun x => x.2)) a) b
  exact this.symm
theorem shp_prD (n : Nat) (x : Int × Int) : shp (n + 1) (prD x) = true := by cases n <;> rfl
theorem shpA_prs (n : Nat) : ∀ xs : List (Int × Int), shpA (n + 1) (xs.map prD) = true
  | [] => rfl
  | x :: xs => by
    show (shp (n + 1) (prD x) && shpA (n + 1) (xs.map prD)) = true
    rw [shp_prD, shpA_prs n xs]; rfl
theorem shp_laD (n : Nat) (xs : List (Int × Int)) : shp (n + 2) (laD xs) = true := shpA_prs n xs
theorem shpA_las (n : Nat) : ∀ es : List (List (Int × Int)), shpA (n + 2) (es.map laD) = true
  | [] => rfl
  | x :: xs => by
    show (shp (n + 2) (laD x) && shpA (n + 2) (xs.map laD)) = true
    rw [shp_laD, shpA_las n xs]; rfl
theorem sortOk_pairs (xs : List (Int × Int)) : SortOk (xs.map prD) := by
  refine ⟨PySem.W.AllAlike.of fun a b => ?_, PySem.W.Sortable.tuples (fun c => ⟨_, _, rfl⟩), fun d hd => ?_⟩
  · unfold prD
    simp only [PySem.W.alike, PySem.W.alikeAll, Bool.and_self]
  · obtain ⟨c, _, rfl⟩ := List.mem_map.mp hd
    exact (shp_lay (shp_prD 63 c)).2
theorem eqv_prD (a b : Int × Int) : PyData.eqv (prD a) (prD b) = decide (a = b) := by
  obtain ⟨a1, a2⟩ := a
  obtain ⟨b1, b2⟩ := b
  have := eqv_intsT [a1, a2] [b1, b2]
  refine (show PyData.eqv (prD (a1, a2)) (prD (b1, b2)) = _ from this).trans ?_
  simp
theorem eqvAll_prs : ∀ (xs ys : List (Int × Int)), PyData.eqvAll (xs.map prD) (ys.map prD) = decide (xs = ys)
  | [], [] => rfl
  | [], _ :: _ => rfl
  | _ :: _, [] => rfl
  | x :: xs, y :: ys => by
    show (PyData.eqv (prD x) (prD y) && PyData.eqvAll (xs.map prD) (ys.map prD)) = _
    rw [eqv_prD, eqvAll_prs xs ys]
    by_cases h1 : x = y <;> by_cases h2 : xs = ys <;> simp [h1, h2]
theorem eqv_laD (xs ys : List (Int × Int)) : PyData.eqv (laD xs) (laD ys) = decide (xs = ys) := eqvAll_prs xs ys
theorem srt_id {l : List (Int × Int)} (h : l.Pairwise fun a b => le2 a b = true) : srt l = l := List.mergeSort_of_pairwise h
theorem srt_len (xs : List (Int × Int)) : (srt xs).length = xs.length := List.length_mergeSort _
/-- a plank of this place and length lies over another one -/
def ovl (xs : List (Int × Int)) (p l : Int) : Bool := xs.any fun x => decide (p < x.1 + x.2) && decide (x.1 < p + l)
def r_Bridge___init__ : Rf := fun s ds Q E => s = .bri [] ∧ ∃ b, ds = [b] ∧ (match brookOf b with
  | some (w, ps) => Q .none (brS w ps [] [] [])
  | none => E (Str.ofString "InvalidBrook") (.bri []))
def N_Bridge___init__ : List Str := [Str.ofString "self", Str.ofString "brook"]
def body_Bridge___init__ : TDS := dSeq (dExpr (dCallPJ p_need_brook (dCons (dVar 1) (dNil))))
  (dSeq (dFldS (Str.ofString "brook") (dVar 0) (dVar 1))
  (dSeq (dFldS (Str.ofString "some") (dVar 0) (dTup (dNil)))
  (dSeq (dFldS (Str.ofString "earlier") (dVar 0) (dLst (dNil)))
  (dFldS (Str.ofString "undone") (dVar 0) (dLst (dNil))))))

theorem wp_Bridge___init__ : ∀ s ds (Qa : PyData → Rs → Prop) (Er : Str → Rs → Prop), r_Bridge___init__ s ds (fun d s' => Qa d [s']) (fun n s' => Er n [s']) → body_Bridge___init__ (startD N_Bridge___init__ (.res 0 :: ds.map Sl.da)) [s] { nx := fun _ τ' => Qa .none (τ'.take 1), rt := fun d τ' => Qa d (τ'.take 1), er := fun n τ' => Er n (τ'.take 1) } := by
  rintro s ds Qa Er ⟨rfl, b, rfl, h⟩
  refine ⟨?_⟩
  show if (brookOf b).isSome = true then _ else _
  cases q : brookOf b with
  | none => rw [q] at h; exact ifF rfl h
  | some z =>
    obtain ⟨w, ps⟩ := z
    rw [q] at h
    obtain ⟨rfl, ok⟩ := brookOf_some q
    refine ifT rfl ⟨by show 0 < 100; decide, by show 1 < 100; decide, by show 2 < 100; decide, by show 3 < 100; decide, ?_⟩
    exact h
theorem len_Bridge___init__ : ∀ s ds Qa Er, r_Bridge___init__ s ds Qa Er → ds.length + 1 = 2 := by
  rintro s ds Qa Er ⟨rfl, b, rfl, h⟩
  rfl
def r_Bridge_change : Rf := fun s ds Q _ => ∃ w ps xs es us ys, s = brS w ps xs es us ∧ ds = [laD ys] ∧ es.length ≤ 1000 ∧ Q .none (brS w ps ys (es ++ [xs]) [])
def N_Bridge_change : List Str := [Str.ofString "self", Str.ofString "planks"]
def body_Bridge_change : TDS := dSeq (dFldS (Str.ofString "earlier") (dVar 0) (dBin oPlus (dFld (Str.ofString "earlier") (dVar 0)) (dLst (dCons (dFld (Str.ofString "some") (dVar 0)) (dNil)))))
  (dSeq (dFldS (Str.ofString "undone") (dVar 0) (dLst (dNil)))
  (dFldS (Str.ofString "some") (dVar 0) (dVar 1)))

theorem wp_Bridge_change : ∀ s ds (Qa : PyData → Rs → Prop) (Er : Str → Rs → Prop), r_Bridge_change s ds (fun d s' => Qa d [s']) (fun n s' => Er n [s']) → body_Bridge_change (startD N_Bridge_change (.res 0 :: ds.map Sl.da)) [s] { nx := fun _ τ' => Qa .none (τ'.take 1), rt := fun d τ' => Qa d (τ'.take 1), er := fun n τ' => Er n (τ'.take 1) } := by
  rintro s ds Qa Er ⟨w, ps, xs, es, us, ys, rfl, rfl, hl, h⟩
  refine ⟨by show (es.map laD).length + 1 ≤ 1000000; rw [List.length_map]; omega, by show 4 < 100; decide, by show 4 < 100; decide, by show 4 < 100; decide, ?_⟩
  have h : Qa .none [brS w ps ys (es ++ [xs]) []] := h
  unfold brS at h
  rw [List.map_append] at h
  exact h
theorem len_Bridge_change : ∀ s ds Qa Er, r_Bridge_change s ds Qa Er → ds.length + 1 = 2 := by
  rintro s ds Qa Er ⟨w, ps, xs, es, us, ys, rfl, rfl, hl, h⟩
  rfl
def layK (w : Int) (ps : List Int) (xs : List (Int × Int)) (l p : PyData) (k : Int → Int → Prop) (E : Str → Prop) : Prop :=
  if isWhole l 1 8 = true then (if isWhole p (-8) 12 = true then (match l, p with
    | .int l, .int p => if lie w ps l p = true then (if ovl xs p l = true then E (Str.ofString "Overlap") else k l p) else E (Str.ofString "NotFirm")
    | _, _ => False) else E (Str.ofString "InvalidPlace")) else E (Str.ofString "InvalidLength")
def r_Bridge_lay : Rf := fun s ds Q E => ∃ w ps xs es us l p, s = brS w ps xs es us ∧ ds = [l, p] ∧ ps.length ≤ 1000 ∧ es.length ≤ 1000 ∧ xs.length ≤ 1000 ∧
  layK w ps xs l p (fun l p => Q (.int (xs.length + 1 : Nat)) (brS w ps (srt (xs ++ [(p, l)])) (es ++ [xs]) [])) (fun n => E n s)
def N_Bridge_lay : List Str := [Str.ofString "self", Str.ofString "length", Str.ofString "place", Str.ofString "other", Str.ofString "size"]
def body_Bridge_lay : TDS := dSeq (dExpr (dCallPJ p_need_length (dCons (dVar 1) (dNil))))
  (dSeq (dExpr (dCallPJ p_need_place (dCons (dVar 2) (dNil))))
  (dSeq (dIfS (dNotT (dB (dCallPJ p_lies (dCons (dFld (Str.ofString "brook") (dVar 0)) (dCons (dVar 1) (dCons (dVar 2) (dNil))))))) (dRaise (Str.ofString "NotFirm")) (dNext))
  (dSeq (dIfS (dB (dCB oAny (dCons (dComp [3, 4] (dISeq (dFld (Str.ofString "some") (dVar 0))) (gTup 2 (gCons (gName 3) (gCons (gName 4) (gNil)))) (dYes) (dAnd (dBin oLt (dVar 2) (dBin oPlus (dVar 3) (dVar 4))) (dBin oLt (dVar 3) (dBin oPlus (dVar 2) (dVar 1))))) (dNil)))) (dRaise (Str.ofString "Overlap")) (dNext))
  (dSeq (dExpr (dMeth (Str.ofString "change") r_Bridge_change (dVar 0) (dCons (dCB oTup (dCons (dCB oSort (dCons (dBin oPlus (dFld (Str.ofString "some") (dVar 0)) (dTup (dCons (dTup (dCons (dVar 2) (dCons (dVar 1) (dNil)))) (dNil)))) (dNil))) (dNil))) (dNil))))
  (dRet (dCB oLen (dCons (dFld (Str.ofString "some") (dVar 0)) (dNil))))))))

theorem wp_Bridge_lay : ∀ s ds (Qa : PyData → Rs → Prop) (Er : Str → Rs → Prop), r_Bridge_lay s ds (fun d s' => Qa d [s']) (fun n s' => Er n [s']) → body_Bridge_lay (startD N_Bridge_lay (.res 0 :: ds.map Sl.da)) [s] { nx := fun _ τ' => Qa .none (τ'.take 1), rt := fun d τ' => Qa d (τ'.take 1), er := fun n τ' => Er n (τ'.take 1) } := by
  rintro s ds Qa Er ⟨w, ps, xs, es, us, l, p, rfl, rfl, hp, he, hx, h⟩
  unfold layK at h
  refine ⟨?_⟩
  show if isWhole l 1 8 = true then _ else _
  refine if2 (fun z => ?_) (fun z => by rw [z] at h; exact h)
  rw [if_pos z] at h
  refine ⟨?_⟩
  show if isWhole p (-8) 12 = true then _ else _
  refine if2 (fun z2 => ?_) (fun z2 => by rw [z2] at h; exact h)
  rw [if_pos z2] at h
  obtain ⟨l, rfl, l1, l2⟩ := isWhole_true z
  obtain ⟨p, rfl, p1, p2⟩ := isWhole_true z2
  replace h : if lie w ps l p = true then (if ovl xs p l = true then Er (Str.ofString "Overlap") [brS w ps xs es us] else Qa (.int (xs.length + 1 : Nat)) [brS w ps (srt (xs ++ [(p, l)])) (es ++ [xs]) []]) else Er (Str.ofString "NotFirm") [brS w ps xs es us] := h
  refine ⟨c_lies ⟨by omega, hp⟩ ?_⟩
  show if (!lie w ps l p) = true then _ else _
  cases q : lie w ps l p with
  | false => rw [q] at h; exact ifT rfl h
  | true =>
    rw [q, if_pos rfl] at h
    refine ifF rfl ?_
    show compD _ _ _ _ _ _ (xs.map prD) _ []
    refine compD_map (fun d => match d with
      | .tuple [.int a, .int b] => .bool (decide (p < a + b) && decide (a < p + l))
      | _ => .none) _ (fun d hd A hA => ?_) ?_
    · obtain ⟨⟨a, b⟩, hm, rfl⟩ := List.mem_map.mp hd
      refine ⟨rfl, ?_⟩
      replace hA : A (.da (.bool (decide (p < a + b) && decide (a < p + l)))) _ := hA
      show if decide (p < a + b) = true then _ else _
      cases q1 : decide (p < a + b) with
      | false => rw [q1] at hA; exact hA
      | true => rw [q1] at hA; exact hA
    · refine ⟨xs.map fun x => decide (p < x.1 + x.2) && decide (x.1 < p + l), by rw [List.map_map, List.map_map]; rfl, ?_⟩
      have eo : (xs.map fun x => decide (p < x.1 + x.2) && decide (x.1 < p + l)).any id = ovl xs p l := by
        unfold ovl; rw [List.any_map]; rfl
      show if ((xs.map fun x => decide (p < x.1 + x.2) && decide (x.1 < p + l)).any id) = true then _ else _
      rw [eo]
      cases q2 : ovl xs p l with
      | true => rw [q2] at h; exact ifT rfl h
      | false =>
        rw [q2, if_neg Bool.false_ne_true] at h
        refine ifF rfl ?_
        have e2 : xs.map prD ++ [prD (p, l)] = (xs ++ [(p, l)]).map prD := by simp
        refine ⟨rfl, ?_, ?_, ?_⟩
        · show (xs.map prD).length + 1 ≤ 1000000
          rw [List.length_map]; omega
        · show SortOk (xs.map prD ++ [prD (p, l)])
          rw [e2]; exact sortOk_pairs _
        · refine ⟨rfl, w, ps, xs, es, us, srt (xs ++ [(p, l)]), rfl, ?_, he, ?_⟩
          · show [PyData.tuple (sortD (xs.map prD ++ [prD (p, l)]))] = _
            rw [e2, sortD_pairs]; rfl
          · show Qa (.int (((srt (xs ++ [(p, l)])).map prD).length : Nat)) [brS w ps (srt (xs ++ [(p, l)])) (es ++ [xs]) []]
            rw [List.length_map, srt_len, List.length_append]
            exact h
theorem len_Bridge_lay : ∀ s ds Qa Er, r_Bridge_lay s ds Qa Er → ds.length + 1 = 3 := by
  rintro s ds Qa Er ⟨w, ps, xs, es, us, l, p, rfl, rfl, h⟩
  rfl
def r_Bridge_take : Rf := fun s ds Q E => ∃ w ps xs es us v, s = brS w ps xs es us ∧ ds = [v] ∧ es.length ≤ 1000 ∧ xs.length ≤ 1000 ∧
  ((∃ i : Nat, ∃ x, v = .int (i : Int) ∧ xs[i]? = some x ∧ Q (prD x) (brS w ps (xs.take i ++ xs.drop (i + 1)) (es ++ [xs]) [])) ∨ (isWhole v 0 ((xs.length : Int) - 1) = false ∧ E (Str.ofString "InvalidIndex") s))
def N_Bridge_take : List Str := [Str.ofString "self", Str.ofString "index", Str.ofString "one"]
def body_Bridge_take : TDS := dSeq (dIfS (dNotT (dB (dCallPJ p_is_whole (dCons (dVar 1) (dCons (dC (.int 0)) (dCons (dBin oSub (dCB oLen (dCons (dFld (Str.ofString "some") (dVar 0)) (dNil))) (dC (.int 1))) (dNil))))))) (dRaise (Str.ofString "InvalidIndex")) (dNext))
  (dSeq (dSet 2 (dBin oIx (dFld (Str.ofString "some") (dVar 0)) (dVar 1)))
  (dSeq (dExpr (dMeth (Str.ofString "change") r_Bridge_change (dVar 0) (dCons (dBin oPlus (dSl (dFld (Str.ofString "some") (dVar 0)) (dNo) (dSo (dVar 1))) (dSl (dFld (Str.ofString "some") (dVar 0)) (dSo (dBin oPlus (dVar 1) (dC (.int 1)))) (dNo))) (dNil))))
  (dRet (dVar 2))))

theorem cut_lo2 {xs : List (Int × Int)} {j : Nat} (h : j ≤ xs.length) : cutD (xs.map prD) none (some (j : Int)) = (xs.take j).map prD := by
  rw [cut_take, List.map_take]
theorem cut_hi2 {xs : List (Int × Int)} {j : Nat} (h : j < xs.length) : cutD (xs.map prD) (some ((j : Int) + 1)) none = (xs.drop (j + 1)).map prD := by
  unfold cutD
  rw [HT.sIx_none, show ((j : Int) + 1) = ((j + 1 : Nat) : Int) by omega, HT.sIx_nat, List.length_map, Nat.min_eq_left (by omega), List.map_drop, List.take_of_length_le (by rw [List.length_drop, List.length_map]; exact Nat.le_refl _)]
theorem wp_Bridge_take : ∀ s ds (Qa : PyData → Rs → Prop) (Er : Str → Rs → Prop), r_Bridge_take s ds (fun d s' => Qa d [s']) (fun n s' => Er n [s']) → body_Bridge_take (startD N_Bridge_take (.res 0 :: ds.map Sl.da)) [s] { nx := fun _ τ' => Qa .none (τ'.take 1), rt := fun d τ' => Qa d (τ'.take 1), er := fun n τ' => Er n (τ'.take 1) } := by
  rintro s ds Qa Er ⟨w, ps, xs, es, us, v, rfl, rfl, he, hx, h⟩
  refine ⟨?_⟩
  show if (!isWhole v 0 (((xs.map prD).length : Nat) - 1)) = true then _ else _
  rw [List.length_map]
  rcases h with ⟨i, x, rfl, hi, h⟩ | ⟨hw, h⟩
  · have hl := (List.getElem?_eq_some_iff.mp hi).1
    rw [whole_of (by omega) (by omega)]
    refine ifF rfl ?_
    have hat : atI (xs.map prD) (i : Int) = some (prD x) := atI_nat (by rw [List.getElem?_map, hi]; rfl)
    refine ix_go (τ := [brS w ps xs es us]) (x := .da (laD xs)) rfl rfl hat ?_
    refine ⟨rfl, ?_⟩
    have e3 : oPlus (.da (.tuple (cutD (xs.map prD) none (some (i : Int))))) (.da (.tuple (cutD (xs.map prD) (some ((i : Int) + 1)) none))) [brS w ps xs es us] (fun z => callR1 r_Bridge_change [brS w ps xs es us] [.res 0, .da z] (fun d τ3 => Qa (prD x) (τ3.take 1)) (fun n τ' => Er n (τ'.take 1))) := by
      rw [cut_lo2 (by omega), cut_hi2 hl]
      refine ⟨by rw [List.length_map, List.length_map, List.length_take, List.length_drop]; omega, rfl, w, ps, xs, es, us, xs.take i ++ xs.drop (i + 1), rfl, ?_, he, h⟩
      unfold laD
      rw [List.map_append]
    exact e3
  · rw [hw]
    exact ifT rfl h
theorem len_Bridge_take : ∀ s ds Qa Er, r_Bridge_take s ds Qa Er → ds.length + 1 = 2 := by
  rintro s ds Qa Er ⟨w, ps, xs, es, us, v, rfl, rfl, h⟩
  rfl
def r_Bridge_planks : Rf := fun s ds Q _ => ∃ w ps xs es us, s = brS w ps xs es us ∧ ds = [] ∧ Q (laD xs) s
def N_Bridge_planks : List Str := [Str.ofString "self"]
def body_Bridge_planks : TDS := dRet (dFld (Str.ofString "some") (dVar 0))

theorem wp_Bridge_planks : ∀ s ds (Qa : PyData → Rs → Prop) (Er : Str → Rs → Prop), r_Bridge_planks s ds (fun d s' => Qa d [s']) (fun n s' => Er n [s']) → body_Bridge_planks (startD N_Bridge_planks (.res 0 :: ds.map Sl.da)) [s] { nx := fun _ τ' => Qa .none (τ'.take 1), rt := fun d τ' => Qa d (τ'.take 1), er := fun n τ' => Er n (τ'.take 1) } := by
  rintro s ds Qa Er ⟨w, ps, xs, es, us, rfl, rfl, h⟩
  exact h
theorem len_Bridge_planks : ∀ s ds Qa Er, r_Bridge_planks s ds Qa Er → ds.length + 1 = 1 := by
  rintro s ds Qa Er ⟨w, ps, xs, es, us, rfl, rfl, h⟩
  rfl
def wayGo (w : Int) (ps : List Int) (W : Int) : Int → List (Int × Int) → Option Int
  | pt, [] => some pt
  | pt, x :: xs => if (decide (x.1 ≤ pt) && decide (pt < x.1 + x.2) && decide (pt < w)) = true then (if wlk w ps x.2 x.1 W = true then wayGo w ps W (x.1 + x.2) xs else none) else wayGo w ps W pt xs
def way (w : Int) (ps : List Int) (xs : List (Int × Int)) (W : Int) : Bool := match wayGo w ps W 0 xs with
  | some pt => decide (w ≤ pt)
  | none => false
def smlX (xs : List (Int × Int)) : Prop := ∀ x ∈ xs, (0 ≤ x.2 ∧ x.2 ≤ 100) ∧ (-100 ≤ x.1 ∧ x.1 ≤ 100)
def r_Bridge_is_way : Rf := fun s ds Q E => ∃ w ps xs es us v, s = brS w ps xs es us ∧ ds = [v] ∧ ps.length ≤ 1000 ∧ smlX xs ∧ weiK v (fun W => Q (.bool (way w ps xs W)) s) (fun n => E n s)
def N_Bridge_is_way : List Str := [Str.ofString "self", Str.ofString "weight", Str.ofString "width", Str.ofString "point", Str.ofString "place", Str.ofString "length"]
def body_Bridge_is_way : TDS := dSeq (dExpr (dCallPJ p_need_weight (dCons (dVar 1) (dNil))))
  (dSeq (dPar 2 3 (dCons (dBin oIx (dFld (Str.ofString "brook") (dVar 0)) (dC (.int 0))) (dCons (dC (.int 0)) (dNil))))
  (dSeq (dFor (dISeq (dFld (Str.ofString "some") (dVar 0))) (gTup 2 (gCons (gName 4) (gCons (gName 5) (gNil))))
  (dIfS (dAndT (dB (dChain oLe oLt (dVar 4) (dVar 3) (dBin oPlus (dVar 4) (dVar 5)))) (dB (dBin oLt (dVar 3) (dVar 2)))) (dSeq (dIfS (dNotT (dB (dCallPJ p_walks (dCons (dFld (Str.ofString "brook") (dVar 0)) (dCons (dVar 5) (dCons (dVar 4) (dCons (dVar 1) (dNil)))))))) (dRet (dC (.bool false))) (dNext))
  (dSet 3 (dBin oPlus (dVar 4) (dVar 5)))) (dNext)))
  (dRet (dBin oGe (dVar 3) (dVar 2)))))

theorem wp_Bridge_is_way : ∀ s ds (Qa : PyData → Rs → Prop) (Er : Str → Rs → Prop), r_Bridge_is_way s ds (fun d s' => Qa d [s']) (fun n s' => Er n [s']) → body_Bridge_is_way (startD N_Bridge_is_way (.res 0 :: ds.map Sl.da)) [s] { nx := fun _ τ' => Qa .none (τ'.take 1), rt := fun d τ' => Qa d (τ'.take 1), er := fun n τ' => Er n (τ'.take 1) } := by
  rintro s ds Qa Er ⟨w, ps, xs, es, us, v, rfl, rfl, hp, hx, h⟩
  refine ⟨wei_need h fun W e W1 W2 hq => ?_⟩
  subst e
  have go : ∀ (ys : List (Int × Int)) (pt : Int) (v4 v5 : Sl), smlX ys → (match wayGo w ps W pt ys with
      | some pt => Qa (.bool (decide (w ≤ pt))) [brS w ps xs es us]
      | none => Qa (.bool false) [brS w ps xs es us]) →
      loopD (gTup 2 (gCons (gName 4) (gCons (gName 5) (gNil)))) (dIfS (dAndT (dB (dChain oLe oLt (dVar 4) (dVar 3) (dBin oPlus (dVar 4) (dVar 5)))) (dB (dBin oLt (dVar 3) (dVar 2)))) (dSeq (dIfS (dNotT (dB (dCallPJ p_walks (dCons (dFld (Str.ofString "brook") (dVar 0)) (dCons (dVar 5) (dCons (dVar 4) (dCons (dVar 1) (dNil)))))))) (dRet (dC (.bool false))) (dNext))
  (dSet 3 (dBin oPlus (dVar 4) (dVar 5)))) (dNext)) (ys.map prD) [.res 0, .da (.int W), .da (.int w), .da (.int pt), v4, v5] [brS w ps xs es us]
        { nx := fun ρ' τ' => dRet (dBin oGe (dVar 3) (dVar 2)) ρ' τ' { nx := fun _ τ' => Qa .none (τ'.take 1), rt := fun d τ' => Qa d (τ'.take 1), er := fun n τ' => Er n (τ'.take 1) }, rt := fun d τ' => Qa d (τ'.take 1), er := fun n τ' => Er n (τ'.take 1) } := by
    intro ys
    induction ys with
    | nil =>
      intro pt v4 v5 _ h
      exact h
    | cons x ys ih =>
      intro pt v4 v5 hs h
      obtain ⟨a, l⟩ := x
      have hs2 : smlX ys := fun y hy => hs y (List.mem_cons_of_mem _ hy)
      obtain ⟨⟨l1, l2⟩, a1, a2⟩ := hs (a, l) List.mem_cons_self
      unfold wayGo at h
      refine ⟨rfl, ?_⟩
      show if decide (a ≤ pt) = true then _ else _
      cases q1 : decide (a ≤ pt) with
      | false =>
        simp only [q1, Bool.false_and] at h
        exact ifF rfl (ih pt _ _ hs2 h)
      | true =>
        simp only [q1, Bool.true_and] at h
        refine ifT rfl ?_
        show if decide (pt < a + l) = true then _ else _
        cases q2 : decide (pt < a + l) with
        | false =>
          simp only [q2, Bool.false_and] at h
          exact ifF rfl (ih pt _ _ hs2 h)
        | true =>
          simp only [q2, Bool.true_and] at h
          refine ifT rfl ?_
          show if decide (pt < w) = true then _ else _
          cases q3 : decide (pt < w) with
          | false =>
            simp only [q3] at h
            exact ifF rfl (ih pt _ _ hs2 h)
          | true =>
            simp only [q3, if_true] at h
            refine ifT rfl ⟨⟨w, ps, rfl, hp, ⟨⟨l1, l2⟩, ⟨a1, a2⟩, W1, by omega⟩, ?_⟩⟩
            show if (!wlk w ps l a W) = true then _ else _
            cases q4 : wlk w ps l a W with
            | false =>
              simp only [q4] at h
              exact ifT rfl h
            | true =>
              simp only [q4, if_true] at h
              exact ifF rfl (ih (a + l) _ _ hs2 h)
  refine go xs 0 .un .un hx ?_
  have h : Qa (.bool (way w ps xs W)) [brS w ps xs es us] := hq
  unfold way at h
  cases q : wayGo w ps W 0 xs with
  | none => rw [q] at h; exact h
  | some pt => rw [q] at h; exact h
theorem len_Bridge_is_way : ∀ s ds Qa Er, r_Bridge_is_way s ds Qa Er → ds.length + 1 = 2 := by
  rintro s ds Qa Er ⟨w, ps, xs, es, us, v, rfl, rfl, h⟩
  rfl
def r_Bridge_undo : Rf := fun s ds Q E => ∃ w ps xs es us, s = brS w ps xs es us ∧ ds = [] ∧ es.length ≤ 1000 ∧ us.length ≤ 1000 ∧
  ((es = [] ∧ E (Str.ofString "NothingToUndo") s) ∨ (∃ es' ys, es = es' ++ [ys] ∧ Q (laD ys) (brS w ps ys es' (us ++ [xs]))))
def N_Bridge_undo : List Str := [Str.ofString "self"]
def body_Bridge_undo : TDS := dSeq (dIfS (dB (dBin oEq (dFld (Str.ofString "earlier") (dVar 0)) (dLst (dNil)))) (dRaise (Str.ofString "NothingToUndo")) (dNext))
  (dSeq (dFldS (Str.ofString "undone") (dVar 0) (dBin oPlus (dFld (Str.ofString "undone") (dVar 0)) (dLst (dCons (dFld (Str.ofString "some") (dVar 0)) (dNil)))))
  (dSeq (dFldS (Str.ofString "some") (dVar 0) (dBin oIx (dFld (Str.ofString "earlier") (dVar 0)) (oNeg (dC (.int 1)))))
  (dSeq (dFldS (Str.ofString "earlier") (dVar 0) (dSl (dFld (Str.ofString "earlier") (dVar 0)) (dNo) (dSo (oNeg (dC (.int 1))))))
  (dRet (dFld (Str.ofString "some") (dVar 0))))))

theorem atI_lastD {ds : List PyData} {d : PyData} : atI (ds ++ [d]) (-1) = some d := by
  have h : ixN (ds ++ [d]).length (-1) = some ds.length := by
    unfold ixN
    simp
    omega
  unfold atI
  rw [h]
  simp
theorem cut_init {ds : List PyData} {d : PyData} : cutD (ds ++ [d]) none (some (-1)) = ds := by
  unfold cutD HT.sIx
  simp
  rw [show (-1 + ((ds.length : Int) + 1)).toNat = ds.length by omega]
  simp
theorem wp_Bridge_undo : ∀ s ds (Qa : PyData → Rs → Prop) (Er : Str → Rs → Prop), r_Bridge_undo s ds (fun d s' => Qa d [s']) (fun n s' => Er n [s']) → body_Bridge_undo (startD N_Bridge_undo (.res 0 :: ds.map Sl.da)) [s] { nx := fun _ τ' => Qa .none (τ'.take 1), rt := fun d τ' => Qa d (τ'.take 1), er := fun n τ' => Er n (τ'.take 1) } := by
  rintro s ds Qa Er ⟨w, ps, xs, es, us, rfl, rfl, he, hu, h⟩
  refine ⟨⟨shpA_las 57 es, rfl⟩, ?_⟩
  show if (PyData.eqv (.list (es.map laD)) (.list [])) = true then _ else _
  rw [eqv_nilL]
  rcases h with ⟨rfl, h⟩ | ⟨es', ys, rfl, h⟩
  · exact ifT rfl h
  · refine ifF (by cases es' <;> rfl) ?_
    refine ⟨by show (us.map laD).length + 1 ≤ 1000000; rw [List.length_map]; omega, by show 4 < 100; decide, ?_⟩
    have e1 : (es' ++ [ys]).map laD = es'.map laD ++ [laD ys] := by simp
    have e2 : (us ++ [xs]).map laD = us.map laD ++ [laD xs] := by simp
    refine ix_go (τ := [.bri [(Str.ofString "brook", bD w ps), (Str.ofString "some", laD xs), (Str.ofString "earlier", .list ((es' ++ [ys]).map laD)), (Str.ofString "undone", .list (us.map laD ++ [laD xs]))]]) (x := .da (.list ((es' ++ [ys]).map laD))) (d := laD ys) rfl rfl (by rw [e1]; exact atI_lastD) ?_
    refine ⟨by show 4 < 100; decide, ?_⟩
    refine ⟨by show 4 < 100; decide, ?_⟩
    have h : Qa (laD ys) [brS w ps ys es' (us ++ [xs])] := h
    unfold brS at h
    rw [e2] at h
    show Qa (laD ys) [.bri [(Str.ofString "brook", bD w ps), (Str.ofString "some", laD ys), (Str.ofString "earlier", .list (cutD ((es' ++ [ys]).map laD) none (some (-1)))), (Str.ofString "undone", .list (us.map laD ++ [laD xs]))]]
    rw [e1, cut_init]
    exact h
theorem len_Bridge_undo : ∀ s ds Qa Er, r_Bridge_undo s ds Qa Er → ds.length + 1 = 1 := by
  rintro s ds Qa Er ⟨w, ps, xs, es, us, rfl, rfl, h⟩
  rfl
def r_Bridge_redo : Rf := fun s ds Q E => ∃ w ps xs es us, s = brS w ps xs es us ∧ ds = [] ∧ es.length ≤ 1000 ∧ us.length ≤ 1000 ∧
  ((us = [] ∧ E (Str.ofString "NothingToUndo") s) ∨ (∃ us' ys, us = us' ++ [ys] ∧ Q (laD ys) (brS w ps ys (es ++ [xs]) us')))
def N_Bridge_redo : List Str := [Str.ofString "self"]
def body_Bridge_redo : TDS := dSeq (dIfS (dB (dBin oEq (dFld (Str.ofString "undone") (dVar 0)) (dLst (dNil)))) (dRaise (Str.ofString "NothingToUndo")) (dNext))
  (dSeq (dFldS (Str.ofString "earlier") (dVar 0) (dBin oPlus (dFld (Str.ofString "earlier") (dVar 0)) (dLst (dCons (dFld (Str.ofString "some") (dVar 0)) (dNil)))))
  (dSeq (dFldS (Str.ofString "some") (dVar 0) (dBin oIx (dFld (Str.ofString "undone") (dVar 0)) (oNeg (dC (.int 1)))))
  (dSeq (dFldS (Str.ofString "undone") (dVar 0) (dSl (dFld (Str.ofString "undone") (dVar 0)) (dNo) (dSo (oNeg (dC (.int 1))))))
  (dRet (dFld (Str.ofString "some") (dVar 0))))))

theorem wp_Bridge_redo : ∀ s ds (Qa : PyData → Rs → Prop) (Er : Str → Rs → Prop), r_Bridge_redo s ds (fun d s' => Qa d [s']) (fun n s' => Er n [s']) → body_Bridge_redo (startD N_Bridge_redo (.res 0 :: ds.map Sl.da)) [s] { nx := fun _ τ' => Qa .none (τ'.take 1), rt := fun d τ' => Qa d (τ'.take 1), er := fun n τ' => Er n (τ'.take 1) } := by
  rintro s ds Qa Er ⟨w, ps, xs, es, us, rfl, rfl, he, hu, h⟩
  refine ⟨⟨shpA_las 57 us, rfl⟩, ?_⟩
  show if (PyData.eqv (.list (us.map laD)) (.list [])) = true then _ else _
  rw [eqv_nilL]
  rcases h with ⟨rfl, h⟩ | ⟨us', ys, rfl, h⟩
  · exact ifT rfl h
  · refine ifF (by cases us' <;> rfl) ?_
    refine ⟨by show (es.map laD).length + 1 ≤ 1000000; rw [List.length_map]; omega, by show 4 < 100; decide, ?_⟩
    have e1 : (us' ++ [ys]).map laD = us'.map laD ++ [laD ys] := by simp
    have e2 : (es ++ [xs]).map laD = es.map laD ++ [laD xs] := by simp
    refine ix_go (τ := [.bri [(Str.ofString "brook", bD w ps), (Str.ofString "some", laD xs), (Str.ofString "earlier", .list (es.map laD ++ [laD xs])), (Str.ofString "undone", .list ((us' ++ [ys]).map laD))]]) (x := .da (.list ((us' ++ [ys]).map laD))) (d := laD ys) rfl rfl (by rw [e1]; exact atI_lastD) ?_
    refine ⟨by show 4 < 100; decide, ?_⟩
    refine ⟨by show 4 < 100; decide, ?_⟩
    have h : Qa (laD ys) [brS w ps ys (es ++ [xs]) us'] := h
    unfold brS at h
    rw [e2] at h
    show Qa (laD ys) [.bri [(Str.ofString "brook", bD w ps), (Str.ofString "some", laD ys), (Str.ofString "earlier", .list (es.map laD ++ [laD xs])), (Str.ofString "undone", .list (cutD ((us' ++ [ys]).map laD) none (some (-1))))]]
    rw [e1, cut_init]
    exact h
theorem len_Bridge_redo : ∀ s ds Qa Er, r_Bridge_redo s ds Qa Er → ds.length + 1 = 1 := by
  rintro s ds Qa Er ⟨w, ps, xs, es, us, rfl, rfl, h⟩
  rfl
def r_Bridge___len__ : Rf := fun s ds Q _ => ∃ w ps xs es us, s = brS w ps xs es us ∧ ds = [] ∧ Q (.int (xs.length : Nat)) s
def N_Bridge___len__ : List Str := [Str.ofString "self"]
def body_Bridge___len__ : TDS := dRet (dCB oLen (dCons (dFld (Str.ofString "some") (dVar 0)) (dNil)))

theorem wp_Bridge___len__ : ∀ s ds (Qa : PyData → Rs → Prop) (Er : Str → Rs → Prop), r_Bridge___len__ s ds (fun d s' => Qa d [s']) (fun n s' => Er n [s']) → body_Bridge___len__ (startD N_Bridge___len__ (.res 0 :: ds.map Sl.da)) [s] { nx := fun _ τ' => Qa .none (τ'.take 1), rt := fun d τ' => Qa d (τ'.take 1), er := fun n τ' => Er n (τ'.take 1) } := by
  rintro s ds Qa Er ⟨w, ps, xs, es, us, rfl, rfl, h⟩
  show Qa (.int (((xs.map prD).length : Nat))) [brS w ps xs es us]
  rw [List.length_map]
  exact h
theorem len_Bridge___len__ : ∀ s ds Qa Er, r_Bridge___len__ s ds Qa Er → ds.length + 1 = 1 := by
  rintro s ds Qa Er ⟨w, ps, xs, es, us, rfl, rfl, h⟩
  rfl
section
variable {w : Int} {ps : List Int} {xs : List (Int × Int)} {es us : List (List (Int × Int))} {l p W : Int} {Q : PyData → RS → Prop} {E : Str → RS → Prop}
theorem c_lay (hp : ps.length ≤ 1000) (he : es.length ≤ 1000) (hx : xs.length ≤ 1000) (l1 : 1 ≤ l) (l2 : l ≤ 8) (p1 : -8 ≤ p) (p2 : p ≤ 12) (hl : lie w ps l p = true) (ho : ovl xs p l = false) (q : Q (.int (xs.length + 1 : Nat)) (brS w ps (srt (xs ++ [(p, l)])) (es ++ [xs]) [])) : r_Bridge_lay (brS w ps xs es us) [.int l, .int p] Q E := by
  refine ⟨w, ps, xs, es, us, .int l, .int p, rfl, rfl, hp, he, hx, ?_⟩
  unfold layK
  rw [whole_of l1 l2, whole_of p1 p2, if_pos rfl, if_pos rfl]
  show if lie w ps l p = true then (if ovl xs p l = true then _ else _) else _
  rw [hl, ho]
  exact ifT rfl (ifF rfl q)
theorem e_lay_firm (hp : ps.length ≤ 1000) (he : es.length ≤ 1000) (hx : xs.length ≤ 1000) (l1 : 1 ≤ l) (l2 : l ≤ 8) (p1 : -8 ≤ p) (p2 : p ≤ 12) (hl : lie w ps l p = false) (q : E (Str.ofString "NotFirm") (brS w ps xs es us)) : r_Bridge_lay (brS w ps xs es us) [.int l, .int p] Q E := by
  refine ⟨w, ps, xs, es, us, .int l, .int p, rfl, rfl, hp, he, hx, ?_⟩
  unfold layK
  rw [whole_of l1 l2, whole_of p1 p2, if_pos rfl, if_pos rfl]
  show if lie w ps l p = true then (if ovl xs p l = true then _ else _) else _
  rw [hl]
  exact ifF rfl q
theorem e_lay_over (hp : ps.length ≤ 1000) (he : es.length ≤ 1000) (hx : xs.length ≤ 1000) (l1 : 1 ≤ l) (l2 : l ≤ 8) (p1 : -8 ≤ p) (p2 : p ≤ 12) (hl : lie w ps l p = true) (ho : ovl xs p l = true) (q : E (Str.ofString "Overlap") (brS w ps xs es us)) : r_Bridge_lay (brS w ps xs es us) [.int l, .int p] Q E := by
  refine ⟨w, ps, xs, es, us, .int l, .int p, rfl, rfl, hp, he, hx, ?_⟩
  unfold layK
  rw [whole_of l1 l2, whole_of p1 p2, if_pos rfl, if_pos rfl]
  show if lie w ps l p = true then (if ovl xs p l = true then _ else _) else _
  rw [hl, ho]
  exact ifT rfl (ifT rfl q)
theorem e_lay_len {a b : PyData} (hp : ps.length ≤ 1000) (he : es.length ≤ 1000) (hx : xs.length ≤ 1000) (h : isWhole a 1 8 = false) (q : E (Str.ofString "InvalidLength") (brS w ps xs es us)) : r_Bridge_lay (brS w ps xs es us) [a, b] Q E := by
  refine ⟨w, ps, xs, es, us, a, b, rfl, rfl, hp, he, hx, ?_⟩
  unfold layK
  rw [h]
  exact ifF rfl q
theorem e_lay_place {b : PyData} (hp : ps.length ≤ 1000) (he : es.length ≤ 1000) (hx : xs.length ≤ 1000) (l1 : 1 ≤ l) (l2 : l ≤ 8) (h : isWhole b (-8) 12 = false) (q : E (Str.ofString "InvalidPlace") (brS w ps xs es us)) : r_Bridge_lay (brS w ps xs es us) [.int l, b] Q E := by
  refine ⟨w, ps, xs, es, us, .int l, b, rfl, rfl, hp, he, hx, ?_⟩
  unfold layK
  rw [whole_of l1 l2, h]
  exact ifT rfl (ifF rfl q)
theorem c_is_way (hp : ps.length ≤ 1000) (hx : smlX xs) (h1 : 0 ≤ W) (h2 : W ≤ 60) (q : Q (.bool (way w ps xs W)) (brS w ps xs es us)) : r_Bridge_is_way (brS w ps xs es us) [.int W] Q E :=
  ⟨w, ps, xs, es, us, .int W, rfl, rfl, hp, hx, wei_of h1 h2 q⟩
theorem e_is_way {v : PyData} (hp : ps.length ≤ 1000) (hx : smlX xs) (h : isWhole v 0 60 = false) (q : E (Str.ofString "InvalidWeight") (brS w ps xs es us)) : r_Bridge_is_way (brS w ps xs es us) [v] Q E :=
  ⟨w, ps, xs, es, us, v, rfl, rfl, hp, hx, wei_bad h q⟩
theorem c_planks (q : Q (laD xs) (brS w ps xs es us)) : r_Bridge_planks (brS w ps xs es us) [] Q E := ⟨w, ps, xs, es, us, rfl, rfl, q⟩
theorem c_len (q : Q (.int (xs.length : Nat)) (brS w ps xs es us)) : r_Bridge___len__ (brS w ps xs es us) [] Q E := ⟨w, ps, xs, es, us, rfl, rfl, q⟩
theorem c_init (ok : okB w ps = true) (q : Q .none (brS w ps [] [] [])) : r_Bridge___init__ (.bri []) [bD w ps] Q E := ⟨rfl, bD w ps, rfl, by rw [brookOf_bD ok]; exact q⟩
theorem e_init {b : PyData} (h : brookOf b = none) (q : E (Str.ofString "InvalidBrook") (.bri [])) : r_Bridge___init__ (.bri []) [b] Q E := ⟨rfl, b, rfl, by rw [h]; exact q⟩
theorem c_take {i : Nat} {x : Int × Int} (he : es.length ≤ 1000) (hx : xs.length ≤ 1000) (hi : xs[i]? = some x) (q : Q (prD x) (brS w ps (xs.take i ++ xs.drop (i + 1)) (es ++ [xs]) [])) : r_Bridge_take (brS w ps xs es us) [.int (i : Int)] Q E :=
  ⟨w, ps, xs, es, us, .int (i : Int), rfl, rfl, he, hx, .inl ⟨i, x, rfl, hi, q⟩⟩
theorem e_take {v : PyData} (he : es.length ≤ 1000) (hx : xs.length ≤ 1000) (h : isWhole v 0 ((xs.length : Int) - 1) = false) (q : E (Str.ofString "InvalidIndex") (brS w ps xs es us)) : r_Bridge_take (brS w ps xs es us) [v] Q E :=
  ⟨w, ps, xs, es, us, v, rfl, rfl, he, hx, .inr ⟨h, q⟩⟩
theorem c_undo {ys : List (Int × Int)} (he : (es ++ [ys]).length ≤ 1000) (hu : us.length ≤ 1000) (q : Q (laD ys) (brS w ps ys es (us ++ [xs]))) : r_Bridge_undo (brS w ps xs (es ++ [ys]) us) [] Q E :=
  ⟨w, ps, xs, es ++ [ys], us, rfl, rfl, he, hu, .inr ⟨es, ys, rfl, q⟩⟩
theorem e_undo (hu : us.length ≤ 1000) (q : E (Str.ofString "NothingToUndo") (brS w ps xs [] us)) : r_Bridge_undo (brS w ps xs [] us) [] Q E :=
  ⟨w, ps, xs, [], us, rfl, rfl, by decide, hu, .inl ⟨rfl, q⟩⟩
theorem c_redo {ys : List (Int × Int)} (he : es.length ≤ 1000) (hu : (us ++ [ys]).length ≤ 1000) (q : Q (laD ys) (brS w ps ys (es ++ [xs]) us)) : r_Bridge_redo (brS w ps xs es (us ++ [ys])) [] Q E :=
  ⟨w, ps, xs, es, us ++ [ys], rfl, rfl, he, hu, .inr ⟨us, ys, rfl, q⟩⟩
theorem e_redo (he : es.length ≤ 1000) (q : E (Str.ofString "NothingToUndo") (brS w ps xs es [])) : r_Bridge_redo (brS w ps xs es []) [] Q E :=
  ⟨w, ps, xs, es, [], rfl, rfl, he, by decide, .inl ⟨rfl, q⟩⟩
end
theorem for_one {f : TDI} {t : Tg} {g : TDS} {ρ : Ds} {τ : Rs} {De : DEnds} (ds : List PyData) (hf : ∀ (Q : List PyData → Rs → Prop), Q ds τ → f ρ τ Q De.er) (h : loopD t g ds ρ τ De) : dFor f t g ρ τ De := hf _ h
/-! ### the planks of a row, laid one by one -/
def rowX : Int → List Int → List (Int × Int)
  | _, [] => []
  | p, l :: r => (p, l) :: rowX (p + l) r
theorem rowX_len : ∀ (r : List Int) (p : Int), (rowX p r).length = r.length
  | [], _ => rfl
  | l :: r, p => by show (rowX (p + l) r).length + 1 = r.length + 1; rw [rowX_len r]
theorem rowX_append : ∀ (a b : List Int) (p : Int), rowX p (a ++ b) = rowX p a ++ rowX (p + a.sum) b
  | [], b, p => by simp [rowX]
  | l :: a, b, p => by
    show (p, l) :: rowX (p + l) (a ++ b) = (p, l) :: (rowX (p + l) a ++ rowX (p + (l :: a).sum) b)
    rw [rowX_append a b (p + l), List.sum_cons, Int.add_assoc]
theorem rowX_mem : ∀ {r : List Int} {p : Int} {x : Int × Int}, x ∈ rowX p r → ∃ a b, r = a ++ x.2 :: b ∧ x.1 = p + a.sum
  | [], p, x, h => by cases h
  | l :: r, p, x, h => by
    rcases List.mem_cons.mp h with rfl | h
    · exact ⟨[], r, rfl, by simp⟩
    · obtain ⟨a, b, e1, e2⟩ := rowX_mem h
      exact ⟨l :: a, b, by rw [e1]; rfl, by rw [e2, List.sum_cons]; omega⟩
theorem split_at {r : List Int} {i : Nat} (h : i < r.length) : r = r.take i ++ r[i] :: r.drop (i + 1) := by
  rw [← List.drop_eq_getElem_cons h, List.take_append_drop]
theorem split_last {l : Int} {a : List Int} : ∃ a' x, l :: a = a' ++ [x] := ⟨(l :: a).dropLast, (l :: a).getLast (by simp), (List.dropLast_concat_getLast (by simp)).symm⟩
theorem sum_small : ∀ {a : List Int}, smallP a → 0 ≤ a.sum
  | [], _ => by simp
  | l :: a, h => by
    rw [List.sum_cons]
    have := sum_small (a := a) fun x hx => h x (List.mem_cons_of_mem _ hx)
    have := h l List.mem_cons_self
    omega
theorem small_app {a b : List Int} (h : smallP (a ++ b)) : smallP a ∧ smallP b := ⟨fun x hx => h x (List.mem_append_left _ hx), fun x hx => h x (List.mem_append_right _ hx)⟩
theorem rowX_end {r : List Int} {p : Int} {x : Int × Int} (hs : smallP r) (h : x ∈ rowX p r) : p ≤ x.1 ∧ x.1 + x.2 ≤ p + r.sum ∧ 1 ≤ x.2 ∧ x.2 ≤ 8 := by
  obtain ⟨a, b, e1, e2⟩ := rowX_mem h
  subst e1
  obtain ⟨h1, h2⟩ := small_app hs
  have s1 := sum_small h1
  have s2 := sum_small (a := b) fun y hy => h2 y (List.mem_cons_of_mem _ hy)
  have := h2 x.2 List.mem_cons_self
  rw [List.sum_append, List.sum_cons]
  omega
theorem rowX_sorted : ∀ {r : List Int} {p : Int}, smallP r → (rowX p r).Pairwise fun a b => le2 a b = true
  | [], _, _ => .nil
  | l :: r, p, h => by
    have h2 : smallP r := fun x hx => h x (List.mem_cons_of_mem _ hx)
    refine .cons (fun x hx => ?_) (rowX_sorted h2)
    have := rowX_end h2 hx
    have := h l List.mem_cons_self
    unfold le2
    refine decide_eq_true (.inl ?_)
    show p < x.1
    omega
theorem rowX_ovl {r : List Int} {p l : Int} (hs : smallP r) : ovl (rowX p r) (p + r.sum) l = false := by
  unfold ovl
  rw [List.any_eq_false]
  intro x hx
  have := rowX_end hs hx
  simp only [Bool.and_eq_true, decide_eq_true_eq]
  omega
theorem wayGo_app {w : Int} {ps : List Int} {V : Int} : ∀ (xs ys : List (Int × Int)) (pt : Int), wayGo w ps V pt (xs ++ ys) = (wayGo w ps V pt xs).bind fun q => wayGo w ps V q ys
  | [], _, _ => rfl
  | x :: xs, ys, pt => by
    show (if (decide (x.1 ≤ pt) && decide (pt < x.1 + x.2) && decide (pt < w)) = true then (if wlk w ps x.2 x.1 V = true then wayGo w ps V (x.1 + x.2) (xs ++ ys) else none) else wayGo w ps V pt (xs ++ ys)) = (if (decide (x.1 ≤ pt) && decide (pt < x.1 + x.2) && decide (pt < w)) = true then (if wlk w ps x.2 x.1 V = true then wayGo w ps V (x.1 + x.2) xs else none) else wayGo w ps V pt xs).bind fun q => wayGo w ps V q ys
    rw [wayGo_app xs ys, wayGo_app xs ys]
    split
    · split
      · rfl
      · rfl
    · rfl
theorem wayGo_skip {w : Int} {ps : List Int} {V : Int} : ∀ {ys : List (Int × Int)} {q : Int}, (∀ x ∈ ys, q < x.1) → wayGo w ps V q ys = some q
  | [], _, _ => rfl
  | x :: ys, q, h => by
    have := h x List.mem_cons_self
    unfold wayGo
    rw [if_neg (by simp; omega)]
    exact wayGo_skip fun y hy => h y (List.mem_cons_of_mem _ hy)
theorem wayGo_row {w : Int} {ps : List Int} {V : Int} : ∀ (t : List Int) (l p pt : Int), smallP (l :: t) → (∀ a x b, l :: t = a ++ x :: b → b ≠ [] → p + a.sum + x < w) → p ≤ pt → pt < p + l → pt < w →
    wayGo w ps V pt (rowX p (l :: t)) = if ((rowX p (l :: t)).all fun x => wlk w ps x.2 x.1 V) = true then some (p + (l :: t).sum) else none
  | [], l, p, pt, hs, hg, h1, h2, h3 => by
    show (if (decide (p ≤ pt) && decide (pt < p + l) && decide (pt < w)) = true then (if wlk w ps l p V = true then some (p + l) else none) else some pt) = if (wlk w ps l p V && true) = true then some (p + (l + 0)) else none
    rw [if_pos (by simp; omega), Bool.and_true, Int.add_zero]
  | l2 :: t, l, p, pt, hs, hg, h1, h2, h3 => by
    have hs2 : smallP (l2 :: t) := fun x hx => hs x (List.mem_cons_of_mem _ hx)
    have hw : p + l < w := by have := hg [] l (l2 :: t) rfl (by simp); simpa using this
    have hl2 := hs2 l2 List.mem_cons_self
    have ih := wayGo_row (w := w) (ps := ps) (V := V) t l2 (p + l) (p + l) hs2 (fun a x b e hb => by
      have := hg (l :: a) x b (by rw [e]; rfl) hb
      rw [List.sum_cons] at this
      omega) (by omega) (by omega) hw
    show (if (decide (p ≤ pt) && decide (pt < p + l) && decide (pt < w)) = true then (if wlk w ps l p V = true then wayGo w ps V (p + l) (rowX (p + l) (l2 :: t)) else none) else _) = if (wlk w ps l p V && ((rowX (p + l) (l2 :: t)).all fun x => wlk w ps x.2 x.1 V)) = true then some (p + (l + (l2 :: t).sum)) else none
    rw [if_pos (by simp; omega), ih]
    cases wlk w ps l p V with
    | false => simp
    | true => rw [Bool.true_and, if_pos rfl, Int.add_assoc]
/-- a crossing's planks: a way just if all of them are walked -/
theorem way_row {w : Int} {ps : List Int} {W V : Int} {ns : List Int} {c : Int × List Int} (hw : 1 ≤ w) (hs : smallP c.2) (h : Cr w ps W ns c) : way w ps (rowX c.1 c.2) V = (rowX c.1 c.2).all fun x => wlk w ps x.2 x.1 V := by
  obtain ⟨s, r⟩ := c
  obtain ⟨g1, g2⟩ := goR_iff.mp h.go
  have hne := h.ne
  have hhi : s ≤ 0 := h.hi
  simp only at hs g1 g2 hne ⊢
  match r, hne, hs, g1, g2 with
  | l :: t, _, hs, g1, g2 =>
    have h0 : 0 < s + l := by
      cases t with
      | nil => simp at g2; omega
      | cons l2 t =>
        have := ((g1 [] l (l2 :: t) rfl).2 (by simp)).1
        simpa using this
    unfold way
    rw [wayGo_row t l s 0 hs (fun a x b e hb => ((g1 a x b e).2 hb).2) hhi h0 (by omega)]
    cases q : (rowX s (l :: t)).all fun x => wlk w ps x.2 x.1 V with
    | true => simp only [if_true]; exact decide_eq_true g2
    | false => simp
theorem all_row {w : Int} {ps : List Int} {W V : Int} {ns : List Int} {c : Int × List Int} (hs : smallP c.2) (h : Cr w ps W ns c) (hV : V ≤ W) : ((rowX c.1 c.2).all fun x => wlk w ps x.2 x.1 V) = true := by
  rw [List.all_eq_true]
  intro x hx
  obtain ⟨a, b, e1, e2⟩ := rowX_mem hx
  have hsx := (rowX_end hs hx).2.2
  have := ((goR_iff.mp h.go).1 a x.2 b e1).1
  rw [← e2] at this
  exact wlk_light (by omega) hV this
/-- without one of its planks it is none -/
theorem way_out {w : Int} {ps : List Int} {W V : Int} {ns : List Int} {c : Int × List Int} {i : Nat} (hw : 1 ≤ w) (hs : smallP c.2) (h : Cr w ps W ns c) (hV : V ≤ W) (hi : i < c.2.length) : way w ps ((rowX c.1 c.2).take i ++ (rowX c.1 c.2).drop (i + 1)) V = false := by
  obtain ⟨s, r⟩ := c
  have hall := all_row hs h hV
  obtain ⟨g1, g2⟩ := goR_iff.mp h.go
  have hhi : s ≤ 0 := h.hi
  simp only at hs g1 g2 hi hall ⊢
  obtain ⟨a, l, b, rfl, ha⟩ : ∃ a l b, r = a ++ l :: b ∧ a.length = i := ⟨r.take i, r[i], r.drop (i + 1), split_at hi, by simp; omega⟩
  obtain ⟨hsa, hsb⟩ := small_app hs
  have hl := hsb l List.mem_cons_self
  have hsb' : smallP b := fun x hx => hsb x (List.mem_cons_of_mem _ hx)
  rw [rowX_append] at hall ⊢
  have e1 : (rowX s a ++ rowX (s + a.sum) (l :: b)).take i = rowX s a := by
    rw [← ha, ← rowX_len a s]; simp
  have e2 : (rowX s a ++ rowX (s + a.sum) (l :: b)).drop (i + 1) = rowX (s + a.sum + l) b := by
    rw [← ha, ← rowX_len a s, List.drop_append]
    simp [rowX]
  rw [e1, e2]
  unfold way
  rw [wayGo_app]
  cases a with
  | nil =>
    have : wayGo w ps V 0 (rowX (s + ([] : List Int).sum + l) b) = some 0 := by
      cases b with
      | nil => rfl
      | cons l2 b =>
        have h0 := ((g1 [] l (l2 :: b) rfl).2 (by simp)).1
        simp at h0
        exact wayGo_skip fun x hx => by
          have := (rowX_end hsb' hx).1
          simp at this
          omega
    show (match (wayGo w ps V 0 (rowX (s + ([] : List Int).sum + l) b)) with
      | some pt => decide (w ≤ pt)
      | none => false) = false
    rw [this]
    exact decide_eq_false (by omega)
  | cons l0 a =>
    have hq : s + (l0 :: a).sum < w := by
      obtain ⟨a', x, e⟩ : ∃ a' x, l0 :: a = a' ++ [x] := split_last
      rw [e]
      have := ((g1 a' x (l :: b) (by rw [e]; simp)).2 (by simp)).2
      rw [List.sum_append, List.sum_cons, List.sum_nil]
      omega
    have h0 : 0 < s + l0 := by
      have := ((g1 [] l0 (a ++ l :: b) rfl).2 (by simp)).1
      simpa using this
    have hal : ((rowX s (l0 :: a)).all fun x => wlk w ps x.2 x.1 V) = true := by
      rw [List.all_append, Bool.and_eq_true] at hall
      exact hall.1
    rw [wayGo_row a l0 s 0 hsa (fun a1 x b1 e hb => by
      have := ((g1 a1 x (b1 ++ l :: b) (by rw [e]; simp)).2 (by simp)).2
      exact this) hhi h0 (by omega), if_pos hal]
    show (match (wayGo w ps V (s + (l0 :: a).sum) (rowX (s + (l0 :: a).sum + l) b)) with
      | some pt => decide (w ≤ pt)
      | none => false) = false
    rw [wayGo_skip fun x hx => by
      have := (rowX_end hsb' hx).1
      omega]
    exact decide_eq_false (by omega)
theorem row_at {w : Int} {ps : List Int} {W : Int} {ns : List Int} {c : Int × List Int} {i : Nat} {l : Int} (hw2 : w ≤ 12) (hs : smallP c.2) (h : Cr w ps W ns c) (hi : c.2[i]? = some l) :
    (1 ≤ l ∧ l ≤ 8) ∧ (-8 ≤ c.1 + (c.2.take i).sum ∧ c.1 + (c.2.take i).sum ≤ 12) ∧ wlk w ps l (c.1 + (c.2.take i).sum) W = true ∧ smallP (c.2.take i) ∧ rowX c.1 (c.2.take (i + 1)) = rowX c.1 (c.2.take i) ++ [(c.1 + (c.2.take i).sum, l)] := by
  obtain ⟨s, r⟩ := c
  obtain ⟨g1, g2⟩ := goR_iff.mp h.go
  have hhi : s ≤ 0 := h.hi
  have hlo : -8 ≤ s := h.lo
  simp only at hs g1 g2 hi ⊢
  obtain ⟨hlt, e⟩ := List.getElem?_eq_some_iff.mp hi
  have er : r = r.take i ++ l :: r.drop (i + 1) := by rw [← e]; exact split_at hlt
  have hst : smallP (r.take i) := fun x hx => hs x (List.mem_of_mem_take hx)
  have s0 := sum_small hst
  refine ⟨hs l (List.mem_of_getElem? hi), ⟨by omega, ?_⟩, (g1 _ l _ er).1, hst, ?_⟩
  · cases q : r.take i with
    | nil => simp; omega
    | cons l0 a =>
      obtain ⟨a', x, e2⟩ : ∃ a' x, l0 :: a = a' ++ [x] := split_last
      rw [e2]
      have := ((g1 a' x (l :: r.drop (i + 1)) (by have e3 := er; rw [q, e2] at e3; simpa using e3)).2 (by simp)).2
      rw [List.sum_append, List.sum_cons, List.sum_nil]
      omega
  · rw [List.take_add_one, hi, Option.toList_some, rowX_append]
    rfl
theorem row_sml {w : Int} {ps : List Int} {W : Int} {ns : List Int} {c : Int × List Int} (hn : c.2.length ≤ 4) (hs : smallP c.2) (h : Cr w ps W ns c) : smlX (rowX c.1 c.2) := by
  intro x hx
  have h1 := rowX_end hs hx
  have hsum : ∀ r : List Int, smallP r → r.sum ≤ 8 * (r.length : Int) := by
    intro r
    induction r with
    | nil => intro _; simp
    | cons l r ih =>
      intro h
      have := ih fun x hx => h x (List.mem_cons_of_mem _ hx)
      have := h l List.mem_cons_self
      rw [List.sum_cons, List.length_cons]
      omega
  have := hsum c.2 hs
  have := h.lo
  have := h.hi
  exact ⟨⟨by omega, by omega⟩, by omega, by omega⟩
theorem told_ifV {kt i : Nat} {q : Str} {es : List Str} {fb : TD} {n : Str} {ρ : Ds} {τ : Rs} {A B : TDS} {De : DEnds} (ht : τ[kt]? = some (.tab q)) (hn : n ∈ es) (hv : ρ[i]? = some (.da (errT n))) (h : ∀ (Q : Sl → Rs → Prop) (E : Str → Rs → Prop), E n τ → fb ρ τ Q E) (hB : B ρ τ De) (hs : PyData.strOk n = true := by decide +kernel) :
    dIfS (dB (dBin oNe (dTold kt q es fb) (dVar i))) A B ρ τ De := by
  refine ⟨ht, h _ _ ⟨hn, ?_⟩⟩
  rw [List.take_length]
  unfold dVar
  rw [hv]
  refine ⟨⟨shp_errT hs, shp_errT hs⟩, ?_⟩
  show if (!PyData.eqv (errT n) (errT n)) = true then _ else _
  rw [eqv_errT]
  exact ifF rfl hB
/-! ### planks that lie apart, sorted -/
theorem le2_trans (a b c : Int × Int) (h1 : le2 a b = true) (h2 : le2 b c = true) : le2 a c = true := by
  unfold le2 at *
  simp only [decide_eq_true_eq] at *
  omega
theorem le2_total (a b : Int × Int) : (le2 a b || le2 b a) = true := by
  unfold le2
  simp only [Bool.or_eq_true, decide_eq_true_eq]
  omega
theorem srt_perm (l : List (Int × Int)) : (srt l).Perm l := List.mergeSort_perm _ _
theorem srt_pair (l : List (Int × Int)) : (srt l).Pairwise fun a b => le2 a b = true := List.pairwise_mergeSort le2_trans le2_total l
theorem srt_eq {l m : List (Int × Int)} (hl : l.Pairwise fun a b => le2 a b = true) (hp : l.Perm m) : srt m = l := by
  refine List.Perm.eq_of_pairwise (le := fun a b => le2 a b = true) (fun a b _ _ h1 h2 => ?_) (srt_pair m) hl ((srt_perm m).trans hp.symm)
  unfold le2 at h1 h2
  simp only [decide_eq_true_eq] at h1 h2
  exact Prod.ext (by omega) (by omega)
theorem srt_snoc (zs : List (Int × Int)) (x : Int × Int) : srt (srt zs ++ [x]) = srt (zs ++ [x]) :=
  (srt_eq (srt_pair (zs ++ [x])) ((srt_perm _).trans ((srt_perm zs).symm.append (List.Perm.refl _)))).trans rfl
theorem ovl_perm {xs ys : List (Int × Int)} (h : xs.Perm ys) (p l : Int) : ovl xs p l = ovl ys p l := by
  unfold ovl
  rw [Bool.eq_iff_iff, List.any_eq_true, List.any_eq_true]
  constructor
  · rintro ⟨x, h1, h2⟩; exact ⟨x, h.mem_iff.mp h1, h2⟩
  · rintro ⟨x, h1, h2⟩; exact ⟨x, h.mem_iff.mpr h1, h2⟩
/-- apart -/
def Apt (x y : Int × Int) : Prop := x.1 + x.2 ≤ y.1 ∨ y.1 + y.2 ≤ x.1
def Pos2 (xs : List (Int × Int)) : Prop := ∀ x ∈ xs, (1 ≤ x.2 ∧ x.2 ≤ 8) ∧ -8 ≤ x.1 ∧ x.1 ≤ 12
theorem pos_sml {xs : List (Int × Int)} (h : Pos2 xs) : smlX xs := fun x hx => by
  obtain ⟨⟨a, b⟩, c, d⟩ := h x hx
  exact ⟨⟨by omega, by omega⟩, by omega, by omega⟩
theorem apt_snoc {zs : List (Int × Int)} {p l : Int} (h : zs.Pairwise Apt) (ho : ovl zs p l = false) : (zs ++ [(p, l)]).Pairwise Apt := by
  rw [List.pairwise_append]
  refine ⟨h, List.pairwise_singleton _ _, fun x hx y hy => ?_⟩
  obtain rfl : y = (p, l) := by simpa using hy
  unfold ovl at ho
  have := List.any_eq_false.mp ho x hx
  simp only [Bool.and_eq_true, decide_eq_true_eq] at this
  unfold Apt
  show x.1 + x.2 ≤ p ∨ p + l ≤ x.1
  omega
theorem apt_srt {zs : List (Int × Int)} (h : zs.Pairwise Apt) (hp : Pos2 zs) : (srt zs).Pairwise fun x y => x.1 + x.2 ≤ y.1 := by
  have h1 : (srt zs).Pairwise Apt := ((srt_perm zs).pairwise_iff fun h => h.symm).mpr h
  have h2 := srt_pair zs
  have h3 : (srt zs).Pairwise fun x y => x ∈ srt zs ∧ y ∈ srt zs := by
    rw [List.pairwise_iff_forall_sublist]
    intro a b hab
    exact ⟨hab.subset (by simp), hab.subset (by simp)⟩
  refine ((h1.and h2).and h3).imp fun {x y} ⟨⟨a, b⟩, c⟩ => ?_
  have hx := hp x ((srt_perm zs).mem_iff.mp c.1)
  have hy := hp y ((srt_perm zs).mem_iff.mp c.2)
  unfold le2 at b
  simp only [decide_eq_true_eq] at b
  rcases a with a | a
  · exact a
  · omega
/-- all points are covered from pt on, all planks there are walked -/
def Cov (w : Int) (ps : List Int) (W pt : Int) (xs : List (Int × Int)) : Prop :=
  (∀ q, pt ≤ q → q < w → ∃ x ∈ xs, x.1 ≤ q ∧ q < x.1 + x.2) ∧ ∀ x ∈ xs, x.1 < w → pt < x.1 + x.2 → wlk w ps x.2 x.1 W = true
theorem way_cov {w : Int} {ps : List Int} {W : Int} : ∀ (xs : List (Int × Int)) (pt : Int), (xs.Pairwise fun x y => x.1 + x.2 ≤ y.1) → (∀ x ∈ xs, 1 ≤ x.2) → (pt < w ∨ ∀ x ∈ xs, pt ≤ x.1) →
    ((∃ e, wayGo w ps W pt xs = some e ∧ w ≤ e) ↔ Cov w ps W pt xs)
  | [], pt, _, _, _ => by
    constructor
    · rintro ⟨e, h1, h2⟩
      cases h1
      exact ⟨fun q h3 h4 => by omega, fun x hx => by cases hx⟩
    · intro h
      refine ⟨pt, rfl, ?_⟩
      by_cases z : w ≤ pt
      · exact z
      · obtain ⟨x, hx, _⟩ := h.1 pt (Int.le_refl _) (by omega)
        cases hx
  | x :: xs, pt, hd, hl, hp => by
    rw [List.pairwise_cons] at hd
    obtain ⟨hd1, hd2⟩ := hd
    have hl2 : ∀ y ∈ xs, 1 ≤ y.2 := fun y hy => hl y (List.mem_cons_of_mem _ hy)
    have hx1 := hl x List.mem_cons_self
    by_cases hA : (x.1 ≤ pt ∧ pt < x.1 + x.2) ∧ pt < w
    · obtain ⟨⟨a1, a2⟩, a3⟩ := hA
      have eg : wayGo w ps W pt (x :: xs) = if wlk w ps x.2 x.1 W = true then wayGo w ps W (x.1 + x.2) xs else none := by
        show (if (decide (x.1 ≤ pt) && decide (pt < x.1 + x.2) && decide (pt < w)) = true then _ else _) = _
        rw [if_pos (by simp; omega)]
      rw [eg]
      by_cases hw : wlk w ps x.2 x.1 W = true
      · rw [if_pos hw, way_cov xs (x.1 + x.2) hd2 hl2 (.inr fun y hy => hd1 y hy)]
        constructor
        · rintro ⟨c1, c2⟩
          refine ⟨fun q h1 h2 => ?_, fun y hy h1 h2 => ?_⟩
          · by_cases z : q < x.1 + x.2
            · exact ⟨x, List.mem_cons_self, by omega, z⟩
            · obtain ⟨y, hy, hh⟩ := c1 q (by omega) h2
              exact ⟨y, List.mem_cons_of_mem _ hy, hh⟩
          · rcases List.mem_cons.mp hy with rfl | hy
            · exact hw
            · exact c2 y hy h1 (by have := hd1 y hy; have := hl2 y hy; omega)
        · rintro ⟨c1, c2⟩
          refine ⟨fun q h1 h2 => ?_, fun y hy h1 h2 => c2 y (List.mem_cons_of_mem _ hy) h1 (by omega)⟩
          obtain ⟨y, hy, hh⟩ := c1 q (by omega) h2
          rcases List.mem_cons.mp hy with rfl | hy
          · omega
          · exact ⟨y, hy, hh⟩
      · rw [if_neg hw]
        constructor
        · rintro ⟨e, h1, _⟩; cases h1
        · rintro ⟨_, c2⟩
          exact absurd (c2 x List.mem_cons_self (by omega) a2) hw
    · have eg : wayGo w ps W pt (x :: xs) = wayGo w ps W pt xs := by
        show (if (decide (x.1 ≤ pt) && decide (pt < x.1 + x.2) && decide (pt < w)) = true then _ else _) = _
        rw [if_neg (by simp; omega)]
      rw [eg, way_cov xs pt hd2 hl2 (hp.imp id fun h y hy => h y (List.mem_cons_of_mem _ hy))]
      constructor
      · rintro ⟨c1, c2⟩
        refine ⟨fun q h1 h2 => ?_, fun y hy h1 h2 => ?_⟩
        · obtain ⟨y, hy, hh⟩ := c1 q h1 h2
          exact ⟨y, List.mem_cons_of_mem _ hy, hh⟩
        · rcases List.mem_cons.mp hy with rfl | hy
          · exfalso
            by_cases z : pt < w
            · have z2 : pt < y.1 := by omega
              obtain ⟨u, hu, hh⟩ := c1 pt (Int.le_refl _) z
              have := hd1 u hu
              omega
            · have := hp.resolve_left z y List.mem_cons_self
              omega
          · exact c2 y hy h1 h2
      · rintro ⟨c1, c2⟩
        refine ⟨fun q h1 h2 => ?_, fun y hy h1 h2 => c2 y (List.mem_cons_of_mem _ hy) h1 h2⟩
        obtain ⟨y, hy, hh⟩ := c1 q h1 h2
        rcases List.mem_cons.mp hy with rfl | hy
        · exfalso
          by_cases z : y.1 ≤ pt
          · omega
          · obtain ⟨u, hu, hh2⟩ := c1 pt (Int.le_refl _) (by omega)
            rcases List.mem_cons.mp hu with rfl | hu
            · omega
            · have := hd1 u hu
              omega
        · exact ⟨y, hy, hh⟩
/-- is_way: as the law has it -/
def ovr (w : Int) (zs : List (Int × Int)) : List (Int × Int) := zs.filter fun x => decide (x.1 < w) && decide (x.1 + x.2 > 0)
def whl (w : Int) (zs : List (Int × Int)) : Bool := (List.range w.toNat).all fun i : Nat => (ovr w zs).any fun x => decide (x.1 ≤ (i : Int)) && decide ((i : Int) < x.1 + x.2)
def wkd (w : Int) (ps : List Int) (W : Int) (zs : List (Int × Int)) : Bool := (ovr w zs).all fun x => wlk w ps x.2 x.1 W
theorem way_law {w : Int} {ps : List Int} {W : Int} {zs : List (Int × Int)} (hw : 1 ≤ w) (ha : zs.Pairwise Apt) (hp : Pos2 zs) : way w ps (srt zs) W = (whl w zs && wkd w ps W zs) := by
  have hm : ∀ x, x ∈ srt zs ↔ x ∈ zs := fun x => (srt_perm zs).mem_iff
  have key := way_cov (w := w) (ps := ps) (W := W) (srt zs) 0 (apt_srt ha hp) (fun x hx => (hp x ((hm x).mp hx)).1.1) (.inl (by omega))
  have e1 : way w ps (srt zs) W = true ↔ ∃ e, wayGo w ps W 0 (srt zs) = some e ∧ w ≤ e := by
    unfold way
    cases wayGo w ps W 0 (srt zs) with
    | none => simp
    | some e => simp
  rw [Bool.eq_iff_iff, e1, key, Bool.and_eq_true]
  unfold whl wkd Cov
  simp only [List.all_eq_true, List.mem_range, List.any_eq_true, Bool.and_eq_true, decide_eq_true_eq]
  have ho : ∀ x, x ∈ ovr w zs ↔ x ∈ zs ∧ x.1 < w ∧ 0 < x.1 + x.2 := fun x => by
    unfold ovr
    rw [List.mem_filter]
    simp
  constructor
  · rintro ⟨c1, c2⟩
    refine ⟨fun i hi => ?_, fun x hx => ?_⟩
    · obtain ⟨x, hx, h1, h2⟩ := c1 (i : Int) (by omega) (by omega)
      exact ⟨x, (ho x).mpr ⟨(hm x).mp hx, by omega, by omega⟩, h1, h2⟩
    · obtain ⟨h1, h2, h3⟩ := (ho x).mp hx
      exact c2 x ((hm x).mpr h1) h2 h3
  · rintro ⟨c1, c2⟩
    refine ⟨fun q h1 h2 => ?_, fun x hx h1 h2 => c2 x ((ho x).mpr ⟨(hm x).mp hx, h1, h2⟩)⟩
    obtain ⟨x, hx, h3, h4⟩ := c1 q.toNat (by omega)
    exact ⟨x, (hm x).mpr ((ho x).mp hx).1, by omega, by omega⟩
/-- .. and the overlap -/
theorem ovl_law {zs : List (Int × Int)} {p l : Int} (hp : Pos2 zs) (hl : 1 ≤ l) : (zs.any fun x => decide ((if x.1 > p then x.1 else p) < (if x.1 + x.2 < p + l then x.1 + x.2 else p + l))) = ovl zs p l := by
  unfold ovl
  rw [Bool.eq_iff_iff, List.any_eq_true, List.any_eq_true]
  constructor
  · rintro ⟨x, h1, h2⟩
    refine ⟨x, h1, ?_⟩
    simp only [Bool.and_eq_true, decide_eq_true_eq] at h2 ⊢
    split at h2 <;> split at h2 <;> omega
  · rintro ⟨x, h1, h2⟩
    refine ⟨x, h1, ?_⟩
    have := hp x h1
    simp only [Bool.and_eq_true, decide_eq_true_eq] at h2 ⊢
    split <;> split <;> omega
open TL (tl)
/-- the words of a whole number -/
def wrd (n : Int) : Str := Str.ofString (toString n)
def wtn (w : Int) (ps : List Int) : Str := Txt.join (Str.ofString " ") ((w :: ps).map wrd)
theorem small13 {P : Int → Prop} (h : ∀ k : Fin 13, P ((k : Nat) : Int)) {n : Int} (h0 : 0 ≤ n) (h1 : n ≤ 12) : P n := by
  have := h ⟨n.toNat, by omega⟩
  have e : ((n.toNat : Nat) : Int) = n := by omega
  rw [← e]
  exact this
theorem wrd_facts {n : Int} (h0 : 0 ≤ n) (h1 : n ≤ 12) : (tl (wrd n)).all (fun c => decide (48 ≤ c) && decide (c ≤ 57)) = true ∧ 1 ≤ (tl (wrd n)).length ∧ (tl (wrd n)).length ≤ 2 := by
  refine small13 (P := fun n => (tl (wrd n)).all (fun c => decide (48 ≤ c) && decide (c ≤ 57)) = true ∧ 1 ≤ (tl (wrd n)).length ∧ (tl (wrd n)).length ≤ 2) ?_ h0 h1
  decide +kernel
/-- one or two digits -/
def isNum (x : Str) : Bool := decide (1 ≤ (tl x).length) && decide ((tl x).length ≤ 2) && (tl x).all fun c => decide (c ∈ tl (Str.ofString "0123456789"))
def numV (x : Str) : Int := (PySem.intText? x).getD 0
theorem dig_iff {c : Nat} : c ∈ tl (Str.ofString "0123456789") ↔ 48 ≤ c ∧ c ≤ 57 := by
  have e : tl (Str.ofString "0123456789") = [48, 49, 50, 51, 52, 53, 54, 55, 56, 57] := by decide +kernel
  rw [e]
  simp only [List.mem_cons, List.not_mem_nil, or_false]
  omega
theorem one_dig : ∀ k : Fin 10, PySem.intText? ⟨#[48 + k.val]⟩ = some ((k.val : Nat) : Int) := by decide +kernel
theorem two_dig : ∀ k l : Fin 10, PySem.intText? ⟨#[48 + k.val, 48 + l.val]⟩ = some ((10 * k.val + l.val : Nat) : Int) := by decide +kernel
theorem num_text {x : Str} (h : isNum x = true) : PySem.intText? x = some (numV x) := by
  unfold isNum at h
  simp only [Bool.and_eq_true, decide_eq_true_eq, List.all_eq_true, dig_iff] at h
  obtain ⟨⟨h1, h2⟩, h3⟩ := h
  have key : ∃ i, PySem.intText? x = some i := by
    match q : tl x, h1, h2 with
    | [c], _, _ =>
      have hc := h3 c (by rw [q]; simp)
      have e : x = ⟨#[48 + (⟨c - 48, by omega⟩ : Fin 10).val]⟩ := TL.ext_tl (by rw [q]; show [c] = [48 + (c - 48)]; congr 1; omega)
      exact ⟨_, by rw [e]; exact one_dig ⟨c - 48, by omega⟩⟩
    | [c, d], _, _ =>
      have hc := h3 c (by rw [q]; simp)
      have hd := h3 d (by rw [q]; simp)
      have e : x = ⟨#[48 + (⟨c - 48, by omega⟩ : Fin 10).val, 48 + (⟨d - 48, by omega⟩ : Fin 10).val]⟩ := TL.ext_tl (by rw [q]; show [c, d] = [48 + (c - 48), 48 + (d - 48)]; rw [show 48 + (c - 48) = c by omega, show 48 + (d - 48) = d by omega])
      exact ⟨_, by rw [e]; exact two_dig ⟨c - 48, by omega⟩ ⟨d - 48, by omega⟩⟩
  obtain ⟨i, e⟩ := key
  unfold numV
  rw [e]
  rfl
theorem wrd_num {n : Int} (h0 : 0 ≤ n) (h1 : n ≤ 12) : isNum (wrd n) = true ∧ numV (wrd n) = n := by
  refine small13 (P := fun n => isNum (wrd n) = true ∧ numV (wrd n) = n) ?_ h0 h1
  decide +kernel
/-! ### the words of a text -/
def wordsL (x : Str) : List (List Nat) := TL.spl [32] 0 [] (tl x)
def wordsOf (x : Str) : List Str := (wordsL x).map fun l => ⟨l.toArray⟩
theorem tl_space : tl (Str.ofString " ") = [32] := by decide +kernel
theorem split_words (x : Str) : Txt.split x (Str.ofString " ") = wordsOf x := by
  refine TL.map_tl_inj ?_
  rw [TL.split_spl x _ (by rw [tl_space]; simp) (TL.kind_ok (by decide +kernel)), tl_space]
  unfold wordsOf wordsL
  rw [List.map_map]
  exact (List.map_id _).symm
theorem spl_ne (S : List Nat) : ∀ (k : Nat) (acc l : List Nat), TL.spl S k acc l ≠ []
  | k, acc, [] => by rw [TL.spl_nil]; simp
  | 0, acc, c :: r => by
    unfold TL.spl
    split
    · simp
    · exact spl_ne S 0 _ r
  | k + 1, acc, c :: r => by
    unfold TL.spl
    exact spl_ne S k _ r
theorem spl_len (S : List Nat) : ∀ (k : Nat) (acc l : List Nat), ∀ p ∈ TL.spl S k acc l, p.length ≤ acc.length + l.length
  | k, acc, [] => by rw [TL.spl_nil]; simp
  | 0, acc, c :: r => by
    unfold TL.spl
    split
    · intro p hp
      rcases List.mem_cons.mp hp with rfl | hp
      · omega
      · have := spl_len S _ _ r p hp
        simp only [List.length_nil, List.length_cons] at this ⊢
        omega
    · intro p hp
      have := spl_len S 0 _ r p hp
      simp only [List.length_append, List.length_cons, List.length_nil] at this ⊢
      omega
  | k + 1, acc, c :: r => by
    unfold TL.spl
    intro p hp
    have := spl_len S k _ r p hp
    simp only [List.length_cons]
    omega
theorem wordsOf_ne (x : Str) : wordsOf x ≠ [] := fun h => spl_ne _ _ _ _ (List.map_eq_nil_iff.mp h)
theorem wordsOf_len {x z : Str} (h : z ∈ wordsOf x) : z.length ≤ x.length := by
  obtain ⟨l, h1, rfl⟩ := List.mem_map.mp h
  have := spl_len _ _ _ _ l h1
  rw [TL.len_tl, TL.len_tl]
  simpa using this
/-! ### read -/
def prs (x : Str) : Option (Int × List Int) := if (wordsOf x).all isNum = true then
    match (wordsOf x).map numV with
    | w :: ps => if okB w ps = true then (if wtn w ps = x then some (w, ps) else none) else none
    | [] => none
  else none
theorem prs_sound {x : Str} {w : Int} {ps : List Int} (h : prs x = some (w, ps)) : okB w ps = true ∧ wtn w ps = x := by
  unfold prs at h
  split at h
  · split at h
    · split at h
      · split at h
        · cases h; exact ⟨by assumption, by assumption⟩
        · cases h
      · cases h
    · cases h
  · cases h
theorem okB_mem {w : Int} {ps : List Int} (ok : okB w ps = true) : ∀ n ∈ w :: ps, 0 ≤ n ∧ n ≤ 12 := by
  obtain ⟨h1, h2, h3, h4, h5⟩ := okB_spec.mp ok
  intro n hn
  rcases List.mem_cons.mp hn with rfl | hn
  · omega
  · have := h4 n hn
    omega
theorem wrd_nosp {n : Int} (h0 : 0 ≤ n) (h1 : n ≤ 12) : 32 ∉ tl (wrd n) := fun h => by
  have := (List.all_eq_true.mp (wrd_facts h0 h1).1) 32 h
  exact absurd this (by decide)
theorem words_wtn {w : Int} {ps : List Int} (ok : okB w ps = true) : wordsOf (wtn w ps) = (w :: ps).map wrd := by
  rw [← split_words]
  refine TL.split_join tl_space (by decide +kernel) (by simp) fun p hp => ?_
  obtain ⟨n, hn, rfl⟩ := List.mem_map.mp hp
  obtain ⟨h0, h1⟩ := okB_mem ok n hn
  exact wrd_nosp h0 h1
theorem prs_wtn {w : Int} {ps : List Int} (ok : okB w ps = true) : prs (wtn w ps) = some (w, ps) := by
  unfold prs
  rw [words_wtn ok]
  have ha : ((w :: ps).map wrd).all isNum = true := by
    rw [List.all_eq_true]
    intro z hz
    obtain ⟨n, hn, rfl⟩ := List.mem_map.mp hz
    obtain ⟨h0, h1⟩ := okB_mem ok n hn
    exact (wrd_num h0 h1).1
  have hm : ((w :: ps).map wrd).map numV = w :: ps := by
    rw [List.map_map]
    refine (List.map_congr_left (g := id) fun n hn => ?_).trans (List.map_id _)
    obtain ⟨h0, h1⟩ := okB_mem ok n hn
    exact (wrd_num h0 h1).2
  rw [if_pos ha, hm]
  show (if okB w ps = true then (if wtn w ps = wtn w ps then some (w, ps) else none) else none) = _
  rw [if_pos ok, if_pos rfl]
/-! ### signs and length of a text -/
theorem joinL_mem {S : List Nat} : ∀ {L : List (List Nat)} {c : Nat}, c ∈ TL.joinL S L → c ∈ S ∨ ∃ p ∈ L, c ∈ p
  | [], c, h => by cases h
  | [p], c, h => .inr ⟨p, by simp, h⟩
  | p :: q :: r, c, h => by
    have h : c ∈ p ++ (S ++ TL.joinL S (q :: r)) := h
    rcases List.mem_append.mp h with h | h
    · exact .inr ⟨p, by simp, h⟩
    · rcases List.mem_append.mp h with h | h
      · exact .inl h
      · rcases joinL_mem h with h | ⟨z, h1, h2⟩
        · exact .inl h
        · exact .inr ⟨z, List.mem_cons_of_mem _ h1, h2⟩
theorem joinL_len {S : List Nat} {k : Nat} : ∀ {L : List (List Nat)}, (∀ p ∈ L, p.length ≤ k) → (TL.joinL S L).length ≤ L.length * (k + S.length)
  | [], h => by simp [TL.joinL]
  | [p], h => by
    have := h p (by simp)
    show p.length ≤ 1 * _
    omega
  | p :: q :: r, h => by
    have h1 := h p (by simp)
    have h2 := joinL_len (S := S) (k := k) (L := q :: r) fun z hz => h z (List.mem_cons_of_mem _ hz)
    show (p ++ (S ++ TL.joinL S (q :: r))).length ≤ (q :: r).length.succ * _
    rw [Nat.succ_mul]
    simp only [List.length_append] at h2 ⊢
    omega
theorem joinL_snoc {S p : List Nat} : ∀ {L : List (List Nat)}, L ≠ [] → TL.joinL S (L ++ [p]) = TL.joinL S L ++ S ++ p
  | [], h => absurd rfl h
  | [a], _ => by show a ++ (S ++ p) = a ++ S ++ p; rw [List.append_assoc]
  | a :: b :: r, _ => by
    show a ++ (S ++ TL.joinL S (b :: r ++ [p])) = a ++ (S ++ TL.joinL S (b :: r)) ++ S ++ p
    rw [joinL_snoc (L := b :: r) (by simp)]
    simp only [List.append_assoc]
theorem tl_wtn (w : Int) (ps : List Int) : tl (wtn w ps) = TL.joinL [32] ((w :: ps).map fun n => tl (wrd n)) := by
  unfold wtn
  rw [TL.join_eq, TL.tl_join, tl_space, List.map_map]
  rfl
theorem wtn_nil (w : Int) : wtn w [] = wrd w := TL.ext_tl (tl_wtn w [])
theorem wtn_snoc (w : Int) (ps : List Int) (p : Int) : wtn w (ps ++ [p]) = wtn w ps ++ Str.ofString " " ++ wrd p := by
  refine TL.ext_tl ?_
  rw [TL.tl_append, TL.tl_append, tl_wtn, tl_wtn, tl_space, ← List.cons_append, List.map_append]
  exact joinL_snoc (by simp)
theorem wtn_len {w : Int} {ps : List Int} (h : ∀ n ∈ w :: ps, 0 ≤ n ∧ n ≤ 12) : (wtn w ps).length ≤ (ps.length + 1) * 3 := by
  rw [TL.len_tl, tl_wtn]
  have := joinL_len (S := [32]) (k := 2) (L := (w :: ps).map fun n => tl (wrd n)) fun p hp => by
    obtain ⟨n, hn, rfl⟩ := List.mem_map.mp hp
    exact (wrd_facts (h n hn).1 (h n hn).2).2.2
  rw [List.length_map, List.length_cons] at this
  exact this
/-- plain signs alone -/
def plS (x : Str) : Prop := ∀ c ∈ tl x, c < 128
theorem plS_ok {x : Str} (h : plS x) : PyData.strOk x = true := by
  unfold PyData.strOk
  rw [Array.all_eq_true']
  intro c hc
  have := h c (by simpa using hc)
  simp
  omega
theorem wtn_pl {w : Int} {ps : List Int} (h : ∀ n ∈ w :: ps, 0 ≤ n ∧ n ≤ 12) : plS (wtn w ps) := fun c hc => by
  rw [tl_wtn] at hc
  rcases joinL_mem hc with hc | ⟨p, hp, hc⟩
  · simp at hc; omega
  · obtain ⟨n, hn, rfl⟩ := List.mem_map.mp hp
    have := (List.all_eq_true.mp (wrd_facts (h n hn).1 (h n hn).2).1) c hc
    simp at this
    omega
theorem eqv_str (x y : Str) : PyData.eqv (.str x) (.str y) = decide (x = y) := by
  show (x == y) = _
  rw [Bool.eq_iff_iff]
  simp
def p_written : Pf := fun ds Q _ => match ds with
  | [v] => match brookOf v with
    | some (w, ps) => Q (.str (wtn w ps))
    | none => False
  | _ => False
def N_written : List Str := [Str.ofString "brook", Str.ofString "one"]
def body_written : TDS := dRet (dM_join (dC (.str (Str.ofString " "))) (dComp [1] (dISeq (dBin oPlus (dTup (dCons (dBin oIx (dVar 0) (dC (.int 0))) (dNil))) (dBin oIx (dVar 0) (dC (.int 1))))) (gName 1) (dYes) (dCB oStrI (dCons (dVar 1) (dNil)))))

theorem sum_le {k : Nat} : ∀ {l : List Nat}, (∀ n ∈ l, n ≤ k) → l.sum ≤ l.length * k
  | [], _ => by simp
  | a :: l, h => by
    have h1 := h a (by simp)
    have h2 := sum_le (k := k) (l := l) fun n hn => h n (List.mem_cons_of_mem _ hn)
    rw [List.sum_cons, List.length_cons, Nat.succ_mul]
    omega
theorem wp_written : ∀ ds Qa Er, p_written ds Qa Er → body_written (startD N_written (ds.map Sl.da)) [] { nx := fun _ _ => Qa .none, rt := fun d _ => Qa d, er := fun n _ => Er n } := by
  intro ds Qa Er h
  match ds, h with
  | [v], h =>
    have h : match brookOf v with
      | some (w, ps) => Qa (.str (wtn w ps))
      | none => False := h
    cases q : brookOf v with
    | none => rw [q] at h; exact h.elim
    | some wp =>
      obtain ⟨w, ps⟩ := wp
      rw [q] at h
      have hh : Qa (.str (wtn w ps)) := h
      obtain ⟨rfl, ok⟩ := brookOf_some q
      have hm := okB_mem ok
      have hl : ps.length ≤ 5 := (okB_spec.mp ok).2.2.1
      refine ⟨by show 1 + (ps.map PyData.int).length ≤ 1000000; rw [List.length_map]; omega, ?_⟩
      show compD _ _ _ _ _ _ ((w :: ps).map .int) _ []
      refine compD_map (fun d => match d with
        | .int i => .str (wrd i)
        | _ => .none) _ (fun d hd A hA => ?_) ?_
      · obtain ⟨n, hn, rfl⟩ := List.mem_map.mp hd
        have := hm n hn
        exact ⟨⟨by omega, by omega⟩, hA⟩
      · refine ⟨(w :: ps).map wrd, by rw [List.map_map, List.map_map]; rfl, ?_, hh⟩
        have h1 := sum_le (k := 2) (l := ((w :: ps).map wrd).map (·.length)) fun n hn => by
          rw [List.map_map] at hn
          obtain ⟨i, hi, rfl⟩ := List.mem_map.mp hn
          have := (wrd_facts (hm i hi).1 (hm i hi).2).2.2
          rw [← TL.len_tl] at this
          exact this
        have h2 : (Str.ofString " ").length = 1 := by decide +kernel
        rw [h2]
        simp only [List.length_map, List.length_cons] at h1 ⊢
        omega
theorem len_written : ∀ ds Qa Er, p_written ds Qa Er → ds.length = 1 := fun ds Qa Er h => by
  match ds, h with
  | [v], h => rfl
def p_format_brook : Pf := fun ds Q E => match ds with
  | [v] => match brookOf v with
    | some (w, ps) => Q (.str (wtn w ps))
    | none => E (Str.ofString "InvalidBrook")
  | _ => False
def N_format_brook : List Str := [Str.ofString "brook"]
def body_format_brook : TDS := dSeq (dExpr (dCallPJ p_need_brook (dCons (dVar 0) (dNil))))
  (dRet (dCallPJ p_written (dCons (dVar 0) (dNil))))

theorem wp_format_brook : ∀ ds Qa Er, p_format_brook ds Qa Er → body_format_brook (startD N_format_brook (ds.map Sl.da)) [] { nx := fun _ _ => Qa .none, rt := fun d _ => Qa d, er := fun n _ => Er n } := by
  intro ds Qa Er h
  match ds, h with
  | [v], h =>
    have h : match brookOf v with
      | some (w, ps) => Qa (.str (wtn w ps))
      | none => Er (Str.ofString "InvalidBrook") := h
    refine ⟨?_⟩
    show if isBrook v = true then _ else _
    cases q : brookOf v with
    | none =>
      rw [q] at h
      exact ifF (by unfold isBrook; rw [q]; rfl) h
    | some wp =>
      refine ifT (by unfold isBrook; rw [q]; rfl) ⟨?_⟩
      show match brookOf v with
        | some (w, ps) => Qa (.str (wtn w ps))
        | none => False
      rw [q] at h ⊢
      exact h
theorem len_format_brook : ∀ ds Qa Er, p_format_brook ds Qa Er → ds.length = 1 := fun ds Qa Er h => by
  match ds, h with
  | [v], h => rfl
def p_number_of : Pf := fun ds Q E => match ds with
  | [.str x] => x.length ≤ 100000 ∧ if isNum x = true then Q (.int (numV x)) else E (Str.ofString "InvalidText")
  | _ => False
def N_number_of : List Str := [Str.ofString "word", Str.ofString "sign"]
def body_number_of : TDS := dSeq (dIfS (dOrT (dNotT (dB (dChain oLe oLe (dC (.int 1)) (dCB oLen (dCons (dVar 0) (dNil))) (dC (.int 2))))) (dNotT (dB (dCB oAll (dCons (dComp [1] (dIStr (dVar 0)) (gName 1) (dYes) (dBin oInS (dVar 1) (dC (.str (Str.ofString "0123456789"))))) (dNil)))))) (dRaise (Str.ofString "InvalidText")) (dNext))
  (dRet (dCB oInt (dCons (dVar 0) (dNil))))

theorem wp_number_of : ∀ ds Qa Er, p_number_of ds Qa Er → body_number_of (startD N_number_of (ds.map Sl.da)) [] { nx := fun _ _ => Qa .none, rt := fun d _ => Qa d, er := fun n _ => Er n } := by
  intro ds Qa Er h
  match ds, h with
  | [.str x], h =>
    obtain ⟨hl, h⟩ := (show x.length ≤ 100000 ∧ if isNum x = true then Qa (.int (numV x)) else Er (Str.ofString "InvalidText") from h)
    have eN : isNum x = (decide ((1 : Int) ≤ (x.length : Int)) && decide ((x.length : Int) ≤ 2) && (tl x).all fun c => decide (c ∈ tl (Str.ofString "0123456789"))) := by
      unfold isNum
      rw [← TL.len_tl]
      congr 1
      congr 1
      · rw [decide_eq_decide]; omega
      · rw [decide_eq_decide]; omega
    show match (if x.length ≤ 100000 then some x.length else none) with
      | some n => _
      | none => False
    rw [if_pos hl]
    show if decide ((1 : Int) ≤ (x.length : Int)) = true then _ else _
    refine if2 (fun q1 => ?_) (fun q1 => ?_)
    · show if (!decide ((x.length : Int) ≤ 2)) = true then _ else _
      refine if2 (fun q2 => ?_) (fun q2 => ?_)
      · rw [eN, q1, show decide ((x.length : Int) ≤ 2) = false by simpa using q2, Bool.true_and, Bool.false_and, if_neg (by decide)] at h
        exact h
      · refine ⟨hl, ?_⟩
        have q3 : decide ((x.length : Int) ≤ 2) = true := by simpa using q2
        refine compD_map (fun d => match d with
          | .str z => .bool ((tl z).all fun c => decide (c ∈ tl (Str.ofString "0123456789")))
          | _ => .none) _ (fun d hd A hA => ?_) ?_
        · obtain ⟨c, hc, rfl⟩ := List.mem_map.mp hd
          refine ⟨c, rfl, ?_⟩
          have e : ((tl (⟨#[c]⟩ : Str)).all fun c => decide (c ∈ tl (Str.ofString "0123456789"))) = decide (c ∈ tl (Str.ofString "0123456789")) := by simp [tl]
          have hA : A (.da (.bool ((tl (⟨#[c]⟩ : Str)).all fun c => decide (c ∈ tl (Str.ofString "0123456789"))))) _ := hA
          rw [e] at hA
          exact hA
        · refine ⟨(tl x).map fun c => decide (c ∈ tl (Str.ofString "0123456789")), ?_, ?_⟩
          · show some (PyData.list _) = some (PyData.list _)
            unfold signsD
            rw [List.map_map, List.map_map]
            congr 2
            refine List.map_congr_left fun c _ => ?_
            show PyData.bool _ = PyData.bool _
            simp [tl]
          · have ea : ((tl x).map fun c => decide (c ∈ tl (Str.ofString "0123456789"))).all id = (tl x).all fun c => decide (c ∈ tl (Str.ofString "0123456789")) := by rw [List.all_map]; rfl
            rw [ea]
            show if (!((tl x).all fun c => decide (c ∈ tl (Str.ofString "0123456789")))) = true then _ else _
            rw [q1, q3, Bool.true_and, Bool.true_and] at eN
            rw [← eN]
            cases z : isNum x with
            | false => rw [z, if_neg (by decide)] at h; exact h
            | true =>
              rw [z, if_pos rfl] at h
              refine ⟨numV x, num_text z, ?_, h⟩
              have := of_decide_eq_true q3
              omega
    · rw [eN, q1, Bool.false_and, Bool.false_and, if_neg (by decide)] at h
      exact h
theorem len_number_of : ∀ ds Qa Er, p_number_of ds Qa Er → ds.length = 1 := fun ds Qa Er h => by
  match ds, h with
  | [.str x], h => rfl
def p_parse_brook : Pf := fun ds Q E => match ds with
  | [v] => match v with
    | .str x => (x.length ≤ 1000 ∧ PyData.strOk x = true) ∧ match prs x with
      | some (w, ps) => Q (bD w ps)
      | none => E (Str.ofString "InvalidText")
    | .dict _ => False
    | _ => E (Str.ofString "InvalidText")
  | _ => False
def N_parse_brook : List Str := [Str.ofString "text", Str.ofString "numbers", Str.ofString "word", Str.ofString "brook"]
def body_parse_brook : TDS := dSeq (dIfS (dNotT (dB (dIsi isStr (dVar 0)))) (dRaise (Str.ofString "InvalidText")) (dNext))
  (dSeq (dSet 1 (dComp [2] (dISeq (dM_split (dVar 0) (dC (.str (Str.ofString " "))))) (gName 2) (dYes) (dCallPJ p_number_of (dCons (dVar 2) (dNil)))))
  (dSeq (dSet 3 (dTup (dCons (dBin oIx (dVar 1) (dC (.int 0))) (dCons (dCB oTup (dCons (dSl (dVar 1) (dSo (dC (.int 1))) (dNo)) (dNil))) (dNil)))))
  (dSeq (dIfS (dOrT (dNotT (dB (dCallPJ p_is_brook (dCons (dVar 3) (dNil))))) (dB (dBin oNe (dCallPJ p_written (dCons (dVar 3) (dNil))) (dVar 0)))) (dRaise (Str.ofString "InvalidText")) (dNext))
  (dRet (dVar 3)))))

theorem comp_num {a b c d : Sl} {Q : Sl → Rs → Prop} {E : Str → Rs → Prop} {τ : Rs} : ∀ (ws : List Str) (acc : List PyData), (∀ w ∈ ws, w.length ≤ 100000) →
    (if ws.all isNum = true then Q (.da (.list (acc ++ ws.map fun w => .int (numV w)))) τ else E (Str.ofString "InvalidText") τ) → compD (gName 2) dYes (dCallPJ p_number_of (dCons (dVar 2) (dNil))) [a, b, c, d] Q E (ws.map .str) τ acc
  | [], acc, _, h => by
    rw [List.all_nil, if_pos rfl, List.map_nil, List.append_nil] at h
    exact h
  | w :: ws, acc, hl, h => by
    show dCallPJ p_number_of (dCons (dVar 2) (dNil)) [a, b, .da (.str w), d] τ (fun z τ2 => match z with
      | .da z => compD (gName 2) dYes (dCallPJ p_number_of (dCons (dVar 2) (dNil))) [a, b, c, d] Q E (ws.map .str) τ2 (acc ++ [z])
      | _ => False) E
    refine ⟨?_⟩
    refine ⟨hl w List.mem_cons_self, ?_⟩
    rw [List.all_cons] at h
    refine if2 (fun z => ?_) (fun z => ?_)
    · rw [z, Bool.true_and] at h
      refine comp_num ws (acc ++ [.int (numV w)]) (fun v hv => hl v (List.mem_cons_of_mem _ hv)) ?_
      rw [List.append_assoc]
      exact h
    · rw [z, Bool.false_and, if_neg (by decide)] at h
      exact h
theorem wp_parse_brook : ∀ ds Qa Er, p_parse_brook ds Qa Er → body_parse_brook (startD N_parse_brook (ds.map Sl.da)) [] { nx := fun _ _ => Qa .none, rt := fun d _ => Qa d, er := fun n _ => Er n } := by
  intro ds Qa Er h
  match ds, h with
  | [], h => exact h.elim
  | _ :: _ :: _, h => exact h.elim
  | [.dict _], h => exact h.elim
  | [.none], h => exact h
  | [.bool _], h => exact h
  | [.int _], h => exact h
  | [.list _], h => exact h
  | [.tuple _], h => exact h
  | [.str x], h =>
    obtain ⟨⟨hl, hs⟩, h⟩ := (show (x.length ≤ 1000 ∧ PyData.strOk x = true) ∧ match prs x with
      | some (w, ps) => Qa (bD w ps)
      | none => Er (Str.ofString "InvalidText") from h)
    refine ⟨by decide +kernel, by omega, ?_⟩
    show compD (gName 2) dYes (dCallPJ p_number_of (dCons (dVar 2) (dNil))) [.da (.str x), .un, .un, .un] _ _ ((Txt.split x (Str.ofString " ")).map .str) [] []
    rw [split_words]
    refine comp_num (wordsOf x) [] (fun w hw => by have := wordsOf_len hw; omega) (if2 (fun z => ?_) (fun z => ?_))
    · rw [List.nil_append]
      cases q : wordsOf x with
      | nil => exact absurd q (wordsOf_ne x)
      | cons w0 ws =>
        have ez : (List.map (fun w => PyData.int (numV w)) (w0 :: ws)) = .int (numV w0) :: (ws.map numV).map .int := by rw [List.map_map]; rfl
        rw [ez]
        generalize hps : ws.map numV = ps
        generalize hw : numV w0 = w
        have ep : prs x = if okB w ps = true then (if wtn w ps = x then some (w, ps) else none) else none := by
          unfold prs
          rw [if_pos z, q, List.map_cons, hps, hw]
        have ecut : cutD (PyData.int w :: ps.map .int) (some 1) none = ps.map .int := by
          unfold cutD
          rw [HT.sIx_none, show (1 : Int) = ((1 : Nat) : Int) from rfl, HT.sIx_nat, List.length_cons, Nat.min_eq_left (by omega), List.drop_one, List.tail_cons]
          exact List.take_of_length_le (by simp)
        have e0 : atI (PyData.int w :: ps.map .int) 0 = some (.int w) := atI_nat (j := 0) rfl
        show dSeq (dSet 3 (dTup (dCons (dBin oIx (dVar 1) (dC (PyData.int 0))) (dCons (dCB oTup (dCons (dSl (dVar 1) (dSo (dC (PyData.int 1))) dNo) dNil)) dNil)))) _ [.da (.str x), .da (.list (PyData.int w :: ps.map .int)), .un, .un] [] _
        show match atI (PyData.int w :: ps.map .int) 0 with
          | some d => _
          | none => False
        rw [e0]
        show dSeq (dIfS (dOrT (dNotT (dB (dCallPJ p_is_brook (dCons (dVar 3) dNil)))) (dB (dBin oNe (dCallPJ p_written (dCons (dVar 3) dNil)) (dVar 0)))) (dRaise (Str.ofString "InvalidText")) dNext) (dRet (dVar 3)) [.da (.str x), .da (.list (PyData.int w :: ps.map .int)), .un, .da (.tuple [.int w, .tuple (cutD (PyData.int w :: ps.map .int) (some 1) none)])] [] { nx := fun _ _ => Qa .none, rt := fun d _ => Qa d, er := fun n _ => Er n }
        rw [ecut]
        refine ⟨?_⟩
        show if (!isBrook (bD w ps)) = true then _ else _
        cases qb : okB w ps with
        | false =>
          have eb : isBrook (bD w ps) = false := by unfold isBrook brookOf; rw [asB_bD]; show (if okB w ps = true then some (w, ps) else none).isSome = false; rw [qb]; rfl
          rw [eb]
          rw [qb, if_neg (by decide)] at ep
          rw [ep] at h
          exact h
        | true =>
          have eb : isBrook (bD w ps) = true := by unfold isBrook; rw [brookOf_bD qb]; rfl
          rw [eb]
          rw [qb, if_pos rfl] at ep
          refine ifF rfl ⟨?_⟩
          show match brookOf (bD w ps) with
            | some (w, ps) => _
            | none => False
          rw [brookOf_bD qb]
          refine ⟨⟨plS_ok (wtn_pl (okB_mem qb)), hs⟩, ?_⟩
          show if (!PyData.eqv (.str (wtn w ps)) (.str x)) = true then _ else _
          rw [eqv_str]
          by_cases e : wtn w ps = x
          · rw [if_pos e] at ep
            rw [ep] at h
            exact ifF (by simp [e]) h
          · rw [if_neg e] at ep
            rw [ep] at h
            exact ifT (by simp [e]) h
    · have : prs x = none := by unfold prs; rw [if_neg (by rw [z]; decide)]
      rw [this] at h
      exact h
theorem len_parse_brook : ∀ ds Qa Er, p_parse_brook ds Qa Er → ds.length = 1 := fun ds Qa Er h => by
  match ds, h with
  | [v], h => rfl
abbrev QL : Str := (Str.ofString "law" ++ ".<locals>.") ++ "<lambda>"
def ES : List Str := [Str.ofString "InvalidText"]
/-- if made != ('error', -/
def tl_0 : TDS := dIfS (dB (dBin oNe (dVar 9) (dTup (dCons (dC (.str (Str.ofString "error"))) (dCons (dC (.str (Str.ofString "InvalidText"))) (dNil)))))) (dIfS (dOrT (dNotT (dB (dCallPI p_is_brook (dCons (dVar 9) (dNil))))) (dB (dBin oNe (dCallPI p_format_brook (dCons (dVar 9) (dNil))) (dVar 8)))) (dRet (dC (.bool false))) (dNext)) (dNext)
/-- made = _law_told(lam -/
def tl_1 : TDS := dSeq (dSet 9 (dTold 1 QL ES (dCallPJ p_parse_brook (dCons (dVar 8) (dNil)))))
  tl_0
/-- bent = [text[:at] + -/
def tl_2 : TDS := dSeq (dSet 8 (dBin oIx (dLst (dCons (dBin oPlus (dSlS (dVar 3) (dNo) (dSo (dVar 6))) (dSlS (dVar 3) (dSo (dBin oPlus (dVar 6) (dC (.int 1)))) (dNo))) (dCons (dBin oPlus (dBin oPlus (dSlS (dVar 3) (dNo) (dSo (dVar 6))) (dVar 7)) (dSlS (dVar 3) (dSo (dVar 6)) (dNo))) (dCons (dBin oPlus (dVar 3) (dVar 7)) (dCons (dSlS (dVar 3) (dNo) (dSo (dVar 6))) (dNil)))))) (dBin oMod (dVar 5) (dC (.int 4)))))
  tl_1
/-- if _law_told(lambda: -/
def tl_3 : TDS := dIfS (dB (dBin oNe (dTold 1 QL ES (dCallPJ p_parse_brook (dCons (dC (.str (Str.ofString "12 1 2 3 4 11"))) (dNil)))) (dTup (dCons (dC (.int 12)) (dCons (dTup (dCons (dC (.int 1)) (dCons (dC (.int 2)) (dCons (dC (.int 3)) (dCons (dC (.int 4)) (dCons (dC (.int 11)) (dNil))))))) (dNil)))))) (dRet (dC (.bool false))) (dNext)
/-- for bad in cases: -/
def tl_4 : TDS := dSeq (dFor (dISeq (dVar 10)) (gName 11)
  (dIfS (dB (dBin oNe (dTold 1 QL ES (dCallPJ p_parse_brook (dCons (dVar 11) (dNil)))) (dTup (dCons (dC (.str (Str.ofString "error"))) (dCons (dC (.str (Str.ofString "InvalidText"))) (dNil)))))) (dRet (dC (.bool false))) (dNext)))
  tl_3
/-- cases = cases + ['4, -/
def tl_5 : TDS := dSeq (dSet 10 (dBin oPlus (dVar 10) (dLst (dCons (dC (.str (Str.ofString "4,2"))) (dCons (dC (.str (Str.ofString "x"))) (dCons (dC .none) (dCons (dC (.int 5)) (dCons (dLst (dCons (dVar 3) (dNil))) (dCons (dVar 2) (dNil))))))))))
  tl_4
/-- cases = ['', ' ', '0 -/
def tl_6 : TDS := dSeq (dSet 10 (dLst (dCons (dC (.str (Str.ofString ""))) (dCons (dC (.str (Str.ofString " "))) (dCons (dC (.str (Str.ofString "0"))) (dCons (dC (.str (Str.ofString "13"))) (dCons (dC (.str (Str.ofString "4 4"))) (dCons (dC (.str (Str.ofString "4 0"))) (dCons (dC (.str (Str.ofString "4 2 1"))) (dCons (dC (.str (Str.ofString "4 2 2"))) (dCons (dC (.str (Str.ofString "4  2"))) (dCons (dC (.str (Str.ofString "04 2"))) (dCons (dC (.str (Str.ofString "4 02"))) (dNil))))))))))))))
  tl_5
/-- for turn in range(10 -/
def tl_7 : TDS := dSeq (dFor (dIRng1 (dCons (dC (.int 10)) (dNil))) (gName 5)
  (dSeq (dPar 6 7 (dCons (dCallRN r__law_roll (dCons (dVar 1) (dCons (dBin oPlus (dCB oLen (dCons (dVar 3) (dNil))) (dC (.int 1))) (dNil)))) (dCons (dBin oIx (dC (.str (Str.ofString " 01239"))) (dCallRN r__law_roll (dCons (dVar 1) (dCons (dC (.int 6)) (dNil))))) (dNil))))
  tl_2))
  tl_6
/-- if format_brook(broo -/
def tl_8 : TDS := dSeq (dIfS (dOrT (dB (dBin oNe (dCallPI p_format_brook (dCons (dVar 2) (dNil))) (dVar 3))) (dB (dBin oNe (dTold 1 QL ES (dCallPJ p_parse_brook (dCons (dVar 3) (dNil)))) (dVar 2)))) (dRet (dC (.bool false))) (dNext))
  tl_7
/-- for pier in brook[1] -/
def tl_9 : TDS := dSeq (dFor (dISeq (dBin oIx (dVar 2) (dC (.int 1)))) (gName 4)
  (dSet 3 (dBin oPlus (dBin oPlus (dVar 3) (dC (.str (Str.ofString " ")))) (dCB oStrI (dCons (dVar 4) (dNil))))))
  tl_8
/-- text = str(brook[0]) -/
def tl_10 : TDS := dSeq (dSet 3 (dCB oStrI (dCons (dBin oIx (dVar 2) (dC (.int 0))) (dNil))))
  tl_9
def N_law : List Str := [Str.ofString "script", Str.ofString "dice", Str.ofString "brook", Str.ofString "text", Str.ofString "pier", Str.ofString "turn", Str.ofString "at", Str.ofString "sign", Str.ofString "bent", Str.ofString "made", Str.ofString "cases", Str.ofString "bad"]
def body_law : TDS := dSeq (dSet 2 (dCallRN r__law_any_brook (dCons (dVar 1) (dCons (dC (.int 12)) (dNil)))))
  tl_10

abbrev D0 : DEnds := { nx := fun ρ τ => ρ.length = N_law.length ∧ τ[0]? = some .dice ∧ τ[1]? = some (.tab QL), rt := fun _ _ => False, er := fun _ _ => False }
theorem at_some {ds : List PyData} {j : Int} (h0 : 0 ≤ j) (h1 : j < ds.length) : ∃ d, atI ds j = some d ∧ d ∈ ds := by
  have hl : j.toNat < ds.length := by omega
  obtain ⟨k, rfl⟩ : ∃ k : Nat, j = (k : Int) := ⟨j.toNat, by omega⟩
  rw [Int.toNat_natCast] at hl
  exact ⟨ds[k], atI_nat (by simp [hl]), List.getElem_mem hl⟩
theorem at_cps {z : Str} {j : Int} (h0 : 0 ≤ j) (h1 : j < z.length) : ∃ c, atI z.cps.toList j = some c ∧ c ∈ TL.tl z := by
  have hl : j.toNat < z.cps.toList.length := by
    have : z.length = z.cps.toList.length := TL.len_tl z
    omega
  obtain ⟨k, rfl⟩ : ∃ k : Nat, j = (k : Int) := ⟨j.toNat, by omega⟩
  rw [Int.toNat_natCast] at hl
  exact ⟨z.cps.toList[k], atI_nat (by simp [hl]), List.getElem_mem hl⟩
theorem pl_cut {z : Str} {lo hi : Option Int} (h : plS z) : plS (cutS z lo hi) := fun c hc => h c (List.mem_of_mem_drop (List.mem_of_mem_take hc))
theorem pl_app {x y : Str} (h : plS x) (h' : plS y) : plS (x ++ y) := fun c hc => by
  rw [TL.tl_append] at hc
  rcases List.mem_append.mp hc with hc | hc
  · exact h c hc
  · exact h' c hc
theorem len_app (x y : Str) : (x ++ y).length = x.length + y.length := by
  rw [TL.len_tl, TL.tl_append, List.length_append, TL.len_tl, TL.len_tl]
abbrev IT : Str := Str.ofString "InvalidText"
abbrev bads (x : Str) (b : PyData) : List PyData := [.str (Str.ofString ""), .str (Str.ofString " "), .str (Str.ofString "0"), .str (Str.ofString "13"), .str (Str.ofString "4 4"), .str (Str.ofString "4 0"), .str (Str.ofString "4 2 1"), .str (Str.ofString "4 2 2"), .str (Str.ofString "4  2"), .str (Str.ofString "04 2"), .str (Str.ofString "4 02"), .str (Str.ofString "4,2"), .str (Str.ofString "x"), .none, .int 5, .list [.str x], b]
theorem bad_str {x : Str} {Q : PyData → Prop} {E : Str → Prop} (h1 : x.length ≤ 1000) (h2 : PyData.strOk x = true) (h : prs x = none) (hE : E IT) : p_parse_brook [.str x] Q E := by
  refine ⟨⟨h1, h2⟩, ?_⟩
  rw [h]
  exact hE
theorem bad_all {x : Str} {w : Int} {ps : List Int} : ∀ d ∈ bads x (bD w ps), ∀ (Q : PyData → Prop) (E : Str → Prop), E IT → p_parse_brook [d] Q E := by
  intro d hd Q E hE
  simp only [bads, List.mem_cons, List.not_mem_nil, or_false] at hd
  rcases hd with rfl | rfl | rfl | rfl | rfl | rfl | rfl | rfl | rfl | rfl | rfl | rfl | rfl | rfl | rfl | rfl | rfl
  all_goals first
    | exact bad_str (by decide +kernel) (by decide +kernel) (by decide +kernel) hE
    | exact hE
theorem tail6 {w : Int} {ps : List Int} {x : Str} {v4 v5 v6 v7 v8 v9 v10 v11 : Sl} :
    tl_6 [.un, .res 0, .da (bD w ps), .da (.str x), v4, v5, v6, v7, v8, v9, v10, v11] [.dice, .tab QL] D0 := by
  refine ⟨by show 11 + 6 ≤ 1000000; decide, ?_⟩
  show tl_4 [.un, .res 0, .da (bD w ps), .da (.str x), v4, v5, v6, v7, v8, v9, .da (.list (bads x (bD w ps))), v11] [.dice, .tab QL] D0
  refine for_lst (bads x (bD w ps)) (fun Q h => h) ?_
  refine loopD_ind (fun i ρ τ => ∃ v11, ρ = [.un, .res 0, .da (bD w ps), .da (.str x), v4, v5, v6, v7, v8, v9, .da (.list (bads x (bD w ps))), v11] ∧ τ = [.dice, .tab QL]) _ ⟨_, rfl, rfl⟩ ?_ ?_
  · rintro i d ρ τ hi ⟨v11, rfl, rfl⟩ K hK
    exact told_if (n := IT) rfl (by decide) (fun Q E hE => ⟨bad_all d (List.mem_of_getElem? hi) _ _ hE⟩) (hK _ _ ⟨_, rfl, rfl⟩)
  · rintro ρ τ ⟨v11, rfl, rfl⟩
    show tl_3 [.un, .res 0, .da (bD w ps), .da (.str x), v4, v5, v6, v7, v8, v9, .da (.list (bads x (bD w ps))), v11] [.dice, .tab QL] D0
    have ep : prs (Str.ofString "12 1 2 3 4 11") = some (12, [1, 2, 3, 4, 11]) := by decide +kernel
    refine ⟨rfl, ⟨⟨⟨by decide +kernel, by decide +kernel⟩, ?_⟩⟩⟩
    rw [ep]
    exact ⟨⟨rfl, rfl⟩, ifF rfl ⟨rfl, rfl, rfl⟩⟩
theorem wp_law : body_law ((List.replicate N_law.length Sl.un).set 1 (.res 0)) [.dice, .tab QL] D0 := by
  refine ⟨rfl, rfl, ⟨by decide, by decide⟩, fun w ps hw ok => ?_⟩
  have hm := okB_mem ok
  obtain ⟨w1, w2, hn, hb, _⟩ := okB_spec.mp ok
  show tl_10 [.un, .res 0, .da (bD w ps), .un, .un, .un, .un, .un, .un, .un, .un, .un] [.dice, .tab QL] D0
  refine ⟨⟨by omega, by omega⟩, ?_⟩
  show tl_9 [.un, .res 0, .da (bD w ps), .da (.str (wrd w)), .un, .un, .un, .un, .un, .un, .un, .un] [.dice, .tab QL] D0
  refine for_lst (ps.map .int) (fun Q h => h) ?_
  refine loopD_ind (fun i ρ τ => ∃ v4, ρ = [.un, .res 0, .da (bD w ps), .da (.str (wtn w (ps.take i))), v4, .un, .un, .un, .un, .un, .un, .un] ∧ τ = [.dice, .tab QL]) _ ⟨_, by rw [List.take_zero, wtn_nil], rfl⟩ ?_ ?_
  · rintro i d ρ τ hi ⟨v4, rfl, rfl⟩ K hK
    rw [List.getElem?_map] at hi
    obtain ⟨p, hp, rfl⟩ := Option.map_eq_some_iff.mp hi
    have hpm := hm p (List.mem_cons_of_mem _ (List.mem_of_getElem? hp))
    have ht : ∀ n ∈ w :: ps.take i, 0 ≤ n ∧ n ≤ 12 := fun n hn => hm n (by
      rcases List.mem_cons.mp hn with rfl | hn
      · exact List.mem_cons_self
      · exact List.mem_cons_of_mem _ (List.mem_of_mem_take hn))
    have hl := wtn_len ht
    have hl2 : (ps.take i).length ≤ 5 := by rw [List.length_take]; omega
    have e1 : (Str.ofString " ").length = 1 := by decide +kernel
    have e2 := (wrd_facts hpm.1 hpm.2).2.2
    rw [← TL.len_tl] at e2
    refine ⟨by rw [e1]; omega, ⟨by omega, by omega⟩, by rw [len_app, e1]; show _ + (wrd p).length ≤ _; omega, ?_⟩
    refine hK _ _ ⟨.da (.int p), ?_, rfl⟩
    have et : ps.take (i + 1) = ps.take i ++ [p] := by rw [List.take_add_one, hp]; rfl
    rw [et, wtn_snoc]
    rfl
  · rintro ρ τ ⟨v4, rfl, rfl⟩
    rw [List.length_map, List.take_length]
    have hl := wtn_len hm
    have hl2 : (wtn w ps).length ≤ 18 := by omega
    have hpl := wtn_pl hm
    generalize hx : wtn w ps = x at hl2 hpl
    show tl_8 [.un, .res 0, .da (bD w ps), .da (.str x), v4, .un, .un, .un, .un, .un, .un, .un] [.dice, .tab QL] D0
    refine ⟨?_⟩
    show match brookOf (bD w ps) with
      | some (w, ps) => _
      | none => _
    rw [brookOf_bD ok]
    refine ⟨⟨plS_ok (hx ▸ hpl), plS_ok hpl⟩, ?_⟩
    show if (!PyData.eqv (.str (wtn w ps)) (.str x)) = true then _ else _
    rw [eqv_str, hx, decide_eq_true rfl]
    refine ifF rfl ?_
    refine ⟨rfl, ⟨⟨⟨by omega, plS_ok hpl⟩, ?_⟩⟩⟩
    rw [← hx, prs_wtn ok, hx]
    refine ⟨⟨shp_bD 58 _ _, shp_bD 58 _ _⟩, ?_⟩
    show if (!PyData.eqv (bD w ps) (bD w ps)) = true then _ else _
    rw [eqv_bD, decide_eq_true ⟨rfl, rfl⟩]
    refine ifF rfl ?_
    show tl_7 [.un, .res 0, .da (bD w ps), .da (.str x), v4, .un, .un, .un, .un, .un, .un, .un] [.dice, .tab QL] D0
    refine for_lst (rangeL 0 10) (fun Q h => ⟨⟨by decide, by decide⟩, h⟩) ?_
    refine loopD_ind (fun i ρ τ => ∃ v5 v6 v7 v8 v9, ρ = [.un, .res 0, .da (bD w ps), .da (.str x), v4, v5, v6, v7, v8, v9, .un, .un] ∧ τ = [.dice, .tab QL]) _ ⟨_, _, _, _, _, rfl, rfl⟩ ?_ ?_
    · rintro i d ρ τ hi ⟨v5, v6, v7, v8, v9, rfl, rfl⟩ K hK
      obtain ⟨rfl, hi10⟩ := rangeL_get hi
      have hlen : lenOf [RS.dice, RS.tab QL] (.da (.str x)) = some x.length := if_pos (by omega)
      show match lenOf [RS.dice, RS.tab QL] (.da (.str x)) with
        | some n => _
        | none => False
      rw [hlen]
      refine ⟨rfl, rfl, ⟨by omega, by omega⟩, fun at_ a0 a1 => ⟨rfl, rfl, ⟨by decide, by decide⟩, fun r r0 r1 => ⟨by decide +kernel, ?_⟩⟩⟩
      obtain ⟨c, ec, hc⟩ := at_cps (z := Str.ofString " 01239") r0 (by rw [show (Str.ofString " 01239").length = 6 by decide +kernel]; exact r1)
      have hc1 : c < 128 := by
        have e : TL.tl (Str.ofString " 01239") = [32, 48, 49, 50, 51, 57] := by decide +kernel
        rw [e] at hc
        simp only [List.mem_cons, List.not_mem_nil, or_false] at hc
        omega
      rw [ec]
      have pc : plS ⟨#[c]⟩ := fun d hd => by
        have hd : d ∈ [c] := hd
        rw [List.mem_singleton.mp hd]
        exact hc1
      have lc : (⟨#[c]⟩ : Str).length = 1 := rfl
      show tl_2 [.un, .res 0, .da (bD w ps), .da (.str x), v4, .da (.int (0 + (i : Int))), .da (.int at_), .da (.str ⟨#[c]⟩), v8, v9, .un, .un] [.dice, .tab QL] { D0 with nx := K }
      have k1 : ∀ lo hi, (cutS x lo hi).length ≤ 18 := fun lo hi => Nat.le_trans (cutS_length x lo hi) hl2
      have k2 : ∀ lo hi, plS (cutS x lo hi) := fun lo hi => pl_cut hpl
      have hx1 : x.length ≤ 100000 := by omega
      have l1 := k1 none (some at_)
      have l2 := k1 (some (at_ + 1)) none
      have l3 := k1 (some at_) none
      refine ⟨hx1, hx1, by omega, hx1, by rw [lc]; omega, hx1, by rw [len_app, lc]; omega, by rw [lc]; omega, hx1, by show (0 : Int) < 4; decide, ?_⟩
      obtain ⟨d, ed, hd⟩ := at_some (ds := [.str (cutS x none (some at_) ++ cutS x (some (at_ + 1)) none), .str (cutS x none (some at_) ++ ⟨#[c]⟩ ++ cutS x (some at_) none), .str (x ++ ⟨#[c]⟩), .str (cutS x none (some at_))]) (j := (0 + (i : Int)) % 4) (by omega) (by show _ < ((4 : Nat) : Int); omega)
      refine ix_go (τ := [.dice, .tab QL]) rfl rfl ed ?_
      obtain ⟨z, rfl, hz1, hz2⟩ : ∃ z, d = .str z ∧ plS z ∧ z.length ≤ 1000 := by
        simp only [List.mem_cons, List.not_mem_nil, or_false] at hd
        rcases hd with rfl | rfl | rfl | rfl
        · exact ⟨_, rfl, pl_app (k2 _ _) (k2 _ _), by rw [len_app]; omega⟩
        · exact ⟨_, rfl, pl_app (pl_app (k2 _ _) pc) (k2 _ _), by rw [len_app, len_app, lc]; omega⟩
        · exact ⟨_, rfl, pl_app hpl pc, by rw [len_app, lc]; omega⟩
        · exact ⟨_, rfl, k2 _ _, by omega⟩
      show tl_1 [.un, .res 0, .da (bD w ps), .da (.str x), v4, .da (.int (0 + (i : Int))), .da (.int at_), .da (.str ⟨#[c]⟩), .da (.str z), v9, .un, .un] [.dice, .tab QL] { D0 with nx := K }
      refine ⟨rfl, ⟨⟨⟨hz2, plS_ok hz1⟩, ?_⟩⟩⟩
      cases q : prs z with
      | none =>
        refine ⟨by decide, ?_⟩
        show tl_0 [.un, .res 0, .da (bD w ps), .da (.str x), v4, .da (.int (0 + (i : Int))), .da (.int at_), .da (.str ⟨#[c]⟩), .da (.str z), .da (errT IT), .un, .un] [.dice, .tab QL] { D0 with nx := K }
        refine ⟨⟨shp_errT (by decide +kernel), shp_errT (by decide +kernel)⟩, ?_⟩
        show if (!PyData.eqv (errT IT) (errT IT)) = true then _ else _
        rw [eqv_errT]
        exact ifF rfl (hK _ _ ⟨_, _, _, _, _, rfl, rfl⟩)
      | some wp =>
        obtain ⟨w', ps'⟩ := wp
        obtain ⟨ok', ez⟩ := prs_sound q
        show tl_0 [.un, .res 0, .da (bD w ps), .da (.str x), v4, .da (.int (0 + (i : Int))), .da (.int at_), .da (.str ⟨#[c]⟩), .da (.str z), .da (bD w' ps'), .un, .un] [.dice, .tab QL] { D0 with nx := K }
        refine ⟨⟨shp_bD 58 _ _, shp_errT (n := IT) (by decide +kernel)⟩, ?_⟩
        show if (!PyData.eqv (bD w' ps') (errT IT)) = true then _ else _
        refine ifT rfl ⟨?_⟩
        show if (!isBrook (bD w' ps')) = true then _ else _
        have eb : isBrook (bD w' ps') = true := by unfold isBrook; rw [brookOf_bD ok']; rfl
        rw [eb]
        refine ifF rfl ⟨?_⟩
        show match brookOf (bD w' ps') with
          | some (w, ps) => _
          | none => _
        rw [brookOf_bD ok', ← ez]
        refine ⟨⟨plS_ok (wtn_pl (okB_mem ok')), plS_ok (wtn_pl (okB_mem ok'))⟩, ?_⟩
        show if (!PyData.eqv (.str (wtn w' ps')) (.str (wtn w' ps'))) = true then _ else _
        rw [eqv_str, decide_eq_true rfl]
        exact ifF rfl (hK _ _ ⟨_, _, _, _, _, rfl, rfl⟩)
    · rintro ρ τ ⟨v5, v6, v7, v8, v9, rfl, rfl⟩
      exact tail6
def top (i : Nat) : Stmt := PySem.Challenge.pw_plankways_k20_whole_texts.main.body.getD i (.Pass ⟨0, 0, 0, 0⟩)
abbrev s_is_whole : Stmt := top 15
abbrev s_is_brook : Stmt := top 16
abbrev s_need_brook : Stmt := top 17
abbrev s_written : Stmt := top 19
abbrev s_format_brook : Stmt := top 20
abbrev s_number_of : Stmt := top 21
abbrev s_parse_brook : Stmt := top 22
abbrev s__law_drawn : Stmt := top 25
abbrev s__law_roll : Stmt := top 26
abbrev s__law_any_brook : Stmt := top 30
abbrev s__law_cell : Stmt := top 24
abbrev s__law_rounds : Stmt := top 27
abbrev s_law : Stmt := top 31
abbrev s__law_told : Stmt := top 29
abbrev s__law_term : Stmt := top 28
structure Txt (K : PySem.W.Frag) (mg : Str → Option Value) : Prop where
  isinstance_ : mg (Str.ofString "isinstance") = none
  int_ : mg (Str.ofString "int") = none
  bool_ : mg (Str.ofString "bool") = none
  tuple_ : mg (Str.ofString "tuple") = none
  str_ : mg (Str.ofString "str") = none
  len : mg (Str.ofString "len") = none
  all : mg (Str.ofString "all") = none
  range : mg (Str.ofString "range") = none
  min : mg (Str.ofString "min") = none
  max : mg (Str.ofString "max") = none
  x_InvalidBrook : Exn K mg (Str.ofString "InvalidBrook")
  x_InvalidText : Exn K mg (Str.ofString "InvalidText")
theorem sc_is_whole : FnScope N_is_whole [Str.ofString "value", Str.ofString "low", Str.ofString "high"] (defScope s_is_whole) := ⟨rfl, rfl, rfl, by decide +kernel, rfl, by decide +kernel, by decide +kernel⟩
theorem ok_is_whole {P : Program} {w : World} {K : PySem.W.Frag} {mg : Str → Option Value} {base : Heap} {f : Addr} {fd : FuncData} (T : Txt K mg) (Fu : Fun K (Str.ofString "is_whole") (Str.ofString "is_whole") s_is_whole f fd) (hm : mg (Str.ofString "is_whole") = some (.ref f)) :
    Dfn P w K mg base (Str.ofString "is_whole") 1 [Str.ofString "value", Str.ofString "low", Str.ofString "high"] (toFn p_is_whole) := by
  skip
  refine fnP_mk (k := 0) (N := N_is_whole) (body := body_is_whole) Fu hm (Fu.binds fun _ _ _ _ _ _ us hl => match us, hl with | [_, _, _], _ => rfl) sc_is_whole (by decide) len_is_whole (fun cdv A outer s H E G hG hE hA hr => ?_) wp_is_whole
  subst hE
  have tk : L2N.Takes (cxOf (L2N.CX P w) P w K mg base N_is_whole (Str.ofString "is_whole") (defScope s_is_whole) f cdv A outer s H G.E) fun cls d _ H => G.E cls d H := L2N.takes_of rfl rfl rfl rfl
  have px : Passes (L2N.CX P w) (cxOf (L2N.CX P w) P w K mg base N_is_whole (Str.ofString "is_whole") (defScope s_is_whole) f cdv A outer s H G.E) G.E := L2N.passes_call tk fun _ _ _ _ h => h
  have po : PassesOwn (model P w) (A.deeper (envOfC (Str.ofString "is_whole") (defScope s_is_whole) s.heap.objs.size f cdv)) (envOfC (Str.ofString "is_whole") (defScope s_is_whole) s.heap.objs.size f cdv) (cxOf (L2N.CX P w) P w K mg base N_is_whole (Str.ofString "is_whole") (defScope s_is_whole) f cdv A outer s H G.E).xe := passes_of rfl
  have hu : (A.deeper (envOfC (Str.ofString "is_whole") (defScope s_is_whole) s.heap.objs.size f cdv)).units + 64 < cLine := hr.units
  have hu1 : (A.deeper (envOfC (Str.ofString "is_whole") (defScope s_is_whole) s.heap.objs.size f cdv)).units + 65 < cLine := by have := hr.un; omega
  have hu2 : (A.deeper (envOfC (Str.ofString "is_whole") (defScope s_is_whole) s.heap.objs.size f cdv)).units + 66 < cLine := by have := hr.un; omega
  exact (s_one (s_ret (d_and (d_isi kit_int (d_var 0) T.isinstance_ T.int_ (by decide +kernel) (by decide) (by decide)) (d_and (d_not (d_isi kit_bool (d_var 0) T.isinstance_ T.bool_ (by decide +kernel) (by decide) (by decide))) (d_one (d_lele (d_var 1) (d_var 0) (d_var 2)))))))

theorem sc_is_brook : FnScope N_is_brook [Str.ofString "value"] (defScope s_is_brook) := ⟨rfl, rfl, rfl, by decide +kernel, rfl, by decide +kernel, by decide +kernel⟩
theorem ok_is_brook {P : Program} {w : World} {K : PySem.W.Frag} {mg : Str → Option Value} {base : Heap} {f : Addr} {fd : FuncData} (T : Txt K mg) (Fu : Fun K (Str.ofString "is_brook") (Str.ofString "is_brook") s_is_brook f fd) (hm : mg (Str.ofString "is_brook") = some (.ref f)) (D_is_whole : Dfn P w K mg base (Str.ofString "is_whole") 1 [Str.ofString "value", Str.ofString "low", Str.ofString "high"] (toFn p_is_whole)) :
    Dfn P w K mg base (Str.ofString "is_brook") 2 [Str.ofString "value"] (toFn p_is_brook) := by
  skip
  refine fnP_mk (k := 1) (N := N_is_brook) (body := body_is_brook) Fu hm (Fu.binds fun _ _ _ _ _ _ us hl => match us, hl with | [_], _ => rfl) sc_is_brook (by decide) len_is_brook (fun cdv A outer s H E G hG hE hA hr => ?_) wp_is_brook
  subst hE
  have tk : L2N.Takes (cxOf (L2N.CX P w) P w K mg base N_is_brook (Str.ofString "is_brook") (defScope s_is_brook) f cdv A outer s H G.E) fun cls d _ H => G.E cls d H := L2N.takes_of rfl rfl rfl rfl
  have px : Passes (L2N.CX P w) (cxOf (L2N.CX P w) P w K mg base N_is_brook (Str.ofString "is_brook") (defScope s_is_brook) f cdv A outer s H G.E) G.E := L2N.passes_call tk fun _ _ _ _ h => h
  have po : PassesOwn (model P w) (A.deeper (envOfC (Str.ofString "is_brook") (defScope s_is_brook) s.heap.objs.size f cdv)) (envOfC (Str.ofString "is_brook") (defScope s_is_brook) s.heap.objs.size f cdv) (cxOf (L2N.CX P w) P w K mg base N_is_brook (Str.ofString "is_brook") (defScope s_is_brook) f cdv A outer s H G.E).xe := passes_of rfl
  have hu : (A.deeper (envOfC (Str.ofString "is_brook") (defScope s_is_brook) s.heap.objs.size f cdv)).units + 64 < cLine := hr.units
  have hu1 : (A.deeper (envOfC (Str.ofString "is_brook") (defScope s_is_brook) s.heap.objs.size f cdv)).units + 65 < cLine := by have := hr.un; omega
  have hu2 : (A.deeper (envOfC (Str.ofString "is_brook") (defScope s_is_brook) s.heap.objs.size f cdv)).units + 66 < cLine := by have := hr.un; omega
  exact (s_cons (s_if (PW.pt (d_tor (d_tnot (d_tval (d_isi kit_tuple (d_var 0) T.isinstance_ T.tuple_ (by decide +kernel) (by decide) (by decide)))) (d_tor (t_ne (d_len (d_cons (d_var 0) d_nil) T.len) d_int hu) (d_tor1 (d_tnot (d_tval (d_callP D_is_whole (hr.mono (by decide)) hG px rfl (d_cons (d_ix (d_var 0) d_int) (d_cons d_int (d_cons d_int d_nil)))))))))) (s_one (s_ret d_bl)) s_nil)
  (s_cons (s_asg (vs := [1, 2]) (d_var 0) (g_tup rfl (g_cons (g_name (i := 1) sc_is_brook.nd rfl (Or.inr rfl)) (g_cons (g_name (i := 2) sc_is_brook.nd rfl (Or.inr rfl)) g_nil))))
  (s_cons (s_if (PW.pt (d_tor (d_tnot (d_tval (d_isi kit_tuple (d_var 2) T.isinstance_ T.tuple_ (by decide +kernel) (by decide) (by decide)))) (d_tor (t_gt (d_len (d_cons (d_var 2) d_nil) T.len) d_int) (d_tor1 (d_tnot (d_tval (d_all (d_cons (d_comp (own := [("one", 3)]) rfl sc_is_brook.nd (i_seq (d_var 2)) (blkOk_by (own := [("one", 3)]) (N := N_is_brook) (sc := defScope s_is_brook) (by decide +kernel)) (fun _ _ _ _ _ => (g_name (i := 3) sc_is_brook.nd rfl (Or.inl rfl))) (fun _ _ _ _ _ => ts_nil) (fun _ _ _ _ _ => (d_callPN D_is_whole (hr.mono (by decide)) hG rfl (d_cons (d_var 3) (d_cons d_int (d_cons (d_sub (d_var 1) d_int) d_nil)))))) d_nil) T.all))))))) (s_one (s_ret d_bl)) s_nil)
  (s_one (s_ret (d_all (d_cons (d_comp (own := [("at", 4)]) rfl sc_is_brook.nd (i_range1 rfl T.range (d_cons (d_sub (d_len (d_cons (d_var 2) d_nil) T.len) d_int) d_nil)) (blkOk_by (own := [("at", 4)]) (N := N_is_brook) (sc := defScope s_is_brook) (by decide +kernel)) (fun _ _ _ _ _ => (g_name (i := 4) sc_is_brook.nd rfl (Or.inl rfl))) (fun _ _ _ _ _ => ts_nil) (fun _ _ _ _ _ => (d_lt (d_ix (d_var 2) (d_var 4)) (d_ix (d_var 2) (d_plus (d_var 4) d_int))))) d_nil) T.all))))))

theorem sc_need_brook : FnScope N_need_brook [Str.ofString "brook"] (defScope s_need_brook) := ⟨rfl, rfl, rfl, by decide +kernel, rfl, by decide +kernel, by decide +kernel⟩
theorem ok_need_brook {P : Program} {w : World} {K : PySem.W.Frag} {mg : Str → Option Value} {base : Heap} {f : Addr} {fd : FuncData} (T : Txt K mg) (Fu : Fun K (Str.ofString "need_brook") (Str.ofString "need_brook") s_need_brook f fd) (hm : mg (Str.ofString "need_brook") = some (.ref f)) (D_is_brook : Dfn P w K mg base (Str.ofString "is_brook") 2 [Str.ofString "value"] (toFn p_is_brook)) :
    Dfn P w K mg base (Str.ofString "need_brook") 3 [Str.ofString "brook"] (toFn p_need_brook) := by
  skip
  refine fnP_mk (k := 2) (N := N_need_brook) (body := body_need_brook) Fu hm (Fu.binds fun _ _ _ _ _ _ us hl => match us, hl with | [_], _ => rfl) sc_need_brook (by decide) len_need_brook (fun cdv A outer s H E G hG hE hA hr => ?_) wp_need_brook
  subst hE
  have tk : L2N.Takes (cxOf (L2N.CX P w) P w K mg base N_need_brook (Str.ofString "need_brook") (defScope s_need_brook) f cdv A outer s H G.E) fun cls d _ H => G.E cls d H := L2N.takes_of rfl rfl rfl rfl
  have px : Passes (L2N.CX P w) (cxOf (L2N.CX P w) P w K mg base N_need_brook (Str.ofString "need_brook") (defScope s_need_brook) f cdv A outer s H G.E) G.E := L2N.passes_call tk fun _ _ _ _ h => h
  have po : PassesOwn (model P w) (A.deeper (envOfC (Str.ofString "need_brook") (defScope s_need_brook) s.heap.objs.size f cdv)) (envOfC (Str.ofString "need_brook") (defScope s_need_brook) s.heap.objs.size f cdv) (cxOf (L2N.CX P w) P w K mg base N_need_brook (Str.ofString "need_brook") (defScope s_need_brook) f cdv A outer s H G.E).xe := passes_of rfl
  have hu : (A.deeper (envOfC (Str.ofString "need_brook") (defScope s_need_brook) s.heap.objs.size f cdv)).units + 64 < cLine := hr.units
  have hu1 : (A.deeper (envOfC (Str.ofString "need_brook") (defScope s_need_brook) s.heap.objs.size f cdv)).units + 65 < cLine := by have := hr.un; omega
  have hu2 : (A.deeper (envOfC (Str.ofString "need_brook") (defScope s_need_brook) s.heap.objs.size f cdv)).units + 66 < cLine := by have := hr.un; omega
  exact (s_one (s_if (d_tnot (d_tval (d_callP D_is_brook (hr.mono (by decide)) hG px rfl (d_cons (d_var 0) d_nil)))) (s_one (s_raise T.x_InvalidBrook hG rfl tk rfl)) s_nil))

theorem sc_written : FnScope N_written [Str.ofString "brook"] (defScope s_written) := ⟨rfl, rfl, rfl, by decide +kernel, rfl, by decide +kernel, by decide +kernel⟩
theorem ok_written {P : Program} {w : World} {K : PySem.W.Frag} {mg : Str → Option Value} {base : Heap} {f : Addr} {fd : FuncData} (T : Txt K mg) (Fu : Fun K (Str.ofString "written") (Str.ofString "written") s_written f fd) (hm : mg (Str.ofString "written") = some (.ref f)) :
    Dfn P w K mg base (Str.ofString "written") 1 [Str.ofString "brook"] (toFn p_written) := by
  skip
  refine fnP_mk (k := 0) (N := N_written) (body := body_written) Fu hm (Fu.binds fun _ _ _ _ _ _ us hl => match us, hl with | [_], _ => rfl) sc_written (by decide) len_written (fun cdv A outer s H E G hG hE hA hr => ?_) wp_written
  subst hE
  have tk : L2N.Takes (cxOf (L2N.CX P w) P w K mg base N_written (Str.ofString "written") (defScope s_written) f cdv A outer s H G.E) fun cls d _ H => G.E cls d H := L2N.takes_of rfl rfl rfl rfl
  have px : Passes (L2N.CX P w) (cxOf (L2N.CX P w) P w K mg base N_written (Str.ofString "written") (defScope s_written) f cdv A outer s H G.E) G.E := L2N.passes_call tk fun _ _ _ _ h => h
  have po : PassesOwn (model P w) (A.deeper (envOfC (Str.ofString "written") (defScope s_written) s.heap.objs.size f cdv)) (envOfC (Str.ofString "written") (defScope s_written) s.heap.objs.size f cdv) (cxOf (L2N.CX P w) P w K mg base N_written (Str.ofString "written") (defScope s_written) f cdv A outer s H G.E).xe := passes_of rfl
  have hu : (A.deeper (envOfC (Str.ofString "written") (defScope s_written) s.heap.objs.size f cdv)).units + 64 < cLine := hr.units
  have hu1 : (A.deeper (envOfC (Str.ofString "written") (defScope s_written) s.heap.objs.size f cdv)).units + 65 < cLine := by have := hr.un; omega
  have hu2 : (A.deeper (envOfC (Str.ofString "written") (defScope s_written) s.heap.objs.size f cdv)).units + 66 < cLine := by have := hr.un; omega
  exact (s_one (s_ret (d_m_join d_str (d_comp (own := [("one", 1)]) rfl sc_written.nd (i_seq (d_plus (d_tup (d_cons (d_ix (d_var 0) d_int) d_nil)) (d_ix (d_var 0) d_int))) (blkOk_by (own := [("one", 1)]) (N := N_written) (sc := defScope s_written) (by decide +kernel)) (fun _ _ _ _ _ => (g_name (i := 1) sc_written.nd rfl (Or.inl rfl))) (fun _ _ _ _ _ => ts_nil) (fun _ _ _ _ _ => (d_strI (d_cons (d_var 1) d_nil) T.str_))))))

theorem sc_format_brook : FnScope N_format_brook [Str.ofString "brook"] (defScope s_format_brook) := ⟨rfl, rfl, rfl, by decide +kernel, rfl, by decide +kernel, by decide +kernel⟩
theorem ok_format_brook {P : Program} {w : World} {K : PySem.W.Frag} {mg : Str → Option Value} {base : Heap} {f : Addr} {fd : FuncData} (T : Txt K mg) (Fu : Fun K (Str.ofString "format_brook") (Str.ofString "format_brook") s_format_brook f fd) (hm : mg (Str.ofString "format_brook") = some (.ref f)) (D_need_brook : Dfn P w K mg base (Str.ofString "need_brook") 3 [Str.ofString "brook"] (toFn p_need_brook)) (D_written : Dfn P w K mg base (Str.ofString "written") 1 [Str.ofString "brook"] (toFn p_written)) :
    Dfn P w K mg base (Str.ofString "format_brook") 4 [Str.ofString "brook"] (toFn p_format_brook) := by
  skip
  refine fnP_mk (k := 3) (N := N_format_brook) (body := body_format_brook) Fu hm (Fu.binds fun _ _ _ _ _ _ us hl => match us, hl with | [_], _ => rfl) sc_format_brook (by decide) len_format_brook (fun cdv A outer s H E G hG hE hA hr => ?_) wp_format_brook
  subst hE
  have tk : L2N.Takes (cxOf (L2N.CX P w) P w K mg base N_format_brook (Str.ofString "format_brook") (defScope s_format_brook) f cdv A outer s H G.E) fun cls d _ H => G.E cls d H := L2N.takes_of rfl rfl rfl rfl
  have px : Passes (L2N.CX P w) (cxOf (L2N.CX P w) P w K mg base N_format_brook (Str.ofString "format_brook") (defScope s_format_brook) f cdv A outer s H G.E) G.E := L2N.passes_call tk fun _ _ _ _ h => h
  have po : PassesOwn (model P w) (A.deeper (envOfC (Str.ofString "format_brook") (defScope s_format_brook) s.heap.objs.size f cdv)) (envOfC (Str.ofString "format_brook") (defScope s_format_brook) s.heap.objs.size f cdv) (cxOf (L2N.CX P w) P w K mg base N_format_brook (Str.ofString "format_brook") (defScope s_format_brook) f cdv A outer s H G.E).xe := passes_of rfl
  have hu : (A.deeper (envOfC (Str.ofString "format_brook") (defScope s_format_brook) s.heap.objs.size f cdv)).units + 64 < cLine := hr.units
  have hu1 : (A.deeper (envOfC (Str.ofString "format_brook") (defScope s_format_brook) s.heap.objs.size f cdv)).units + 65 < cLine := by have := hr.un; omega
  have hu2 : (A.deeper (envOfC (Str.ofString "format_brook") (defScope s_format_brook) s.heap.objs.size f cdv)).units + 66 < cLine := by have := hr.un; omega
  exact (s_cons (s_expr (d_callPJ D_need_brook (hr.mono (by decide)) hG px rfl (d_cons (d_var 0) d_nil)))
  (s_one (s_ret (d_callPJ D_written (hr.mono (by decide)) hG px rfl (d_cons (d_var 0) d_nil)))))

theorem sc_number_of : FnScope N_number_of [Str.ofString "word"] (defScope s_number_of) := ⟨rfl, rfl, rfl, by decide +kernel, rfl, by decide +kernel, by decide +kernel⟩
theorem ok_number_of {P : Program} {w : World} {K : PySem.W.Frag} {mg : Str → Option Value} {base : Heap} {f : Addr} {fd : FuncData} (T : Txt K mg) (Fu : Fun K (Str.ofString "number_of") (Str.ofString "number_of") s_number_of f fd) (hm : mg (Str.ofString "number_of") = some (.ref f)) :
    Dfn P w K mg base (Str.ofString "number_of") 1 [Str.ofString "word"] (toFn p_number_of) := by
  skip
  refine fnP_mk (k := 0) (N := N_number_of) (body := body_number_of) Fu hm (Fu.binds fun _ _ _ _ _ _ us hl => match us, hl with | [_], _ => rfl) sc_number_of (by decide) len_number_of (fun cdv A outer s H E G hG hE hA hr => ?_) wp_number_of
  subst hE
  have tk : L2N.Takes (cxOf (L2N.CX P w) P w K mg base N_number_of (Str.ofString "number_of") (defScope s_number_of) f cdv A outer s H G.E) fun cls d _ H => G.E cls d H := L2N.takes_of rfl rfl rfl rfl
  have px : Passes (L2N.CX P w) (cxOf (L2N.CX P w) P w K mg base N_number_of (Str.ofString "number_of") (defScope s_number_of) f cdv A outer s H G.E) G.E := L2N.passes_call tk fun _ _ _ _ h => h
  have po : PassesOwn (model P w) (A.deeper (envOfC (Str.ofString "number_of") (defScope s_number_of) s.heap.objs.size f cdv)) (envOfC (Str.ofString "number_of") (defScope s_number_of) s.heap.objs.size f cdv) (cxOf (L2N.CX P w) P w K mg base N_number_of (Str.ofString "number_of") (defScope s_number_of) f cdv A outer s H G.E).xe := passes_of rfl
  have hu : (A.deeper (envOfC (Str.ofString "number_of") (defScope s_number_of) s.heap.objs.size f cdv)).units + 64 < cLine := hr.units
  have hu1 : (A.deeper (envOfC (Str.ofString "number_of") (defScope s_number_of) s.heap.objs.size f cdv)).units + 65 < cLine := by have := hr.un; omega
  have hu2 : (A.deeper (envOfC (Str.ofString "number_of") (defScope s_number_of) s.heap.objs.size f cdv)).units + 66 < cLine := by have := hr.un; omega
  exact (s_cons (s_if (PW.pt (d_tor (d_tnot (t_lele d_int (d_len (d_cons (d_var 0) d_nil) T.len) d_int)) (d_tor1 (d_tnot (d_tval (d_all (d_cons (d_comp (own := [("sign", 1)]) rfl sc_number_of.nd (i_str (d_var 0)) (blkOk_by (own := [("sign", 1)]) (N := N_number_of) (sc := defScope s_number_of) (by decide +kernel)) (fun _ _ _ _ _ => (g_name (i := 1) sc_number_of.nd rfl (Or.inl rfl))) (fun _ _ _ _ _ => ts_nil) (fun _ _ _ _ _ => (d_inS (d_var 1) d_str))) d_nil) T.all)))))) (s_one (s_raise T.x_InvalidText hG rfl tk rfl)) s_nil)
  (s_one (s_ret (d_int1 (d_cons (d_var 0) d_nil) T.int_))))

theorem sc_parse_brook : FnScope N_parse_brook [Str.ofString "text"] (defScope s_parse_brook) := ⟨rfl, rfl, rfl, by decide +kernel, rfl, by decide +kernel, by decide +kernel⟩
theorem ok_parse_brook {P : Program} {w : World} {K : PySem.W.Frag} {mg : Str → Option Value} {base : Heap} {f : Addr} {fd : FuncData} (T : Txt K mg) (Fu : Fun K (Str.ofString "parse_brook") (Str.ofString "parse_brook") s_parse_brook f fd) (hm : mg (Str.ofString "parse_brook") = some (.ref f)) (D_number_of : Dfn P w K mg base (Str.ofString "number_of") 1 [Str.ofString "word"] (toFn p_number_of)) (D_is_brook : Dfn P w K mg base (Str.ofString "is_brook") 2 [Str.ofString "value"] (toFn p_is_brook)) (D_written : Dfn P w K mg base (Str.ofString "written") 1 [Str.ofString "brook"] (toFn p_written)) :
    Dfn P w K mg base (Str.ofString "parse_brook") 3 [Str.ofString "text"] (toFn p_parse_brook) := by
  skip
  refine fnP_mk (k := 2) (N := N_parse_brook) (body := body_parse_brook) Fu hm (Fu.binds fun _ _ _ _ _ _ us hl => match us, hl with | [_], _ => rfl) sc_parse_brook (by decide) len_parse_brook (fun cdv A outer s H E G hG hE hA hr => ?_) wp_parse_brook
  subst hE
  have tk : L2N.Takes (cxOf (L2N.CX P w) P w K mg base N_parse_brook (Str.ofString "parse_brook") (defScope s_parse_brook) f cdv A outer s H G.E) fun cls d _ H => G.E cls d H := L2N.takes_of rfl rfl rfl rfl
  have px : Passes (L2N.CX P w) (cxOf (L2N.CX P w) P w K mg base N_parse_brook (Str.ofString "parse_brook") (defScope s_parse_brook) f cdv A outer s H G.E) G.E := L2N.passes_call tk fun _ _ _ _ h => h
  have po : PassesOwn (model P w) (A.deeper (envOfC (Str.ofString "parse_brook") (defScope s_parse_brook) s.heap.objs.size f cdv)) (envOfC (Str.ofString "parse_brook") (defScope s_parse_brook) s.heap.objs.size f cdv) (cxOf (L2N.CX P w) P w K mg base N_parse_brook (Str.ofString "parse_brook") (defScope s_parse_brook) f cdv A outer s H G.E).xe := passes_of rfl
  have hu : (A.deeper (envOfC (Str.ofString "parse_brook") (defScope s_parse_brook) s.heap.objs.size f cdv)).units + 64 < cLine := hr.units
  have hu1 : (A.deeper (envOfC (Str.ofString "parse_brook") (defScope s_parse_brook) s.heap.objs.size f cdv)).units + 65 < cLine := by have := hr.un; omega
  have hu2 : (A.deeper (envOfC (Str.ofString "parse_brook") (defScope s_parse_brook) s.heap.objs.size f cdv)).units + 66 < cLine := by have := hr.un; omega
  exact (s_cons (s_if (d_tnot (d_tval (d_isi kit_str (d_var 0) T.isinstance_ T.str_ (by decide +kernel) (by decide) (by decide)))) (s_one (s_raise T.x_InvalidText hG rfl tk rfl)) s_nil)
  (s_cons (s_setLcX (own := [("word", 2)]) tk rfl rfl rfl sc_parse_brook.nd rfl rfl (sw_true rfl rfl rfl (by decide +kernel)) (i_seq (d_m_split (d_var 0) d_str)) (blkOk_by (own := [("word", 2)]) (N := N_parse_brook) (sc := defScope s_parse_brook) (by decide +kernel)) (fun _ _ _ _ _ _ => (g_name (i := 2) sc_parse_brook.nd rfl (Or.inl rfl))) (fun _ _ _ _ _ _ => ts_nil) (fun _ _ _ _ _ _ px => (d_callPJ D_number_of (hr.mono (by decide)) hG px rfl (d_cons (d_var 2) d_nil))))
  (s_cons (s_set sc_parse_brook.nd rfl (Or.inl rfl) (d_tup (d_cons (d_ix (d_var 1) d_int) (d_cons (d_tuple (d_cons (d_slice (d_var 1) (o_so d_int) o_no) d_nil) T.tuple_) d_nil))))
  (s_cons (s_if (PW.pt (d_tor (d_tnot (d_tval (d_callPJ D_is_brook (hr.mono (by decide)) hG px rfl (d_cons (d_var 3) d_nil)))) (d_tor1 (t_ne (d_callPJ D_written (hr.mono (by decide)) hG px rfl (d_cons (d_var 3) d_nil)) (d_var 0) hu)))) (s_one (s_raise T.x_InvalidText hG rfl tk rfl)) s_nil)
  (s_one (s_ret (d_var 3)))))))

theorem sc__law_drawn : FnScope N__law_drawn [Str.ofString "cell", Str.ofString "k"] (defScope s__law_drawn) := ⟨rfl, rfl, rfl, by decide +kernel, rfl, by decide +kernel, by decide +kernel⟩
theorem ok__law_drawn {P : Program} {w : World} {K : PySem.W.Frag} {mg : Str → Option Value} {base : Heap} {f : Addr} {fd : FuncData} (T : Txt K mg) (Fu : Fun K (Str.ofString "_law_drawn") (Str.ofString "_law_drawn") s__law_drawn f fd) (hm : mg (Str.ofString "_law_drawn") = some (.ref f)) :
    Dfn P w K mg base (Str.ofString "_law_drawn") 1 [Str.ofString "cell", Str.ofString "k"] (toFn p__law_drawn) := by
  skip
  refine fnP_mk (k := 0) (N := N__law_drawn) (body := body__law_drawn) Fu hm (Fu.binds fun _ _ _ _ _ _ us hl => match us, hl with | [_, _], _ => rfl) sc__law_drawn (by decide) len__law_drawn (fun cdv A outer s H E G hG hE hA hr => ?_) wp__law_drawn
  subst hE
  have tk : L2N.Takes (cxOf (L2N.CX P w) P w K mg base N__law_drawn (Str.ofString "_law_drawn") (defScope s__law_drawn) f cdv A outer s H G.E) fun cls d _ H => G.E cls d H := L2N.takes_of rfl rfl rfl rfl
  have px : Passes (L2N.CX P w) (cxOf (L2N.CX P w) P w K mg base N__law_drawn (Str.ofString "_law_drawn") (defScope s__law_drawn) f cdv A outer s H G.E) G.E := L2N.passes_call tk fun _ _ _ _ h => h
  have po : PassesOwn (model P w) (A.deeper (envOfC (Str.ofString "_law_drawn") (defScope s__law_drawn) s.heap.objs.size f cdv)) (envOfC (Str.ofString "_law_drawn") (defScope s__law_drawn) s.heap.objs.size f cdv) (cxOf (L2N.CX P w) P w K mg base N__law_drawn (Str.ofString "_law_drawn") (defScope s__law_drawn) f cdv A outer s H G.E).xe := passes_of rfl
  have hu : (A.deeper (envOfC (Str.ofString "_law_drawn") (defScope s__law_drawn) s.heap.objs.size f cdv)).units + 64 < cLine := hr.units
  have hu1 : (A.deeper (envOfC (Str.ofString "_law_drawn") (defScope s__law_drawn) s.heap.objs.size f cdv)).units + 65 < cLine := by have := hr.un; omega
  have hu2 : (A.deeper (envOfC (Str.ofString "_law_drawn") (defScope s__law_drawn) s.heap.objs.size f cdv)).units + 66 < cLine := by have := hr.un; omega
  exact (s_cons (s_set sc__law_drawn.nd rfl (Or.inl rfl) (d_mod (d_plus (d_times (d_var 0) d_int) (d_times (d_plus (d_var 1) d_int) d_int)) d_int))
  (s_cons (s_set sc__law_drawn.nd rfl (Or.inl rfl) (d_mod (d_times (d_var 2) (d_var 2)) d_int))
  (s_cons (s_set sc__law_drawn.nd rfl (Or.inl rfl) (d_times (d_times (d_plus (d_mod (d_var 2) d_int) d_int) (d_plus (d_over (d_var 2) d_int) d_int)) (d_var 2)))
  (s_one (s_ret (d_mod (d_var 2) d_int))))))

theorem sc__law_roll : FnScope N__law_roll [Str.ofString "dice", Str.ofString "many"] (defScope s__law_roll) := ⟨rfl, rfl, rfl, by decide +kernel, rfl, by decide +kernel, by decide +kernel⟩
theorem ok__law_roll {P : Program} {w : World} {K : PySem.W.Frag} {mg : Str → Option Value} {base : Heap} {f : Addr} {fd : FuncData} (T : Txt K mg) (Fu : Fun K (Str.ofString "_law_roll") (Str.ofString "_law_roll") s__law_roll f fd) (hm : mg (Str.ofString "_law_roll") = some (.ref f)) (D__law_drawn : Dfn P w K mg base (Str.ofString "_law_drawn") 1 [Str.ofString "cell", Str.ofString "k"] (toFn p__law_drawn)) :
    Dfn P w K mg base (Str.ofString "_law_roll") 2 [Str.ofString "dice", Str.ofString "many"] (toFnR r__law_roll) := by
  refine Dfn.dice (φ := f_roll) ?_
  refine fnR_mk (k := 1) (N := N__law_roll) (body := body__law_roll) Fu hm (Fu.binds fun _ _ _ _ _ _ us hl => match us, hl with | [_, _], _ => rfl) sc__law_roll (by decide) len__law_roll (fun cdv A outer s H E G hG hE hA hr => ?_) wp__law_roll
  subst hE
  have tk : L2N.Takes (cxOf (L2N.CX P w) P w K mg base N__law_roll (Str.ofString "_law_roll") (defScope s__law_roll) f cdv A outer s H G.E) fun cls d _ H => G.E cls d H := L2N.takes_of rfl rfl rfl rfl
  have px : Passes (L2N.CX P w) (cxOf (L2N.CX P w) P w K mg base N__law_roll (Str.ofString "_law_roll") (defScope s__law_roll) f cdv A outer s H G.E) G.E := L2N.passes_call tk fun _ _ _ _ h => h
  have po : PassesOwn (model P w) (A.deeper (envOfC (Str.ofString "_law_roll") (defScope s__law_roll) s.heap.objs.size f cdv)) (envOfC (Str.ofString "_law_roll") (defScope s__law_roll) s.heap.objs.size f cdv) (cxOf (L2N.CX P w) P w K mg base N__law_roll (Str.ofString "_law_roll") (defScope s__law_roll) f cdv A outer s H G.E).xe := passes_of rfl
  have hu : (A.deeper (envOfC (Str.ofString "_law_roll") (defScope s__law_roll) s.heap.objs.size f cdv)).units + 64 < cLine := hr.units
  have hu1 : (A.deeper (envOfC (Str.ofString "_law_roll") (defScope s__law_roll) s.heap.objs.size f cdv)).units + 65 < cLine := by have := hr.un; omega
  have hu2 : (A.deeper (envOfC (Str.ofString "_law_roll") (defScope s__law_roll) s.heap.objs.size f cdv)).units + 66 < cLine := by have := hr.un; omega
  exact (s_cons (s_if (t_ge (d_ix (d_var 0) d_int) (d_pow d_int d_int)) (s_cons (s_set sc__law_roll.nd rfl (Or.inl rfl) (d_mod (d_ix (d_var 0) d_int) (d_var 1)))
  (s_cons (s_put 0 d_int (d_over (d_ix (d_var 0) d_int) (d_var 1)))
  (s_one (s_ret (d_var 2))))) s_nil)
  (s_cons (s_put 0 d_int (d_plus (d_ix (d_var 0) d_int) d_int))
  (s_one (s_ret (d_mod (d_over (d_callP D__law_drawn (hr.mono (by decide)) hG px rfl (d_cons (d_ix (d_var 0) d_int) (d_cons (d_ix (d_var 0) d_int) d_nil))) d_int) (d_var 1))))))

theorem sc__law_any_brook : FnScope N__law_any_brook [Str.ofString "dice", Str.ofString "wide"] (defScope s__law_any_brook) := ⟨rfl, rfl, rfl, by decide +kernel, rfl, by decide +kernel, by decide +kernel⟩
theorem ok__law_any_brook {P : Program} {w : World} {K : PySem.W.Frag} {mg : Str → Option Value} {base : Heap} {f : Addr} {fd : FuncData} (T : Txt K mg) (Fu : Fun K (Str.ofString "_law_any_brook") (Str.ofString "_law_any_brook") s__law_any_brook f fd) (hm : mg (Str.ofString "_law_any_brook") = some (.ref f)) (D__law_roll : Dfn P w K mg base (Str.ofString "_law_roll") 2 [Str.ofString "dice", Str.ofString "many"] (toFnR r__law_roll)) :
    Dfn P w K mg base (Str.ofString "_law_any_brook") 3 [Str.ofString "dice", Str.ofString "wide"] (toFnR r__law_any_brook) := by
  skip
  refine fnR_mk (k := 2) (N := N__law_any_brook) (body := body__law_any_brook) Fu hm (Fu.binds fun _ _ _ _ _ _ us hl => match us, hl with | [_, _], _ => rfl) sc__law_any_brook (by decide) len__law_any_brook (fun cdv A outer s H E G hG hE hA hr => ?_) wp__law_any_brook
  subst hE
  have tk : L2N.Takes (cxOf (L2N.CX P w) P w K mg base N__law_any_brook (Str.ofString "_law_any_brook") (defScope s__law_any_brook) f cdv A outer s H G.E) fun cls d _ H => G.E cls d H := L2N.takes_of rfl rfl rfl rfl
  have px : Passes (L2N.CX P w) (cxOf (L2N.CX P w) P w K mg base N__law_any_brook (Str.ofString "_law_any_brook") (defScope s__law_any_brook) f cdv A outer s H G.E) G.E := L2N.passes_call tk fun _ _ _ _ h => h
  have po : PassesOwn (model P w) (A.deeper (envOfC (Str.ofString "_law_any_brook") (defScope s__law_any_brook) s.heap.objs.size f cdv)) (envOfC (Str.ofString "_law_any_brook") (defScope s__law_any_brook) s.heap.objs.size f cdv) (cxOf (L2N.CX P w) P w K mg base N__law_any_brook (Str.ofString "_law_any_brook") (defScope s__law_any_brook) f cdv A outer s H G.E).xe := passes_of rfl
  have hu : (A.deeper (envOfC (Str.ofString "_law_any_brook") (defScope s__law_any_brook) s.heap.objs.size f cdv)).units + 64 < cLine := hr.units
  have hu1 : (A.deeper (envOfC (Str.ofString "_law_any_brook") (defScope s__law_any_brook) s.heap.objs.size f cdv)).units + 65 < cLine := by have := hr.un; omega
  have hu2 : (A.deeper (envOfC (Str.ofString "_law_any_brook") (defScope s__law_any_brook) s.heap.objs.size f cdv)).units + 66 < cLine := by have := hr.un; omega
  exact (s_cons (s_parNew rfl sc__law_any_brook.nd rfl rfl (by decide) rfl rfl (d_plus d_int (d_callR D__law_roll (hr.mono (by decide)) hG px rfl (d_cons (d_var 0) (d_cons (d_var 1) d_nil)))) (by rfl))
  (s_cons (s_set sc__law_any_brook.nd rfl (Or.inl rfl) (d_plus d_int (d_callR D__law_roll (hr.mono (by decide)) hG px rfl (d_cons (d_var 0) (d_cons d_int d_nil)))))
  (s_cons (s_for (vs := [5]) po rfl (i_range2 rfl T.range (d_cons d_int (d_cons (d_var 2) d_nil))) (g_name (i := 5) sc__law_any_brook.nd rfl (Or.inl rfl)) (s_one (s_if (PW.pt (d_tand (t_eq (d_callR D__law_roll (hr.mono (by decide)) hG px rfl (d_cons (d_var 0) (d_cons (d_var 4) d_nil))) d_int hu) (d_tand1 (t_lt (d_len (d_cons (d_var 3) d_nil) T.len) d_int)))) (s_one (s_append 3 (pe_bm PySem.F.plainAttrs_list PySem.F.slot_list_append PySem.F.type_list_append mt_append (pv 3) (pa_cons (d_var 5) pa_nil)))) s_nil)))
  (s_one (s_ret (d_tup (d_cons (d_var 2) (d_cons (d_tuple (d_cons (d_var 3) d_nil) T.tuple_) d_nil))))))))
def N__law_cell : List Str := [Str.ofString "script", Str.ofString "k"]
theorem sc__law_cell : FnScope N__law_cell [Str.ofString "script", Str.ofString "k"] (defScope s__law_cell) := ⟨rfl, rfl, rfl, by decide +kernel, rfl, by decide +kernel, by decide +kernel⟩
theorem ok__law_cell {P : Program} {w : World} {K : PySem.W.Frag} {mg : Str → Option Value} {base : Heap} {f : Addr} {fd : FuncData} (T : Txt K mg) (Fu : Fun K (Str.ofString "_law_cell") (Str.ofString "_law_cell") s__law_cell f fd) (hm : mg (Str.ofString "_law_cell") = some (.ref f)) :
    Rfn P w K mg base (Str.ofString "_law_cell") 1 [Str.ofString "script", Str.ofString "k"] (spCell K) := by
  refine rfn_mk (k := 0) (N := N__law_cell) Fu hm (Fu.binds fun _ _ _ _ _ _ us hl => match us, hl with | [_, _], _ => rfl) sc__law_cell (fun vs H Q E h => ?_) (fun cdv A outer s H vs Q E hr h => ?_)
  · obtain ⟨a, ns, k, rfl, _⟩ := h; rfl
  · obtain ⟨a, ns, k, rfl, hS, hl, hk⟩ := h
    have hu : (A.deeper (envOfC (Str.ofString "_law_cell") (defScope s__law_cell) s.heap.objs.size f cdv)).units + 64 < cLine := hr.units
    refine ⟨_, pss_cons (ps_if (pt_cmpR (op_eqD hu) (pv 0) (pe_lst pa_nil) (nomark _)) (pss_one (ps_ret (pe_op op_mul (pv 1) pe_int))) pss_nil)
      (pss_one (ps_ret (pe_op op_add (pe_ix ix_seq (pv 0) (pe_op op_mod (pv 1) (pe_callB call_len_seq (by rfl) T.len PySem.boot_len (pa_cons (pv 0) pa_nil))) (fun _ _ => rfl))
        (pe_op op_mul (pe_op op_fdiv (pv 1) (pe_callB call_len_seq (by rfl) T.len PySem.boot_len (pa_cons (pv 0) pa_nil))) pe_int)))), ?_⟩
    refine ⟨_, rfl, Nat.zero_le _, fun p hp => ?_⟩
    have sm := upd_same_new (o := .lst []) hp
    refine ⟨.list (ns.map .int), .list [], .lst (sm.seq hS) (dpAll_ints ns), .lst (SqL.of upd_same) .nil, shaped_ints ns, rfl, _, rfl, ?_⟩
    refine ite2 (fun _ => ?_) (fun z => ?_)
    · exact ⟨_, rfl, _, _, rfl, rfl, .inr ⟨by decide, by decide⟩, hk _ _ sm⟩
    · have hne : 0 < ns.length := by
        cases ns with
        | nil => exact absurd rfl z
        | cons _ _ => exact Nat.succ_pos _
      have hn0 : (0 : Int) < (((ns.map V.int).length : Nat) : Int) := by rw [List.length_map]; omega
      have hn1 : (((ns.map V.int).length : Nat) : Int) < 1073741824 := by rw [List.length_map]; omega
      obtain ⟨x, hx⟩ : ∃ x, ns[((k : Int) % (((ns.map V.int).length : Nat) : Int)).toNat]? = some x := by
        have h0 := Int.emod_nonneg (k : Int) (show (((ns.map V.int).length : Nat) : Int) ≠ 0 by omega)
        have h1 := Int.emod_lt_of_pos (k : Int) hn0
        rw [List.length_map] at h0 h1 ⊢
        exact ⟨ns[((k : Int) % ((ns.length : Nat) : Int)).toNat]'(by omega), by simp⟩
      have hx2 : atI (ns.map V.int) ((k : Int) % (((ns.map V.int).length : Nat) : Int)) = some (.int x) := by
        have h0 := Int.emod_nonneg (k : Int) (show (((ns.map V.int).length : Nat) : Int) ≠ 0 by omega)
        have := atI_nat (xs := ns.map V.int) (j := ((k : Int) % (((ns.map V.int).length : Nat) : Int)).toNat) (v := .int x) (by rw [List.getElem?_map, hx]; rfl)
        rw [Int.toNat_of_nonneg h0] at this
        exact this
      refine ⟨_, rfl, _, rfl, _, rfl, a, _, rfl, .inl (sm.seq hS), _, _, rfl, rfl, hn0, .inl ⟨a, _, _, .int x, rfl, rfl, sm.seq hS, hx2, ?_⟩⟩
      refine ⟨_, rfl, _, rfl, a, _, rfl, .inl (sm.seq hS), _, _, rfl, rfl, ⟨hn0, hn1⟩, _, _, rfl, rfl, .inr ⟨by decide, by decide⟩, _, _, rfl, rfl, hk _ _ sm⟩
def N__law_rounds : List Str := [Str.ofString "script", Str.ofString "most", Str.ofString "k"]
theorem sc__law_rounds : FnScope N__law_rounds [Str.ofString "script", Str.ofString "most"] (defScope s__law_rounds) := ⟨rfl, rfl, rfl, by decide +kernel, rfl, by decide +kernel, by decide +kernel⟩
theorem ok__law_rounds {P : Program} {w : World} {K : PySem.W.Frag} {mg : Str → Option Value} {base : Heap} {f : Addr} {fd : FuncData} (T : Txt K mg) (Fu : Fun K (Str.ofString "_law_rounds") (Str.ofString "_law_rounds") s__law_rounds f fd) (hm : mg (Str.ofString "_law_rounds") = some (.ref f))
    (D__law_cell : Rfn P w K mg base (Str.ofString "_law_cell") 1 [Str.ofString "script", Str.ofString "k"] (spCell K)) :
    Rfn P w K mg base (Str.ofString "_law_rounds") 2 [Str.ofString "script", Str.ofString "most"] (spRounds K) := by
  obtain ⟨f2, fd2, hm2, hk2, hb2, FF⟩ := D__law_cell.ex
  refine rfn_mk (k := 1) (N := N__law_rounds) Fu hm (Fu.binds fun _ _ _ _ _ _ us hl => match us, hl with | [_, _], _ => rfl) sc__law_rounds (fun vs H Q E h => ?_) (fun cdv A outer s H vs Q E hr h => ?_)
  · obtain ⟨a, ns, m, rfl, _⟩ := h; rfl
  · obtain ⟨a, ns, m, rfl, hS, hl, hm3, hk⟩ := h
    refine ⟨_, pss_one (ps_ret (pe_lc (own := [("k", 2)]) rfl sc__law_rounds.nd (pi_range1 rfl T.range (pa_cons (pe_callB (call_max2 rfl) (by rfl) T.max (by decide +kernel) (pa_cons pe_int (pa_cons (pe_callB (call_min2 rfl) (by rfl) T.min (by decide +kernel) (pa_cons (pv 1) (pa_cons (pe_callB call_len_seq (by rfl) T.len PySem.boot_len (pa_cons (pv 0) pa_nil)) pa_nil))) pa_nil))) pa_nil))
      (blkOk_by (own := [("k", 2)]) (N := N__law_rounds) (sc := defScope s__law_rounds) (by decide +kernel)) (fun _ _ _ _ _ => pg_name (i := 2) sc__law_rounds.nd rfl (Or.inl rfl)) (fun _ _ _ _ _ => pts_nil)
      (fun _ _ _ _ _ => pe_lst (pa_cons (pe_call FF (hr.mono (by decide)) rfl hm2 hk2 hb2 .nil passN (pa_cons (pv 0) (pa_cons (pv 2) pa_nil))) (pa_cons pe_int pa_nil))))), ?_⟩
    refine ⟨_, rfl, _, rfl, a, _, rfl, .inl hS, _, _, rfl, _, _, rfl, ?_⟩
    generalize ej : (if (if (((ns.map V.int).length : Nat) : Int) < m then (((ns.map V.int).length : Nat) : Int) else m) > 1 then (if (((ns.map V.int).length : Nat) : Int) < m then (((ns.map V.int).length : Nat) : Int) else m) else 1) = j
    have hj : 1 ≤ j ∧ j ≤ 100 := by
      rw [← ej, List.length_map]
      constructor
      · split <;> omega
      · split
        · split <;> omega
        · omega
    refine ⟨j, rfl, by omega, by omega, fun D hD => ?_⟩
    refine ⟨fun i m H' => m = j.toNat - i ∧ i ≤ j.toNat ∧ ∃ qs : List Addr, Same H H' ∧ H' D = some (.lst (qs.map V.ref)) ∧ qs.length = i ∧ ∀ q ∈ qs, q ≠ D ∧ ∃ c d, H' q = some (.lst [.int c, .int d]), ⟨_, rfl, Nat.zero_le _, [], upd_same_new hD, upd_same, rfl, by simp⟩, ?_⟩
    rintro i m H' ⟨rfl, hi, qs, sm, hD', hql, hq⟩
    by_cases hlt : i < j.toNat
    · refine .inr ⟨hlt, fun H2 => ∃ qs : List Addr, Same H H2 ∧ H2 D = some (.lst (qs.map V.ref)) ∧ qs.length = i + 1 ∧ ∀ q ∈ qs, q ≠ D ∧ ∃ c d, H2 q = some (.lst [.int c, .int d]), fun H2 z => ⟨j.toNat - (i + 1), by omega, rfl, hlt, z⟩, fun x H2 hy => ?_⟩
      obtain ⟨rfl, rfl⟩ := hy
      refine ⟨rfl, ?_⟩
      refine ⟨_, rfl, _, rfl, a, ns, i, ?_, sm.seq hS, hl, fun r H3 s3 => ⟨by show 2 ≤ sizeLine; decide, fun p hp => ?_⟩⟩
      · show [V.ref a, V.int (0 + (i : Int))] = _
        rw [Int.zero_add]
      have hD3 : H3 D = some (.lst (qs.map V.ref)) := s3 _ _ hD'
      have npD : D ≠ p := ne_of_none hD3 hp
      refine ⟨qs.map V.ref, by rw [upd_ne npD]; exact hD3, by rw [List.length_map, hql]; exact Nat.lt_of_lt_of_le (show i < 100 by omega) (by decide), qs ++ [p], ?_, by rw [upd_same]; simp, by simp [hql], ?_⟩
      · intro b o e
        have e3 := s3 _ _ (sm _ _ e)
        have nb : b ≠ D := ne_of_none e hD
        rw [upd_ne nb, upd_ne (ne_of_none e3 hp)]
        exact e3
      · intro q hm
        rcases List.mem_append.mp hm with hm | hm
        · obtain ⟨n1, c, d, e⟩ := hq q hm
          have e3 := s3 _ _ e
          exact ⟨n1, c, d, by rw [upd_ne n1, upd_ne (ne_of_none e3 hp)]; exact e3⟩
        · simp at hm
          subst hm
          exact ⟨npD.symm, r, 0, by rw [upd_ne npD.symm, upd_same]⟩
    · exact .inl ⟨by show j.toNat ≤ i; omega, hk D qs H' sm hD' hq⟩
def N__law_term : List Str := [Str.ofString "e", Str.ofString "flags", Str.ofString "kinds"]
theorem sc__law_term : FnScope N__law_term [Str.ofString "e"] (defScope s__law_term) := ⟨rfl, rfl, rfl, by decide +kernel, rfl, by decide +kernel, by decide +kernel⟩
theorem ok__law_term {P : Program} {w : World} {K : PySem.W.Frag} {mg : Str → Option Value} {base : Heap} {f : Addr} {fd : FuncData} (T : TxtT K mg) (Fu : L2.Fun K (Str.ofString "_law_term") (Str.ofString "_law_term") s__law_term f fd)
    {CP C0 C1 C2 C3 C4 C5 C6 C7 C8 C9 C10 C11 D : Addr} {j : Nat} {n : Str}
    (m0 : mg (Str.ofString "InvalidBrook") = some (.ref C0)) (m1 : mg (Str.ofString "InvalidLength") = some (.ref C1)) (m2 : mg (Str.ofString "InvalidPlace") = some (.ref C2)) (m3 : mg (Str.ofString "InvalidWeight") = some (.ref C3)) (m4 : mg (Str.ofString "InvalidPlanks") = some (.ref C4)) (m5 : mg (Str.ofString "InvalidPier") = some (.ref C5)) (m6 : mg (Str.ofString "InvalidIndex") = some (.ref C6)) (m7 : mg (Str.ofString "InvalidText") = some (.ref C7)) (m8 : mg (Str.ofString "NotFirm") = some (.ref C8)) (m9 : mg (Str.ofString "Overlap") = some (.ref C9)) (m10 : mg (Str.ofString "TooMany") = some (.ref C10)) (m11 : mg (Str.ofString "NothingToUndo") = some (.ref C11))
    (E1 : Told1 K CP [C0, C1, C2, C3, C4, C5, C6, C7, C8, C9, C10, C11] j D) (hn : ERR[j]? = some n) : FnT P w K mg base 1 f D n := by
  refine fnT_mk (k := 0) (N := N__law_term) Fu (Fu.binds fun _ _ _ _ _ _ us hl => match us, hl with | [_], _ => rfl) sc__law_term (fun cdv A outer s H Q p hot hz hr h => ?_)
  have hf : ∃ vs, p.2.data = .fields vs := let ⟨_, v, e, _⟩ := hot; ⟨v, e⟩
  have hc : HotC (cxH (L2N.CX P w) P w K mg base N__law_term (Str.ofString "_law_term") (defScope s__law_term) f cdv A outer s H (fun _ _ _ => False) p) := ⟨p, hot, List.mem_cons_self⟩
  have is : CallR (cxH (L2N.CX P w) P w K mg base N__law_term (Str.ofString "_law_term") (defScope s__law_term) f cdv A outer s H (fun _ _ _ => False) p) (.builtin "isinstance") (rIsE K D p.1) := call_isP (oe := p.2) E1.exc List.mem_cons_self hz hf
  have hj : j < 12 := (List.getElem?_eq_some_iff.mp hn).1
  have hs : ((oh j).map bI).sum = 1 := oh_sum hj
  refine ⟨_, pss_cons (ps_set (i := 1) sc__law_term.nd rfl (.inl rfl) (pe_lst (pa_cons (pe_callB is (by rfl) T.isinstance_ (by decide +kernel) (pa_cons (pv 0) (pa_cons (pe_glob (v := .ref C0) rfl m0 rfl) pa_nil))) (pa_cons (pe_callB is (by rfl) T.isinstance_ (by decide +kernel) (pa_cons (pv 0) (pa_cons (pe_glob (v := .ref C1) rfl m1 rfl) pa_nil))) (pa_cons (pe_callB is (by rfl) T.isinstance_ (by decide +kernel) (pa_cons (pv 0) (pa_cons (pe_glob (v := .ref C2) rfl m2 rfl) pa_nil))) pa_nil)))))
      (pss_cons (ps_set (i := 1) sc__law_term.nd rfl (.inl rfl) (pe_op op_cat (pv 1) (pe_lst (pa_cons (pe_callB is (by rfl) T.isinstance_ (by decide +kernel) (pa_cons (pv 0) (pa_cons (pe_glob (v := .ref C3) rfl m3 rfl) pa_nil))) (pa_cons (pe_callB is (by rfl) T.isinstance_ (by decide +kernel) (pa_cons (pv 0) (pa_cons (pe_glob (v := .ref C4) rfl m4 rfl) pa_nil))) (pa_cons (pe_callB is (by rfl) T.isinstance_ (by decide +kernel) (pa_cons (pv 0) (pa_cons (pe_glob (v := .ref C5) rfl m5 rfl) pa_nil))) pa_nil))))))
      (pss_cons (ps_set (i := 1) sc__law_term.nd rfl (.inl rfl) (pe_op op_cat (pv 1) (pe_lst (pa_cons (pe_callB is (by rfl) T.isinstance_ (by decide +kernel) (pa_cons (pv 0) (pa_cons (pe_glob (v := .ref C6) rfl m6 rfl) pa_nil))) (pa_cons (pe_callB is (by rfl) T.isinstance_ (by decide +kernel) (pa_cons (pv 0) (pa_cons (pe_glob (v := .ref C7) rfl m7 rfl) pa_nil))) (pa_cons (pe_callB is (by rfl) T.isinstance_ (by decide +kernel) (pa_cons (pv 0) (pa_cons (pe_glob (v := .ref C8) rfl m8 rfl) pa_nil))) pa_nil))))))
      (pss_cons (ps_set (i := 1) sc__law_term.nd rfl (.inl rfl) (pe_op op_cat (pv 1) (pe_lst (pa_cons (pe_callB is (by rfl) T.isinstance_ (by decide +kernel) (pa_cons (pv 0) (pa_cons (pe_glob (v := .ref C9) rfl m9 rfl) pa_nil))) (pa_cons (pe_callB is (by rfl) T.isinstance_ (by decide +kernel) (pa_cons (pv 0) (pa_cons (pe_glob (v := .ref C10) rfl m10 rfl) pa_nil))) (pa_cons (pe_callB is (by rfl) T.isinstance_ (by decide +kernel) (pa_cons (pv 0) (pa_cons (pe_glob (v := .ref C11) rfl m11 rfl) pa_nil))) pa_nil))))))
      (pss_cons (ps_set (i := 2) sc__law_term.nd rfl (.inl rfl) (pe_lst (pa_cons pe_str (pa_cons pe_str (pa_cons pe_str (pa_cons pe_str (pa_cons pe_str (pa_cons pe_str pa_nil))))))))
      (pss_cons (ps_set (i := 2) sc__law_term.nd rfl (.inl rfl) (pe_op op_cat (pv 2) (pe_lst (pa_cons pe_str (pa_cons pe_str (pa_cons pe_str (pa_cons pe_str (pa_cons pe_str (pa_cons pe_str pa_nil)))))))))
      (pss_cons (ps_if (PW.pt (pw_or (pt_cmpR op_ne (pe_callB (cr_sumH hc) (by rfl) T.sum (by decide +kernel) (pa_cons (pe_intsH (i := 1) hc rfl (.inl rfl) (compI_by (by decide +kernel)) T.int_) pa_nil)) pe_int (nomark _))
          (pw_or1 (pt_not (pt_val (pe_callB is (by rfl) T.isinstance_ (by decide +kernel) (pa_cons (pv 0) (pa_cons (pe_bltn (v := .ty "ValueError") rfl T.ValueError (by decide +kernel) rfl) pa_nil))))))))
        (pss_one (ps_ret (pe_tupF (pa_cons pe_str (pa_cons pe_str pa_nil))))) pss_nil)
      (pss_one (ps_ret (pe_tupF (pa_cons pe_str (pa_cons (pe_ix ix_list (pv 2) (pe_bm PySem.F.plainAttrs_list PySem.F.slot_list_index PySem.F.type_list_index mt_index (pv 1) (pa_cons pe_bl pa_nil)) (fun _ _ => rfl)) pa_nil))))))))))), ?_⟩
  refine ⟨_, rfl, .ref C0, .ref C0, _, rfl, (fun _ r => r), E1.fl 0 C0 rfl, _, rfl, .ref C1, .ref C1, _, rfl, (fun _ r => r), E1.fl 1 C1 rfl, _, rfl, .ref C2, .ref C2, _, rfl, (fun _ r => r), E1.fl 2 C2 rfl, sz1000 (show 3 ≤ 1000 by decide), fun l1 h1 => ?_⟩
  refine ⟨_, rfl, _, rfl, .ref C3, .ref C3, _, rfl, (fun _ r => r), E1.fl 3 C3 rfl, _, rfl, .ref C4, .ref C4, _, rfl, (fun _ r => r), E1.fl 4 C4 rfl, _, rfl, .ref C5, .ref C5, _, rfl, (fun _ r => r), E1.fl 5 C5 rfl, sz1000 (show 3 ≤ 1000 by decide), fun l2 h2 => ⟨l1, l2, _, _, rfl, rfl, upd_same_new h2 _ _ upd_same, upd_same, sz1000 (show 3 + 3 ≤ 1000 by decide), fun q1 g1 => ?_⟩⟩
  refine ⟨_, rfl, _, rfl, .ref C6, .ref C6, _, rfl, (fun _ r => r), E1.fl 6 C6 rfl, _, rfl, .ref C7, .ref C7, _, rfl, (fun _ r => r), E1.fl 7 C7 rfl, _, rfl, .ref C8, .ref C8, _, rfl, (fun _ r => r), E1.fl 8 C8 rfl, sz1000 (show 3 ≤ 1000 by decide), fun l3 h3 => ⟨q1, l3, _, _, rfl, rfl, upd_same_new h3 _ _ upd_same, upd_same, sz1000 (show 6 + 3 ≤ 1000 by decide), fun q2 g2 => ?_⟩⟩
  refine ⟨_, rfl, _, rfl, .ref C9, .ref C9, _, rfl, (fun _ r => r), E1.fl 9 C9 rfl, _, rfl, .ref C10, .ref C10, _, rfl, (fun _ r => r), E1.fl 10 C10 rfl, _, rfl, .ref C11, .ref C11, _, rfl, (fun _ r => r), E1.fl 11 C11 rfl, sz1000 (show 3 ≤ 1000 by decide), fun l4 h4 => ⟨q2, l4, _, _, rfl, rfl, upd_same_new h4 _ _ upd_same, upd_same, sz1000 (show 9 + 3 ≤ 1000 by decide), fun q3 g3 => ?_⟩⟩
  have S3 := ((((((upd_same_new h1).trans (upd_same_new h2)).trans (upd_same_new g1)).trans (upd_same_new h3)).trans (upd_same_new g2)).trans (upd_same_new h4)).trans (upd_same_new (o := .lst ((oh j).map V.bl)) g3)
  refine ⟨sz1000 (show 6 ≤ 1000 by decide), fun k1 i1 => ?_⟩
  refine ⟨_, rfl, sz1000 (show 6 ≤ 1000 by decide), fun k2 i2 => ⟨k1, k2, _, _, rfl, rfl, upd_same_new i2 _ _ upd_same, upd_same, sz1000 (show 6 + 6 ≤ 1000 by decide), fun k3 i3 => ?_⟩⟩
  have S2 := ((upd_same_new i1).trans (upd_same_new i2)).trans (upd_same_new (o := .lst (ERR.map V.str)) i3)
  have e1' := S2 _ _ (upd_same (o := .lst ((oh j).map V.bl)))
  refine ⟨q3, (oh j), rfl, e1', fun D hD => ⟨D, (oh j).map bI, rfl, SqL.of (upd_same.trans rfl), rfl, _, rfl, ?_⟩⟩
  have S4 := upd_same_new (o := .lst ((oh j).map fun b => V.int (bI b))) hD
  rw [hs]
  refine iteF ⟨_, rfl, .ty "ValueError", .type "ValueError", _, rfl, (fun _ r => r), E1.val, _, rfl, iteF ?_⟩
  refine ⟨_, rfl, _, rfl, .inl ⟨rfl, _, SqL.of (S4 _ _ e1')⟩, q3, _, .bl true, j, .bl true, rfl, rfl, SqL.of (S4 _ _ e1'), rfl, rfl, oh_at hj, rfl, (fun m z hm hz => oh_lt hj hm hz), k3, _, _, .str n, rfl, rfl, SqL.of (S4 _ _ upd_same), err_at hn, sz1000 (show 2 ≤ 1000 by decide), fun t o ht ho => ?_⟩
  refine h t _ (((S3.trans S2).trans S4).trans (upd_same_new ht)) ?_ (TpO.new ho)
  · cases e : H t with
    | none => rfl
    | some u => rw [S4 _ _ (S2 _ _ (S3 _ _ e))] at ht; cases ht
def N__law_told : List Str := [Str.ofString "deed", Str.ofString "e"]
theorem sc__law_told : FnScope N__law_told [Str.ofString "deed"] (defScope s__law_told) := ⟨rfl, rfl, rfl, by decide +kernel, rfl, by decide +kernel, by decide +kernel⟩
theorem ok__law_told {P : Program} {w : World} {K : PySem.W.Frag} {mg : Str → Option Value} {base : Heap} {es : List Str} {CP fT g : Addr} {fd : FuncData} (m : mg (Str.ofString "_law_told") = some (.ref g)) (Fu : L2.Fun K (Str.ofString "_law_told") (Str.ofString "_law_told") s__law_told g fd) (T : TermAt K mg CP fT)
    (he : ∀ n ∈ es, ∀ D, mg n = some (.ref D) → TermOf P w K mg base CP fT n D) : ToldD P w K mg base es :=
  toldD_mk (Ng := N__law_told) m Fu (Fu.binds fun _ _ _ _ _ _ us hl => match us, hl with | [_], _ => rfl) sc__law_told rfl (.inl rfl) (fun cdv => told_to T rfl rfl rfl rfl) he
theorem sc_law : FnScope N_law [Str.ofString "script"] (defScope s_law) := ⟨rfl, rfl, rfl, by decide +kernel, rfl, by decide +kernel, by decide +kernel⟩
theorem ok_law {P : Program} {w : World} {K : PySem.W.Frag} {mg : Str → Option Value} {base : Heap} {f cL tP : Addr} {oc kV doc pm ct : Value} {od an : Option Addr} {osl : Array (Option Value)} (T : Txt K mg) (lk : K.lookup f = some ⟨oc, od, .func (PySem.W.fnOf (Str.ofString "law") (Str.ofString "law") (defArgs s_law) (defBody s_law) (defScope s_law) .none kV doc pm an (.ref cL) ct), osl⟩) (hcd : PySem.W.codeIn K (.ref cL) (Str.ofString "law") = true) (TB : TabB base mg cL tP) (TD : ToldD P w K mg base ES)
    (D__law_rounds : Rfn P w K mg base (Str.ofString "_law_rounds") 2 [Str.ofString "script", Str.ofString "most"] (spRounds K)) (D__law_any_brook : Dfn P w K mg base (Str.ofString "_law_any_brook") 3 [Str.ofString "dice", Str.ofString "wide"] (toFnR r__law_any_brook)) (D_format_brook : Dfn P w K mg base (Str.ofString "format_brook") 4 [Str.ofString "brook"] (toFn p_format_brook)) (D__law_roll : Dfn P w K mg base (Str.ofString "_law_roll") 2 [Str.ofString "dice", Str.ofString "many"] (toFnR r__law_roll)) (D_parse_brook : Dfn P w K mg base (Str.ofString "parse_brook") 3 [Str.ofString "text"] (toFn p_parse_brook)) (D_is_brook : Dfn P w K mg base (Str.ofString "is_brook") 2 [Str.ofString "value"] (toFn p_is_brook)) :
    FnOk P w K mg base (L2N.CX P w) 6 f (PySem.W.fnOf (Str.ofString "law") (Str.ofString "law") (defArgs s_law) (defBody s_law) (defScope s_law) .none kV doc pm an (.ref cL) ct) [Str.ofString "script"] (spLawT K tP) := by
  obtain ⟨f2, fd2, hm2, hk2, hb2, FF⟩ := D__law_rounds.ex
  refine fn_of (k := 5) (N := N_law) lk hcd sc_law (fun vs H Q E h => ?_) (fun A outer s H vs Q E hr h => ?_)
  · obtain ⟨a, ns, rfl, _⟩ := h; rfl
  · obtain ⟨a, ns, rfl, hS, hl, hPt, hk⟩ := h
    have hu : (A.deeper (envOfC (Str.ofString "law") (defScope s_law) s.heap.objs.size f (.ref cL))).units + 64 < cLine := hr.units
    have hu1 : (A.deeper (envOfC (Str.ofString "law") (defScope s_law) s.heap.objs.size f (.ref cL))).units + 65 < cLine := by have := hr.un; omega
    have hu2 : (A.deeper (envOfC (Str.ofString "law") (defScope s_law) s.heap.objs.size f (.ref cL))).units + 66 < cLine := by have := hr.un; omega
    have po : PassesOwn (model P w) (A.deeper (envOfC (Str.ofString "law") (defScope s_law) s.heap.objs.size f (.ref cL))) (envOfC (Str.ofString "law") (defScope s_law) s.heap.objs.size f (.ref cL)) (cxOf (L2N.CX P w) P w K mg base N_law (Str.ofString "law") (defScope s_law) f (.ref cL) A outer s H E).xe := passes_of rfl
    refine ⟨_, pss_cons (ps_for po rfl (pi_list (pe_call FF (hr.mono (by decide)) rfl hm2 hk2 hb2 .nil passN (pa_cons (pv 0) (pa_cons pe_int pa_nil)))) (pg_name (i := 1) sc_law.nd rfl (Or.inl rfl)) (pss_anyT (mg := mg) (E := E) (kt := 1) (P := tP) (g := body_law) fun G hG hE hP => ?_)) (pss_one (ps_ret pe_bl)), ?_⟩
    · exact (s_cons (s_set sc_law.nd rfl (Or.inl rfl) (d_callRN D__law_any_brook (hr.mono (by decide)) hG rfl (d_cons (d_var 1) (d_cons d_int d_nil))))
  (s_cons (s_set sc_law.nd rfl (Or.inr rfl) (d_strI (d_cons (d_ix (d_var 2) d_int) d_nil) T.str_))
  (s_cons (s_for (vs := [4]) po rfl (i_seq (d_ix (d_var 2) d_int)) (g_name (i := 4) sc_law.nd rfl (Or.inl rfl)) (s_one (s_set sc_law.nd rfl (Or.inr rfl) (d_plus (d_plus (d_var 3) d_str) (d_strI (d_cons (d_var 4) d_nil) T.str_)))))
  (s_cons (s_if (PW.pt (d_tor (t_ne (d_callPI D_format_brook (hr.mono (by decide)) hG rfl (d_cons (d_var 2) d_nil)) (d_var 3) hu) (d_tor1 (t_ne (d_told (k := 3) TD hG hP rfl TB rfl (hr.mono (by decide)) (lamS_by (sc := defScope s_law) (by decide +kernel)) rfl (fun _ _ _ _ _ => rfl) (fun _ _ _ _ _ _ _ hG hr => (d_callPJ D_parse_brook (lamN_room hr (by decide)) hG lamN_px rfl (d_cons (d_var 3) d_nil)))) (d_var 2) hu)))) (s_one (s_ret d_bl)) s_nil)
  (s_cons (s_for (vs := [5]) po rfl (i_range1 rfl T.range (d_cons d_int d_nil)) (g_name (i := 5) sc_law.nd rfl (Or.inl rfl)) (s_cons (s_par rfl sc_law.nd rfl rfl (by decide) rfl rfl (d_cons (d_callRN D__law_roll (hr.mono (by decide)) hG rfl (d_cons (d_var 1) (d_cons (d_plus (d_len (d_cons (d_var 3) d_nil) T.len) d_int) d_nil))) (d_cons (d_ix d_str (d_callRN D__law_roll (hr.mono (by decide)) hG rfl (d_cons (d_var 1) (d_cons d_int d_nil)))) d_nil)) (by rfl))
  (s_cons (s_set sc_law.nd rfl (Or.inr rfl) (d_ix (d_lst (d_cons (d_plus (d_sliceS (d_var 3) o_no (o_so (d_var 6))) (d_sliceS (d_var 3) (o_so (d_plus (d_var 6) d_int)) o_no)) (d_cons (d_plus (d_plus (d_sliceS (d_var 3) o_no (o_so (d_var 6))) (d_var 7)) (d_sliceS (d_var 3) (o_so (d_var 6)) o_no)) (d_cons (d_plus (d_var 3) (d_var 7)) (d_cons (d_sliceS (d_var 3) o_no (o_so (d_var 6))) d_nil))))) (d_mod (d_var 5) d_int)))
  (s_cons (s_set sc_law.nd rfl (Or.inl rfl) (d_told (k := 3) TD hG hP rfl TB rfl (hr.mono (by decide)) (lamS_by (sc := defScope s_law) (by decide +kernel)) rfl (fun _ _ _ _ _ => rfl) (fun _ _ _ _ _ _ _ hG hr => (d_callPJ D_parse_brook (lamN_room hr (by decide)) hG lamN_px rfl (d_cons (d_var 8) d_nil)))))
  (s_one (s_if (t_ne (d_var 9) (d_tup (d_cons d_str (d_cons d_str d_nil))) hu) (s_one (s_if (PW.pt (d_tor (d_tnot (d_tval (d_callPI D_is_brook (hr.mono (by decide)) hG rfl (d_cons (d_var 9) d_nil)))) (d_tor1 (t_ne (d_callPI D_format_brook (hr.mono (by decide)) hG rfl (d_cons (d_var 9) d_nil)) (d_var 8) hu)))) (s_one (s_ret d_bl)) s_nil)) s_nil))))))
  (s_cons (s_set sc_law.nd rfl (Or.inl rfl) (d_lst (d_cons d_str (d_cons d_str (d_cons d_str (d_cons d_str (d_cons d_str (d_cons d_str (d_cons d_str (d_cons d_str (d_cons d_str (d_cons d_str (d_cons d_str d_nil)))))))))))))
  (s_cons (s_set sc_law.nd rfl (Or.inl rfl) (d_plus (d_var 10) (d_lst (d_cons d_str (d_cons d_str (d_cons d_non (d_cons d_int (d_cons (d_lst (d_cons (d_var 3) d_nil)) (d_cons (d_var 2) d_nil)))))))))
  (s_cons (s_for (vs := [11]) po rfl (i_seq (d_var 10)) (g_name (i := 11) sc_law.nd rfl (Or.inr rfl)) (s_one (s_if (t_ne (d_told (k := 3) TD hG hP rfl TB rfl (hr.mono (by decide)) (lamS_by (sc := defScope s_law) (by decide +kernel)) rfl (fun _ _ _ _ _ => rfl) (fun _ _ _ _ _ _ _ hG hr => (d_callPJ D_parse_brook (lamN_room hr (by decide)) hG lamN_px rfl (d_cons (d_var 11) d_nil)))) (d_tup (d_cons d_str (d_cons d_str d_nil))) hu) (s_one (s_ret d_bl)) s_nil)))
  (s_one (s_if (t_ne (d_told (k := 3) TD hG hP rfl TB rfl (hr.mono (by decide)) (lamS_by (sc := defScope s_law) (by decide +kernel)) rfl (fun _ _ _ _ _ => rfl) (fun _ _ _ _ _ _ _ hG hr => (d_callPJ D_parse_brook (lamN_room hr (by decide)) hG lamN_px rfl (d_cons d_str d_nil)))) (d_tup (d_cons d_int (d_cons (d_tup (d_cons d_int (d_cons d_int (d_cons d_int (d_cons d_int (d_cons d_int d_nil)))))) d_nil))) hu) (s_one (s_ret d_bl)) s_nil))))))))))
    · refine ⟨_, rfl, a, ns, 5, rfl, hS, hl, by decide, fun p qs H' sm hp hq => ⟨p, rfl, ⟨_, SqL.of hp⟩, ?_⟩⟩
      exact rounds_goT (n := N_law.length) (i := 1) (ql := QL) rfl (by decide) hp hq (TabS.nil (sm _ _ hPt)) (fun v σ H Q h => h) wp_law fun σ H => hk _
theorem all_mk {l : PySem.W.OpenLaw} {w : World} {K : PySem.W.Frag} {h : Heap} {mg : Str → Option Value} {fa : Addr} (X : K.In h) (G : h.Ns mainGlobals mg) (hfa : mg (Str.ofString "law") = some (.ref fa))
    {f0 f1 f2 f3 f4 f5 f6 f7 f8 f9 f10 f11 f12 f13 f14 C0 C1 : Addr} {od0 an0 od1 an1 od2 an2 od3 an3 od4 an4 od5 an5 od6 an6 od7 an7 od8 an8 od9 an9 od10 an10 od11 an11 od12 an12 od13 an13 od14 an14 : Option Addr} {sl0 sl1 sl2 sl3 sl4 sl5 sl6 sl7 sl8 sl9 sl10 sl11 sl12 sl13 sl14 : Array (Option Value)} {oc0 kV0 dc0 pm0 ct0 cd0 oc1 kV1 dc1 pm1 ct1 cd1 oc2 kV2 dc2 pm2 ct2 cd2 oc3 kV3 dc3 pm3 ct3 cd3 oc4 kV4 dc4 pm4 ct4 cd4 oc5 kV5 dc5 pm5 ct5 cd5 oc6 kV6 dc6 pm6 ct6 cd6 oc7 kV7 dc7 pm7 ct7 cd7 oc8 kV8 dc8 pm8 ct8 cd8 oc9 kV9 dc9 pm9 ct9 cd9 oc10 kV10 dc10 pm10 ct10 cd10 oc11 kV11 dc11 pm11 ct11 cd11 oc12 kV12 dc12 pm12 ct12 cd12 oc13 kV13 dc13 pm13 ct13 cd13 oc14 kV14 dc14 pm14 ct14 : Value} {cL tP YP Y0 Y1 Y2 Y3 Y4 Y5 Y6 Y7 Y8 Y9 Y10 Y11 : Addr} {te : Value} {tdd : Option Addr} {tvs : Array Value} {tsl : Array (Option Value)}
    (xa0 : PySem.W.nsIn K mainGlobals (Str.ofString "InvalidBrook") = some (some (.ref C0))) (xx0 : PySem.W.excIn K C0 [.type "ValueError", .type "Exception", .type "BaseException", .type "object"] "ValueError.__new__" = true) (xk0 : PySem.W.keepIn K (.ref C0) = true) (xb0 : PySem.W.subIn K (.ref C0) (.type "BaseException") = some true) (xt0 : PySem.W.typeIn K (.ref C0) = some (.type "type"))
    (xa1 : PySem.W.nsIn K mainGlobals (Str.ofString "InvalidText") = some (some (.ref C1))) (xx1 : PySem.W.excIn K C1 [.type "ValueError", .type "Exception", .type "BaseException", .type "object"] "ValueError.__new__" = true) (xk1 : PySem.W.keepIn K (.ref C1) = true) (xb1 : PySem.W.subIn K (.ref C1) (.type "BaseException") = some true) (xt1 : PySem.W.typeIn K (.ref C1) = some (.type "type"))
    (a0 : PySem.W.nsIn K mainGlobals (Str.ofString "is_whole") = some (some (.ref f0))) (l0 : K.lookup f0 = some ⟨oc0, od0, .func (PySem.W.fnOf (Str.ofString "is_whole") (Str.ofString "is_whole") (defArgs s_is_whole) (defBody s_is_whole) (defScope s_is_whole) .none kV0 dc0 pm0 an0 cd0 ct0), sl0⟩) (c0 : PySem.W.codeIn K cd0 (Str.ofString "is_whole") = true) (k0 : PySem.W.keepIn K (.ref f0) = true)
    (a1 : PySem.W.nsIn K mainGlobals (Str.ofString "is_brook") = some (some (.ref f1))) (l1 : K.lookup f1 = some ⟨oc1, od1, .func (PySem.W.fnOf (Str.ofString "is_brook") (Str.ofString "is_brook") (defArgs s_is_brook) (defBody s_is_brook) (defScope s_is_brook) .none kV1 dc1 pm1 an1 cd1 ct1), sl1⟩) (c1 : PySem.W.codeIn K cd1 (Str.ofString "is_brook") = true) (k1 : PySem.W.keepIn K (.ref f1) = true)
    (a2 : PySem.W.nsIn K mainGlobals (Str.ofString "need_brook") = some (some (.ref f2))) (l2 : K.lookup f2 = some ⟨oc2, od2, .func (PySem.W.fnOf (Str.ofString "need_brook") (Str.ofString "need_brook") (defArgs s_need_brook) (defBody s_need_brook) (defScope s_need_brook) .none kV2 dc2 pm2 an2 cd2 ct2), sl2⟩) (c2 : PySem.W.codeIn K cd2 (Str.ofString "need_brook") = true) (k2 : PySem.W.keepIn K (.ref f2) = true)
    (a3 : PySem.W.nsIn K mainGlobals (Str.ofString "written") = some (some (.ref f3))) (l3 : K.lookup f3 = some ⟨oc3, od3, .func (PySem.W.fnOf (Str.ofString "written") (Str.ofString "written") (defArgs s_written) (defBody s_written) (defScope s_written) .none kV3 dc3 pm3 an3 cd3 ct3), sl3⟩) (c3 : PySem.W.codeIn K cd3 (Str.ofString "written") = true) (k3 : PySem.W.keepIn K (.ref f3) = true)
    (a4 : PySem.W.nsIn K mainGlobals (Str.ofString "format_brook") = some (some (.ref f4))) (l4 : K.lookup f4 = some ⟨oc4, od4, .func (PySem.W.fnOf (Str.ofString "format_brook") (Str.ofString "format_brook") (defArgs s_format_brook) (defBody s_format_brook) (defScope s_format_brook) .none kV4 dc4 pm4 an4 cd4 ct4), sl4⟩) (c4 : PySem.W.codeIn K cd4 (Str.ofString "format_brook") = true) (k4 : PySem.W.keepIn K (.ref f4) = true)
    (a5 : PySem.W.nsIn K mainGlobals (Str.ofString "number_of") = some (some (.ref f5))) (l5 : K.lookup f5 = some ⟨oc5, od5, .func (PySem.W.fnOf (Str.ofString "number_of") (Str.ofString "number_of") (defArgs s_number_of) (defBody s_number_of) (defScope s_number_of) .none kV5 dc5 pm5 an5 cd5 ct5), sl5⟩) (c5 : PySem.W.codeIn K cd5 (Str.ofString "number_of") = true) (k5 : PySem.W.keepIn K (.ref f5) = true)
    (a6 : PySem.W.nsIn K mainGlobals (Str.ofString "parse_brook") = some (some (.ref f6))) (l6 : K.lookup f6 = some ⟨oc6, od6, .func (PySem.W.fnOf (Str.ofString "parse_brook") (Str.ofString "parse_brook") (defArgs s_parse_brook) (defBody s_parse_brook) (defScope s_parse_brook) .none kV6 dc6 pm6 an6 cd6 ct6), sl6⟩) (c6 : PySem.W.codeIn K cd6 (Str.ofString "parse_brook") = true) (k6 : PySem.W.keepIn K (.ref f6) = true)
    (a7 : PySem.W.nsIn K mainGlobals (Str.ofString "_law_cell") = some (some (.ref f7))) (l7 : K.lookup f7 = some ⟨oc7, od7, .func (PySem.W.fnOf (Str.ofString "_law_cell") (Str.ofString "_law_cell") (defArgs s__law_cell) (defBody s__law_cell) (defScope s__law_cell) .none kV7 dc7 pm7 an7 cd7 ct7), sl7⟩) (c7 : PySem.W.codeIn K cd7 (Str.ofString "_law_cell") = true) (k7 : PySem.W.keepIn K (.ref f7) = true)
    (a8 : PySem.W.nsIn K mainGlobals (Str.ofString "_law_drawn") = some (some (.ref f8))) (l8 : K.lookup f8 = some ⟨oc8, od8, .func (PySem.W.fnOf (Str.ofString "_law_drawn") (Str.ofString "_law_drawn") (defArgs s__law_drawn) (defBody s__law_drawn) (defScope s__law_drawn) .none kV8 dc8 pm8 an8 cd8 ct8), sl8⟩) (c8 : PySem.W.codeIn K cd8 (Str.ofString "_law_drawn") = true) (k8 : PySem.W.keepIn K (.ref f8) = true)
    (a9 : PySem.W.nsIn K mainGlobals (Str.ofString "_law_roll") = some (some (.ref f9))) (l9 : K.lookup f9 = some ⟨oc9, od9, .func (PySem.W.fnOf (Str.ofString "_law_roll") (Str.ofString "_law_roll") (defArgs s__law_roll) (defBody s__law_roll) (defScope s__law_roll) .none kV9 dc9 pm9 an9 cd9 ct9), sl9⟩) (c9 : PySem.W.codeIn K cd9 (Str.ofString "_law_roll") = true) (k9 : PySem.W.keepIn K (.ref f9) = true)
    (a10 : PySem.W.nsIn K mainGlobals (Str.ofString "_law_rounds") = some (some (.ref f10))) (l10 : K.lookup f10 = some ⟨oc10, od10, .func (PySem.W.fnOf (Str.ofString "_law_rounds") (Str.ofString "_law_rounds") (defArgs s__law_rounds) (defBody s__law_rounds) (defScope s__law_rounds) .none kV10 dc10 pm10 an10 cd10 ct10), sl10⟩) (c10 : PySem.W.codeIn K cd10 (Str.ofString "_law_rounds") = true) (k10 : PySem.W.keepIn K (.ref f10) = true)
    (a11 : PySem.W.nsIn K mainGlobals (Str.ofString "_law_term") = some (some (.ref f11))) (l11 : K.lookup f11 = some ⟨oc11, od11, .func (PySem.W.fnOf (Str.ofString "_law_term") (Str.ofString "_law_term") (defArgs s__law_term) (defBody s__law_term) (defScope s__law_term) .none kV11 dc11 pm11 an11 cd11 ct11), sl11⟩) (c11 : PySem.W.codeIn K cd11 (Str.ofString "_law_term") = true) (k11 : PySem.W.keepIn K (.ref f11) = true)
    (a12 : PySem.W.nsIn K mainGlobals (Str.ofString "_law_told") = some (some (.ref f12))) (l12 : K.lookup f12 = some ⟨oc12, od12, .func (PySem.W.fnOf (Str.ofString "_law_told") (Str.ofString "_law_told") (defArgs s__law_told) (defBody s__law_told) (defScope s__law_told) .none kV12 dc12 pm12 an12 cd12 ct12), sl12⟩) (c12 : PySem.W.codeIn K cd12 (Str.ofString "_law_told") = true) (k12 : PySem.W.keepIn K (.ref f12) = true)
    (a13 : PySem.W.nsIn K mainGlobals (Str.ofString "_law_any_brook") = some (some (.ref f13))) (l13 : K.lookup f13 = some ⟨oc13, od13, .func (PySem.W.fnOf (Str.ofString "_law_any_brook") (Str.ofString "_law_any_brook") (defArgs s__law_any_brook) (defBody s__law_any_brook) (defScope s__law_any_brook) .none kV13 dc13 pm13 an13 cd13 ct13), sl13⟩) (c13 : PySem.W.codeIn K cd13 (Str.ofString "_law_any_brook") = true) (k13 : PySem.W.keepIn K (.ref f13) = true)
    (a14 : PySem.W.nsIn K mainGlobals (Str.ofString "law") = some (some (.ref f14))) (l14 : K.lookup f14 = some ⟨oc14, od14, .func (PySem.W.fnOf (Str.ofString "law") (Str.ofString "law") (defArgs s_law) (defBody s_law) (defScope s_law) .none kV14 dc14 pm14 an14 (.ref cL) ct14), sl14⟩) (c14 : PySem.W.codeIn K (.ref cL) (Str.ofString "law") = true) (k14 : PySem.W.keepIn K (.ref f14) = true)
    (z_isinstance : PySem.W.nsIn K mainGlobals (Str.ofString "isinstance") = some none)
    (z_int : PySem.W.nsIn K mainGlobals (Str.ofString "int") = some none)
    (z_bool : PySem.W.nsIn K mainGlobals (Str.ofString "bool") = some none)
    (z_tuple : PySem.W.nsIn K mainGlobals (Str.ofString "tuple") = some none)
    (z_str : PySem.W.nsIn K mainGlobals (Str.ofString "str") = some none)
    (z_len : PySem.W.nsIn K mainGlobals (Str.ofString "len") = some none)
    (z_all : PySem.W.nsIn K mainGlobals (Str.ofString "all") = some none)
    (z_range : PySem.W.nsIn K mainGlobals (Str.ofString "range") = some none)
    (z_min : PySem.W.nsIn K mainGlobals (Str.ofString "min") = some none)
    (z_max : PySem.W.nsIn K mainGlobals (Str.ofString "max") = some none)
    (yp : PySem.W.nsIn K mainGlobals (Str.ofString "PlankError") = some (some (.ref YP)))
    (ya0 : PySem.W.nsIn K mainGlobals (Str.ofString "InvalidBrook") = some (some (.ref Y0)))
    (ya1 : PySem.W.nsIn K mainGlobals (Str.ofString "InvalidLength") = some (some (.ref Y1)))
    (ya2 : PySem.W.nsIn K mainGlobals (Str.ofString "InvalidPlace") = some (some (.ref Y2)))
    (ya3 : PySem.W.nsIn K mainGlobals (Str.ofString "InvalidWeight") = some (some (.ref Y3)))
    (ya4 : PySem.W.nsIn K mainGlobals (Str.ofString "InvalidPlanks") = some (some (.ref Y4)))
    (ya5 : PySem.W.nsIn K mainGlobals (Str.ofString "InvalidPier") = some (some (.ref Y5)))
    (ya6 : PySem.W.nsIn K mainGlobals (Str.ofString "InvalidIndex") = some (some (.ref Y6)))
    (ya7 : PySem.W.nsIn K mainGlobals (Str.ofString "InvalidText") = some (some (.ref Y7)))
    (ya8 : PySem.W.nsIn K mainGlobals (Str.ofString "NotFirm") = some (some (.ref Y8)))
    (ya9 : PySem.W.nsIn K mainGlobals (Str.ofString "Overlap") = some (some (.ref Y9)))
    (ya10 : PySem.W.nsIn K mainGlobals (Str.ofString "TooMany") = some (some (.ref Y10)))
    (ya11 : PySem.W.nsIn K mainGlobals (Str.ofString "NothingToUndo") = some (some (.ref Y11)))
    (yt7 : told1B K YP [Y0, Y1, Y2, Y3, Y4, Y5, Y6, Y7, Y8, Y9, Y10, Y11] 7 Y7 = true)
    (yz_isinstance : PySem.W.nsIn K mainGlobals (Str.ofString "isinstance") = some none)
    (yz_int : PySem.W.nsIn K mainGlobals (Str.ofString "int") = some none)
    (yz_sum : PySem.W.nsIn K mainGlobals (Str.ofString "sum") = some none)
    (yz_ValueError : PySem.W.nsIn K mainGlobals (Str.ofString "ValueError") = some none)
    (tlc : K.lookup cL = some ⟨te, tdd, .fields tvs, tsl⟩) (thv : tvs[11]? = some (.ref tP)) (tnP : K.lookup tP = none) (thh : PySem.W.codeHdIn K cL tP = true) (ttb : h.get? tP = some (PySem.W.tabObj #[])) :
    LawAtS l w K (L2N.CX l.prog w) 6 63 (Str.ofString "script") mg fa h := by
  have e := hfa.symm.trans (PySem.W.mg_of X G a14)
  cases e
  have T : Txt K mg := ⟨PySem.W.mg_none_of X G z_isinstance, PySem.W.mg_none_of X G z_int, PySem.W.mg_none_of X G z_bool, PySem.W.mg_none_of X G z_tuple, PySem.W.mg_none_of X G z_str, PySem.W.mg_none_of X G z_len, PySem.W.mg_none_of X G z_all, PySem.W.mg_none_of X G z_range, PySem.W.mg_none_of X G z_min, PySem.W.mg_none_of X G z_max, ⟨C0, PySem.W.mg_of X G xa0, xx0, xk0, xb0, xt0⟩, ⟨C1, PySem.W.mg_of X G xa1, xx1, xk1, xb1, xt1⟩⟩
  refine lawT_mk X tnP thh ttb (fd := PySem.W.fnOf (Str.ofString "law") (Str.ofString "law") (defArgs s_law) (defBody s_law) (defScope s_law) .none kV14 dc14 pm14 an14 (.ref cL) ct14) (fun s v => .of_eq rfl) (fun base _ _ TB => ?_)
  have TX : TxtT K mg := ⟨PySem.W.mg_none_of X G yz_isinstance, PySem.W.mg_none_of X G yz_int, PySem.W.mg_none_of X G yz_sum, PySem.W.mg_none_of X G yz_ValueError⟩
  have TA : TermAt K mg YP f11 := ⟨PySem.W.mg_of X G yp, PySem.W.mg_of X G a11, k11⟩
  have F7_ := ok__law_term (P := l.prog) (w := w) (base := base) TX (fun_mk (st := s__law_term) l11 c11 k11) (PySem.W.mg_of X G ya0) (PySem.W.mg_of X G ya1) (PySem.W.mg_of X G ya2) (PySem.W.mg_of X G ya3) (PySem.W.mg_of X G ya4) (PySem.W.mg_of X G ya5) (PySem.W.mg_of X G ya6) (PySem.W.mg_of X G ya7) (PySem.W.mg_of X G ya8) (PySem.W.mg_of X G ya9) (PySem.W.mg_of X G ya10) (PySem.W.mg_of X G ya11) (told1_by yt7) (n := Str.ofString "InvalidText") rfl
  have TD : ToldD l.prog w K mg base ES := ok__law_told (PySem.W.mg_of X G a12) (fun_mk (st := s__law_told) l12 c12 k12) TA (by
    intro n hn D hD
    unfold ES at hn
    simp only [List.mem_cons, List.not_mem_nil, or_false] at hn
    subst hn
    · exact term_of (told1_by yt7) F7_ (PySem.W.mg_of X G ya7) hD)
  have D_is_whole := ok_is_whole (P := l.prog) (w := w) (base := base) T (fun_mk (st := s_is_whole) l0 c0 k0) (PySem.W.mg_of X G a0)
  have D_is_brook := ok_is_brook (P := l.prog) (w := w) (base := base) T (fun_mk (st := s_is_brook) l1 c1 k1) (PySem.W.mg_of X G a1) D_is_whole
  have D_need_brook := ok_need_brook (P := l.prog) (w := w) (base := base) T (fun_mk (st := s_need_brook) l2 c2 k2) (PySem.W.mg_of X G a2) D_is_brook
  have D_written := ok_written (P := l.prog) (w := w) (base := base) T (fun_mk (st := s_written) l3 c3 k3) (PySem.W.mg_of X G a3)
  have D_format_brook := ok_format_brook (P := l.prog) (w := w) (base := base) T (fun_mk (st := s_format_brook) l4 c4 k4) (PySem.W.mg_of X G a4) D_need_brook D_written
  have D_number_of := ok_number_of (P := l.prog) (w := w) (base := base) T (fun_mk (st := s_number_of) l5 c5 k5) (PySem.W.mg_of X G a5)
  have D_parse_brook := ok_parse_brook (P := l.prog) (w := w) (base := base) T (fun_mk (st := s_parse_brook) l6 c6 k6) (PySem.W.mg_of X G a6) D_number_of D_is_brook D_written
  have D__law_cell := ok__law_cell (P := l.prog) (w := w) (base := base) T (fun_mk (st := s__law_cell) l7 c7 k7) (PySem.W.mg_of X G a7)
  have D__law_drawn := ok__law_drawn (P := l.prog) (w := w) (base := base) T (fun_mk (st := s__law_drawn) l8 c8 k8) (PySem.W.mg_of X G a8)
  have D__law_roll := ok__law_roll (P := l.prog) (w := w) (base := base) T (fun_mk (st := s__law_roll) l9 c9 k9) (PySem.W.mg_of X G a9) D__law_drawn
  have D__law_rounds := ok__law_rounds (P := l.prog) (w := w) (base := base) T (fun_mk (st := s__law_rounds) l10 c10 k10) (PySem.W.mg_of X G a10) D__law_cell
  have D__law_any_brook := ok__law_any_brook (P := l.prog) (w := w) (base := base) T (fun_mk (st := s__law_any_brook) l13 c13 k13) (PySem.W.mg_of X G a13) D__law_roll
  exact ok_law T l14 c14 TB TD D__law_rounds D__law_any_brook D_format_brook D__law_roll D_parse_brook D_is_brook
theorem walk {l : PySem.W.OpenLaw} {q : Program} {loose : List Str} {XP : (Str → Option Value) → Heap → Prop} {YP : World → Heap → Prop} {d : DefRec} {K : Params → PySem.W.Frag} (hn : l.most = some 63) (hdf : d.params.defaults = [])
    (hY : ∀ (w : World) (h : Heap), YP w h → (K w.params).In h)
    (F : ∀ (w : World) (mg : Str → Option Value) (fa : Addr) (h : Heap), YP w h → (K w.params).In h → h.Ns mainGlobals mg → mg d.name = some (.ref fa) → LawAtS l w (K w.params) (L2N.CX l.prog w) 6 63 (Str.ofString "script") mg fa h) :
    PySem.W.WalkO q loose XP YP l.row.toRowW d [] (fun f vs => PySem.call f vs) :=
  LamX.walk_ofTs (n := 63) (k := 6) (x := Str.ofString "script") (CX := fun w => L2N.CX l.prog w) hn (by decide) hdf ⟨rfl, by decide, by decide⟩ hY F fun _ _ _ _ _ z => by
    obtain ⟨_, _, _, _, _, _, _, _, _, _, _, _, z⟩ := z
    exact z.elim
end DL
open PySem PySem.W PyProof.Rows in
set_option maxRecDepth 100000 in
set_option maxHeartbeats 0 in
theorem PySem.Challenge.cw_plankways_k20_whole_texts_holds : PySem.Challenge.rw_plankways_k20_whole_texts.Holds := by
  w_on; o_law; k_head; (case hw => w_witness2)
  k_fill
  refine DL.walk (l := PySem.Challenge.rw_plankways_k20_whole_texts) rfl rfl (fun w h Y => PySem.W.km_in_of Y) ?F
  case F =>
    intro w mg fa h Y KX G hmg
    have hT := PySem.W.km_tabs_of Y
    refine' DL.all_mk KX G hmg ?qxa0 ?qxx0 ?qxk0 ?qxb0 ?qxt0 ?qxa1 ?qxx1 ?qxk1 ?qxb1 ?qxt1 ?qa0 ?ql0 ?qc0 ?qk0 ?qa1 ?ql1 ?qc1 ?qk1 ?qa2 ?ql2 ?qc2 ?qk2 ?qa3 ?ql3 ?qc3 ?qk3 ?qa4 ?ql4 ?qc4 ?qk4 ?qa5 ?ql5 ?qc5 ?qk5 ?qa6 ?ql6 ?qc6 ?qk6 ?qa7 ?ql7 ?qc7 ?qk7 ?qa8 ?ql8 ?qc8 ?qk8 ?qa9 ?ql9 ?qc9 ?qk9 ?qa10 ?ql10 ?qc10 ?qk10 ?qa11 ?ql11 ?qc11 ?qk11 ?qa12 ?ql12 ?qc12 ?qk12 ?qa13 ?ql13 ?qc13 ?qk13 ?qa14 ?ql14 ?qc14 ?qk14 ?qz_isinstance ?qz_int ?qz_bool ?qz_tuple ?qz_str ?qz_len ?qz_all ?qz_range ?qz_min ?qz_max ?qyp ?qya0 ?qya1 ?qya2 ?qya3 ?qya4 ?qya5 ?qya6 ?qya7 ?qya8 ?qya9 ?qya10 ?qya11 ?qyt7 ?qyz_isinstance ?qyz_int ?qyz_sum ?qyz_ValueError ?qtlc ?qthv ?qtnP ?qthh (hT _ ?qmem)
    (case qxa0 => k_is)
    (case qxx0 => k_exc)
    (case qxk0 => k_is)
    (case qxb0 => k_is)
    (case qxt0 => k_is)
    (case qxa1 => k_is)
    (case qxx1 => k_exc)
    (case qxk1 => k_is)
    (case qxb1 => k_is)
    (case qxt1 => k_is)
    (case qa0 => k_is)
    (case ql0 => k_is)
    (case qc0 => k_is)
    (case qk0 => k_is)
    (case qa1 => k_is)
    (case ql1 => k_is)
    (case qc1 => k_is)
    (case qk1 => k_is)
    (case qa2 => k_is)
    (case ql2 => k_is)
    (case qc2 => k_is)
    (case qk2 => k_is)
    (case qa3 => k_is)
    (case ql3 => k_is)
    (case qc3 => k_is)
    (case qk3 => k_is)
    (case qa4 => k_is)
    (case ql4 => k_is)
    (case qc4 => k_is)
    (case qk4 => k_is)
    (case qa5 => k_is)
    (case ql5 => k_is)
    (case qc5 => k_is)
    (case qk5 => k_is)
    (case qa6 => k_is)
    (case ql6 => k_is)
    (case qc6 => k_is)
    (case qk6 => k_is)
    (case qa7 => k_is)
    (case ql7 => k_is)
    (case qc7 => k_is)
    (case qk7 => k_is)
    (case qa8 => k_is)
    (case ql8 => k_is)
    (case qc8 => k_is)
    (case qk8 => k_is)
    (case qa9 => k_is)
    (case ql9 => k_is)
    (case qc9 => k_is)
    (case qk9 => k_is)
    (case qa10 => k_is)
    (case ql10 => k_is)
    (case qc10 => k_is)
    (case qk10 => k_is)
    (case qa11 => k_is)
    (case ql11 => k_is)
    (case qc11 => k_is)
    (case qk11 => k_is)
    (case qa12 => k_is)
    (case ql12 => k_is)
    (case qc12 => k_is)
    (case qk12 => k_is)
    (case qa13 => k_is)
    (case ql13 => k_is)
    (case qc13 => k_is)
    (case qk13 => k_is)
    (case qa14 => k_is)
    (case ql14 => k_is)
    (case qc14 => k_is)
    (case qk14 => k_is)
    (case qz_isinstance => k_is)
    (case qz_int => k_is)
    (case qz_bool => k_is)
    (case qz_tuple => k_is)
    (case qz_str => k_is)
    (case qz_len => k_is)
    (case qz_all => k_is)
    (case qz_range => k_is)
    (case qz_min => k_is)
    (case qz_max => k_is)
    (case qyp => k_is)
    (case qya0 => k_is)
    (case qya1 => k_is)
    (case qya2 => k_is)
    (case qya3 => k_is)
    (case qya4 => k_is)
    (case qya5 => k_is)
    (case qya6 => k_is)
    (case qya7 => k_is)
    (case qya8 => k_is)
    (case qya9 => k_is)
    (case qya10 => k_is)
    (case qya11 => k_is)
    (case qyt7 => kernel_rfl)
    (case qyz_isinstance => k_is)
    (case qyz_int => k_is)
    (case qyz_sum => k_is)
    (case qyz_ValueError => k_is)
    (case qtlc => k_is)
    (case qthv => rfl)
    (case qtnP => kernel_rfl)
    (case qthh => kernel_rfl)
    (case qmem => simp)
