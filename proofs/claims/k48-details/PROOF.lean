import PyProof.Rows.All
import Wide.All
import OpenK.AllK
import Wide.FinOn
import HandS.ForMost
import HandS.Deep
import HandS.Conv
import HandS.IsInst
import HandS.TupAny
import HandS.Strs
import HandS.Zip
import KE.SortKeyHeap
import HandS.Lambda
import HandS.NoneIn
import HandS.EndTab
import PySem.Challenge.RW_stillwritten_k48_whole_details_behind_al
set_option Elab.async false
set_option linter.all false
set_option maxRecDepth 100000
/-! DxCore: data seen through a frozen part of the heap; environments of slots; what an expression, a test, an argument list, an iterable is worth (Ev, EvT, EvA, EvI), with no heap in the statements. -/
namespace Dx
open PySem L2

/-! ### data -/
mutual
inductive Dq (F : Hp) : V → PyData → Prop
  | non : Dq F .non .none
  | bl (b : Bool) : Dq F (.bl b) (.bool b)
  | int (i : Int) : Dq F (.int i) (.int i)
  | str (x : Str) : Dq F (.str x) (.str x)
  | lst {a : Addr} {xs : List V} {ds : List PyData} : F a = some (.lst xs) → DqAll F xs ds → Dq F (.ref a) (.list ds)
  | tup {a : Addr} {xs : List V} {ds : List PyData} : F a = some (.tup xs) → DqAll F xs ds → Dq F (.ref a) (.tuple ds)
inductive DqAll (F : Hp) : List V → List PyData → Prop
  | nil : DqAll F [] []
  | cons {v : V} {vs : List V} {d : PyData} {ds : List PyData} : Dq F v d → DqAll F vs ds → DqAll F (v :: vs) (d :: ds)
end
mutual
theorem Dq.mono {F F' : Hp} (e : Same F F') : ∀ (d : PyData) (v : V), Dq F v d → Dq F' v d
  | .none, _, h => by cases h; exact .non
  | .bool b, _, h => by cases h; exact .bl b
  | .int i, _, h => by cases h; exact .int i
  | .str x, _, h => by cases h; exact .str x
  | .list ds, _, h => by
    cases h with
    | lst hs ha => exact .lst (e _ _ hs) (DqAll.mono e ds _ ha)
  | .tuple ds, _, h => by
    cases h with
    | tup hs ha => exact .tup (e _ _ hs) (DqAll.mono e ds _ ha)
  | .dict _, _, h => by cases h
theorem DqAll.mono {F F' : Hp} (e : Same F F') : ∀ (ds : List PyData) (vs : List V), DqAll F vs ds → DqAll F' vs ds
  | [], _, h => by cases h; exact .nil
  | d :: ds, _, h => by
    cases h with
    | cons h1 h2 => exact .cons (Dq.mono e d _ h1) (DqAll.mono e ds _ h2)
end
mutual
theorem Dq.dp {F : Hp} {K : PySem.W.Frag} : ∀ (d : PyData) (v : V), Dq F v d → Dp K F v d
  | .none, _, h => by cases h; exact .non
  | .bool b, _, h => by cases h; exact .bl b
  | .int i, _, h => by cases h; exact .int i
  | .str x, _, h => by cases h; exact .str x
  | .list ds, _, h => by
    cases h with
    | lst hs ha => exact .lst (SqL.of hs) (DqAll.dp ds _ ha)
  | .tuple ds, _, h => by
    cases h with
    | tup hs ha => exact .tup (SqT.of hs) (DqAll.dp ds _ ha)
  | .dict _, _, h => by cases h
theorem DqAll.dp {F : Hp} {K : PySem.W.Frag} : ∀ (ds : List PyData) (vs : List V), DqAll F vs ds → DpAll K F vs ds
  | [], _, h => by cases h; exact .nil
  | d :: ds, _, h => by
    cases h with
    | cons h1 h2 => exact .cons (Dq.dp d _ h1) (DqAll.dp ds _ h2)
end
theorem DqAll.length {F : Hp} : ∀ {vs : List V} {ds : List PyData}, DqAll F vs ds → vs.length = ds.length
  | _, _, .nil => rfl
  | _, _, .cons _ h => by rw [List.length_cons, List.length_cons, DqAll.length h]
theorem DqAll.get {F : Hp} : ∀ {vs : List V} {ds : List PyData} {i : Nat} {d : PyData}, DqAll F vs ds → ds[i]? = some d → ∃ v, vs[i]? = some v ∧ Dq F v d
  | _, _, _, _, .nil, e => by simp at e
  | _, _, 0, _, .cons h _, e => by simp at e; subst e; exact ⟨_, rfl, h⟩
  | _, _, i + 1, d, .cons _ h, e => by
    obtain ⟨v, h1, h2⟩ := DqAll.get (i := i) h (by simpa using e)
    exact ⟨v, by simpa using h1, h2⟩
theorem DqAll.append {F : Hp} : ∀ {vs ws : List V} {ds es : List PyData}, DqAll F vs ds → DqAll F ws es → DqAll F (vs ++ ws) (ds ++ es)
  | _, _, _, _, .nil, s => s
  | _, _, _, _, .cons r t, s => .cons r (DqAll.append t s)
theorem DqAll.take {F : Hp} : ∀ {vs : List V} {ds : List PyData} (n : Nat), DqAll F vs ds → DqAll F (vs.take n) (ds.take n)
  | _, _, 0, _ => .nil
  | _, _, _ + 1, .nil => .nil
  | _, _, n + 1, .cons r t => .cons r (DqAll.take n t)
theorem DqAll.drop {F : Hp} : ∀ {vs : List V} {ds : List PyData} (n : Nat), DqAll F vs ds → DqAll F (vs.drop n) (ds.drop n)
  | _, _, 0, r => r
  | _, _, _ + 1, .nil => .nil
  | _, _, n + 1, .cons _ t => DqAll.drop n t
theorem DqAll.set {F : Hp} {v : V} {d : PyData} (h : Dq F v d) : ∀ {vs : List V} {ds : List PyData} (i : Nat), DqAll F vs ds → DqAll F (vs.set i v) (ds.set i d)
  | _, _, _, .nil => .nil
  | _, _, 0, .cons _ t => .cons h t
  | _, _, i + 1, .cons r t => .cons r (DqAll.set h i t)
theorem DqAll.ints {F : Hp} : ∀ ns : List Int, DqAll F (ns.map V.int) (ns.map PyData.int)
  | [] => .nil
  | n :: ns => .cons (.int n) (DqAll.ints ns)

def isNone : PyData → Bool
  | .none => true
  | _ => false
/-! ### relations that grow with the frozen part -/
structure Rel where
  p : Hp → V → Prop
  mono : ∀ {F F' : Hp} {v : V}, Same F F' → p F v → p F' v
def dR (d : PyData) : Rel := ⟨fun F v => Dq F v d, fun e h => Dq.mono e d _ h⟩
abbrev dI (i : Int) : Rel := dR (.int i)
abbrev dB (b : Bool) : Rel := dR (.bool b)
def rEx {α : Sort _} (R : α → Rel) : Rel := ⟨fun F v => ∃ x, (R x).p F v, fun e h => let ⟨x, q⟩ := h; ⟨x, (R x).mono e q⟩⟩
def Rel.le (R S : Rel) : Prop := ∀ F v, R.p F v → S.p F v
theorem Rel.le_refl (R : Rel) : R.le R := fun _ _ h => h
inductive RAll (F : Hp) : List V → List Rel → Prop
  | nil : RAll F [] []
  | cons {v : V} {vs : List V} {R : Rel} {Rs : List Rel} : R.p F v → RAll F vs Rs → RAll F (v :: vs) (R :: Rs)
theorem RAll.mono {F F' : Hp} (e : Same F F') : ∀ {vs : List V} {Rs : List Rel}, RAll F vs Rs → RAll F' vs Rs
  | _, _, .nil => .nil
  | _, R :: _, .cons h t => .cons (R.mono e h) (RAll.mono e t)
theorem RAll.length {F : Hp} : ∀ {vs : List V} {Rs : List Rel}, RAll F vs Rs → vs.length = Rs.length
  | _, _, .nil => rfl
  | _, _, .cons _ h => by rw [List.length_cons, List.length_cons, RAll.length h]
theorem RAll.get {F : Hp} : ∀ {vs : List V} {Rs : List Rel} {i : Nat} {R : Rel}, RAll F vs Rs → Rs[i]? = some R → ∃ v, vs[i]? = some v ∧ R.p F v
  | _, _, _, _, .nil, e => by simp at e
  | _, _, 0, _, .cons h _, e => by simp at e; subst e; exact ⟨_, rfl, h⟩
  | _, _, i + 1, d, .cons _ h, e => by
    obtain ⟨v, h1, h2⟩ := RAll.get (i := i) h (by simpa using e)
    exact ⟨v, by simpa using h1, h2⟩
theorem RAll.append {F : Hp} : ∀ {vs ws : List V} {ds es : List Rel}, RAll F vs ds → RAll F ws es → RAll F (vs ++ ws) (ds ++ es)
  | _, _, _, _, .nil, s => s
  | _, _, _, _, .cons r t, s => .cons r (RAll.append t s)
theorem RAll.of_data {F : Hp} : ∀ {vs : List V} {ds : List PyData}, DqAll F vs ds → RAll F vs (ds.map dR)
  | _, _, .nil => .nil
  | _, _, .cons h t => .cons h (RAll.of_data t)
theorem RAll.data {F : Hp} : ∀ {vs : List V} {ds : List PyData}, RAll F vs (ds.map dR) → DqAll F vs ds
  | _, [], .nil => .nil
  | _, d :: ds, h => by
    cases h with
    | cons h t => exact .cons h (RAll.data t)
/-- a list, a tuple of such -/
def rLs (Rs : List Rel) : Rel := ⟨fun F v => ∃ a vs, v = .ref a ∧ F a = some (.lst vs) ∧ RAll F vs Rs, fun e h => let ⟨a, vs, h1, h2, h3⟩ := h; ⟨a, vs, h1, e _ _ h2, h3.mono e⟩⟩
def rTs (Rs : List Rel) : Rel := ⟨fun F v => ∃ a vs, v = .ref a ∧ F a = some (.tup vs) ∧ RAll F vs Rs, fun e h => let ⟨a, vs, h1, h2, h3⟩ := h; ⟨a, vs, h1, e _ _ h2, h3.mono e⟩⟩
theorem rLs_data (ds : List PyData) : (rLs (ds.map dR)).le (dR (.list ds)) := fun F v ⟨a, vs, h1, h2, h3⟩ => by
  subst h1
  exact .lst h2 h3.data
theorem data_rLs (ds : List PyData) : (dR (.list ds)).le (rLs (ds.map dR)) := fun F v h => by
  cases h with
  | lst h1 h2 => exact ⟨_, _, rfl, h1, .of_data h2⟩
theorem rTs_data (ds : List PyData) : (rTs (ds.map dR)).le (dR (.tuple ds)) := fun F v ⟨a, vs, h1, h2, h3⟩ => by
  subst h1
  exact .tup h2 h3.data
theorem data_rTs (ds : List PyData) : (dR (.tuple ds)).le (rTs (ds.map dR)) := fun F v h => by
  cases h with
  | tup h1 h2 => exact ⟨_, _, rfl, h1, .of_data h2⟩

/-! ### steps of the heap -/
/-- from (F, H) to (F', H'): all of H but what M names stays; F' holds F, stands in H', and names nothing more of what stood in H -/
structure Gr (M : Addr → Prop) (F H F' H' : Hp) : Prop where
  ext : ∀ a o, ¬ M a → H a = some o → H' a = some o
  keep : ∀ a, H a ≠ none → H' a ≠ none
  fe : Same F F'
  fh : Same F' H'
  sep : ∀ a, F a = none → F' a ≠ none → H a = none
  exts : ∀ a φ, H a = some (.ext φ) → H' a = some (.ext φ)
theorem Gr.trans {M : Addr → Prop} {F H F1 H1 F2 H2 : Hp} (a : Gr M F H F1 H1) (b : Gr M F1 H1 F2 H2) : Gr M F H F2 H2 where
  ext := fun x o m h => b.ext x o m (a.ext x o m h)
  keep := fun x h => b.keep x (a.keep x h)
  fe := a.fe.trans b.fe
  fh := b.fh
  sep := fun x h1 h2 => by
    by_cases q : F1 x = none
    · have n1 := b.sep x q h2
      cases e : H x with
      | none => rfl
      | some o => exact absurd n1 (a.keep x (by rw [e]; exact fun z => by cases z))
    · exact a.sep x h1 q
  exts := fun x φ h => b.exts x φ (a.exts x φ h)
theorem Gr.refl {M : Addr → Prop} {F H : Hp} (h : Same F H) : Gr M F H F H := ⟨fun _ _ _ e => e, fun _ e => e, Same.refl F, h, fun _ h1 h2 => absurd h1 h2, fun _ _ e => e⟩
abbrev No : Addr → Prop := fun _ => False
theorem Gr.of0 {M : Addr → Prop} {F H F' H' : Hp} (g : Gr No F H F' H') : Gr M F H F' H' := ⟨fun a o _ h => g.ext a o (fun z => z) h, g.keep, g.fe, g.fh, g.sep, g.exts⟩
theorem Gr.mono {M N : Addr → Prop} {F H F' H' : Hp} (g : Gr M F H F' H') (h : ∀ a, M a → N a) : Gr N F H F' H' := ⟨fun a o n e => g.ext a o (fun z => n (h a z)) e, g.keep, g.fe, g.fh, g.sep, g.exts⟩
/-- a new object is laid and frozen -/
theorem Gr.new {M : Addr → Prop} {F H : Hp} {p : Addr} {o : HO} (h : Same F H) (hp : H p = none) : Gr M F H (upd F p o) (upd H p o) where
  ext := fun a u _ e => by rw [upd_ne (ne_of_none e hp)]; exact e
  keep := fun a e => by
    by_cases q : a = p
    · rw [q, upd_same]; exact fun z => by cases z
    · rw [upd_ne q]; exact e
  fe := fun a u e => by rw [upd_ne (ne_of_none (h a u e) hp)]; exact e
  fh := fun a u e => by
    by_cases q : a = p
    · rw [q, upd_same] at e
      rw [q, upd_same]; exact e
    · rw [upd_ne q] at e
      rw [upd_ne q]; exact h a u e
  sep := fun a h1 h2 => by
    by_cases q : a = p
    · rw [q]; exact hp
    · rw [upd_ne q] at h2; exact absurd h1 h2
  exts := fun a φ e => by rw [upd_ne (ne_of_none e hp)]; exact e
/-- a new object is laid, not frozen -/
theorem Gr.lay {M : Addr → Prop} {F H : Hp} {p : Addr} {o : HO} (h : Same F H) (hp : H p = none) : Gr M F H F (upd H p o) where
  ext := fun a u _ e => by rw [upd_ne (ne_of_none e hp)]; exact e
  keep := fun a e => by
    by_cases q : a = p
    · rw [q, upd_same]; exact fun z => by cases z
    · rw [upd_ne q]; exact e
  fe := Same.refl F
  fh := fun a u e => by rw [upd_ne (ne_of_none (h a u e) hp)]; exact h a u e
  sep := fun a h1 h2 => absurd h1 h2
  exts := fun a φ e => by rw [upd_ne (ne_of_none e hp)]; exact e

/-! ### environments -/
/-- what any step may change besides (tables of code objects), and what holds of it -/
structure Glob where
  A : Addr → Prop
  I : Hp → Prop
  mono : ∀ {H H' : Hp}, I H → (∀ a φ, H a = some (.ext φ) → H' a = some (.ext φ)) → (∀ a, A a → H' a = H a) → I H'
/-- nothing besides -/
def Glob.no : Glob := ⟨No, fun _ => True, fun _ _ _ => trivial⟩

inductive Slot where
  | un
  | rel (R : Rel)
  | own (ds : List PyData)
  | mvl (sh : HO → Prop)
def Slot.ok (F H : Hp) (x : Option (Option V)) : Slot → Prop
  | .un => True
  | .rel R => ∃ v, x = some (some v) ∧ R.p F v
  | .own ds => ∃ p vs, x = some (some (.ref p)) ∧ H p = some (.lst vs) ∧ F p = none ∧ DqAll F vs ds
  | .mvl sh => ∃ p o, x = some (some (.ref p)) ∧ H p = some o ∧ F p = none ∧ sh o ∧ ∀ ps, o ≠ .tbl ps
def Slot.mine : Slot → Prop
  | .own _ => True
  | .mvl _ => True
  | _ => False
def MutAt (ρ : List Slot) (σ : St) (a : Addr) : Prop := ∃ (i : Nat) (sh : HO → Prop), ρ[i]? = some (.mvl sh) ∧ σ[i]? = some (some (.ref a))
structure EnvOk (G : Glob) (ρ : List Slot) (F H : Hp) (σ : St) : Prop where
  sub : Same F H
  len : σ.length = ρ.length
  at_ : ∀ (i : Nat) (s : Slot), ρ[i]? = some s → s.ok F H σ[i]?
  dj : ∀ (i j : Nat) (s s' : Slot) (a : Addr), ρ[i]? = some s → ρ[j]? = some s' → s.mine → s'.mine → σ[i]? = some (some (.ref a)) → σ[j]? = some (some (.ref a)) → i = j
  glob : G.I H
  tab : ∀ a, G.A a → F a = none ∧ ∃ ps, H a = some (.tbl ps)
abbrev Ch (G : Glob) (ρ : List Slot) (σ : St) : Addr → Prop := fun a => MutAt ρ σ a ∨ G.A a
section
variable {G : Glob} {ρ : List Slot} {F H F' H' : Hp} {σ : St}
/-- a slot, when the heap grows and its own object stays -/
theorem Slot.ok.grow {M : Addr → Prop} {x : Option (Option V)} {s : Slot} (g : Gr M F H F' H') (h : s.ok F H x) (hm : ∀ p, s.mine → x = some (some (.ref p)) → ¬ M p) : s.ok F' H' x := by
  have un : ∀ p, F p = none → H p ≠ none → F' p = none := fun p h1 h2 => by
    by_cases q : F' p = none
    · exact q
    · exact absurd (g.sep p h1 q) h2
  cases s with
  | un => trivial
  | rel R =>
    obtain ⟨v, e, q⟩ := h
    exact ⟨v, e, R.mono g.fe q⟩
  | own ds =>
    obtain ⟨p, vs, e, hp, fp, q⟩ := h
    exact ⟨p, vs, e, g.ext p _ (hm p trivial e) hp, un p fp (by rw [hp]; exact fun z => by cases z), DqAll.mono g.fe _ _ q⟩
  | mvl sh =>
    obtain ⟨p, o, e, hp, fp, q, nt⟩ := h
    exact ⟨p, o, e, g.ext p _ (hm p trivial e) hp, un p fp (by rw [hp]; exact fun z => by cases z), q, nt⟩
theorem EnvOk.grow0 (E : EnvOk G ρ F H σ) (g : Gr No F H F' H') : EnvOk G ρ F' H' σ := by
  have un : ∀ p, F p = none → H p ≠ none → F' p = none := fun p h1 h2 => by
    by_cases q : F' p = none
    · exact q
    · exact absurd (g.sep p h1 q) h2
  have tb : ∀ a, G.A a → F' a = none ∧ ∃ ps, H' a = some (.tbl ps) := fun a ha => by
    obtain ⟨h1, ps, h2⟩ := E.tab a ha
    exact ⟨un a h1 (by rw [h2]; exact fun z => by cases z), ps, g.ext a _ (fun z => z) h2⟩
  refine ⟨g.fh, E.len, fun i s e => (E.at_ i s e).grow g fun _ _ _ z => z, E.dj, G.mono E.glob g.exts (fun a ha => ?_), tb⟩
  obtain ⟨h1, ps, h2⟩ := E.tab a ha
  rw [h2]
  exact g.ext a _ (fun z => z) h2
theorem EnvOk.mutNot (E : EnvOk G ρ F H σ) {a : Addr} (h : MutAt ρ σ a) : F a = none ∧ (∃ o, H a = some o) ∧ ¬ G.A a := by
  obtain ⟨i, sh, h1, h2⟩ := h
  obtain ⟨p, o, e, hp, fp, q, nt⟩ := E.at_ i _ h1
  rw [h2] at e
  cases e
  refine ⟨fp, ⟨o, hp⟩, fun ha => ?_⟩
  obtain ⟨_, ps, h3⟩ := E.tab a ha
  rw [hp] at h3
  exact nt ps (Option.some.inj h3)
end

/-! ### what an expression is worth -/
def Ev (G : Glob) (te : TE) (ρ : List Slot) (R : Rel) : Prop := ∀ (F H : Hp) (σ : St), EnvOk G ρ F H σ → ∀ Q : VK, (∀ F' H' v, Gr (Ch G ρ σ) F H F' H' → EnvOk G ρ F' H' σ → R.p F' v → Q v H') → te σ H Q
def EvT (G : Glob) (tt : TT) (ρ : List Slot) (b : Bool) : Prop := ∀ (F H : Hp) (σ : St), EnvOk G ρ F H σ → ∀ Q : Bool → Hp → Prop, (∀ F' H', Gr (Ch G ρ σ) F H F' H' → EnvOk G ρ F' H' σ → Q b H') → tt σ H Q
/-- an argument list of plain values -/
def EvA (G : Glob) (ta : TA) (ρ : List Slot) (Rs : List Rel) : Prop := ∀ (F H : Hp) (σ : St), EnvOk G ρ F H σ → ∀ Q : List V → Hp → Prop, (∀ F' H' vs, Gr (Ch G ρ σ) F H F' H' → EnvOk G ρ F' H' σ → RAll F' vs Rs → Q vs H') → ta σ H Q
/-- an operation on values -/
def OpD (r : R2) (Ra Rb R : Rel) : Prop := ∀ (F H : Hp) (x y : V), Same F H → Ra.p F x → Rb.p F y → ∀ Q : VK, (∀ F' H' v, Gr No F H F' H' → R.p F' v → Q v H') → r x y H Q
def UnD (r : V → Hp → VK → Prop) (Ra R : Rel) : Prop := ∀ (F H : Hp) (x : V), Same F H → Ra.p F x → ∀ Q : VK, (∀ F' H' v, Gr No F H F' H' → R.p F' v → Q v H') → r x H Q
def CallD (r : List V → Hp → VK → Prop) (Rs : List Rel) (R : Rel) : Prop := ∀ (F H : Hp) (vs : List V), Same F H → RAll F vs Rs → ∀ Q : VK, (∀ F' H' v, Gr No F H F' H' → R.p F' v → Q v H') → r vs H Q
section
variable {G : Glob} {ρ : List Slot} {te ta tb : TE} {tt t u : TT} {R Ra Rb S : Rel} {r : R2}
theorem Ev.le (h : Ev G te ρ R) (e : R.le S) : Ev G te ρ S := fun F H σ E Q q => h F H σ E Q fun F' H' v g E' hv => q F' H' v g E' (e F' v hv)
theorem Ev.to (h : Ev G te ρ R) (e : R = S) : Ev G te ρ S := e ▸ h
theorem ev_var {i : Nat} (h : ρ[i]? = some (.rel R)) : Ev G (tVar i) ρ R := fun F H σ E Q q => by
  obtain ⟨v, e, hv⟩ := E.at_ i _ h
  exact ⟨v, e, q F H v (Gr.refl E.sub) E hv⟩
theorem ev_int {i : Int} : Ev G (tC (.int i)) ρ (dI i) := fun F H σ E Q q => q F H _ (Gr.refl E.sub) E (.int i)
theorem ev_bl {b : Bool} : Ev G (tC (.bl b)) ρ (dB b) := fun F H σ E Q q => q F H _ (Gr.refl E.sub) E (.bl b)
theorem ev_str {x : Str} : Ev G (tC (.str x)) ρ (dR (.str x)) := fun F H σ E Q q => q F H _ (Gr.refl E.sub) E (.str x)
theorem ev_non : Ev G (tC .non) ρ (dR .none) := fun F H σ E Q q => q F H _ (Gr.refl E.sub) E .non
theorem ev_op (ha : Ev G ta ρ Ra) (hb : Ev G tb ρ Rb) (hr : OpD r Ra Rb R) : Ev G (tOp r ta tb) ρ R := fun F H σ E Q q =>
  ha F H σ E _ fun F1 H1 x g1 E1 hx => hb F1 H1 σ E1 _ fun F2 H2 y g2 E2 hy => hr F2 H2 x y E2.sub (Ra.mono g2.fe hx) hy Q fun F3 H3 v g3 hv =>
    q F3 H3 v ((g1.trans g2).trans g3.of0) (E2.grow0 g3) hv
theorem ev_un {r : V → Hp → VK → Prop} (ha : Ev G ta ρ Ra) (hr : UnD r Ra R) : Ev G (tUn r ta) ρ R := fun F H σ E Q q =>
  ha F H σ E _ fun F1 H1 x g1 E1 hx => hr F1 H1 x E1.sub hx Q fun F3 H3 v g3 hv => q F3 H3 v (g1.trans g3.of0) (E1.grow0 g3) hv
theorem ea_nil : EvA G tNil ρ [] := fun F H σ E Q q => q F H [] (Gr.refl E.sub) E .nil
theorem ea_cons {tr : TA} {Rs : List Rel} (h : Ev G ta ρ R) (hr : EvA G tr ρ Rs) : EvA G (tCons ta tr) ρ (R :: Rs) := fun F H σ E Q q =>
  h F H σ E _ fun F1 H1 x g1 E1 hx => hr F1 H1 σ E1 _ fun F2 H2 xs g2 E2 hxs => q F2 H2 (x :: xs) (g1.trans g2) E2 (.cons (R.mono g2.fe hx) hxs)
theorem ev_cb {rc : List V → Hp → VK → Prop} {tas : TA} {Rs : List Rel} (ha : EvA G tas ρ Rs) (hr : CallD rc Rs R) : Ev G (tCB rc tas) ρ R := fun F H σ E Q q =>
  ha F H σ E _ fun F1 H1 vs g1 E1 hx => hr F1 H1 vs E1.sub hx Q fun F3 H3 v g3 hv => q F3 H3 v (g1.trans g3.of0) (E1.grow0 g3) hv
/-- displays -/
theorem ev_lst {tas : TA} {Rs : List Rel} (ha : EvA G tas ρ Rs) (hz : Rs.length ≤ 1000) : Ev G (tLst tas) ρ (rLs Rs) := fun F H σ E Q q =>
  ha F H σ E _ fun F1 H1 vs g1 E1 hx => ⟨by rw [hx.length]; exact Nat.le_of_lt (small1000 hz), fun p hp => by
    have g : Gr No F1 H1 (upd F1 p (.lst vs)) (upd H1 p (.lst vs)) := Gr.new E1.sub hp
    exact q _ _ _ (g1.trans g.of0) (E1.grow0 g) ⟨p, vs, rfl, upd_same, hx.mono g.fe⟩⟩
theorem ev_tup {tas : TA} {Rs : List Rel} (ha : EvA G tas ρ Rs) (hz : Rs.length ≤ 1000) : Ev G (tTup tas) ρ (rTs Rs) := fun F H σ E Q q =>
  ha F H σ E _ fun F1 H1 vs g1 E1 hx => ⟨by rw [hx.length]; exact Nat.le_of_lt (small1000 hz), fun p hp => by
    have g : Gr No F1 H1 (upd F1 p (.tup vs)) (upd H1 p (.tup vs)) := Gr.new E1.sub hp
    exact q _ _ _ (g1.trans g.of0) (E1.grow0 g) ⟨p, vs, rfl, upd_same, hx.mono g.fe⟩⟩
theorem ev_lstD {tas : TA} {ds : List PyData} (ha : EvA G tas ρ (ds.map dR)) (hz : ds.length ≤ 1000) : Ev G (tLst tas) ρ (dR (.list ds)) := (ev_lst ha (by rw [List.length_map]; exact hz)).le (rLs_data ds)
theorem ev_tupD {tas : TA} {ds : List PyData} (ha : EvA G tas ρ (ds.map dR)) (hz : ds.length ≤ 1000) : Ev G (tTup tas) ρ (dR (.tuple ds)) := (ev_tup ha (by rw [List.length_map]; exact hz)).le (rTs_data ds)
/-! ### tests -/
theorem et_test {b : Bool} (h : Ev G te ρ (dB b)) : EvT G (tTest te) ρ b := fun F H σ E Q q => h F H σ E _ fun F' H' v g E' hv => by
  cases hv
  exact ⟨b, rfl, q F' H' g E'⟩
theorem et_B {b : Bool} (h : Ev G te ρ (dB b)) : EvT G (tB te) ρ b := fun F H σ E Q q => h F H σ E _ fun F' H' v g E' hv => by
  cases hv
  exact ⟨b, rfl, q F' H' g E'⟩
theorem et_and {a b : Bool} (h1 : EvT G t ρ a) (h2 : a = true → EvT G u ρ b) : EvT G (tAnd t u) ρ (a && b) := fun F H σ E Q q => h1 F H σ E _ fun F1 H1 g1 E1 => by
  cases a with
  | true =>
    show u σ H1 Q
    exact h2 rfl F1 H1 σ E1 Q fun F2 H2 g2 E2 => q F2 H2 (g1.trans g2) E2
  | false =>
    show Q false H1
    exact q F1 H1 g1 E1
theorem et_or {a b : Bool} (h1 : EvT G t ρ a) (h2 : a = false → EvT G u ρ b) : EvT G (tOr t u) ρ (a || b) := fun F H σ E Q q => h1 F H σ E _ fun F1 H1 g1 E1 => by
  cases a with
  | true =>
    show Q true H1
    exact q F1 H1 g1 E1
  | false =>
    show u σ H1 Q
    exact h2 rfl F1 H1 σ E1 Q fun F2 H2 g2 E2 => q F2 H2 (g1.trans g2) E2
theorem et_not {a : Bool} (h1 : EvT G t ρ a) : EvT G (tNot t) ρ (!a) := fun F H σ E Q q => h1 F H σ E _ fun F1 H1 g1 E1 => q F1 H1 g1 E1
theorem EvT.to {a b : Bool} (h : EvT G t ρ a) (e : a = b) : EvT G t ρ b := e ▸ h
theorem ev_if {b : Bool} (h : EvT G t ρ b) (h1 : b = true → Ev G ta ρ R) (h2 : b = false → Ev G tb ρ R) : Ev G (tIf t ta tb) ρ R := fun F H σ E Q q => h F H σ E _ fun F1 H1 g1 E1 => by
  cases b with
  | true =>
    show ta σ H1 Q
    exact h1 rfl F1 H1 σ E1 Q fun F2 H2 v g2 E2 hv => q F2 H2 v (g1.trans g2) E2 hv
  | false =>
    show tb σ H1 Q
    exact h2 rfl F1 H1 σ E1 Q fun F2 H2 v g2 E2 hv => q F2 H2 v (g1.trans g2) E2 hv
theorem ev_andV {a b : Bool} (h1 : Ev G ta ρ (dB a)) (h2 : a = true → Ev G tb ρ (dB b)) : Ev G (tAndV ta tb) ρ (dB (a && b)) := fun F H σ E Q q => h1 F H σ E _ fun F1 H1 v1 g1 E1 hv1 => by
  cases hv1
  refine ⟨a, rfl, ?_⟩
  cases a with
  | true =>
    show tb σ H1 Q
    exact h2 rfl F1 H1 σ E1 Q fun F2 H2 v g2 E2 hv => q F2 H2 v (g1.trans g2) E2 hv
  | false =>
    show Q (.bl false) H1
    exact q F1 H1 _ g1 E1 (.bl false)
theorem ev_orV {a b : Bool} (h1 : Ev G ta ρ (dB a)) (h2 : a = false → Ev G tb ρ (dB b)) : Ev G (tOrV ta tb) ρ (dB (a || b)) := fun F H σ E Q q => h1 F H σ E _ fun F1 H1 v1 g1 E1 hv1 => by
  cases hv1
  refine ⟨a, rfl, ?_⟩
  cases a with
  | true =>
    show Q (.bl true) H1
    exact q F1 H1 _ g1 E1 (.bl true)
  | false =>
    show tb σ H1 Q
    exact h2 rfl F1 H1 σ E1 Q fun F2 H2 v g2 E2 hv => q F2 H2 v (g1.trans g2) E2 hv
theorem ev_notV {a : Bool} (h1 : Ev G ta ρ (dB a)) : Ev G (tNotV ta) ρ (dB (!a)) := fun F H σ E Q q => h1 F H σ E _ fun F1 H1 v1 g1 E1 hv1 => by
  cases hv1
  exact ⟨a, rfl, q F1 H1 _ g1 E1 (.bl _)⟩
end
/-! ### operations -/
theorem OpD.exR {α : Sort _} {r : R2} {Ra : Rel} {Rb R : α → Rel} (h : ∀ x, OpD r Ra (Rb x) (R x)) : OpD r Ra (rEx Rb) (rEx R) := fun F H x y s ha ⟨z, hb⟩ Q q => h z F H x y s ha hb Q fun F' H' v g hv => q F' H' v g ⟨z, hv⟩
theorem OpD.exL {α : Sort _} {r : R2} {Rb : Rel} {Ra R : α → Rel} (h : ∀ x, OpD r (Ra x) Rb (R x)) : OpD r (rEx Ra) Rb (rEx R) := fun F H x y s ⟨z, ha⟩ hb Q q => h z F H x y s ha hb Q fun F' H' v g hv => q F' H' v g ⟨z, hv⟩
theorem OpD.le {r : R2} {Ra Rb R Ra' Rb' R' : Rel} (h : OpD r Ra Rb R) (ea : Ra'.le Ra) (eb : Rb'.le Rb) (e : R.le R') : OpD r Ra' Rb' R' := fun F H x y s ha hb Q q => h F H x y s (ea _ _ ha) (eb _ _ hb) Q fun F' H' v g hv => q F' H' v g (e _ _ hv)
theorem OpD.inl {r r' : R2} {Ra Rb R : Rel} (h : OpD r Ra Rb R) : OpD (fun x y H Q => r x y H Q ∨ r' x y H Q) Ra Rb R := fun F H x y s ha hb Q q => .inl (h F H x y s ha hb Q q)
theorem OpD.inr {r r' : R2} {Ra Rb R : Rel} (h : OpD r' Ra Rb R) : OpD (fun x y H Q => r x y H Q ∨ r' x y H Q) Ra Rb R := fun F H x y s ha hb Q q => .inr (h F H x y s ha hb Q q)
theorem od_I0 {g : Int → Int → V} {i j : Int} {d : PyData} (h : ∀ F, Dq F (g i j) d) : OpD (rI0 g) (dI i) (dI j) (dR d) := fun F H x y s ha hb Q q => by
  cases ha
  cases hb
  exact ⟨i, j, rfl, rfl, q F H _ (Gr.refl s) (h F)⟩
theorem od_I {C : Int → Int → Prop} {g : Int → Int → V} {i j : Int} {d : PyData} (hc : C i j) (h : ∀ F, Dq F (g i j) d) : OpD (rI C g) (dI i) (dI j) (dR d) := fun F H x y s ha hb Q q => by
  cases ha
  cases hb
  exact ⟨i, j, rfl, rfl, hc, q F H _ (Gr.refl s) (h F)⟩
theorem od_add {i j : Int} : OpD (rI0 fun i j => .int (i + j)) (dI i) (dI j) (dI (i + j)) := od_I0 fun F => .int _
theorem od_sub {i j : Int} : OpD (rI0 fun i j => .int (i - j)) (dI i) (dI j) (dI (i - j)) := od_I0 fun F => .int _
theorem od_lt {i j : Int} : OpD (rI0 fun i j => .bl (decide (i < j))) (dI i) (dI j) (dB (decide (i < j))) := od_I0 fun F => .bl _
theorem od_le {i j : Int} : OpD (rI0 fun i j => .bl (decide (i ≤ j))) (dI i) (dI j) (dB (decide (i ≤ j))) := od_I0 fun F => .bl _
theorem od_gt {i j : Int} : OpD (rI0 fun i j => .bl (decide (j < i))) (dI i) (dI j) (dB (decide (j < i))) := od_I0 fun F => .bl _
theorem od_ge {i j : Int} : OpD (rI0 fun i j => .bl (decide (j ≤ i))) (dI i) (dI j) (dB (decide (j ≤ i))) := od_I0 fun F => .bl _
theorem od_isN {d : PyData} : OpD (fun x y H Q => y = .non ∧ Q (.bl (decide (x = .non))) H) (dR d) (dR .none) (dB (isNone d)) := fun F H x y s ha hb Q q => by
  cases hb
  refine ⟨rfl, q F H _ (Gr.refl s) ?_⟩
  cases ha <;> exact .bl _
theorem od_notN {d : PyData} : OpD (fun x y H Q => y = .non ∧ Q (.bl (!decide (x = .non))) H) (dR d) (dR .none) (dB (!isNone d)) := fun F H x y s ha hb Q q => by
  cases hb
  refine ⟨rfl, q F H _ (Gr.refl s) ?_⟩
  cases ha <;> exact .bl _
end Dx
set_option Elab.async false
set_option linter.all false
set_option maxRecDepth 100000
/-! DxStm: iterables, comprehensions, statements, calls over environments of slots. -/
namespace Dx
open PySem L2

section
variable {G : Glob} {ρ ρ1 ρ2 : List Slot} {F H F' H' F1 H1 F2 H2 F3 H3 : Hp} {σ σ1 σ2 : St}
/-! ### environments: more -/
theorem EnvOk.mineAt (E : EnvOk G ρ F H σ) {i : Nat} {s : Slot} {a : Addr} (h : ρ[i]? = some s) (m : s.mine) (ha : σ[i]? = some (some (.ref a))) : F a = none ∧ (∃ o, H a = some o ∧ ∀ ps, o ≠ .tbl ps) ∧ ¬ G.A a := by
  have key : F a = none ∧ ∃ o, H a = some o ∧ ∀ ps, o ≠ .tbl ps := by
    have q := E.at_ i s h
    cases s with
    | un => exact m.elim
    | rel R => exact m.elim
    | own ds =>
      obtain ⟨p, vs, e, hp, fp, _⟩ := q
      rw [ha] at e; cases e
      exact ⟨fp, _, hp, fun ps z => by cases z⟩
    | mvl sh =>
      obtain ⟨p, o, e, hp, fp, _, nt⟩ := q
      rw [ha] at e; cases e
      exact ⟨fp, o, hp, nt⟩
  refine ⟨key.1, key.2, fun hA => ?_⟩
  obtain ⟨o, ho, nt⟩ := key.2
  obtain ⟨_, ps, h2⟩ := E.tab a hA
  rw [ho] at h2
  exact nt ps (Option.some.inj h2)
theorem Gr.un {M : Addr → Prop} (g : Gr M F H F' H') {p : Addr} (h1 : F p = none) (h2 : H p ≠ none) : F' p = none := by
  by_cases q : F' p = none
  · exact q
  · exact absurd (g.sep p h1 q) h2
/-- back to the names around a block, or behind a change of names -/
theorem EnvOk.restore (E : EnvOk G ρ F H σ) (E2 : EnvOk G ρ2 F3 H3 σ2) (e : Same F F3) (h : ∀ (i : Nat) (s : Slot), ρ[i]? = some s → s.mine → ρ2[i]? = some s ∧ σ2[i]? = σ[i]?) : EnvOk G ρ F3 H3 σ := by
  refine ⟨E2.sub, E.len, fun i s hs => ?_, E.dj, E2.glob, E2.tab⟩
  have q := E.at_ i s hs
  cases s with
  | un => trivial
  | rel R =>
    obtain ⟨v, e1, e2⟩ := q
    exact ⟨v, e1, R.mono e e2⟩
  | own ds =>
    obtain ⟨h1, h2⟩ := h i _ hs trivial
    have q2 := E2.at_ i _ h1
    rw [h2] at q2
    exact q2
  | mvl sh =>
    obtain ⟨h1, h2⟩ := h i _ hs trivial
    have q2 := E2.at_ i _ h1
    rw [h2] at q2
    exact q2
/-- an object that no slot owns is changed -/
theorem EnvOk.updOther (E : EnvOk G ρ F H σ) {D : Addr} {o : HO} (fD : F D = none) (hD : ∀ (i : Nat) (s : Slot), ρ[i]? = some s → s.mine → σ[i]? ≠ some (some (.ref D))) (hA : ¬ G.A D) (hx : ∀ φ, H D ≠ some (.ext φ)) : EnvOk G ρ F (upd H D o) σ := by
  refine ⟨fun a u q => by rw [upd_ne (fun z => by rw [z, fD] at q; cases q)]; exact E.sub a u q, E.len, fun i s hs => ?_, E.dj, ?_, fun a ha => ?_⟩
  · have q := E.at_ i s hs
    cases s with
    | un => trivial
    | rel R => exact q
    | own ds =>
      obtain ⟨p, vs, e, hp, fp, hd⟩ := q
      exact ⟨p, vs, e, by rw [upd_ne (fun z => hD i _ hs trivial (by rw [e, z]))]; exact hp, fp, hd⟩
    | mvl sh =>
      obtain ⟨p, u, e, hp, fp, hd⟩ := q
      exact ⟨p, u, e, by rw [upd_ne (fun z => hD i _ hs trivial (by rw [e, z]))]; exact hp, fp, hd⟩
  · exact G.mono E.glob (fun a φ q => by rw [upd_ne (fun z => hx φ (by rw [← z]; exact q))]; exact q) (fun a ha => upd_ne (fun z => hA (z ▸ ha)))
  · obtain ⟨h1, ps, h2⟩ := E.tab a ha
    have hne : a ≠ D := fun z => hA (by rw [← z]; exact ha)
    exact ⟨h1, ps, by rw [upd_ne hne]; exact h2⟩
/-- an object that no slot owns is frozen -/
theorem EnvOk.freeze (E : EnvOk G ρ F H σ) {D : Addr} {o : HO} (hD : H D = some o) (fD : F D = none) (hn : ∀ (i : Nat) (s : Slot), ρ[i]? = some s → s.mine → σ[i]? ≠ some (some (.ref D))) (hA : ¬ G.A D) : EnvOk G ρ (upd F D o) H σ := by
  have sm : Same F (upd F D o) := fun a u q => by rw [upd_ne (ne_of_none q fD)]; exact q
  have un : ∀ p, p ≠ D → F p = none → upd F D o p = none := fun p h1 h2 => by rw [upd_ne h1]; exact h2
  refine ⟨fun a u q => ?_, E.len, fun i s hs => ?_, E.dj, ?_, fun a ha => ?_⟩
  · by_cases z : a = D
    · rw [z, upd_same] at q
      rw [z, hD]; exact q
    · rw [upd_ne z] at q
      exact E.sub a u q
  · have q := E.at_ i s hs
    cases s with
    | un => trivial
    | rel R =>
      obtain ⟨v, e1, e2⟩ := q
      exact ⟨v, e1, R.mono sm e2⟩
    | own ds =>
      obtain ⟨p, vs, e, hp, fp, hd⟩ := q
      exact ⟨p, vs, e, hp, un p (fun z => hn i _ hs trivial (by rw [e, z])) fp, DqAll.mono sm _ _ hd⟩
    | mvl sh =>
      obtain ⟨p, u, e, hp, fp, hd⟩ := q
      exact ⟨p, u, e, hp, un p (fun z => hn i _ hs trivial (by rw [e, z])) fp, hd⟩
  · exact E.glob
  · obtain ⟨h1, ps, h2⟩ := E.tab a ha
    exact ⟨un a (fun z => hA (z ▸ ha)) h1, ps, h2⟩
theorem EnvOk.newNot (E : EnvOk G ρ F H σ) {D : Addr} (h : H D = none) : F D = none ∧ (∀ (i : Nat) (s : Slot), ρ[i]? = some s → s.mine → σ[i]? ≠ some (some (.ref D))) ∧ ¬ G.A D ∧ ¬ Ch G ρ σ D := by
  have hA : ¬ G.A D := fun z => by
    obtain ⟨_, ps, q⟩ := E.tab D z
    rw [h] at q; cases q
  refine ⟨?_, fun i s hs m e => ?_, hA, fun z => ?_⟩
  · cases q : F D with
    | none => rfl
    | some o =>
      have := E.sub D o q
      rw [h] at this; cases this
  · obtain ⟨_, ⟨o, q, _⟩, _⟩ := E.mineAt hs m e
    rw [h] at q; cases q
  · rcases z with z | z
    · obtain ⟨_, ⟨o, q⟩, _⟩ := E.mutNot z
      rw [h] at q; cases q
    · exact hA z
/-- a name is given a value -/
theorem EnvOk.set (E : EnvOk G ρ F H σ) {R : Rel} {v : V} (i : Nat) (hv : R.p F v) : EnvOk G (ρ.set i (.rel R)) F H (σ.set i (some v)) := by
  have nm : ∀ (j : Nat) (s : Slot), (ρ.set i (.rel R))[j]? = some s → s.mine → j ≠ i ∧ ρ[j]? = some s ∧ (σ.set i (some v))[j]? = σ[j]? := fun j s hs m => by
    have hj : j ≠ i := fun z => by
      subst z
      by_cases hl : j < ρ.length
      · rw [List.getElem?_set_self hl] at hs
        cases hs
        exact m
      · rw [List.getElem?_eq_none (by simpa using hl)] at hs
        cases hs
    rw [List.getElem?_set_ne (Ne.symm hj)] at hs
    exact ⟨hj, hs, List.getElem?_set_ne (Ne.symm hj)⟩
  refine ⟨E.sub, by rw [List.length_set, List.length_set]; exact E.len, fun j s hs => ?_, fun j k s s' a h1 h2 m1 m2 e1 e2 => ?_, E.glob, E.tab⟩
  · by_cases hj : j = i
    · subst hj
      by_cases hl : j < ρ.length
      · rw [List.getElem?_set_self hl] at hs
        cases hs
        exact ⟨v, by rw [List.getElem?_set_self (by rw [E.len]; exact hl)], hv⟩
      · rw [List.getElem?_eq_none (by simpa using hl)] at hs
        cases hs
    · rw [List.getElem?_set_ne (Ne.symm hj)] at hs
      rw [List.getElem?_set_ne (Ne.symm hj)]
      exact E.at_ j s hs
  · obtain ⟨_, g1, k1⟩ := nm j s h1 m1
    obtain ⟨_, g2, k2⟩ := nm k s' h2 m2
    exact E.dj j k s s' a g1 g2 m1 m2 (by rw [← k1]; exact e1) (by rw [← k2]; exact e2)
/-- .. a list of its own, that nobody else has -/
theorem EnvOk.setOwn (E : EnvOk G ρ F H σ) {p : Addr} {vs : List V} {ds : List PyData} (i : Nat) (hp : H p = some (.lst vs)) (fp : F p = none) (hd : DqAll F vs ds) (hn : ∀ (j : Nat) (s : Slot), j ≠ i → ρ[j]? = some s → s.mine → σ[j]? ≠ some (some (.ref p))) :
    EnvOk G (ρ.set i (.own ds)) F H (σ.set i (some (.ref p))) := by
  have nm : ∀ (j : Nat) (s : Slot), j ≠ i → (ρ.set i (.own ds))[j]? = some s → ρ[j]? = some s ∧ (σ.set i (some (.ref p)))[j]? = σ[j]? := fun j s hj hs => by
    rw [List.getElem?_set_ne (Ne.symm hj)] at hs
    exact ⟨hs, List.getElem?_set_ne (Ne.symm hj)⟩
  have at0 : ∀ (s : Slot), (ρ.set i (.own ds))[i]? = some s → i < ρ.length ∧ s = .own ds := fun s hs => by
    by_cases hl : i < ρ.length
    · rw [List.getElem?_set_self hl] at hs
      exact ⟨hl, (Option.some.inj hs).symm⟩
    · rw [List.getElem?_eq_none (by simpa using hl)] at hs
      cases hs
  refine ⟨E.sub, by rw [List.length_set, List.length_set]; exact E.len, fun j s hs => ?_, fun j k s s' a h1 h2 m1 m2 e1 e2 => ?_, E.glob, E.tab⟩
  · by_cases hj : j = i
    · subst hj
      obtain ⟨hl, rfl⟩ := at0 s hs
      exact ⟨p, vs, by rw [List.getElem?_set_self (by rw [E.len]; exact hl)], hp, fp, hd⟩
    · obtain ⟨g, k⟩ := nm j s hj hs
      rw [k]
      exact E.at_ j s g
  · by_cases hj : j = i
    · by_cases hk : k = i
      · rw [hj, hk]
      · subst hj
        obtain ⟨hl, rfl⟩ := at0 s h1
        rw [List.getElem?_set_self (by rw [E.len]; exact hl)] at e1
        cases e1
        obtain ⟨g, q⟩ := nm k s' hk h2
        exact absurd (by rw [← q]; exact e2) (hn k s' hk g m2)
    · obtain ⟨g1, k1⟩ := nm j s hj h1
      by_cases hk : k = i
      · subst hk
        obtain ⟨hl, rfl⟩ := at0 s' h2
        rw [List.getElem?_set_self (by rw [E.len]; exact hl)] at e2
        cases e2
        exact absurd (by rw [← k1]; exact e1) (hn j s hj g1 m1)
      · obtain ⟨g2, k2⟩ := nm k s' hk h2
        exact E.dj j k s s' a g1 g2 m1 m2 (by rw [← k1]; exact e1) (by rw [← k2]; exact e2)
end

/-! ### iterables -/
def ItOk (J : It) (F H : Hp) (Rs : List Rel) : Prop := ∀ F1 H1, Same F F1 → Same F1 H1 → J.stop Rs.length H1 ∧ ∀ (i : Nat) (R : Rel), Rs[i]? = some R → J.go i H1 ∧ ∀ x H2, J.yld i H1 x H2 → ∃ F2, Gr No F1 H1 F2 H2 ∧ R.p F2 x
def EvI (G : Glob) (wi : TI) (ρ : List Slot) (Rs : List Rel) : Prop := ∀ (F H : Hp) (σ : St), EnvOk G ρ F H σ → ∀ R : It → Hp → Prop, (∀ F' H' J, Gr (Ch G ρ σ) F H F' H' → EnvOk G ρ F' H' σ → ItOk J F' H' Rs → R J H') → wi σ H R
section
variable {G : Glob} {K : PySem.W.Frag} {ρ : List Slot} {tl te : TE} {ta : TA} {Rs : List Rel}
theorem ei_list (h : Ev G tl ρ (rLs Rs)) : EvI G (iList K tl) ρ Rs := fun F H σ E R q => h F H σ E _ fun F1 H1 v g1 E1 hv => by
  obtain ⟨a, vs, rfl, ha, hr⟩ := hv
  refine ⟨a, rfl, ⟨vs, SqL.of (E1.sub _ _ ha)⟩, q F1 H1 _ g1 E1 fun F2 H2 s1 s2 => ?_⟩
  have hs : SqL K H2 a vs := SqL.of (s2 _ _ (s1 _ _ ha))
  refine ⟨⟨vs, hs, by rw [hr.length]; exact Nat.le_refl _⟩, fun i R hR => ?_⟩
  obtain ⟨x, hx, px⟩ := hr.get hR
  refine ⟨⟨vs, x, hs, hx⟩, fun y H3 hy => ?_⟩
  obtain ⟨rfl, hy⟩ := hy
  have e := hy vs hs
  rw [hx] at e
  cases e
  exact ⟨F2, Gr.refl s2, R.mono s1 px⟩
theorem ei_tup (h : Ev G tl ρ (rTs Rs)) : EvI G (iTup K tl) ρ Rs := fun F H σ E R q => h F H σ E _ fun F1 H1 v g1 E1 hv => by
  obtain ⟨a, vs, rfl, ha, hr⟩ := hv
  refine ⟨a, rfl, ⟨vs, SqT.of (E1.sub _ _ ha)⟩, q F1 H1 _ g1 E1 fun F2 H2 s1 s2 => ?_⟩
  have hs : SqT K H2 a vs := SqT.of (s2 _ _ (s1 _ _ ha))
  refine ⟨⟨vs, hs, by rw [hr.length]; exact Nat.le_refl _⟩, fun i R hR => ?_⟩
  obtain ⟨x, hx, px⟩ := hr.get hR
  refine ⟨⟨vs, x, hs, hx⟩, fun y H3 hy => ?_⟩
  obtain ⟨rfl, hy⟩ := hy
  have e := hy vs hs
  rw [hx] at e
  cases e
  exact ⟨F2, Gr.refl s2, R.mono s1 px⟩
theorem ei_listD {ds : List PyData} (h : Ev G tl ρ (dR (.list ds))) : EvI G (iList K tl) ρ (ds.map dR) := ei_list (h.le (data_rLs ds))
theorem ei_tupD {ds : List PyData} (h : Ev G tl ρ (dR (.tuple ds))) : EvI G (iTup K tl) ρ (ds.map dR) := ei_tup (h.le (data_rTs ds))
theorem EvI.inl {wi wi' : TI} (h : EvI G wi ρ Rs) : EvI G (fun σ H R => wi σ H R ∨ wi' σ H R) ρ Rs := fun F H σ E R q => .inl (h F H σ E R q)
theorem EvI.inr {wi wi' : TI} (h : EvI G wi' ρ Rs) : EvI G (fun σ H R => wi σ H R ∨ wi' σ H R) ρ Rs := fun F H σ E R q => .inr (h F H σ E R q)
theorem it_range {F H : Hp} (lo : Int) (n : Nat) : ItOk (Itr lo n) F H ((List.range n).map fun (i : Nat) => dI (lo + (i : Int))) := fun F1 H1 s1 s2 => by
  refine ⟨by rw [List.length_map, List.length_range]; exact Nat.le_refl _, fun i R hR => ?_⟩
  rw [List.getElem?_map] at hR
  by_cases hi : i < n
  · rw [List.getElem?_range hi] at hR
    cases hR
    refine ⟨hi, fun x H2 hy => ?_⟩
    obtain ⟨rfl, rfl⟩ := hy
    exact ⟨F1, Gr.refl s2, .int _⟩
  · rw [List.getElem?_eq_none (by rw [List.length_range]; omega)] at hR
    cases hR
theorem ei_range1 {n : Nat} (h : EvA G ta ρ [dI (n : Int)]) (hn : n ≤ 1000000) : EvI G (iRng1 ta) ρ ((List.range n).map fun (i : Nat) => dI (i : Int)) := fun F H σ E R q => h F H σ E _ fun F1 H1 vs g1 E1 hv => by
  cases hv with
  | cons h1 h2 =>
    cases h2
    cases h1
    have k := it_range (F := F1) (H := H1) 0 n
    have e : (List.range n).map (fun (i : Nat) => dI ((0 : Int) + (i : Int))) = (List.range n).map fun (i : Nat) => dI (i : Int) := List.map_congr_left fun i _ => by rw [Int.zero_add]
    rw [e] at k
    exact ⟨n, rfl, by omega, by omega, q F1 H1 _ g1 E1 k⟩
theorem ei_range2 {lo hi : Int} {n : Nat} (h : EvA G ta ρ [dI lo, dI hi]) (hb : -1000000 ≤ lo ∧ lo ≤ 1000000 ∧ -1000000 ≤ hi ∧ hi ≤ 1000000) (hn : (hi - lo).toNat = n) : EvI G (iRng2 ta) ρ ((List.range n).map fun (i : Nat) => dI (lo + (i : Int))) := fun F H σ E R q => h F H σ E _ fun F1 H1 vs g1 E1 hv => by
  cases hv with
  | cons h1 h2 =>
    cases h1
    cases h2 with
    | cons h3 h4 =>
      cases h4
      cases h3
      have k := it_range (F := F1) (H := H1) lo (hi - lo).toNat
      rw [hn] at k
      exact ⟨lo, hi, rfl, by omega, by rw [hn]; exact q F1 H1 _ g1 E1 k⟩
end

/-! ### targets -/
def TgOk (G : Glob) (g : TG) (R : Rel) (ρ ρ' : List Slot) (is : List Nat) : Prop := ∀ (F H : Hp) (σ : St) (v : V), EnvOk G ρ F H σ → R.p F v → ∀ Q : St → Hp → Prop,
  (∀ σ', EnvOk G ρ' F H σ' → σ'.length = σ.length → (∀ i : Nat, i ∉ is → σ'[i]? = σ[i]? ∧ ρ'[i]? = ρ[i]?) → (∀ (i : Nat) (s : Slot), i ∈ is → ρ'[i]? = some s → ¬ s.mine) → Q σ' H) → g v σ H Q
def TgsOk (G : Glob) (t : TGs) (Rs : List Rel) (ρ ρ' : List Slot) (is : List Nat) : Prop := ∀ (F H : Hp) (σ : St) (vs : List V), EnvOk G ρ F H σ → RAll F vs Rs → ∀ Q : St → Hp → Prop,
  (∀ σ', EnvOk G ρ' F H σ' → σ'.length = σ.length → (∀ i : Nat, i ∉ is → σ'[i]? = σ[i]? ∧ ρ'[i]? = ρ[i]?) → (∀ (i : Nat) (s : Slot), i ∈ is → ρ'[i]? = some s → ¬ s.mine) → Q σ' H) → t vs σ H Q
section
variable {G : Glob} {K : PySem.W.Frag} {ρ ρ1 ρ2 : List Slot} {R : Rel} {Rs : List Rel}
theorem set_notmine {ρ : List Slot} {R : Rel} {i j : Nat} {s : Slot} (hj : j = i) (h : (ρ.set i (.rel R))[j]? = some s) : ¬ s.mine := by
  subst hj
  by_cases hl : j < ρ.length
  · rw [List.getElem?_set_self hl] at h
    cases h
    exact fun z => z
  · rw [List.getElem?_eq_none (by simpa using hl)] at h
    cases h
theorem tg_name {i : Nat} : TgOk G (gName i) R ρ (ρ.set i (.rel R)) [i] := fun F H σ v E hv Q q => by
  refine q _ (E.set i hv) (List.length_set ..) (fun j hj => ?_) fun j s hj hs => set_notmine (List.mem_singleton.mp hj) hs
  have hne : i ≠ j := fun z => hj (by rw [z]; exact List.mem_singleton.mpr rfl)
  exact ⟨List.getElem?_set_ne hne, List.getElem?_set_ne hne⟩
theorem tgs_nil : TgsOk G gNil [] ρ ρ [] := fun F H σ vs E hv Q q => by
  cases hv
  exact ⟨rfl, q σ E rfl (fun i _ => ⟨rfl, rfl⟩) fun i s hi => absurd hi (by simp)⟩
theorem tgs_cons {t : TG} {u : TGs} {is js : List Nat} (h1 : TgOk G t R ρ ρ1 is) (h2 : TgsOk G u Rs ρ1 ρ2 js) : TgsOk G (gCons t u) (R :: Rs) ρ ρ2 (is ++ js) := fun F H σ vs E hv Q q => by
  cases hv with
  | cons a b =>
    refine ⟨_, _, rfl, h1 F H σ _ E a _ fun σ1 E1 l1 k1 m1 => h2 F H σ1 _ E1 b _ fun σ2 E2 l2 k2 m2 => q σ2 E2 (l2.trans l1) (fun i hi => ?_) fun i s hi hs => ?_⟩
    · have n1 : i ∉ is := fun z => hi (List.mem_append_left _ z)
      have n2 : i ∉ js := fun z => hi (List.mem_append_right _ z)
      exact ⟨((k2 i n2).1).trans (k1 i n1).1, ((k2 i n2).2).trans (k1 i n1).2⟩
    · by_cases hj : i ∈ js
      · exact m2 i s hj hs
      · rw [(k2 i hj).2] at hs
        rcases List.mem_append.mp hi with z | z
        · exact m1 i s z hs
        · exact absurd z hj
theorem tg_tup {n : Nat} {t : TGs} {is : List Nat} (h : TgsOk G t Rs ρ ρ1 is) (hn : Rs.length = n) : TgOk G (gTup K n t) (rTs Rs) ρ ρ1 is := fun F H σ v E hv Q q => by
  obtain ⟨a, vs, rfl, ha, hr⟩ := hv
  exact ⟨a, vs, rfl, SqT.of (E.sub _ _ ha), hr.length.trans hn, h F H σ vs E hr Q q⟩
theorem TgOk.le {g : TG} {R' : Rel} {is : List Nat} (h : TgOk G g R ρ ρ1 is) (e : R'.le R) : TgOk G g R' ρ ρ1 is := fun F H σ v E hv Q q => h F H σ v E (e _ _ hv) Q q
theorem tg_tupD {n : Nat} {t : TGs} {is : List Nat} {ds : List PyData} (h : TgsOk G t (ds.map dR) ρ ρ1 is) (hn : ds.length = n) : TgOk G (gTup K n t) (dR (.tuple ds)) ρ ρ1 is := (tg_tup h (by rw [List.length_map]; exact hn)).le (data_rTs ds)
end

/-! ### new lists, not yet frozen -/
/-- e makes a new list whose items are such -/
def EvN (G : Glob) (te : TE) (ρ : List Slot) (Rs : List Rel) : Prop := ∀ (F H : Hp) (σ : St), EnvOk G ρ F H σ → ∀ Q : VK,
  (∀ F' H' p vs, Gr (Ch G ρ σ) F H F' H' → EnvOk G ρ F' H' σ → H p = none → H' p = some (.lst vs) → F' p = none → RAll F' vs Rs → Q (.ref p) H') → te σ H Q
section
variable {G : Glob} {K : PySem.W.Frag} {ρ ρ1 ρ2 : List Slot} {R : Rel} {Rs : List Rel} {te : TE} {tt : TT}
theorem EvN.ev (h : EvN G te ρ Rs) : Ev G te ρ (rLs Rs) := fun F H σ E Q q => h F H σ E Q fun F' H' p vs g E' hp hp' fp hr => by
  obtain ⟨f0, n0, a0, c0⟩ := E.newNot hp
  have sm : Same F' (upd F' p (.lst vs)) := fun a u e => by rw [upd_ne (ne_of_none e fp)]; exact e
  have E2 : EnvOk G ρ (upd F' p (.lst vs)) H' σ := E'.freeze hp' fp n0 a0
  refine q (upd F' p (.lst vs)) H' _ ⟨g.ext, g.keep, g.fe.trans sm, E2.sub, fun a h1 h2 => ?_, g.exts⟩ E2 ⟨p, vs, rfl, upd_same, hr.mono sm⟩
  by_cases z : a = p
  · rw [z]; exact hp
  · rw [upd_ne z] at h2
    exact g.sep a h1 h2
theorem en_lst {tas : TA} (ha : EvA G tas ρ Rs) (hz : Rs.length ≤ 1000) : EvN G (tLst tas) ρ Rs := fun F H σ E Q q =>
  ha F H σ E _ fun F1 H1 vs g1 E1 hx => ⟨by rw [hx.length]; exact Nat.le_of_lt (small1000 hz), fun p hp => by
    obtain ⟨f0, n0, a0, c0⟩ := E1.newNot hp
    have h0 : H p = none := by
      cases z : H p with
      | none => rfl
      | some o => exact absurd hp (g1.keep p (by rw [z]; exact fun y => by cases y))
    exact q F1 _ p vs (g1.trans (Gr.lay E1.sub hp)) (E1.updOther f0 n0 a0 fun φ z => by rw [hp] at z; cases z) h0 upd_same f0 hx⟩

/-! ### comprehensions -/
theorem wipe_get {σ : St} {j : Nat} : ∀ {vs : List Nat}, (wipe σ vs)[j]? = if j ∈ vs then (σ[j]?).map (fun _ => none) else σ[j]?
  | [] => by simp [wipe]
  | v :: vs => by
    unfold wipe
    by_cases hv : v = j
    · subst hv
      rw [List.getElem?_set_self' ]
      rw [if_pos List.mem_cons_self, wipe_get (vs := vs)]
      by_cases hm : v ∈ vs
      · rw [if_pos hm]
        cases σ[v]? <;> rfl
      · rw [if_neg hm]
        cases σ[v]? <;> rfl
    · rw [List.getElem?_set_ne hv, wipe_get (vs := vs)]
      have e : (j ∈ v :: vs) ↔ j ∈ vs := by simp [Ne.symm hv]
      by_cases hm : j ∈ vs
      · rw [if_pos hm, if_pos (e.mpr hm)]
      · rw [if_neg hm, if_neg (fun z => hm (e.mp z))]
def wipeR (ρ : List Slot) : List Nat → List Slot
  | [] => ρ
  | v :: vs => (wipeR ρ vs).set v .un
theorem wipeR_length (ρ : List Slot) : ∀ vs : List Nat, (wipeR ρ vs).length = ρ.length
  | [] => rfl
  | v :: vs => by unfold wipeR; rw [List.length_set, wipeR_length ρ vs]
theorem wipeR_get {ρ : List Slot} {j : Nat} {s : Slot} : ∀ {vs : List Nat}, (wipeR ρ vs)[j]? = some s → s = .un ∨ (j ∉ vs ∧ ρ[j]? = some s)
  | [], h => .inr ⟨by simp, h⟩
  | v :: vs, h => by
    unfold wipeR at h
    by_cases hv : v = j
    · subst hv
      by_cases hl : v < (wipeR ρ vs).length
      · rw [List.getElem?_set_self hl] at h
        exact .inl (Option.some.inj h).symm
      · rw [List.getElem?_eq_none (by simpa using hl)] at h
        cases h
    · rw [List.getElem?_set_ne hv] at h
      rcases wipeR_get h with q | ⟨q1, q2⟩
      · exact .inl q
      · exact .inr ⟨by simp [q1, Ne.symm hv], q2⟩
theorem wipeR_out {ρ : List Slot} {j : Nat} : ∀ {vs : List Nat}, j ∉ vs → (wipeR ρ vs)[j]? = ρ[j]?
  | [], _ => rfl
  | v :: vs, h => by
    unfold wipeR
    rw [List.getElem?_set_ne (fun z => h (by rw [z]; exact List.mem_cons_self))]
    exact wipeR_out fun z => h (List.mem_cons_of_mem _ z)
theorem EnvOk.wipe {F H : Hp} {σ : St} (E : EnvOk G ρ F H σ) (vs : List Nat) : EnvOk G (wipeR ρ vs) F H (wipe σ vs) := by
  have keyS : ∀ (j : Nat) (s : Slot), (wipeR ρ vs)[j]? = some s → s = .un ∨ (ρ[j]? = some s ∧ (L2.wipe σ vs)[j]? = σ[j]?) := fun j s hs => by
    rcases wipeR_get hs with q | ⟨q1, q2⟩
    · exact .inl q
    · exact .inr ⟨q2, by rw [wipe_get, if_neg q1]⟩
  refine ⟨E.sub, by rw [wipe_length, wipeR_length]; exact E.len, fun j s hs => ?_, fun i j s s' a h1 h2 m1 m2 e1 e2 => ?_, E.glob, E.tab⟩
  · rcases keyS j s hs with q | ⟨q1, q2⟩
    · rw [q]; trivial
    · rw [q2]; exact E.at_ j s q1
  · rcases keyS i s h1 with q | ⟨q1, q2⟩
    · rw [q] at m1; exact m1.elim
    · rcases keyS j s' h2 with r | ⟨r1, r2⟩
      · rw [r] at m2; exact m2.elim
      · exact E.dj i j s s' a q1 r1 m1 m2 (by rw [← q2]; exact e1) (by rw [← r2]; exact e2)
/-- [e for target in xs if test] -/
theorem en_lc {α : Type} {xs : List α} {Rx : α → Rel} {wi : TI} {g : TG} {vs : List Nat} (p : α → Bool) (Rf : α → Rel) (hi : EvI G wi ρ (xs.map Rx)) (hz : xs.length ≤ 1000) (hvs : ∀ (i : Nat) (s : Slot), i ∈ vs → ρ[i]? = some s → ¬ s.mine)
    (hturn : ∀ x, x ∈ xs → ∃ ρ' is, TgOk G g (Rx x) (wipeR ρ vs) ρ' is ∧ (∀ j, j ∈ is → j ∈ vs) ∧ EvT G tt ρ' (p x) ∧ (p x = true → Ev G te ρ' (Rf x))) :
    EvN G (tLc wi g tt te vs) ρ ((xs.filter p).map Rf) := fun F H σ E Q q => hi F H σ E _ fun F1 H1 J g1 E1 hJ D hD => by
  obtain ⟨f0, n0, a0, c0⟩ := E1.newNot hD
  have hD0 : H D = none := by
    cases z : H D with
    | none => rfl
    | some o => exact absurd hD (g1.keep D (by rw [z]; exact fun y => by cases y))
  refine ⟨fun i m H' => m = xs.length - i ∧ i ≤ xs.length ∧ ∃ F' acc, Gr (Ch G ρ σ) F1 H1 F' H' ∧ EnvOk G ρ F' H' σ ∧ H' D = some (.lst acc) ∧ F' D = none ∧ RAll F' acc (((xs.take i).filter p).map Rf),
    ⟨xs.length, by omega, Nat.zero_le _, F1, [], Gr.lay E1.sub hD, E1.updOther f0 n0 a0 (fun φ z => by rw [hD] at z; cases z), upd_same, f0, .nil⟩, ?_⟩
  rintro i m H' ⟨rfl, hi, F', acc, g2, E2, hD2, fD2, hacc⟩
  obtain ⟨hstop, hgo⟩ := hJ F' H' g2.fe E2.sub
  rw [List.length_map] at hstop
  by_cases hlt : i < xs.length
  · have ex : xs[i]? = some xs[i] := List.getElem?_eq_getElem hlt
    obtain ⟨go, yl⟩ := hgo i (Rx xs[i]) (by rw [List.getElem?_map, ex]; rfl)
    refine .inr ⟨go, fun H'' => ∃ F' acc, Gr (Ch G ρ σ) F1 H1 F' H'' ∧ EnvOk G ρ F' H'' σ ∧ H'' D = some (.lst acc) ∧ F' D = none ∧ RAll F' acc (((xs.take (i + 1)).filter p).map Rf), fun H'' h => ⟨xs.length - (i + 1), by omega, rfl, hlt, h⟩, fun x H3 hy => ?_⟩
    obtain ⟨F3, g3, hx⟩ := yl x H3 hy
    have E3 := E2.grow0 g3
    obtain ⟨ρ', is, tg, sub, tst, elt⟩ := hturn xs[i] (List.getElem_mem hlt)
    refine tg F3 H3 (wipe σ vs) x (E3.wipe vs) hx _ fun σ' E4 l4 k4 m4 => ⟨?_, ?_⟩
    · apply List.ext_getElem?
      intro j
      rw [wipe_get, wipe_get]
      by_cases hj : j ∈ vs
      · rw [if_pos hj, if_pos hj]
        by_cases hl : j < σ.length
        · rw [List.getElem?_eq_getElem (show j < σ'.length by rw [l4, wipe_length]; exact hl), List.getElem?_eq_getElem hl]
          rfl
        · rw [List.getElem?_eq_none (show σ'.length ≤ j by rw [l4, wipe_length]; omega), List.getElem?_eq_none (show σ.length ≤ j by omega)]
      · rw [if_neg hj, if_neg hj, (k4 j (fun z => hj (sub j z))).1, wipe_get, if_neg hj]
    · have back : ∀ (j : Nat) (s : Slot), ρ[j]? = some s → s.mine → ρ'[j]? = some s ∧ σ'[j]? = σ[j]? := fun j s hs m => by
        have nj : j ∉ vs := fun z => hvs j s z hs m
        obtain ⟨k1, k2⟩ := k4 j (fun z => nj (sub j z))
        rw [k1, k2, wipeR_out nj, wipe_get, if_neg nj]
        exact ⟨hs, rfl⟩
      have chb : ∀ a, Ch G ρ' σ' a → Ch G ρ σ a := fun a ha => by
        rcases ha with ⟨j, sh, h1, h2⟩ | ha
        · have nj : j ∉ is := fun z => m4 j _ z h1 trivial
          obtain ⟨k1, k2⟩ := k4 j nj
          rw [k2] at h1
          rcases wipeR_get h1 with z | ⟨z1, z2⟩
          · cases z
          · rw [k1, wipe_get, if_neg z1] at h2
            exact .inl ⟨j, sh, z2, h2⟩
        · exact .inr ha
      refine tst F3 H3 σ' E4 _ fun F5 H5 g5 E5 => ?_
      have g5' := g5.mono chb
      have hD5 : H5 D = some (.lst acc) := g5'.ext D _ c0 (g3.ext D _ (fun z => z) hD2)
      have fD5 : F5 D = none := g5.un (g3.un fD2 (by rw [hD2]; exact fun z => by cases z)) (by rw [g3.ext D _ (fun z => z) hD2]; exact fun z => by cases z)
      have R5 : EnvOk G ρ F5 H5 σ := E3.restore E5 g5.fe back
      have G5 : Gr (Ch G ρ σ) F1 H1 F5 H5 := g2.trans (g3.of0.trans g5')
      have et : xs.take (i + 1) = xs.take i ++ [xs[i]] := by rw [List.take_add_one, ex]; rfl
      cases hp : p xs[i] with
      | false =>
        show ∃ F' acc, _
        refine ⟨F5, acc, G5, R5, hD5, fD5, ?_⟩
        rw [et, List.filter_append, List.filter_cons, hp]
        show RAll F5 acc (((xs.take i).filter p ++ []).map Rf)
        rw [List.append_nil]
        exact hacc.mono (g3.fe.trans g5.fe)
      | true =>
        show te σ' H5 _
        refine elt hp F5 H5 σ' E5 _ fun F6 H6 y g6 E6 hy => ?_
        have g6' := g6.mono chb
        have hD6 : H6 D = some (.lst acc) := g6'.ext D _ c0 hD5
        have fD6 : F6 D = none := g6.un fD5 (by rw [hD5]; exact fun z => by cases z)
        have R6 : EnvOk G ρ F6 H6 σ := R5.restore E6 g6.fe back
        have G6 : Gr (Ch G ρ σ) F1 H1 F6 H6 := G5.trans g6'
        have R7 : EnvOk G ρ F6 (upd H6 D (.lst (acc ++ [y]))) σ := R6.updOther fD6 n0 a0 fun φ z => by rw [hD6] at z; cases z
        have hal : acc.length ≤ i := by
          have h1 := hacc.length
          rw [List.length_map] at h1
          have h2 := List.length_filter_le p (xs.take i)
          have h3 := List.length_take_le i xs
          omega
        refine ⟨acc, hD6, small1000 (by omega), F6, acc ++ [y], ⟨fun a o m h => ?_, fun a h => ?_, G6.fe, R7.sub, G6.sep, fun a φ h => by rw [upd_ne (ne_of_none h hD)]; exact G6.exts a φ h⟩, R7, upd_same, fD6, ?_⟩
        · rw [upd_ne (ne_of_none h hD)]
          exact G6.ext a o m h
        · by_cases z : a = D
          · rw [z, upd_same]; exact fun y => by cases y
          · rw [upd_ne z]; exact G6.keep a h
        · rw [et, List.filter_append, List.filter_cons, hp]
          show RAll F6 (acc ++ [y]) (((xs.take i).filter p ++ [xs[i]]).map Rf)
          rw [List.map_append]
          exact (hacc.mono ((g3.fe.trans g5.fe).trans g6.fe)).append (.cons hy .nil)
  · have e : i = xs.length := by omega
    refine .inl ⟨by rw [e]; exact hstop, ?_⟩
    rw [e, List.take_length] at hacc
    exact q F' H' D acc (g1.trans g2) E2 hD0 hD2 fD2 hacc
theorem ev_lc {α : Type} {xs : List α} {Rx : α → Rel} {wi : TI} {g : TG} {vs : List Nat} (p : α → Bool) (f : α → PyData) (hi : EvI G wi ρ (xs.map Rx)) (hz : xs.length ≤ 1000) (hvs : ∀ (i : Nat) (s : Slot), i ∈ vs → ρ[i]? = some s → ¬ s.mine)
    (hturn : ∀ x, x ∈ xs → ∃ ρ' is, TgOk G g (Rx x) (wipeR ρ vs) ρ' is ∧ (∀ j, j ∈ is → j ∈ vs) ∧ EvT G tt ρ' (p x) ∧ (p x = true → Ev G te ρ' (dR (f x)))) :
    Ev G (tLc wi g tt te vs) ρ (dR (.list ((xs.filter p).map f))) := by
  have h := (en_lc p (fun x => dR (f x)) hi hz hvs hturn).ev
  have e : ((xs.filter p).map fun x => dR (f x)) = ((xs.filter p).map f).map dR := by rw [List.map_map]; rfl
  rw [e] at h
  exact h.le (rLs_data _)
theorem et_yes : EvT G tYes ρ true := fun F H σ E Q q => q F H (Gr.refl E.sub) E
end
end Dx
set_option Elab.async false
set_option linter.all false
set_option maxRecDepth 100000
/-! DxCall: statements over environments of slots, calls, defs. -/
namespace Dx
open PySem L2

/-! ### statements -/
/-- the entry of a def: its parameters' slots, their values, the frozen part, the heap -/
structure Yc where
  ρ : List Slot
  σ : St
  F : Hp
  H : Hp
structure StOk (G : Glob) (Y : Yc) (ρ : List Slot) (F H : Hp) (σ : St) : Prop where
  env : EnvOk G ρ F H σ
  gr : Gr (Ch G Y.ρ Y.σ) Y.F Y.H F H
  par : EnvOk G Y.ρ F H Y.σ
  ph : ∀ (j : Nat) (sh : HO → Prop) (p : Addr), Y.ρ[j]? = some (.mvl sh) → Y.σ[j]? = some (some (.ref p)) → Y.H p ≠ none
  po : ∀ (j : Nat) (ds : List PyData), Y.ρ[j]? ≠ some (.own ds)
  own : ∀ (i : Nat) (ds : List PyData) (p : Addr), ρ[i]? = some (.own ds) → σ[i]? = some (some (.ref p)) → Y.H p = none
  mvl : ∀ (i : Nat) (sh : HO → Prop) (p : Addr), ρ[i]? = some (.mvl sh) → σ[i]? = some (some (.ref p)) → Y.H p = none ∨ ∃ j : Nat, Y.ρ[j]? = some (.mvl sh) ∧ Y.σ[j]? = some (some (.ref p))
section
variable {G : Glob} {Y : Yc} {ρ ρ1 : List Slot} {F H F' H' : Hp} {σ σ' : St}
theorem StOk.notOwn (S : StOk G Y ρ F H σ) {a : Addr} (h : Ch G ρ σ a) (n : Y.H a ≠ none) : Ch G Y.ρ Y.σ a := by
  rcases h with ⟨i, sh, h1, h2⟩ | h
  · rcases S.mvl i sh a h1 h2 with q | ⟨j, q1, q2⟩
    · exact absurd q n
    · exact .inl ⟨j, sh, q1, q2⟩
  · exact .inr h
/-- behind an expression -/
theorem StOk.step (S : StOk G Y ρ F H σ) (g : Gr (Ch G ρ σ) F H F' H') (E : EnvOk G ρ F' H' σ) : StOk G Y ρ F' H' σ := by
  have gr : Gr (Ch G Y.ρ Y.σ) Y.F Y.H F' H' := ⟨fun a o m h => g.ext a o (fun z => m (S.notOwn z (by rw [h]; exact fun y => by cases y))) (S.gr.ext a o m h), fun a h => g.keep a (S.gr.keep a h), S.gr.fe.trans g.fe, g.fh, fun a h1 h2 => by
    by_cases q : F a = none
    · have n1 := g.sep a q h2
      cases e : Y.H a with
      | none => rfl
      | some o => exact absurd n1 (S.gr.keep a (by rw [e]; exact fun z => by cases z))
    · exact S.gr.sep a h1 q, fun a φ h => g.exts a φ (S.gr.exts a φ h)⟩
  refine ⟨E, gr, ?_, S.ph, S.po, S.own, S.mvl⟩
  refine ⟨E.sub, S.par.len, fun j s hs => ?_, S.par.dj, E.glob, E.tab⟩
  have q := S.par.at_ j s hs
  cases s with
  | un => trivial
  | rel R =>
    obtain ⟨v, e1, e2⟩ := q
    exact ⟨v, e1, R.mono g.fe e2⟩
  | own ds => exact absurd hs (S.po j ds)
  | mvl sh =>
    obtain ⟨p, o, e, hp, fp, hsh, nt⟩ := q
    have fp' : F' p = none := g.un fp (by rw [hp]; exact fun z => by cases z)
    by_cases hm : MutAt ρ σ p
    · obtain ⟨i, sh', h1, h2⟩ := hm
      obtain ⟨p', o', e', hp', _, hsh', nt'⟩ := E.at_ i _ h1
      rw [h2] at e'; cases e'
      rcases S.mvl i sh' p h1 h2 with z | ⟨j', z1, z2⟩
      · exact absurd z (S.ph j sh p hs e)
      · have ej : j' = j := S.par.dj j' j _ _ p z1 hs trivial trivial z2 e
        subst ej
        rw [hs] at z1
        cases z1
        exact ⟨p, o', e, hp', fp', hsh', nt'⟩
    · have hA : ¬ G.A p := (S.par.mineAt hs trivial e).2.2
      exact ⟨p, o, e, g.ext p o (fun z => z.elim hm hA) hp, fp', hsh, nt⟩
/-- behind a change of names -/
theorem StOk.names (S : StOk G Y ρ F H σ) (E : EnvOk G ρ1 F H σ') (h : ∀ (i : Nat) (s : Slot), ρ1[i]? = some s → s.mine → ρ[i]? = some s ∧ σ'[i]? = σ[i]?) : StOk G Y ρ1 F H σ' :=
  ⟨E, S.gr, S.par, S.ph, S.po, fun i ds p h1 h2 => by
    obtain ⟨k1, k2⟩ := h i _ h1 trivial
    exact S.own i ds p k1 (by rw [← k2]; exact h2), fun i sh p h1 h2 => by
    obtain ⟨k1, k2⟩ := h i _ h1 trivial
    exact S.mvl i sh p k1 (by rw [← k2]; exact h2)⟩
theorem StOk.tg {is : List Nat} (S : StOk G Y ρ F H σ) (E : EnvOk G ρ1 F H σ') (k : ∀ i : Nat, i ∉ is → σ'[i]? = σ[i]? ∧ ρ1[i]? = ρ[i]?) (m : ∀ (i : Nat) (s : Slot), i ∈ is → ρ1[i]? = some s → ¬ s.mine) : StOk G Y ρ1 F H σ' :=
  S.names E fun i s h1 h2 => by
    have ni : i ∉ is := fun z => m i s z h1 h2
    obtain ⟨k1, k2⟩ := k i ni
    exact ⟨by rw [← k2]; exact h1, k1⟩
end

/-- what is wanted behind a statement -/
structure Post where
  nx : List Slot → Prop
  rt : Rel → Prop
  bk : List Slot → Prop := fun _ => False
  ct : List Slot → Prop := fun _ => False
structure PostOk (G : Glob) (Y : Yc) (P : Post) (D : Ends) : Prop where
  nx : ∀ ρ F H σ, P.nx ρ → StOk G Y ρ F H σ → D.nx σ H
  rt : ∀ ρ F H σ v R, P.rt R → StOk G Y ρ F H σ → R.p F v → D.rt v H
  bk : ∀ ρ F H σ, P.bk ρ → StOk G Y ρ F H σ → D.bk σ H
  ct : ∀ ρ F H σ, P.ct ρ → StOk G Y ρ F H σ → D.ct σ H
def Sv (G : Glob) (ts : TS) (ρ : List Slot) (P : Post) : Prop := ∀ (Y : Yc) (F H : Hp) (σ : St), StOk G Y ρ F H σ → ∀ D : Ends, PostOk G Y P D → ts D σ H
section
variable {G : Glob} {K : PySem.W.Frag} {ρ ρ1 ρ2 : List Slot} {P : Post} {te ta tb : TE} {tt : TT} {t u : TS} {g : TG} {R : Rel} {Rs : List Rel} {is : List Nat}
theorem PostOk.seq {Y : Yc} {D : Ends} {P' : Post} (k : PostOk G Y P D) (h1 : ∀ ρ, P'.nx ρ → Sv G u ρ P) (h2 : ∀ R, P'.rt R → P.rt R) (h3 : ∀ ρ, P'.bk ρ → P.bk ρ) (h4 : ∀ ρ, P'.ct ρ → P.ct ρ) : PostOk G Y P' { D with nx := u D } :=
  ⟨fun ρ F H σ h S => h1 ρ h Y F H σ S D k, fun ρ F H σ v R h S hv => k.rt ρ F H σ v R (h2 R h) S hv, fun ρ F H σ h S => k.bk ρ F H σ (h3 ρ h) S, fun ρ F H σ h S => k.ct ρ F H σ (h4 ρ h) S⟩
theorem sv_seq (h : Sv G t ρ { P with nx := fun ρ1 => Sv G u ρ1 P }) : Sv G (tSeq t u) ρ P := fun Y F H σ S D k =>
  h Y F H σ S _ (k.seq (fun _ z => z) (fun _ z => z) (fun _ z => z) fun _ z => z)
theorem sv_next (h : P.nx ρ) : Sv G tNext ρ P := fun Y F H σ S D k => k.nx ρ F H σ h S
theorem sv_break (h : P.bk ρ) : Sv G tBreak ρ P := fun Y F H σ S D k => k.bk ρ F H σ h S
theorem sv_cont (h : P.ct ρ) : Sv G tCont ρ P := fun Y F H σ S D k => k.ct ρ F H σ h S
theorem sv_asg (h : Ev G te ρ R) (hg : TgOk G g R ρ ρ1 is) (hn : P.nx ρ1) : Sv G (tAsg te g) ρ P := fun Y F H σ S D k =>
  h F H σ S.env _ fun F1 H1 v g1 E1 hv => hg F1 H1 σ v E1 hv _ fun σ' E2 l2 k2 m2 => k.nx ρ1 F1 H1 σ' hn ((S.step g1 E1).tg E2 k2 m2)
theorem sv_set {i : Nat} (h : Ev G te ρ R) (hn : P.nx (ρ.set i (.rel R))) : Sv G (tAsg te (gName i)) ρ P := sv_asg h tg_name hn
theorem sv_ret (h : Ev G te ρ R) (hr : P.rt R) : Sv G (tRet te) ρ P := fun Y F H σ S D k =>
  h F H σ S.env _ fun F1 H1 v g1 E1 hv => k.rt ρ F1 H1 σ v R hr (S.step g1 E1) hv
theorem sv_retN (hr : P.rt (dR .none)) : Sv G tRetN ρ P := fun Y F H σ S D k => k.rt ρ F H σ .non _ hr S .non
theorem sv_drop (h : Ev G te ρ R) (hn : P.nx ρ) : Sv G (tDrop te) ρ P := fun Y F H σ S D k =>
  h F H σ S.env _ fun F1 H1 v g1 E1 hv => k.nx ρ F1 H1 σ hn (S.step g1 E1)
theorem sv_if {b : Bool} (h : EvT G tt ρ b) (h1 : b = true → Sv G t ρ P) (h2 : b = false → Sv G u ρ P) : Sv G (tIfS tt t u) ρ P := fun Y F H σ S D k =>
  h F H σ S.env _ fun F1 H1 g1 E1 => by
    cases b with
    | true => exact h1 rfl Y F1 H1 σ (S.step g1 E1) D k
    | false => exact h2 rfl Y F1 H1 σ (S.step g1 E1) D k
theorem Sv.le {P' : Post} (h : Sv G t ρ P) (h1 : ∀ ρ, P.nx ρ → P'.nx ρ) (h2 : ∀ R, P.rt R → P'.rt R) (h3 : ∀ ρ, P.bk ρ → P'.bk ρ) (h4 : ∀ ρ, P.ct ρ → P'.ct ρ) : Sv G t ρ P' := fun Y F H σ S D k =>
  h Y F H σ S D ⟨fun ρ F H σ z S => k.nx ρ F H σ (h1 ρ z) S, fun ρ F H σ v R z S hv => k.rt ρ F H σ v R (h2 R z) S hv, fun ρ F H σ z S => k.bk ρ F H σ (h3 ρ z) S, fun ρ F H σ z S => k.ct ρ F H σ (h4 ρ z) S⟩
/-- a name's value is one of many -/
theorem sv_ex {α : Sort _} {R : α → Rel} {i : Nat} (hi : ρ[i]? = some (.rel (rEx R))) (h : ∀ x, Sv G t (ρ.set i (.rel (R x))) P) : Sv G t ρ P := fun Y F H σ S D k => by
  obtain ⟨v, e, x, hv⟩ := S.env.at_ i _ hi
  have es : σ.set i (some v) = σ := by
    apply List.ext_getElem?
    intro j
    by_cases hj : i = j
    · subst hj
      have hl := (List.getElem?_eq_some_iff.mp e).1
      rw [List.getElem?_set_self hl, e]
    · rw [List.getElem?_set_ne hj]
  have E2 := S.env.set (R := R x) i hv
  rw [es] at E2
  refine h x Y F H σ (S.names E2 fun j s h1 h2 => ⟨?_, rfl⟩) D k
  by_cases hj : j = i
  · exact absurd h2 (set_notmine hj h1)
  · rw [List.getElem?_set_ne (Ne.symm hj)] at h1
    exact h1
theorem sv_weak {R' : Rel} {i : Nat} (hi : ρ[i]? = some (.rel R)) (e : R.le R') (h : Sv G t (ρ.set i (.rel R')) P) : Sv G t ρ P := fun Y F H σ S D k => by
  obtain ⟨v, e1, hv⟩ := S.env.at_ i _ hi
  have es : σ.set i (some v) = σ := by
    apply List.ext_getElem?
    intro j
    by_cases hj : i = j
    · subst hj
      have hl := (List.getElem?_eq_some_iff.mp e1).1
      rw [List.getElem?_set_self hl, e1]
    · rw [List.getElem?_set_ne hj]
  have E2 := S.env.set (R := R') i (e _ _ hv)
  rw [es] at E2
  refine h Y F H σ (S.names E2 fun j s h1 h2 => ⟨?_, rfl⟩) D k
  by_cases hj : j = i
  · exact absurd h2 (set_notmine hj h1)
  · rw [List.getElem?_set_ne (Ne.symm hj)] at h1
    exact h1
/-! ### lists of a def's own -/
theorem sv_own {i : Nat} {ds : List PyData} (h : EvN G te ρ (ds.map dR)) (hn : P.nx (ρ.set i (.own ds))) : Sv G (tAsg te (gName i)) ρ P := fun Y F H σ S D k =>
  h F H σ S.env _ fun F1 H1 p vs g1 E1 hp hp1 fp hr => by
    have S1 := S.step g1 E1
    obtain ⟨_, n0, _, _⟩ := S.env.newNot hp
    have Yp : Y.H p = none := by
      cases z : Y.H p with
      | none => rfl
      | some o => exact absurd hp (S.gr.keep p (by rw [z]; exact fun y => by cases y))
    have E2 := E1.setOwn i hp1 fp hr.data fun j s hj hs m => n0 j s hs m
    refine k.nx _ F1 H1 _ hn ⟨E2, S1.gr, S1.par, S1.ph, S1.po, fun j es q h1 h2 => ?_, fun j sh q h1 h2 => ?_⟩
    · by_cases hj : j = i
      · subst hj
        have hl : j < σ.length := by
          rw [S.env.len]
          by_cases hl : j < ρ.length
          · exact hl
          · rw [List.getElem?_eq_none (by simpa using hl)] at h1
            cases h1
        rw [List.getElem?_set_self hl] at h2
        cases h2
        exact Yp
      · rw [List.getElem?_set_ne (Ne.symm hj)] at h1 h2
        exact S1.own j es q h1 h2
    · by_cases hj : j = i
      · subst hj
        by_cases hl : j < ρ.length
        · rw [List.getElem?_set_self hl] at h1
          cases h1
        · rw [List.getElem?_eq_none (by simpa using hl)] at h1
          cases h1
      · rw [List.getElem?_set_ne (Ne.symm hj)] at h1 h2
        exact S1.mvl j sh q h1 h2
/-- the list of an own slot becomes another -/
theorem StOk.change {Y : Yc} {F H : Hp} {σ : St} {i : Nat} {ds es : List PyData} {p : Addr} {vs : List V} (S : StOk G Y ρ F H σ) (hi : ρ[i]? = some (.own ds)) (hp : σ[i]? = some (some (.ref p))) (hd : DqAll F vs es) : StOk G Y (ρ.set i (.own es)) F (upd H p (.lst vs)) σ := by
  have fp : F p = none := (S.env.mineAt hi trivial hp).1
  have nA : ¬ G.A p := (S.env.mineAt hi trivial hp).2.2
  have Yp := S.own i ds p hi hp
  have hx : ∀ φ, H p ≠ some (.ext φ) := fun φ z => by
    obtain ⟨p', vs', e', hp', _⟩ := S.env.at_ i _ hi
    rw [hp] at e'
    cases e'
    rw [z] at hp'
    cases hp'
  have hl := (List.getElem?_eq_some_iff.mp hi).1
  have ot : ∀ (j : Nat) (s : Slot), j ≠ i → (ρ.set i (.own es))[j]? = some s → ρ[j]? = some s := fun j s hj hs => by
    rw [List.getElem?_set_ne (Ne.symm hj)] at hs
    exact hs
  have ne : ∀ (j : Nat) (s : Slot) (q : Addr), j ≠ i → ρ[j]? = some s → s.mine → σ[j]? = some (some (.ref q)) → q ≠ p := fun j s q hj hs m hq z => by
    rw [z] at hq
    exact hj (S.env.dj j i s _ p hs hi m trivial hq hp)
  have E : EnvOk G (ρ.set i (.own es)) F (upd H p (.lst vs)) σ := by
    refine ⟨fun a u q => by rw [upd_ne (ne_of_none q fp)]; exact S.env.sub a u q, by rw [List.length_set]; exact S.env.len, fun j s hs => ?_, fun j k s s' a h1 h2 m1 m2 e1 e2 => ?_, ?_, fun a ha => ?_⟩
    · by_cases hj : j = i
      · subst hj
        rw [List.getElem?_set_self hl] at hs
        cases hs
        exact ⟨p, vs, hp, upd_same, fp, hd⟩
      · have q := S.env.at_ j s (ot j s hj hs)
        have hs' := ot j s hj hs
        cases s with
        | un => trivial
        | rel R => exact q
        | own ds' =>
          obtain ⟨a, ws, e, ha, fa, hd'⟩ := q
          exact ⟨a, ws, e, by rw [upd_ne (ne j _ a hj hs' trivial e)]; exact ha, fa, hd'⟩
        | mvl sh =>
          obtain ⟨a, o, e, ha, fa, hd'⟩ := q
          exact ⟨a, o, e, by rw [upd_ne (ne j _ a hj hs' trivial e)]; exact ha, fa, hd'⟩
    · have fix : ∀ (j : Nat) (s : Slot), (ρ.set i (.own es))[j]? = some s → s.mine → ∃ s0, ρ[j]? = some s0 ∧ s0.mine := fun j s h m => by
        by_cases hj : j = i
        · exact ⟨.own ds, by rw [hj]; exact hi, trivial⟩
        · exact ⟨s, ot j s hj h, m⟩
      obtain ⟨s0, k1, k2⟩ := fix j s h1 m1
      obtain ⟨s1, k3, k4⟩ := fix k s' h2 m2
      exact S.env.dj j k s0 s1 a k1 k3 k2 k4 e1 e2
    · exact G.mono S.env.glob (fun a φ q => by rw [upd_ne (fun z => hx φ (by rw [← z]; exact q))]; exact q) (fun a ha => upd_ne (fun z => nA (z ▸ ha)))
    · obtain ⟨h1, ps, h2⟩ := S.env.tab a ha
      have hne : a ≠ p := fun z => nA (by rw [← z]; exact ha)
      exact ⟨h1, ps, by rw [upd_ne hne]; exact h2⟩
  refine ⟨E, ⟨fun a o m h => ?_, fun a h => ?_, S.gr.fe, E.sub, S.gr.sep, fun a φ h => by rw [upd_ne (ne_of_none h Yp)]; exact S.gr.exts a φ h⟩, ?_, S.ph, S.po, fun j ds' q h1 h2 => ?_, fun j sh q h1 h2 => ?_⟩
  · rw [upd_ne (ne_of_none h Yp)]
    exact S.gr.ext a o m h
  · by_cases z : a = p
    · rw [z, upd_same]; exact fun y => by cases y
    · rw [upd_ne z]; exact S.gr.keep a h
  · refine S.par.updOther fp (fun j s hs m e => ?_) nA hx
    cases s with
    | un => exact m
    | rel R => exact m
    | own ds' => exact S.po j ds' hs
    | mvl sh => exact S.ph j sh p hs e Yp
  · by_cases hj : j = i
    · subst hj
      rw [hp] at h2
      cases h2
      exact Yp
    · exact S.own j ds' q (ot j _ hj h1) h2
  · by_cases hj : j = i
    · subst hj
      rw [List.getElem?_set_self hl] at h1
      cases h1
    · exact S.mvl j sh q (ot j _ hj h1) h2
/-- xs.append(e) of an own list -/
theorem sv_app {i : Nat} {ds : List PyData} {d : PyData} (hi : ρ[i]? = some (.own ds)) (h : Ev G te ρ (dR d)) (hz : ds.length < 1000) (hn : P.nx (ρ.set i (.own (ds ++ [d])))) : Sv G (tDrop (tBM K "list" rAppend (tVar i) (tCons te tNil))) ρ P := fun Y F H σ S D k => by
  obtain ⟨p, vs, e, hp, fp, hd⟩ := S.env.at_ i _ hi
  refine ⟨.ref p, e, .inl ⟨rfl, vs, SqL.of hp⟩, h F H σ S.env _ fun F1 H1 v g1 E1 hv => ?_⟩
  obtain ⟨p', vs', e', hp', fp', hd'⟩ := E1.at_ i _ hi
  rw [e] at e'
  cases e'
  refine ⟨p, vs', v, rfl, rfl, hp', small1000 (by rw [hd'.length]; omega), k.nx _ F1 _ σ hn ((S.step g1 E1).change hi e ?_)⟩
  exact hd'.append (.cons hv .nil)
/-- xs[j] = e of an own list -/
theorem sv_setAt {i j : Nat} {ds : List PyData} {d : PyData} (hi : ρ[i]? = some (.own ds)) (h : Ev G te ρ (dR d)) (hx : Ev G ta ρ (dI (j : Int))) (hj : j < ds.length) (hn : P.nx (ρ.set i (.own (ds.set j d)))) : Sv G (tAsg te (gSub (tVar i) ta rSetL)) ρ P := fun Y F H σ S D k =>
  h F H σ S.env _ fun F1 H1 v g1 E1 hv => by
    obtain ⟨p, vs, e, hp, fp, hd⟩ := E1.at_ i _ hi
    refine ⟨.ref p, e, hx F1 H1 σ E1 _ fun F2 H2 w g2 E2 hw => ?_⟩
    cases hw
    obtain ⟨p', vs', e', hp', fp', hd'⟩ := E2.at_ i _ hi
    rw [e] at e'
    cases e'
    have hl : j < vs'.length := by rw [hd'.length]; exact hj
    refine ⟨p, vs', (j : Int), j, rfl, rfl, hp', by unfold ixN; rw [if_pos (by omega), if_pos (by omega)]; rfl, k.nx _ F2 _ σ hn (((S.step g1 E1).step g2 E2).change hi e ?_)⟩
    exact hd'.set ((dR d).mono g2.fe hv) j
/-- from here on an own list is not changed any more -/
theorem sv_freeze {i : Nat} {ds : List PyData} (hi : ρ[i]? = some (.own ds)) (h : Sv G t (ρ.set i (.rel (dR (.list ds)))) P) : Sv G t ρ P := fun Y F H σ S D k => by
  obtain ⟨p, vs, e, hp, fp, hd⟩ := S.env.at_ i _ hi
  have nA : ¬ G.A p := (S.env.mineAt hi trivial e).2.2
  have Yp := S.own i ds p hi e
  have hl := (List.getElem?_eq_some_iff.mp hi).1
  -- the slot forgotten, then frozen, then told
  have E0 : EnvOk G (ρ.set i .un) F H σ := by
    refine ⟨S.env.sub, by rw [List.length_set]; exact S.env.len, fun j s hs => ?_, fun j k s s' a h1 h2 m1 m2 e1 e2 => ?_, S.env.glob, S.env.tab⟩
    · by_cases hj : j = i
      · subst hj
        rw [List.getElem?_set_self hl] at hs
        cases hs
        trivial
      · rw [List.getElem?_set_ne (Ne.symm hj)] at hs
        exact S.env.at_ j s hs
    · have fix : ∀ (j : Nat) (s : Slot), (ρ.set i .un)[j]? = some s → s.mine → ρ[j]? = some s := fun j s h m => by
        by_cases hj : j = i
        · subst hj
          rw [List.getElem?_set_self hl] at h
          cases h
          exact m.elim
        · rw [List.getElem?_set_ne (Ne.symm hj)] at h
          exact h
      exact S.env.dj j k s s' a (fix j s h1 m1) (fix k s' h2 m2) m1 m2 e1 e2
  have n0 : ∀ (j : Nat) (s : Slot), (ρ.set i .un)[j]? = some s → s.mine → σ[j]? ≠ some (some (.ref p)) := fun j s hs m z => by
    by_cases hj : j = i
    · subst hj
      rw [List.getElem?_set_self hl] at hs
      cases hs
      exact m.elim
    · rw [List.getElem?_set_ne (Ne.symm hj)] at hs
      exact hj (S.env.dj j i s _ p hs hi m trivial z e)
  have E1 : EnvOk G (ρ.set i .un) (upd F p (.lst vs)) H σ := E0.freeze hp fp n0 nA
  have sm : Same F (upd F p (.lst vs)) := fun a u q => by rw [upd_ne (ne_of_none q fp)]; exact q
  have E2 := E1.set (R := dR (.list ds)) (v := .ref p) i (.lst upd_same (DqAll.mono sm _ _ hd))
  rw [List.set_set] at E2
  have es : σ.set i (some (.ref p)) = σ := by
    apply List.ext_getElem?
    intro j
    by_cases hj : i = j
    · subst hj
      have hl := (List.getElem?_eq_some_iff.mp e).1
      rw [List.getElem?_set_self hl, e]
    · rw [List.getElem?_set_ne hj]
  rw [es] at E2
  have par : EnvOk G Y.ρ (upd F p (.lst vs)) H Y.σ := S.par.freeze hp fp (fun j s hs m z => by
    cases s with
    | un => exact m
    | rel R => exact m
    | own ds' => exact S.po j ds' hs
    | mvl sh => exact S.ph j sh p hs z Yp) nA
  have S1 : StOk G Y ρ F H σ := S
  refine h Y (upd F p (.lst vs)) H σ ⟨E2, ⟨S.gr.ext, S.gr.keep, S.gr.fe.trans sm, E2.sub, fun a h1 h2 => ?_, S.gr.exts⟩, par, S.ph, S.po, fun j es q h1 h2 => ?_, fun j sh q h1 h2 => ?_⟩ D k
  · by_cases z : a = p
    · rw [z]; exact Yp
    · rw [upd_ne z] at h2
      exact S.gr.sep a h1 h2
  · by_cases hj : j = i
    · exact absurd trivial (set_notmine hj h1)
    · rw [List.getElem?_set_ne (Ne.symm hj)] at h1
      exact S.own j es q h1 h2
  · by_cases hj : j = i
    · exact absurd trivial (set_notmine hj h1)
    · rw [List.getElem?_set_ne (Ne.symm hj)] at h1
      exact S.mvl j sh q h1 h2
/-! ### loops -/
/-- the frozen part of the entry may be taken as it is now -/
theorem StOk.base {Y : Yc} {F H : Hp} {σ : St} (S : StOk G Y ρ F H σ) : StOk G { Y with F := F } ρ F H σ :=
  ⟨S.env, ⟨S.gr.ext, S.gr.keep, Same.refl F, S.gr.fh, fun a h1 h2 => absurd h1 h2, S.gr.exts⟩, S.par, S.ph, S.po, S.own, S.mvl⟩
theorem StOk.unbase {Y : Yc} {F H F' H' : Hp} {σ σ' : St} (S : StOk G Y ρ F H σ) (S' : StOk G { Y with F := F } ρ1 F' H' σ') : StOk G Y ρ1 F' H' σ' :=
  ⟨S'.env, ⟨S'.gr.ext, S'.gr.keep, S.gr.fe.trans S'.gr.fe, S'.gr.fh, fun a h1 h2 => by
    by_cases q : F a = none
    · exact S'.gr.sep a q h2
    · exact S.gr.sep a h1 q, S'.gr.exts⟩, S'.par, S'.ph, S'.po, S'.own, S'.mvl⟩
theorem sv_for {α : Type} {xs : List α} {Rx : α → Rel} {wi : TI} (J : Nat → List Slot → Prop) (hi : EvI G wi ρ (xs.map Rx)) (h0 : J 0 ρ)
    (hturn : ∀ (i : Nat) (x : α) (ρ1 : List Slot), xs[i]? = some x → J i ρ1 → ∃ ρ2 is, TgOk G g (Rx x) ρ1 ρ2 is ∧ Sv G t ρ2 { nx := J (i + 1), rt := P.rt, bk := P.nx, ct := J (i + 1) })
    (hd : ∀ ρ1, J xs.length ρ1 → P.nx ρ1) : Sv G (tFor wi g t) ρ P := fun Y F H σ S D k => hi F H σ S.env _ fun F1 H1 I g1 E1 hI => by
  have S1 := S.step g1 E1
  refine ⟨fun i m σ' H' => m = xs.length - i ∧ i ≤ xs.length ∧ ∃ ρ1 F', J i ρ1 ∧ StOk G { Y with F := F1 } ρ1 F' H' σ', ⟨xs.length, by omega, Nat.zero_le _, ρ, F1, h0, S1.base⟩, ?_⟩
  rintro i m σ' H' ⟨rfl, hi, ρ1, F', hJ, S2⟩
  obtain ⟨hstop, hgo⟩ := hI F' H' S2.gr.fe S2.env.sub
  rw [List.length_map] at hstop
  by_cases hlt : i < xs.length
  · have ex : xs[i]? = some xs[i] := List.getElem?_eq_getElem hlt
    obtain ⟨go, yl⟩ := hgo i (Rx xs[i]) (by rw [List.getElem?_map, ex]; rfl)
    refine .inr ⟨go, fun σ'' H'' => ∃ ρ1 F', J (i + 1) ρ1 ∧ StOk G { Y with F := F1 } ρ1 F' H'' σ'', fun σ'' H'' h => ⟨xs.length - (i + 1), by omega, rfl, hlt, h⟩, fun x H3 hy => ?_⟩
    obtain ⟨F3, g3, hx⟩ := yl x H3 hy
    have S3 := S2.step g3.of0 (S2.env.grow0 g3)
    obtain ⟨ρ2, is, tg, body⟩ := hturn i xs[i] ρ1 ex hJ
    refine tg F3 H3 σ' x S3.env hx _ fun σ4 E4 l4 k4 m4 => ?_
    refine body _ F3 H3 σ4 (S3.tg E4 k4 m4) _ ⟨fun ρ F H σ z S => ⟨ρ, F, z, S⟩, fun ρ F H σ v R z S hv => k.rt ρ F H σ v R z (S1.unbase S) hv, fun ρ F H σ z S => k.nx ρ F H σ z (S1.unbase S), fun ρ F H σ z S => ⟨ρ, F, z, S⟩⟩
  · have e : i = xs.length := by omega
    refine .inl ⟨by rw [e]; exact hstop, ?_⟩
    exact k.nx ρ1 F' H' σ' (hd ρ1 (by rw [← e]; exact hJ)) (S1.unbase S2)
end
end Dx
set_option Elab.async false
set_option linter.all false
set_option maxRecDepth 100000
/-! DxFn: promises of defs over slots, calls of them, bodies. -/
namespace Dx
open PySem L2

/-! ### reading an own list for the while of one expression -/
def Flat (R : Rel) : Prop := ∀ F F' v, R.p F v → R.p F' v
theorem flat_int {i : Int} : Flat (dI i) := fun F F' v h => by cases h; exact .int i
theorem flat_bl {b : Bool} : Flat (dB b) := fun F F' v h => by cases h; exact .bl b
theorem flat_str {x : Str} : Flat (dR (.str x)) := fun F F' v h => by cases h; exact .str x
theorem flat_non : Flat (dR .none) := fun F F' v h => by cases h; exact .non
theorem flat_ex {α : Sort _} {R : α → Rel} (h : ∀ x, Flat (R x)) : Flat (rEx R) := fun F F' v ⟨x, q⟩ => ⟨x, h x F F' v q⟩
section
variable {G : Glob} {K : PySem.W.Frag} {ρ ρ1 ρ2 : List Slot} {P : Post} {te ta tb : TE} {tt : TT} {t u : TS} {g : TG} {R : Rel} {Rs : List Rel} {is : List Nat}
/-- an own slot forgotten, then frozen -/
theorem EnvOk.unown {F H : Hp} {σ : St} {i : Nat} {ds : List PyData} {p : Addr} {vs : List V} (E : EnvOk G ρ F H σ) (hi : ρ[i]? = some (.own ds)) (e : σ[i]? = some (some (.ref p))) (hp : H p = some (.lst vs)) (fp : F p = none) (hd : DqAll F vs ds) :
    EnvOk G (ρ.set i (.rel (dR (.list ds)))) (upd F p (.lst vs)) H σ := by
  have nA : ¬ G.A p := (E.mineAt hi trivial e).2.2
  have hl := (List.getElem?_eq_some_iff.mp hi).1
  have E0 : EnvOk G (ρ.set i .un) F H σ := by
    refine ⟨E.sub, by rw [List.length_set]; exact E.len, fun j s hs => ?_, fun j k s s' a h1 h2 m1 m2 e1 e2 => ?_, E.glob, E.tab⟩
    · by_cases hj : j = i
      · subst hj
        rw [List.getElem?_set_self hl] at hs
        cases hs
        trivial
      · rw [List.getElem?_set_ne (Ne.symm hj)] at hs
        exact E.at_ j s hs
    · have fix : ∀ (j : Nat) (s : Slot), (ρ.set i .un)[j]? = some s → s.mine → ρ[j]? = some s := fun j s h m => by
        by_cases hj : j = i
        · subst hj
          rw [List.getElem?_set_self hl] at h
          cases h
          exact m.elim
        · rw [List.getElem?_set_ne (Ne.symm hj)] at h
          exact h
      exact E.dj j k s s' a (fix j s h1 m1) (fix k s' h2 m2) m1 m2 e1 e2
  have n0 : ∀ (j : Nat) (s : Slot), (ρ.set i .un)[j]? = some s → s.mine → σ[j]? ≠ some (some (.ref p)) := fun j s hs m z => by
    by_cases hj : j = i
    · subst hj
      rw [List.getElem?_set_self hl] at hs
      cases hs
      exact m.elim
    · rw [List.getElem?_set_ne (Ne.symm hj)] at hs
      exact hj (E.dj j i s _ p hs hi m trivial z e)
  have E1 : EnvOk G (ρ.set i .un) (upd F p (.lst vs)) H σ := E0.freeze hp fp n0 nA
  have sm : Same F (upd F p (.lst vs)) := fun a u q => by rw [upd_ne (ne_of_none q fp)]; exact q
  have E2 := E1.set (R := dR (.list ds)) (v := .ref p) i (.lst upd_same (DqAll.mono sm _ _ hd))
  rw [List.set_set] at E2
  have es : σ.set i (some (.ref p)) = σ := by
    apply List.ext_getElem?
    intro j
    by_cases hj : i = j
    · subst hj
      have hl := (List.getElem?_eq_some_iff.mp e).1
      rw [List.getElem?_set_self hl, e]
    · rw [List.getElem?_set_ne hj]
  rw [es] at E2
  exact E2
theorem borrow_core {F H : Hp} {σ : St} {i : Nat} {ds : List PyData} {p : Addr} {vs : List V} (E : EnvOk G ρ F H σ) (hi : ρ[i]? = some (.own ds)) (e : σ[i]? = some (some (.ref p))) (hp : H p = some (.lst vs)) (fp : F p = none) (hd : DqAll F vs ds)
    {F' H' : Hp} (g : Gr (Ch G (ρ.set i (.rel (dR (.list ds)))) σ) (upd F p (.lst vs)) H F' H') (E' : EnvOk G (ρ.set i (.rel (dR (.list ds)))) F' H' σ) :
    Gr (Ch G ρ σ) F H (fun a => if a = p then none else F' a) H' ∧ EnvOk G ρ (fun a => if a = p then none else F' a) H' σ := by
  have nA : ¬ G.A p := (E.mineAt hi trivial e).2.2
  have hl := (List.getElem?_eq_some_iff.mp hi).1
  have ch : ∀ a, Ch G (ρ.set i (.rel (dR (.list ds)))) σ a → Ch G ρ σ a := fun a ha => by
    rcases ha with ⟨j, sh, h1, h2⟩ | ha
    · by_cases hj : j = i
      · exact absurd trivial (set_notmine hj h1)
      · rw [List.getElem?_set_ne (Ne.symm hj)] at h1
        exact .inl ⟨j, sh, h1, h2⟩
    · exact .inr ha
  have nch : ¬ Ch G (ρ.set i (.rel (dR (.list ds)))) σ p := fun z => by
    rcases z with ⟨j, sh, h1, h2⟩ | z
    · by_cases hj : j = i
      · exact absurd trivial (set_notmine hj h1)
      · rw [List.getElem?_set_ne (Ne.symm hj)] at h1
        exact hj (E.dj j i _ _ p h1 hi trivial trivial h2 e)
    · exact nA z
  have hp' : H' p = some (.lst vs) := g.ext p _ nch hp
  have fp' : F' p = some (.lst vs) := g.fe p _ upd_same
  have fe : Same F fun a => if a = p then none else F' a := fun a o h => by
    have hne : a ≠ p := ne_of_none h fp
    show (if a = p then none else F' a) = some o
    rw [if_neg hne]
    exact g.fe a o (by rw [upd_ne hne]; exact h)
  have fh : Same (fun a => if a = p then none else F' a) H' := fun a o h => by
    have h' : (if a = p then none else F' a) = some o := h
    by_cases z : a = p
    · rw [if_pos z] at h'; cases h'
    · rw [if_neg z] at h'
      exact g.fh a o h'
  have ff : (fun a => if a = p then none else F' a) p = (none : Option HO) := if_pos rfl
  have fn : ∀ a, F' a = none → (fun a => if a = p then none else F' a) a = (none : Option HO) := fun a h => by
    show (if a = p then none else F' a) = none
    by_cases z : a = p
    · rw [if_pos z]
    · rw [if_neg z]; exact h
  refine ⟨⟨fun a o m h => g.ext a o (fun z => m (ch a z)) h, g.keep, fe, fh, fun a h1 h2 => ?_, g.exts⟩, ⟨fh, E.len, fun j s hs => ?_, E.dj, E'.glob, fun a ha => ⟨fn a (E'.tab a ha).1, (E'.tab a ha).2⟩⟩⟩
  · have h2' : (if a = p then none else F' a) ≠ none := h2
    by_cases z : a = p
    · rw [if_pos z] at h2'; exact absurd rfl h2'
    · rw [if_neg z] at h2'
      exact g.sep a (by rw [upd_ne z]; exact h1) h2'
  · have q := E.at_ j s hs
    by_cases hj : j = i
    · subst hj
      rw [hi] at hs
      cases hs
      exact ⟨p, vs, e, hp', ff, DqAll.mono fe _ _ hd⟩
    · have hs' : (ρ.set i (.rel (dR (.list ds))))[j]? = some s := by rw [List.getElem?_set_ne (Ne.symm hj)]; exact hs
      have q' := E'.at_ j s hs'
      cases s with
      | un => trivial
      | rel R =>
        obtain ⟨v, e1, e2⟩ := q
        exact ⟨v, e1, R.mono fe e2⟩
      | own es =>
        obtain ⟨a, ws, e1, ha, fa, hd2⟩ := q
        obtain ⟨a', ws', e1', ha', fa', _⟩ := q'
        rw [e1] at e1'
        cases e1'
        have na : ¬ Ch G (ρ.set i (.rel (dR (.list ds)))) σ a := fun z => by
          rcases z with ⟨k, sh, h1, h2⟩ | z
          · by_cases hk : k = i
            · exact absurd trivial (set_notmine hk h1)
            · rw [List.getElem?_set_ne (Ne.symm hk)] at h1
              have ek : k = j := E.dj k j _ _ a h1 hs trivial trivial h2 e1
              subst ek
              rw [hs] at h1
              cases h1
          · exact (E.mineAt hs trivial e1).2.2 z
        exact ⟨a, ws, e1, g.ext a _ na ha, fn a fa', DqAll.mono fe _ _ hd2⟩
      | mvl sh =>
        obtain ⟨a, o, e1, ha, fa, hsh, nt⟩ := q'
        exact ⟨a, o, e1, ha, fn a fa, hsh, nt⟩
theorem ev_borrow {i : Nat} {ds : List PyData} (hi : ρ[i]? = some (.own ds)) (h : Ev G te (ρ.set i (.rel (dR (.list ds)))) R) (hf : Flat R) : Ev G te ρ R := fun F H σ E Q q => by
  obtain ⟨p, vs, e, hp, fp, hd⟩ := E.at_ i _ hi
  refine h _ H σ (E.unown hi e hp fp hd) Q fun F' H' v g E' hv => ?_
  obtain ⟨g2, E2⟩ := borrow_core E hi e hp fp hd g E'
  exact q _ H' v g2 E2 (hf _ _ _ hv)
theorem et_borrow {i : Nat} {b : Bool} {ds : List PyData} (hi : ρ[i]? = some (.own ds)) (h : EvT G tt (ρ.set i (.rel (dR (.list ds)))) b) : EvT G tt ρ b := fun F H σ E Q q => by
  obtain ⟨p, vs, e, hp, fp, hd⟩ := E.at_ i _ hi
  refine h _ H σ (E.unown hi e hp fp hd) Q fun F' H' g E' => ?_
  obtain ⟨g2, E2⟩ := borrow_core E hi e hp fp hd g E'
  exact q _ H' g2 E2

/-! ### promises -/
/-- the promise over slots of the arguments: what is handed back is so related, what may change keeps its shape -/
def spS (G : Glob) (post : List Slot → Rel → Prop) : Sp := fun vs H Q _ => ∃ (F : Hp) (ρ : List Slot) (R : Rel), EnvOk G ρ F H (vs.map some) ∧ post ρ R ∧
  ∀ F' H' v, Gr (Ch G ρ (vs.map some)) F H F' H' → EnvOk G ρ F' H' (vs.map some) → R.p F' v → Q v H'
inductive Arg where
  | rel (R : Rel)
  | mvl (i : Nat) (sh : HO → Prop)
def Arg.slot : Arg → Slot
  | .rel R => .rel R
  | .mvl _ sh => .mvl sh
def mvlIx : List Arg → List Nat
  | [] => []
  | .rel _ :: r => mvlIx r
  | .mvl i _ :: r => i :: mvlIx r
inductive ArgsOk (ρ : List Slot) (σ : St) (F : Hp) : List V → List Arg → Prop
  | nil : ArgsOk ρ σ F [] []
  | rel {v : V} {R : Rel} {vs : List V} {As : List Arg} : R.p F v → ArgsOk ρ σ F vs As → ArgsOk ρ σ F (v :: vs) (.rel R :: As)
  | mvl {a : Addr} {i : Nat} {sh : HO → Prop} {vs : List V} {As : List Arg} : ρ[i]? = some (.mvl sh) → σ[i]? = some (some (.ref a)) → ArgsOk ρ σ F vs As → ArgsOk ρ σ F (.ref a :: vs) (.mvl i sh :: As)
theorem ArgsOk.mono {σ : St} {F F' : Hp} (e : Same F F') : ∀ {vs : List V} {As : List Arg}, ArgsOk ρ σ F vs As → ArgsOk ρ σ F' vs As
  | _, _, .nil => .nil
  | _, _, .rel (R := R) h t => .rel (R.mono e h) (ArgsOk.mono e t)
  | _, _, .mvl h1 h2 t => .mvl h1 h2 (ArgsOk.mono e t)
theorem ArgsOk.length {σ : St} {F : Hp} : ∀ {vs : List V} {As : List Arg}, ArgsOk ρ σ F vs As → vs.length = As.length
  | _, _, .nil => rfl
  | _, _, .rel _ t => by rw [List.length_cons, List.length_cons, ArgsOk.length t]
  | _, _, .mvl _ _ t => by rw [List.length_cons, List.length_cons, ArgsOk.length t]
/-- a mutable argument comes from a slot of the caller -/
theorem ArgsOk.from_ {σ : St} {F : Hp} : ∀ {vs : List V} {As : List Arg} {j : Nat} {A : Arg}, ArgsOk ρ σ F vs As → As[j]? = some A → ∃ v, vs[j]? = some v ∧ (match A with | .rel R => R.p F v | .mvl i sh => ∃ a, v = .ref a ∧ ρ[i]? = some (.mvl sh) ∧ σ[i]? = some (some (.ref a)))
  | _, _, _, _, .nil, e => by simp at e
  | _, _, 0, _, .rel h _, e => by
    simp at e; subst e; exact ⟨_, rfl, h⟩
  | _, _, 0, _, .mvl h1 h2 _, e => by
    simp at e; subst e; exact ⟨_, rfl, _, rfl, h1, h2⟩
  | _, _, j + 1, A, .rel _ t, e => by
    obtain ⟨v, h1, h2⟩ := ArgsOk.from_ (j := j) t (by simpa using e)
    exact ⟨v, by simpa using h1, h2⟩
  | _, _, j + 1, A, .mvl _ _ t, e => by
    obtain ⟨v, h1, h2⟩ := ArgsOk.from_ (j := j) t (by simpa using e)
    exact ⟨v, by simpa using h1, h2⟩
theorem mvlIx_at : ∀ {As : List Arg} {j : Nat} {i : Nat} {sh : HO → Prop}, As[j]? = some (.mvl i sh) → i ∈ mvlIx As
  | [], _, _, _, h => by simp at h
  | .rel R :: As, 0, _, _, h => by simp at h
  | .rel R :: As, j + 1, i, sh, h => mvlIx_at (As := As) (j := j) (by simpa using h)
  | .mvl k s :: As, 0, i, sh, h => by
    simp at h
    rw [h.1]
    exact List.mem_cons_self
  | .mvl k s :: As, j + 1, i, sh, h => List.mem_cons_of_mem _ (mvlIx_at (As := As) (j := j) (by simpa using h))
theorem mvlIx_inj : ∀ {As : List Arg} {j k : Nat} {i : Nat} {sh sh' : HO → Prop}, (mvlIx As).Nodup → As[j]? = some (.mvl i sh) → As[k]? = some (.mvl i sh') → j = k
  | [], _, _, _, _, _, _, h, _ => by simp at h
  | .rel R :: As, 0, _, _, _, _, _, h, _ => by simp at h
  | .rel R :: As, j + 1, 0, _, _, _, _, _, h => by simp at h
  | .rel R :: As, j + 1, k + 1, i, sh, sh', nd, h1, h2 => congrArg (· + 1) (mvlIx_inj (As := As) (j := j) (k := k) (i := i) (sh := sh) (sh' := sh') nd (by simpa using h1) (by simpa using h2))
  | .mvl a s :: As, 0, 0, i, sh, sh', nd, h1, h2 => rfl
  | .mvl a s :: As, 0, k + 1, i, sh, sh', nd, h1, h2 => by
    simp at h1
    have hm := mvlIx_at (As := As) (j := k) (i := i) (sh := sh') (by simpa using h2)
    rw [← h1.1] at hm
    exact absurd hm (List.nodup_cons.mp nd).1
  | .mvl a s :: As, j + 1, 0, i, sh, sh', nd, h1, h2 => by
    simp at h2
    have hm := mvlIx_at (As := As) (j := j) (i := i) (sh := sh) (by simpa using h1)
    rw [← h2.1] at hm
    exact absurd hm (List.nodup_cons.mp nd).1
  | .mvl a s :: As, j + 1, k + 1, i, sh, sh', nd, h1, h2 => congrArg (· + 1) (mvlIx_inj (As := As) (j := j) (k := k) (i := i) (sh := sh) (sh' := sh') (List.nodup_cons.mp nd).2 (by simpa using h1) (by simpa using h2))
/-- an argument list -/
def EvAS (G : Glob) (ta : TA) (ρ : List Slot) (As : List Arg) : Prop := ∀ (F H : Hp) (σ : St), EnvOk G ρ F H σ → ∀ Q : List V → Hp → Prop, (∀ F' H' vs, Gr (Ch G ρ σ) F H F' H' → EnvOk G ρ F' H' σ → ArgsOk ρ σ F' vs As → Q vs H') → ta σ H Q
theorem as_nil : EvAS G tNil ρ [] := fun F H σ E Q q => q F H [] (Gr.refl E.sub) E .nil
theorem as_rel {tr : TA} {As : List Arg} (h : Ev G ta ρ R) (hr : EvAS G tr ρ As) : EvAS G (tCons ta tr) ρ (.rel R :: As) := fun F H σ E Q q =>
  h F H σ E _ fun F1 H1 x g1 E1 hx => hr F1 H1 σ E1 _ fun F2 H2 xs g2 E2 hxs => q F2 H2 (x :: xs) (g1.trans g2) E2 (.rel (R.mono g2.fe hx) hxs)
theorem as_mvl {tr : TA} {As : List Arg} {i : Nat} {sh : HO → Prop} (h : ρ[i]? = some (.mvl sh)) (hr : EvAS G tr ρ As) : EvAS G (tCons (tVar i) tr) ρ (.mvl i sh :: As) := fun F H σ E Q q => by
  obtain ⟨p, o, e, _⟩ := E.at_ i _ h
  exact ⟨.ref p, e, hr F H σ E _ fun F2 H2 xs g2 E2 hxs => q F2 H2 (.ref p :: xs) g2 E2 (.mvl h e hxs)⟩
theorem ArgsOk.env {F H : Hp} {σ : St} {vs : List V} {As : List Arg} (E : EnvOk G ρ F H σ) (h : ArgsOk ρ σ F vs As) (nd : (mvlIx As).Nodup) : EnvOk G (As.map Arg.slot) F H (vs.map some) := by
  have mv : ∀ (j : Nat) (s : Slot) (a : Addr), (As.map Arg.slot)[j]? = some s → s.mine → (vs.map some)[j]? = some (some (.ref a)) → ∃ i sh, As[j]? = some (.mvl i sh) ∧ s = .mvl sh ∧ ρ[i]? = some (.mvl sh) ∧ σ[i]? = some (some (.ref a)) := fun j s a hs m ha => by
    rw [List.getElem?_map] at hs
    cases hA : As[j]? with
    | none => rw [hA] at hs; cases hs
    | some A =>
      rw [hA] at hs
      cases hs
      obtain ⟨v, h1, h2⟩ := h.from_ hA
      cases A with
      | rel R => exact m.elim
      | mvl i sh =>
        obtain ⟨b, rfl, h3, h4⟩ := h2
        rw [List.getElem?_map, h1] at ha
        cases ha
        exact ⟨i, sh, rfl, rfl, h3, h4⟩
  refine ⟨E.sub, by rw [List.length_map, List.length_map]; exact h.length, fun j s hs => ?_, fun j k s s' a h1 h2 m1 m2 e1 e2 => ?_, E.glob, E.tab⟩
  · rw [List.getElem?_map] at hs
    cases hA : As[j]? with
    | none => rw [hA] at hs; cases hs
    | some A =>
      rw [hA] at hs
      cases hs
      obtain ⟨v, h1, h2⟩ := h.from_ hA
      have hv : (vs.map some)[j]? = some (some v) := by rw [List.getElem?_map, h1]; rfl
      cases A with
      | rel R => exact ⟨v, hv, h2⟩
      | mvl i sh =>
        obtain ⟨a, rfl, h3, h4⟩ := h2
        obtain ⟨p, o, e, hp, fp, hsh, nt⟩ := E.at_ i _ h3
        rw [h4] at e
        cases e
        exact ⟨a, o, hv, hp, fp, hsh, nt⟩
  · obtain ⟨i1, sh1, a1, rfl, b1, c1⟩ := mv j s a h1 m1 e1
    obtain ⟨i2, sh2, a2, rfl, b2, c2⟩ := mv k s' a h2 m2 e2
    have ei : i1 = i2 := E.dj i1 i2 _ _ a b1 b2 trivial trivial c1 c2
    subst ei
    exact mvlIx_inj nd a1 a2
/-- the caller's slots behind a call -/
theorem call_back {F H F' H' : Hp} {σ : St} {vs : List V} {As : List Arg} (E : EnvOk G ρ F H σ) (h : ArgsOk ρ σ F vs As) (g : Gr (Ch G (As.map Arg.slot) (vs.map some)) F H F' H') (E' : EnvOk G (As.map Arg.slot) F' H' (vs.map some)) :
    Gr (Ch G ρ σ) F H F' H' ∧ EnvOk G ρ F' H' σ := by
  have fr : ∀ (j : Nat) (sh : HO → Prop) (a : Addr), (As.map Arg.slot)[j]? = some (.mvl sh) → (vs.map some)[j]? = some (some (.ref a)) → ∃ i : Nat, ρ[i]? = some (.mvl sh) ∧ σ[i]? = some (some (.ref a)) := fun j sh a hs ha => by
    rw [List.getElem?_map] at hs
    cases hA : As[j]? with
    | none => rw [hA] at hs; cases hs
    | some A =>
      rw [hA] at hs
      obtain ⟨v, h1, h2⟩ := h.from_ hA
      cases A with
      | rel R => cases hs
      | mvl i sh' =>
        cases hs
        obtain ⟨b, rfl, h3, h4⟩ := h2
        rw [List.getElem?_map, h1] at ha
        cases ha
        exact ⟨i, h3, h4⟩
  have ch : ∀ a, Ch G (As.map Arg.slot) (vs.map some) a → Ch G ρ σ a := fun a ha => by
    rcases ha with ⟨j, sh, h1, h2⟩ | ha
    · obtain ⟨i, k1, k2⟩ := fr j sh a h1 h2
      exact .inl ⟨i, sh, k1, k2⟩
    · exact .inr ha
  refine ⟨g.mono ch, ⟨g.fh, E.len, fun i s hs => ?_, E.dj, E'.glob, E'.tab⟩⟩
  have q := E.at_ i s hs
  by_cases hm : s.mine
  · by_cases hc : ∃ a, σ[i]? = some (some (.ref a)) ∧ MutAt (As.map Arg.slot) (vs.map some) a
    · obtain ⟨a, ha, j, sh, h1, h2⟩ := hc
      obtain ⟨i', k1, k2⟩ := fr j sh a h1 h2
      have ei : i' = i := E.dj i' i _ s a k1 hs trivial hm k2 ha
      subst ei
      rw [hs] at k1
      cases k1
      obtain ⟨p, o, e, hp, fp, hsh, nt⟩ := E'.at_ j _ h1
      rw [h2] at e
      cases e
      exact ⟨a, o, ha, hp, fp, hsh, nt⟩
    · refine q.grow g fun p m e z => ?_
      rcases z with z | z
      · exact hc ⟨p, e, z⟩
      · exact (E.mineAt hs m e).2.2 z
  · refine q.grow g fun p m e z => hm m
theorem ev_call {post : List Slot → Rel → Prop} {tas : TA} {As : List Arg} {X : XK} (ha : EvAS G tas ρ As) (hp : post (As.map Arg.slot) R) (nd : (mvlIx As).Nodup := by first | exact List.nodup_nil | simp [mvlIx]) : Ev G (tCall (spS G post) [] X tas) ρ R := fun F H σ E Q q =>
  ha F H σ E _ fun F1 H1 vs g1 E1 hv => by
    show spS G post (vs ++ []) H1 Q X
    rw [List.append_nil]
    refine ⟨F1, As.map Arg.slot, R, hv.env E1 nd, hp, fun F' H' v g E' hr => ?_⟩
    obtain ⟨g2, E2⟩ := call_back E1 hv g E'
    exact q F' H' v (g1.trans g2) E2 hr
/-! ### bodies -/
/-- what is wanted of a body that hands back R -/
def Post.ret (R : Rel) : Post := { nx := fun _ => (dR .none).le R, rt := fun R' => R'.le R }
def startR (n : Nat) (ρ : List Slot) : List Slot := ρ ++ List.replicate (n - ρ.length) .un
theorem EnvOk.start {F H : Hp} {N : List Str} {vs : List V} (E : EnvOk G ρ F H (vs.map some)) : EnvOk G (startR N.length ρ) F H (L2.start N vs) := by
  have el : vs.length = ρ.length := by have := E.len; rw [List.length_map] at this; exact this
  have up : ∀ (i : Nat) (s : Slot), (startR N.length ρ)[i]? = some s → s = .un ∨ (ρ[i]? = some s ∧ (L2.start N vs)[i]? = (vs.map some)[i]?) := fun i s hs => by
    unfold startR at hs
    by_cases hi : i < ρ.length
    · rw [List.getElem?_append_left hi] at hs
      refine .inr ⟨hs, ?_⟩
      unfold L2.start
      rw [List.getElem?_append_left (by rw [List.length_map]; omega)]
    · rw [List.getElem?_append_right (by omega), List.getElem?_replicate] at hs
      split at hs
      · exact .inl (Option.some.inj hs).symm
      · cases hs
  refine ⟨E.sub, ?_, fun i s hs => ?_, fun i j s s' a h1 h2 m1 m2 e1 e2 => ?_, E.glob, E.tab⟩
  · unfold startR L2.start
    rw [List.length_append, List.length_append, List.length_map, List.length_replicate, List.length_replicate, el]
  · rcases up i s hs with z | ⟨z1, z2⟩
    · rw [z]; trivial
    · rw [z2]; exact E.at_ i s z1
  · rcases up i s h1 with z | ⟨z1, z2⟩
    · rw [z] at m1; exact m1.elim
    · rcases up j s' h2 with y | ⟨y1, y2⟩
      · rw [y] at m2; exact m2.elim
      · exact E.dj i j s s' a z1 y1 m1 m2 (by rw [← z2]; exact e1) (by rw [← y2]; exact e2)
theorem sv_body {F H : Hp} {N : List Str} {vs : List V} {Q : VK} (E : EnvOk G ρ F H (vs.map some)) (no : ∀ (j : Nat) (ds : List PyData), ρ[j]? ≠ some (.own ds)) (h : Sv G t (startR N.length ρ) (Post.ret R))
    (q : ∀ F' H' v, Gr (Ch G ρ (vs.map some)) F H F' H' → EnvOk G ρ F' H' (vs.map some) → R.p F' v → Q v H') : t { nx := fun _ H' => Q .non H', rt := Q } (L2.start N vs) H := by
  have el : vs.length = ρ.length := by have := E.len; rw [List.length_map] at this; exact this
  have up : ∀ (i : Nat) (s : Slot), (startR N.length ρ)[i]? = some s → s.mine → ρ[i]? = some s ∧ (L2.start N vs)[i]? = (vs.map some)[i]? := fun i s hs m => by
    unfold startR at hs
    by_cases hi : i < ρ.length
    · rw [List.getElem?_append_left hi] at hs
      refine ⟨hs, ?_⟩
      unfold L2.start
      rw [List.getElem?_append_left (by rw [List.length_map]; omega)]
    · rw [List.getElem?_append_right (by omega), List.getElem?_replicate] at hs
      split at hs
      · cases hs; exact m.elim
      · cases hs
  refine h ⟨ρ, vs.map some, F, H⟩ F H (L2.start N vs) ⟨E.start, Gr.refl E.sub, E, fun j sh p h1 h2 => ?_, no, fun i ds p h1 h2 => ?_, fun i sh p h1 h2 => ?_⟩ _
    ⟨fun ρ' F' H' σ' e S => q F' H' .non S.gr S.par (e _ _ .non), fun ρ' F' H' σ' v R' e S hv => q F' H' v S.gr S.par (e _ _ hv), fun _ _ _ _ z _ => z.elim, fun _ _ _ _ z _ => z.elim⟩
  · obtain ⟨p', o, e, hp, _⟩ := E.at_ j _ h1
    rw [h2] at e
    cases e
    show H p ≠ none
    rw [hp]; exact fun z => by cases z
  · exact absurd (up i _ h1 trivial).1 (no i ds)
  · obtain ⟨k1, k2⟩ := up i _ h1 trivial
    exact .inr ⟨i, k1, by rw [← k2]; exact h2⟩
end

/-! ### defs -/
/-- a def of the module at its name -/
def DefAt (K : PySem.W.Frag) (mg : Str → Option Value) (name : Str) (st : Stmt) (f : Addr) (fd : FuncData) : Prop := Fun K name name st f fd ∧ mg name = some (.ref f)
/-- a def that keeps a promise, at its name -/
structure Cal (P : Program) (w : World) (K : PySem.W.Frag) (mg : Str → Option Value) (base : Heap) (name : Str) (k : Nat) (ps : List Str) (sp : Sp) : Prop where
  ex : ∃ (f : Addr) (fd : FuncData), FnOk P w K mg base CX0 k f fd ps sp ∧ mg name = some (.ref f) ∧ PySem.W.keepIn K (.ref f) = true ∧ Binds K fd ps []
theorem pe_cal {X : Cx} {name : Str} {k j : Nat} {ps : List Str} {sp : Sp} {p pos : Pos} {e : Expr} {es : List Expr} {t : TA} (C : Cal X.prog X.w X.K X.mg X.base name j ps sp) (hr : Room k X.A) (ha : PA X (e :: es) t) (hg : Gl X name := by rfl) (hj : j ≤ k := by first | decide | exact Nat.le_refl _ | omega)
    (hd : (name == ("__debug__" : Str)) = false := by decide)
    (he : starEach (e :: es) X.env = (false, eval e X.env) :: starEach es X.env := by rfl) (hpl : (backTo pos (starEach es X.env)).any (·.1) = false := by rfl) :
    PE X (.Call (.Name name p) (e :: es) [] pos) (tCall sp [] E0 t) := by
  obtain ⟨f, fd, F, hm, hk, hb⟩ := C.ex
  exact pe_call F (hr.mono hj) hg hm hk hb .nil pass0 ha hd he hpl
/-- THE RULE of a def -/
theorem cal_of {P : Program} {w : World} {K : PySem.W.Frag} {mg : Str → Option Value} {base : Heap} {G : Glob} {name : Str} {st : Stmt} {f : Addr} {fd : FuncData} {N ps : List Str} {k : Nat} {post : List Slot → Rel → Prop} (D : DefAt K mg name st f fd) (S : FnScope N ps (defScope st))
    (hb : Binds K fd ps []) (hl : ∀ ρ R, post ρ R → ρ.length = ps.length ∧ ∀ (j : Nat) (ds : List PyData), ρ[j]? ≠ some (.own ds))
    (hbody : ∀ (cdv : Value) (A : Around) (outer : List Env) (s : Shared) (H : Hp) (E : XK), Room k (A.deeper (PyProof.Rows.envOfC name (defScope st) s.heap.objs.size f cdv)) →
      ∃ t, PSs (cxOf CX0 P w K mg base N name (defScope st) f cdv A outer s H E).nox (defBody st) t ∧ ∀ ρ R, post ρ R → Sv G t (startR N.length ρ) (Post.ret R)) :
    Cal P w K mg base name (k + 1) ps (spS G post) := by
  refine ⟨f, fd, D.1.ok S (fun vs H Q E h => ?_) (fun cdv A outer s H vs Q E hr h => ?_), D.2, D.1.kp, hb⟩
  · obtain ⟨F, ρ, R, E, hp, _⟩ := h
    have := E.len
    rw [List.length_map] at this
    rw [this]
    exact (hl ρ R hp).1
  · obtain ⟨F, ρ, R, E', hp, q⟩ := h
    obtain ⟨t, ht, hs⟩ := hbody cdv A outer s H E hr
    exact ⟨t, ht, sv_body E' (hl ρ R hp).2 (hs ρ R hp) q⟩
/-- a promise that nobody can ask -/
theorem cal_none {P : Program} {w : World} {K : PySem.W.Frag} {mg : Str → Option Value} {base : Heap} {G : Glob} {name : Str} {st : Stmt} {f : Addr} {fd : FuncData} {ps : List Str} {post : List Slot → Rel → Prop} (D : DefAt K mg name st f fd) (hb : Binds K fd ps []) (no : ∀ ρ R, ¬ post ρ R) :
    Cal P w K mg base name 0 ps (spS G post) :=
  ⟨f, fd, ⟨fun vs H Q E ⟨_, ρ, R, _, h, _⟩ => absurd h (no ρ R), fun A outer s H args us vs Q E _ _ _ _ ⟨_, ρ, R, _, h, _⟩ => absurd h (no ρ R)⟩, D.2, D.1.kp, hb⟩
end Dx
set_option Elab.async false
set_option linter.all false
set_option maxRecDepth 100000
/-! DxOps: operations of the language over data: rules for readings that fit several kinds, and what they are worth. -/
namespace Dx
open PySem L2

/-! ### derivations that fit several kinds -/
section
variable {X : Cx}
theorem OpR.or {f : Value → Value → Sem Value} {r r' : R2} (h : OpR X f r) (h' : OpR X f r') : OpR X f (fun x y H Q => r x y H Q ∨ r' x y H Q) := by
  intro pins s σ H x y v u Q I rx ry q
  rcases q with q | q
  · exact h pins s σ H x y v u Q I rx ry q
  · exact h' pins s σ H x y v u Q I rx ry q
abbrev rPlus (K : PySem.W.Frag) : R2 := fun x y H Q => rI0 (fun i j => .int (i + j)) x y H Q ∨ (fun x y H Q => rCat x y H Q ∨ rCatA K x y H Q) x y H Q
/-- a + b: ints, lists, tuples -/
theorem op_plus : OpR X (binaryOp .Add) (rPlus X.K) := op_add.or (op_cat.or op_catA)
/-- ==, != of any data -/
theorem Room.u65 {k : Nat} {A : Around} (r : Room k A) : A.units + 65 < cLine := by have := r.un; omega
theorem PI_or {tg e : Expr} {w w' : TI} (h : PI X tg e w) (h' : PI X tg e w') : PI X tg e (fun σ H R => w σ H R ∨ w' σ H R) := ⟨fun pins s σ H R I q => by
  rcases q with q | q
  · exact h.run pins s σ H R I q
  · exact h'.run pins s σ H R I q⟩
abbrev iSeq (K : PySem.W.Frag) (tl : TE) : TI := fun σ H R => iList K tl σ H R ∨ iTup K tl σ H R
/-- for x in e: a list or a tuple -/
theorem pi_seq {tg l : Expr} {tl : TE} (h : PE X l tl) : PI X tg l (iSeq X.K tl) := PI_or (pi_list h) (pi_tup h)
theorem SlR_or {r r' : V → Option Int → Option Int → Hp → VK → Prop} (h : SlR X r) (h' : SlR X r') : SlR X (fun x lo hi H Q => r x lo hi H Q ∨ r' x lo hi H Q) := SlR.or h h'
abbrev rSlice (K : PySem.W.Frag) : V → Option Int → Option Int → Hp → VK → Prop := fun x lo hi H Q => rSlL K x lo hi H Q ∨ rSlA K x lo hi H Q
theorem sl_seq : SlR X (rSlice X.K) := sl_list.or sl_tupA
end

/-! ### what they are worth -/
theorem DqAll.ofRg {F : Hp} (a b : Int) : DqAll F (rgV a b) ((List.range (b - a).toNat).map fun (i : Nat) => PyData.int (a + (i : Int))) := by
  unfold rgV
  induction List.range (b - a).toNat with
  | nil => exact .nil
  | cons n r ih => exact .cons (.int _) ih
theorem new_lst {F H : Hp} {p : Addr} {vs : List V} {ds : List PyData} (s : Same F H) (hp : H p = none) (h : DqAll F vs ds) : Gr No F H (upd F p (.lst vs)) (upd H p (.lst vs)) ∧ Dq (upd F p (.lst vs)) (.ref p) (.list ds) := by
  have g : Gr No F H (upd F p (.lst vs)) (upd H p (.lst vs)) := Gr.new s hp
  exact ⟨g, .lst upd_same (DqAll.mono g.fe _ _ h)⟩
theorem new_tup {F H : Hp} {p : Addr} {vs : List V} {ds : List PyData} (s : Same F H) (hp : H p = none) (h : DqAll F vs ds) : Gr No F H (upd F p (.tup vs)) (upd H p (.tup vs)) ∧ Dq (upd F p (.tup vs)) (.ref p) (.tuple ds) := by
  have g : Gr No F H (upd F p (.tup vs)) (upd H p (.tup vs)) := Gr.new s hp
  exact ⟨g, .tup upd_same (DqAll.mono g.fe _ _ h)⟩
section
variable {G : Glob} {K : PySem.W.Frag} {ρ : List Slot} {te ta tb tl : TE} {tas : TA} {R : Rel} {Rs : List Rel}
theorem ei_seqL {ds : List PyData} (h : Ev G tl ρ (dR (.list ds))) : EvI G (iSeq K tl) ρ (ds.map dR) := (ei_listD h).inl
theorem ei_seqT {ds : List PyData} (h : Ev G tl ρ (dR (.tuple ds))) : EvI G (iSeq K tl) ρ (ds.map dR) := (ei_tupD h).inr
/-- with data written as f of something -/
theorem ei_mapL {α : Type} {xs : List α} {f : α → PyData} (h : Ev G tl ρ (dR (.list (xs.map f)))) : EvI G (iSeq K tl) ρ (xs.map fun x => dR (f x)) := by
  have q := ei_seqL (K := K) h
  rw [List.map_map] at q
  exact q
theorem ei_mapT {α : Type} {xs : List α} {f : α → PyData} (h : Ev G tl ρ (dR (.tuple (xs.map f)))) : EvI G (iSeq K tl) ρ (xs.map fun x => dR (f x)) := by
  have q := ei_seqT (K := K) h
  rw [List.map_map] at q
  exact q
theorem atI_data {F : Hp} {vs : List V} {ds : List PyData} {i : Int} {d : PyData} (h : DqAll F vs ds) (e : atI ds i = some d) : ∃ v, atI vs i = some v ∧ Dq F v d := by
  unfold atI at e ⊢
  rw [h.length]
  cases hk : ixN ds.length i with
  | none => rw [hk] at e; cases e
  | some j =>
    rw [hk] at e
    exact h.get (i := j) e
theorem atI_of {α : Type} {xs : List α} {i : Int} {j : Nat} {v : α} (hi : i = (j : Int)) (h : xs[j]? = some v) : atI xs i = some v := by
  rw [hi]; exact atI_nat h
theorem atI_end {α : Type} {xs : List α} {v : α} (h : xs.getLast? = some v) : atI xs (-1) = some v := by
  obtain ⟨ys, rfl⟩ : ∃ ys, xs = ys ++ [v] := by
    rw [List.getLast?_eq_some_iff] at h
    exact h
  exact atI_last ys v
theorem od_ixL {ds : List PyData} {i : Int} {d : PyData} (h : atI ds i = some d) : OpD (rIx K) (dR (.list ds)) (dI i) (dR d) := fun F H x y s ha hb Q q => by
  cases hb
  cases ha with
  | lst h1 h2 =>
    obtain ⟨v, e, hv⟩ := atI_data h2 h
    exact .inl ⟨_, _, i, v, rfl, rfl, SqL.of (s _ _ h1), e, q F H v (Gr.refl s) hv⟩
theorem od_ixT {ds : List PyData} {i : Int} {d : PyData} (h : atI ds i = some d) : OpD (rIx K) (dR (.tuple ds)) (dI i) (dR d) := fun F H x y s ha hb Q q => by
  cases hb
  cases ha with
  | tup h1 h2 =>
    obtain ⟨v, e, hv⟩ := atI_data h2 h
    exact .inr (.inl ⟨_, _, i, v, rfl, rfl, SqT.of (s _ _ h1), e, q F H v (Gr.refl s) hv⟩)
theorem od_plusI {i j : Int} : OpD (rPlus K) (dI i) (dI j) (dI (i + j)) := od_add.inl
theorem od_plusL {ds es : List PyData} (hz : ds.length + es.length ≤ 1000) : OpD (rPlus K) (dR (.list ds)) (dR (.list es)) (dR (.list (ds ++ es))) := fun F H x y s ha hb Q q => by
  cases ha with
  | lst h1 h2 =>
    cases hb with
    | lst h3 h4 =>
      refine .inr (.inl ⟨_, _, _, _, rfl, rfl, s _ _ h1, s _ _ h3, by rw [h2.length, h4.length]; exact Nat.le_of_lt (small1000 hz), fun p hp => ?_⟩)
      obtain ⟨g, k⟩ := new_lst s hp (h2.append h4)
      exact q _ _ _ g k
theorem od_plusT {ds es : List PyData} (hz : ds.length + es.length ≤ 1000) : OpD (rPlus K) (dR (.tuple ds)) (dR (.tuple es)) (dR (.tuple (ds ++ es))) := fun F H x y s ha hb Q q => by
  cases ha with
  | tup h1 h2 =>
    cases hb with
    | tup h3 h4 =>
      rename_i a xs b ys
      refine .inr (.inr ⟨_, _, _, _, rfl, rfl, SqT.of (s _ _ h1), SqT.of (s _ _ h3), by rw [h2.length, h4.length]; exact Nat.le_of_lt (small1000 hz), fun e => ?_, fun e e2 => ?_, fun _ _ p hp => ?_⟩)
      · subst e
        have : ds = [] := by have := h2.length; cases ds with | nil => rfl | cons _ _ => cases this
        subst this
        exact q F H _ (Gr.refl s) (.tup h3 h4)
      · subst e2
        have : es = [] := by have := h4.length; cases es with | nil => rfl | cons _ _ => cases this
        subst this
        rw [List.append_nil] at q
        exact q F H _ (Gr.refl s) (.tup h1 h2)
      · obtain ⟨g, k⟩ := new_tup s hp (h2.append h4)
        exact q _ _ _ g k
theorem ud_neg {i : Int} : UnD (rU fun i => .int (-i)) (dI i) (dI (-i)) := fun F H x s ha Q q => by
  cases ha
  exact ⟨i, rfl, q F H _ (Gr.refl s) (.int _)⟩
theorem od_minus {i j : Int} : OpD (rI0 fun i j => .int (i - j)) (dI i) (dI j) (dI (i - j)) := od_I0 fun F => .int _
theorem od_mul {i j : Int} (h : CMul i j) : OpD (rI CMul fun i j => .int (i * j)) (dI i) (dI j) (dI (i * j)) := od_I h fun F => .int _
theorem od_mod {i j : Int} (h : j ≠ 0) : OpD (rI (fun _ j => j ≠ 0) fun i j => .int (i.fmod j)) (dI i) (dI j) (dI (i.fmod j)) := od_I h fun F => .int _
theorem od_div {i j : Int} (h : CDivN i j) : OpD (rI CDivN fun i j => .int (i.fdiv j)) (dI i) (dI j) (dI (i.fdiv j)) := od_I h fun F => .int _
theorem od_pow {i j : Int} (h : CPow i j) : OpD (rI CPow fun i j => .int (i ^ j.toNat)) (dI i) (dI j) (dI (i ^ j.toNat)) := od_I h fun F => .int _
theorem od_eq {d e : PyData} (sd : SeqAt.shaped d = true) (se : SeqAt.shaped e = true) : OpD (rEqD K) (dR d) (dR e) (dB (PyData.eqv d e)) := fun F H x y s ha hb Q q =>
  ⟨d, e, Dq.dp _ _ (Dq.mono s _ _ ha), Dq.dp _ _ (Dq.mono s _ _ hb), sd, se, q F H _ (Gr.refl s) (.bl _)⟩
theorem od_ne {d e : PyData} (sd : SeqAt.shaped d = true) (se : SeqAt.shaped e = true) : OpD (rNeD K) (dR d) (dR e) (dB (!PyData.eqv d e)) := fun F H x y s ha hb Q q =>
  ⟨d, e, Dq.dp _ _ (Dq.mono s _ _ ha), Dq.dp _ _ (Dq.mono s _ _ hb), sd, se, q F H _ (Gr.refl s) (.bl _)⟩
/-- x in xs, a list or a tuple of flat things (ints) -/
theorem flat_ints (F : Hp) : ∀ (ns : List Int) (vs : List V), DqAll F vs (ns.map .int) → vs = ns.map V.int
  | [], _, h => by cases h; rfl
  | n :: ns, _, h => by
    cases h with
    | cons h1 h2 =>
      cases h1
      rw [flat_ints F ns _ h2]
      rfl
theorem inV_ints (k : Int) : ∀ ns : List Int, inV (.int k) (ns.map V.int) = decide (k ∈ ns)
  | [] => rfl
  | n :: ns => by
    have h := inV_ints k ns
    have e : inV (.int k) ((n :: ns).map V.int) = (eqV (.int n) (.int k) || inV (.int k) (ns.map V.int)) := rfl
    rw [e, h]
    by_cases hk : n = k
    · subst hk
      have : eqV (.int n) (.int n) = true := by simp [eqV]
      rw [this]
      simp
    · have : eqV (.int n) (.int k) = false := by simp [eqV, hk]
      rw [this]
      simp [Ne.symm hk]
theorem all_flat_ints : ∀ ns : List Int, (ns.map V.int).all flatV = true
  | [] => rfl
  | n :: ns => by
    show (flatV (.int n) && (ns.map V.int).all flatV) = true
    rw [all_flat_ints ns]
    rfl
theorem od_inI {k : Int} {ns : List Int} {d : PyData} (hd : d = .list (ns.map .int) ∨ d = .tuple (ns.map .int)) : OpD (rIn K false) (dI k) (dR d) (dB (decide (k ∈ ns))) := fun F H x y s ha hb Q q => by
  cases ha
  have fin : ∀ (a : Addr) (vs : List V), y = .ref a → SqL K H a vs ∨ SqT K H a vs → vs = ns.map V.int → rIn K false (.int k) y H Q := fun a vs e h1 e2 => by
    subst e2
    refine ⟨a, _, e, h1, rfl, all_flat_ints ns, ?_⟩
    show Q (.bl (inV (.int k) (ns.map V.int))) H
    rw [inV_ints]
    exact q F H _ (Gr.refl s) (.bl _)
  rcases hd with rfl | rfl
  · cases hb with
    | lst h1 h2 => exact fin _ _ rfl (.inl (SqL.of (s _ _ h1))) (flat_ints F ns _ h2)
  · cases hb with
    | tup h1 h2 => exact fin _ _ rfl (.inr (SqT.of (s _ _ h1))) (flat_ints F ns _ h2)
theorem od_niI {k : Int} {ns : List Int} {d : PyData} (hd : d = .list (ns.map .int) ∨ d = .tuple (ns.map .int)) : OpD (rIn K true) (dI k) (dR d) (dB (!decide (k ∈ ns))) := fun F H x y s ha hb Q q => by
  cases ha
  have fin : ∀ (a : Addr) (vs : List V), y = .ref a → SqL K H a vs ∨ SqT K H a vs → vs = ns.map V.int → rIn K true (.int k) y H Q := fun a vs e h1 e2 => by
    subst e2
    refine ⟨a, _, e, h1, rfl, all_flat_ints ns, ?_⟩
    show Q (.bl (!inV (.int k) (ns.map V.int))) H
    rw [inV_ints]
    exact q F H _ (Gr.refl s) (.bl _)
  rcases hd with rfl | rfl
  · cases hb with
    | lst h1 h2 => exact fin _ _ rfl (.inl (SqL.of (s _ _ h1))) (flat_ints F ns _ h2)
  · cases hb with
    | tup h1 h2 => exact fin _ _ rfl (.inr (SqT.of (s _ _ h1))) (flat_ints F ns _ h2)
/-- x in xs, xs a list of any data -/
theorem od_inD {d : PyData} {ds : List PyData} (sd : SeqAt.shaped d = true) (se : SeqAt.shaped (.list ds) = true) : OpD (rInD K) (dR d) (dR (.list ds)) (dB (ds.any fun z => PyData.eqv z d)) := fun F H x y s ha hb Q q =>
  ⟨d, ds, Dq.dp _ _ (Dq.mono s _ _ ha), Dq.dp _ _ (Dq.mono s _ _ hb), sd, se, q F H _ (Gr.refl s) (.bl _)⟩
theorem od_niD {d : PyData} {ds : List PyData} (sd : SeqAt.shaped d = true) (se : SeqAt.shaped (.list ds) = true) : OpD (rNotInD K) (dR d) (dR (.list ds)) (dB (!ds.any fun z => PyData.eqv z d)) := fun F H x y s ha hb Q q =>
  ⟨d, ds, Dq.dp _ _ (Dq.mono s _ _ ha), Dq.dp _ _ (Dq.mono s _ _ hb), sd, se, q F H _ (Gr.refl s) (.bl _)⟩
/-! ### calls of built-ins -/
theorem ev_len {d : PyData} {ds : List PyData} (h : Ev G ta ρ (dR d)) (hd : d = .list ds ∨ d = .tuple ds) : Ev G (tCB (fun xs H Q => ∃ p ys, xs = [.ref p] ∧ (SqL K H p ys ∨ SqT K H p ys) ∧ Q (.int ys.length) H) (tCons ta tNil)) ρ (dI (ds.length : Int)) := by
  refine ev_cb (ea_cons h ea_nil) fun F H vs s hv Q q => ?_
  cases hv with
  | cons h1 h2 =>
    cases h2
    rcases hd with rfl | rfl
    · cases h1 with
      | lst h1 h2 => exact ⟨_, _, rfl, .inl (SqL.of (s _ _ h1)), q F H _ (Gr.refl s) (by rw [h2.length]; exact .int _)⟩
    · cases h1 with
      | tup h1 h2 => exact ⟨_, _, rfl, .inr (SqT.of (s _ _ h1)), q F H _ (Gr.refl s) (by rw [h2.length]; exact .int _)⟩
theorem ev_lenL {ds : List PyData} (h : Ev G ta ρ (dR (.list ds))) : Ev G (tCB (fun xs H Q => ∃ p ys, xs = [.ref p] ∧ (SqL K H p ys ∨ SqT K H p ys) ∧ Q (.int ys.length) H) (tCons ta tNil)) ρ (dI (ds.length : Int)) := ev_len h (.inl rfl)
theorem ev_lenT {ds : List PyData} (h : Ev G ta ρ (dR (.tuple ds))) : Ev G (tCB (fun xs H Q => ∃ p ys, xs = [.ref p] ∧ (SqL K H p ys ∨ SqT K H p ys) ∧ Q (.int ys.length) H) (tCons ta tNil)) ρ (dI (ds.length : Int)) := ev_len h (.inr rfl)
/-- list(x) -/
theorem en_list {d : PyData} {ds : List PyData} (h : Ev G ta ρ (dR d)) (hd : d = .list ds ∨ d = .tuple ds) : EvN G (tCB (fun xs H Q => ∃ p ys, xs = [.ref p] ∧ (SqL K H p ys ∨ SqT K H p ys) ∧ ∀ l, H l = none → Q (.ref l) (upd H l (.lst ys))) (tCons ta tNil)) ρ (ds.map dR) := fun F H σ E Q q =>
  h F H σ E _ fun F1 H1 v g1 E1 hv => by
    have key : ∀ (a : Addr) (vs : List V), v = .ref a → (SqL K H1 a vs ∨ SqT K H1 a vs) → DqAll F1 vs ds → ∃ p ys, [v] = [V.ref p] ∧ (SqL K H1 p ys ∨ SqT K H1 p ys) ∧ ∀ l, H1 l = none → Q (.ref l) (upd H1 l (.lst ys)) := fun a vs e h1 h2 => by
      refine ⟨a, vs, by rw [e], h1, fun p hp => ?_⟩
      obtain ⟨f0, n0, a0, c0⟩ := E1.newNot hp
      have h0 : H p = none := by
        cases z : H p with
        | none => rfl
        | some o => exact absurd hp (g1.keep p (by rw [z]; exact fun y => by cases y))
      exact q F1 _ p vs (g1.trans (Gr.lay E1.sub hp)) (E1.updOther f0 n0 a0 fun φ z => by rw [hp] at z; cases z) h0 upd_same f0 (.of_data h2)
    rcases hd with rfl | rfl
    · cases hv with
      | lst h1 h2 => exact key _ _ rfl (.inl (SqL.of (E1.sub _ _ h1))) h2
    · cases hv with
      | tup h1 h2 => exact key _ _ rfl (.inr (SqT.of (E1.sub _ _ h1))) h2
theorem EvN.evD {ds : List PyData} (h : EvN G te ρ (ds.map dR)) : Ev G te ρ (dR (.list ds)) := h.ev.le (rLs_data ds)
/-- tuple(x) -/
theorem ev_tuple {d : PyData} {ds : List PyData} (h : Ev G ta ρ (dR d)) (hd : d = .list ds ∨ d = .tuple ds) :
    Ev G (tCB (fun xs H Q => ∃ p ys, xs = [.ref p] ∧ ((SqL K H p ys ∧ ∀ l, H l = none → Q (.ref l) (upd H l (.tup ys))) ∨ (SqT K H p ys ∧ Q (.ref p) H))) (tCons ta tNil)) ρ (dR (.tuple ds)) := by
  refine ev_cb (ea_cons h ea_nil) fun F H vs s hv Q q => ?_
  cases hv with
  | cons h1 h2 =>
    cases h2
    rcases hd with rfl | rfl
    · cases h1 with
      | lst h1 h2 =>
        refine ⟨_, _, rfl, .inl ⟨SqL.of (s _ _ h1), fun p hp => ?_⟩⟩
        obtain ⟨g, k⟩ := new_tup s hp h2
        exact q _ _ _ g k
    · cases h1 with
      | tup h1 h2 => exact ⟨_, _, rfl, .inr ⟨SqT.of (s _ _ h1), q F H _ (Gr.refl s) (.tup h1 h2)⟩⟩
/-- list(range(n)) -/
theorem en_listRg {n : Nat} (h : Ev G ta ρ (dI (n : Int))) (hn : n ≤ 10000) : EvN G (tLstRg (tRg1 ta)) ρ ((List.range n).map fun (i : Nat) => dI (i : Int)) := fun F H σ E Q q =>
  h F H σ E _ fun F1 H1 v g1 E1 hv => by
    cases hv
    refine ⟨n, rfl, RgOk.of_le (by omega) (by omega) (by omega) (by omega), fun p hp => ?_⟩
    obtain ⟨f0, n0, a0, c0⟩ := E1.newNot hp
    have h0 : H p = none := by
      cases z : H p with
      | none => rfl
      | some o => exact absurd hp (g1.keep p (by rw [z]; exact fun y => by cases y))
    have k := DqAll.ofRg (F := F1) 0 (n : Int)
    have e : (List.range ((n : Int) - 0).toNat).map (fun (i : Nat) => PyData.int ((0 : Int) + (i : Int))) = (List.range n).map fun (i : Nat) => PyData.int (i : Int) := by
      have e1 : ((n : Int) - 0).toNat = n := by omega
      rw [e1]
      exact List.map_congr_left fun i _ => by rw [Int.zero_add]
    rw [e] at k
    have k2 := RAll.of_data k
    rw [List.map_map] at k2
    exact q F1 _ p _ (g1.trans (Gr.lay E1.sub hp)) (E1.updOther f0 n0 a0 fun φ z => by rw [hp] at z; cases z) h0 upd_same f0 k2
/-- slices of lists -/
def EvO (G : Glob) (to : TO) (ρ : List Slot) (o : Option Int) : Prop := ∀ (F H : Hp) (σ : St), EnvOk G ρ F H σ → ∀ Q : Option Int → Hp → Prop, (∀ F' H', Gr (Ch G ρ σ) F H F' H' → EnvOk G ρ F' H' σ → Q o H') → to σ H Q
theorem eo_none : EvO G tNoPart ρ none := fun F H σ E Q q => q F H (Gr.refl E.sub) E
theorem eo_some {i : Int} (h : Ev G ta ρ (dI i)) : EvO G (tPart ta) ρ (some i) := fun F H σ E Q q => h F H σ E _ fun F1 H1 v g1 E1 hv => by
  cases hv
  exact ⟨i, rfl, q F1 H1 g1 E1⟩
def cutD (ds : List PyData) (lo hi : Option Int) : List PyData := (ds.drop (HT.sIx ds.length 0 lo)).take (HT.sIx ds.length ds.length hi - HT.sIx ds.length 0 lo)
theorem DqAll.cut {F : Hp} {vs : List V} {ds : List PyData} (h : DqAll F vs ds) (lo hi : Option Int) : DqAll F (cutV vs lo hi) (cutD ds lo hi) := by
  unfold cutV cutD
  rw [h.length]
  exact (h.drop _).take _
theorem cut_from (ds : List PyData) (a : Nat) : cutD ds (some (a : Int)) none = ds.drop a := by
  unfold cutD
  rw [HT.sIx_nat, HT.sIx_none]
  by_cases h : a ≤ ds.length
  · rw [Nat.min_eq_left h, List.take_of_length_le (by rw [List.length_drop]; exact Nat.le_refl _)]
  · rw [Nat.min_eq_right (by omega), List.drop_length, List.drop_of_length_le (by omega), List.take_nil]
theorem cut_to (ds : List PyData) (b : Nat) : cutD ds none (some (b : Int)) = ds.take b := by
  unfold cutD
  rw [HT.sIx_nat, HT.sIx_none, List.drop_zero, Nat.sub_zero]
  by_cases h : b ≤ ds.length
  · rw [Nat.min_eq_left h]
  · rw [Nat.min_eq_right (by omega), List.take_length, List.take_of_length_le (by omega)]
theorem ev_sliceL {tl th : TO} {ds : List PyData} {lo hi : Option Int} (h : Ev G te ρ (dR (.list ds))) (h1 : EvO G tl ρ lo) (h2 : EvO G th ρ hi) : Ev G (tSl (rSlice K) te tl th) ρ (dR (.list (cutD ds lo hi))) := fun F H σ E Q q =>
  h F H σ E _ fun F1 H1 v g1 E1 hv => h1 F1 H1 σ E1 _ fun F2 H2 g2 E2 => h2 F2 H2 σ E2 _ fun F3 H3 g3 E3 => by
    cases hv with
    | lst k1 k2 =>
      have sm : Same F1 F3 := g2.fe.trans g3.fe
      refine .inl ⟨_, _, rfl, SqL.of (E3.sub _ _ (sm _ _ k1)), fun p hp => ?_⟩
      obtain ⟨g, k⟩ := new_lst E3.sub hp ((DqAll.mono sm _ _ k2).cut lo hi)
      exact q _ _ _ (((g1.trans g2).trans g3).trans g.of0) (E3.grow0 g) k
theorem ev_sliceT {tl th : TO} {ds : List PyData} {lo hi : Option Int} (h : Ev G te ρ (dR (.tuple ds))) (h1 : EvO G tl ρ lo) (h2 : EvO G th ρ hi) : Ev G (tSl (rSlice K) te tl th) ρ (dR (.tuple (cutD ds lo hi))) := fun F H σ E Q q =>
  h F H σ E _ fun F1 H1 v g1 E1 hv => h1 F1 H1 σ E1 _ fun F2 H2 g2 E2 => h2 F2 H2 σ E2 _ fun F3 H3 g3 E3 => by
    cases hv with
    | tup k1 k2 =>
      rename_i a xs
      have sm : Same F1 F3 := g2.fe.trans g3.fe
      refine .inr ⟨a, xs, rfl, SqT.of (E3.sub _ _ (sm _ _ k1)), fun z => ?_, fun _ p hp => ?_⟩
      · have e : cutD ds lo hi = ds := by
          unfold cutD
          rw [← k2.length, z.1, z.2, Nat.sub_zero, List.drop_zero, k2.length, List.take_length]
        rw [e] at q
        exact q F3 H3 _ ((g1.trans g2).trans g3) E3 (.tup (sm _ _ k1) (DqAll.mono sm _ _ k2))
      · obtain ⟨g, k⟩ := new_tup E3.sub hp ((DqAll.mono sm _ _ k2).cut lo hi)
        exact q _ _ _ (((g1.trans g2).trans g3).trans g.of0) (E3.grow0 g) k
/-- int(x), abs(x), min(a, b), max(a, b), sum(xs) of ints -/
theorem ev_int1 {i : Int} (h : Ev G ta ρ (dI i)) : Ev G (tCB (fun xs H Q => (∃ i, xs = [.int i] ∧ Q (.int i) H) ∨ ∃ k, xs = [.bl k] ∧ Q (.int (if k then 1 else 0)) H) (tCons ta tNil)) ρ (dI i) := by
  refine ev_cb (ea_cons h ea_nil) fun F H vs s hv Q q => ?_
  cases hv with
  | cons h1 h2 =>
    cases h2
    cases h1
    exact .inl ⟨i, rfl, q F H _ (Gr.refl s) (.int i)⟩
theorem ev_abs {i : Int} (h : Ev G ta ρ (dI i)) : Ev G (tCB (fun xs H Q => ∃ i, xs = [.int i] ∧ Q (.int (if i < 0 then -i else i)) H) (tCons ta tNil)) ρ (dI (if i < 0 then -i else i)) := by
  refine ev_cb (ea_cons h ea_nil) fun F H vs s hv Q q => ?_
  cases hv with
  | cons h1 h2 =>
    cases h2
    cases h1
    exact ⟨i, rfl, q F H _ (Gr.refl s) (.int _)⟩
theorem ev_max2 {i j : Int} (h : Ev G ta ρ (dI i)) (h2 : Ev G tb ρ (dI j)) : Ev G (tCB (fun xs H Q => ∃ i j, xs = [.int i, .int j] ∧ Q (.int (if j > i then j else i)) H) (tCons ta (tCons tb tNil))) ρ (dI (if j > i then j else i)) := by
  refine ev_cb (ea_cons h (ea_cons h2 ea_nil)) fun F H vs s hv Q q => ?_
  cases hv with
  | cons h1 h2 =>
    cases h2 with
    | cons h3 h4 =>
      cases h4
      cases h1
      cases h3
      exact ⟨i, j, rfl, q F H _ (Gr.refl s) (.int _)⟩
theorem ev_min2 {i j : Int} (h : Ev G ta ρ (dI i)) (h2 : Ev G tb ρ (dI j)) : Ev G (tCB (fun xs H Q => ∃ i j, xs = [.int i, .int j] ∧ Q (.int (if j < i then j else i)) H) (tCons ta (tCons tb tNil))) ρ (dI (if j < i then j else i)) := by
  refine ev_cb (ea_cons h (ea_cons h2 ea_nil)) fun F H vs s hv Q q => ?_
  cases hv with
  | cons h1 h2 =>
    cases h2 with
    | cons h3 h4 =>
      cases h4
      cases h1
      cases h3
      exact ⟨i, j, rfl, q F H _ (Gr.refl s) (.int _)⟩
theorem ev_sum {ns : List Int} (h : Ev G ta ρ (dR (.list (ns.map .int)))) : Ev G (tCB (rSum K) (tCons ta tNil)) ρ (dI ns.sum) := by
  refine ev_cb (ea_cons h ea_nil) fun F H vs s hv Q q => ?_
  cases hv with
  | cons h1 h2 =>
    cases h2
    cases h1 with
    | lst k1 k2 =>
      have e := flat_ints F ns _ k2
      subst e
      exact ⟨_, ns, rfl, SqL.of (s _ _ k1), q F H _ (Gr.refl s) (.int _)⟩
/-- min(xs), max(xs) of one list of ints -/
theorem ev_min1 {ns : List Int} {m : Int} (h : Ev G ta ρ (dR (.list (ns.map .int)))) (hm : m ∈ ns) (hl : ∀ y ∈ ns, m ≤ y) : Ev G (tCB (rMin K) (tCons ta tNil)) ρ (dI m) := by
  refine ev_cb (ea_cons h ea_nil) fun F H vs s hv Q q => ?_
  cases hv with
  | cons h1 h2 =>
    cases h2
    cases h1 with
    | lst k1 k2 =>
      have e := flat_ints F ns _ k2
      subst e
      refine ⟨_, ns, rfl, SqL.of (s _ _ k1), List.length_pos_of_mem hm, fun m' h1 h2 => ?_⟩
      have : m' = m := Int.le_antisymm (h2 m hm) (hl m' h1)
      rw [this]
      exact q F H _ (Gr.refl s) (.int _)
/-- sorted(xs) of ints, fewer than 64 -/
theorem en_sortedI {ns ms : List Int} (h : Ev G ta ρ (dR (.list (ns.map .int)))) (h64 : ns.length < 64) (hu : ∀ ms' : List Int, ms'.Perm ns → ms'.Pairwise (· ≤ ·) → ms' = ms) : EvN G (tCB (rSorted K) (tCons ta tNil)) ρ (ms.map fun i => dI i) := fun F H σ E Q q =>
  h F H σ E _ fun F1 H1 v g1 E1 hv => by
    cases hv with
    | lst k1 k2 =>
      have e := flat_ints F1 ns _ k2
      subst e
      refine ⟨_, ns, rfl, SqL.of (E1.sub _ _ k1), h64, fun ns' p hp1 hp2 hp => ?_⟩
      obtain ⟨f0, n0, a0, c0⟩ := E1.newNot hp
      have h0 : H p = none := by
        cases z : H p with
        | none => rfl
        | some o => exact absurd hp (g1.keep p (by rw [z]; exact fun y => by cases y))
      have em := hu ns' hp1 hp2
      subst em
      have k2 := RAll.of_data (DqAll.ints (F := F1) ns')
      rw [List.map_map] at k2
      exact q F1 _ p _ (g1.trans (Gr.lay E1.sub hp)) (E1.updOther f0 n0 a0 fun φ z => by rw [hp] at z; cases z) h0 upd_same f0 k2
end
/-! ### isinstance -/
def tyD : PyData → Option String
  | .bool _ => some "bool"
  | .int _ => some "int"
  | .str _ => some "str"
  | .list _ => some "list"
  | .tuple _ => some "tuple"
  | _ => none
def rTy (n : String) : Rel := ⟨fun _ v => v = .ty n, fun _ h => h⟩
section
variable {G : Glob} {K : PySem.W.Frag} {ρ : List Slot} {te ta tb : TE}
theorem ev_ty {n : String} : Ev G (tC (.ty n)) ρ (rTy n) := fun F H σ E Q q => q F H _ (Gr.refl E.sub) E rfl
theorem ev_isi {d : PyData} {n : String} {b : Bool} (h : Ev G ta ρ (dR d)) (hb : ∀ t, tyD d = some t → kitB t n = some b) (hn : tyD d = none → d = .none ∧ PySem.W.kitOne K (.type "NoneType") (.type n) = some b) : Ev G (tCB (rIsi K) (tCons ta (tCons (tC (.ty n)) tNil))) ρ (dB b) := by
  refine ev_cb (ea_cons h (ea_cons ev_ty ea_nil)) fun F H vs s hv Q q => ?_
  cases hv with
  | cons h1 h2 =>
    cases h2 with
    | cons h3 h4 =>
      cases h4
      have e3 : _ = V.ty n := h3
      subst e3
      have fin : ∀ (x : V) (t : String), TyX K H x (.type t) → PySem.W.kitOne K (.type t) (.type n) = some b → rIsi K [x, .ty n] H Q := fun x t ht hk => ⟨x, .ty n, _, _, b, rfl, .ty n, ht, hk, q F H _ (Gr.refl s) (.bl b)⟩
      cases h1 with
      | non => exact fin _ _ (.base .non) (hn rfl).2
      | bl y => exact fin _ _ (.base (.bl y)) (kit_ty (hb _ rfl))
      | int i => exact fin _ _ (.base (.int i)) (kit_ty (hb _ rfl))
      | str x => exact fin _ _ (.base (.str x)) (kit_ty (hb _ rfl))
      | lst k1 k2 => exact fin _ _ (.base (.lst (s _ _ k1))) (kit_ty (hb _ rfl))
      | tup k1 k2 => exact fin _ _ (.base (.tup (s _ _ k1))) (kit_ty (hb _ rfl))
end
end Dx
set_option Elab.async false
set_option linter.all false
set_option maxRecDepth 100000
/-! DxGen: the rules that gen.py's terms name, methods, instances. -/
namespace Dx
open PySem L2
section
variable {X : Cx}
abbrev rInAny (K : PySem.W.Frag) : R2 := fun x y H Q => rIn K false x y H Q ∨ rInD K x y H Q
abbrev rNiAny (K : PySem.W.Frag) : R2 := fun x y H Q => rIn K true x y H Q ∨ rNotInD K x y H Q
theorem op_in_any {k : Nat} (hr : Room k X.A) : OpR X (compareOp .In) (rInAny X.K) := op_in_seq.or (op_inD (Room.u65 hr))
theorem op_ni_any {k : Nat} (hr : Room k X.A) : OpR X (compareOp .NotIn) (rNiAny X.K) := op_notIn_seq.or (op_notInD (Room.u65 hr))
theorem pe_globI {x : Str} {i : Int} {pos : Pos} (hg : Gl X x) (h : ∃ t, X.mg x = some (.int i t)) (hd : (x == ("__debug__" : Str)) = false := by decide) : PE X (.Name x pos) (tC (.int i)) := by
  obtain ⟨t, h⟩ := h
  exact pe_glob hg h ⟨t, rfl⟩ hd
/-! the same, the written part told by its name -/
variable {K : PySem.W.Frag}
theorem op_plusK (hK : X.K = K := by rfl) : OpR X (binaryOp .Add) (rPlus K) := by subst hK; exact op_plus
theorem op_eqK {k : Nat} (hr : Room k X.A) (hK : X.K = K := by rfl) : OpR X (compareOp .Eq) (rEqD K) := by subst hK; exact op_eqD hr.units
theorem op_neK {k : Nat} (hr : Room k X.A) (hK : X.K = K := by rfl) : OpR X (compareOp .NotEq) (rNeD K) := by subst hK; exact op_neD hr.units
theorem op_inK {k : Nat} (hr : Room k X.A) (hK : X.K = K := by rfl) : OpR X (compareOp .In) (rInAny K) := by subst hK; exact op_in_any hr
theorem op_niK {k : Nat} (hr : Room k X.A) (hK : X.K = K := by rfl) : OpR X (compareOp .NotIn) (rNiAny K) := by subst hK; exact op_ni_any hr
theorem ix_seqK (hK : X.K = K := by rfl) : IxR X (rIx K) := by subst hK; exact ix_seq
theorem sl_seqK (hK : X.K = K := by rfl) : SlR X (rSlice K) := by subst hK; exact sl_seq
theorem pi_seqK {tg l : Expr} {tl : TE} (h : PE X l tl) (hK : X.K = K := by rfl) : PI X tg l (iSeq K tl) := by subst hK; exact pi_seq h
abbrev rLenK (K : PySem.W.Frag) : List V → Hp → VK → Prop := fun xs H Q => ∃ p ys, xs = [.ref p] ∧ (SqL K H p ys ∨ SqT K H p ys) ∧ Q (.int ys.length) H
abbrev rListK (K : PySem.W.Frag) : List V → Hp → VK → Prop := fun xs H Q => ∃ p ys, xs = [.ref p] ∧ (SqL K H p ys ∨ SqT K H p ys) ∧ ∀ l, H l = none → Q (.ref l) (upd H l (.lst ys))
abbrev rTupleK (K : PySem.W.Frag) : List V → Hp → VK → Prop := fun xs H Q => ∃ p ys, xs = [.ref p] ∧ ((SqL K H p ys ∧ ∀ l, H l = none → Q (.ref l) (upd H l (.tup ys))) ∨ (SqT K H p ys ∧ Q (.ref p) H))
theorem call_lenK (hK : X.K = K := by rfl) : CallR X (.builtin "len") (rLenK K) := by subst hK; exact call_len_seq
theorem call_listK (hK : X.K = K := by rfl) : CallR X (.type "list") (rListK K) := by subst hK; exact call_list_of
theorem call_tupleK (hK : X.K = K := by rfl) : CallR X (.type "tuple") (rTupleK K) := by subst hK; exact call_tuple_of
theorem call_isiK' (hK : X.K = K := by rfl) : CallR X (.builtin "isinstance") (rIsi K) := by subst hK; exact call_isi
theorem cr_sumK (hc : X.calm = true) (hK : X.K = K := by rfl) : CallR X (.builtin "sum") (rSum K) := by subst hK; exact cr_sum hc
theorem cr_minK (hc : X.calm = true) (hK : X.K = K := by rfl) : CallR X (.builtin "min") (rMin K) := by subst hK; exact cr_min hc
theorem cr_maxK (hc : X.calm = true) (hK : X.K = K := by rfl) : CallR X (.builtin "max") (rMax K) := by subst hK; exact cr_max hc
theorem cr_sortedK (hK : X.K = K := by rfl) : CallR X (.builtin "sorted") (rSorted K) := by subst hK; exact cr_sorted
theorem pe_fldK {e : Expr} {f : Str} {pos : Pos} {ta : TE} (he : PE X e ta) (hb : attributeBase e f X.env (eval e X.env) = eval e X.env) (hK : X.K = K := by rfl) : PE X (.Attribute e f pos) (tFld K ta f) := by subst hK; exact pe_fld he hb
theorem pg_tupK {es : List Expr} {k : Nat} {t : TGs} {n : Nat} {pos : Pos} (hc : X.calm = true) (h : PGs X es t) (hK : X.K = K := by rfl)
    (hn : (assignEach es X.env).length = n := by rfl) (hst : (assignEach es X.env).findIdx? (·.1) = none := by rfl) : PG X (.Tuple es k pos) (gTup K n t) := by subst hK; exact pg_tup hc h hn hst
/-- xs.append(e) -/
theorem pe_appK {o e : Expr} {to te : TE} {apos cpos : Pos} (ho : PE X o to) (he : PE X e te) (hK : X.K = K := by rfl)
    (hbase : attributeBase o "append" X.env (eval o X.env) = eval o X.env := by rfl)
    (hfew : ((backTo cpos (starEach [e] X.env)).all (fun x => !x.1) && (backToKw cpos (keywordEach [] X.env)).all (fun x => x.1.isSome)
      && decide (([e] : List Expr).length + ([] : List Keyword).length + (if ([] : List Keyword).isEmpty then 0 else 1) < 30)) = true := by rfl)
    (hline : (apos.endLine == cpos.line) = true := by rfl) (hs : starEach [e] X.env = (false, eval e X.env) :: starEach [] X.env := by rfl) (hplain : (backTo cpos (starEach [] X.env)).any (·.1) = false := by rfl) :
    PE X (.Call (.Attribute o "append" apos) [e] [] cpos) (tBM K "list" rAppend to (tCons te tNil)) := by
  subst hK
  exact pe_bm PySem.F.plainAttrs_list PySem.F.slot_list_append PySem.F.type_list_append mt_append ho (pa_cons he pa_nil hs) hbase hfew hline hs hplain
/-- xs[i] for xs[i] op= e -/
def rGetL (K : PySem.W.Frag) : V → V → Hp → VK → Prop := fun x y H Q => ∃ p xs j v, x = .ref p ∧ y = .int ((j : Nat) : Int) ∧ SqL K H p xs ∧ xs[j]? = some v ∧ Q v H
theorem pget_list : PGet X (rGetL X.K) := by
  intro pins s σ H x y v u Q I rx ry h
  obtain ⟨p, xs, j, z, rfl, rfl, hq, he, q⟩ := h
  cases rx
  obtain ⟨t, rfl⟩ := ry
  obtain ⟨its, r, pl, hz⟩ := I.list hq
  obtain ⟨w, ew, rw'⟩ := r.get he
  have hl := r.length
  have hn := line63
  have hj : j < xs.length := (List.getElem?_eq_some_iff.mp he).1
  exact PySem.wpAny_getItem_list pl.isList (by omega) (by omega) (by simpa using ew) ⟨z, H, I, rw', q⟩
theorem pget_listK (hK : X.K = K := by rfl) : PGet X (rGetL K) := by subst hK; exact pget_list
end
/-! ### instances -/
def rIns (C : Addr) (fs : List (Str × Rel)) : Rel := ⟨fun F v => ∃ a dx vfs, v = .ref a ∧ F a = some (.ins C dx vfs) ∧ (∀ f R, fs.lookup f = some R → ∃ x, vfs.lookup f = some x ∧ R.p F x) ∧ ∀ f, fs.lookup f = none → vfs.lookup f = none,
  fun e h => let ⟨a, dx, vfs, h1, h2, h3, h4⟩ := h; ⟨a, dx, vfs, h1, e _ _ h2, fun f R q => let ⟨x, k1, k2⟩ := h3 f R q; ⟨x, k1, R.mono e k2⟩, h4⟩⟩
section
variable {G : Glob} {K : PySem.W.Frag} {ρ : List Slot} {te ta : TE} {tas : TA} {R : Rel} {C : Addr} {fs : List (Str × Rel)}
theorem ev_fld {f : Str} (h : Ev G ta ρ (rIns C fs)) (c : Cls K C) (n : NoAttr K C f) (hf : fs.lookup f = some R) : Ev G (tFld K ta f) ρ R := fun F H σ E Q q => h F H σ E _ fun F1 H1 v g1 E1 hv => by
  obtain ⟨a, dx, vfs, rfl, h2, h3, h4⟩ := hv
  obtain ⟨x, k1, k2⟩ := h3 f R hf
  exact ⟨a, C, dx, vfs, x, rfl, E1.sub _ _ h2, c, n, k1, q F1 H1 x g1 E1 k2⟩
/-- a method that keeps a promise over slots, its instance first -/
structure CalM (P : Program) (w : World) (K : PySem.W.Frag) (mg : Str → Option Value) (base : Heap) (C : Addr) (m : Str) (k : Nat) (ps : List Str) (sp : Sp) : Prop where
  ex : ∃ (f : Addr) (fd : FuncData), FnOk P w K mg base CX0 k f fd ps sp ∧ Meth K C m f ∧ Binds K fd ps []
  cl : Cls K C
theorem pe_calm {X : Cx} {m : Str} {k j : Nat} {ps : List Str} {sp : Sp} {pos apos : Pos} {o e : Expr} {es : List Expr} {ta : TE} {t : TA} {pl : Sem Bool} (M : CalM X.prog X.w X.K X.mg X.base C m j ps sp) (hr : Room k X.A) (ho : PE X o ta) (ha : PA X (e :: es) t) (hj : j ≤ k := by first | decide | exact Nat.le_refl _ | omega)
    (hst : starEach (e :: es) X.env = (false, eval e X.env) :: starEach es X.env := by rfl) (hpl : (backTo pos (starEach es X.env)).any (·.1) = false := by rfl)
    (ht : eval (.Call (.Attribute o m apos) (e :: es) [] pos) X.env = (do
      let ov ← eval o X.env
      standAt apos.atName
      let (f, first) ← holding [ov] (getMethod ov m pl)
      callWith pos f first (backTo pos (starEach (e :: es) X.env)) (backToKw pos (keywordEach [] X.env))) := by rfl) :
    PE X (.Call (.Attribute o m apos) (e :: es) [] pos) (tMeth C m sp [] E0 ta t) := by
  obtain ⟨f, fd, F, hm, hb⟩ := M.ex
  exact pe_meth (pl := pl) ho M.cl hm F (hr.mono hj) hb .nil pass0 ha hst hpl ht
theorem pe_calm0 {X : Cx} {m : Str} {k j : Nat} {ps : List Str} {sp : Sp} {pos apos : Pos} {o : Expr} {ta : TE} {pl : Sem Bool} (M : CalM X.prog X.w X.K X.mg X.base C m j ps sp) (hr : Room k X.A) (ho : PE X o ta) (hj : j ≤ k := by first | decide | exact Nat.le_refl _ | omega)
    (ht : eval (.Call (.Attribute o m apos) [] [] pos) X.env = (do
      let ov ← eval o X.env
      standAt apos.atName
      let (f, first) ← holding [ov] (getMethod ov m pl)
      callWith pos f first [] (backToKw pos (keywordEach [] X.env))) := by rfl) :
    PE X (.Call (.Attribute o m apos) [] [] pos) (tMeth C m sp [] E0 ta tNil) := by
  obtain ⟨f, fd, F, hm, hb⟩ := M.ex
  exact pe_meth0 (pl := pl) ho M.cl hm F (hr.mono hj) hb .nil pass0 ht
theorem ev_meth {m : Str} {post : List Slot → Rel → Prop} {As : List Arg} {X : XK} (h : Ev G ta ρ (rIns C fs)) (hn : fs.lookup m = none) (ha : EvAS G tas ρ As) (hp : post (.rel (rIns C fs) :: As.map Arg.slot) R) (nd : (mvlIx As).Nodup := by first | exact List.nodup_nil | simp [mvlIx]) :
    Ev G (tMeth C m (spS G post) [] X ta tas) ρ R := fun F H σ E Q q => h F H σ E _ fun F1 H1 v g1 E1 hv => by
  obtain ⟨a, dx, vfs, rfl, h2, h3, h4⟩ := id hv
  refine ⟨a, dx, vfs, rfl, E1.sub _ _ h2, h4 m hn, ha F1 H1 σ E1 _ fun F2 H2 vs g2 E2 hvs => ?_⟩
  show spS G post (.ref a :: (vs ++ [])) H2 Q X
  rw [List.append_nil]
  have hA : ArgsOk ρ σ F2 (.ref a :: vs) (.rel (rIns C fs) :: As) := .rel ((rIns C fs).mono g2.fe hv) hvs
  refine ⟨F2, (Arg.rel (rIns C fs) :: As).map Arg.slot, R, hA.env E2 nd, hp, fun F' H' v g E' hr => ?_⟩
  obtain ⟨g3, E3⟩ := call_back E2 hA g E'
  exact q F' H' v ((g1.trans g2).trans g3) E3 hr
end
/-- a method of the class at C -/
def DefM (K : PySem.W.Frag) (C : Addr) (cname m : Str) (st : Stmt) (f : Addr) (fd : FuncData) : Prop := Fun K m (cname ++ "." ++ m) st f fd ∧ Meth K C m f
/-- a def, its parameters all given -/
def Df (K : PySem.W.Frag) (mg : Str → Option Value) (name : Str) (st : Stmt) (ps : List Str) : Prop := ∃ (f : Addr) (fd : FuncData), Fun K name name st f fd ∧ mg name = some (.ref f) ∧ Binds K fd ps []
def DfM (K : PySem.W.Frag) (C : Addr) (m qual : Str) (st : Stmt) (ps : List Str) : Prop := ∃ (f : Addr) (fd : FuncData), Fun K m qual st f fd ∧ Meth K C m f ∧ Binds K fd ps []
section
variable {P : Program} {w : World} {K : PySem.W.Frag} {mg : Str → Option Value} {base : Heap} {G : Glob}
theorem cal_df0 {name : Str} {st : Stmt} {ps : List Str} {post : List Slot → Rel → Prop} (D : Df K mg name st ps) (no : ∀ ρ R, ¬ post ρ R) : Cal P w K mg base name 0 ps (spS G post) := by
  obtain ⟨f, fd, D1, D2, D3⟩ := D
  exact cal_none ⟨D1, D2⟩ D3 no
theorem cal_df {name : Str} {st : Stmt} {N ps : List Str} {k : Nat} {post : List Slot → Rel → Prop} (D : Df K mg name st ps) (S : FnScope N ps (defScope st))
    (hl : ∀ ρ R, post ρ R → ρ.length = ps.length ∧ ∀ (j : Nat) (ds : List PyData), ρ[j]? ≠ some (.own ds))
    (hbody : ∀ (f : Addr) (cdv : Value) (A : Around) (outer : List Env) (s : Shared) (H : Hp) (E : XK), Room k (A.deeper (PyProof.Rows.envOfC name (defScope st) s.heap.objs.size f cdv)) →
      ∃ t, PSs (cxOf CX0 P w K mg base N name (defScope st) f cdv A outer s H E).nox (defBody st) t ∧ ∀ ρ R, post ρ R → Sv G t (startR N.length ρ) (Post.ret R)) :
    Cal P w K mg base name (k + 1) ps (spS G post) := by
  obtain ⟨f, fd, D1, D2, D3⟩ := D
  exact cal_of ⟨D1, D2⟩ S D3 hl (hbody f)
/-- a def by its raw reading -/
theorem cal_raw {name : Str} {st : Stmt} {N ps : List Str} {k : Nat} {sp : Sp} (D : Df K mg name st ps) (S : FnScope N ps (defScope st)) (hl : ∀ vs H Q E, sp vs H Q E → vs.length = ps.length)
    (hbody : ∀ (f : Addr) (cdv : Value) (A : Around) (outer : List Env) (s : Shared) (H : Hp) (E : XK), Room k (A.deeper (PyProof.Rows.envOfC name (defScope st) s.heap.objs.size f cdv)) →
      ∃ t, PSs (cxOf CX0 P w K mg base N name (defScope st) f cdv A outer s H E).nox (defBody st) t ∧ ∀ (vs : List V) (Q : VK), sp vs H Q E → t { nx := fun _ H' => Q .non H', rt := Q } (L2.start N vs) H) :
    Cal P w K mg base name (k + 1) ps sp := by
  obtain ⟨f, fd, D1, D2, D3⟩ := D
  refine ⟨f, fd, D1.ok S hl (fun cdv A outer s H vs Q E hr h => ?_), D2, D1.kp, D3⟩
  obtain ⟨t, ht, hs⟩ := hbody f cdv A outer s H E hr
  exact ⟨t, ht, hs vs Q h⟩
theorem calm_df {C : Addr} {m qual : Str} {st : Stmt} {N ps : List Str} {k : Nat} {post : List Slot → Rel → Prop} (D : DfM K C m qual st ps) (cl : Cls K C) (S : FnScope N ps (defScope st))
    (hl : ∀ ρ R, post ρ R → ρ.length = ps.length ∧ ∀ (j : Nat) (ds : List PyData), ρ[j]? ≠ some (.own ds))
    (hbody : ∀ (f : Addr) (cdv : Value) (A : Around) (outer : List Env) (s : Shared) (H : Hp) (E : XK), Room k (A.deeper (PyProof.Rows.envOfC qual (defScope st) s.heap.objs.size f cdv)) →
      ∃ t, PSs (cxOf CX0 P w K mg base N qual (defScope st) f cdv A outer s H E).nox (defBody st) t ∧ ∀ ρ R, post ρ R → Sv G t (startR N.length ρ) (Post.ret R)) :
    CalM P w K mg base C m (k + 1) ps (spS G post) := by
  obtain ⟨f, fd, D1, D2, D3⟩ := D
  refine ⟨⟨f, fd, D1.ok S (fun vs H Q E h => ?_) (fun cdv A outer s H vs Q E hr h => ?_), D2, D3⟩, cl⟩
  · obtain ⟨F, ρ, R, E, hp, _⟩ := h
    have := E.len
    rw [List.length_map] at this
    rw [this]
    exact (hl ρ R hp).1
  · obtain ⟨F, ρ, R, E', hp, q⟩ := h
    obtain ⟨t, ht, hs⟩ := hbody f cdv A outer s H E hr
    exact ⟨t, ht, sv_body E' (hl ρ R hp).2 (hs ρ R hp) q⟩
end
end Dx
set_option Elab.async false
set_option linter.all false
set_option maxRecDepth 100000
/-! DxMore: shorter forms for loops and comprehensions over names; numbers and lists of numbers as data. -/
namespace Dx
open PySem L2
section
variable {G : Glob} {K : PySem.W.Frag} {ρ ρ1 ρ2 : List Slot} {P : Post} {te ta tb tl : TE} {tt : TT} {t u : TS} {R : Rel}
theorem hvs1 {j : Nat} {s0 : Slot} (h : ρ[j]? = some s0) (n : ¬ s0.mine) : ∀ (i : Nat) (s : Slot), i ∈ [j] → ρ[i]? = some s → ¬ s.mine := fun i s hi hs => by
  rw [List.mem_singleton.mp hi, h] at hs
  cases hs
  exact n
theorem wipe1 {j : Nat} {r : Slot} : (wipeR ρ [j]).set j r = ρ.set j r := by
  show (ρ.set j .un).set j r = ρ.set j r
  rw [List.set_set]
/-- [e for x in xs if p], x in slot j -/
theorem en_lc1 {α : Type} {xs : List α} {Rx : α → Rel} {wi : TI} {j : Nat} {s0 : Slot} (p : α → Bool) (Rf : α → Rel) (hi : EvI G wi ρ (xs.map Rx)) (hz : xs.length ≤ 1000) (h0 : ρ[j]? = some s0) (n0 : ¬ s0.mine)
    (hturn : ∀ x, x ∈ xs → EvT G tt (ρ.set j (.rel (Rx x))) (p x) ∧ (p x = true → Ev G te (ρ.set j (.rel (Rx x))) (Rf x))) : EvN G (tLc wi (gName j) tt te [j]) ρ ((xs.filter p).map Rf) :=
  en_lc p Rf hi hz (hvs1 h0 n0) fun x hx => ⟨_, [j], tg_name, fun i hi => hi, by rw [wipe1]; exact (hturn x hx).1, by rw [wipe1]; exact (hturn x hx).2⟩
theorem ev_lc1 {α : Type} {xs : List α} {Rx : α → Rel} {wi : TI} {j : Nat} {s0 : Slot} (p : α → Bool) (f : α → PyData) (hi : EvI G wi ρ (xs.map Rx)) (hz : xs.length ≤ 1000) (h0 : ρ[j]? = some s0) (n0 : ¬ s0.mine)
    (hturn : ∀ x, x ∈ xs → EvT G tt (ρ.set j (.rel (Rx x))) (p x) ∧ (p x = true → Ev G te (ρ.set j (.rel (Rx x))) (dR (f x)))) : Ev G (tLc wi (gName j) tt te [j]) ρ (dR (.list ((xs.filter p).map f))) := by
  have h := (en_lc1 p (fun x => dR (f x)) hi hz h0 n0 hturn).ev
  have e : ((xs.filter p).map fun x => dR (f x)) = ((xs.filter p).map f).map dR := by rw [List.map_map]; rfl
  rw [e] at h
  exact h.le (rLs_data _)
/-- .. without a test -/
theorem ev_map1 {α : Type} {xs : List α} {Rx : α → Rel} {wi : TI} {j : Nat} {s0 : Slot} (f : α → PyData) (hi : EvI G wi ρ (xs.map Rx)) (hz : xs.length ≤ 1000) (h0 : ρ[j]? = some s0) (n0 : ¬ s0.mine)
    (hturn : ∀ x, x ∈ xs → Ev G te (ρ.set j (.rel (Rx x))) (dR (f x))) : Ev G (tLc wi (gName j) tYes te [j]) ρ (dR (.list (xs.map f))) := by
  have h := ev_lc1 (tt := tYes) (fun _ => true) f hi hz h0 n0 fun x hx => ⟨et_yes, fun _ => hturn x hx⟩
  have e : xs.filter (fun _ => true) = xs := List.filter_eq_self.mpr fun _ _ => rfl
  rw [e] at h
  exact h
theorem en_map1 {α : Type} {xs : List α} {Rx : α → Rel} {wi : TI} {j : Nat} {s0 : Slot} (Rf : α → Rel) (hi : EvI G wi ρ (xs.map Rx)) (hz : xs.length ≤ 1000) (h0 : ρ[j]? = some s0) (n0 : ¬ s0.mine)
    (hturn : ∀ x, x ∈ xs → Ev G te (ρ.set j (.rel (Rx x))) (Rf x)) : EvN G (tLc wi (gName j) tYes te [j]) ρ (xs.map Rf) := by
  have h := en_lc1 (tt := tYes) (fun _ => true) Rf hi hz h0 n0 fun x hx => ⟨et_yes, fun _ => hturn x hx⟩
  have e : xs.filter (fun _ => true) = xs := List.filter_eq_self.mpr fun _ _ => rfl
  rw [e] at h
  exact h
/-- for x in xs, x in slot j -/
theorem sv_for1 {α : Type} {xs : List α} {Rx : α → Rel} {wi : TI} {j : Nat} (J : Nat → List Slot → Prop) (hi : EvI G wi ρ (xs.map Rx)) (h0 : J 0 ρ)
    (hturn : ∀ (i : Nat) (x : α) (ρ1 : List Slot), xs[i]? = some x → J i ρ1 → Sv G t (ρ1.set j (.rel (Rx x))) { nx := J (i + 1), rt := P.rt, bk := P.nx, ct := J (i + 1) })
    (hd : ∀ ρ1, J xs.length ρ1 → P.nx ρ1) : Sv G (tFor wi (gName j) t) ρ P :=
  sv_for J hi h0 (fun i x ρ1 hx hJ => ⟨_, [j], tg_name, hturn i x ρ1 hx hJ⟩) hd
/-- for a, b, c in xs of triples -/
theorem tg_tup3 {a b c : PyData} {i j k : Nat} : TgOk G (gTup K 3 (gCons (gName i) (gCons (gName j) (gCons (gName k) gNil)))) (dR (.tuple [a, b, c])) ρ (((ρ.set i (.rel (dR a))).set j (.rel (dR b))).set k (.rel (dR c))) [i, j, k] :=
  tg_tupD (is := [i] ++ ([j] ++ ([k] ++ []))) (tgs_cons tg_name (tgs_cons tg_name (tgs_cons tg_name tgs_nil))) rfl
theorem tg_tup2 {a b : PyData} {i j : Nat} : TgOk G (gTup K 2 (gCons (gName i) (gCons (gName j) gNil))) (dR (.tuple [a, b])) ρ ((ρ.set i (.rel (dR a))).set j (.rel (dR b))) [i, j] :=
  tg_tupD (is := [i] ++ ([j] ++ [])) (tgs_cons tg_name (tgs_cons tg_name tgs_nil)) rfl
end

/-! ### what is drawn -/
section
variable {G : Glob} {K : PySem.W.Frag} {ρ ρ1 ρ2 : List Slot} {P : Post} {te ta tb tl : TE} {tt : TT} {t u : TS} {R : Rel}
/-- a call whose arguments are known in part: what they are is found at the call -/
theorem ev_call' {post : List Slot → Rel → Prop} {tas : TA} {As : List Arg} {X : XK} (ha : EvAS G tas ρ As)
    (hp : ∀ (σ : St) (F : Hp) (vs : List V), ArgsOk ρ σ F vs As → ∃ As' R', ArgsOk ρ σ F vs As' ∧ (mvlIx As').Nodup ∧ post (As'.map Arg.slot) R' ∧ R'.le R) : Ev G (tCall (spS G post) [] X tas) ρ R := fun F H σ E Q q =>
  ha F H σ E _ fun F1 H1 vs g1 E1 hv => by
    obtain ⟨As', R', hv', nd, hp', le⟩ := hp σ F1 vs hv
    show spS G post (vs ++ []) H1 Q X
    rw [List.append_nil]
    refine ⟨F1, As'.map Arg.slot, R', hv'.env E1 nd, hp', fun F' H' v g E' hr => ?_⟩
    obtain ⟨g2, E2⟩ := call_back E1 hv' g E'
    exact q F' H' v (g1.trans g2) E2 (le _ _ hr)
/-- a op b op c -/
theorem et_chain {r r' : R2} {tc : TE} {Ra Rb Rc : Rel} {b1 b2 : Bool} (ha : Ev G ta ρ Ra) (hb : Ev G tb ρ Rb) (h1 : OpD r Ra Rb (dB b1)) (hc : b1 = true → Ev G tc ρ Rc) (h2 : b1 = true → OpD r' Rb Rc (dB b2)) : EvT G (tTest (tChain r r' ta tb tc)) ρ (b1 && b2) := by
  refine et_test fun F H σ E Q q => ha F H σ E _ fun F1 H1 x g1 E1 hx => hb F1 H1 σ E1 _ fun F2 H2 y g2 E2 hy => h1 F2 H2 x y E2.sub (Ra.mono g2.fe hx) hy _ fun F3 H3 z g3 hz => ?_
  cases hz
  have E3 := E2.grow0 g3
  have g : Gr (Ch G ρ σ) F H F3 H3 := (g1.trans g2).trans g3.of0
  refine ⟨b1, rfl, ?_⟩
  cases b1 with
  | false => exact q F3 H3 _ g E3 (.bl false)
  | true =>
    show tc σ H3 _
    exact hc rfl F3 H3 σ E3 _ fun F4 H4 w g4 E4 hw => h2 rfl F4 H4 y w E4.sub (Rb.mono (g3.fe.trans g4.fe) hy) hw Q fun F5 H5 v g5 hv => q F5 H5 v ((g.trans g4).trans g5.of0) (E4.grow0 g5) hv
/-- a test with either answer -/
def EvTa (G : Glob) (tt : TT) (ρ : List Slot) : Prop := ∀ (F H : Hp) (σ : St), EnvOk G ρ F H σ → ∀ Q : Bool → Hp → Prop, (∀ F' H' b, Gr (Ch G ρ σ) F H F' H' → EnvOk G ρ F' H' σ → Q b H') → tt σ H Q
theorem eta_test {α : Sort _} {b : α → Bool} (h : Ev G te ρ (rEx fun x => dB (b x))) : EvTa G (tTest te) ρ := fun F H σ E Q q => h F H σ E _ fun F' H' v g E' ⟨x, hv⟩ => by
  cases hv
  exact ⟨b x, rfl, q F' H' _ g E'⟩
theorem ev_ifA (h : EvTa G tt ρ) (h1 : Ev G ta ρ R) (h2 : Ev G tb ρ R) : Ev G (tIf tt ta tb) ρ R := fun F H σ E Q q => h F H σ E _ fun F1 H1 b g1 E1 => by
  cases b with
  | true =>
    show ta σ H1 Q
    exact h1 F1 H1 σ E1 Q fun F2 H2 v g2 E2 hv => q F2 H2 v (g1.trans g2) E2 hv
  | false =>
    show tb σ H1 Q
    exact h2 F1 H1 σ E1 Q fun F2 H2 v g2 E2 hv => q F2 H2 v (g1.trans g2) E2 hv
theorem sv_ifA (h : EvTa G tt ρ) (h1 : Sv G t ρ P) (h2 : Sv G u ρ P) : Sv G (tIfS tt t u) ρ P := fun Y F H σ S D k =>
  h F H σ S.env _ fun F1 H1 b g1 E1 => by
    cases b with
    | true => exact h1 Y F1 H1 σ (S.step g1 E1) D k
    | false => exact h2 Y F1 H1 σ (S.step g1 E1) D k
/-- a statement, then the rest, with a word between them -/
theorem sv_cut (Mid : List Slot → Prop) (h : Sv G t ρ { P with nx := Mid }) (k : ∀ ρ1, Mid ρ1 → Sv G u ρ1 P) : Sv G (tSeq t u) ρ P := sv_seq (h.le k (fun _ z => z) (fun _ z => z) fun _ z => z)
/-- for i in range(n), n drawn below B -/
theorem sv_forR {B j : Nat} (J : Nat → List Slot → Prop) (h : Ev G ta ρ (rEx fun c : { r : Nat // r < B } => dI (c.1 : Int))) (hB : B ≤ 1000000) (h0 : J 0 ρ)
    (hturn : ∀ (i : Nat) (ρ1 : List Slot), i + 1 < B → J i ρ1 → Sv G t (ρ1.set j (.rel (dI (i : Int)))) { nx := J (i + 1), rt := P.rt, bk := P.nx, ct := J (i + 1) })
    (hd : ∀ n ρ1, n < B → J n ρ1 → P.nx ρ1) : Sv G (tFor (iRng1 (tCons ta tNil)) (gName j) t) ρ P := fun Y F H σ S D k =>
  h F H σ S.env _ fun F1 H1 v g1 E1 ⟨c, hv⟩ => by
    cases hv
    have hc := c.2
    have q : Sv G (tFor (fun _ H R => R (Itr 0 c.1) H) (gName j) t) ρ P := sv_for1 (xs := List.range c.1) (Rx := fun (i : Nat) => dI (i : Int)) J (fun F H σ E R q => by
      have k := it_range (F := F) (H := H) 0 c.1
      have e : (List.range c.1).map (fun (i : Nat) => dI ((0 : Int) + (i : Int))) = (List.range c.1).map fun (i : Nat) => dI (i : Int) := List.map_congr_left fun i _ => by rw [Int.zero_add]
      rw [e] at k
      exact q F H _ (Gr.refl E.sub) E k) h0 (fun i x ρ1 hx hJ => by
        obtain ⟨hl, e⟩ := List.getElem?_eq_some_iff.mp hx
        rw [List.length_range] at hl
        rw [List.getElem_range] at e
        subst e
        exact hturn i ρ1 (by omega) hJ) fun ρ1 hJ => by
        rw [List.length_range] at hJ
        exact hd _ ρ1 hc hJ
    exact ⟨(c.1 : Int), rfl, by omega, by omega, q Y F1 H1 σ (S.step g1 E1) D k⟩
end
/-! ### numbers -/
abbrev dN (n : Nat) : PyData := .int (n : Int)
abbrev nL (ns : List Nat) : PyData := .list (ns.map dN)
abbrev nT (ns : List Nat) : PyData := .tuple (ns.map dN)
/-- data without dicts, at most n deep -/
def Sh (n : Nat) (d : PyData) : Prop := d.canLay0 = true ∧ d.depth ≤ n
theorem Sh.shaped {n : Nat} {d : PyData} (h : Sh n d) (hn : n ≤ 64) : SeqAt.shaped d = true := by
  unfold SeqAt.shaped
  rw [h.1, decide_eq_true (Nat.le_trans h.2 hn)]
  rfl
theorem Sh.mono {n m : Nat} {d : PyData} (h : Sh n d) (hn : n ≤ m) : Sh m d := ⟨h.1, Nat.le_trans h.2 hn⟩
theorem sh_non {n : Nat} : Sh n .none := ⟨by simp [PyData.canLay0], by simp [PyData.depth]⟩
theorem sh_bl {n : Nat} {b : Bool} : Sh n (.bool b) := ⟨by simp [PyData.canLay0], by simp [PyData.depth]⟩
theorem sh_int {n : Nat} {i : Int} : Sh n (.int i) := ⟨by simp [PyData.canLay0], by simp [PyData.depth]⟩
theorem sh_all {n : Nat} : ∀ {ds : List PyData}, (∀ d, d ∈ ds → Sh n d) → PyData.canLayAll0 ds = true ∧ PyData.depthAll ds ≤ n
  | [], _ => ⟨by simp [PyData.canLayAll0], by simp [PyData.depthAll]⟩
  | d :: ds, h => by
    obtain ⟨h1, h2⟩ := sh_all (n := n) (ds := ds) fun e he => h e (List.mem_cons_of_mem _ he)
    obtain ⟨h3, h4⟩ := h d List.mem_cons_self
    refine ⟨by simp [PyData.canLayAll0, h1, h3], ?_⟩
    rw [PyData.depthAll]
    omega
theorem sh_list {n : Nat} {ds : List PyData} (h : ∀ d, d ∈ ds → Sh n d) : Sh (n + 1) (.list ds) := by
  obtain ⟨h1, h2⟩ := sh_all h
  exact ⟨by rw [PyData.canLay0]; exact h1, by rw [PyData.depth]; omega⟩
theorem sh_tup {n : Nat} {ds : List PyData} (h : ∀ d, d ∈ ds → Sh n d) : Sh (n + 1) (.tuple ds) := by
  obtain ⟨h1, h2⟩ := sh_all h
  exact ⟨by rw [PyData.canLay0]; exact h1, by rw [PyData.depth]; omega⟩
theorem sh_map {α : Type} {n : Nat} {f : α → PyData} {xs : List α} (h : ∀ x, x ∈ xs → Sh n (f x)) : ∀ d, d ∈ xs.map f → Sh n d := fun d hd => by
  obtain ⟨x, hx, rfl⟩ := List.mem_map.mp hd
  exact h x hx
theorem sh_nL (ns : List Nat) : Sh 1 (nL ns) := sh_list (n := 0) (sh_map fun _ _ => sh_int)
theorem sh_nT (ns : List Nat) : Sh 1 (nT ns) := sh_tup (n := 0) (sh_map fun _ _ => sh_int)
theorem sh_nil {n : Nat} : Sh (n + 1) (.list []) := sh_list fun d hd => by cases hd
/-- equality of data is equality of what it is written from -/
theorem eqvAll_map {α : Type} [DecidableEq α] {f : α → PyData} (h : ∀ x y, PyData.eqv (f x) (f y) = decide (x = y)) : ∀ xs ys : List α, PyData.eqvAll (xs.map f) (ys.map f) = decide (xs = ys)
  | [], [] => by simp [PyData.eqvAll]
  | [], y :: ys => by simp [PyData.eqvAll]
  | x :: xs, [] => by simp [PyData.eqvAll]
  | x :: xs, y :: ys => by
    rw [List.map_cons, List.map_cons, PyData.eqvAll, h x y, eqvAll_map h xs ys]
    by_cases e1 : x = y <;> by_cases e2 : xs = ys <;> simp [e1, e2]
theorem eqv_dN (a b : Nat) : PyData.eqv (dN a) (dN b) = decide (a = b) := by
  rw [PyData.eqv]
  by_cases h : a = b
  · rw [h]; simp
  · rw [decide_eq_false h]
    exact beq_eq_false_iff_ne.mpr fun z => h (by omega)
theorem eqv_int (a b : Int) : PyData.eqv (.int a) (.int b) = decide (a = b) := by
  rw [PyData.eqv]
  by_cases h : a = b
  · rw [h]; simp
  · rw [decide_eq_false h]
    exact beq_eq_false_iff_ne.mpr h
theorem eqv_nL (a b : List Nat) : PyData.eqv (nL a) (nL b) = decide (a = b) := by
  rw [PyData.eqv]; exact eqvAll_map eqv_dN a b
theorem eqv_nT (a b : List Nat) : PyData.eqv (nT a) (nT b) = decide (a = b) := by
  rw [PyData.eqv]; exact eqvAll_map eqv_dN a b
theorem eqv_nil (ds : List PyData) : PyData.eqv (.list ds) (.list []) = ds.isEmpty := by
  rw [PyData.eqv]
  cases ds <;> simp [PyData.eqvAll]
/-- places -/
theorem at_map {α : Type} {xs : List α} {f : α → PyData} {j : Nat} {x : α} (h : xs[j]? = some x) : atI (xs.map f) (j : Int) = some (f x) := atI_nat (by rw [List.getElem?_map, h]; rfl)
theorem at_last {α : Type} {xs : List α} {f : α → PyData} {x : α} (h : xs.getLast? = some x) : atI (xs.map f) (-1) = some (f x) := atI_end (by rw [List.getLast?_map, h]; rfl)
theorem at_zero {α : Type} {xs : List α} {f : α → PyData} {x : α} (h : xs.head? = some x) : atI (xs.map f) 0 = some (f x) := atI_nat (j := 0) (by
  rw [List.getElem?_map]
  cases xs with
  | nil => cases h
  | cons y r => exact congrArg (Option.map f) h)
section
variable {K : PySem.W.Frag}
theorem ints_of_nats (ns : List Nat) : ns.map dN = (ns.map fun (n : Nat) => (n : Int)).map PyData.int := by rw [List.map_map]; rfl
theorem mem_nats (k : Nat) (ns : List Nat) : decide ((k : Int) ∈ ns.map fun (n : Nat) => (n : Int)) = decide (k ∈ ns) := by
  by_cases h : k ∈ ns
  · rw [decide_eq_true h, decide_eq_true (List.mem_map.mpr ⟨k, h, rfl⟩)]
  · rw [decide_eq_false h, decide_eq_false]
    intro z
    obtain ⟨n, h1, h2⟩ := List.mem_map.mp z
    exact h (by have : n = k := by omega
                rw [← this]; exact h1)
theorem od_inN {k : Nat} {ns : List Nat} : OpD (rInAny K) (dR (dN k)) (dR (nL ns)) (dB (decide (k ∈ ns))) := by
  have h : OpD (rIn K false) (dI (k : Int)) (dR (.list ((ns.map fun (n : Nat) => (n : Int)).map PyData.int))) _ := od_inI (.inl rfl)
  rw [← ints_of_nats, mem_nats] at h
  exact h.inl
theorem od_inNT {k : Nat} {ns : List Nat} : OpD (rInAny K) (dR (dN k)) (dR (nT ns)) (dB (decide (k ∈ ns))) := by
  have h : OpD (rIn K false) (dI (k : Int)) (dR (.tuple ((ns.map fun (n : Nat) => (n : Int)).map PyData.int))) _ := od_inI (.inr rfl)
  rw [← ints_of_nats, mem_nats] at h
  exact h.inl
theorem od_niN {k : Nat} {ns : List Nat} : OpD (rNiAny K) (dR (dN k)) (dR (nL ns)) (dB (!decide (k ∈ ns))) := by
  have h : OpD (rIn K true) (dI (k : Int)) (dR (.list ((ns.map fun (n : Nat) => (n : Int)).map PyData.int))) _ := od_niI (.inl rfl)
  rw [← ints_of_nats, mem_nats] at h
  exact h.inl
theorem od_niNT {k : Nat} {ns : List Nat} : OpD (rNiAny K) (dR (dN k)) (dR (nT ns)) (dB (!decide (k ∈ ns))) := by
  have h : OpD (rIn K true) (dI (k : Int)) (dR (.tuple ((ns.map fun (n : Nat) => (n : Int)).map PyData.int))) _ := od_niI (.inr rfl)
  rw [← ints_of_nats, mem_nats] at h
  exact h.inl
end
section
variable {G : Glob} {K : PySem.W.Frag} {ρ : List Slot} {te ta tb : TE} {α : Type} {xs : List α} {f : α → PyData}
theorem ev_dropL {i : Int} {a : Nat} (h : Ev G te ρ (dR (.list (xs.map f)))) (hi : Ev G ta ρ (dI i)) (e : i = (a : Int)) : Ev G (tSl (rSlice K) te (tPart ta) tNoPart) ρ (dR (.list ((xs.drop a).map f))) := by
  have q := ev_sliceL (K := K) h (eo_some hi) eo_none
  rw [e, cut_from, ← List.map_drop] at q
  exact q
theorem ev_takeL {i : Int} {a : Nat} (h : Ev G te ρ (dR (.list (xs.map f)))) (hi : Ev G ta ρ (dI i)) (e : i = (a : Int)) : Ev G (tSl (rSlice K) te tNoPart (tPart ta)) ρ (dR (.list ((xs.take a).map f))) := by
  have q := ev_sliceL (K := K) h eo_none (eo_some hi)
  rw [e, cut_to, ← List.map_take] at q
  exact q
theorem ev_lenM (h : Ev G ta ρ (dR (.list (xs.map f)))) : Ev G (tCB (rLenK K) (tCons ta tNil)) ρ (dI (xs.length : Int)) := by
  have q := ev_lenL (K := K) h
  rw [List.length_map] at q
  exact q
theorem ev_lenMT (h : Ev G ta ρ (dR (.tuple (xs.map f)))) : Ev G (tCB (rLenK K) (tCons ta tNil)) ρ (dI (xs.length : Int)) := by
  have q := ev_lenT (K := K) h
  rw [List.length_map] at q
  exact q
theorem od_plusM {ys : List α} (hz : xs.length + ys.length ≤ 1000) : OpD (rPlus K) (dR (.list (xs.map f))) (dR (.list (ys.map f))) (dR (.list ((xs ++ ys).map f))) := by
  rw [List.map_append]
  exact od_plusL (by rw [List.length_map, List.length_map]; exact hz)
theorem od_ixM {i : Int} {j : Nat} {x : α} (hi : i = (j : Int)) (h : xs[j]? = some x) : OpD (rIx K) (dR (.list (xs.map f))) (dI i) (dR (f x)) := od_ixL (by rw [hi]; exact at_map h)
theorem od_ixMT {i : Int} {j : Nat} {x : α} (hi : i = (j : Int)) (h : xs[j]? = some x) : OpD (rIx K) (dR (.tuple (xs.map f))) (dI i) (dR (f x)) := od_ixT (by rw [hi]; exact at_map h)
theorem ev_tup1 {a : PyData} (h1 : Ev G ta ρ (dR a)) : Ev G (tTup (tCons ta tNil)) ρ (dR (.tuple [a])) := ev_tupD (ds := [a]) (ea_cons h1 ea_nil) (by simp)
theorem ev_tup2 {a b : PyData} (h1 : Ev G ta ρ (dR a)) (h2 : Ev G tb ρ (dR b)) : Ev G (tTup (tCons ta (tCons tb tNil))) ρ (dR (.tuple [a, b])) := ev_tupD (ds := [a, b]) (ea_cons h1 (ea_cons h2 ea_nil)) (by simp)
theorem ev_tup3 {tc : TE} {a b c : PyData} (h1 : Ev G ta ρ (dR a)) (h2 : Ev G tb ρ (dR b)) (h3 : Ev G tc ρ (dR c)) : Ev G (tTup (tCons ta (tCons tb (tCons tc tNil)))) ρ (dR (.tuple [a, b, c])) := ev_tupD (ds := [a, b, c]) (ea_cons h1 (ea_cons h2 (ea_cons h3 ea_nil))) (by simp)
theorem en_lst0 : EvN G (tLst tNil) ρ (([] : List PyData).map dR) := en_lst ea_nil (by simp)
theorem ev_lst0 : Ev G (tLst tNil) ρ (dR (.list [])) := ev_lstD (ds := []) ea_nil (by simp)
theorem ev_lst1 {a : PyData} (h1 : Ev G ta ρ (dR a)) : Ev G (tLst (tCons ta tNil)) ρ (dR (.list [a])) := ev_lstD (ds := [a]) (ea_cons h1 ea_nil) (by simp)
theorem ev_lst2 {a b : PyData} (h1 : Ev G ta ρ (dR a)) (h2 : Ev G tb ρ (dR b)) : Ev G (tLst (tCons ta (tCons tb tNil))) ρ (dR (.list [a, b])) := ev_lstD (ds := [a, b]) (ea_cons h1 (ea_cons h2 ea_nil)) (by simp)
theorem ev_lst3 {tc : TE} {a b c : PyData} (h1 : Ev G ta ρ (dR a)) (h2 : Ev G tb ρ (dR b)) (h3 : Ev G tc ρ (dR c)) : Ev G (tLst (tCons ta (tCons tb (tCons tc tNil)))) ρ (dR (.list [a, b, c])) := ev_lstD (ds := [a, b, c]) (ea_cons h1 (ea_cons h2 (ea_cons h3 ea_nil))) (by simp)
theorem ev_lst4 {tc td : TE} {a b c d : PyData} (h1 : Ev G ta ρ (dR a)) (h2 : Ev G tb ρ (dR b)) (h3 : Ev G tc ρ (dR c)) (h4 : Ev G td ρ (dR d)) : Ev G (tLst (tCons ta (tCons tb (tCons tc (tCons td tNil))))) ρ (dR (.list [a, b, c, d])) := ev_lstD (ds := [a, b, c, d]) (ea_cons h1 (ea_cons h2 (ea_cons h3 (ea_cons h4 ea_nil)))) (by simp)
theorem od_eqN {a b : Nat} : OpD (rEqD K) (dR (dN a)) (dR (dN b)) (dB (decide (a = b))) := by
  have h : OpD (rEqD K) (dR (dN a)) (dR (dN b)) _ := od_eq (sh_int.shaped (n := 0) (by decide)) (sh_int.shaped (n := 0) (by decide))
  rw [eqv_dN] at h
  exact h
theorem od_eqI {a b : Int} : OpD (rEqD K) (dI a) (dI b) (dB (decide (a = b))) := by
  have h : OpD (rEqD K) (dI a) (dI b) _ := od_eq (sh_int.shaped (n := 0) (by decide)) (sh_int.shaped (n := 0) (by decide))
  rw [eqv_int] at h
  exact h
theorem od_neI {a b : Int} : OpD (rNeD K) (dI a) (dI b) (dB (!decide (a = b))) := by
  have h : OpD (rNeD K) (dI a) (dI b) _ := od_ne (sh_int.shaped (n := 0) (by decide)) (sh_int.shaped (n := 0) (by decide))
  rw [eqv_int] at h
  exact h
/-- [..] == [], [..] != [] -/
theorem od_eq0 {n : Nat} {ds : List PyData} (h : Sh n (.list ds)) (hn : n ≤ 64) : OpD (rEqD K) (dR (.list ds)) (dR (.list [])) (dB ds.isEmpty) := by
  have h : OpD (rEqD K) (dR (.list ds)) (dR (.list [])) _ := od_eq (h.shaped hn) ((sh_nil (n := 0)).shaped (by decide))
  rw [eqv_nil] at h
  exact h
theorem od_ne0 {n : Nat} {ds : List PyData} (h : Sh n (.list ds)) (hn : n ≤ 64) : OpD (rNeD K) (dR (.list ds)) (dR (.list [])) (dB (!ds.isEmpty)) := by
  have h : OpD (rNeD K) (dR (.list ds)) (dR (.list [])) _ := od_ne (h.shaped hn) ((sh_nil (n := 0)).shaped (by decide))
  rw [eqv_nil] at h
  exact h
theorem ev_listRgN {n : Nat} (h : Ev G ta ρ (dI (n : Int))) (hn : n ≤ 10000) : Ev G (tLstRg (tRg1 ta)) ρ (dR (nL (List.range n))) := by
  have q := (en_listRg h hn).ev
  have e : ((List.range n).map fun (i : Nat) => dI (i : Int)) = ((List.range n).map dN).map dR := by rw [List.map_map]; rfl
  rw [e] at q
  exact q.le (rLs_data _)
theorem ev_d {d d' : PyData} (h : Ev G te ρ (dR d)) (e : d = d') : Ev G te ρ (dR d') := e ▸ h
end
/-- a list of drawn numbers -/
theorem drawn_list {B : Nat} : ∀ (n : Nat), (rLs ((List.range n).map fun _ => rEx fun c : { r : Nat // r < B } => dR (dN c.1))).le (rEx fun l : { l : List Nat // l.length = n ∧ ∀ x, x ∈ l → x < B } => dR (nL l.1)) := fun n F v ⟨a, vs, h1, h2, h3⟩ => by
  subst h1
  have key : ∀ (xs : List Nat) (vs : List V), RAll F vs (xs.map fun _ => rEx fun c : { r : Nat // r < B } => dR (dN c.1)) → ∃ l : List Nat, l.length = xs.length ∧ (∀ x, x ∈ l → x < B) ∧ DqAll F vs (l.map dN) := by
    intro xs
    induction xs with
    | nil =>
      intro vs h
      cases h
      exact ⟨[], rfl, (fun x hx => absurd hx (List.not_mem_nil)), .nil⟩
    | cons x xs ih =>
      intro vs h
      cases h with
      | cons h1 h2 =>
        obtain ⟨c, hc⟩ := h1
        obtain ⟨l, e1, e2, e3⟩ := ih _ h2
        refine ⟨c.1 :: l, by simp [e1], fun y hy => ?_, .cons hc e3⟩
        rcases List.mem_cons.mp hy with z | z
        · rw [z]; exact c.2
        · exact e2 y z
  obtain ⟨l, e1, e2, e3⟩ := key _ _ h3
  exact ⟨⟨l, by rw [e1, List.length_range], e2⟩, .lst h2 e3⟩
theorem perm_unmap {α β : Type} {f : α → β} : ∀ {l ds : List β}, l.Perm ds → ∀ xs : List α, ds = xs.map f → ∃ ys : List α, l = ys.map f ∧ ys.Perm xs := by
  intro l ds h
  induction h with
  | nil => exact fun xs e => ⟨[], rfl, by cases xs with | nil => exact .nil | cons _ _ => cases e⟩
  | cons x _ ih =>
    intro xs e
    cases xs with
    | nil => cases e
    | cons y ys =>
      rw [List.map_cons] at e
      obtain ⟨e1, e2⟩ := List.cons.inj e
      obtain ⟨zs, q1, q2⟩ := ih ys e2
      exact ⟨y :: zs, by rw [e1, q1]; rfl, q2.cons y⟩
  | swap x y l =>
    intro xs e
    match xs, e with
    | a :: b :: r, e =>
      rw [List.map_cons, List.map_cons] at e
      obtain ⟨e1, e2⟩ := List.cons.inj e
      obtain ⟨e3, e4⟩ := List.cons.inj e2
      exact ⟨b :: a :: r, by rw [e1, e3, e4]; rfl, .swap a b r⟩
    | [a], e => cases e
    | [], e => cases e
  | trans _ _ ih1 ih2 =>
    intro xs e
    obtain ⟨ys, q1, q2⟩ := ih2 xs e
    obtain ⟨zs, q3, q4⟩ := ih1 ys q1
    exact ⟨zs, q3, q4.trans q2⟩
theorem lay_ns : ∀ ns : List Nat, PyData.canLayAll0 (ns.map dN) = true
  | [] => by simp [PyData.canLayAll0]
  | n :: ns => by
    have h := lay_ns ns
    simp [PyData.canLayAll0, PyData.canLay0] at h ⊢
    exact h
theorem depth_ns : ∀ ns : List Nat, PyData.depthAll (ns.map dN) ≤ 1
  | [] => by simp [PyData.depthAll]
  | n :: ns => by
    have h := depth_ns ns
    simp [PyData.depthAll, PyData.depth] at h ⊢
    exact h
end Dx
set_option Elab.async false
set_option linter.all false
set_option maxRecDepth 100000
/-! WMath: wishes as plain data: what the program's functions and the law's own say of them. -/
namespace WM
open PySem Dx
abbrev Need := Nat × Nat × List Nat
abbrev eNeed (n : Need) : PyData := .tuple [dN n.1, dN n.2.1, nL n.2.2]
def missB (spare : List Nat) (n : Need) : Bool := (n.2.2.filter fun f => decide (f ∈ spare)).isEmpty
def missedM (needs : List Need) (spare : List Nat) : Option (Nat × Nat) := (needs.find? (missB spare)).map fun n => (n.1, n.2.1)
def eMiss : Option (Nat × Nat) → PyData
  | none => .none
  | some p => .tuple [dN p.1, dN p.2]
/-- all choices of k of the things, in their order -/
def picksM : Nat → List Nat → List (List Nat)
  | 0, _ => [[]]
  | _ + 1, [] => []
  | k + 1, t :: ts => (picksM k ts).map (t :: ·) ++ picksM (k + 1) ts
theorem picks_len : ∀ (k : Nat) (ts : List Nat), (picksM k ts).length ≤ 2 ^ ts.length
  | 0, ts => by simp [picksM]; exact Nat.one_le_two_pow
  | k + 1, [] => by simp [picksM]
  | k + 1, t :: ts => by
    have h1 := picks_len k ts
    have h2 := picks_len (k + 1) ts
    rw [picksM, List.length_append, List.length_map, List.length_cons, Nat.pow_succ]
    omega
theorem picks_drop (k : Nat) {ts : List Nat} {i t : Nat} (h : ts[i]? = some t) : picksM (k + 1) (ts.drop i) = (picksM k (ts.drop (i + 1))).map (t :: ·) ++ picksM (k + 1) (ts.drop (i + 1)) := by
  obtain ⟨hl, e⟩ := List.getElem?_eq_some_iff.mp h
  rw [List.drop_eq_getElem_cons hl, e, picksM]
/-- each choice has at most as many things -/
theorem picks_small : ∀ (k : Nat) (ts r : List Nat), r ∈ picksM k ts → r.length ≤ ts.length
  | 0, ts, r, h => by simp [picksM] at h; rw [h]; exact Nat.zero_le _
  | k + 1, [], r, h => by simp [picksM] at h
  | k + 1, t :: ts, r, h => by
    rw [picksM] at h
    rcases List.mem_append.mp h with h | h
    · obtain ⟨q, hq, rfl⟩ := List.mem_map.mp h
      have := picks_small k ts q hq
      simp only [List.length_cons]; omega
    · have := picks_small (k + 1) ts r h
      simp only [List.length_cons]; omega
theorem picks_mem {k j : Nat} {ts r : List Nat} (h : (picksM k ts)[j]? = some r) : r.length ≤ ts.length := picks_small k ts r (List.mem_of_getElem? h)
theorem range_at {n i x : Nat} (h : (List.range n)[i]? = some x) : x = i ∧ i < n := by
  obtain ⟨hl, e⟩ := List.getElem?_eq_some_iff.mp h
  rw [List.length_range] at hl
  rw [List.getElem_range] at e
  exact ⟨e.symm, hl⟩
/-! ### subsets -/
/-- all sets of numbers below n, as the law lists them -/
def subsN : Nat → List (List Nat)
  | 0 => [[]]
  | n + 1 => subsN n ++ (subsN n).map fun one => one ++ [n]
theorem subs_len : ∀ n : Nat, (subsN n).length = 2 ^ n
  | 0 => rfl
  | n + 1 => by
    rw [subsN, List.length_append, List.length_map, subs_len n, Nat.pow_succ]
    omega
theorem subs_ne (n : Nat) : subsN n ≠ [] := fun h => by
  have := subs_len n
  rw [h] at this
  have h2 := Nat.two_pow_pos n
  simp at this
  omega
/-- ascending, below n -/
def Asc (n : Nat) (l : List Nat) : Prop := l.Pairwise (· < ·) ∧ ∀ x, x ∈ l → x < n
theorem asc_snoc {n : Nat} {l : List Nat} (h : Asc n l) : Asc (n + 1) (l ++ [n]) := by
  refine ⟨List.pairwise_append.mpr ⟨h.1, List.pairwise_singleton _ _, fun a ha b hb => ?_⟩, fun x hx => ?_⟩
  · rw [List.mem_singleton.mp hb]; exact h.2 a ha
  · rcases List.mem_append.mp hx with z | z
    · have := h.2 x z; omega
    · rw [List.mem_singleton.mp z]; omega
theorem subs_asc : ∀ (n : Nat) (l : List Nat), l ∈ subsN n → Asc n l
  | 0, l, h => by
    have : l = [] := by simpa [subsN] using h
    rw [this]
    exact ⟨List.Pairwise.nil, fun x hx => by cases hx⟩
  | n + 1, l, h => by
    rw [subsN] at h
    rcases List.mem_append.mp h with h | h
    · have q := subs_asc n l h
      exact ⟨q.1, fun x hx => Nat.lt_succ_of_lt (q.2 x hx)⟩
    · obtain ⟨o, ho, rfl⟩ := List.mem_map.mp h
      exact asc_snoc (subs_asc n o ho)
theorem subs_tail_ne : ∀ (n : Nat) (l : List Nat), l ∈ (subsN n).tail → l ≠ []
  | 0, l, h => by simp [subsN] at h
  | n + 1, l, h => by
    rw [subsN] at h
    obtain ⟨a, r, e⟩ : ∃ a r, subsN n = a :: r := by
      cases e : subsN n with
      | nil => exact absurd e (subs_ne n)
      | cons a r => exact ⟨a, r, rfl⟩
    have h' : l ∈ (subsN n).tail ++ (subsN n).map fun one => one ++ [n] := by
      rw [e] at h ⊢
      exact h
    rcases List.mem_append.mp h' with z | z
    · exact subs_tail_ne n l z
    · obtain ⟨o, ho, rfl⟩ := List.mem_map.mp z
      simp
/-- an ascending list, its last number apart -/
theorem asc_split {n : Nat} {l : List Nat} (h : Asc (n + 1) l) : Asc n l ∨ ∃ o, l = o ++ [n] ∧ Asc n o := by
  by_cases hm : n ∈ l
  · right
    obtain ⟨o, r, e⟩ := List.append_of_mem hm
    subst e
    have h1 := h.1
    rw [List.pairwise_append] at h1
    obtain ⟨p1, p2, p3⟩ := h1
    have er : r = [] := by
      cases r with
      | nil => rfl
      | cons y r =>
        have h3 := (List.pairwise_cons.mp p2).1 y List.mem_cons_self
        have h4 := h.2 y (by simp)
        omega
    subst er
    exact ⟨o, rfl, p1, fun x hx => p3 x hx n List.mem_cons_self⟩
  · left
    refine ⟨h.1, fun x hx => ?_⟩
    have h1 := h.2 x hx
    have h2 : x ≠ n := fun z => hm (z ▸ hx)
    omega
theorem subs_all : ∀ (n : Nat) (l : List Nat), Asc n l → l ∈ subsN n
  | 0, l, h => by
    cases l with
    | nil => exact List.mem_cons_self
    | cons x r => exact absurd (h.2 x List.mem_cons_self) (Nat.not_lt_zero _)
  | n + 1, l, h => by
    rw [subsN]
    rcases asc_split h with q | ⟨o, rfl, q⟩
    · exact List.mem_append_left _ (subs_all n l q)
    · exact List.mem_append_right _ (List.mem_map.mpr ⟨o, subs_all n o q, rfl⟩)
theorem subs_small : ∀ (n : Nat) (l : List Nat), l ∈ subsN n → l.length ≤ n
  | 0, l, h => by
    have : l = [] := by simpa [subsN] using h
    rw [this]; exact Nat.le_refl _
  | n + 1, l, h => by
    rw [subsN] at h
    rcases List.mem_append.mp h with h | h
    · have := subs_small n l h; omega
    · obtain ⟨o, ho, rfl⟩ := List.mem_map.mp h
      have := subs_small n o ho
      simp; omega
theorem subs_nodup : ∀ n : Nat, (subsN n).Nodup
  | 0 => by simp [subsN]
  | n + 1 => by
    rw [subsN, List.nodup_append]
    refine ⟨subs_nodup n, ?_, fun a ha b hb e => ?_⟩
    · refine List.Pairwise.map _ ?_ (subs_nodup n)
      intro a b hab e
      exact hab (List.append_cancel_right e)
    · obtain ⟨o, ho, rfl⟩ := List.mem_map.mp hb
      have h1 := (subs_asc n a ha).2 n (by rw [e]; simp)
      omega
/-! ### wishes -/
structure Wish where
  fields : Nat
  forms : List (List Nat)
  keeps : List (List Nat)
  renews : List (List Nat)
abbrev eW (W : Wish) : PyData := .list [dN W.fields, .list (W.forms.map nT), .list (W.keeps.map nL), .list (W.renews.map nL)]
structure WOk (W : Wish) : Prop where
  f1 : 1 ≤ W.fields
  f5 : W.fields ≤ 5
  ne : W.forms ≠ []
  six : W.forms.length ≤ 6
  nd : W.forms.Nodup
  asc : ∀ f, f ∈ W.forms → f ≠ [] ∧ Asc W.fields f
  kr : W.keeps.length = W.renews.length
  four : W.keeps.length ≤ 4
  ka : ∀ l, l ∈ W.keeps → Asc W.forms.length l
  ra : ∀ l, l ∈ W.renews → Asc W.forms.length l
  dj : ∀ (p : Nat) (k r : List Nat), W.keeps[p]? = some k → W.renews[p]? = some r → ∀ x, x ∈ k → x ∉ r
theorem asc_len {n : Nat} {l : List Nat} (h : Asc n l) : l.length ≤ n := by
  have := subs_small n l (subs_all n l h)
  exact this
/-- the fields of the keeping forms, one after the other -/
def covM (W : Wish) (ks : List Nat) : List Nat := (ks.map fun k => W.forms.getD k []).flatten
theorem covM_snoc (W : Wish) (ks : List Nat) (k : Nat) : covM W (ks ++ [k]) = covM W ks ++ W.forms.getD k [] := by
  unfold covM
  rw [List.map_append, List.flatten_append]
  simp
/-- the fields of form n that are in no form that keeps part p -/
def outM (W : Wish) (p n : Nat) : List Nat := (W.forms.getD n []).filter fun x => !decide (x ∈ covM W (W.keeps.getD p []))
/-- the needs of one part -/
def needsAt (W : Wish) (p : Nat) : List Need := (W.renews.getD p []).map fun n => (p, n, outM W p n)
def needsM (W : Wish) : List Need := ((List.range W.renews.length).map (needsAt W)).flatten
theorem needsM_take (W : Wish) (i : Nat) : ((List.range (i + 1)).map (needsAt W)).flatten = ((List.range i).map (needsAt W)).flatten ++ needsAt W i := by
  rw [List.range_succ, List.map_append, List.flatten_append]
  simp
theorem needs_len (W : Wish) (ok : WOk W) (i : Nat) : (((List.range i).map (needsAt W)).flatten).length ≤ i * 6 := by
  induction i with
  | zero => simp
  | succ i ih =>
    rw [needsM_take, List.length_append]
    have h : (needsAt W i).length ≤ 6 := by
      unfold needsAt
      rw [List.length_map, List.getD_eq_getElem?_getD]
      cases e : W.renews[i]? with
      | none => exact Nat.zero_le _
      | some l =>
        have h1 := asc_len (ok.ra l (List.mem_of_getElem? e))
        have h2 := ok.six
        show l.length ≤ 6
        omega
    omega
end WM
set_option Elab.async false
set_option linter.all false
set_option maxRecDepth 100000
/-! DxNew: data that is new through and through (nothing of it stood before), lists of lists made anew. -/
namespace Dx
open PySem L2

/-- two parts put together -/
def uni (F F2 : Hp) : Hp := fun a => match F a with | some o => some o | none => F2 a
theorem uni_l {F F2 : Hp} : Same F (uni F F2) := fun a o h => by unfold uni; rw [h]
theorem uni_r {F F2 : Hp} (d : ∀ a, F2 a ≠ none → F a = none) : Same F2 (uni F F2) := fun a o h => by
  unfold uni
  rw [d a (by rw [h]; exact fun z => by cases z)]
  exact h
theorem uni_in {F F2 : Hp} {a : Addr} (h : uni F F2 a ≠ none) : F a ≠ none ∨ F2 a ≠ none := by
  unfold uni at h
  cases e : F a with
  | none => rw [e] at h; exact .inr h
  | some o => exact .inl fun z => by cases z
theorem uni_sub {F F2 H : Hp} (h1 : Same F H) (h2 : Same F2 H) : Same (uni F F2) H := fun a o h => by
  unfold uni at h
  cases e : F a with
  | none => rw [e] at h; exact h2 a o h
  | some u => rw [e] at h; rw [← h]; exact h1 a u e
/-- e makes data that is new -/
def EvF (G : Glob) (te : TE) (ρ : List Slot) (d : PyData) : Prop := ∀ (F H : Hp) (σ : St), EnvOk G ρ F H σ → ∀ Q : VK,
  (∀ F' H' F2 v, Gr (Ch G ρ σ) F H F' H' → EnvOk G ρ F' H' σ → Same F2 H' → (∀ a, F2 a ≠ none → H a = none) → Dq F2 v d → Q v H') → te σ H Q
section
variable {G : Glob} {K : PySem.W.Frag} {ρ ρ1 ρ2 : List Slot} {P : Post} {te ta tb tl : TE} {tt : TT} {t u : TS} {R : Rel}
theorem fresh_back {M : Addr → Prop} {F H F' H' : Hp} (g : Gr M F H F' H') {a : Addr} (h : H' a = none) : H a = none := by
  cases e : H a with
  | none => rfl
  | some o => exact absurd h (g.keep a (by rw [e]; exact fun z => by cases z))
theorem nats_data (F : Hp) : ∀ ns : List Nat, DqAll F (ns.map fun (n : Nat) => V.int (n : Int)) (ns.map dN)
  | [] => .nil
  | n :: ns => .cons (.int _) (nats_data F ns)
/-- list(x), x of numbers -/
theorem ef_list {d : PyData} {ns : List Nat} (h : Ev G ta ρ (dR d)) (hd : d = nL ns ∨ d = nT ns) : EvF G (tCB (rListK K) (tCons ta tNil)) ρ (nL ns) := fun F H σ E Q q => by
  refine en_list h (ds := ns.map dN) hd F H σ E Q fun F' H' p vs g E' hp hp' fp hr => ?_
  have e : vs = ns.map fun (n : Nat) => V.int (n : Int) := by
    have := flat_ints F' (ns.map fun (n : Nat) => (n : Int)) vs (by rw [← ints_of_nats]; exact hr.data)
    rw [this, List.map_map]
    rfl
  subst e
  refine q F' H' (fun a => if a = p then some (.lst (ns.map fun (n : Nat) => V.int (n : Int))) else none) (.ref p) g E' (fun a o h => ?_) (fun a h => ?_) (.lst (if_pos rfl) ?_)
  · have h' : (if a = p then some (HO.lst (ns.map fun (n : Nat) => V.int (n : Int))) else none) = some o := h
    by_cases z : a = p
    · rw [if_pos z] at h'
      rw [z, hp']; exact h'
    · rw [if_neg z] at h'; cases h'
  · have h' : (if a = p then some (HO.lst (ns.map fun (n : Nat) => V.int (n : Int))) else none) ≠ none := h
    by_cases z : a = p
    · rw [z]; exact hp
    · rw [if_neg z] at h'; exact absurd rfl h'
  · exact nats_data _ ns
/-- tuple(x), x a list of numbers -/
theorem ef_tuple {ns : List Nat} (h : Ev G ta ρ (dR (nL ns))) : EvF G (tCB (rTupleK K) (tCons ta tNil)) ρ (nT ns) := fun F H σ E Q q =>
  h F H σ E _ fun F1 H1 v g1 E1 hv => by
    cases hv with
    | lst k1 k2 =>
      have e := flat_ints F1 (ns.map fun (n : Nat) => (n : Int)) _ (by rw [← ints_of_nats]; exact k2)
      rw [List.map_map] at e
      subst e
      refine ⟨_, _, rfl, .inl ⟨SqL.of (E1.sub _ _ k1), fun p hp => ?_⟩⟩
      obtain ⟨f0, n0, a0, c0⟩ := E1.newNot hp
      refine q F1 _ (fun a => if a = p then some (.tup (ns.map fun (n : Nat) => V.int (n : Int))) else none) (.ref p) (g1.trans (Gr.lay E1.sub hp)) (E1.updOther f0 n0 a0 fun φ z => by rw [hp] at z; cases z) (fun a o h => ?_) (fun a h => ?_) (.tup (if_pos rfl) (nats_data _ ns))
      · have h' : (if a = p then some (HO.tup (ns.map fun (n : Nat) => V.int (n : Int))) else none) = some o := h
        by_cases z : a = p
        · rw [if_pos z] at h'
          rw [z, upd_same]; exact h'
        · rw [if_neg z] at h'; cases h'
      · have h' : (if a = p then some (HO.tup (ns.map fun (n : Nat) => V.int (n : Int))) else none) ≠ none := h
        by_cases z : a = p
        · rw [z]; exact fresh_back g1 hp
        · rw [if_neg z] at h'; exact absurd rfl h'
/-- [e for x in xs], each e new -/
theorem ef_map1 {α : Type} {xs : List α} {Rx : α → Rel} {wi : TI} {j : Nat} {s0 : Slot} (f : α → PyData) (hi : EvI G wi ρ (xs.map Rx)) (hz : xs.length ≤ 1000) (h0 : ρ[j]? = some s0) (n0 : ¬ s0.mine)
    (hturn : ∀ x, x ∈ xs → EvF G te (ρ.set j (.rel (Rx x))) (f x)) : EvF G (tLc wi (gName j) tYes te [j]) ρ (.list (xs.map f)) := fun F H σ E Q q => hi F H σ E _ fun F1 H1 J g1 E1 hJ D hD => by
  obtain ⟨f0, nn, a0, c0⟩ := E1.newNot hD
  have hvs := hvs1 h0 n0
  refine ⟨fun i m H' => m = xs.length - i ∧ i ≤ xs.length ∧ ∃ F' acc F2, Gr (Ch G ρ σ) F1 H1 F' H' ∧ EnvOk G ρ F' H' σ ∧ H' D = some (.lst acc) ∧ F' D = none ∧ Same F2 H' ∧ (∀ a, F2 a ≠ none → H1 a = none ∧ a ≠ D) ∧ DqAll F2 acc ((xs.take i).map f),
    ⟨xs.length, by omega, Nat.zero_le _, F1, [], fun _ => none, Gr.lay E1.sub hD, E1.updOther f0 nn a0 (fun φ z => by rw [hD] at z; cases z), upd_same, f0, (fun a o h => by cases h), (fun a h => absurd rfl h), .nil⟩, ?_⟩
  rintro i m H' ⟨rfl, hi, F', acc, F2, g2, E2, hD2, fD2, s2, d2, hacc⟩
  obtain ⟨hstop, hgo⟩ := hJ F' H' g2.fe E2.sub
  rw [List.length_map] at hstop
  have nch : ∀ a, H1 a = none → ¬ Ch G ρ σ a := fun a ha z => by
    rcases z with z | z
    · obtain ⟨_, ⟨o, q⟩, _⟩ := E1.mutNot z
      rw [ha] at q; cases q
    · obtain ⟨_, ps, q⟩ := E1.tab a z
      rw [ha] at q; cases q
  by_cases hlt : i < xs.length
  · have ex : xs[i]? = some xs[i] := List.getElem?_eq_getElem hlt
    obtain ⟨go, yl⟩ := hgo i (Rx xs[i]) (by rw [List.getElem?_map, ex]; rfl)
    refine .inr ⟨go, fun H'' => ∃ F' acc F2, Gr (Ch G ρ σ) F1 H1 F' H'' ∧ EnvOk G ρ F' H'' σ ∧ H'' D = some (.lst acc) ∧ F' D = none ∧ Same F2 H'' ∧ (∀ a, F2 a ≠ none → H1 a = none ∧ a ≠ D) ∧ DqAll F2 acc ((xs.take (i + 1)).map f), fun H'' h => ⟨xs.length - (i + 1), by omega, rfl, hlt, h⟩, fun x H3 hy => ?_⟩
    obtain ⟨F3, g3, hx⟩ := yl x H3 hy
    have E3 := E2.grow0 g3
    refine tg_name F3 H3 (wipe σ [j]) x (E3.wipe [j]) hx _ fun σ' E4 l4 k4 m4 => ⟨?_, ?_⟩
    · apply List.ext_getElem?
      intro k
      rw [wipe_get, wipe_get]
      by_cases hj : k ∈ [j]
      · rw [if_pos hj, if_pos hj]
        by_cases hl : k < σ.length
        · rw [List.getElem?_eq_getElem (show k < σ'.length by rw [l4, wipe_length]; exact hl), List.getElem?_eq_getElem hl]
          rfl
        · rw [List.getElem?_eq_none (show σ'.length ≤ k by rw [l4, wipe_length]; omega), List.getElem?_eq_none (show σ.length ≤ k by omega)]
      · rw [if_neg hj, if_neg hj, (k4 k hj).1, wipe_get, if_neg hj]
    · have back : ∀ (k : Nat) (s : Slot), ρ[k]? = some s → s.mine → ((wipeR ρ [j]).set j (.rel (Rx xs[i])))[k]? = some s ∧ σ'[k]? = σ[k]? := fun k s hs m => by
        have nj : k ∉ [j] := fun z => hvs k s z hs m
        obtain ⟨k1, k2⟩ := k4 k nj
        rw [k1, k2, wipeR_out nj, wipe_get, if_neg nj]
        exact ⟨hs, rfl⟩
      have chb : ∀ a, Ch G ((wipeR ρ [j]).set j (.rel (Rx xs[i]))) σ' a → Ch G ρ σ a := fun a ha => by
        rcases ha with ⟨k, sh, h1, h2⟩ | ha
        · have nj : k ∉ [j] := fun z => m4 k _ z h1 trivial
          obtain ⟨k1, k2⟩ := k4 k nj
          rw [k2] at h1
          rcases wipeR_get h1 with z | ⟨z1, z2⟩
          · cases z
          · rw [k1, wipe_get, if_neg z1] at h2
            exact .inl ⟨k, sh, z2, h2⟩
        · exact .inr ha
      show te σ' H3 _
      have E4' := E4
      rw [wipe1] at E4' chb back
      refine hturn xs[i] (List.getElem_mem hlt) F3 H3 σ' E4' _ fun F6 H6 F2e y g6 E6 s6 d6 hy => ?_
      have g6' := g6.mono chb
      have hD3 : H3 D = some (.lst acc) := g3.ext D _ (fun z => z) hD2
      have hD6 : H6 D = some (.lst acc) := g6'.ext D _ c0 hD3
      have fD3 : F3 D = none := g3.un fD2 (by rw [hD2]; exact fun z => by cases z)
      have fD6 : F6 D = none := g6.un fD3 (by rw [hD3]; exact fun z => by cases z)
      have R6 : EnvOk G ρ F6 H6 σ := E3.restore E6 g6.fe back
      have G6 : Gr (Ch G ρ σ) F1 H1 F6 H6 := g2.trans (g3.of0.trans g6')
      have R7 : EnvOk G ρ F6 (upd H6 D (.lst (acc ++ [y]))) σ := R6.updOther fD6 nn a0 fun φ z => by rw [hD6] at z; cases z
      have hal : acc.length ≤ i := by
        have h1 := hacc.length
        rw [List.length_map] at h1
        have h3 := List.length_take_le i xs
        omega
      have et : xs.take (i + 1) = xs.take i ++ [xs[i]] := by rw [List.take_add_one, ex]; rfl
      have dd : ∀ a, F2e a ≠ none → F2 a = none := fun a ha => by
        have h3 := d6 a ha
        cases e : F2 a with
        | none => rfl
        | some o =>
          have := g3.ext a o (fun z => z) (s2 a o e)
          rw [h3] at this; cases this
      have s26 : Same F2 H6 := fun a o h => g6'.ext a o (nch a (d2 a (by rw [h]; exact fun z => by cases z)).1) (g3.ext a o (fun z => z) (s2 a o h))
      have dall : ∀ a, uni F2 F2e a ≠ none → H1 a = none ∧ a ≠ D := fun a ha => by
        rcases uni_in ha with z | z
        · exact d2 a z
        · have h3 := d6 a z
          refine ⟨fresh_back g2 (fresh_back g3 h3), fun e => ?_⟩
          rw [e, hD3] at h3; cases h3
      refine ⟨acc, hD6, small1000 (by omega), F6, acc ++ [y], uni F2 F2e, ⟨fun a o m h => ?_, fun a h => ?_, G6.fe, R7.sub, G6.sep, fun a φ h => by rw [upd_ne (ne_of_none h hD)]; exact G6.exts a φ h⟩, R7, upd_same, fD6, fun a o h => ?_, dall, ?_⟩
      · rw [upd_ne (ne_of_none h hD)]
        exact G6.ext a o m h
      · by_cases z : a = D
        · rw [z, upd_same]; exact fun y => by cases y
        · rw [upd_ne z]; exact G6.keep a h
      · rw [upd_ne (dall a (by rw [h]; exact fun z => by cases z)).2]
        exact uni_sub s26 s6 a o h
      · rw [et, List.map_append]
        exact (DqAll.mono uni_l _ _ hacc).append (.cons (Dq.mono (uni_r dd) _ _ hy) .nil)
  · have e : i = xs.length := by omega
    refine .inl ⟨by rw [e]; exact hstop, ?_⟩
    rw [e, List.take_length] at hacc
    have nD : ∀ a, F2 a ≠ none → a ≠ D := fun a h => (d2 a h).2
    refine q F' H' (upd F2 D (.lst acc)) (.ref D) (g1.trans g2) E2 (fun a o h => ?_) (fun a h => ?_) (.lst upd_same (DqAll.mono (fun a o h => by rw [upd_ne (nD a (by rw [h]; exact fun z => by cases z))]; exact h) _ _ hacc))
    · by_cases z : a = D
      · rw [z, upd_same] at h
        rw [z, hD2]; exact h
      · rw [upd_ne z] at h
        exact s2 a o h
    · by_cases z : a = D
      · rw [z]; exact fresh_back g1 hD
      · rw [upd_ne z] at h
        exact fresh_back g1 (d2 a h).1
end
end Dx
set_option Elab.async false
set_option linter.all false
set_option maxRecDepth 100000
/-! DxSort: sorted(needs, key=lambda need: (need[2][-1], need[0], need[1])). -/
namespace Dx
open PySem PySem.Spec PyProof.Rows L2
/-- what stands for a need in the heap: (p, n, fields), the last of the fields told -/
def NeedAt (h : Heap) (v : Value) (b : Int × Int × Int) : Prop := ∃ (a l : Addr) (t1 t2 t3 : Tok) (vs : List Value), v = .ref a ∧ IsTup h a #[.int b.1 t1, .int b.2.1 t2, .ref l] ∧ h.IsList l vs.toArray ∧ vs ≠ [] ∧ vs.length ≤ 1000 ∧ vs[vs.length - 1]? = some (.int b.2.2 t3)
theorem NeedAt.keeps {h h' : Heap} {v : Value} {b : Int × Int × Int} (x : NeedAt h v b) (k : ∀ c o, h.get? c = some o → h'.get? c = some o) : NeedAt h' v b := by
  obtain ⟨a, l, t1, t2, t3, vs, e, h1, h2, h3⟩ := x
  exact ⟨a, l, t1, t2, t3, vs, e, h1.keeps k, (let ⟨o, ho, r⟩ := h2; ⟨o, k _ _ ho, r⟩), h3⟩
section
variable {prog : Program} {w : World} {A : Around} {E : Value → Shared → Prop} {s : Shared} {env : Env} {m : Str → Option Value} {v : Value} {b : Int × Int × Int}
abbrev keyOf3 (b : Int × Int × Int) : PyData := .tuple [.int b.2.2, .int b.1, .int b.2.1]
theorem lam_body {x : Str} {p1 p2 p3 p4 p5 p6 p7 p8 p9 q1 q2 q3 q4 : Pos} {j1 j2 j3 j4} {c1} (hk : env.scope.kind = .function) (hl : env.kindOf x = some .local) (hd : (x == ("__debug__" : Str)) = false) (hn : s.heap.Ns env.locals m) (hv : m x = some v) (hb : NeedAt s.heap v b) :
    wpAny (model prog w) A (eval (.Tuple [.Subscript (.Subscript (.Name x p1) (.Constant (.int 2) j1 p2) p3) (.UnaryOp .USub (.Constant (.int 1) j2 p4) p5) p6, .Subscript (.Name x p7) (.Constant (.int 0) j3 p8) p9, .Subscript (.Name x q1) (.Constant (.int 1) j4 q2) q3] c1 q4) env)
      (PySem.W.KeyPure (keyOf3 b) s) E s := by
  obtain ⟨a, l, t1, t2, t3, vs, rfl, h1, h2, h3, h4, h5⟩ := hb
  have nm : ∀ (tk : Nat) (p : Pos) (Q : Value → Shared → Prop), Q (.ref a) { s with toks := tk } → wpAny (model prog w) A (eval (.Name x p) env) Q E { s with toks := tk } := fun tk p Q h =>
    wpAny_Name (wpAny_loadName_local (s := { s with toks := tk }) hk hl hn hv h) hd
  have item : ∀ (tk : Nat) (i : Int) (j : Nat) (u : Value) (p p' p'' : Pos) jj (Q : Value → Shared → Prop), -(2 ^ 63) ≤ i → i < 2 ^ 63 → seqIndex? i 3 = some j → (#[.int b.1 t1, .int b.2.1 t2, .ref l] : Array Value)[j]? = some u → (∀ tk', Q u { s with toks := tk' }) →
      wpAny (model prog w) A (eval (.Subscript (.Name x p) (.Constant (.int i) jj p') p'') env) Q E { s with toks := tk } := fun tk i j u p p' p'' jj Q g1 g2 g3 g4 h =>
    Subscript_ (nm tk p _ (wpAny_Constant_int (item_tuple (s := { s with toks := tk + 1 }) h1 g1 g2 g3 g4 (h _))))
  refine wpAny_Tuple_spliced (Calls.spliced_cons (Subscript_ ?_))
  refine item s.toks 2 2 (.ref l) _ _ _ _ _ (by decide) (by decide) (by decide) (by rfl) fun tk1 => ?_
  refine UnaryOp_ (wpAny_Constant_int ?_)
  refine neg_int ?_
  have hpos : 1 ≤ vs.length := by
    cases vs with
    | nil => exact absurd rfl h3
    | cons y ys => simp
  refine subscriptTail_builtinR (s := { s with toks := tk1 + 1 + 1 }) h2.typeIs slot_list_getitem.lookup (wpAny_getItem_list_neg (s := { s with toks := tk1 + 1 + 1 }) (Q := fun r s' => r = .int b.2.2 t3 ∧ _) h2 (by decide) ?_ (by decide) ?_ ⟨rfl, ?_⟩)
  · simp
    omega
  · have e : ((-1 : Int) + (vs.toArray.size : Int)).toNat = vs.length - 1 := by
      simp
      omega
    rw [e]
    simpa using h5
  · refine Calls.spliced_cons (item (tk1 + 1 + 1) 0 0 (.int b.1 t1) _ _ _ _ _ (by decide) (by decide) (by decide) (by rfl) fun tk2 => ?_)
    refine Calls.spliced_cons (item tk2 1 1 (.int b.2.1 t2) _ _ _ _ _ (by decide) (by decide) (by decide) (by rfl) fun tk3 => ?_)
    refine Calls.spliced_nil ⟨by rw [sizeLine_eq]; simp, ?_⟩
    refine ⟨_, _, rfl, fun c o e => Heap.get?_push_of_some _ e, ?_⟩
    exact Reads.tuple (vs := #[.int b.2.2 t3, .int b.1 t1, .int b.2.1 t2]) (Heap.get?_push_size _ rfl) rfl rfl (as := [] ++ ([] ++ ([] ++ []))) (.cons (.int _ _) (.cons (.int _ _) (.cons (.int _ _) .nil)))
/-- the lambda called -/
theorem lam_turn {x q : Str} {scope : Scope} {params : Arguments} {cl : List (Str × Addr)} {pm ctv : Value} {f c' : Addr} {p1 p2 p3 p4 p5 p6 p7 p8 p9 q1 q2 q3 q4 : Pos} {j1 j2 j3 j4} {c1}
    (hroom : A.depth < recursionLimit) (hlim : s.heap.NoLimit)
    (hf : s.heap.get? f = some (PySem.W.kla_obj "<lambda>" q params (.Tuple [.Subscript (.Subscript (.Name x p1) (.Constant (.int 2) j1 p2) p3) (.UnaryOp .USub (.Constant (.int 1) j2 p4) p5) p6, .Subscript (.Name x p7) (.Constant (.int 0) j3 p8) p9, .Subscript (.Name x q1) (.Constant (.int 1) j4 q2) q3] c1 q4) scope cl pm c' ctv))
    (hcd : s.heap.CodeRec (.ref c') q) (hk : scope.kind = .function) (hco : scope.isCoroutine = false) (hgen : scope.isGenerator = false) (hnc : ∀ y ∈ scope.names, y.2 ≠ .cell) (hl : scope.names.lookup x = some .local) (hd : (x == ("__debug__" : Str)) = false)
    (hbind : ∀ (q : Str) (body : Expr) (cl : List (Str × Addr)) (pm cv ctv v : Value), bindArgs (PySem.W.kla_fn "<lambda>" q params body scope cl pm cv ctv) ⟨[v], []⟩ = pure [(x, v)]) (hb : NeedAt s.heap v b) :
    wpAny (model prog w) A (call (.ref f) [v]) (PySem.W.KeyPure (keyOf3 b) s) (fun _ _ => False) s := by
  refine wpAny_call (PySem.W.kla_callFunE hroom hf rfl hco hgen rfl hcd ?_)
  rw [hbind]
  refine wpAny_pure (wpAny_newFunctionEnv hnc (fun y hy => ?_) (fun h₁ hns hsb => ⟨hlim.fresh _ hsb, ?_⟩) hk)
  · rw [List.mem_singleton.mp hy]
    exact hl
  have kp : ∀ b o, s.heap.get? b = some o → h₁.get? b = some o := fun b o e => hsb.extBut b o (Nat.ne_of_lt (Heap.lt_size e)) (Heap.get?_push_of_some _ e)
  refine PySem.W.kla_codeExpr (wpAny_mono (lam_body (s := { s with heap := h₁, toks := s.toks + [(x, v)].length }) (m := fun y => [(x, v)].reverse.lookup y) (v := v) (b := b) ?_ ?_ hd ?_ ?_ (hb.keeps kp)) (fun u s' hq => ?_) fun _ _ z => z)
  · exact hk
  · exact hl
  · exact hns
  · simp
  · obtain ⟨h', tk, e, k2, r⟩ := hq
    exact ⟨h', tk, e, fun b o z => k2 b o (kp b o z), r⟩
end
/-! ### the rule -/
def NeedV (H : Hp) (x : V) (b : Int × Int × Int) : Prop := ∃ (a l : Addr) (ns : List Int), x = .ref a ∧ H a = some (.tup [.int b.1, .int b.2.1, .ref l]) ∧ H l = some (.lst (ns.map V.int)) ∧ ns ≠ [] ∧ ns.length ≤ 1000 ∧ ns[ns.length - 1]? = some b.2.2
abbrev VB := V × (Int × Int × Int)
abbrev le3 : VB → VB → Bool := PySem.W.dataLe false fun z : VB => keyOf3 z.2
/-- all but P stays -/
def ExtP (P : Addr) (H H1 : Hp) : Prop := ∀ b o, b ≠ P → H b = some o → H1 b = some o
/-- sorted(needs, key=lambda need: (need[2][-1], need[0], need[1])), the table of code objects at P -/
def tSortKey (P : Addr) (q : Str) (ta : TE) : TE := fun σ H Q => ta σ H fun v H1 => LamX.TabS H1 P q ∧ ∃ (a : Addr) (zs : List VB), v = .ref a ∧ H1 a = some (.lst (zs.map (·.1))) ∧ (∀ z, z ∈ zs → NeedV H1 z.1 z.2) ∧ zs.length ≤ 1000 ∧
  ∀ (H2 : Hp) (p : Addr), ExtP P H1 H2 → LamX.TabS H2 P q → H2 p = none → Q (.ref p) (upd H2 p (.lst ((zs.mergeSort le3).map (·.1))))
theorem key3_le (a b : Int × Int × Int) (h : (!PySem.W.dataLt (keyOf3 b) (keyOf3 a)) = true) : a.2.2 ≤ b.2.2 := by
  by_cases q : b.2.2 < a.2.2
  · exfalso
    have h2 : PySem.W.dataLt (keyOf3 b) (keyOf3 a) = true := by
      unfold keyOf3
      rw [PySem.W.dataLt_tuple, PySem.W.dataLt_cons (by simp [PySem.W.alike]), if_neg (by simp [PyData.eqv]; omega), PySem.W.dataLt_int]
      exact decide_eq_true q
    rw [h2] at h
    cases h
  · omega
theorem vals_each {h : Heap} : ∀ {zs : List VB} {us : List Value}, Vals (zs.map (·.1)) us → (∀ z, z ∈ zs → ∀ u, RelV z.1 u → NeedAt h u z.2) → PySem.W.EachIs (fun u (z : VB) => RelV z.1 u ∧ NeedAt h u z.2) us zs
  | [], _, .nil, _ => .nil
  | z :: zs, _, .cons r t, hz => .cons ⟨r, hz z List.mem_cons_self _ r⟩ (vals_each t fun y hy => hz y (List.mem_cons_of_mem _ hy))
theorem each_vals {R : Value → VB → Prop} (hR : ∀ u z, R u z → RelV z.1 u) : ∀ {us : List Value} {zs : List VB}, PySem.W.EachIs R us zs → Vals (zs.map (·.1)) us
  | _, _, .nil => .nil
  | _, _, .cons r t => .cons (hR _ _ r) (each_vals hR t)
section
variable {X : Cx} {pins : List (Addr × Obj)} {σ : L2.St} {H : Hp} {s : Shared}
/-- the lambda is made: what changes is the table at P alone -/
theorem lam_made {c P : Addr} {q : Str} {params : Arguments} {body : Expr} {scope : Scope} {pos : Pos} {E : Value → Shared → Prop} {Q : Value → Shared → Prop} (I : Inv X pins σ H s) (TB : LamX.TabB X.base X.mg c P) (hcode : X.env.code = .ref c)
    (hq : X.env.qual ++ "<lambda>" = q) (hT : LamX.TabS H P q) (hdef : defaultsOf params X.env = ([], [])) (hfree : ∀ y ∈ scope.names, y.2 = .free → ∃ c, X.env.cells.lookup y.1 = some c)
    (h : ∀ (f c' : Addr) (pm ctv : Value) (H1 : Hp) (s' : Shared), Inv X pins σ H1 s' → ExtP P H H1 → LamX.TabS H1 P q →
      s'.heap.get? f = some (PySem.W.kla_obj "<lambda>" q params body scope (cloFrom X.env.cells scope.names []) pm c' ctv) → H1 c' = some (LamX.CodeO c' q) → Q (.ref f) s') :
    wpAny (model X.prog X.w) X.A (eval (.Lambda params body scope pos) X.env) Q E s := by
  subst hq
  obtain ⟨ps, hP, ht, ha⟩ := hT
  have bP : s.heap.BuiltinsAt X.mg P := TB.bm.keeps I.bk
  have hP' : s.heap.get? P = some { cls := .none, data := .fields ps } := I.hok P _ hP
  refine PySem.W.kla_eval hdef ?_
  cases hc : codeAmong pos ps.toList with
  | some cv =>
    obtain ⟨c', rfl, hco⟩ := ha pos cv hc
    refine PySem.W.kla_makeFunctionHit (mg := X.mg) (c := c) (P := P) (ps := ps) (closure_ok hfree) I.ok.glob (I.mod.glob.keeps I.bk) hcode (TB.code.keeps I.bk) hP' ht hc bP fun ctv h' tk hx hsz => ?_
    exact h h'.objs.size c' _ ctv H _ (I.kept fun b o e => Heap.get?_push_of_some _ (hx b o e)) (fun _ _ _ e => e) ⟨ps, hP, ht, ha⟩ (Heap.get?_push_size _ rfl) hco
  | none =>
    refine PySem.W.kla_makeFunction (mg := X.mg) (c := c) (P := P) (ps := ps) (closure_ok hfree) I.ok.glob (I.mod.glob.keeps I.bk) hcode (TB.code.keeps I.bk) hP' ht hc TB.gP bP fun c' ctv h' tk hx hge hlt hrec htb => ?_
    obtain ⟨c2, oc, vs, t, e2, hoc, hd, hv⟩ := hrec
    cases e2
    have nC : H c' = none := I.hok.fresh hge
    have nPc : P ≠ c' := ne_of_none hP nC
    have I1 := LamX.inv_table (t' := tk) (more := #[rawInt pos.line, rawInt pos.col, .ref c']) (h' := h'.push (PySem.W.kla_obj "<lambda>" (X.env.qual ++ "<lambda>") params body scope (cloFrom X.env.cells scope.names []) ((X.mg "__name__").getD .none) c' ctv)) I hP
      (fun b o hb e => Heap.get?_push_of_some _ (hx b o hb e)) (Heap.get?_push_of_some _ htb) hge ⟨oc, vs, t, Heap.get?_push_of_some _ hoc, hd, hv⟩
    have old : ExtP P H (upd (upd H P (.tbl (ps ++ #[rawInt pos.line, rawInt pos.col, .ref c']))) c' (LamX.CodeO c' (X.env.qual ++ "<lambda>"))) := fun b o hb e => by
      rw [upd_ne (ne_of_none e nC), upd_ne hb]
      exact e
    have eL : (ps ++ #[rawInt pos.line, rawInt pos.col, .ref c']).toList = ps.toList ++ [rawInt pos.line, rawInt pos.col, .ref c'] := by simp
    refine h h'.objs.size c' _ ctv _ _ I1 old ⟨_, by rw [upd_ne nPc, upd_same], by rw [eL]; exact PySem.TriplesOk_snoc _ _ _ _ ht, fun p' cv hcv => ?_⟩ (Heap.get?_push_size _ rfl) upd_same
    rw [eL] at hcv
    rcases LamX.among_app _ ht hcv with z | z
    · obtain ⟨c0, e1, e2⟩ := ha p' cv z
      refine ⟨c0, e1, old _ _ (fun z => ?_) e2⟩
      rw [z, hP] at e2
      cases e2
    · exact ⟨c', z, upd_same⟩
theorem needAt_of {P : Program} {w : World} {H : Hp} {h : Heap} {x : V} {u : Value} {b : Int × Int × Int} (hok : HOk P w H h) (n : NeedV H x b) (r : RelV x u) : NeedAt h u b := by
  obtain ⟨a, l, ns, rfl, h1, h2, h3, h4, h5⟩ := n
  obtain ⟨_, its, rv, ht⟩ := hok a _ h1
  obtain ⟨_, us, n, rl, hl⟩ := hok l _ h2
  obtain rfl : u = .ref a := r
  cases rv with
  | cons r1 rv => cases rv with
    | cons r2 rv => cases rv with
      | cons r3 rv => cases rv with
        | nil =>
          obtain ⟨t1, rfl⟩ := r1
          obtain ⟨t2, rfl⟩ := r2
          obtain rfl := r3
          obtain ⟨u3, e3, q3⟩ := Vals.get rl (i := ns.length - 1) (x := .int b.2.2) (by rw [List.getElem?_map, h5]; rfl)
          obtain ⟨t3, rfl⟩ := q3
          have el := rl.length
          rw [List.length_map] at el
          refine ⟨a, l, t1, t2, t3, us, rfl, ht, ⟨_, hl, rfl, n, rfl⟩, ?_, by omega, by rw [← el]; exact e3⟩
          intro z
          rw [z] at el
          exact h3 (List.length_eq_zero_iff.mp el)
theorem pe_sortKey {c P : Addr} {q : Str} {k : Nat} {x y : Str} {scope : Scope} {params : Arguments} {ta : TE} {p pa kp lpos pos p1 p2 p3 p4 p5 p6 p7 p8 p9 q1 q2 q3 q4 : Pos} {j1 j2 j3 j4} {c1}
    (hg : Gl X "sorted") (hm : X.mg "sorted" = none) (TB : LamX.TabB X.base X.mg c P) (hcode : X.env.code = .ref c) (hq : X.env.qual ++ "<lambda>" = q) (hr : Room k X.A)
    (hdef : defaultsOf params X.env = ([], [])) (hk : scope.kind = .function) (hco : scope.isCoroutine = false) (hgen : scope.isGenerator = false) (hnc : ∀ y ∈ scope.names, y.2 ≠ .cell ∧ y.2 ≠ .free) (hl : scope.names.lookup x = some .local) (hd : (x == ("__debug__" : Str)) = false)
    (hbind : ∀ (q : Str) (body : Expr) (cl : List (Str × Addr)) (pm cv ctv v : Value), bindArgs (PySem.W.kla_fn "<lambda>" q params body scope cl pm cv ctv) ⟨[v], []⟩ = pure [(x, v)])
    (ha : PE X (.Name y pa) ta) :
    PE X (.Call (.Name "sorted" p) [.Name y pa] [⟨some "key", .Lambda params (.Tuple [.Subscript (.Subscript (.Name x p1) (.Constant (.int 2) j1 p2) p3) (.UnaryOp .USub (.Constant (.int 1) j2 p4) p5) p6, .Subscript (.Name x p7) (.Constant (.int 0) j3 p8) p9, .Subscript (.Name x q1) (.Constant (.int 1) j4 q2) q3] c1 q4) scope lpos, kp⟩] pos) (tSortKey P q ta) := by
  refine ⟨fun pins s σ H Q I h => ?_⟩
  refine wpAny_Call_Name_kw (ld_blt I hg hm boot_sorted (callWith_kw (Calls.spliced_cons (thn (ha.run pins s σ H _ I h) fun u s1 ⟨v, H1, I1, r1, hq'⟩ => ?_))) (by decide))
  obtain ⟨hT, a, zs, rfl, hs, hz, hlen, hq'⟩ := hq'
  obtain rfl : u = Value.ref a := r1
  refine Calls.spliced_nil (kws_cons (lam_made I1 TB hcode hq hT hdef (fun y hy e => absurd e (hnc y hy).2) fun f c' pm ctv H2 s2 I2 eN T2 hf hco' => kws_nil ?_))
  show wpAny (model X.prog X.w) X.A (call (.builtin "sorted") [.ref a] [(Str.ofString "key", .ref f)]) _ _ s2
  have nP : ∀ b o, H1 b = some o → (∀ ps, o ≠ .tbl ps) → b ≠ P := fun b o e n z => by
    obtain ⟨ps, hP, _⟩ := hT
    rw [z, hP] at e
    exact n ps (Option.some.inj e).symm
  have hs2 : H2 a = some (.lst (zs.map (·.1))) := eN _ _ (nP _ _ hs fun ps e => by cases e) hs
  obtain ⟨hzz, its, n, rv, hob⟩ := I2.hok a _ hs2
  have hz2 : ∀ z, z ∈ zs → NeedV H2 z.1 z.2 := fun z hm => by
    obtain ⟨a', l, ns, e, h1, h2, h3⟩ := hz z hm
    exact ⟨a', l, ns, e, eN _ _ (nP _ _ h1 fun ps e => by cases e) h1, eN _ _ (nP _ _ h2 fun ps e => by cases e) h2, h3⟩
  have each := vals_each (h := s2.heap) rv fun z hm u r => needAt_of I2.hok (hz2 z hm) r
  obtain ⟨⟨oc, vs, t, hoc, hdc, hvc⟩, _, _⟩ := I2.hok c' _ hco'
  have sl : zs.length ≤ sizeLine := by rw [sizeLine_eq]; omega
  refine PySem.W.sorted_key_data (R := fun u (z : VB) => RelV z.1 u ∧ NeedAt s2.heap u z.2) (b := false) (fun z : VB => keyOf3 z.2) (bs := zs) (vs := its) ⟨_, hob, rfl, n, rfl⟩ each
    (PySem.W.AllAlike.of fun _ _ => by simp [PySem.W.alike, PySem.W.alikeAll]) (PySem.W.Sortable.tuples fun _ => ⟨_, _, rfl⟩) sl (fun z _ => ?_) (ksk_s1 _ _) (fun _ => ksk_l1 _ _) (fun _ => ksk_t1 _ _)
    (fun u z hR _ h tk kp => ?_) fun out c2 h' tk kp hfr2 hD hlo eo => ?_
  · have hd : (keyOf3 z.2).depth = 1 := by simp [PyData.depth, PyData.depthAll]
    have := hr.un
    omega
  · refine lam_turn (s := { s2 with heap := h, toks := tk }) ?_ (I2.nolimit.keeps kp) (kp _ _ hf) ⟨c', oc, vs, t, rfl, kp _ _ hoc, hdc, hvc⟩ hk hco hgen (fun y hy => (hnc y hy).1) hl hd hbind (hR.2.keeps kp)
    have := hr.dp
    show X.A.depth < _
    omega
  · have hp : (zs.mergeSort le3).Perm zs := List.mergeSort_perm _ _
    exact ⟨.ref (s2.heap.objs.size + 1), upd H2 (s2.heap.objs.size + 1) (.lst ((zs.mergeSort le3).map (·.1))), I2.laid (t' := tk) kp (Nat.le_succ _) ⟨by rw [List.length_map, hp.length_eq]; exact sl, out, c2, each_vals (fun _ _ r => r.1) eo, hD⟩, rfl,
      hq' H2 _ eN T2 (I2.hok.fresh (Nat.le_succ _))⟩
end
/-! ### what it is worth -/
open WM
/-- the table of code objects at P is all that changes besides -/
def gT (P : Addr) (q : Str) : Glob := ⟨fun a => a = P, fun H => LamX.TabS H P q, fun {H H'} h e k => by
  obtain ⟨ps, h1, h2, h3⟩ := h
  refine ⟨ps, by rw [k P rfl]; exact h1, h2, fun pos cv hc => ?_⟩
  obtain ⟨c, e1, e2⟩ := h3 pos cv hc
  exact ⟨c, e1, e c _ e2⟩⟩
def lastN (n : Need) : Nat := n.2.2.getLastD 0
abbrev toI (n : Need) : Int × Int × Int := (n.1, n.2.1, lastN n)
def sortN (needs : List Need) : List Need := needs.mergeSort (PySem.W.dataLe false fun n => keyOf3 (toI n))
theorem sortN_perm (needs : List Need) : (sortN needs).Perm needs := List.mergeSort_perm _ _
theorem sortN_asc (needs : List Need) : (sortN needs).Pairwise fun a b => lastN a ≤ lastN b :=
  (PySem.W.sort_pairwise (PySem.W.sortLe_total _ _ _) needs).imp fun {a b} h => by
    have := key3_le (toI a) (toI b) h
    exact Int.ofNat_le.mp this
theorem sort_map {α β : Type} (f : α → β) (s : β → β → Bool) (l : List α) : (l.map f).mergeSort s = (l.mergeSort fun x y => s (f x) (f y)).map f := (List.map_mergeSort (f := f) (s := s) (r := fun x y => s (f x) (f y)) fun _ _ _ _ => rfl).symm
abbrev leW : V × Need → V × Need → Bool := fun x y => PySem.W.dataLe false (fun n => keyOf3 (toI n)) x.2 y.2
abbrev cW : V × Need → VB := fun z => (z.1, toI z.2)
theorem leW_eq : leW = fun x y => le3 (cW x) (cW y) := rfl
theorem flat_of {F : Hp} : ∀ {ws : List (V × Need)}, (∀ z, z ∈ ws → Dq F z.1 (eNeed z.2)) → DqAll F (ws.map (·.1)) ((ws.map (·.2)).map eNeed)
  | [], _ => .nil
  | z :: ws, h => .cons (h z List.mem_cons_self) (flat_of fun y hy => h y (List.mem_cons_of_mem _ hy))
theorem of_flat {F : Hp} : ∀ {vs : List V} {ns : List Need}, DqAll F vs (ns.map eNeed) → ∃ ws : List (V × Need), ws.map (·.1) = vs ∧ ws.map (·.2) = ns ∧ ∀ z, z ∈ ws → Dq F z.1 (eNeed z.2)
  | _, [], h => by
    cases h
    exact ⟨[], rfl, rfl, fun z hz => by cases hz⟩
  | _, n :: ns, h => by
    cases h with
    | cons h1 h2 =>
      obtain ⟨ws, e1, e2, h3⟩ := of_flat h2
      rename_i v vs
      refine ⟨(v, n) :: ws, by rw [List.map_cons, e1], by rw [List.map_cons, e2], fun z hz => ?_⟩
      rcases List.mem_cons.mp hz with rfl | hz
      · exact h1
      · exact h3 z hz
theorem ev_sortKey {P : Addr} {q : Str} {ρ : List Slot} {ta : TE} {needs : List Need} (h : Ev (gT P q) ta ρ (dR (.list (needs.map eNeed)))) (hl : needs.length ≤ 1000) (hne : ∀ n, n ∈ needs → n.2.2 ≠ [] ∧ n.2.2.length ≤ 1000) :
    Ev (gT P q) (tSortKey P q ta) ρ (dR (.list ((sortN needs).map eNeed))) := fun F H σ E Q k => h F H σ E _ fun F1 H1 v g1 E1 hv => by
  cases hv with
  | lst k1 k2 =>
    rename_i a xs
    obtain ⟨ws, e1, e2, h3⟩ := of_flat k2
    have hT : LamX.TabS H1 P q := E1.glob
    obtain ⟨ps, hP, _, _⟩ := id hT
    have nP : ∀ b o, H1 b = some o → (∀ ps, o ≠ .tbl ps) → b ≠ P := fun b o e n z => by
      rw [z, hP] at e
      exact n ps (Option.some.inj e).symm
    have sub := E1.sub
    have ez : (ws.map cW).map (·.1) = xs := by
      rw [List.map_map, ← e1]
      rfl
    have em : (ws.map cW).mergeSort le3 = (ws.mergeSort leW).map cW := by
      rw [sort_map, leW_eq]
    have en : (ws.mergeSort leW).map (·.2) = sortN needs := by
      rw [sortN, ← e2, sort_map]
    have hlen : ws.length = needs.length := by rw [← e2, List.length_map]
    refine ⟨hT, a, ws.map cW, rfl, by rw [ez]; exact sub _ _ k1, fun z hz => ?_, by rw [List.length_map]; omega, fun H2 p eN T2 hp => ?_⟩
    · obtain ⟨y, hy, rfl⟩ := List.mem_map.mp hz
      have hn : y.2 ∈ needs := by
        rw [← e2]
        exact List.mem_map_of_mem hy
      obtain ⟨n1, n2⟩ := hne _ hn
      have hd := h3 y hy
      generalize hv : y.1 = v at hd
      cases hd with
      | tup t1 t2 =>
        cases t2 with
        | cons a1 t2 => cases t2 with
          | cons a2 t2 => cases t2 with
            | cons a3 t2 => cases t2 with
              | nil =>
                cases a1
                cases a2
                cases a3 with
                | lst b1 b2 =>
                  rename_i fs
                  have ef : y.2.2.2.map dN = (y.2.2.2.map Int.ofNat).map PyData.int := by
                    rw [List.map_map]
                    rfl
                  rw [ef] at b2
                  have e := flat_ints F1 _ _ b2
                  subst e
                  refine ⟨_, _, y.2.2.2.map Int.ofNat, rfl, sub _ _ t1, sub _ _ b1, by simpa using n1, by rw [List.length_map]; exact n2, ?_⟩
                  rw [List.length_map, List.getElem?_map]
                  have e9 : y.2.2.2[y.2.2.2.length - 1]? = some (lastN y.2) := by
                    unfold lastN
                    rw [List.getLastD_eq_getLast?, List.getLast?_eq_getElem?]
                    have : y.2.2.2.length - 1 < y.2.2.2.length := by
                      have := List.length_pos_iff.mpr n1
                      omega
                    rw [List.getElem?_eq_getElem this]
                    rfl
                  rw [e9]
                  rfl
    · have g2 : Gr (fun a => a = P) F1 H1 F1 H2 := by
        refine ⟨fun b o m e => eN b o m e, fun b e => ?_, Same.refl F1, fun b o e => ?_, fun b h1 h2 => absurd h1 h2, fun b φ e => eN b _ (nP b _ e fun ps z => by cases z) e⟩
        · by_cases hb : b = P
          · obtain ⟨ps2, hP2, _⟩ := T2
            rw [hb, hP2]
            exact fun z => by cases z
          · cases e1 : H1 b with
            | none => exact absurd e1 e
            | some o =>
              rw [eN b o hb e1]
              exact fun z => by cases z
        · refine eN b o (fun z => ?_) (sub _ _ e)
          rw [z, (E1.tab P rfl).1] at e
          cases e
      have E2 : EnvOk (gT P q) ρ F1 H2 σ := by
        refine ⟨g2.fh, E1.len, fun i s e => ?_, E1.dj, T2, fun b hb => ?_⟩
        · have ok := E1.at_ i s e
          refine ok.grow g2 fun p' hm hx hp' => ?_
          cases s with
          | un => exact hm
          | rel R => exact hm
          | own ds =>
            obtain ⟨p2, vs, z1, z2, _⟩ := ok
            rw [z1] at hx
            cases hx
            exact nP _ _ z2 (fun ps z => by cases z) hp'
          | mvl sh =>
            obtain ⟨p2, o, z1, z2, _, _, z3⟩ := ok
            rw [z1] at hx
            cases hx
            exact nP _ _ z2 z3 hp'
        · obtain ⟨ps2, hP2, _⟩ := T2
          exact ⟨(E1.tab b hb).1, ps2, by rw [show b = P from hb]; exact hP2⟩
      have g3 : Gr No F1 H2 (upd F1 p (.lst (((ws.map cW).mergeSort le3).map (·.1)))) (upd H2 p (.lst (((ws.map cW).mergeSort le3).map (·.1)))) := Gr.new g2.fh hp
      have g13 : Gr (Ch (gT P q) ρ σ) F1 H1 F1 H2 := g2.mono fun b hb => .inr hb
      refine k _ _ _ ((g1.trans g13).trans g3.of0) (E2.grow0 g3) (.lst upd_same ?_)
      have ee : ((ws.map cW).mergeSort le3).map (·.1) = (ws.mergeSort leW).map (·.1) := by
        rw [em, List.map_map]
        rfl
      rw [ee] at g3 ⊢
      rw [← en]
      refine DqAll.mono g3.fe _ _ (flat_of (ws := ws.mergeSort leW) fun z hz => h3 z ?_)
      exact List.mem_mergeSort.mp hz
/-! ### a def, its code object told -/
structure DfC (K : PySem.W.Frag) (mg : Str → Option Value) (name : Str) (st : Stmt) (ps : List Str) (c : Addr) : Prop where
  ex : ∃ (f : Addr) (oc : Value) (od : Option Addr) (kV doc pm : Value) (an : Option Addr) (ct : Value) (osl : Array (Option Value)),
    K.lookup f = some ⟨oc, od, .func (PySem.W.fnOf name name (defArgs st) (defBody st) (defScope st) .none kV doc pm an (.ref c) ct), osl⟩ ∧ PySem.W.codeIn K (.ref c) name = true ∧ PySem.W.keepIn K (.ref f) = true ∧ mg name = some (.ref f) ∧
    Binds K (PySem.W.fnOf name name (defArgs st) (defBody st) (defScope st) .none kV doc pm an (.ref c) ct) ps []
theorem cal_dfC {P : Program} {w : World} {K : PySem.W.Frag} {mg : Str → Option Value} {base : Heap} {G : Glob} {name : Str} {st : Stmt} {N ps : List Str} {k : Nat} {c : Addr} {post : List Slot → Rel → Prop} (D : DfC K mg name st ps c) (S : FnScope N ps (defScope st))
    (hl : ∀ ρ R, post ρ R → ρ.length = ps.length ∧ ∀ (j : Nat) (ds : List PyData), ρ[j]? ≠ some (.own ds))
    (hbody : ∀ (f : Addr) (A : Around) (outer : List Env) (s : Shared) (H : Hp) (E : XK), Room k (A.deeper (PyProof.Rows.envOfC name (defScope st) s.heap.objs.size f (.ref c))) →
      ∃ t, PSs (cxOf CX0 P w K mg base N name (defScope st) f (.ref c) A outer s H E).nox (defBody st) t ∧ ∀ ρ R, post ρ R → Sv G t (startR N.length ρ) (Post.ret R)) :
    Cal P w K mg base name (k + 1) ps (spS G post) := by
  obtain ⟨f, oc, od, kV, doc, pm, an, ct, osl, lk, hcd, kp, hm, hb⟩ := D.ex
  refine ⟨f, _, fn_of lk hcd S (fun vs H Q E h => ?_) fun A outer s H vs Q E hr h => ?_, hm, kp, hb⟩
  · obtain ⟨F, ρ, R, E, hp, _⟩ := h
    have := E.len
    rw [List.length_map] at this
    rw [this]
    exact (hl ρ R hp).1
  · obtain ⟨F, ρ, R, E', hp, q⟩ := h
    obtain ⟨t, ht, hs⟩ := hbody f A outer s H E hr
    exact ⟨t, ht.nox, sv_body E' (hl ρ R hp).2 (hs ρ R hp) q⟩
end Dx
set_option Elab.async false
set_option linter.all false
set_option maxRecDepth 100000
/-! WMath2: needs apart, the fewest fields. -/
namespace WM
open PySem Dx
abbrev firstN (n : Need) : Nat := n.2.2.headD 0
/-- the needs that the greedy choice takes behind end e -/
def greedy : Int → List Need → List Need
  | _, [] => []
  | e, n :: ns => if e < (firstN n : Int) then n :: greedy (lastN n) ns else greedy e ns
def endOf : Int → List Need → Int
  | e, [] => e
  | e, n :: ns => if e < (firstN n : Int) then endOf (lastN n) ns else endOf e ns
theorem greedy_snoc (n : Need) : ∀ (l : List Need) (e : Int), greedy e (l ++ [n]) = greedy e l ++ if endOf e l < (firstN n : Int) then [n] else []
  | [], e => by
    simp only [List.nil_append, greedy, endOf]
    rfl
  | m :: l, e => by
    simp only [List.cons_append, greedy, endOf]
    split
    · rw [greedy_snoc n l, List.cons_append]
    · rw [greedy_snoc n l]
theorem endOf_snoc (n : Need) : ∀ (l : List Need) (e : Int), endOf e (l ++ [n]) = if endOf e l < (firstN n : Int) then (lastN n : Int) else endOf e l
  | [], e => by
    simp only [List.nil_append, endOf]
    rfl
  | m :: l, e => by
    simp only [List.cons_append, endOf]
    split
    · rw [endOf_snoc n l]
    · rw [endOf_snoc n l]
theorem greedy_len : ∀ (l : List Need) (e : Int), (greedy e l).length ≤ l.length
  | [], e => Nat.le_refl _
  | m :: l, e => by
    simp only [greedy]
    split
    · have := greedy_len l (lastN m)
      simp; omega
    · have := greedy_len l e
      simp; omega
abbrev eApart (n : Need) : PyData := .tuple [dN n.1, dN n.2.1]
def apartM (needs : List Need) : List Need := greedy (-1) (sortN needs)
def stretchN (fs : List Nat) : Bool := decide ((fs.getLast?.getD 0 : Int) - (fs.head?.getD 0 : Int) = (fs.length : Int) - 1)
/-- all choices of fields, the small ones first -/
def spares (f : Nat) : List (List Nat) := ((List.range (f + 1)).map fun k => picksM k (List.range f)).flatten
def spareM (f : Nat) (needs : List Need) : List Nat := ((spares f).find? fun sp => (missedM needs sp).isNone).getD (List.range f)
def eOptApart (needs : List Need) : PyData := if needs.all fun n => stretchN n.2.2 then .list ((apartM needs).map eApart) else .none
def fewestM (W : Wish) : PyData := match (needsM W).find? fun n => n.2.2.isEmpty with
  | some n => .tuple [.str "never", dN n.1, dN n.2.1]
  | none => .tuple [.str "fields", nL (spareM W.fields (needsM W)), eOptApart (needsM W)]
theorem spares_take (f i : Nat) (h : i < f + 1) : ((List.range (i + 1)).map fun k => picksM k (List.range f)).flatten = ((List.range i).map fun k => picksM k (List.range f)).flatten ++ picksM i (List.range f) := by
  rw [List.range_succ, List.map_append, List.flatten_append]
  simp
/-- the first hit in the midst of a list of lists -/
theorem spare_hit {f i j : Nat} {sp : List Nat} {p : List Nat → Bool} (hi : i < f + 1) (h1 : (((List.range i).map fun k => picksM k (List.range f)).flatten ++ (picksM i (List.range f)).take j).find? p = none) (h2 : (picksM i (List.range f))[j]? = some sp) (h3 : p sp = true) : (spares f).find? p = some sp := by
  obtain ⟨r, hr⟩ : ∃ r, spares f = (((List.range i).map fun k => picksM k (List.range f)).flatten ++ (picksM i (List.range f)).take j) ++ sp :: r := by
    have e1 : spares f = ((List.range (i + 1)).map fun k => picksM k (List.range f)).flatten ++ (((List.range (f + 1)).drop (i + 1)).map fun k => picksM k (List.range f)).flatten := by
      unfold spares
      rw [← List.flatten_append, ← List.map_append]
      have e : List.range (i + 1) = (List.range (f + 1)).take (i + 1) := by rw [List.take_range, Nat.min_eq_left (by omega)]
      rw [e, List.take_append_drop]
    obtain ⟨hl, e⟩ := List.getElem?_eq_some_iff.mp h2
    have e2 : picksM i (List.range f) = (picksM i (List.range f)).take j ++ sp :: (picksM i (List.range f)).drop (j + 1) := by
      rw [← e, ← List.drop_eq_getElem_cons hl, List.take_append_drop]
    rw [e1, spares_take f i hi]
    refine ⟨(picksM i (List.range f)).drop (j + 1) ++ (((List.range (f + 1)).drop (i + 1)).map fun k => picksM k (List.range f)).flatten, ?_⟩
    conv => lhs; rw [e2]
    simp [List.append_assoc]
  rw [hr, List.find?_append, h1, List.find?_cons, h3]
  rfl
theorem needs_at {W : Wish} {n : Need} (h : n ∈ needsM W) : ∃ r, W.renews[n.1]? = some r ∧ n.2.1 ∈ r ∧ n.2.2 = outM W n.1 n.2.1 := by
  obtain ⟨l, hl, hn⟩ := List.mem_flatten.mp h
  obtain ⟨p, hp, rfl⟩ := List.mem_map.mp hl
  have hp := List.mem_range.mp hp
  unfold needsAt at hn
  obtain ⟨m, hm, rfl⟩ := List.mem_map.mp hn
  rw [List.getD_eq_getElem?_getD, List.getElem?_eq_getElem hp] at hm
  exact ⟨_, List.getElem?_eq_getElem hp, hm, rfl⟩
theorem outM_asc {W : Wish} (ok : WOk W) {p n : Nat} (hn : n < W.forms.length) : Asc W.fields (outM W p n) := by
  have hm : W.forms.getD n [] ∈ W.forms := by
    rw [List.getD_eq_getElem?_getD, List.getElem?_eq_getElem hn]
    exact List.getElem_mem hn
  have h := (ok.asc _ hm).2
  unfold outM
  exact ⟨h.1.filter _, fun x hx => h.2 x (List.mem_filter.mp hx).1⟩
theorem needs_asc {W : Wish} (ok : WOk W) {n : Need} (h : n ∈ needsM W) : Asc W.fields n.2.2 := by
  obtain ⟨r, hr, hn, e⟩ := needs_at h
  rw [e]
  exact outM_asc ok ((ok.ra r (List.mem_of_getElem? hr)).2 _ hn)
theorem needs_few {W : Wish} (ok : WOk W) {n : Need} (h : n ∈ needsM W) : n.2.2.length ≤ 5 := by
  have h1 := asc_len (needs_asc ok h)
  have h2 := ok.f5
  omega
theorem needs_24 {W : Wish} (ok : WOk W) : (needsM W).length ≤ 24 := by
  have h1 := needs_len W ok W.renews.length
  have h2 := ok.four
  have h3 := ok.kr
  have h4 : (needsM W).length ≤ W.renews.length * 6 := h1
  omega
theorem find_split {α : Type} {p : α → Bool} {l : List α} {i : Nat} {x : α} (h : l[i]? = some x) (h1 : ∀ y, y ∈ l.take i → p y = false) (h2 : p x = true) : l.find? p = some x := by
  obtain ⟨hl, e⟩ := List.getElem?_eq_some_iff.mp h
  have hs : l = l.take i ++ x :: l.drop (i + 1) := by
    rw [← e, ← List.drop_eq_getElem_cons hl, List.take_append_drop]
  rw [hs, List.find?_append, List.find?_eq_none.mpr (fun m hm => by rw [h1 m hm]; exact Bool.false_ne_true), List.find?_cons, h2]
  rfl
theorem eMiss_isNone : ∀ o : Option (Nat × Nat), isNone (eMiss o) = o.isNone
  | none => rfl
  | some _ => rfl
theorem cov_empty (W : Wish) (x : Nat) (ks : List Nat) : (((ks.map fun k => W.forms.getD k []).filter fun f => decide (x ∈ f)).map nT).isEmpty = !decide (x ∈ covM W ks) := by
  rw [List.isEmpty_map]
  by_cases h : x ∈ covM W ks
  · rw [decide_eq_true h]
    obtain ⟨l, hl, hx⟩ := List.mem_flatten.mp h
    cases e : (ks.map fun k => W.forms.getD k []).filter fun f => decide (x ∈ f) with
    | nil =>
      have : l ∈ (ks.map fun k => W.forms.getD k []).filter fun f => decide (x ∈ f) := List.mem_filter.mpr ⟨hl, decide_eq_true hx⟩
      rw [e] at this
      cases this
    | cons a r => rfl
  · rw [decide_eq_false h]
    have : ((ks.map fun k => W.forms.getD k []).filter fun f => decide (x ∈ f)) = [] := List.filter_eq_nil_iff.mpr fun l hl z => h (List.mem_flatten.mpr ⟨l, hl, of_decide_eq_true z⟩)
    rw [this]
    rfl
end WM
set_option Elab.async false
set_option linter.all false
set_option maxRecDepth 100000
/-! DxRaw: steps told by the heap alone: what of the old stays but B. -/
namespace Dx
open PySem L2
abbrev Tabled (G : Glob) (H : Hp) : Prop := ∀ a, G.A a → ∃ ps, H a = some (.tbl ps)
/-- all that stood stays, but what B names (and the tables) -/
structure Rw (G : Glob) (B : Addr → Prop) (H H' : Hp) : Prop where
  ext : ∀ a o, ¬ B a → ¬ G.A a → H a = some o → H' a = some o
  keep : ∀ a, H a ≠ none → H' a ≠ none
  exts : ∀ a φ, H a = some (.ext φ) → H' a = some (.ext φ)
  tab : Tabled G H → Tabled G H'
  gi : Tabled G H → G.I H → G.I H'
section
variable {G : Glob} {B B' : Addr → Prop} {ρ : List Slot} {F F' F2 H H' H1 H2 : Hp} {σ : St} {te : TE} {R : Rel} {Q : VK} {d : PyData}
theorem Rw.refl : Rw G B H H := ⟨fun _ _ _ _ h => h, fun _ h => h, fun _ _ h => h, fun h => h, fun _ h => h⟩
theorem Rw.trans (a : Rw G B H H1) (b : Rw G B H1 H2) : Rw G B H H2 := ⟨fun x o m n h => b.ext x o m n (a.ext x o m n h), fun x h => b.keep x (a.keep x h), fun x φ h => b.exts x φ (a.exts x φ h), fun t => b.tab (a.tab t), fun t i => b.gi (a.tab t) (a.gi t i)⟩
theorem Rw.mono (a : Rw G B H H1) (h : ∀ x, B x → B' x) : Rw G B' H H1 := ⟨fun x o m n e => a.ext x o (fun z => m (h x z)) n e, a.keep, a.exts, a.tab, a.gi⟩
theorem Rw.upd {l : Addr} {o u : HO} (hl : H l = some o) (hb : B l) (h1 : ∀ ps, o ≠ .tbl ps) (h2 : ∀ φ, o ≠ .ext φ) : Rw G B H (upd H l u) := by
  have ne : ∀ a, Tabled G H → G.A a → a ≠ l := fun a t ha z => by
    obtain ⟨ps, e⟩ := t a ha
    rw [z, hl] at e
    exact h1 ps (Option.some.inj e)
  have ex : ∀ a φ, H a = some (.ext φ) → L2.upd H l u a = some (.ext φ) := fun a φ e => by
    rw [upd_ne (fun z => by rw [z, hl] at e; exact h2 φ (Option.some.inj e))]
    exact e
  refine ⟨fun a v m n e => ?_, fun a e => ?_, ex, fun t a ha => ?_, fun t i => G.mono i ex fun a ha => upd_ne (ne a t ha)⟩
  · rw [show L2.upd H l u a = H a from upd_ne fun z => m (by rw [z]; exact hb)]
    exact e
  · by_cases q : a = l
    · rw [q, upd_same]; exact fun z => by cases z
    · rw [upd_ne q]; exact e
  · rw [upd_ne (ne a t ha)]
    exact t a ha
theorem Rw.new {p : Addr} {u : HO} (hp : H p = none) : Rw G B H (L2.upd H p u) := by
  have ne : ∀ a, Tabled G H → G.A a → a ≠ p := fun a t ha z => by
    obtain ⟨ps, e⟩ := t a ha
    rw [z, hp] at e
    cases e
  have ex : ∀ a φ, H a = some (.ext φ) → L2.upd H p u a = some (.ext φ) := fun a φ e => by
    rw [upd_ne (ne_of_none e hp)]
    exact e
  refine ⟨fun a v m n e => ?_, fun a e => ?_, ex, fun t a ha => ?_, fun t i => G.mono i ex fun a ha => upd_ne (ne a t ha)⟩
  · rw [upd_ne (ne_of_none e hp)]
    exact e
  · by_cases q : a = p
    · rw [q, upd_same]; exact fun z => by cases z
    · rw [upd_ne q]; exact e
  · rw [upd_ne (ne a t ha)]
    exact t a ha
/-- no slot whose object is its own -/
abbrev Tame (ρ : List Slot) : Prop := ∀ (i : Nat) (s : Slot), ρ[i]? = some s → ¬ s.mine
theorem EnvOk.tabled (E : EnvOk G ρ F H σ) : Tabled G H := fun a ha => (E.tab a ha).2
theorem Rw.gr (nm : Tame ρ) (g : Gr (Ch G ρ σ) F H F' H') (E' : EnvOk G ρ F' H' σ) : Rw G B H H' := ⟨fun a o _ n e => g.ext a o (fun z => by
  rcases z with ⟨i, sh, h1, _⟩ | z
  · exact nm i _ h1 trivial
  · exact n z) e, g.keep, g.exts, fun _ => E'.tabled, fun _ _ => E'.glob⟩
theorem EnvOk.rw (nm : Tame ρ) (E : EnvOk G ρ F H σ) (r : Rw G B H H') (hB : ∀ a, F a ≠ none → ¬ B a) : EnvOk G ρ F H' σ := by
  refine ⟨fun a o h => r.ext a o (hB a (by rw [h]; exact fun z => by cases z)) (fun z => ?_) (E.sub a o h), E.len, fun i s hs => ?_, E.dj, r.gi E.tabled E.glob, fun a ha => ⟨(E.tab a ha).1, r.tab E.tabled a ha⟩⟩
  · rw [(E.tab a z).1] at h
    cases h
  · have q := E.at_ i s hs
    cases s with
    | un => trivial
    | rel R => exact q
    | own ds => exact absurd trivial (nm i _ hs)
    | mvl sh => exact absurd trivial (nm i _ hs)
/-- an environment over another frozen part -/
theorem EnvOk.with (nm : Tame ρ) (E : EnvOk G ρ F H σ) (e : Same F F') (s : Same F' H) (t : ∀ a, G.A a → F' a = none) : EnvOk G ρ F' H σ := by
  refine ⟨s, E.len, fun i sl hs => ?_, E.dj, E.glob, fun a ha => ⟨t a ha, (E.tab a ha).2⟩⟩
  have q := E.at_ i sl hs
  cases sl with
  | un => trivial
  | rel R =>
    obtain ⟨v, e1, e2⟩ := q
    exact ⟨v, e1, R.mono e e2⟩
  | own ds => exact absurd trivial (nm i _ hs)
  | mvl sh => exact absurd trivial (nm i _ hs)
theorem ev_raw (h : Ev G te ρ R) (nm : Tame ρ) (E : EnvOk G ρ F H σ) (q : ∀ F' H' v, Rw G No H H' → EnvOk G ρ F H' σ → Same F F' → Same F' H' → (∀ a, F a = none → F' a ≠ none → H a = none) → R.p F' v → Q v H') : te σ H Q :=
  h F H σ E Q fun F' H' v g E' hv => by
    have r : Rw G No H H' := .gr nm g E'
    exact q F' H' v r (E.rw nm r fun _ _ z => z) g.fe g.fh g.sep hv
theorem ef_raw (h : EvF G te ρ d) (nm : Tame ρ) (E : EnvOk G ρ F H σ) (q : ∀ H' F2 v, Rw G No H H' → EnvOk G ρ F H' σ → Same F2 H' → (∀ a, F2 a ≠ none → H a = none) → Dq F2 v d → Q v H') : te σ H Q :=
  h F H σ E Q fun F' H' F2 v g E' s2 d2 hv => by
    have r : Rw G No H H' := .gr nm g E'
    exact q H' F2 v r (E.rw nm r fun _ _ z => z) s2 d2 hv
/-- a new part keeps standing -/
theorem Rw.part (r : Rw G B H H') (s : Same F2 H) (t : ∀ a, G.A a → F2 a = none) (hB : ∀ a, F2 a ≠ none → ¬ B a) : Same F2 H' := fun a o h => r.ext a o (hB a (by rw [h]; exact fun z => by cases z)) (fun z => by rw [t a z] at h; cases h) (s a o h)
theorem new_tab (t : Tabled G H) (d2 : ∀ a, F2 a ≠ none → H a = none) : ∀ a, G.A a → F2 a = none := fun a ha => by
  cases e : F2 a with
  | none => rfl
  | some o =>
    have := d2 a (by rw [e]; exact fun z => by cases z)
    obtain ⟨ps, q⟩ := t a ha
    rw [this] at q
    cases q
theorem EnvOk.cons {v : V} (E : EnvOk G ρ F H σ) : EnvOk G (.un :: ρ) F H (some v :: σ) := by
  refine ⟨E.sub, by rw [List.length_cons, List.length_cons, E.len], fun i s hs => ?_, fun i j s s' a h1 h2 m1 m2 e1 e2 => ?_, E.glob, E.tab⟩
  · cases i with
    | zero => cases hs; trivial
    | succ i => exact E.at_ i s hs
  · cases i with
    | zero => cases h1; exact m1.elim
    | succ i =>
      cases j with
      | zero => cases h2; exact m2.elim
      | succ j => exact congrArg Nat.succ (E.dj i j s s' a h1 h2 m1 m2 e1 e2)
theorem tame_of {ρ : List Slot} (h : ∀ s, s ∈ ρ → ¬ s.mine) : Tame ρ := fun i s hs => h s (List.mem_of_getElem? hs)
def rAny : Rel := ⟨fun _ _ => True, fun _ h => h⟩
theorem fresh_rw (r : Rw G B H H') {a : Addr} (h : H' a = none) : H a = none := by
  cases e : H a with
  | none => rfl
  | some o => exact absurd h (r.keep a (by rw [e]; exact fun z => by cases z))
end
/-! ### making an instance -/
def DfI (K : PySem.W.Frag) (C : Addr) (qual : Str) (st : Stmt) (ps : List Str) : Prop := ∃ (f : Addr) (fd : FuncData), Fun K "__init__" qual st f fd ∧ Mk K C f ∧ Binds K fd ps []
structure MkC (P : Program) (w : World) (K : PySem.W.Frag) (mg : Str → Option Value) (base : Heap) (C : Addr) (name : Str) (k : Nat) (ps : List Str) (sp : Sp) : Prop where
  ex : ∃ (f : Addr) (fd : FuncData), Mk K C f ∧ FnOk P w K mg base CX0 k f fd ps sp ∧ Binds K fd ps []
  at_ : mg name = some (.ref C)
theorem pe_mk {X : Cx} {name : Str} {C : Addr} {k j : Nat} {ps : List Str} {sp : Sp} {p pos : Pos} {e : Expr} {es : List Expr} {t : TA} (M : MkC X.prog X.w X.K X.mg X.base C name j ps sp) (hr : Room k X.A) (ha : PA X (e :: es) t) (hg : Gl X name := by rfl) (hj : j + 1 ≤ k := by first | decide | omega)
    (hd : (name == ("__debug__" : Str)) = false := by decide)
    (he : starEach (e :: es) X.env = (false, eval e X.env) :: starEach es X.env := by rfl) (hpl : (backTo pos (starEach es X.env)).any (·.1) = false := by rfl) :
    PE X (.Call (.Name name p) (e :: es) [] pos) (tMake C sp [] E0 t) := by
  obtain ⟨f, fd, hm, F, hb⟩ := M.ex
  exact pe_make hm F (hr.mono hj) hg M.at_ hb .nil pass0 ha hd he hpl
theorem mk_raw {P : Program} {w : World} {K : PySem.W.Frag} {mg : Str → Option Value} {base : Heap} {C : Addr} {name qual : Str} {st : Stmt} {N ps : List Str} {k : Nat} {sp : Sp} (D : DfI K C qual st ps) (hm : mg name = some (.ref C)) (S : FnScope N ps (defScope st)) (hl : ∀ vs H Q E, sp vs H Q E → vs.length = ps.length)
    (hbody : ∀ (f : Addr) (cdv : Value) (A : Around) (outer : List Env) (s : Shared) (H : Hp) (E : XK), Room k (A.deeper (PyProof.Rows.envOfC qual (defScope st) s.heap.objs.size f cdv)) →
      ∃ t, PSs (cxOf CX0 P w K mg base N qual (defScope st) f cdv A outer s H E).nox (defBody st) t ∧ ∀ (vs : List V) (Q : VK), sp vs H Q E → t { nx := fun _ H' => Q .non H', rt := Q } (L2.start N vs) H) :
    MkC P w K mg base C name (k + 1) ps sp := by
  obtain ⟨f, fd, D1, D2, D3⟩ := D
  refine ⟨⟨f, fd, D2, D1.ok S hl (fun cdv A outer s H vs Q E hr h => ?_), D3⟩, hm⟩
  obtain ⟨t, ht, hs⟩ := hbody f cdv A outer s H E hr
  exact ⟨t, ht, hs vs Q h⟩
section
variable {G : Glob} {K : PySem.W.Frag} {B : Addr → Prop} {ρ : List Slot} {F F' Fn H H' : Hp} {σ : St} {D : Ends}
theorem all_at : ∀ {vs : List V} {Rs : List Rel} {i : Nat} {s : Slot}, RAll F vs Rs → (Rs.map Slot.rel)[i]? = some s → s.ok F H (vs.map some)[i]?
  | _, _, _, _, .nil, h => by simp at h
  | _, _, 0, s, .cons (v := v) h _, e => by
    simp at e
    subst e
    exact ⟨v, rfl, h⟩
  | _, _, i + 1, s, .cons (vs := vs) (Rs := Rs) _ t, e => show s.ok F H (vs.map some)[i]? from all_at (vs := vs) (Rs := Rs) (i := i) t e
theorem rel_tame (Rs : List Rel) : Tame (Rs.map Slot.rel) := tame_of fun s hs => by
  obtain ⟨R, _, rfl⟩ := List.mem_map.mp hs
  exact fun z => z
theorem env_rels {vs : List V} {Rs : List Rel} (h : RAll F vs Rs) (s : Same F H) (gi : G.I H) (t : Tabled G H) (ft : ∀ a, G.A a → F a = none) : EnvOk G (Rs.map Slot.rel) F H (vs.map some) :=
  ⟨s, by rw [List.length_map, List.length_map, h.length], fun i sl hs => all_at h hs, fun i j s s' a h1 _ m _ _ _ => absurd m (rel_tame Rs i s h1), gi, fun a ha => ⟨ft a ha, t a ha⟩⟩
/-- what is handed back: a new part -/
theorem ret_raw (nm : Tame ρ) (E : EnvOk G ρ F H σ) (r : Rw G B H H') (hB : ∀ a, B a → H a = none) (s : Same Fn H') (d : ∀ a, Fn a ≠ none → H a = none) : Gr (Ch G ρ σ) F H (uni F Fn) H' ∧ EnvOk G ρ (uni F Fn) H' σ ∧ Same Fn (uni F Fn) := by
  have dj : ∀ a, Fn a ≠ none → F a = none := fun a h => by
    cases e : F a with
    | none => rfl
    | some o => have := E.sub a o e; rw [d a h] at this; cases this
  have nF : ∀ a, F a ≠ none → ¬ B a := fun a h z => by
    cases e : F a with
    | none => exact h e
    | some o => have := E.sub a o e; rw [hB a z] at this; cases this
  have E1 := E.rw nm r nF
  refine ⟨⟨fun a o m h => r.ext a o (fun z => ?_) (fun z => m (.inr z)) h, r.keep, uni_l, uni_sub E1.sub s, fun a h1 h2 => ?_, r.exts⟩, E1.with nm uni_l (uni_sub E1.sub s) fun a ha => ?_, uni_r dj⟩
  · rw [hB a z] at h
    cases h
  · rcases uni_in h2 with z | z
    · exact absurd h1 z
    · exact d a z
  · have h1 := (E.tab a ha).1
    cases e : Fn a with
    | none =>
      unfold uni
      rw [h1]
      exact e
    | some o =>
      have := d a (by rw [e]; exact fun z => by cases z)
      obtain ⟨ps, q⟩ := (E.tab a ha).2
      rw [this] at q
      cases q
/-- for x in xs: x.append(y) -/
theorem raw_spoil {i j : Nat} {a2 : Addr} {xs2 : List V} {y : V} (hσ : σ[i]? = some (some (.ref a2))) (hij : i ≠ j) (hj : j < σ.length) (ha : H a2 = some (.lst xs2)) (hl : xs2.length ≤ 100)
    (hb : ∀ (k : Nat) (v : V), xs2[k]? = some v → ∃ b ys, v = .ref b ∧ b ≠ a2 ∧ H b = some (.lst ys) ∧ ys.length ≤ 100)
    (done : ∀ σ' H', (∀ k, k ≠ j → σ'[k]? = σ[k]?) → σ'.length = σ.length → Rw G (fun a => ∃ k : Nat, xs2[k]? = some (.ref a)) H H' → D.nx σ' H') :
    tFor (iSeq K (tVar i)) (gName j) (tDrop (tBM K "list" rAppend (tVar j) (tCons (tC y) tNil))) D σ H := by
  refine .inl ⟨.ref a2, hσ, a2, rfl, ⟨xs2, SqL.of ha⟩, fun n m σ' H' => m = xs2.length - n ∧ n ≤ xs2.length ∧ (∀ k, k ≠ j → σ'[k]? = σ[k]?) ∧ σ'.length = σ.length ∧ Rw G (fun a => ∃ k : Nat, xs2[k]? = some (.ref a)) H H' ∧ H' a2 = some (.lst xs2) ∧
    (∀ (k : Nat) (v : V), xs2[k]? = some v → ∃ b ys, v = .ref b ∧ b ≠ a2 ∧ H' b = some (.lst ys) ∧ ys.length ≤ 100 + n), ⟨_, rfl, Nat.zero_le _, fun _ _ => rfl, rfl, .refl, ha, hb⟩, ?_⟩
  rintro n m σ' H' ⟨rfl, hn, hk, hlen, r, ha', hb'⟩
  by_cases hlt : n < xs2.length
  · have ex : xs2[n]? = some xs2[n] := List.getElem?_eq_getElem hlt
    refine .inr ⟨⟨xs2, _, SqL.of ha', ex⟩, fun σ'' H'' => (∀ k, k ≠ j → σ''[k]? = σ[k]?) ∧ σ''.length = σ.length ∧ Rw G (fun a => ∃ k : Nat, xs2[k]? = some (.ref a)) H H'' ∧ H'' a2 = some (.lst xs2) ∧
      (∀ (k : Nat) (v : V), xs2[k]? = some v → ∃ b ys, v = .ref b ∧ b ≠ a2 ∧ H'' b = some (.lst ys) ∧ ys.length ≤ 100 + (n + 1)), fun σ'' H'' h => ⟨xs2.length - (n + 1), by omega, rfl, hlt, h⟩, fun x H3 hy => ?_⟩
    obtain ⟨rfl, hy⟩ := hy
    have hx := hy xs2 (SqL.of ha')
    obtain ⟨b, ys, rfl, ne, hbb, hz⟩ := hb' n x hx
    refine ⟨.ref b, List.getElem?_set_self (by omega), .inl ⟨rfl, ys, SqL.of hbb⟩, b, ys, y, rfl, rfl, hbb, small1000 (by omega), fun k hk' => ?_, by rw [List.length_set]; exact hlen, r.trans (.upd hbb ⟨n, hx⟩ (fun ps z => by cases z) fun φ z => by cases z), ?_, fun k v hv => ?_⟩
    · rw [List.getElem?_set_ne (Ne.symm hk')]
      exact hk k hk'
    · rw [upd_ne (Ne.symm ne)]
      exact ha'
    · obtain ⟨b', ys', rfl, ne', hbb', hz'⟩ := hb' k v hv
      by_cases q : b' = b
      · subst q
        rw [hbb] at hbb'
        cases hbb'
        exact ⟨b', _, rfl, ne', upd_same, by rw [List.length_append]; simp; omega⟩
      · exact ⟨b', ys', rfl, ne', by rw [upd_ne q]; exact hbb', by omega⟩
  · exact .inl ⟨⟨xs2, SqL.of ha', by omega⟩, done σ' H' hk hlen r⟩
/-- a list of lists of numbers, its objects -/
theorem lists_at {v : V} {ls : List (List Nat)} {c : Nat} (h : Dq F v (.list (ls.map nL))) (hc : ∀ l, l ∈ ls → l.length ≤ c) : ∃ a xs, v = .ref a ∧ F a = some (.lst xs) ∧ xs.length = ls.length ∧ ∀ (k : Nat) (u : V), xs[k]? = some u → ∃ b ys, u = .ref b ∧ b ≠ a ∧ F b = some (.lst ys) ∧ ys.length ≤ c := by
  cases h with
  | lst h1 h2 =>
    rename_i a xs
    have hlen := h2.length
    rw [List.length_map] at hlen
    refine ⟨a, xs, rfl, h1, hlen, fun k u hu => ?_⟩
    have hk : k < ls.length := by
      have := (List.getElem?_eq_some_iff.mp hu).1
      omega
    obtain ⟨u', e, hd⟩ := h2.get (i := k) (d := nL ls[k]) (by rw [List.getElem?_map, List.getElem?_eq_getElem hk]; rfl)
    rw [hu] at e
    cases e
    cases hd with
    | lst k1 k2 =>
      rename_i b ys
      refine ⟨b, ys, rfl, fun z => ?_, k1, ?_⟩
      · subst z
        rw [h1] at k1
        cases k1
        obtain ⟨w, e, hd⟩ := (⟨_, hu, rfl⟩ : ∃ w, xs[k]? = some w ∧ w = .ref b)
        have e2 := flat_ints F (ls[k].map fun (n : Nat) => (n : Int)) xs (by rw [← ints_of_nats]; exact k2)
        rw [e2, List.getElem?_map] at hu
        cases q : (ls[k].map fun (n : Nat) => (n : Int))[k]? with
        | none => rw [q] at hu; cases hu
        | some z => rw [q] at hu; cases hu
      · have := k2.length
        rw [List.length_map] at this
        have h3 := hc _ (List.getElem_mem hk)
        omega
end
/-- a def by its raw reading, its record told -/
theorem fn_raw {P : Program} {w : World} {K : PySem.W.Frag} {mg : Str → Option Value} {base : Heap} {name : Str} {st : Stmt} {f : Addr} {fd : FuncData} {N ps : List Str} {k : Nat} {sp : Sp} (D : Fun K name name st f fd) (S : FnScope N ps (defScope st)) (hl : ∀ vs H Q E, sp vs H Q E → vs.length = ps.length)
    (hbody : ∀ (f : Addr) (cdv : Value) (A : Around) (outer : List Env) (s : Shared) (H : Hp) (E : XK), Room k (A.deeper (PyProof.Rows.envOfC name (defScope st) s.heap.objs.size f cdv)) →
      ∃ t, PSs (cxOf CX0 P w K mg base N name (defScope st) f cdv A outer s H E).nox (defBody st) t ∧ ∀ (vs : List V) (Q : VK), sp vs H Q E → t { nx := fun _ H' => Q .non H', rt := Q } (L2.start N vs) H) : FnOk P w K mg base CX0 (k + 1) f fd ps sp :=
  D.ok S hl fun cdv A outer s H vs Q E hr h => by
    obtain ⟨t, ht, hs⟩ := hbody f cdv A outer s H E hr
    exact ⟨t, ht, hs vs Q h⟩
end Dx
set_option Elab.async false
set_option linter.all false
set_option maxRecDepth 100000
/-! WMath3: the fewest fields are as many as the needs apart. -/
namespace WM
open PySem Dx
def fitsB (needs : List Need) (sp : List Nat) : Bool := (missedM needs sp).isNone
theorem fits_iff {needs : List Need} {sp : List Nat} : fitsB needs sp = true ↔ ∀ n, n ∈ needs → ∃ f, f ∈ n.2.2 ∧ f ∈ sp := by
  unfold fitsB missedM
  rw [Option.isNone_map, Option.isNone_iff_eq_none, List.find?_eq_none]
  refine ⟨fun h n hn => ?_, fun h n hn => ?_⟩
  · have h1 := h n hn
    unfold missB at h1
    cases e : n.2.2.filter fun f => decide (f ∈ sp) with
    | nil => rw [e] at h1; exact absurd rfl h1
    | cons a r =>
      have : a ∈ n.2.2.filter fun f => decide (f ∈ sp) := by rw [e]; exact List.mem_cons_self
      obtain ⟨h2, h3⟩ := List.mem_filter.mp this
      exact ⟨a, h2, of_decide_eq_true h3⟩
  · obtain ⟨f, h1, h2⟩ := h n hn
    intro z
    unfold missB at z
    have : f ∈ n.2.2.filter fun f => decide (f ∈ sp) := List.mem_filter.mpr ⟨h1, decide_eq_true h2⟩
    rw [List.isEmpty_iff.mp z] at this
    cases this
def lensM (f : Nat) (needs : List Need) : List Nat := ((subsN f).filter (fitsB needs)).map List.length
def numberM (f : Nat) (needs : List Need) : Option Nat := (lensM f needs).min?
def askedM (f : Nat) (needs : List Need) : Int := match numberM f needs with
  | none => -1
  | some k => (k : Int)
/-- needs whose fields lie below f -/
def NOk (f : Nat) (needs : List Need) : Prop := ∀ n, n ∈ needs → Asc f n.2.2
def Full (needs : List Need) : Prop := ∀ n, n ∈ needs → n.2.2 ≠ []
theorem range_asc0 (f : Nat) : Asc f (List.range f) := ⟨List.pairwise_lt_range, fun x hx => List.mem_range.mp hx⟩
theorem range_fits {f : Nat} {needs : List Need} (h : NOk f needs) (full : Full needs) : fitsB needs (List.range f) = true := fits_iff.mpr fun n hn => by
  obtain ⟨x, hx⟩ := List.exists_mem_of_ne_nil _ (full n hn)
  exact ⟨x, hx, List.mem_range.mpr ((h n hn).2 x hx)⟩
theorem number_some {f k : Nat} {needs : List Need} : numberM f needs = some k ↔ (∃ sp, Asc f sp ∧ fitsB needs sp = true ∧ sp.length = k) ∧ ∀ sp, Asc f sp → fitsB needs sp = true → k ≤ sp.length := by
  unfold numberM lensM
  rw [List.min?_eq_some_iff]
  refine ⟨fun ⟨h1, h2⟩ => ?_, fun ⟨⟨sp, h1, h2, h3⟩, h4⟩ => ?_⟩
  · obtain ⟨sp, h3, rfl⟩ := List.mem_map.mp h1
    obtain ⟨h4, h5⟩ := List.mem_filter.mp h3
    exact ⟨⟨sp, subs_asc f sp h4, h5, rfl⟩, fun sp' h6 h7 => h2 _ (List.mem_map_of_mem (List.mem_filter.mpr ⟨subs_all f sp' h6, h7⟩))⟩
  · refine ⟨List.mem_map.mpr ⟨sp, List.mem_filter.mpr ⟨subs_all f sp h1, h2⟩, h3⟩, fun b hb => ?_⟩
    obtain ⟨sp', h5, rfl⟩ := List.mem_map.mp hb
    obtain ⟨h6, h7⟩ := List.mem_filter.mp h5
    exact h4 sp' (subs_asc f sp' h6) h7
theorem number_none {f : Nat} {needs : List Need} : numberM f needs = none ↔ ∀ sp, Asc f sp → fitsB needs sp = false := by
  unfold numberM lensM
  rw [List.min?_eq_none_iff, List.map_eq_nil_iff, List.filter_eq_nil_iff]
  refine ⟨fun h sp hs => Bool.eq_false_iff.mpr (h sp (subs_all f sp hs)), fun h sp hs => ?_⟩
  rw [h sp (subs_asc f sp hs)]
  exact Bool.false_ne_true
theorem none_iff {f : Nat} {needs : List Need} (h : NOk f needs) : numberM f needs = none ↔ ∃ n, n ∈ needs ∧ n.2.2 = [] := by
  rw [number_none]
  refine ⟨fun q => ?_, fun ⟨n, hn, e⟩ sp _ => Bool.eq_false_iff.mpr fun z => ?_⟩
  · apply Classical.byContradiction
    intro c
    have := q (List.range f) (range_asc0 f)
    rw [range_fits h fun n hn e => c ⟨n, hn, e⟩] at this
    cases this
  · obtain ⟨x, hx, _⟩ := fits_iff.mp z n hn
    rw [e] at hx
    cases hx
/-- more needs: never fewer fields -/
theorem number_mono {f : Nat} {n1 n2 : List Need} (sub : ∀ n, n ∈ n1 → n ∈ n2) {k2 : Nat} (h2 : numberM f n2 = some k2) : ∃ k1, numberM f n1 = some k1 ∧ k1 ≤ k2 := by
  obtain ⟨⟨sp, a1, a2, a3⟩, _⟩ := number_some.mp h2
  have fit : fitsB n1 sp = true := fits_iff.mpr fun n hn => fits_iff.mp a2 n (sub n hn)
  cases e : numberM f n1 with
  | none =>
    have := number_none.mp e sp a1
    rw [fit] at this
    cases this
  | some k1 =>
    have := (number_some.mp e).2 sp a1 fit
    exact ⟨k1, rfl, by omega⟩
theorem asked_less {f : Nat} {n1 n2 : List Need} (sub : ∀ n, n ∈ n1 → n ∈ n2) : ¬ (askedM f n1 > askedM f n2 ∧ askedM f n2 ≥ 0) := fun ⟨h1, h2⟩ => by
  unfold askedM at h1 h2
  cases e : numberM f n2 with
  | none => rw [e] at h2; simp at h2
  | some k2 =>
    obtain ⟨k1, e1, le⟩ := number_mono sub e
    rw [e, e1] at h1
    have h1 : (k2 : Int) < (k1 : Int) := h1
    omega
theorem asked_more {f : Nat} {n1 n2 : List Need} (sub : ∀ n, n ∈ n1 → n ∈ n2) : (askedM f n1 = -1 → askedM f n2 = -1) ∧ (askedM f n2 ≠ -1 → askedM f n1 ≤ askedM f n2) := by
  cases e : numberM f n2 with
  | none =>
    have a2 : askedM f n2 = -1 := by unfold askedM; rw [e]
    exact ⟨fun _ => a2, fun h => absurd a2 h⟩
  | some k2 =>
    obtain ⟨k1, e1, le⟩ := number_mono sub e
    have a2 : askedM f n2 = (k2 : Int) := by unfold askedM; rw [e]
    have a1 : askedM f n1 = (k1 : Int) := by unfold askedM; rw [e1]
    rw [a1, a2]
    exact ⟨fun h => by omega, fun _ => by omega⟩
/-! ### the first choice of the least size -/
theorem picks_sub : ∀ (k : Nat) (ts r : List Nat), r ∈ picksM k ts → r.Sublist ts ∧ r.length = k
  | 0, ts, r, h => by
    simp [picksM] at h
    subst h
    exact ⟨List.nil_sublist _, rfl⟩
  | k + 1, [], r, h => by simp [picksM] at h
  | k + 1, t :: ts, r, h => by
    rw [picksM] at h
    rcases List.mem_append.mp h with h | h
    · obtain ⟨q, hq, rfl⟩ := List.mem_map.mp h
      obtain ⟨h1, h2⟩ := picks_sub k ts q hq
      exact ⟨List.Sublist.cons_cons t h1, by rw [List.length_cons, h2]⟩
    · obtain ⟨h1, h2⟩ := picks_sub (k + 1) ts r h
      exact ⟨h1.cons t, h2⟩
theorem picks_all : ∀ (ts r : List Nat), r.Sublist ts → r ∈ picksM r.length ts
  | _, [], _ => by simp [picksM]
  | [], a :: r, h => by cases h
  | t :: ts, a :: r, h => by
    rw [List.length_cons, picksM]
    cases h with
    | cons _ h => exact List.mem_append_right _ (picks_all ts (a :: r) h)
    | cons_cons _ h => exact List.mem_append_left _ (List.mem_map.mpr ⟨r, picks_all ts r h, rfl⟩)
theorem subs_sub : ∀ (n : Nat) (l : List Nat), l ∈ subsN n → l.Sublist (List.range n)
  | 0, l, h => by
    have : l = [] := by simpa [subsN] using h
    rw [this]
    exact List.nil_sublist _
  | n + 1, l, h => by
    rw [List.range_succ]
    rw [subsN] at h
    rcases List.mem_append.mp h with h | h
    · exact (subs_sub n l h).trans (List.sublist_append_left _ _)
    · obtain ⟨o, ho, rfl⟩ := List.mem_map.mp h
      exact (subs_sub n o ho).append (List.Sublist.refl _)
theorem sub_asc {n : Nat} {l : List Nat} (h : l.Sublist (List.range n)) : Asc n l := ⟨List.Pairwise.sublist h List.pairwise_lt_range, fun x hx => List.mem_range.mp (h.subset hx)⟩
theorem find_flat {α : Type} {p : α → Bool} : ∀ {L : List (List α)} {x : α}, L.flatten.find? p = some x → ∃ (i : Nat) (l : List α), L[i]? = some l ∧ x ∈ l ∧ ∀ (j : Nat) (l' : List α), j < i → L[j]? = some l' → ∀ y, y ∈ l' → p y = false
  | [], x, h => by simp at h
  | l :: L, x, h => by
    rw [List.flatten_cons, List.find?_append] at h
    cases e : l.find? p with
    | some y =>
      rw [e] at h
      have : y = x := by simpa using h
      subst this
      exact ⟨0, l, rfl, List.mem_of_find?_eq_some e, fun j l' hj => absurd hj (Nat.not_lt_zero _)⟩
    | none =>
      rw [e] at h
      obtain ⟨i, l1, h1, h2, h3⟩ := find_flat (L := L) (x := x) (by simpa using h)
      refine ⟨i + 1, l1, h1, h2, fun j l' hj hl y hy => ?_⟩
      cases j with
      | zero =>
        cases hl
        exact Bool.eq_false_iff.mpr (List.find?_eq_none.mp e y hy)
      | succ j => exact h3 j l' (by omega) hl y hy
theorem spare_ok {f : Nat} {needs : List Need} (h : NOk f needs) (full : Full needs) : Asc f (spareM f needs) ∧ fitsB needs (spareM f needs) = true ∧ numberM f needs = some (spareM f needs).length := by
  have hr := range_fits h full
  obtain ⟨sp, hsp⟩ : ∃ sp, (spares f).find? (fitsB needs) = some sp := by
    cases e : (spares f).find? (fitsB needs) with
    | some sp => exact ⟨sp, rfl⟩
    | none =>
      have h1 : List.range f ∈ spares f := List.mem_flatten.mpr ⟨picksM f (List.range f), List.mem_map.mpr ⟨f, List.mem_range.mpr (by omega), rfl⟩, by
        have := picks_all (List.range f) (List.range f) (List.Sublist.refl _)
        rw [List.length_range] at this
        exact this⟩
      exact absurd hr (List.find?_eq_none.mp e _ h1)
  have e : spareM f needs = sp := by
    unfold spareM
    rw [show (spares f).find? (fun sp => (missedM needs sp).isNone) = some sp from hsp]
    rfl
  rw [e]
  obtain ⟨i, l, h1, h2, h3⟩ := find_flat hsp
  have hi : i < f + 1 ∧ l = picksM i (List.range f) := by
    rw [List.getElem?_map] at h1
    cases q : (List.range (f + 1))[i]? with
    | none => rw [q] at h1; cases h1
    | some j =>
      obtain ⟨rfl, hj⟩ := range_at q
      rw [q] at h1
      cases h1
      exact ⟨hj, rfl⟩
  obtain ⟨hi, rfl⟩ := hi
  obtain ⟨s1, s2⟩ := picks_sub _ _ _ h2
  have a := sub_asc s1
  have fit := List.find?_some hsp
  refine ⟨a, fit, number_some.mpr ⟨⟨sp, a, fit, rfl⟩, fun sp' a' f' => ?_⟩⟩
  apply Classical.byContradiction
  intro c
  have hl : sp'.length < i := by omega
  have h4 := picks_all (List.range f) sp' (subs_sub f sp' (subs_all f sp' a'))
  have := h3 sp'.length _ hl (by rw [List.getElem?_map, List.getElem?_range (by omega)]; rfl) sp' h4
  rw [f'] at this
  cases this
end WM
set_option Elab.async false
set_option linter.all false
set_option maxRecDepth 100000
/-! WMath4: needs apart and the fewest fields. -/
namespace WM
open PySem Dx
/-! ### stretches -/
theorem last_ge : ∀ (r : List Nat) (x : Nat), (x :: r).Pairwise (· < ·) → x + r.length ≤ (x :: r).getLastD 0
  | [], x, _ => by simp
  | z :: r, x, h => by
    have h1 := last_ge r z (List.pairwise_cons.mp h).2
    have h2 := (List.pairwise_cons.mp h).1 z List.mem_cons_self
    have e : (x :: z :: r).getLastD 0 = (z :: r).getLastD 0 := by simp [List.getLastD_eq_getLast?, List.getLast?_cons_cons]
    rw [e, List.length_cons]
    omega
theorem last_top : ∀ (r : List Nat) (x y : Nat), (x :: r).Pairwise (· < ·) → y ∈ x :: r → x ≤ y ∧ y ≤ (x :: r).getLastD 0
  | [], x, y, _, hy => by
    have := List.mem_singleton.mp hy
    subst this
    simp
  | z :: r, x, y, h, hy => by
    have e : (x :: z :: r).getLastD 0 = (z :: r).getLastD 0 := by simp [List.getLastD_eq_getLast?, List.getLast?_cons_cons]
    have h2 := (List.pairwise_cons.mp h).1 z List.mem_cons_self
    have h3 := last_ge r z (List.pairwise_cons.mp h).2
    rw [e]
    rcases List.mem_cons.mp hy with rfl | hy
    · exact ⟨Nat.le_refl _, by omega⟩
    · have := last_top r z y (List.pairwise_cons.mp h).2 hy
      omega
theorem fill : ∀ (r : List Nat) (x : Nat), (x :: r).Pairwise (· < ·) → (x :: r).getLastD 0 ≤ x + r.length → ∀ y, x ≤ y → y ≤ (x :: r).getLastD 0 → y ∈ x :: r
  | [], x, _, _, y, h1, h2 => by
    have : y = x := by simp at h2; omega
    rw [this]; exact List.mem_cons_self
  | z :: r, x, h, hl, y, h1, h2 => by
    have e : (x :: z :: r).getLastD 0 = (z :: r).getLastD 0 := by simp [List.getLastD_eq_getLast?, List.getLast?_cons_cons]
    have h4 := (List.pairwise_cons.mp h).1 z List.mem_cons_self
    have h3 := last_ge r z (List.pairwise_cons.mp h).2
    rw [e] at hl h2
    rw [List.length_cons] at hl
    by_cases q : y = x
    · rw [q]; exact List.mem_cons_self
    · exact List.mem_cons_of_mem _ (fill r z (List.pairwise_cons.mp h).2 (by omega) y (by omega) h2)
/-- all needs are stretches, and none is empty -/
def Str1 (n : Need) : Prop := n.2.2 ≠ [] ∧ n.2.2.Pairwise (· < ·) ∧ stretchN n.2.2 = true
theorem str_mem {n : Need} (h : Str1 n) {y : Nat} (h1 : firstN n ≤ y) (h2 : y ≤ lastN n) : y ∈ n.2.2 := by
  obtain ⟨a, b, c⟩ := h
  unfold firstN at h1
  unfold lastN at h2
  cases e : n.2.2 with
  | nil => exact absurd e a
  | cons x r =>
    rw [e] at h1 h2 b c
    have h1 : x ≤ y := h1
    unfold stretchN at c
    have c := of_decide_eq_true c
    have g : (x :: r).getLast?.getD 0 = (x :: r).getLastD 0 := (List.getLastD_eq_getLast? ..).symm
    rw [g] at c
    have c : (((x :: r).getLastD 0 : Nat) : Int) - (x : Int) = (((x :: r).length : Nat) : Int) - 1 := c
    rw [List.length_cons] at c
    exact fill r x b (by omega) y h1 h2
theorem mem_str {n : Need} (h : Str1 n) {y : Nat} (hy : y ∈ n.2.2) : firstN n ≤ y ∧ y ≤ lastN n := by
  obtain ⟨a, b, c⟩ := h
  unfold firstN lastN
  cases e : n.2.2 with
  | nil => exact absurd e a
  | cons x r =>
    rw [e] at hy b
    exact last_top r x y b hy
theorem str_le {n : Need} (h : Str1 n) : firstN n ≤ lastN n := by
  obtain ⟨x, hx⟩ := List.exists_mem_of_ne_nil _ h.1
  have := mem_str h hx
  omega
theorem last_in {n : Need} (h : Str1 n) : lastN n ∈ n.2.2 := str_mem h (str_le h) (Nat.le_refl _)
/-! ### the greedy choice -/
theorem greedy_sub : ∀ (l : List Need) (e : Int) (m : Need), m ∈ greedy e l → m ∈ l
  | [], e, m, h => by cases h
  | n :: l, e, m, h => by
    simp only [greedy] at h
    split at h
    · rcases List.mem_cons.mp h with rfl | h
      · exact List.mem_cons_self
      · exact List.mem_cons_of_mem _ (greedy_sub l _ m h)
    · exact List.mem_cons_of_mem _ (greedy_sub l _ m h)
theorem greedy_hits : ∀ (l : List Need) (e : Int), (∀ n, n ∈ l → Str1 n) → l.Pairwise (fun a b => lastN a ≤ lastN b) → ∀ n, n ∈ l → (firstN n : Int) ≤ e ∨ ∃ m, m ∈ greedy e l ∧ firstN n ≤ lastN m ∧ lastN m ≤ lastN n
  | [], e, _, _, n, h => by cases h
  | m :: l, e, hs, hp, n, hn => by
    have hs' : ∀ n, n ∈ l → Str1 n := fun k hk => hs k (List.mem_cons_of_mem _ hk)
    obtain ⟨p1, p2⟩ := List.pairwise_cons.mp hp
    simp only [greedy]
    split
    · rcases List.mem_cons.mp hn with rfl | hn
      · exact .inr ⟨n, List.mem_cons_self, str_le (hs n List.mem_cons_self), Nat.le_refl _⟩
      · rcases greedy_hits l (lastN m) hs' p2 n hn with h | ⟨k, h1, h2, h3⟩
        · exact .inr ⟨m, List.mem_cons_self, by omega, p1 n hn⟩
        · exact .inr ⟨k, List.mem_cons_of_mem _ h1, h2, h3⟩
    · rename_i c
      rcases List.mem_cons.mp hn with rfl | hn
      · exact .inl (by omega)
      · exact greedy_hits l e hs' p2 n hn
theorem greedy_apart : ∀ (l : List Need) (e : Int), (∀ n, n ∈ l → Str1 n) → (∀ m, m ∈ greedy e l → e < (firstN m : Int)) ∧ (greedy e l).Pairwise fun a b => lastN a < firstN b
  | [], e, _ => ⟨fun m h => (by cases h), .nil⟩
  | n :: l, e, hs => by
    have hs' : ∀ n, n ∈ l → Str1 n := fun k hk => hs k (List.mem_cons_of_mem _ hk)
    simp only [greedy]
    split
    · rename_i c
      obtain ⟨h1, h2⟩ := greedy_apart l (lastN n) hs'
      have h3 := str_le (hs n List.mem_cons_self)
      refine ⟨fun m hm => ?_, List.pairwise_cons.mpr ⟨fun m hm => ?_, h2⟩⟩
      · rcases List.mem_cons.mp hm with rfl | hm
        · exact c
        · have := h1 m hm
          omega
      · have := h1 m hm
        omega
    · exact greedy_apart l e hs'
theorem nodup_le : ∀ (l s : List Nat), l.Nodup → (∀ x, x ∈ l → x ∈ s) → l.length ≤ s.length
  | [], s, _, _ => Nat.zero_le _
  | x :: l, s, hn, h => by
    obtain ⟨h1, h2⟩ := List.nodup_cons.mp hn
    have hx := h x List.mem_cons_self
    have := nodup_le l (s.erase x) h2 fun y hy => (List.mem_erase_of_ne (fun e => h1 (by rw [← e]; exact hy))).mpr (h y (List.mem_cons_of_mem _ hy))
    rw [List.length_erase_of_mem hx] at this
    have := List.length_pos_of_mem hx
    rw [List.length_cons]
    omega
/-- a field of each need apart -/
theorem hits_asc : ∀ (A : List Need) (sp : List Nat), (∀ n, n ∈ A → Str1 n) → A.Pairwise (fun a b => lastN a < firstN b) → (∀ n, n ∈ A → ∃ f, f ∈ n.2.2 ∧ f ∈ sp) →
    ∃ xs : List Nat, xs.length = A.length ∧ xs.Pairwise (· < ·) ∧ (∀ x, x ∈ xs → x ∈ sp) ∧ ∀ x, x ∈ xs → ∃ n, n ∈ A ∧ firstN n ≤ x
  | [], sp, _, _, _ => ⟨[], rfl, .nil, fun x h => (by cases h), fun x h => (by cases h)⟩
  | a :: A, sp, hs, hp, hh => by
    obtain ⟨p1, p2⟩ := List.pairwise_cons.mp hp
    obtain ⟨xs, h1, h2, h3, h4⟩ := hits_asc A sp (fun k hk => hs k (List.mem_cons_of_mem _ hk)) p2 fun k hk => hh k (List.mem_cons_of_mem _ hk)
    obtain ⟨f, f1, f2⟩ := hh a List.mem_cons_self
    have g := mem_str (hs a List.mem_cons_self) f1
    refine ⟨f :: xs, by rw [List.length_cons, List.length_cons, h1], List.pairwise_cons.mpr ⟨fun x hx => ?_, h2⟩, fun x hx => ?_, fun x hx => ?_⟩
    · obtain ⟨n, n1, n2⟩ := h4 x hx
      have := p1 n n1
      omega
    · rcases List.mem_cons.mp hx with rfl | hx
      · exact f2
      · exact h3 x hx
    · rcases List.mem_cons.mp hx with rfl | hx
      · exact ⟨a, List.mem_cons_self, g.1⟩
      · obtain ⟨n, n1, n2⟩ := h4 x hx
        exact ⟨n, List.mem_cons_of_mem _ n1, n2⟩
theorem apart_number {f : Nat} {needs : List Need} (h : NOk f needs) (hs : ∀ n, n ∈ needs → Str1 n) : numberM f needs = some (apartM needs).length := by
  have pm := sortN_perm needs
  have hs' : ∀ n, n ∈ sortN needs → Str1 n := fun n hn => hs n (pm.mem_iff.mp hn)
  have inA : ∀ m, m ∈ apartM needs → m ∈ needs := fun m hm => pm.mem_iff.mp (greedy_sub _ _ m hm)
  have ap := (greedy_apart (sortN needs) (-1) hs').2
  have hA : ∀ n, n ∈ apartM needs → Str1 n := fun n hn => hs n (inA n hn)
  refine number_some.mpr ⟨⟨(apartM needs).map lastN, ⟨?_, fun x hx => ?_⟩, fits_iff.mpr fun n hn => ?_, by rw [List.length_map]⟩, fun sp a fit => ?_⟩
  · refine List.pairwise_map.mpr (List.Pairwise.imp_of_mem (fun {a b} ha hb hab => ?_) ap)
    have := str_le (hA b hb)
    omega
  · obtain ⟨m, hm, rfl⟩ := List.mem_map.mp hx
    exact (h m (inA m hm)).2 _ (last_in (hA m hm))
  · rcases greedy_hits (sortN needs) (-1) hs' (sortN_asc needs) n (pm.mem_iff.mpr hn) with z | ⟨m, h1, h2, h3⟩
    · omega
    · exact ⟨lastN m, str_mem (hs n hn) h2 h3, List.mem_map_of_mem h1⟩
  · obtain ⟨xs, h1, h2, h3, _⟩ := hits_asc (apartM needs) sp hA ap fun n hn => fits_iff.mp fit n (inA n hn)
    rw [← h1]
    exact nodup_le xs sp (h2.imp fun {a b} hab e => by omega) h3
end WM
set_option Elab.async false
set_option linter.all false
set_option maxRecDepth 100000
/-! WMath5: the law's own looks at needs apart. -/
namespace WM
open PySem Dx
def sameKey (n m : Need) : Bool := decide (n.1 = m.1 ∧ n.2.1 = m.2.1)
abbrev Keyed (needs : List Need) : Prop := needs.Pairwise fun a b => ¬ (a.1 = b.1 ∧ a.2.1 = b.2.1)
theorem filter_key {n : Need} : ∀ {needs : List Need}, Keyed needs → n ∈ needs → needs.filter (sameKey n) = [n]
  | [], _, h => by cases h
  | m :: l, hk, h => by
    obtain ⟨k1, k2⟩ := List.pairwise_cons.mp hk
    rcases List.mem_cons.mp h with rfl | h
    · have e : l.filter (sameKey n) = [] := List.filter_eq_nil_iff.mpr fun a ha z => k1 a ha (of_decide_eq_true z)
      have s : sameKey n n = true := decide_eq_true ⟨rfl, rfl⟩
      rw [List.filter_cons, if_pos s, e]
    · have s : sameKey n m = false := decide_eq_false fun z => k1 n h ⟨z.1.symm, z.2.symm⟩
      rw [List.filter_cons, if_neg (by rw [s]; exact Bool.false_ne_true), filter_key k2 h]
theorem needs_keyed {W : Wish} (ok : WOk W) : Keyed (needsM W) := by
  unfold needsM
  refine List.pairwise_flatten.mpr ⟨fun l hl => ?_, ?_⟩
  · obtain ⟨p, hp, rfl⟩ := List.mem_map.mp hl
    have hp := List.mem_range.mp hp
    unfold needsAt
    refine List.pairwise_map.mpr ?_
    rw [List.getD_eq_getElem?_getD, List.getElem?_eq_getElem hp]
    exact ((ok.ra _ (List.getElem_mem hp)).1).imp fun {a b} hab z => by
      have := z.2
      simp at this
      omega
  · refine List.pairwise_map.mpr (List.pairwise_lt_range.imp fun {p q} hpq x hx y hy z => ?_)
    unfold needsAt at hx hy
    obtain ⟨a, _, rfl⟩ := List.mem_map.mp hx
    obtain ⟨b, _, rfl⟩ := List.mem_map.mp hy
    have : p = q := z.1
    omega
theorem apart_dj {A : List Need} (hs : ∀ n, n ∈ A → Str1 n) (ap : A.Pairwise fun a b => lastN a < firstN b) : A.Pairwise fun a b => ∀ x, x ∈ a.2.2 → x ∉ b.2.2 :=
  List.Pairwise.imp_of_mem (fun {a b} ha hb hab x h1 h2 => by
    have := mem_str (hs a ha) h1
    have := mem_str (hs b hb) h2
    omega) ap
/-- no field of the next need is taken -/
theorem not_taken {A : List Need} (dj : A.Pairwise fun a b => ∀ x, x ∈ a.2.2 → x ∉ b.2.2) {i : Nat} {n : Need} (h : A[i]? = some n) : ∀ x, x ∈ n.2.2 → x ∉ ((A.take i).map fun m => m.2.2).flatten := fun x hx z => by
  obtain ⟨l, hl, h1⟩ := List.mem_flatten.mp z
  obtain ⟨m, hm, rfl⟩ := List.mem_map.mp hl
  obtain ⟨j, hj⟩ := List.mem_iff_getElem?.mp hm
  have hji : j < i := by
    have := (List.getElem?_eq_some_iff.mp hj).1
    rw [List.length_take] at this
    omega
  rw [List.getElem?_take_of_lt hji] at hj
  obtain ⟨a1, a2⟩ := List.getElem?_eq_some_iff.mp hj
  obtain ⟨b1, b2⟩ := List.getElem?_eq_some_iff.mp h
  have := List.pairwise_iff_getElem.mp dj j i a1 b1 hji
  rw [a2, b2] at this
  exact this x h1 hx
theorem taken_len (A : List Need) (h5 : ∀ n, n ∈ A → n.2.2.length ≤ 5) : ∀ i, ((A.take i).map fun m => m.2.2).flatten.length ≤ i * 5
  | 0 => by simp
  | i + 1 => by
    have ih := taken_len A h5 i
    rw [List.take_add_one, List.map_append, List.flatten_append, List.length_append]
    have h : ((A[i]?.toList.map fun m => m.2.2).flatten).length ≤ 5 := by
      cases e : A[i]? with
      | none => exact Nat.zero_le _
      | some n =>
        have := h5 n (List.mem_of_getElem? e)
        show ((n.2.2 ++ []).length) ≤ 5
        rw [List.append_nil]
        exact this
    omega
def eOptN : Option Nat → PyData
  | none => .none
  | some k => dN k
/-- the needs are stretches, as the law sees it -/
theorem gaps_nil {needs : List Need} (full : Full needs) : (needs.filter fun n => !decide (((lastN n : Nat) : Int) - (firstN n : Int) = (n.2.2.length : Int) - 1)) = [] ↔ (needs.all fun n => stretchN n.2.2) = true := by
  rw [List.filter_eq_nil_iff, List.all_eq_true]
  have e : ∀ n, n ∈ needs → stretchN n.2.2 = decide (((lastN n : Nat) : Int) - (firstN n : Int) = (n.2.2.length : Int) - 1) := fun n hn => by
    unfold stretchN lastN firstN
    rw [List.getLastD_eq_getLast?, List.headD_eq_head?_getD]
  refine ⟨fun h n hn => ?_, fun h n hn z => ?_⟩
  · have := h n hn
    rw [e n hn]
    simpa using this
  · have h1 := h n hn
    rw [e n hn] at h1
    rw [h1] at z
    cases z
theorem str_of {W : Wish} (ok : WOk W) (full : Full (needsM W)) (h : ((needsM W).all fun n => stretchN n.2.2) = true) : ∀ n, n ∈ needsM W → Str1 n := fun n hn => ⟨full n hn, (needs_asc ok hn).1, List.all_eq_true.mp h n hn⟩
end WM
set_option Elab.async false
set_option linter.all false
set_option maxRecDepth 100000
/-! WMath6: neighbours of wishes. -/
namespace WM
open PySem Dx
theorem mem_needs {W : Wish} {p k : Nat} {r : List Nat} (h : W.renews[p]? = some r) (hk : k ∈ r) : (p, k, outM W p k) ∈ needsM W := by
  unfold needsM
  refine List.mem_flatten.mpr ⟨needsAt W p, List.mem_map.mpr ⟨p, List.mem_range.mpr (List.getElem?_eq_some_iff.mp h).1, rfl⟩, ?_⟩
  unfold needsAt
  rw [List.getD_eq_getElem?_getD, h]
  exact List.mem_map.mpr ⟨k, hk, rfl⟩
theorem set_get {α : Type} {l : List α} {i j : Nat} {x y : α} (h : (l.set i x)[j]? = some y) : (j = i ∧ y = x ∧ i < l.length) ∨ (j ≠ i ∧ l[j]? = some y) := by
  by_cases e : j = i
  · subst e
    by_cases hl : j < l.length
    · rw [List.getElem?_set_self hl] at h
      exact .inl ⟨rfl, (Option.some.inj h).symm, hl⟩
    · rw [List.getElem?_eq_none (by rw [List.length_set]; omega)] at h
      cases h
  · rw [List.getElem?_set_ne (Ne.symm e)] at h
    exact .inr ⟨e, h⟩
theorem set_mem {α : Type} {l : List α} {i : Nat} {x y : α} (h : y ∈ l.set i x) : y = x ∨ y ∈ l := by
  obtain ⟨j, hj⟩ := List.mem_iff_getElem?.mp h
  rcases set_get hj with ⟨_, e, _⟩ | ⟨_, e⟩
  · exact .inl e
  · exact .inr (List.mem_of_getElem? e)
theorem asc_filter {n : Nat} {l : List Nat} (h : Asc n l) (p : Nat → Bool) : Asc n (l.filter p) := ⟨h.1.filter _, fun x hx => h.2 x (List.mem_filter.mp hx).1⟩
theorem asc_more {n m : Nat} {l : List Nat} (h : Asc n l) (le : n ≤ m) : Asc m l := ⟨h.1, fun x hx => Nat.lt_of_lt_of_le (h.2 x hx) le⟩
/-- without n in part p's renewing forms -/
def lessR (W : Wish) (p n : Nat) : List Nat := (W.renews.getD p []).filter fun k => !decide (k = n)
def struckW (W : Wish) (p n : Nat) : Wish := { W with renews := W.renews.set p (lessR W p n) }
theorem lessR_sub {W : Wish} {p n x : Nat} {r : List Nat} (hp : W.renews[p]? = some r) (h : x ∈ lessR W p n) : x ∈ r ∧ x ≠ n := by
  unfold lessR at h
  rw [List.getD_eq_getElem?_getD, hp] at h
  obtain ⟨h1, h2⟩ := List.mem_filter.mp h
  exact ⟨h1, fun e => by rw [e] at h2; simp at h2⟩
theorem struck_ok {W : Wish} (ok : WOk W) {p n : Nat} {r : List Nat} (hp : W.renews[p]? = some r) : WOk (struckW W p n) where
  f1 := ok.f1
  f5 := ok.f5
  ne := ok.ne
  six := ok.six
  nd := ok.nd
  asc := ok.asc
  kr := by
    show W.keeps.length = (W.renews.set p _).length
    rw [List.length_set]
    exact ok.kr
  four := ok.four
  ka := ok.ka
  ra := fun l hl => by
    rcases set_mem hl with rfl | hl
    · unfold lessR
      rw [List.getD_eq_getElem?_getD, hp]
      exact asc_filter (ok.ra r (List.mem_of_getElem? hp)) _
    · exact ok.ra l hl
  dj := fun q k l hk hl x hx hx' => by
    rcases set_get hl with ⟨rfl, rfl, _⟩ | ⟨_, e⟩
    · exact ok.dj q k r hk hp x hx (lessR_sub hp hx').1
    · exact ok.dj q k l hk e x hx hx'
theorem struck_sub {W : Wish} {p n : Nat} {r : List Nat} (hp : W.renews[p]? = some r) : ∀ m, m ∈ needsM (struckW W p n) → m ∈ needsM W := fun m hm => by
  obtain ⟨l, h1, h2, h3⟩ := needs_at hm
  have e : m = (m.1, m.2.1, outM W m.1 m.2.1) := Prod.ext rfl (Prod.ext rfl h3)
  rw [e]
  rcases set_get h1 with ⟨q, rfl, _⟩ | ⟨_, q⟩
  · rw [q]
    exact mem_needs hp (lessR_sub hp h2).1
  · exact mem_needs q h2
/-- a form more that renews part a -/
def widerW (W : Wish) (f : List Nat) (a : Nat) : Wish := { W with forms := W.forms ++ [f], renews := W.renews.set a (W.renews.getD a [] ++ [W.forms.length]) }
theorem form_old {W : Wish} {f : List Nat} {k : Nat} (hk : k < W.forms.length) : (W.forms ++ [f]).getD k [] = W.forms.getD k [] := by
  rw [List.getD_eq_getElem?_getD, List.getD_eq_getElem?_getD, List.getElem?_append_left hk]
theorem wider_ok {W : Wish} (ok : WOk W) {f : List Nat} {a : Nat} {r : List Nat} (ha : W.renews[a]? = some r) (hf : f ∉ W.forms) (hn : f ≠ []) (asc : Asc W.fields f) (six : W.forms.length ≠ 6) : WOk (widerW W f a) where
  f1 := ok.f1
  f5 := ok.f5
  ne := fun e => by
    have : W.forms ++ [f] = [] := e
    simp at this
  six := by
    show (W.forms ++ [f]).length ≤ 6
    have := ok.six
    rw [List.length_append]
    simp
    omega
  nd := List.nodup_append.mpr ⟨ok.nd, by simp, fun x hx y hy e => by
    rw [List.mem_singleton.mp hy] at e
    rw [e] at hx
    exact hf hx⟩
  asc := fun g hg => by
    rcases List.mem_append.mp hg with hg | hg
    · exact ok.asc g hg
    · rw [List.mem_singleton.mp hg]
      exact ⟨hn, asc⟩
  kr := by
    show W.keeps.length = (W.renews.set a _).length
    rw [List.length_set]
    exact ok.kr
  four := ok.four
  ka := fun l hl => by
    refine asc_more (ok.ka l hl) ?_
    show _ ≤ (W.forms ++ [f]).length
    rw [List.length_append]
    omega
  ra := fun l hl => by
    have e : (widerW W f a).forms.length = W.forms.length + 1 := by
      show (W.forms ++ [f]).length = _
      rw [List.length_append]
      rfl
    rw [e]
    rcases set_mem hl with rfl | hl
    · rw [List.getD_eq_getElem?_getD, ha]
      exact asc_snoc (ok.ra r (List.mem_of_getElem? ha))
    · exact asc_more (ok.ra l hl) (Nat.le_succ _)
  dj := fun q k l hk hl x hx hx' => by
    rcases set_get hl with ⟨rfl, rfl, _⟩ | ⟨_, e⟩
    · rw [List.getD_eq_getElem?_getD, ha] at hx'
      rcases List.mem_append.mp hx' with hx' | hx'
      · exact ok.dj q k r hk ha x hx hx'
      · have h1 := (ok.ka k (List.mem_of_getElem? hk)).2 x hx
        rw [List.mem_singleton.mp hx'] at h1
        omega
    · exact ok.dj q k l hk e x hx hx'
theorem out_wider {W : Wish} (ok : WOk W) {f : List Nat} {a p k : Nat} (hk : k < W.forms.length) : outM (widerW W f a) p k = outM W p k := by
  unfold outM
  have e1 : (widerW W f a).forms.getD k [] = W.forms.getD k [] := form_old hk
  have e2 : covM (widerW W f a) ((widerW W f a).keeps.getD p []) = covM W (W.keeps.getD p []) := by
    unfold covM
    congr 1
    refine List.map_congr_left fun q hq => ?_
    refine form_old ?_
    have hq : q ∈ W.keeps.getD p [] := hq
    rw [List.getD_eq_getElem?_getD] at hq
    cases e : W.keeps[p]? with
    | none => rw [e] at hq; cases hq
    | some l =>
      rw [e] at hq
      exact (ok.ka l (List.mem_of_getElem? e)).2 q hq
  rw [e1, e2]
theorem wider_sup {W : Wish} (ok : WOk W) {f : List Nat} {a : Nat} {r : List Nat} (ha : W.renews[a]? = some r) : ∀ m, m ∈ needsM W → m ∈ needsM (widerW W f a) := fun m hm => by
  obtain ⟨l, h1, h2, h3⟩ := needs_at hm
  have hk := (ok.ra l (List.mem_of_getElem? h1)).2 _ h2
  have e : m = (m.1, m.2.1, outM (widerW W f a) m.1 m.2.1) := Prod.ext rfl (Prod.ext rfl (by rw [h3, out_wider ok hk]))
  rw [e]
  by_cases q : m.1 = a
  · rw [q] at h1 ⊢
    rw [ha] at h1
    cases h1
    have hl := (List.getElem?_eq_some_iff.mp ha).1
    refine mem_needs (W := widerW W f a) (r := W.renews.getD a [] ++ [W.forms.length]) (List.getElem?_set_self hl) (List.mem_append_left _ ?_)
    rw [List.getD_eq_getElem?_getD, ha]
    exact h2
  · refine mem_needs (W := widerW W f a) (r := l) ?_ h2
    show (W.renews.set a _)[m.1]? = some l
    rw [List.getElem?_set_ne (Ne.symm q)]
    exact h1
/-- a renewing form keeps -/
def moreK (W : Wish) (p n : Nat) : List Nat := (W.keeps.getD p [] ++ [n]).mergeSort fun a b => decide (a ≤ b)
def keepingW (W : Wish) (p n : Nat) : Wish := { W with keeps := W.keeps.set p (moreK W p n), renews := W.renews.set p (lessR W p n) }
theorem moreK_perm (W : Wish) (p n : Nat) : (moreK W p n).Perm (W.keeps.getD p [] ++ [n]) := List.mergeSort_perm _ _
theorem moreK_le (W : Wish) (p n : Nat) : (moreK W p n).Pairwise (· ≤ ·) := by
  have := List.pairwise_mergeSort (le := fun a b : Nat => decide (a ≤ b)) (fun a b c h1 h2 => by simp at *; omega) (fun a b => by simp; omega) (W.keeps.getD p [] ++ [n])
  exact this.imp fun {a b} h => of_decide_eq_true h
theorem keeping_ok {W : Wish} (ok : WOk W) {p n : Nat} {r : List Nat} (hp : W.renews[p]? = some r) (hn : n ∈ r) : WOk (keepingW W p n) where
  f1 := ok.f1
  f5 := ok.f5
  ne := ok.ne
  six := ok.six
  nd := ok.nd
  asc := ok.asc
  kr := by
    show (W.keeps.set p _).length = (W.renews.set p _).length
    rw [List.length_set, List.length_set]
    exact ok.kr
  four := by
    show (W.keeps.set p _).length ≤ 4
    rw [List.length_set]
    exact ok.four
  ka := fun l hl => by
    rcases set_mem hl with rfl | hl
    · have hlt : p < W.keeps.length := by
        have := (List.getElem?_eq_some_iff.mp hp).1
        have := ok.kr
        omega
      have hk : W.keeps[p]? = some W.keeps[p] := List.getElem?_eq_getElem hlt
      have ka := ok.ka _ (List.mem_of_getElem? hk)
      have nk : n ∉ W.keeps[p] := fun z => ok.dj p _ r hk hp n z hn
      have nd : (moreK W p n).Nodup := (moreK_perm W p n).nodup_iff.mpr (by
        rw [List.getD_eq_getElem?_getD, hk]
        exact List.nodup_append.mpr ⟨ka.1.imp fun {a b} h e => by omega, by simp, fun x hx y hy e => by
          rw [List.mem_singleton.mp hy] at e
          rw [e] at hx
          exact nk hx⟩)
      refine ⟨((moreK_le W p n).and nd).imp fun {a b} h => by have := h.1; have := h.2; omega, fun x hx => ?_⟩
      have := (moreK_perm W p n).mem_iff.mp hx
      rw [List.getD_eq_getElem?_getD, hk] at this
      rcases List.mem_append.mp this with h | h
      · exact ka.2 x h
      · rw [List.mem_singleton.mp h]
        exact (ok.ra r (List.mem_of_getElem? hp)).2 n hn
    · exact ok.ka l hl
  ra := fun l hl => by
    rcases set_mem hl with rfl | hl
    · unfold lessR
      rw [List.getD_eq_getElem?_getD, hp]
      exact asc_filter (ok.ra r (List.mem_of_getElem? hp)) _
    · exact ok.ra l hl
  dj := fun q k l hk hl x hx hx' => by
    rcases set_get hl with ⟨rfl, rfl, _⟩ | ⟨ne, e⟩
    · obtain ⟨h1, h2⟩ := lessR_sub hp hx'
      rcases set_get hk with ⟨_, rfl, hlt⟩ | ⟨ne, _⟩
      · have := (moreK_perm W q n).mem_iff.mp hx
        rw [List.getD_eq_getElem?_getD, List.getElem?_eq_getElem hlt] at this
        rcases List.mem_append.mp this with h | h
        · exact ok.dj q _ r (List.getElem?_eq_getElem hlt) hp x h h1
        · exact h2 (List.mem_singleton.mp h)
      · exact ne rfl
    · rcases set_get hk with ⟨z, _, _⟩ | ⟨_, e2⟩
      · exact ne z
      · exact ok.dj q k l e2 e x hx hx'
/-- all forms renew each part -/
def plainW (W : Wish) : Wish := { W with keeps := W.keeps.map fun _ => [], renews := W.keeps.map fun _ => List.range W.forms.length }
theorem plain_ok {W : Wish} (ok : WOk W) : WOk (plainW W) where
  f1 := ok.f1
  f5 := ok.f5
  ne := ok.ne
  six := ok.six
  nd := ok.nd
  asc := ok.asc
  kr := by
    show (W.keeps.map _).length = (W.keeps.map _).length
    rw [List.length_map, List.length_map]
  four := by
    show (W.keeps.map _).length ≤ 4
    rw [List.length_map]
    exact ok.four
  ka := fun l hl => by
    obtain ⟨_, _, rfl⟩ := List.mem_map.mp hl
    exact ⟨.nil, fun x hx => by cases hx⟩
  ra := fun l hl => by
    obtain ⟨_, _, rfl⟩ := List.mem_map.mp hl
    exact range_asc0 _
  dj := fun q k l hk hl x hx => by
    obtain ⟨_, _, rfl⟩ := List.mem_map.mp (List.mem_of_getElem? hk)
    cases hx
end WM
set_option Elab.async false
set_option linter.all false
set_option maxRecDepth 100000
/-! DxMore2: an own list read at an index, targets of drawn values, lists of one drawn item. -/
namespace Dx
open PySem L2
section
variable {G : Glob} {K : PySem.W.Frag} {ρ ρ1 ρ2 : List Slot} {P : Post} {te ta tb tl : TE} {tt : TT} {t u : TS} {g : TG} {R : Rel}
theorem ev_ixOwn {i j : Nat} {ds : List PyData} {d : PyData} (hi : ρ[i]? = some (.own ds)) (hx : Ev G ta ρ (dI (j : Int))) (h : ds[j]? = some d) : Ev G (tOp (rIx K) (tVar i) ta) ρ (dR d) := fun F H σ E Q q => by
  obtain ⟨p, vs, e, hp, fp, hd⟩ := E.at_ i _ hi
  refine ⟨.ref p, e, hx F H σ E _ fun F1 H1 v g1 E1 hv => ?_⟩
  cases hv
  obtain ⟨p', vs', e', hp', fp', hd'⟩ := E1.at_ i _ hi
  rw [e] at e'
  cases e'
  obtain ⟨w, k1, k2⟩ := hd'.get h
  exact .inl ⟨p, vs', _, w, rfl, rfl, SqL.of hp', atI_nat k1, q F1 H1 w g1 E1 k2⟩
theorem sv_asgEx {α : Sort _} {Rs : α → Rel} (h : Ev G te ρ (rEx Rs)) (hn : ∀ x, ∃ ρ1 is, TgOk G g (Rs x) ρ ρ1 is ∧ P.nx ρ1) : Sv G (tAsg te g) ρ P := fun Y F H σ S D k =>
  h F H σ S.env _ fun F1 H1 v g1 E1 ⟨x, hv⟩ => by
    obtain ⟨ρ1, is, hg, hn⟩ := hn x
    exact hg F1 H1 σ v E1 hv _ fun σ' E2 l2 k2 m2 => k.nx ρ1 F1 H1 σ' hn ((S.step g1 E1).tg E2 k2 m2)
theorem ev_lst1Ex {α : Sort _} {d : α → PyData} (h : Ev G ta ρ (rEx fun x => dR (d x))) : Ev G (tLst (tCons ta tNil)) ρ (rEx fun x => dR (.list [d x])) :=
  (ev_lst (ea_cons h ea_nil) (by simp)).le fun F v ⟨a, vs, e, h1, h2⟩ => by
    cases h2 with
    | cons q h2 =>
      cases h2
      obtain ⟨x, q⟩ := q
      subst e
      exact ⟨x, .lst h1 (.cons q .nil)⟩
/-- a statement behind a value that is drawn -/
theorem sv_setEx {α : Sort _} {Rs : α → Rel} {i : Nat} (h : Ev G te ρ (rEx Rs)) (hn : ∀ x, P.nx (ρ.set i (.rel (Rs x)))) : Sv G (tAsg te (gName i)) ρ P := sv_asgEx h fun x => ⟨_, _, tg_name, hn x⟩
theorem sv_ownM {α : Type} {xs : List α} {f : α → PyData} {i : Nat} (h : EvN G te ρ (xs.map fun x => dR (f x))) (hn : P.nx (ρ.set i (.own (xs.map f)))) : Sv G (tAsg te (gName i)) ρ P := sv_own (by rw [List.map_map]; exact h) hn
theorem od_neN {a b : Nat} : OpD (rNeD K) (dR (dN a)) (dR (dN b)) (dB (!decide (a = b))) := by
  have h := od_ne (K := K) (d := dN a) (e := dN b) (sh_int.shaped (n := 0) (by decide)) (sh_int.shaped (n := 0) (by decide))
  rw [eqv_dN] at h
  exact h
/-- sorted(xs), what it is told -/
theorem ev_sortedN {l ms : List Nat} (h : Ev G ta ρ (dR (nL l))) (h64 : l.length < 64) (hp : ms.Perm l) (hs : ms.Pairwise (· ≤ ·)) : Ev G (tCB (rSorted K) (tCons ta tNil)) ρ (dR (nL ms)) := by
  have h' : Ev G ta ρ (dR (.list ((l.map fun (n : Nat) => (n : Int)).map PyData.int))) := by rw [← ints_of_nats]; exact h
  have hs' : (ms.map fun (n : Nat) => (n : Int)).Pairwise (· ≤ ·) := List.pairwise_map.mpr (hs.imp fun {a b} hab => Int.ofNat_le.mpr hab)
  have q := (en_sortedI (K := K) (ms := ms.map fun (n : Nat) => (n : Int)) h' (by rw [List.length_map]; exact h64) fun ms' p1 p2 => (p1.trans (hp.map _).symm).eq_of_pairwise (le := fun a b : Int => a ≤ b) (fun a b _ _ x y => Int.le_antisymm x y) p2 hs').ev
  refine q.le ?_
  have e : ((ms.map fun (n : Nat) => (n : Int)).map fun i => dI i) = (ms.map dN).map dR := by
    rw [List.map_map, List.map_map]
    rfl
  rw [e]
  exact rLs_data _
theorem pg_unlK {X : Cx} {es : List Expr} {k : Nat} {t : TGs} {n : Nat} {pos : Pos} (hc : X.calm = true) (h : PGs X es t) (hK : X.K = K := by rfl)
    (hn : (assignEach es X.env).length = n := by rfl) (hst : (assignEach es X.env).findIdx? (·.1) = none := by rfl) : PG X (.Tuple es k pos) (gUnl K n t) := by subst hK; exact pg_unl hc h hn hst
/-! ### the script -/
theorem sqL_mono {F F' : Hp} {a : Addr} {xs : List V} (e : Same F F') (h : SqL K F a xs) : SqL K F' a xs := by
  rcases h with (h | ⟨o, h⟩) | h
  · exact .inl (.inl (e _ _ h))
  · exact .inl (.inr ⟨o, e _ _ h⟩)
  · exact .inr h
def rScr (K : PySem.W.Frag) (ns : List Int) : Rel := ⟨fun F v => ∃ a, v = .ref a ∧ SqL K F a (ns.map V.int), fun e ⟨a, h1, h2⟩ => ⟨a, h1, sqL_mono e h2⟩⟩
theorem ev_lenS {ns : List Int} (h : Ev G ta ρ (rScr K ns)) : Ev G (tCB (rLenK K) (tCons ta tNil)) ρ (dI (ns.length : Int)) := by
  refine ev_cb (ea_cons h ea_nil) fun F H vs s hv Q q => ?_
  cases hv with
  | cons h1 h2 =>
    cases h2
    obtain ⟨a, rfl, h1⟩ := h1
    refine ⟨a, _, rfl, .inl (sqL_mono s h1), ?_⟩
    rw [List.length_map]
    exact q F H _ (Gr.refl s) (.int _)
theorem od_ixS {ns : List Int} {i n : Int} (h : atI ns i = some n) : OpD (rIx K) (rScr K ns) (dI i) (dI n) := fun F H x y s ha hb Q q => by
  cases hb
  obtain ⟨a, rfl, ha⟩ := ha
  have e : atI (ns.map V.int) i = some (.int n) := by
    unfold atI at h ⊢
    rw [List.length_map]
    cases k : ixN ns.length i with
    | none => rw [k] at h; cases h
    | some j =>
      rw [k] at h
      show (ns.map V.int)[j]? = _
      have h : ns[j]? = some n := h
      rw [List.getElem?_map, h]
      rfl
  exact .inl ⟨_, _, i, _, rfl, rfl, sqL_mono s ha, e, q F H _ (Gr.refl s) (.int _)⟩
theorem ev_sliceS {tl th : TO} {ns : List Int} {lo hi : Option Int} (h : Ev G te ρ (rScr K ns)) (h1 : EvO G tl ρ lo) (h2 : EvO G th ρ hi) : Ev G (tSl (rSlice K) te tl th) ρ (dR (.list (cutD (ns.map .int) lo hi))) := fun F H σ E Q q =>
  h F H σ E _ fun F1 H1 v g1 E1 hv => h1 F1 H1 σ E1 _ fun F2 H2 g2 E2 => h2 F2 H2 σ E2 _ fun F3 H3 g3 E3 => by
    obtain ⟨a, rfl, hv⟩ := hv
    refine .inl ⟨_, _, rfl, sqL_mono ((g2.fe.trans g3.fe).trans E3.sub) hv, fun p hp => ?_⟩
    obtain ⟨g, k⟩ := new_lst E3.sub hp ((DqAll.ints (F := F3) ns).cut lo hi)
    exact q _ _ _ (((g1.trans g2).trans g3).trans g.of0) (E3.grow0 g) k
/-- statements begun in the midst of a body -/
theorem sv_run {F H : Hp} {τ : St} {Q : VK} (E : EnvOk G ρ F H τ) (no : ∀ (j : Nat) (ds : List PyData), ρ[j]? ≠ some (.own ds)) (h : Sv G t ρ (Post.ret R)) (q : ∀ F' H' v, R.p F' v → Q v H') : t { nx := fun _ H' => Q .non H', rt := Q } τ H := by
  refine h ⟨ρ, τ, F, H⟩ F H τ ⟨E, Gr.refl E.sub, E, fun j sh p h1 h2 => ?_, no, fun i ds p h1 _ => absurd h1 (no i ds), fun i sh p h1 h2 => .inr ⟨i, h1, h2⟩⟩ _
    ⟨fun ρ' F' H' σ' e S => q F' H' .non (e _ _ .non), fun ρ' F' H' σ' v R' e S hv => q F' H' v (e _ _ hv), fun _ _ _ _ z _ => z.elim, fun _ _ _ _ z _ => z.elim⟩
  obtain ⟨p', o, e, hp, _⟩ := E.at_ j _ h1
  rw [h2] at e
  cases e
  show H p ≠ none
  rw [hp]; exact fun z => by cases z
end
end Dx
set_option Elab.async false
set_option linter.all false
set_option maxRecDepth 100000
/-! DxEnd: the end of a row: facts of the defs, a table of code objects of one def. -/
namespace Dx
open PySem PySem.Spec PyProof.Rows L2
section
variable {K : PySem.W.Frag} {h : Heap} {mg : Str → Option Value}
theorem tabIn_of {x : Str} {f c P : Addr} {oc e ct : Value} {od dd an : Option Addr} {kV dc pm : Value} {sl sl2 : Array (Option Value)} {st : Stmt} {vs : Array Value} (a : PySem.W.nsIn K mainGlobals x = some (some (.ref f)))
    (l : K.lookup f = some ⟨oc, od, .func (PySem.W.fnOf x x (defArgs st) (defBody st) (defScope st) .none kV dc pm an (.ref c) ct), sl⟩) (lc : K.lookup c = some ⟨e, dd, .fields vs, sl2⟩) (hv : vs[11]? = some (.ref P)) : PySem.W.tabIn K x = some (c, P) := by
  unfold PySem.W.tabIn
  rw [a]
  dsimp only
  rw [l]
  dsimp only
  rw [lc]
  dsimp only
  rw [hv]
/-- a def where the top has left it -/
theorem df_mk (X : K.In h) (G : h.Ns mainGlobals mg) {x : Str} {st : Stmt} {ps : List Str} {f : Addr} {oc cd ct kV dc pm : Value} {od an : Option Addr} {sl : Array (Option Value)} (a : PySem.W.nsIn K mainGlobals x = some (some (.ref f)))
    (l : K.lookup f = some ⟨oc, od, .func (PySem.W.fnOf x x (defArgs st) (defBody st) (defScope st) .none kV dc pm an cd ct), sl⟩) (c : PySem.W.codeIn K cd x = true) (k : PySem.W.keepIn K (.ref f) = true)
    (b : ∀ (kV doc pm : Value) (an : Option Addr) (cdv ct : Value) (us : List Value), us.length = ps.length → bindArgs (PySem.W.fnOf x x (defArgs st) (defBody st) (defScope st) .none kV doc pm an cdv ct) ⟨us, []⟩ = pure (ps.zip us)) : Df K mg x st ps := by
  have F := fun_mk (st := st) l c k
  exact ⟨f, _, F, PySem.W.mg_of X G a, F.binds b⟩
theorem dfC_mk (X : K.In h) (G : h.Ns mainGlobals mg) {x : Str} {st : Stmt} {ps : List Str} {f q : Addr} {oc ct kV dc pm : Value} {od an : Option Addr} {sl : Array (Option Value)} (a : PySem.W.nsIn K mainGlobals x = some (some (.ref f)))
    (l : K.lookup f = some ⟨oc, od, .func (PySem.W.fnOf x x (defArgs st) (defBody st) (defScope st) .none kV dc pm an (.ref q) ct), sl⟩) (c : PySem.W.codeIn K (.ref q) x = true) (k : PySem.W.keepIn K (.ref f) = true)
    (b : ∀ (kV doc pm : Value) (an : Option Addr) (cdv ct : Value) (us : List Value), us.length = ps.length → bindArgs (PySem.W.fnOf x x (defArgs st) (defBody st) (defScope st) .none kV doc pm an cdv ct) ⟨us, []⟩ = pure (ps.zip us)) : DfC K mg x st ps q := by
  have F := fun_mk (st := st) l c k
  exact ⟨⟨f, oc, od, kV, dc, pm, an, ct, sl, l, c, k, PySem.W.mg_of X G a, F.binds b⟩⟩
theorem dfM_mk {C : Addr} {m qual : Str} {st : Stmt} {ps : List Str} {f : Addr} {oc cd ct kV dc pm : Value} {od an : Option Addr} {sl : Array (Option Value)} (a : PySem.W.findIn K (.ref C) m = some (some (.ref f))) (i : PySem.W.isFn K (.ref f) = true)
    (l : K.lookup f = some ⟨oc, od, .func (PySem.W.fnOf m qual (defArgs st) (defBody st) (defScope st) .none kV dc pm an cd ct), sl⟩) (c : PySem.W.codeIn K cd qual = true) (k : PySem.W.keepIn K (.ref f) = true)
    (b : ∀ (kV doc pm : Value) (an : Option Addr) (cdv ct : Value) (us : List Value), us.length = ps.length → bindArgs (PySem.W.fnOf m qual (defArgs st) (defBody st) (defScope st) .none kV doc pm an cdv ct) ⟨us, []⟩ = pure (ps.zip us)) : DfM K C m qual st ps := by
  have F := fun_mk (st := st) l c k
  exact ⟨f, _, F, ⟨a, i, k⟩, F.binds b⟩
theorem dfI_mk {C : Addr} {qual : Str} {st : Stmt} {ps : List Str} {f : Addr} {oc cd ct kV dc pm : Value} {od an : Option Addr} {sl : Array (Option Value)} (a : PySem.W.findIn K (.ref C) "__init__" = some (some (.ref f))) (i : PySem.W.isFn K (.ref f) = true)
    (l : K.lookup f = some ⟨oc, od, .func (PySem.W.fnOf "__init__" qual (defArgs st) (defBody st) (defScope st) .none kV dc pm an cd ct), sl⟩) (c : PySem.W.codeIn K cd qual = true) (k : PySem.W.keepIn K (.ref f) = true)
    (mk : PySem.W.makesIn K C = true) (kc : PySem.W.keepIn K (.ref C) = true)
    (b : ∀ (kV doc pm : Value) (an : Option Addr) (cdv ct : Value) (us : List Value), us.length = ps.length → bindArgs (PySem.W.fnOf "__init__" qual (defArgs st) (defBody st) (defScope st) .none kV doc pm an cdv ct) ⟨us, []⟩ = pure (ps.zip us)) : DfI K C qual st ps := by
  have F := fun_mk (st := st) l c k
  exact ⟨f, _, F, ⟨mk, a, i, kc⟩, F.binds b⟩
end
/-- the law's promise, the code object and the table of one def told -/
def LawDef (l : PySem.W.OpenLaw) (w : World) (K : PySem.W.Frag) (x0 : Str) (k : Nat) (x : Str) (mg : Str → Option Value) (fa : Addr) : Prop :=
  ∃ (fd : FuncData) (c P : Addr) (sp : Sp), PySem.W.tabIn K x0 = some (c, P) ∧ K.lookup P = none ∧ (∀ (s : Shared) (u : Value), BindsTo s fd ⟨[u], []⟩ [(x, u)]) ∧
    (∀ (H : Hp) (a : Addr) (ns : List Int), H P = some (.tbl #[]) → SqL K H a (ns.map V.int) → sp [.ref a] H (fun v _ => v = .bl true) fun _ _ _ => False) ∧
    ∀ base : Heap, K.In base → base.Ns mainGlobals mg → LamX.TabB base mg c P → FnOk l.prog w K mg base CX0 k fa fd [x] sp
theorem walk_def {l : PySem.W.OpenLaw} {n k : Nat} {q : Program} {loose : List Str} {XP : (Str → Option Value) → Heap → Prop} {YP : World → Heap → Prop} {d d0 : DefRec} {K : Params → PySem.W.Frag} {x x0 : Str}
    (hn : l.most = some n) (hn2 : n ≤ sizeLine) (hdf : d.params.defaults = []) (hr : Room k callerA) (hrec : (recsOf q).find? (fun e => e.name == x0) = some d0) (hY : ∀ (w : World) (h : Heap), YP w h → (K w.params).In h)
    (F : ∀ (w : World) (mg : Str → Option Value) (fa : Addr) (h : Heap), (K w.params).In h → h.Ns mainGlobals mg → mg d.name = some (.ref fa) → LawDef l w (K w.params) x0 k x mg fa) :
    PySem.W.WalkO q loose XP YP l.row.toRowW d [] (fun f vs => PySem.call f vs) := by
  refine Att.attach_callB hn hdf fun w s₀ s₁ mg mb fa o pm cd doc a vs ns G Y ho hd hcd hmg hobj hints hlen hbits hg => ?_
  have KX := hY w _ Y
  obtain ⟨fd, c, P, sp, ht, nT, hb, hsp, hF⟩ := F w mg fa _ KX G.T.g hmg
  obtain ⟨hC, hP⟩ := PySem.W.tab_of G.T KX hrec ht
  have one : ∀ {R : Addr × Addr → Prop}, R (c, P) → ∀ p ∈ [(c, P)], R p := fun h p hp => by rw [List.mem_singleton.mp hp]; exact h
  exact LamX.law_callTs (cs := [(c, P)]) KX G.T.g G.T.b G.T.builtins G.T.nolimit hg (one hP) (one nT) (one hC) G.T.bmain hobj hints (Nat.le_trans hlen hn2) hr
    (fun base h1 h2 h3 => hF base h1 h2 (h3 (c, P) List.mem_cons_self)) hb (fun H hH hS => hsp H a ns (hH (c, P) List.mem_cons_self) hS) fun H e s' z => z
end Dx
set_option Elab.async false
set_option linter.all false
set_option maxRecDepth 100000
/-! WMath7: what is due and what is shown behind saves. -/
namespace WM
open PySem Dx
theorem filter_any {α : Type} (p : α → Bool) (f : α → PyData) (l : List α) : (!((l.filter p).map f).isEmpty) = l.any p := by
  rw [List.isEmpty_map]
  cases h : l.any p with
  | true =>
    obtain ⟨x, hx, hp⟩ := List.any_eq_true.mp h
    have : x ∈ l.filter p := List.mem_filter.mpr ⟨hx, hp⟩
    cases e : l.filter p with
    | nil => rw [e] at this; cases this
    | cons a r => rfl
  | false =>
    have : l.filter p = [] := List.filter_eq_nil_iff.mpr fun x hx => List.any_eq_false.mp h x hx
    rw [this]
    rfl
theorem filter_none {α : Type} (p : α → Bool) (f : α → PyData) (l : List α) : ((l.filter p).map f).isEmpty = !l.any p := by
  have := filter_any p f l
  cases h : ((l.filter p).map f).isEmpty <;> rw [h] at this <;> rw [← this] <;> rfl
def dueAt (W : Wish) (saved : List Nat) (p : Nat) : Str := if (saved.any fun n => decide (n ∈ W.renews.getD p [])) = true then "default" else if (saved.any fun n => !decide (n ∈ W.keeps.getD p [])) = true then "either" else "detail"
def dueM (W : Wish) (saved : List Nat) : List Str := (List.range W.keeps.length).map (dueAt W saved)
def shownB (W : Wish) (spare saved : List Nat) (p : Nat) : Bool := saved.any fun n => (outM W p n).any fun f => decide (f ∈ spare)
def shownAt (W : Wish) (spare saved : List Nat) (p : Nat) : Str := if shownB W spare saved p = true then "default" else "detail"
def shownM (W : Wish) (spare saved : List Nat) : List Str := (List.range W.keeps.length).map (shownAt W spare saved)
/-- the law's own reading -/
def backM (W : Wish) (spare saved : List Nat) : List Nat := spare.filter fun f => saved.any fun n => decide (f ∈ W.forms.getD n [])
def readB (W : Wish) (back : List Nat) (p : Nat) : Bool := back.any fun f => !decide (f ∈ covM W (W.keeps.getD p []))
def readAt (W : Wish) (back : List Nat) (p : Nat) : Str := if readB W back p = true then "default" else "detail"
def readM (W : Wish) (back : List Nat) : List Str := (List.range W.keeps.length).map (readAt W back)
theorem out_mem {W : Wish} {p n f : Nat} : f ∈ outM W p n ↔ f ∈ W.forms.getD n [] ∧ f ∉ covM W (W.keeps.getD p []) := by
  unfold outM
  rw [List.mem_filter]
  simp
theorem shown_read (W : Wish) (spare saved : List Nat) (p : Nat) : shownB W spare saved p = readB W (backM W spare saved) p := by
  rw [Bool.eq_iff_iff]
  unfold shownB readB backM
  simp only [List.any_eq_true, decide_eq_true_eq, Bool.not_eq_true', decide_eq_false_iff_not, List.mem_filter]
  refine ⟨fun ⟨n, hn, f, hf, hs⟩ => ?_, fun ⟨f, ⟨hs, n, hn, hf⟩, hc⟩ => ?_⟩
  · obtain ⟨h1, h2⟩ := out_mem.mp hf
    exact ⟨f, ⟨hs, n, hn, h1⟩, h2⟩
  · exact ⟨n, hn, f, out_mem.mpr ⟨hf, hc⟩, hs⟩
theorem shown_reads (W : Wish) (spare saved : List Nat) : shownM W spare saved = readM W (backM W spare saved) := by
  unfold shownM readM shownAt readAt
  exact List.map_congr_left fun p _ => by rw [shown_read]
/-- spare fields that serve show what is due -/
theorem serves {W : Wish} (ok : WOk W) {spare saved : List Nat} (hs : ∀ n, n ∈ saved → n < W.forms.length) (fit : fitsB (needsM W) spare = true) {p : Nat} (hp : p < W.keeps.length) (h : dueAt W saved p ≠ "either") : dueAt W saved p = shownAt W spare saved p := by
  have hk : W.keeps[p]? = some W.keeps[p] := List.getElem?_eq_getElem hp
  have hr : W.renews[p]? = some (W.renews[p]'(by rw [← ok.kr]; exact hp)) := List.getElem?_eq_getElem _
  unfold dueAt at h ⊢
  unfold shownAt
  rw [List.getD_eq_getElem?_getD, List.getD_eq_getElem?_getD, hk, hr] at h ⊢
  by_cases c1 : (saved.any fun n => decide (n ∈ W.renews[p]'(by rw [← ok.kr]; exact hp))) = true
  · have c1' : (saved.any fun n => decide (n ∈ (some (W.renews[p]'(by rw [← ok.kr]; exact hp))).getD [])) = true := c1
    rw [if_pos c1']
    obtain ⟨n, hn, hd⟩ := List.any_eq_true.mp c1
    obtain ⟨f, h1, h2⟩ := fits_iff.mp fit _ (mem_needs hr (of_decide_eq_true hd))
    have : shownB W spare saved p = true := List.any_eq_true.mpr ⟨n, hn, List.any_eq_true.mpr ⟨f, h1, decide_eq_true h2⟩⟩
    rw [if_pos this]
  · have c1' : ¬ (saved.any fun n => decide (n ∈ (some (W.renews[p]'(by rw [← ok.kr]; exact hp))).getD [])) = true := c1
    rw [if_neg c1'] at h ⊢
    by_cases c2 : (saved.any fun n => !decide (n ∈ W.keeps[p])) = true
    · have c2' : (saved.any fun n => !decide (n ∈ (some W.keeps[p]).getD [])) = true := c2
      rw [if_pos c2'] at h
      exact absurd rfl h
    · have c2' : ¬ (saved.any fun n => !decide (n ∈ (some W.keeps[p]).getD [])) = true := c2
      rw [if_neg c2']
      have : ¬ shownB W spare saved p = true := fun z => by
        obtain ⟨n, hn, hz⟩ := List.any_eq_true.mp z
        obtain ⟨f, hf, _⟩ := List.any_eq_true.mp hz
        obtain ⟨h1, h2⟩ := out_mem.mp hf
        refine h2 (List.mem_flatten.mpr ⟨W.forms.getD n [], List.mem_map.mpr ⟨n, ?_, rfl⟩, h1⟩)
        rw [List.getD_eq_getElem?_getD, hk]
        have q := List.any_eq_false.mp (Bool.eq_false_iff.mpr c2) n hn
        simpa using q
      rw [if_neg this]
/-- the least need without a spare field -/
theorem miss_some {needs : List Need} {sp : List Nat} {p n : Nat} (h : missedM needs sp = some (p, n)) : ∃ m, m ∈ needs ∧ m.1 = p ∧ m.2.1 = n ∧ ∀ f, f ∈ m.2.2 → f ∉ sp := by
  unfold missedM at h
  cases e : needs.find? (missB sp) with
  | none => rw [e] at h; cases h
  | some m =>
    rw [e] at h
    have h : (m.1, m.2.1) = (p, n) := Option.some.inj h
    have hb := List.find?_some e
    unfold missB at hb
    refine ⟨m, List.mem_of_find?_eq_some e, congrArg Prod.fst h, congrArg Prod.snd h, fun f hf z => ?_⟩
    have : f ∈ m.2.2.filter fun f => decide (f ∈ sp) := List.mem_filter.mpr ⟨hf, decide_eq_true z⟩
    rw [List.isEmpty_iff.mp hb] at this
    cases this
/-- the two courses: part, keeping forms, and the need's form -/
structure Course (W : Wish) (sp : List Nat) (p n : Nat) where
  hp : p < W.keeps.length
  k : List Nat
  r : List Nat
  hk : W.keeps[p]? = some k
  hr : W.renews[p]? = some r
  hn : n ∈ r
  ha : Asc W.forms.length k
  hl : n < W.forms.length
  free : ∀ f, f ∈ outM W p n → f ∉ sp
theorem course_of {W : Wish} (ok : WOk W) {sp : List Nat} {p n : Nat} (h : missedM (needsM W) sp = some (p, n)) : Nonempty (Course W sp p n) := by
  obtain ⟨m, hm, rfl, rfl, hf⟩ := miss_some h
  obtain ⟨r, h1, h2, h3⟩ := needs_at hm
  have hp : m.1 < W.keeps.length := by
    have := (List.getElem?_eq_some_iff.mp h1).1
    have := ok.kr
    omega
  exact ⟨⟨hp, W.keeps[m.1], r, List.getElem?_eq_getElem hp, h1, h2, ok.ka _ (List.getElem_mem hp), (ok.ra r (List.mem_of_getElem? h1)).2 _ h2, fun f hf' => hf f (h3 ▸ hf')⟩⟩
theorem course_back {W : Wish} {sp : List Nat} {p n : Nat} (c : Course W sp p n) : backM W sp c.k = backM W sp (n :: c.k) := by
  unfold backM
  refine List.filter_congr fun f hf => ?_
  rw [List.any_cons, Bool.eq_iff_iff]
  simp only [Bool.or_eq_true, decide_eq_true_eq]
  refine ⟨.inr, fun h => ?_⟩
  rcases h with h | h
  · by_cases q : f ∈ covM W c.k
    · obtain ⟨l, hl, h1⟩ := List.mem_flatten.mp q
      obtain ⟨k, hk, rfl⟩ := List.mem_map.mp hl
      exact List.any_eq_true.mpr ⟨k, hk, decide_eq_true h1⟩
    · refine absurd hf (c.free f (out_mem.mpr ⟨h, ?_⟩))
      rw [List.getD_eq_getElem?_getD, c.hk]
      exact q
  · exact h
theorem course_due1 {W : Wish} (ok : WOk W) {sp : List Nat} {p n : Nat} (c : Course W sp p n) : dueAt W c.k p = "detail" := by
  unfold dueAt
  rw [List.getD_eq_getElem?_getD, List.getD_eq_getElem?_getD, c.hk, c.hr]
  have c1 : ¬ (c.k.any fun n => decide (n ∈ (some c.r).getD [])) = true := fun z => by
    obtain ⟨x, hx, hd⟩ := List.any_eq_true.mp z
    exact ok.dj p c.k c.r c.hk c.hr x hx (of_decide_eq_true hd)
  have c2 : ¬ (c.k.any fun n => !decide (n ∈ (some c.k).getD [])) = true := fun z => by
    obtain ⟨x, hx, hd⟩ := List.any_eq_true.mp z
    have hx' : x ∈ (some c.k).getD [] := hx
    rw [decide_eq_true hx'] at hd
    cases hd
  rw [if_neg c1, if_neg c2]
theorem course_due2 {W : Wish} {sp : List Nat} {p n : Nat} (c : Course W sp p n) : dueAt W (n :: c.k) p = "default" := by
  unfold dueAt
  rw [List.getD_eq_getElem?_getD, c.hr]
  have : ((n :: c.k).any fun n => decide (n ∈ (some c.r).getD [])) = true := List.any_eq_true.mpr ⟨n, List.mem_cons_self, decide_eq_true (show n ∈ c.r from c.hn)⟩
  rw [if_pos this]
theorem due_at {W : Wish} {saved : List Nat} {p : Nat} (hp : p < W.keeps.length) : (dueM W saved)[p]? = some (dueAt W saved p) := by
  unfold dueM
  rw [List.getElem?_map, List.getElem?_range hp]
  rfl
theorem shown_at {W : Wish} {spare saved : List Nat} {p : Nat} (hp : p < W.keeps.length) : (shownM W spare saved)[p]? = some (shownAt W spare saved p) := by
  unfold shownM
  rw [List.getElem?_map, List.getElem?_range hp]
  rfl
/-- one spare field less serves no more -/
theorem less_misses {W : Wish} (ok : WOk W) (full : Full (needsM W)) {i : Nat} (hi : i < (spareM W.fields (needsM W)).length) : ∃ p n, missedM (needsM W) ((spareM W.fields (needsM W)).take i ++ (spareM W.fields (needsM W)).drop (i + 1)) = some (p, n) := by
  have nok : NOk W.fields (needsM W) := fun n hn => needs_asc ok hn
  obtain ⟨sA, sF, sN⟩ := spare_ok nok full
  cases e : missedM (needsM W) ((spareM W.fields (needsM W)).take i ++ (spareM W.fields (needsM W)).drop (i + 1)) with
  | some q => exact ⟨q.1, q.2, rfl⟩
  | none =>
    exfalso
    have fit : fitsB (needsM W) ((spareM W.fields (needsM W)).take i ++ (spareM W.fields (needsM W)).drop (i + 1)) = true := by
      unfold fitsB
      rw [e]
      rfl
    have sub : ((spareM W.fields (needsM W)).take i ++ (spareM W.fields (needsM W)).drop (i + 1)).Sublist (spareM W.fields (needsM W)) := by
      have h := (List.Sublist.refl ((spareM W.fields (needsM W)).take i)).append ((List.sublist_cons_self (spareM W.fields (needsM W))[i] ((spareM W.fields (needsM W)).drop (i + 1))))
      rw [← List.drop_eq_getElem_cons hi, List.take_append_drop] at h
      exact h
    have asc : Asc W.fields ((spareM W.fields (needsM W)).take i ++ (spareM W.fields (needsM W)).drop (i + 1)) := ⟨List.Pairwise.sublist sub sA.1, fun x hx => sA.2 x (sub.subset hx)⟩
    have := (number_some.mp sN).2 _ asc fit
    rw [List.length_append, List.length_take, List.length_drop] at this
    omega
/-- where a need is empty no fields serve -/
theorem empty_misses {W : Wish} (ok : WOk W) {n0 : Need} (h : (needsM W).find? (fun n => n.2.2.isEmpty) = some n0) : missedM (needsM W) (List.range W.fields) = some (n0.1, n0.2.1) := by
  have e : (needsM W).find? (missB (List.range W.fields)) = (needsM W).find? fun n => n.2.2.isEmpty := by
    have : ∀ l : List Need, (∀ n, n ∈ l → n ∈ needsM W) → l.find? (missB (List.range W.fields)) = l.find? fun n => n.2.2.isEmpty := fun l => by
      induction l with
      | nil => intro _; rfl
      | cons a r ih =>
        intro hl
        have ha : missB (List.range W.fields) a = a.2.2.isEmpty := by
          unfold missB
          have : a.2.2.filter (fun f => decide (f ∈ List.range W.fields)) = a.2.2 := List.filter_eq_self.mpr fun f hf => decide_eq_true (List.mem_range.mpr ((needs_asc ok (hl a List.mem_cons_self)).2 f hf))
          rw [this]
        rw [List.find?_cons, List.find?_cons, ha, ih fun n hn => hl n (List.mem_cons_of_mem _ hn)]
    exact this _ fun _ h => h
  unfold missedM
  rw [e, h]
  rfl
end WM
set_option Elab.async false
set_option linter.all false
set_option maxRecDepth 100000
/-! DxMore3: an own list made longer by +, drawn items appended, comprehensions over a drawn range. -/
namespace Dx
open PySem L2
section
variable {G : Glob} {K : PySem.W.Frag} {ρ ρ1 ρ2 : List Slot} {P : Post} {te ta tb tl : TE} {tt : TT} {t u : TS} {g : TG} {R : Rel}
theorem en_lst1 {a : PyData} (h1 : Ev G ta ρ (dR a)) : EvN G (tLst (tCons ta tNil)) ρ ([a].map dR) := en_lst (ea_cons h1 ea_nil) (by simp)
theorem en_plusOwn {i : Nat} {ds es : List PyData} (hi : ρ[i]? = some (.own ds)) (h : Ev G tb ρ (dR (.list es))) (hz : ds.length + es.length ≤ 1000) : EvN G (tOp (rPlus K) (tVar i) tb) ρ ((ds ++ es).map dR) := fun F H σ E Q q => by
  obtain ⟨p, vs, e, hp, fp, hd⟩ := E.at_ i _ hi
  refine ⟨.ref p, e, h F H σ E _ fun F1 H1 v g1 E1 hv => ?_⟩
  obtain ⟨p', vs', e', hp', fp', hd'⟩ := E1.at_ i _ hi
  rw [e] at e'
  cases e'
  cases hv with
  | lst k1 k2 =>
    refine .inr (.inl ⟨_, _, _, _, rfl, rfl, hp', E1.sub _ _ k1, by rw [hd'.length, k2.length]; exact Nat.le_of_lt (small1000 hz), fun a ha => ?_⟩)
    obtain ⟨f0, n0, a0, c0⟩ := E1.newNot ha
    refine q F1 _ a _ (g1.trans (Gr.lay E1.sub ha)) (E1.updOther f0 n0 a0 fun φ z => by rw [ha] at z; cases z) (fresh_back g1 ha) upd_same f0 (.of_data (hd'.append k2))
theorem sv_appEx {α : Sort _} {i : Nat} {ds : List PyData} {d : α → PyData} (hi : ρ[i]? = some (.own ds)) (h : Ev G te ρ (rEx fun x => dR (d x))) (hz : ds.length < 1000) (hn : ∀ x, P.nx (ρ.set i (.own (ds ++ [d x])))) : Sv G (tDrop (tBM K "list" rAppend (tVar i) (tCons te tNil))) ρ P := fun Y F H σ S D k => by
  obtain ⟨p, vs, e, hp, fp, hd⟩ := S.env.at_ i _ hi
  refine ⟨.ref p, e, .inl ⟨rfl, vs, SqL.of hp⟩, h F H σ S.env _ fun F1 H1 v g1 E1 ⟨x, hv⟩ => ?_⟩
  obtain ⟨p', vs', e', hp', fp', hd'⟩ := E1.at_ i _ hi
  rw [e] at e'
  cases e'
  exact ⟨p, vs', v, rfl, rfl, hp', small1000 (by rw [hd'.length]; omega), k.nx _ F1 _ σ (hn x) ((S.step g1 E1).change hi e (hd'.append (.cons hv .nil)))⟩
theorem ei_rng (n : Nat) : EvI G (fun _ H R => R (Itr 0 n) H) ρ ((List.range n).map fun (i : Nat) => dI (i : Int)) := fun F H σ E R q => by
  have k := it_range (F := F) (H := H) 0 n
  have e : (List.range n).map (fun (i : Nat) => dI ((0 : Int) + (i : Int))) = (List.range n).map fun (i : Nat) => dI (i : Int) := List.map_congr_left fun i _ => by rw [Int.zero_add]
  rw [e] at k
  exact q F H _ (Gr.refl E.sub) E k
theorem ev_lcR {B : Nat} {vs : List Nat} (h : Ev G ta ρ (rEx fun c : { r : Nat // r < B } => dI (c.1 : Int))) (hB : B ≤ 1000000) (hk : ∀ n, n < B → Ev G (tLc (fun _ H R => R (Itr 0 n) H) g tt te vs) ρ R) : Ev G (tLc (iRng1 (tCons ta tNil)) g tt te vs) ρ R := fun F H σ E Q q =>
  h F H σ E _ fun F1 H1 v g1 E1 ⟨c, hv⟩ => by
    cases hv
    have hc := c.2
    exact ⟨(c.1 : Int), rfl, by omega, by omega, hk c.1 c.2 F1 H1 σ E1 Q fun F' H' v g E' hv => q F' H' v (g1.trans g) E' hv⟩
/-- an iterable that is one of many -/
def EvIx {β : Sort _} (G : Glob) (wi : TI) (ρ : List Slot) (Rss : β → List Rel) : Prop := ∀ (F H : Hp) (σ : St), EnvOk G ρ F H σ → ∀ R : It → Hp → Prop, (∀ b F' H' J, Gr (Ch G ρ σ) F H F' H' → EnvOk G ρ F' H' σ → ItOk J F' H' (Rss b) → R J H') → wi σ H R
theorem it_list {F H : Hp} {a : Addr} {vs : List V} {Rs : List Rel} (ha : F a = some (.lst vs)) (hr : RAll F vs Rs) : ItOk (Itl K a) F H Rs := fun F2 H2 s1 s2 => by
  have hs : SqL K H2 a vs := SqL.of (s2 _ _ (s1 _ _ ha))
  refine ⟨⟨vs, hs, by rw [hr.length]; exact Nat.le_refl _⟩, fun i R hR => ?_⟩
  obtain ⟨x, hx, px⟩ := hr.get hR
  refine ⟨⟨vs, x, hs, hx⟩, fun y H3 hy => ?_⟩
  obtain ⟨e3, hy⟩ := hy
  subst e3
  have e := hy vs hs
  rw [hx] at e
  cases e
  exact ⟨F2, Gr.refl s2, R.mono s1 px⟩
theorem eix_mapL {β : Sort _} {α : Type} {xs : β → List α} {f : α → PyData} (h : Ev G tl ρ (rEx fun b => dR (.list ((xs b).map f)))) : EvIx G (iSeq K tl) ρ fun b => (xs b).map fun x => dR (f x) := fun F H σ E R q =>
  .inl (h F H σ E _ fun F1 H1 v g1 E1 ⟨b, hv⟩ => by
    cases hv with
    | lst k1 k2 =>
      refine ⟨_, rfl, ⟨_, SqL.of (E1.sub _ _ k1)⟩, q b F1 H1 _ g1 E1 (it_list k1 ?_)⟩
      have := RAll.of_data k2
      rw [List.map_map] at this
      exact this)
theorem sv_forX {β : Sort _} {α : Type} {xs : β → List α} {Rx : α → Rel} {wi : TI} {j : Nat} (J : β → Nat → List Slot → Prop) (hi : EvIx G wi ρ fun b => (xs b).map Rx) (h0 : ∀ b, J b 0 ρ)
    (hturn : ∀ (b : β) (i : Nat) (x : α) (ρ1 : List Slot), (xs b)[i]? = some x → J b i ρ1 → Sv G t (ρ1.set j (.rel (Rx x))) { nx := J b (i + 1), rt := P.rt, bk := P.nx, ct := J b (i + 1) })
    (hd : ∀ b ρ1, J b (xs b).length ρ1 → P.nx ρ1) : Sv G (tFor wi (gName j) t) ρ P := fun Y F H σ S D k => hi F H σ S.env _ fun b F1 H1 I g1 E1 hI => by
  have S1 := S.step g1 E1
  refine ⟨fun i m σ' H' => m = (xs b).length - i ∧ i ≤ (xs b).length ∧ ∃ ρ1 F', J b i ρ1 ∧ StOk G { Y with F := F1 } ρ1 F' H' σ', ⟨(xs b).length, by omega, Nat.zero_le _, ρ, F1, h0 b, S1.base⟩, ?_⟩
  rintro i m σ' H' ⟨rfl, hi, ρ1, F', hJ, S2⟩
  obtain ⟨hstop, hgo⟩ := hI F' H' S2.gr.fe S2.env.sub
  rw [List.length_map] at hstop
  by_cases hlt : i < (xs b).length
  · have ex : (xs b)[i]? = some (xs b)[i] := List.getElem?_eq_getElem hlt
    obtain ⟨go, yl⟩ := hgo i (Rx (xs b)[i]) (by rw [List.getElem?_map, ex]; rfl)
    refine .inr ⟨go, fun σ'' H'' => ∃ ρ1 F', J b (i + 1) ρ1 ∧ StOk G { Y with F := F1 } ρ1 F' H'' σ'', fun σ'' H'' h => ⟨(xs b).length - (i + 1), by omega, rfl, hlt, h⟩, fun x H3 hy => ?_⟩
    obtain ⟨F3, g3, hx⟩ := yl x H3 hy
    have S3 := S2.step g3.of0 (S2.env.grow0 g3)
    refine tg_name F3 H3 σ' x S3.env hx _ fun σ4 E4 l4 k4 m4 => ?_
    refine hturn b i (xs b)[i] ρ1 ex hJ _ F3 H3 σ4 (S3.tg E4 k4 m4) _ ⟨fun ρ F H σ z S => ⟨ρ, F, z, S⟩, fun ρ F H σ v R z S hv => k.rt ρ F H σ v R z (S1.unbase S) hv, fun ρ F H σ z S => k.nx ρ F H σ z (S1.unbase S), fun ρ F H σ z S => ⟨ρ, F, z, S⟩⟩
  · have e : i = (xs b).length := by omega
    exact .inl ⟨by rw [e]; exact hstop, k.nx ρ1 F' H' σ' (hd b ρ1 (by rw [← e]; exact hJ)) (S1.unbase S2)⟩
end
end Dx
set_option Elab.async false
set_option linter.all false
set_option maxRecDepth 100000
/-! Ca: is_stretch, missed, picks. -/
namespace K48
open PySem L2 Dx WM
def topS (i : Nat) : Stmt := PySem.Challenge.pw_stillwritten_k48_whole_details_behind_al.main.body.getD i (.Pass ⟨0, 0, 0, 0⟩)
structure Tx (K : PySem.W.Frag) (mg : Str → Option Value) : Prop where
  len_ : mg "len" = none
  range_ : mg "range" = none
  list_ : mg "list" = none
  tuple_ : mg "tuple" = none
  int_ : mg "int" = none
  abs_ : mg "abs" = none
  min_ : mg "min" = none
  max_ : mg "max" = none
  sum_ : mg "sum" = none
  sorted_ : mg "sorted" = none
  set_ : mg "set" = none
  isinstance_ : mg "isinstance" = none
  bool_ : mg "bool" = none
  str_ : mg "str" = none
  g_PARTS : ∃ t, mg "PARTS" = some (.int 4 t)
  g_FIELDS : ∃ t, mg "FIELDS" = some (.int 5 t)
  g_FORMS : ∃ t, mg "FORMS" = some (.int 6 t)
local macro_rules | `(tactic| walk_at "ev") => `(tactic| repeat' (first
  | exact ev_var rfl | exact ev_int | exact ev_bl | exact ev_str | exact ev_non | exact ev_ty
  | exact ea_nil | exact as_nil | exact eo_none
  | exact od_plusI | exact od_minus | exact od_lt | exact od_le | exact od_gt | exact od_ge | exact od_isN | exact od_notN
  | exact od_ixL rfl | exact od_ixT rfl | exact od_ixL (by assumption) | exact od_ixT (by assumption)
  | exact od_inI (.inl rfl) | exact od_inI (.inr rfl) | exact od_niI (.inl rfl) | exact od_niI (.inr rfl)
  | exact ud_neg
  | exact as_mvl rfl as_nil
  | refine' as_mvl rfl ?_
  | refine' as_rel ?_ ?_
  | refine' ea_cons ?_ ?_
  | refine' eo_some ?_
  | refine' et_test ?_ | refine' et_not ?_ | refine' et_B ?_
  | refine' ev_lenL ?_ | refine' ev_lenT ?_
  | refine' ev_sliceL ?_ ?_ ?_ | refine' ev_sliceT ?_ ?_ ?_
  | refine' ev_tupD (ds := [_, _, _, _]) ?_ (by decide) | refine' ev_tupD (ds := [_, _, _]) ?_ (by decide) | refine' ev_tupD (ds := [_, _]) ?_ (by decide) | refine' ev_tupD (ds := [_]) ?_ (by decide) | refine' ev_tupD (ds := []) ?_ (by decide)
  | refine' ev_lstD (ds := [_, _, _, _]) ?_ (by decide) | refine' ev_lstD (ds := [_, _, _]) ?_ (by decide) | refine' ev_lstD (ds := [_, _]) ?_ (by decide) | refine' ev_lstD (ds := [_]) ?_ (by decide) | refine' ev_lstD (ds := []) ?_ (by decide)
  | refine' ev_int1 ?_ | refine' ev_abs ?_ | refine' ev_max2 ?_ ?_ | refine' ev_min2 ?_ ?_ | refine' ev_sum ?_
  | refine' ev_un ?_ ?_ | refine' ev_op ?_ ?_ ?_
  | refine' od_plusL ?_ | refine' od_plusT ?_ | refine' od_eq ?_ ?_ | refine' od_ne ?_ ?_ | refine' od_mul ?_ | refine' od_mod ?_ | refine' od_div ?_ | refine' od_pow ?_
  | refine' ei_seqL ?_ | refine' ei_seqT ?_ | refine' ei_range1 ?_ ?_))

section
variable {P : Program} {w : World} {K : PySem.W.Frag} {mg : Str → Option Value} {base : Heap} {G : Glob}
theorem noOwn {Rs : List Rel} : ∀ (j : Nat) (ds : List PyData), (Rs.map Slot.rel)[j]? ≠ some (.own ds) := fun j ds h => by
  rw [List.getElem?_map] at h
  cases e : Rs[j]? with
  | none => rw [e] at h; cases h
  | some R => rw [e] at h; cases h
/-! ### is_stretch -/
abbrev s_is_stretch : Stmt := topS 16
abbrev N_is_stretch : List Str := ["fields"]
theorem sc_is_stretch : FnScope N_is_stretch ["fields"] (defScope s_is_stretch) := ⟨rfl, rfl, rfl, by decide +kernel, rfl, by decide +kernel, by decide +kernel⟩
def stretchB (fs : List Nat) : Bool := decide ((fs.getLast?.getD 0 : Int) - (fs.head?.getD 0 : Int) = (fs.length : Int) - 1)
def po_stretch : List Slot → Rel → Prop := fun ρ R => ∃ fs : List Nat, fs ≠ [] ∧ ρ = [nL fs].map (fun d => .rel (dR d)) ∧ R = dB (stretchB fs)
theorem ok_stretch (T : Tx K mg) (D : Df K mg "is_stretch" s_is_stretch ["fields"]) : Cal P w K mg base "is_stretch" 1 ["fields"] (spS G po_stretch) := by
  refine cal_df D sc_is_stretch ?_ fun f cdv A outer s H E hr => ⟨_, (pss_one (ps_ret (pe_cmpR (op_eqK (K := K) hr) (pe_op op_sub (pe_ix (ix_seqK (K := K)) (pv 0) (pe_un un_neg pe_int) (fun _ _ => rfl)) (pe_ix (ix_seqK (K := K)) (pv 0) pe_int (fun _ _ => rfl))) (pe_op op_sub (pe_callB (call_lenK (K := K)) (by rfl) T.len_ PySem.boot_len (pa_cons (pv 0) pa_nil)) pe_int) (nomark _)))), ?_⟩
  · rintro ρ R ⟨fs, _, rfl, _⟩
    exact ⟨rfl, noOwn (Rs := [_])⟩
  · rintro ρ R ⟨fs, h0, rfl, rfl⟩
    obtain ⟨x, hx⟩ : ∃ x, fs.getLast? = some x := ⟨_, List.getLast?_eq_getLast h0⟩
    obtain ⟨y, hy⟩ : ∃ y, fs.head? = some y := ⟨_, List.head?_eq_head h0⟩
    have h1 := at_last (f := dN) hx
    have h2 := at_zero (f := dN) hy
    change Sv G _ [.rel (dR (nL fs))] _
    refine sv_ret (R := dB (stretchB fs)) ?_ (Rel.le_refl _)
    refine Ev.to (ev_op (ev_op (ev_op (ev_var rfl) (ev_un ev_int ud_neg) (od_ixL h1)) (ev_op (ev_var rfl) ev_int (od_ixL h2)) od_minus) (ev_op (ev_lenM (ev_var rfl)) ev_int od_minus) (od_eq (sh_int.shaped (n := 0) (by decide)) (sh_int.shaped (n := 0) (by decide)))) ?_
    rw [eqv_int]
    unfold stretchB
    rw [hx, hy]
    rfl
/-! ### missed -/
abbrev s_missed : Stmt := topS 18
abbrev N_missed : List Str := ["needs", "spare", "part", "number", "fields", "field"]
theorem sc_missed : FnScope N_missed ["needs", "spare"] (defScope s_missed) := ⟨rfl, rfl, rfl, by decide +kernel, rfl, by decide +kernel, by decide +kernel⟩
def po_missed : List Slot → Rel → Prop := fun ρ R => ∃ (needs : List Need) (spare : List Nat), (∀ n ∈ needs, n.2.2.length ≤ 1000) ∧ ρ = [PyData.list (needs.map eNeed), nL spare].map (fun d => .rel (dR d)) ∧ R = dR (eMiss (missedM needs spare))
theorem ok_missed (T : Tx K mg) (D : Df K mg "missed" s_missed ["needs", "spare"]) : Cal P w K mg base "missed" 1 ["needs", "spare"] (spS G po_missed) := by
  refine cal_df D sc_missed ?_ fun f cdv A outer s H E hr => ⟨_, (pss_cons (ps_for PassesOwn.never rfl (pi_seqK (K := K) (pv 0)) (pg_tupK (K := K) rfl (pgs_cons (pg_name (i := 2) sc_missed.nd rfl (by first | exact Or.inl rfl | exact Or.inr rfl)) (pgs_cons (pg_name (i := 3) sc_missed.nd rfl (by first | exact Or.inl rfl | exact Or.inr rfl)) (pgs_cons (pg_name (i := 4) sc_missed.nd rfl (by first | exact Or.inl rfl | exact Or.inr rfl)) pgs_nil)))) (pss_one (ps_if (pt_cmpR (op_eqK (K := K) hr) (pe_lc (own := [("field", 5)]) rfl sc_missed.nd (pi_seqK (K := K) (pv 4)) (blkOk_by (by kernel_rfl)) (fun _ _ _ _ _ => (pg_name (i := 5) sc_missed.nd rfl (by first | exact Or.inl rfl | exact Or.inr rfl))) (fun _ _ _ _ _ => (pts_one (pt_cmpR (op_inK (K := K) hr) (pv 5) (pv 1) rfl))) (fun _ _ _ _ _ => (pv 5))) (pe_lst pa_nil) (nomark _)) (pss_one (ps_ret (pe_tup (pa_cons (pv 2) (pa_cons (pv 3) pa_nil))))) pss_nil)))
      (pss_one (ps_ret pe_non))), ?_⟩
  · rintro ρ R ⟨needs, spare, _, rfl, _⟩
    exact ⟨rfl, noOwn (Rs := [_, _])⟩
  · rintro ρ R ⟨needs, spare, hz, rfl, rfl⟩
    change Sv G _ [.rel (dR (.list (needs.map eNeed))), .rel (dR (nL spare)), .un, .un, .un, .un] _
    refine sv_seq (sv_for (xs := needs) (Rx := fun n => dR (eNeed n)) (fun i ρ1 => ∃ s2 s3 s4, ρ1 = [.rel (dR (.list (needs.map eNeed))), .rel (dR (nL spare)), s2, s3, s4, .un] ∧ ∀ n, n ∈ needs.take i → missB spare n = false) (ei_mapL (ev_var rfl)) ⟨_, _, _, rfl, fun n hn => by simp at hn⟩ ?_ ?_)
    · rintro i n ρ1 hx ⟨s2, s3, s4, rfl, hb⟩
      refine ⟨_, _, tg_tup3, ?_⟩
      have hm : n ∈ needs := List.mem_of_getElem? hx
      refine sv_if (b := missB spare n) ?_ (fun hb1 => ?_) (fun hb1 => ?_)
      · refine et_test (Ev.to (ev_op (Rb := dR (.list [])) (ev_lc1 (xs := n.2.2) (Rx := fun f => dR (dN f)) (s0 := .un) (fun f => decide (f ∈ spare)) dN (ei_mapL (ev_var rfl)) (hz n hm) rfl (fun z => z) fun f hf => ⟨?_, fun _ => ev_var rfl⟩) ev_lst0 (od_eq0 (sh_nL _) (by decide))) ?_)
        · exact et_test (ev_op (ev_var rfl) (ev_var rfl) od_inN)
        · unfold missB
          rw [List.isEmpty_map]
      · refine sv_ret (R := dR (.tuple [dN n.1, dN n.2.1])) (ev_tup2 (ev_var rfl) (ev_var rfl)) ?_
        have e : missedM needs spare = some (n.1, n.2.1) := by
          unfold missedM
          have hf : needs.find? (missB spare) = some n := by
            obtain ⟨hl, e⟩ := List.getElem?_eq_some_iff.mp hx
            have hs : needs = needs.take i ++ n :: needs.drop (i + 1) := by
              rw [← e, ← List.drop_eq_getElem_cons hl, List.take_append_drop]
            rw [hs, List.find?_append, List.find?_eq_none.mpr (fun m hm => by rw [hb m hm]; exact Bool.false_ne_true), List.find?_cons, hb1]
            rfl
          rw [hf]
          rfl
        show Rel.le _ _
        rw [e]
        exact Rel.le_refl _
      · refine sv_next ⟨_, _, _, rfl, fun m hm => ?_⟩
        rw [List.take_add_one, hx] at hm
        rcases List.mem_append.mp hm with h | h
        · exact hb m h
        · have : m = n := by simpa using h
          rw [this]; exact hb1
    · rintro ρ1 ⟨s2, s3, s4, rfl, hb⟩
      rw [List.take_length] at hb
      refine sv_ret (R := dR .none) ev_non ?_
      have e : missedM needs spare = none := by
        unfold missedM
        rw [List.find?_eq_none.mpr (fun m hm => by rw [hb m hm]; exact Bool.false_ne_true)]
        rfl
      show Rel.le _ _
      rw [e]
      exact Rel.le_refl _
/-! ### picks -/
abbrev s_picks : Stmt := topS 5
abbrev N_picks : List Str := ["things", "size", "found", "at", "rest"]
theorem sc_picks : FnScope N_picks ["things", "size"] (defScope s_picks) := ⟨rfl, rfl, rfl, by decide +kernel, rfl, by decide +kernel, by decide +kernel⟩
def po_picks (n : Nat) : List Slot → Rel → Prop := fun ρ R => ∃ (ts : List Nat) (k : Nat), ts.length ≤ 9 ∧ k < n ∧ ρ = [nL ts, dN k].map (fun d => .rel (dR d)) ∧ R = dR (.list ((picksM k ts).map nL))
theorem ok_picks (T : Tx K mg) (D : Df K mg "picks" s_picks ["things", "size"]) : ∀ n : Nat, Cal P w K mg base "picks" n ["things", "size"] (spS G (po_picks n))
  | 0 => cal_df0 D fun ρ R ⟨_, _, _, h, _⟩ => absurd h (Nat.not_lt_zero _)
  | n + 1 => by
    have C_picks := ok_picks T D n
    refine cal_df D sc_picks ?_ fun f cdv A outer s H E hr => ⟨_, (pss_cons (ps_if (pt_cmpR (op_eqK (K := K) hr) (pv 1) pe_int (nomark _)) (pss_one (ps_ret (pe_lst (pa_cons (pe_lst pa_nil) pa_nil)))) pss_nil)
      (pss_cons (ps_asg (pe_lst pa_nil) (pg_name (i := 2) sc_picks.nd rfl (by first | exact Or.inl rfl | exact Or.inr rfl)))
      (pss_cons (ps_for PassesOwn.never rfl (pi_range1 (by rfl) T.range_ (pa_cons (pe_callB (call_lenK (K := K)) (by rfl) T.len_ PySem.boot_len (pa_cons (pv 0) pa_nil)) pa_nil)) (pg_name (i := 3) sc_picks.nd rfl (by first | exact Or.inl rfl | exact Or.inr rfl)) (pss_one (ps_for PassesOwn.never rfl (pi_seqK (K := K) (pe_cal C_picks hr (pa_cons (pe_slice (sl_seqK (K := K)) (pv 0) (po_some (pe_op (op_plusK (K := K)) (pv 3) pe_int)) po_none) (pa_cons (pe_op op_sub (pv 1) pe_int) pa_nil)))) (pg_name (i := 4) sc_picks.nd rfl (by first | exact Or.inl rfl | exact Or.inr rfl)) (pss_one (ps_expr (pe_appK (K := K) (pv 2) (pe_op (op_plusK (K := K)) (pe_lst (pa_cons (pe_ix (ix_seqK (K := K)) (pv 0) (pv 3) (fun _ _ => rfl)) pa_nil)) (pv 4))))))))
      (pss_one (ps_ret (pv 2)))))), ?_⟩
    · rintro ρ R ⟨ts, k, _, _, rfl, _⟩
      exact ⟨rfl, noOwn (Rs := [_, _])⟩
    · rintro ρ R ⟨ts, k, h9, hk, rfl, rfl⟩
      change Sv G _ [.rel (dR (nL ts)), .rel (dR (dN k)), .un, .un, .un] _
      refine sv_seq (sv_if (b := decide (k = 0)) ?_ (fun h0 => ?_) fun h0 => ?_)
      · exact et_test (ev_op (ev_var rfl) ev_int (od_eqN (b := 0)))
      · have : k = 0 := of_decide_eq_true h0
        subst this
        refine sv_ret (ev_lst1 ev_lst0) ?_
        show Rel.le _ _
        rw [picksM]
        exact Rel.le_refl _
      · obtain ⟨m, rfl⟩ : ∃ m, k = m + 1 := ⟨k - 1, by have := of_decide_eq_false h0; omega⟩
        have big : ∀ l : List (List Nat), l.length ≤ (picksM (m + 1) ts).length → l.length < 1000 := fun l h => by
          have h1 := picks_len (m + 1) ts
          have h2 : 2 ^ ts.length ≤ 2 ^ 9 := Nat.pow_le_pow_right (by decide) h9
          omega
        refine sv_next (sv_seq (sv_own (ds := []) en_lst0 (sv_seq (sv_for1 (xs := List.range ts.length) (Rx := fun (i : Nat) => dI (i : Int)) (fun i ρ1 => ∃ (found : List (List Nat)) (s3 s4 : Slot), ρ1 = [.rel (dR (nL ts)), .rel (dR (dN (m + 1))), .own (found.map nL), s3, s4] ∧ found ++ picksM (m + 1) (ts.drop i) = picksM (m + 1) ts)
          (ei_range1 (ea_cons (ev_lenM (ev_var rfl)) ea_nil) (by omega)) ⟨[], _, _, rfl, rfl⟩ ?_ ?_))))
        · rintro i x ρ1 hx ⟨found, s3, s4, rfl, hf⟩
          obtain ⟨ex, hi⟩ := range_at hx
          subst ex
          have ht : ts[x]? = some ts[x] := List.getElem?_eq_getElem hi
          have hp := picks_drop m ht
          refine sv_for1 (xs := picksM m (ts.drop (x + 1))) (Rx := fun r => dR (nL r)) (fun j ρ2 => ∃ s4, ρ2 = [.rel (dR (nL ts)), .rel (dR (dN (m + 1))), .own ((found ++ ((picksM m (ts.drop (x + 1))).take j).map (ts[x] :: ·)).map nL), .rel (dI (x : Int)), s4])
            (ei_mapL (ev_call (As := [.rel (dR (nL (ts.drop (x + 1)))), .rel (dR (dN m))]) (as_rel (ev_dropL (ev_var rfl) (ev_op (ev_var rfl) ev_int od_plusI) (by omega)) (as_rel (ev_d (ev_op (ev_var rfl) ev_int od_minus) (by show PyData.int _ = PyData.int _; congr 1; omega)) as_nil))
              ⟨ts.drop (x + 1), m, by rw [List.length_drop]; omega, by omega, rfl, rfl⟩)) ⟨_, by simp; rfl⟩ ?_ ?_
          · rintro j r ρ2 hr2 ⟨s4, rfl⟩
            refine sv_app (d := nL (ts[x] :: r)) rfl (ev_d (ev_op (ev_lst1 (ev_op (ev_var rfl) (ev_var rfl) (od_ixM rfl ht))) (ev_var rfl) (od_plusL (ds := [dN ts[x]]) (by have h1 := picks_mem hr2; rw [List.length_drop] at h1; simp; omega))) rfl) ?_ ⟨.rel (dR (nL r)), ?_⟩
            · rw [List.length_map]
              refine big _ ?_
              rw [← hf, hp]
              simp only [List.length_append, List.length_map]
              have := (List.take_sublist j (picksM m (ts.drop (x + 1)))).length_le
              omega
            · show _ = _
              simp only [List.set]
              rw [List.take_add_one, hr2]
              simp only [List.map_append, List.append_assoc]
              rfl
          · rintro ρ2 ⟨s4, rfl⟩
            refine ⟨_, _, _, by rfl, ?_⟩
            rw [List.take_length, List.append_assoc, ← hp]
            exact hf
        · rintro ρ1 ⟨found, s3, s4, rfl, hf⟩
          rw [List.length_range, List.drop_length] at hf
          have e : found = picksM (m + 1) ts := by rw [← hf]; simp [picksM]
          subst e
          exact sv_freeze (i := 2) rfl (sv_ret (ev_var rfl) (show Rel.le _ _ from Rel.le_refl _))
end
end K48
set_option Elab.async false
set_option linter.all false
set_option maxRecDepth 100000
/-! Cb: the law's purses: _law_draw, _law_taken, _law_subsets. -/
namespace K48
open PySem L2 Dx WM
local macro_rules | `(tactic| walk_at "ev") => `(tactic| repeat' (first
  | exact ev_var rfl | exact ev_int | exact ev_bl | exact ev_str | exact ev_non | exact ev_ty
  | exact ea_nil | exact as_nil | exact eo_none
  | exact od_plusI | exact od_minus | exact od_lt | exact od_le | exact od_gt | exact od_ge | exact od_isN | exact od_notN
  | exact od_ixL rfl | exact od_ixT rfl | exact od_ixL (by assumption) | exact od_ixT (by assumption)
  | exact od_inI (.inl rfl) | exact od_inI (.inr rfl) | exact od_niI (.inl rfl) | exact od_niI (.inr rfl)
  | exact ud_neg
  | exact as_mvl rfl as_nil
  | refine' as_mvl rfl ?_
  | refine' as_rel ?_ ?_
  | refine' ea_cons ?_ ?_
  | refine' eo_some ?_
  | refine' et_test ?_ | refine' et_not ?_ | refine' et_B ?_
  | refine' ev_lenL ?_ | refine' ev_lenT ?_
  | refine' ev_sliceL ?_ ?_ ?_ | refine' ev_sliceT ?_ ?_ ?_
  | refine' ev_tupD (ds := [_, _, _, _]) ?_ (by decide) | refine' ev_tupD (ds := [_, _, _]) ?_ (by decide) | refine' ev_tupD (ds := [_, _]) ?_ (by decide) | refine' ev_tupD (ds := [_]) ?_ (by decide) | refine' ev_tupD (ds := []) ?_ (by decide)
  | refine' ev_lstD (ds := [_, _, _, _]) ?_ (by decide) | refine' ev_lstD (ds := [_, _, _]) ?_ (by decide) | refine' ev_lstD (ds := [_, _]) ?_ (by decide) | refine' ev_lstD (ds := [_]) ?_ (by decide) | refine' ev_lstD (ds := []) ?_ (by decide)
  | refine' ev_int1 ?_ | refine' ev_abs ?_ | refine' ev_max2 ?_ ?_ | refine' ev_min2 ?_ ?_ | refine' ev_sum ?_
  | refine' ev_un ?_ ?_ | refine' ev_op ?_ ?_ ?_
  | refine' od_plusL ?_ | refine' od_plusT ?_ | refine' od_eq ?_ ?_ | refine' od_ne ?_ ?_ | refine' od_mul ?_ | refine' od_mod ?_ | refine' od_div ?_ | refine' od_pow ?_
  | refine' ei_seqL ?_ | refine' ei_seqT ?_ | refine' ei_range1 ?_ ?_))

/-- a purse: a list of three ints -/
def shP (o : HO) : Prop := ∃ a b c : Int, o = .lst [.int a, .int b, .int c]
def Below (n : Nat) : Type := { r : Nat // r < n }
/-- a drawn number below n -/
def rBelow (n : Nat) : Rel := rEx fun r : Below n => dR (dN r.1)
section
variable {P : Program} {w : World} {K : PySem.W.Frag} {mg : Str → Option Value} {base : Heap} {G : Glob}
abbrev s_law_draw : Stmt := topS 23
abbrev N_law_draw : List Str := ["purse", "many", "found"]
theorem sc_law_draw : FnScope N_law_draw ["purse", "many"] (defScope s_law_draw) := ⟨rfl, rfl, rfl, by decide +kernel, rfl, by decide +kernel, by decide +kernel⟩
def po_draw : List Slot → Rel → Prop := fun ρ R => ∃ many : Nat, 0 < many ∧ many < 1000000 ∧ ρ = [.mvl shP, .rel (dR (dN many))] ∧ R = rBelow many
theorem ok_draw (T : Tx K mg) (D : Df K mg "_law_draw" s_law_draw ["purse", "many"]) : Cal P w K mg base "_law_draw" 1 ["purse", "many"] (spS G po_draw) := by
  refine cal_raw D sc_law_draw (fun vs H Q E h => ?_) fun f cdv A outer s H E hr => ⟨_, (pss_cons (ps_if (pt_cmpR op_gt (pe_ix (ix_seqK (K := K)) (pv 0) pe_int (fun _ _ => rfl)) pe_int (nomark _)) (pss_cons (ps_asg (pe_op op_modN (pe_callTy call_int1 (by rfl) T.int_ (by decide +kernel) (pa_cons (pe_ix (ix_seqK (K := K)) (pv 0) pe_int (fun _ _ => rfl)) pa_nil)) (pv 1)) (pg_name (i := 2) sc_law_draw.nd rfl (by first | exact Or.inl rfl | exact Or.inr rfl)))
      (pss_cons (ps_asg (pe_op op_fdivN (pe_ix (ix_seqK (K := K)) (pv 0) pe_int (fun _ _ => rfl)) (pv 1)) (pg_sub (pv 0) pe_int set_list))
      (pss_one (ps_ret (pv 2))))) pss_nil)
      (pss_cons (ps_augS (pv 0) pe_int (pget_listK (K := K)) pe_int ip_add set_list)
      (pss_cons (ps_asg (pe_op op_modN (pe_callTy call_int1 (by rfl) T.int_ (by decide +kernel) (pa_cons (pe_op (op_plusK (K := K)) (pe_op op_mul (pe_ix (ix_seqK (K := K)) (pv 0) pe_int (fun _ _ => rfl)) pe_int) (pe_op op_mul (pe_ix (ix_seqK (K := K)) (pv 0) pe_int (fun _ _ => rfl)) pe_int)) pa_nil)) pe_int) (pg_sub (pv 0) pe_int set_list))
      (pss_one (ps_ret (pe_op op_modN (pe_op op_fdivN (pe_op op_modN (pe_callTy call_int1 (by rfl) T.int_ (by decide +kernel) (pa_cons (pe_op (op_plusK (K := K)) (pe_op op_mul (pe_ix (ix_seqK (K := K)) (pv 0) pe_int (fun _ _ => rfl)) pe_int) (pe_op op_mul (pe_ix (ix_seqK (K := K)) (pv 0) pe_int (fun _ _ => rfl)) pe_int)) pa_nil)) pe_int) pe_int) (pv 1))))))), fun vs Q h => ?_⟩
  · obtain ⟨F, ρ, R, E, ⟨many, _, _, rfl, _⟩, _⟩ := h
    have := E.len
    rw [List.length_map] at this
    exact this
  · obtain ⟨F, ρ, R, E, ⟨many, h0, h1, rfl, rfl⟩, q⟩ := h
    obtain ⟨p, o, e1, hp, fp, ⟨a, b, c, rfl⟩, _⟩ := E.at_ 0 _ rfl
    obtain ⟨v, e2, hv⟩ := E.at_ 1 _ rfl
    obtain ⟨v0, v1, rfl⟩ : ∃ v0 v1, vs = [v0, v1] := by
      have hl := E.len
      rw [List.length_map] at hl
      match vs, hl with
      | [v0, v1], _ => exact ⟨v0, v1, rfl⟩
    have e1' : v0 = .ref p := by simpa using e1
    have e2' : v1 = v := by simpa using e2
    subst e1' e2'
    cases hv
    have nA : ¬ G.A p := (E.mineAt (i := 0) rfl trivial e1).2.2
    have hm : (many : Int) ≠ 0 := by omega
    -- whatever three ints stand there at the end
    have fin : ∀ (a' b' c' : Int) (r : Int), 0 ≤ r → r < many → Q (.int r) (upd H p (.lst [.int a', .int b', .int c'])) := fun a' b' c' r r0 r1 => by
      have mu : MutAt [.mvl shP, .rel (dR (dN many))] ([V.ref p, V.int many].map some) p := ⟨0, shP, rfl, rfl⟩
      refine q F _ _ ⟨fun x o m h => ?_, fun x h => ?_, Same.refl F, fun x o h => ?_, fun x h1 h2 => absurd h1 h2, fun x φ h => by rw [upd_ne (fun z => by rw [z, hp] at h; cases h)]; exact h⟩ ⟨fun x o h => ?_, rfl, fun i s hs => ?_, E.dj, G.mono E.glob (fun x φ h => by rw [upd_ne (fun z => by rw [z, hp] at h; cases h)]; exact h) (fun x hx => upd_ne (fun z => nA (z ▸ hx))), fun x hx => ?_⟩ ⟨⟨r.toNat, by omega⟩, ?_⟩
      · rw [upd_ne (fun z => m (.inl (by rw [z]; exact mu)))]; exact h
      · by_cases z : x = p
        · rw [z, upd_same]; exact fun y => by cases y
        · rw [upd_ne z]; exact h
      · rw [upd_ne (fun z => by rw [z, fp] at h; cases h)]; exact E.sub x o h
      · rw [upd_ne (fun z => by rw [z, fp] at h; cases h)]; exact E.sub x o h
      · match i, hs with
        | 0, hs =>
          cases hs
          exact ⟨p, _, rfl, upd_same, fp, ⟨a', b', c', rfl⟩, fun ps z => by cases z⟩
        | 1, hs =>
          cases hs
          exact ⟨_, rfl, .int _⟩
        | i + 2, hs => simp at hs
      · obtain ⟨k1, ps, k2⟩ := E.tab x hx
        exact ⟨k1, ps, by rw [upd_ne (fun z => nA (by rw [← z]; exact hx))]; exact k2⟩
      · show Dq F (.int r) (.int ((r.toNat : Nat) : Int))
        rw [Int.toNat_of_nonneg r0]
        exact .int _
    have hS : SqL K H p [.int a, .int b, .int c] := SqL.of hp
    have hm2 : (many : Int).natAbs < 1073741824 := by omega
    have fm : ∀ x : Int, 0 ≤ x.fmod many ∧ x.fmod many < many := fun x => ⟨Int.fmod_nonneg_of_pos x (by omega), Int.fmod_lt_of_pos x (by omega)⟩
    refine ⟨.ref p, rfl, .inl ⟨p, _, 0, .int a, rfl, rfl, hS, atI_nat (j := 0) rfl, a, 0, rfl, rfl, _, rfl, ite2 (fun hc => ?_) (fun hc => ?_)⟩⟩
    · refine ⟨.ref p, rfl, .inl ⟨p, _, 0, .int a, rfl, rfl, hS, atI_nat (j := 0) rfl, .inl ⟨a, rfl, .int many, rfl, a, many, rfl, rfl, hm, ?_⟩⟩⟩
      refine ⟨.ref p, rfl, .inl ⟨p, _, 0, .int a, rfl, rfl, hS, atI_nat (j := 0) rfl, .int many, rfl, a, many, rfl, rfl, ⟨hm, hm2⟩, .ref p, rfl, p, _, 0, 0, rfl, rfl, hp, rfl, ?_⟩⟩
      exact ⟨.int (a.fmod many), rfl, fin _ _ _ _ (fm a).1 (fm a).2⟩
    · refine ⟨.ref p, rfl, p, _, 2, .int c, rfl, rfl, hS, rfl, c, 1, rfl, rfl, p, _, 2, 2, rfl, rfl, hp, rfl, ?_⟩
      show tSeq _ _ _ _ (upd H p (.lst [.int a, .int b, .int (c + 1)]))
      have h1 : upd H p (.lst [.int a, .int b, .int (c + 1)]) p = some (.lst [.int a, .int b, .int (c + 1)]) := upd_same
      have hS1 : SqL K (upd H p (.lst [.int a, .int b, .int (c + 1)])) p [.int a, .int b, .int (c + 1)] := SqL.of h1
      have m1 : ∀ x : Int, CMul x 48271 := fun x => .inr (by decide)
      have m2 : ∀ x : Int, CMul x 69621 := fun x => .inr (by decide)
      have m3 : ∀ x : Int, CMul x 16807 := fun x => .inr (by decide)
      have m4 : ∀ x : Int, CMul x 7919 := fun x => .inr (by decide)
      refine ⟨.ref p, rfl, .inl ⟨p, _, 1, .int b, rfl, rfl, hS1, atI_nat (j := 1) rfl, b, 48271, rfl, rfl, m1 b, .ref p, rfl, .inl ⟨p, _, 2, .int (c + 1), rfl, rfl, hS1, atI_nat (j := 2) rfl, c + 1, 69621, rfl, rfl, m2 _,
        .inl ⟨_, _, rfl, rfl, .inl ⟨_, rfl, _, 2147483647, rfl, rfl, (show (2147483647 : Int) ≠ 0 by decide), .ref p, rfl, p, _, 1, 1, rfl, rfl, h1, rfl, ?_⟩⟩⟩⟩⟩
      rw [upd_upd]
      dsimp only [List.set]
      generalize ((b * 48271 + (c + 1) * 69621 : Int).fmod 2147483647) = b2
      have h2 : upd H p (.lst [.int a, .int b2, .int (c + 1)]) p = some (.lst [.int a, .int b2, .int (c + 1)]) := upd_same
      have hS2 : SqL K (upd H p (.lst [.int a, .int b2, .int (c + 1)])) p [.int a, .int b2, .int (c + 1)] := SqL.of h2
      refine ⟨.ref p, rfl, .inl ⟨p, _, 1, .int b2, rfl, rfl, hS2, atI_nat (j := 1) rfl, b2, 16807, rfl, rfl, m3 b2, .ref p, rfl, .inl ⟨p, _, 2, .int (c + 1), rfl, rfl, hS2, atI_nat (j := 2) rfl, c + 1, 7919, rfl, rfl, m4 _,
        .inl ⟨_, _, rfl, rfl, .inl ⟨_, rfl, _, 2147483629, rfl, rfl, (show (2147483629 : Int) ≠ 0 by decide), _, 8, rfl, rfl, ⟨by decide, by decide⟩, .int many, rfl, _, many, rfl, rfl, hm, ?_⟩⟩⟩⟩⟩
      exact fin _ _ _ _ (fm _).1 (fm _).2
/-! ### _law_taken -/
abbrev s_law_taken : Stmt := topS 26
abbrev N_law_taken : List Str := ["purse", "things", "many", "left", "found", "turn", "at"]
theorem sc_law_taken : FnScope N_law_taken ["purse", "things", "many"] (defScope s_law_taken) := ⟨rfl, rfl, rfl, by decide +kernel, rfl, by decide +kernel, by decide +kernel⟩
/-- a choice of so many of the things -/
def Choice (ds : List PyData) (m : Nat) : Type := { fd : List PyData // fd.length = min m ds.length ∧ ∃ left, (fd ++ left).Perm ds }
def rTaken (ds : List PyData) (m : Nat) : Rel := rEx fun c : Choice ds m => dR (.list c.1)
def po_taken : List Slot → Rel → Prop := fun ρ R => ∃ (ds : List PyData) (m : Nat), ds.length ≤ 400 ∧ ρ = [.mvl shP, .rel (dR (.list ds)), .rel (dR (dN m))] ∧ R = rTaken ds m
theorem erase_perm (ds : List PyData) {r : Nat} {d : PyData} (h : ds[r]? = some d) : (d :: (ds.take r ++ ds.drop (r + 1))).Perm ds := by
  obtain ⟨hl, e⟩ := List.getElem?_eq_some_iff.mp h
  have h1 : ds = ds.take r ++ d :: ds.drop (r + 1) := by rw [← e, ← List.drop_eq_getElem_cons hl, List.take_append_drop]
  have h2 : (ds.take r ++ d :: ds.drop (r + 1)).Perm (d :: (ds.take r ++ ds.drop (r + 1))) := List.perm_middle
  rw [← h1] at h2
  exact h2.symm
theorem ok_taken (T : Tx K mg) (C_law_draw : Cal P w K mg base "_law_draw" 1 ["purse", "many"] (spS G po_draw)) (D : Df K mg "_law_taken" s_law_taken ["purse", "things", "many"]) : Cal P w K mg base "_law_taken" 2 ["purse", "things", "many"] (spS G po_taken) := by
  refine cal_df D sc_law_taken ?_ fun f cdv A outer s H E hr => ⟨_, (pss_cons (ps_asg (pe_callTy (call_listK (K := K)) (by rfl) T.list_ (by decide +kernel) (pa_cons (pv 1) pa_nil)) (pg_name (i := 3) sc_law_taken.nd rfl (by first | exact Or.inl rfl | exact Or.inr rfl)))
      (pss_cons (ps_asg (pe_lst pa_nil) (pg_name (i := 4) sc_law_taken.nd rfl (by first | exact Or.inl rfl | exact Or.inr rfl)))
      (pss_cons (ps_for PassesOwn.never rfl (pi_range1 (by rfl) T.range_ (pa_cons (pe_callB (call_min2 rfl) (by rfl) T.min_ (by decide +kernel) (pa_cons (pv 2) (pa_cons (pe_callB (call_lenK (K := K)) (by rfl) T.len_ PySem.boot_len (pa_cons (pv 1) pa_nil)) pa_nil))) pa_nil)) (pg_name (i := 5) sc_law_taken.nd rfl (by first | exact Or.inl rfl | exact Or.inr rfl)) (pss_cons (ps_asg (pe_cal C_law_draw hr (pa_cons (pv 0) (pa_cons (pe_callB (call_lenK (K := K)) (by rfl) T.len_ PySem.boot_len (pa_cons (pv 3) pa_nil)) pa_nil))) (pg_name (i := 6) sc_law_taken.nd rfl (by first | exact Or.inl rfl | exact Or.inr rfl)))
      (pss_cons (ps_expr (pe_appK (K := K) (pv 4) (pe_ix (ix_seqK (K := K)) (pv 3) (pv 6) (fun _ _ => rfl))))
      (pss_one (ps_asg (pe_op (op_plusK (K := K)) (pe_slice (sl_seqK (K := K)) (pv 3) po_none (po_some (pv 6))) (pe_slice (sl_seqK (K := K)) (pv 3) (po_some (pe_op (op_plusK (K := K)) (pv 6) pe_int)) po_none)) (pg_name (i := 3) sc_law_taken.nd rfl (by first | exact Or.inl rfl | exact Or.inr rfl)))))))
      (pss_one (ps_ret (pv 4)))))), ?_⟩
  · rintro ρ R ⟨ds, m, _, rfl, _⟩
    exact ⟨rfl, fun j es h => by match j, h with | 0, h => cases h | 1, h => cases h | 2, h => cases h | j + 3, h => simp at h⟩
  · rintro ρ R ⟨ds, m, h400, rfl, rfl⟩
    change Sv G _ [.mvl shP, .rel (dR (.list ds)), .rel (dR (dN m)), .un, .un, .un, .un] _
    have emin : ∀ a b : Nat, (if (b : Int) < (a : Int) then (b : Int) else (a : Int)) = ((min a b : Nat) : Int) := fun a b => by
      by_cases h : (b : Int) < (a : Int)
      · rw [if_pos h, Nat.min_eq_right (by omega)]
      · rw [if_neg h, Nat.min_eq_left (by omega)]
    refine sv_seq (sv_set (en_list (ev_var rfl) (.inl rfl)).evD (sv_seq (sv_own (ds := []) en_lst0 (sv_seq (sv_for1 (xs := List.range (min m ds.length)) (Rx := fun (i : Nat) => dI (i : Int))
      (fun i ρ1 => ∃ (left fd : List PyData) (s5 s6 : Slot), ρ1 = [.mvl shP, .rel (dR (.list ds)), .rel (dR (dN m)), .rel (dR (.list left)), .own fd, s5, s6] ∧ (fd ++ left).Perm ds ∧ fd.length = i)
      (ei_range1 (ea_cons (Ev.to (ev_min2 (ev_var rfl) (ev_lenL (ev_var rfl))) (by rw [emin])) ea_nil) (by have := Nat.min_le_right m ds.length; omega)) ⟨ds, [], _, _, rfl, List.Perm.refl _, rfl⟩ ?_ ?_)))))
    · rintro i x ρ1 hx ⟨left, fd, s5, s6, rfl, hp, hl⟩
      obtain ⟨ex, hi⟩ := range_at hx
      subst ex
      have hsum := hp.length_eq
      rw [List.length_append] at hsum
      have hlt : x < ds.length := Nat.lt_of_lt_of_le hi (Nat.min_le_right _ _)
      refine sv_seq (sv_set (ev_call (As := [.mvl 0 shP, .rel (dI (left.length : Int))]) (as_mvl rfl (as_rel (ev_lenL (ev_var rfl)) as_nil)) ⟨left.length, by omega, by omega, rfl, rfl⟩) (sv_ex (i := 6) rfl fun r => ?_))
      have hr2 : left[r.1]? = some (left[r.1]'r.2) := List.getElem?_eq_getElem r.2
      refine sv_seq (sv_app (d := left[r.1]'r.2) rfl (ev_op (ev_var rfl) (ev_var rfl) (od_ixL (atI_nat hr2))) (by omega) (sv_set (ev_op (ev_sliceL (ev_var rfl) eo_none (eo_some (ev_var rfl))) (ev_sliceL (ev_var rfl) (eo_some (ev_op (ev_var rfl) ev_int od_plusI)) eo_none) (od_plusL ?_)) ?_))
      · have h1 : ∀ lo hi, (cutD left lo hi).length ≤ left.length := fun lo hi => by
          unfold cutD
          rw [List.length_take, List.length_drop]
          omega
        have h2 := h1 none (some ((r.1 : Nat) : Int))
        have h3 := h1 (some ((r.1 : Nat) + 1 : Int)) none
        omega
      · refine ⟨left.take r.1 ++ left.drop (r.1 + 1), fd ++ [left[r.1]'r.2], .rel (dI (x : Int)), .rel (dR (dN r.1)), ?_, ?_, ?_⟩
        · rw [show (((r.1 : Nat) : Int) + 1) = ((r.1 + 1 : Nat) : Int) by omega, cut_from, cut_to]
          rfl
        · refine List.Perm.trans ?_ hp
          rw [List.append_assoc]
          exact List.Perm.append_left fd (erase_perm left hr2)
        · rw [List.length_append, hl]
          rfl
    · rintro ρ1 ⟨left, fd, s5, s6, rfl, hp, hl⟩
      rw [List.length_range] at hl
      refine sv_freeze (i := 4) rfl (sv_ret (ev_var rfl) ?_)
      show Rel.le _ _
      exact fun F v hv => ⟨⟨fd, hl, left, hp⟩, hv⟩
/-! ### _law_subsets -/
abbrev s_law_subsets : Stmt := topS 27
abbrev N_law_subsets : List Str := ["things", "found", "thing", "one"]
theorem sc_law_subsets : FnScope N_law_subsets ["things"] (defScope s_law_subsets) := ⟨rfl, rfl, rfl, by decide +kernel, rfl, by decide +kernel, by decide +kernel⟩
def po_subsets : List Slot → Rel → Prop := fun ρ R => ∃ n : Nat, n ≤ 8 ∧ ρ = [nL (List.range n)].map (fun d => .rel (dR d)) ∧ R = dR (.list ((subsN n).map nL))
theorem ok_subsets (T : Tx K mg) (D : Df K mg "_law_subsets" s_law_subsets ["things"]) : Cal P w K mg base "_law_subsets" 1 ["things"] (spS G po_subsets) := by
  refine cal_df D sc_law_subsets ?_ fun f cdv A outer s H E hr => ⟨_, (pss_cons (ps_asg (pe_lst (pa_cons (pe_lst pa_nil) pa_nil)) (pg_name (i := 1) sc_law_subsets.nd rfl (by first | exact Or.inl rfl | exact Or.inr rfl)))
      (pss_cons (ps_for PassesOwn.never rfl (pi_seqK (K := K) (pv 0)) (pg_name (i := 2) sc_law_subsets.nd rfl (by first | exact Or.inl rfl | exact Or.inr rfl)) (pss_one (ps_asg (pe_op (op_plusK (K := K)) (pv 1) (pe_lc (own := [("one", 3)]) rfl sc_law_subsets.nd (pi_seqK (K := K) (pv 1)) (blkOk_by (by kernel_rfl)) (fun _ _ _ _ _ => (pg_name (i := 3) sc_law_subsets.nd rfl (by first | exact Or.inl rfl | exact Or.inr rfl))) (fun _ _ _ _ _ => pts_nil) (fun _ _ _ _ _ => (pe_op (op_plusK (K := K)) (pv 3) (pe_lst (pa_cons (pv 2) pa_nil)))))) (pg_name (i := 1) sc_law_subsets.nd rfl (by first | exact Or.inl rfl | exact Or.inr rfl)))))
      (pss_one (ps_ret (pv 1))))), ?_⟩
  · rintro ρ R ⟨n, _, rfl, _⟩
    exact ⟨rfl, noOwn (Rs := [_])⟩
  · rintro ρ R ⟨n, h8, rfl, rfl⟩
    change Sv G _ [.rel (dR (nL (List.range n))), .un, .un, .un] _
    refine sv_seq (sv_set (ev_lst1 ev_lst0) (sv_seq (sv_for1 (xs := List.range n) (Rx := fun (i : Nat) => dR (dN i)) (fun i ρ1 => i ≤ n ∧ ∃ s2 : Slot, ρ1 = [.rel (dR (nL (List.range n))), .rel (dR (.list ((subsN i).map nL))), s2, .un])
      (ei_mapL (ev_var rfl)) ⟨Nat.zero_le _, _, rfl⟩ ?_ ?_)))
    · rintro i x ρ1 hx ⟨hi, s2, rfl⟩
      obtain ⟨ex, hi2⟩ := range_at hx
      subst ex
      have hle : 2 ^ x ≤ 2 ^ 8 := Nat.pow_le_pow_right (by decide) (by omega)
      have hsl := subs_len x
      refine sv_set (ev_op (ev_var rfl) (ev_map1 (xs := subsN x) (Rx := fun o => dR (nL o)) (s0 := .un) (fun o => nL (o ++ [x])) (ei_mapL (ev_var rfl)) (by omega) rfl (fun z => z) fun o ho => ?_) (od_plusL (by rw [List.length_map, List.length_map]; omega))) ⟨hi2, .rel (dR (dN x)), ?_⟩
      · have hol := subs_small x o ho
        exact ev_d (ev_op (ev_var rfl) (ev_lst1 (ev_var rfl)) (od_plusL (es := [dN x]) (by rw [List.length_map]; simp; omega))) (by rw [nL, List.map_append]; rfl)
      · show _ = _
        rw [subsN, List.map_append, List.map_map]
        rfl
    · rintro ρ1 ⟨_, s2, rfl⟩
      refine sv_ret (ev_var rfl) ?_
      show Rel.le _ _
      rw [List.length_range]
      exact Rel.le_refl _
end
end K48
set_option Elab.async false
set_option linter.all false
set_option maxRecDepth 100000
/-! Cc: the checks of wishes. -/
namespace K48
open PySem L2 Dx WM
section
variable {P : Program} {w : World} {K : PySem.W.Frag} {mg : Str → Option Value} {base : Heap} {G : Glob}
abbrev s_check_most : Stmt := topS 10
abbrev N_check_most : List Str := ["what", "many", "most"]
theorem sc_check_most : FnScope N_check_most ["what", "many", "most"] (defScope s_check_most) := ⟨rfl, rfl, rfl, by decide +kernel, rfl, by decide +kernel, by decide +kernel⟩
def po_most : List Slot → Rel → Prop := fun ρ R => ∃ (x : Str) (a b : Int), a ≤ b ∧ ρ = [PyData.str x, .int a, .int b].map (fun d => .rel (dR d)) ∧ R = dR .none
theorem ok_most (T : Tx K mg) (D : Df K mg "check_most" s_check_most ["what", "many", "most"]) : Cal P w K mg base "check_most" 1 ["what", "many", "most"] (spS G po_most) := by
  refine cal_df D sc_check_most ?_ fun f cdv A outer s H E hr => ⟨_, (pss_one (ps_if (pt_cmpR op_gt (pv 1) (pv 2) (nomark _)) (pss_one ps_never) pss_nil)), ?_⟩
  · rintro ρ R ⟨x, a, b, _, rfl, _⟩
    exact ⟨rfl, noOwn (Rs := [_, _, _])⟩
  · rintro ρ R ⟨x, a, b, hab, rfl, rfl⟩
    change Sv G _ [.rel (dR (.str x)), .rel (dI a), .rel (dI b)] _
    refine sv_if (b := false) (EvT.to (et_test (ev_op (ev_var rfl) (ev_var rfl) od_gt)) (decide_eq_false (by omega))) (fun h => by cases h) fun _ => sv_next (Rel.le_refl _)
/-! ### check_forms -/
abbrev s_check_forms : Stmt := topS 12
abbrev N_check_forms : List Str := ["many", "forms", "at", "form", "place", "other"]
theorem sc_check_forms : FnScope N_check_forms ["many", "forms"] (defScope s_check_forms) := ⟨rfl, rfl, rfl, by decide +kernel, rfl, by decide +kernel, by decide +kernel⟩
def po_forms : List Slot → Rel → Prop := fun ρ R => ∃ W : Wish, WOk W ∧ ρ = [dN W.fields, PyData.list (W.forms.map nL)].map (fun d => .rel (dR d)) ∧ R = dR .none
theorem ok_forms (T : Tx K mg) (D : Df K mg "check_forms" s_check_forms ["many", "forms"]) : Cal P w K mg base "check_forms" 1 ["many", "forms"] (spS G po_forms) := by
  refine cal_df D sc_check_forms ?_ fun f cdv A outer s H E hr => ⟨_, (pss_cons (ps_if (pt_cmpR (op_eqK (K := K) hr) (pe_callB (call_lenK (K := K)) (by rfl) T.len_ PySem.boot_len (pa_cons (pv 1) pa_nil)) pe_int (nomark _)) (pss_one ps_never) pss_nil)
      (pss_one (ps_for PassesOwn.never rfl (pi_range1 (by rfl) T.range_ (pa_cons (pe_callB (call_lenK (K := K)) (by rfl) T.len_ PySem.boot_len (pa_cons (pv 1) pa_nil)) pa_nil)) (pg_name (i := 2) sc_check_forms.nd rfl (by first | exact Or.inl rfl | exact Or.inr rfl)) (pss_cons (ps_asg (pe_ix (ix_seqK (K := K)) (pv 1) (pv 2) (fun _ _ => rfl)) (pg_name (i := 3) sc_check_forms.nd rfl (by first | exact Or.inl rfl | exact Or.inr rfl)))
      (pss_cons (ps_if (PW.pt (pw_or (pt_cmpR (op_eqK (K := K) hr) (pe_callB (call_lenK (K := K)) (by rfl) T.len_ PySem.boot_len (pa_cons (pv 3) pa_nil)) pe_int (nomark _)) (pw_or (pt_cmpR op_lt (pe_ix (ix_seqK (K := K)) (pv 3) pe_int (fun _ _ => rfl)) pe_int (nomark _)) (pw_or1 (pt_cmpR op_ge (pe_ix (ix_seqK (K := K)) (pv 3) (pe_un un_neg pe_int) (fun _ _ => rfl)) (pv 0) (nomark _)))))) (pss_one ps_never) pss_nil)
      (pss_cons (ps_for PassesOwn.never rfl (pi_range2 (by rfl) T.range_ (pa_cons pe_int (pa_cons (pe_callB (call_lenK (K := K)) (by rfl) T.len_ PySem.boot_len (pa_cons (pv 3) pa_nil)) pa_nil))) (pg_name (i := 4) sc_check_forms.nd rfl (by first | exact Or.inl rfl | exact Or.inr rfl)) (pss_one (ps_if (pt_cmpR op_ge (pe_ix (ix_seqK (K := K)) (pv 3) (pe_op op_sub (pv 4) pe_int) (fun _ _ => rfl)) (pe_ix (ix_seqK (K := K)) (pv 3) (pv 4) (fun _ _ => rfl)) (nomark _)) (pss_one ps_never) pss_nil)))
      (pss_one (ps_if (pt_cmpR (op_inK (K := K) hr) (pe_callTy (call_tupleK (K := K)) (by rfl) T.tuple_ (by decide +kernel) (pa_cons (pv 3) pa_nil)) (pe_lc (own := [("other", 5)]) rfl sc_check_forms.nd (pi_seqK (K := K) (pe_slice (sl_seqK (K := K)) (pv 1) po_none (po_some (pv 2)))) (blkOk_by (by kernel_rfl)) (fun _ _ _ _ _ => (pg_name (i := 5) sc_check_forms.nd rfl (by first | exact Or.inl rfl | exact Or.inr rfl))) (fun _ _ _ _ _ => pts_nil) (fun _ _ _ _ _ => (pe_callTy (call_tupleK (K := K)) (by rfl) T.tuple_ (by decide +kernel) (pa_cons (pv 5) pa_nil)))) rfl) (pss_one ps_never) pss_nil)))))))), ?_⟩
  · rintro ρ R ⟨W, _, rfl, _⟩
    exact ⟨rfl, noOwn (Rs := [_, _])⟩
  · rintro ρ R ⟨W, ok, rfl, rfl⟩
    change Sv G _ [.rel (dR (dN W.fields)), .rel (dR (.list (W.forms.map nL))), .un, .un, .un, .un] _
    have hl0 : W.forms.length ≠ 0 := fun z => ok.ne (List.length_eq_zero_iff.mp z)
    have six := ok.six
    refine sv_seq (sv_if (b := false) (EvT.to (et_test (ev_op (ev_lenM (ev_var rfl)) ev_int (od_eqN (b := 0)))) (decide_eq_false hl0)) (fun h => by cases h) fun _ => sv_next ?_)
    refine sv_for1 (xs := List.range W.forms.length) (Rx := fun (i : Nat) => dI (i : Int)) (fun i ρ1 => ∃ s2 s3 s4 : Slot, ρ1 = [.rel (dR (dN W.fields)), .rel (dR (.list (W.forms.map nL))), s2, s3, s4, .un])
      (ei_range1 (ea_cons (ev_lenM (ev_var rfl)) ea_nil) (by omega)) ⟨_, _, _, rfl⟩ ?_ (fun ρ1 _ => Rel.le_refl _)
    rintro i x ρ1 hx ⟨s2, s3, s4, rfl⟩
    obtain ⟨ex, hi⟩ := range_at hx
    subst ex
    have hf : W.forms[x]? = some W.forms[x] := List.getElem?_eq_getElem hi
    generalize hform : W.forms[x] = form at hf
    have hmem : form ∈ W.forms := List.mem_of_getElem? hf
    obtain ⟨ne, asc⟩ := ok.asc form hmem
    have hlen := asc_len asc
    have f5 := ok.f5
    obtain ⟨a, ha⟩ : ∃ a, form.head? = some a := ⟨_, List.head?_eq_head ne⟩
    obtain ⟨z, hz⟩ : ∃ z, form.getLast? = some z := ⟨_, List.getLast?_eq_getLast ne⟩
    have hzm : z < W.fields := asc.2 z (List.mem_of_getLast? hz)
    refine sv_seq (sv_set (ev_op (ev_var rfl) (ev_var rfl) (od_ixM (f := nL) rfl hf)) (sv_seq (sv_if (b := false) ?_ (fun h => by cases h) fun _ => sv_next (sv_seq (sv_for1 (xs := List.range (form.length - 1)) (Rx := fun (i : Nat) => dI ((1 : Int) + (i : Int)))
      (fun i ρ1 => ∃ s4 : Slot, ρ1 = [.rel (dR (dN W.fields)), .rel (dR (.list (W.forms.map nL))), .rel (dI (x : Int)), .rel (dR (nL form)), s4, .un])
      (ei_range2 (ea_cons ev_int (ea_cons (ev_lenM (ev_var rfl)) ea_nil)) ⟨by decide, by decide, by omega, by omega⟩ (by omega)) ⟨_, rfl⟩ ?_ ?_)))))
    · refine EvT.to (et_or (et_test (ev_op (ev_lenM (ev_var rfl)) ev_int (od_eqN (b := 0)))) fun _ => et_or (et_test (ev_op (ev_op (ev_var rfl) ev_int (od_ixL (at_zero ha))) ev_int od_lt)) fun _ => et_test (ev_op (ev_op (ev_var rfl) (ev_un ev_int ud_neg) (od_ixL (at_last hz))) (ev_var rfl) od_ge)) ?_
      rw [decide_eq_false (show ¬ form.length = 0 from fun q => ne (List.length_eq_zero_iff.mp q)), decide_eq_false (show ¬ ((a : Nat) : Int) < 0 by omega), decide_eq_false (show ¬ ((W.fields : Nat) : Int) ≤ ((z : Nat) : Int) by omega)]
      rfl
    · rintro j y ρ2 hy ⟨s4, rfl⟩
      obtain ⟨ey, hj⟩ := range_at hy
      subst ey
      have h1 : form[y]? = some (form[y]'(by omega)) := List.getElem?_eq_getElem _
      have h2 : form[y + 1]? = some (form[y + 1]'(by omega)) := List.getElem?_eq_getElem _
      have lt : form[y]'(by omega) < form[y + 1]'(by omega) := List.pairwise_iff_getElem.mp asc.1 y (y + 1) (by omega) (by omega) (by omega)
      refine sv_if (b := false) (EvT.to (et_test (ev_op (ev_op (ev_var rfl) (ev_op (ev_var rfl) ev_int od_minus) (od_ixM (j := y) (by omega) h1)) (ev_op (ev_var rfl) (ev_var rfl) (od_ixM (j := y + 1) (by omega) h2)) od_ge)) (decide_eq_false (by omega))) (fun h => by cases h) fun _ => sv_next ⟨.rel (dI (1 + (y : Int))), rfl⟩
    · rintro ρ2 ⟨s4, rfl⟩
      refine sv_if (b := false) ?_ (fun h => by cases h) fun _ => sv_next ⟨.rel (dI (x : Int)), .rel (dR (nL form)), s4, rfl⟩
      refine EvT.to (et_test (ev_op (ev_tuple (ds := form.map dN) (ev_var rfl) (.inl rfl)) (ev_map1 (xs := W.forms.take x) (Rx := fun o => dR (nL o)) (s0 := .un) nT (ei_mapL (ev_takeL (ev_var rfl) (ev_var rfl) rfl)) (by rw [List.length_take]; omega) rfl (fun z => z) fun o ho => ev_tuple (ds := o.map dN) (ev_var rfl) (.inl rfl)) (od_inD ((sh_nT form).shaped (by decide)) ((sh_list (n := 1) (sh_map fun o _ => sh_nT o)).shaped (by decide))).inr)) ?_
      rw [List.any_eq_false]
      intro d hd
      obtain ⟨o, ho, rfl⟩ := List.mem_map.mp hd
      rw [eqv_nT]
      intro q
      have e : o = form := of_decide_eq_true q
      subst e
      obtain ⟨k, hk⟩ := List.mem_iff_getElem?.mp ho
      rw [List.getElem?_take] at hk
      split at hk
      · rename_i hlt
        obtain ⟨hk1, hk2⟩ := List.getElem?_eq_some_iff.mp hk
        exact absurd (hk2.trans hform.symm) (List.pairwise_iff_getElem.mp ok.nd k x hk1 hi hlt)
      · cases hk
/-! ### check_numbers_of -/
abbrev s_check_numbers_of : Stmt := topS 14
abbrev N_check_numbers_of : List Str := ["lists", "many", "numbers", "at"]
theorem sc_check_numbers_of : FnScope N_check_numbers_of ["lists", "many"] (defScope s_check_numbers_of) := ⟨rfl, rfl, rfl, by decide +kernel, rfl, by decide +kernel, by decide +kernel⟩
def po_numbers : List Slot → Rel → Prop := fun ρ R => ∃ (ls : List (List Nat)) (n : Nat), n ≤ 100 ∧ (∀ l, l ∈ ls → Asc n l) ∧ ρ = [PyData.list (ls.map nL), dN n].map (fun d => .rel (dR d)) ∧ R = dR .none
theorem ok_numbers (T : Tx K mg) (D : Df K mg "check_numbers_of" s_check_numbers_of ["lists", "many"]) : Cal P w K mg base "check_numbers_of" 1 ["lists", "many"] (spS G po_numbers) := by
  refine cal_df D sc_check_numbers_of ?_ fun f cdv A outer s H E hr => ⟨_, (pss_one (ps_for PassesOwn.never rfl (pi_seqK (K := K) (pv 0)) (pg_name (i := 2) sc_check_numbers_of.nd rfl (by first | exact Or.inl rfl | exact Or.inr rfl)) (pss_one (ps_for PassesOwn.never rfl (pi_range1 (by rfl) T.range_ (pa_cons (pe_callB (call_lenK (K := K)) (by rfl) T.len_ PySem.boot_len (pa_cons (pv 2) pa_nil)) pa_nil)) (pg_name (i := 3) sc_check_numbers_of.nd rfl (by first | exact Or.inl rfl | exact Or.inr rfl)) (pss_one (ps_if (PW.pt (pw_or (pt_not (pt_chain op_le op_lt pe_int (pe_ix (ix_seqK (K := K)) (pv 2) (pv 3) (fun _ _ => rfl)) (pv 1))) (pw_or1 (PW.pt (pw_and (pt_cmpR op_gt (pv 3) pe_int (nomark _)) (pw_and1 (pt_cmpR op_ge (pe_ix (ix_seqK (K := K)) (pv 2) (pe_op op_sub (pv 3) pe_int) (fun _ _ => rfl)) (pe_ix (ix_seqK (K := K)) (pv 2) (pv 3) (fun _ _ => rfl)) (nomark _)))))))) (pss_one ps_never) pss_nil)))))), ?_⟩
  · rintro ρ R ⟨ls, n, _, _, rfl, _⟩
    exact ⟨rfl, noOwn (Rs := [_, _])⟩
  · rintro ρ R ⟨ls, n, hn, asc, rfl, rfl⟩
    change Sv G _ [.rel (dR (.list (ls.map nL))), .rel (dR (dN n)), .un, .un] _
    refine sv_for1 (xs := ls) (Rx := fun l => dR (nL l)) (fun i ρ1 => ∃ s2 s3 : Slot, ρ1 = [.rel (dR (.list (ls.map nL))), .rel (dR (dN n)), s2, s3]) (ei_mapL (ev_var rfl)) ⟨_, _, rfl⟩ ?_ (fun ρ1 _ => Rel.le_refl _)
    rintro i l ρ1 hx ⟨s2, s3, rfl⟩
    have al := asc l (List.mem_of_getElem? hx)
    have hlen := asc_len al
    refine sv_for1 (xs := List.range l.length) (Rx := fun (i : Nat) => dI (i : Int)) (fun i ρ1 => ∃ s3 : Slot, ρ1 = [.rel (dR (.list (ls.map nL))), .rel (dR (dN n)), .rel (dR (nL l)), s3]) (ei_range1 (ea_cons (ev_lenM (ev_var rfl)) ea_nil) (by omega)) ⟨_, rfl⟩ ?_ (fun ρ1 ⟨s3, e⟩ => ⟨.rel (dR (nL l)), s3, e⟩)
    rintro j y ρ2 hy ⟨s3, rfl⟩
    obtain ⟨ey, hj⟩ := range_at hy
    subst ey
    have h1 : l[y]? = some l[y] := List.getElem?_eq_getElem hj
    have hb := al.2 l[y] (List.getElem_mem hj)
    refine sv_if (b := false) ?_ (fun h => by cases h) fun _ => sv_next ⟨.rel (dI (y : Int)), rfl⟩
    have e1 : EvT G (tTest (tChain (rI0 fun i j => .bl (decide (i ≤ j))) (rI0 fun i j => .bl (decide (i < j))) (tC (.int 0)) (tOp (rIx K) (tVar 2) (tVar 3)) (tVar 1))) ([.rel (dR (.list (ls.map nL))), .rel (dR (dN n)), .rel (dR (nL l)), .rel (dI (y : Int))]) true := by
      refine EvT.to (et_chain ev_int (ev_op (ev_var rfl) (ev_var rfl) (od_ixM rfl h1)) od_le (fun _ => ev_var rfl) fun _ => od_lt) ?_
      rw [decide_eq_true (show (0 : Int) ≤ ((l[y] : Nat) : Int) by omega), decide_eq_true (show ((l[y] : Nat) : Int) < ((n : Nat) : Int) by omega)]
      rfl
    refine EvT.to (et_or (et_not e1) fun _ => et_and (et_test (ev_op (ev_var rfl) ev_int od_gt)) (b := false) fun hy0 => ?_) ?_
    · have hy1 : (0 : Int) < (y : Int) := of_decide_eq_true hy0
      obtain ⟨k, rfl⟩ : ∃ k, y = k + 1 := ⟨y - 1, by omega⟩
      have h2 : l[k]? = some (l[k]'(by omega)) := List.getElem?_eq_getElem _
      have lt : l[k]'(by omega) < l[k + 1] := List.pairwise_iff_getElem.mp al.1 k (k + 1) (by omega) (by omega) (by omega)
      exact EvT.to (et_test (ev_op (ev_op (ev_var rfl) (ev_op (ev_var rfl) ev_int od_minus) (od_ixM (j := k) (by omega) h2)) (ev_op (ev_var rfl) (ev_var rfl) (od_ixM rfl h1)) od_ge)) (decide_eq_false (by omega))
    · simp
/-! ### check_wishes -/
abbrev s_check_wishes : Stmt := topS 15
abbrev N_check_wishes : List Str := ["fields", "forms", "keeps", "renews", "part", "number"]
theorem sc_check_wishes : FnScope N_check_wishes ["fields", "forms", "keeps", "renews"] (defScope s_check_wishes) := ⟨rfl, rfl, rfl, by decide +kernel, rfl, by decide +kernel, by decide +kernel⟩
abbrev eWL (W : Wish) : List PyData := [dN W.fields, .list (W.forms.map nL), .list (W.keeps.map nL), .list (W.renews.map nL)]
def po_checkW : List Slot → Rel → Prop := fun ρ R => ∃ W : Wish, WOk W ∧ ρ = (eWL W).map (fun d => .rel (dR d)) ∧ R = dR .none
theorem ok_checkW (T : Tx K mg) (C_check_most : Cal P w K mg base "check_most" 1 ["what", "many", "most"] (spS G po_most)) (C_check_forms : Cal P w K mg base "check_forms" 1 ["many", "forms"] (spS G po_forms))
    (C_check_numbers_of : Cal P w K mg base "check_numbers_of" 1 ["lists", "many"] (spS G po_numbers)) (D : Df K mg "check_wishes" s_check_wishes ["fields", "forms", "keeps", "renews"]) : Cal P w K mg base "check_wishes" 2 ["fields", "forms", "keeps", "renews"] (spS G po_checkW) := by
  refine cal_df D sc_check_wishes ?_ fun f cdv A outer s H E hr => ⟨_, (pss_cons (ps_expr (pe_cal C_check_most hr (pa_cons pe_str (pa_cons (pe_callB (call_max2 rfl) (by rfl) T.max_ (by decide +kernel) (pa_cons (pe_callB (call_lenK (K := K)) (by rfl) T.len_ PySem.boot_len (pa_cons (pv 2) pa_nil)) (pa_cons (pe_callB (call_lenK (K := K)) (by rfl) T.len_ PySem.boot_len (pa_cons (pv 3) pa_nil)) pa_nil))) (pa_cons (pe_globI rfl T.g_PARTS) pa_nil)))))
      (pss_cons (ps_expr (pe_cal C_check_most hr (pa_cons pe_str (pa_cons (pv 0) (pa_cons (pe_globI rfl T.g_FIELDS) pa_nil)))))
      (pss_cons (ps_expr (pe_cal C_check_most hr (pa_cons pe_str (pa_cons (pe_callB (call_lenK (K := K)) (by rfl) T.len_ PySem.boot_len (pa_cons (pv 1) pa_nil)) (pa_cons (pe_globI rfl T.g_FORMS) pa_nil)))))
      (pss_cons (ps_if (pt_cmpR op_lt (pv 0) pe_int (nomark _)) (pss_one ps_never) pss_nil)
      (pss_cons (ps_expr (pe_cal C_check_forms hr (pa_cons (pv 0) (pa_cons (pv 1) pa_nil))))
      (pss_cons (ps_if (pt_cmpR (op_neK (K := K) hr) (pe_callB (call_lenK (K := K)) (by rfl) T.len_ PySem.boot_len (pa_cons (pv 2) pa_nil)) (pe_callB (call_lenK (K := K)) (by rfl) T.len_ PySem.boot_len (pa_cons (pv 3) pa_nil)) (nomark _)) (pss_one ps_never) pss_nil)
      (pss_cons (ps_expr (pe_cal C_check_numbers_of hr (pa_cons (pv 2) (pa_cons (pe_callB (call_lenK (K := K)) (by rfl) T.len_ PySem.boot_len (pa_cons (pv 1) pa_nil)) pa_nil))))
      (pss_cons (ps_expr (pe_cal C_check_numbers_of hr (pa_cons (pv 3) (pa_cons (pe_callB (call_lenK (K := K)) (by rfl) T.len_ PySem.boot_len (pa_cons (pv 1) pa_nil)) pa_nil))))
      (pss_one (ps_for PassesOwn.never rfl (pi_range1 (by rfl) T.range_ (pa_cons (pe_callB (call_lenK (K := K)) (by rfl) T.len_ PySem.boot_len (pa_cons (pv 2) pa_nil)) pa_nil)) (pg_name (i := 4) sc_check_wishes.nd rfl (by first | exact Or.inl rfl | exact Or.inr rfl)) (pss_one (ps_if (pt_cmpR (op_neK (K := K) hr) (pe_lc (own := [("number", 5)]) rfl sc_check_wishes.nd (pi_seqK (K := K) (pe_ix (ix_seqK (K := K)) (pv 2) (pv 4) (fun _ _ => rfl))) (blkOk_by (by kernel_rfl)) (fun _ _ _ _ _ => (pg_name (i := 5) sc_check_wishes.nd rfl (by first | exact Or.inl rfl | exact Or.inr rfl))) (fun _ _ _ _ _ => (pts_one (pt_cmpR (op_inK (K := K) hr) (pv 5) (pe_ix (ix_seqK (K := K)) (pv 3) (pv 4) (fun _ _ => rfl)) rfl))) (fun _ _ _ _ _ => (pv 5))) (pe_lst pa_nil) (nomark _)) (pss_one ps_never) pss_nil)))))))))))), ?_⟩
  · rintro ρ R ⟨W, _, rfl, _⟩
    exact ⟨rfl, noOwn (Rs := [_, _, _, _])⟩
  · rintro ρ R ⟨W, ok, rfl, rfl⟩
    change Sv G _ [.rel (dR (dN W.fields)), .rel (dR (.list (W.forms.map nL))), .rel (dR (.list (W.keeps.map nL))), .rel (dR (.list (W.renews.map nL))), .un, .un] _
    have kr := ok.kr
    have four := ok.four
    have six := ok.six
    have f1 := ok.f1
    have f5 := ok.f5
    have emax : (if ((W.renews.length : Nat) : Int) > ((W.keeps.length : Nat) : Int) then ((W.renews.length : Nat) : Int) else ((W.keeps.length : Nat) : Int)) = ((W.keeps.length : Nat) : Int) := by rw [if_neg (by omega)]
    refine sv_seq (sv_drop (ev_call (As := [.rel (dR (.str _)), .rel (dI (W.keeps.length : Int)), .rel (dI 4)]) (as_rel ev_str (as_rel (Ev.to (ev_max2 (ev_lenM (ev_var rfl)) (ev_lenM (ev_var rfl))) (by rw [emax])) (as_rel ev_int as_nil))) ⟨_, _, _, by omega, rfl, rfl⟩) ?_)
    refine sv_seq (sv_drop (ev_call (As := [.rel (dR (.str _)), .rel (dI (W.fields : Int)), .rel (dI 5)]) (as_rel ev_str (as_rel (ev_var rfl) (as_rel ev_int as_nil))) ⟨_, _, _, by omega, rfl, rfl⟩) ?_)
    refine sv_seq (sv_drop (ev_call (As := [.rel (dR (.str _)), .rel (dI (W.forms.length : Int)), .rel (dI 6)]) (as_rel ev_str (as_rel (ev_lenM (ev_var rfl)) (as_rel ev_int as_nil))) ⟨_, _, _, by omega, rfl, rfl⟩) ?_)
    refine sv_seq (sv_if (b := false) (EvT.to (et_test (ev_op (ev_var rfl) ev_int od_lt)) (decide_eq_false (by omega))) (fun h => by cases h) fun _ => sv_next ?_)
    refine sv_seq (sv_drop (ev_call (As := [.rel (dR (dN W.fields)), .rel (dR (.list (W.forms.map nL)))]) (as_rel (ev_var rfl) (as_rel (ev_var rfl) as_nil)) ⟨W, ok, rfl, rfl⟩) ?_)
    refine sv_seq (sv_if (b := false) (EvT.to (et_test (ev_op (ev_lenM (ev_var rfl)) (ev_lenM (ev_var rfl)) od_neI)) (by rw [decide_eq_true (by omega)]; rfl)) (fun h => by cases h) fun _ => sv_next ?_)
    refine sv_seq (sv_drop (ev_call (As := [.rel (dR (.list (W.keeps.map nL))), .rel (dR (dN W.forms.length))]) (as_rel (ev_var rfl) (as_rel (ev_lenM (ev_var rfl)) as_nil)) ⟨W.keeps, W.forms.length, by omega, ok.ka, rfl, rfl⟩) ?_)
    refine sv_seq (sv_drop (ev_call (As := [.rel (dR (.list (W.renews.map nL))), .rel (dR (dN W.forms.length))]) (as_rel (ev_var rfl) (as_rel (ev_lenM (ev_var rfl)) as_nil)) ⟨W.renews, W.forms.length, by omega, ok.ra, rfl, rfl⟩) ?_)
    refine sv_for1 (xs := List.range W.keeps.length) (Rx := fun (i : Nat) => dI (i : Int)) (fun i ρ1 => ∃ s4 : Slot, ρ1 = [.rel (dR (dN W.fields)), .rel (dR (.list (W.forms.map nL))), .rel (dR (.list (W.keeps.map nL))), .rel (dR (.list (W.renews.map nL))), s4, .un])
      (ei_range1 (ea_cons (ev_lenM (ev_var rfl)) ea_nil) (by omega)) ⟨_, rfl⟩ ?_ (fun ρ1 _ => Rel.le_refl _)
    rintro i x ρ1 hx ⟨s4, rfl⟩
    obtain ⟨ex, hi⟩ := range_at hx
    subst ex
    have h1 : W.keeps[x]? = some W.keeps[x] := List.getElem?_eq_getElem hi
    have h2 : W.renews[x]? = some (W.renews[x]'(by omega)) := List.getElem?_eq_getElem _
    have dj := ok.dj x _ _ h1 h2
    have hlen := asc_len (ok.ka _ (List.mem_of_getElem? h1))
    refine sv_if (b := false) (EvT.to (et_test (ev_op (ev_lc1 (xs := W.keeps[x]) (Rx := fun n => dR (dN n)) (s0 := .un) (fun n => decide (n ∈ W.renews[x]'(by omega))) dN (ei_mapL (ev_op (ev_var rfl) (ev_var rfl) (od_ixM rfl h1))) (by omega) rfl (fun z => z)
      fun n hn => ⟨et_test (ev_op (ev_var rfl) (ev_op (ev_var rfl) (ev_var rfl) (od_ixM (f := nL) rfl h2)) od_inN), fun _ => ev_var rfl⟩) ev_lst0 (od_ne0 (sh_nL _) (by decide)))) ?_) (fun h => by cases h) fun _ => sv_next ⟨.rel (dI (x : Int)), rfl⟩
    rw [List.filter_eq_nil_iff.mpr (fun n hn q => dj n hn (of_decide_eq_true q))]
    rfl
end
end K48
set_option Elab.async false
set_option linter.all false
set_option maxRecDepth 100000
/-! Cd: _law_wishes. -/
namespace K48
open PySem L2 Dx WM
section
variable {P : Program} {w : World} {K : PySem.W.Frag} {mg : Str → Option Value} {base : Heap} {G : Glob}
abbrev s_law_wishes : Stmt := topS 28
abbrev N_law_wishes : List Str := ["purse", "kind", "fields", "fits", "one", "forms", "keeps", "renews", "part", "side", "number"]
theorem sc_law_wishes : FnScope N_law_wishes ["purse", "kind"] (defScope s_law_wishes) := ⟨rfl, rfl, rfl, by decide +kernel, rfl, by decide +kernel, by decide +kernel⟩
def WSub : Type := { W : Wish // WOk W }
def rWish : Rel := rEx fun W : WSub => dR (eW W.1)
def po_wishes : List Slot → Rel → Prop := fun ρ R => ∃ k : Nat, ρ = [.mvl shP, .rel (dR (dN k))] ∧ R = rWish
/-- the forms that fit -/
def fitsM (k n : Nat) : List (List Nat) := (subsN n).tail.filter fun one => decide (k = 0) || stretchB one
theorem fits_nodup (k n : Nat) : (fitsM k n).Nodup := (List.Nodup.sublist (List.tail_sublist _) (subs_nodup n)).filter _
theorem fits_mem {k n : Nat} {o : List Nat} (h : o ∈ fitsM k n) : o ≠ [] ∧ Asc n o := by
  have h1 := (List.mem_filter.mp h).1
  exact ⟨subs_tail_ne n o h1, subs_asc n o (List.mem_of_mem_tail h1)⟩
theorem one_fit (k : Nat) {n : Nat} (hn : 1 ≤ n) : fitsM k n ≠ [] := fun h => by
  have h1 : [0] ∈ (subsN n) := subs_all n [0] ⟨List.pairwise_singleton _ _, fun x hx => by rw [List.mem_singleton.mp hx]; exact hn⟩
  have h2 : [0] ∈ (subsN n).tail := by
    have : ∃ r, subsN n = [] :: r := by
      clear h h1 hn
      induction n with
      | zero => exact ⟨[], rfl⟩
      | succ m ih =>
        obtain ⟨r, e⟩ := ih
        exact ⟨r ++ (subsN m).map fun one => one ++ [m], by rw [subsN, e]; rfl⟩
    obtain ⟨r, e⟩ := this
    rw [e] at h1 ⊢
    rcases List.mem_cons.mp h1 with z | z
    · cases z
    · exact z
  have h3 : [0] ∈ fitsM k n := List.mem_filter.mpr ⟨h2, by simp [stretchB]⟩
  rw [h] at h3
  cases h3
def sideK (side : List Nat) : List Nat := (List.range side.length).filter fun i => decide (side.getD i 0 = 0)
def sideR (side : List Nat) : List Nat := (List.range side.length).filter fun i => decide (side.getD i 0 = 1 ∨ side.getD i 0 = 2)
theorem range_asc (n : Nat) (p : Nat → Bool) : Asc n ((List.range n).filter p) := by
  refine ⟨List.Pairwise.filter _ List.pairwise_lt_range, fun x hx => ?_⟩
  exact List.mem_range.mp (List.mem_filter.mp hx).1
theorem side_dj (side : List Nat) : ∀ x, x ∈ sideK side → x ∉ sideR side := fun x h1 h2 => by
  have e1 := of_decide_eq_true (List.mem_filter.mp h1).2
  have e2 := of_decide_eq_true (List.mem_filter.mp h2).2
  omega
theorem ok_wishes (T : Tx K mg) (C_law_draw : Cal P w K mg base "_law_draw" 1 ["purse", "many"] (spS G po_draw)) (C_law_taken : Cal P w K mg base "_law_taken" 2 ["purse", "things", "many"] (spS G po_taken)) (C_law_subsets : Cal P w K mg base "_law_subsets" 1 ["things"] (spS G po_subsets))
    (D : Df K mg "_law_wishes" s_law_wishes ["purse", "kind"]) : Cal P w K mg base "_law_wishes" 3 ["purse", "kind"] (spS G po_wishes) := by
  refine cal_df D sc_law_wishes ?_ fun f cdv A outer s H E hr => ⟨_, (pss_cons (ps_asg (pe_op (op_plusK (K := K)) pe_int (pe_cal C_law_draw hr (pa_cons (pv 0) (pa_cons pe_int pa_nil)))) (pg_name (i := 2) sc_law_wishes.nd rfl (by first | exact Or.inl rfl | exact Or.inr rfl)))
      (pss_cons (ps_asg (pe_lst pa_nil) (pg_name (i := 3) sc_law_wishes.nd rfl (by first | exact Or.inl rfl | exact Or.inr rfl)))
      (pss_cons (ps_for PassesOwn.never rfl (pi_seqK (K := K) (pe_slice (sl_seqK (K := K)) (pe_cal C_law_subsets hr (pa_cons (pe_listRg rfl (by rfl) T.list_ (prg_1 (by rfl) T.range_ (pv 2))) pa_nil)) (po_some pe_int) po_none)) (pg_name (i := 4) sc_law_wishes.nd rfl (by first | exact Or.inl rfl | exact Or.inr rfl)) (pss_one (ps_if (PW.pt (pw_or (pt_cmpR (op_eqK (K := K) hr) (pv 1) pe_int (nomark _)) (pw_or1 (pt_cmpR (op_eqK (K := K) hr) (pe_op op_sub (pe_ix (ix_seqK (K := K)) (pv 4) (pe_un un_neg pe_int) (fun _ _ => rfl)) (pe_ix (ix_seqK (K := K)) (pv 4) pe_int (fun _ _ => rfl))) (pe_op op_sub (pe_callB (call_lenK (K := K)) (by rfl) T.len_ PySem.boot_len (pa_cons (pv 4) pa_nil)) pe_int) (nomark _))))) (pss_one (ps_expr (pe_appK (K := K) (pv 3) (pe_callTy (call_tupleK (K := K)) (by rfl) T.tuple_ (by decide +kernel) (pa_cons (pv 4) pa_nil))))) pss_nil)))
      (pss_cons (ps_asg (pe_cal C_law_taken hr (pa_cons (pv 0) (pa_cons (pv 3) (pa_cons (pe_op (op_plusK (K := K)) pe_int (pe_cal C_law_draw hr (pa_cons (pv 0) (pa_cons pe_int pa_nil)))) pa_nil)))) (pg_name (i := 5) sc_law_wishes.nd rfl (by first | exact Or.inl rfl | exact Or.inr rfl)))
      (pss_cons (ps_asg (pe_lst pa_nil) (pg_name (i := 6) sc_law_wishes.nd rfl (by first | exact Or.inl rfl | exact Or.inr rfl)))
      (pss_cons (ps_asg (pe_lst pa_nil) (pg_name (i := 7) sc_law_wishes.nd rfl (by first | exact Or.inl rfl | exact Or.inr rfl)))
      (pss_cons (ps_for PassesOwn.never rfl (pi_range1 (by rfl) T.range_ (pa_cons (pe_ifExp (pt_cmpR (op_eqK (K := K) hr) (pe_cal C_law_draw hr (pa_cons (pv 0) (pa_cons pe_int pa_nil))) pe_int (nomark _)) (pe_cal C_law_draw hr (pa_cons (pv 0) (pa_cons pe_int pa_nil))) (pe_op (op_plusK (K := K)) pe_int (pe_cal C_law_draw hr (pa_cons (pv 0) (pa_cons pe_int pa_nil))))) pa_nil)) (pg_name (i := 8) sc_law_wishes.nd rfl (by first | exact Or.inl rfl | exact Or.inr rfl)) (pss_cons (ps_asg (pe_lc (own := [("number", 10)]) rfl sc_law_wishes.nd (pi_range1 (by rfl) T.range_ (pa_cons (pe_callB (call_lenK (K := K)) (by rfl) T.len_ PySem.boot_len (pa_cons (pv 5) pa_nil)) pa_nil)) (blkOk_by (by kernel_rfl)) (fun _ _ _ _ _ => (pg_name (i := 10) sc_law_wishes.nd rfl (by first | exact Or.inl rfl | exact Or.inr rfl))) (fun _ _ _ _ _ => pts_nil) (fun _ _ _ _ _ => (pe_cal C_law_draw hr (pa_cons (pv 0) (pa_cons pe_int pa_nil))))) (pg_name (i := 9) sc_law_wishes.nd rfl (by first | exact Or.inl rfl | exact Or.inr rfl)))
      (pss_cons (ps_if (pt_cmpR (op_eqK (K := K) hr) (pv 1) pe_int (nomark _)) (pss_one (ps_asg (pe_lc (own := [("one", 4)]) rfl sc_law_wishes.nd (pi_seqK (K := K) (pv 9)) (blkOk_by (by kernel_rfl)) (fun _ _ _ _ _ => (pg_name (i := 4) sc_law_wishes.nd rfl (by first | exact Or.inl rfl | exact Or.inr rfl))) (fun _ _ _ _ _ => pts_nil) (fun _ _ _ _ _ => (pe_callB (call_min2 rfl) (by rfl) T.min_ (by decide +kernel) (pa_cons pe_int (pa_cons (pv 4) pa_nil))))) (pg_name (i := 9) sc_law_wishes.nd rfl (by first | exact Or.inl rfl | exact Or.inr rfl)))) pss_nil)
      (pss_cons (ps_expr (pe_appK (K := K) (pv 6) (pe_lc (own := [("number", 10)]) rfl sc_law_wishes.nd (pi_range1 (by rfl) T.range_ (pa_cons (pe_callB (call_lenK (K := K)) (by rfl) T.len_ PySem.boot_len (pa_cons (pv 5) pa_nil)) pa_nil)) (blkOk_by (by kernel_rfl)) (fun _ _ _ _ _ => (pg_name (i := 10) sc_law_wishes.nd rfl (by first | exact Or.inl rfl | exact Or.inr rfl))) (fun _ _ _ _ _ => (pts_one (pt_cmpR (op_eqK (K := K) hr) (pe_ix (ix_seqK (K := K)) (pv 9) (pv 10) (fun _ _ => rfl)) pe_int (nomark _)))) (fun _ _ _ _ _ => (pv 10)))))
      (pss_one (ps_expr (pe_appK (K := K) (pv 7) (pe_lc (own := [("number", 10)]) rfl sc_law_wishes.nd (pi_range1 (by rfl) T.range_ (pa_cons (pe_callB (call_lenK (K := K)) (by rfl) T.len_ PySem.boot_len (pa_cons (pv 5) pa_nil)) pa_nil)) (blkOk_by (by kernel_rfl)) (fun _ _ _ _ _ => (pg_name (i := 10) sc_law_wishes.nd rfl (by first | exact Or.inl rfl | exact Or.inr rfl))) (fun _ _ _ _ _ => (pts_one (pt_cmpR (op_inK (K := K) hr) (pe_ix (ix_seqK (K := K)) (pv 9) (pv 10) (fun _ _ => rfl)) (pe_lst (pa_cons pe_int (pa_cons pe_int pa_nil))) rfl))) (fun _ _ _ _ _ => (pv 10))))))))))
      (pss_one (ps_ret (pe_lst (pa_cons (pv 2) (pa_cons (pv 5) (pa_cons (pv 6) (pa_cons (pv 7) pa_nil)))))))))))))), ?_⟩
  · rintro ρ R ⟨k, rfl, _⟩
    exact ⟨rfl, fun j es h => by match j, h with | 0, h => cases h | 1, h => cases h | j + 2, h => simp at h⟩
  · rintro ρ R ⟨k, rfl, rfl⟩
    change Sv G _ [.mvl shP, .rel (dR (dN k)), .un, .un, .un, .un, .un, .un, .un, .un, .un] _
    have draw : ∀ (ρ : List Slot) (n : Nat) (i : Int), ρ[0]? = some (.mvl shP) → 0 < n → n < 1000 → i = (n : Int) → Ev G (tCall (spS G po_draw) [] E0 (tCons (tVar 0) (tCons (tC (.int i)) tNil))) ρ (rBelow n) := fun ρ n i h0 h1 h2 e => by
      subst e
      exact ev_call (As := [.mvl 0 shP, .rel (dR (dN n))]) (as_mvl h0 (as_rel ev_int as_nil)) ⟨n, h1, by omega, rfl, rfl⟩
    -- fields
    refine sv_seq (sv_set (R := rEx fun c : Below 5 => dR (dN (1 + c.1))) (Ev.le (ev_op ev_int (draw _ 5 5 rfl (by decide) (by decide) rfl) (OpD.exR fun r => od_plusI)) fun F v ⟨c, hv⟩ => ⟨c, by
      have e : (1 : Int) + ((c.1 : Nat) : Int) = ((1 + c.1 : Nat) : Int) := by omega
      show Dq F v (.int ((1 + c.1 : Nat) : Int))
      rw [← e]; exact hv⟩) (sv_ex (i := 2) rfl fun c => ?_))
    have hn : 1 ≤ 1 + c.1 ∧ 1 + c.1 ≤ 5 := by have := c.2; omega
    generalize 1 + c.1 = n at hn
    -- fits
    have h32 : (subsN n).length ≤ 32 := by
      rw [subs_len]
      exact show 2 ^ n ≤ 2 ^ 5 from Nat.pow_le_pow_right (by decide) hn.2
    refine sv_seq (sv_own (ds := []) en_lst0 (sv_seq (sv_for1 (xs := (subsN n).tail) (Rx := fun o => dR (nL o)) (fun i ρ1 => ∃ s4 : Slot, ¬ s4.mine ∧ ρ1 = [.mvl shP, .rel (dR (dN k)), .rel (dR (dN n)), .own ((((subsN n).tail.take i).filter fun one => decide (k = 0) || stretchB one).map nT), s4, .un, .un, .un, .un, .un, .un])
      ?_ ⟨.un, (fun z => z), rfl⟩ ?_ ?_)))
    · rw [← List.drop_one]
      exact ei_mapL (ev_dropL (ev_call (As := [.rel (dR (nL (List.range n)))]) (as_rel (ev_listRgN (n := n) (ev_var rfl) (by omega)) as_nil) ⟨n, by omega, rfl, rfl⟩) ev_int rfl)
    · rintro i o ρ1 hx ⟨s4, n4, rfl⟩
      have hm : o ∈ (subsN n).tail := List.mem_of_getElem? hx
      have ne := subs_tail_ne n o hm
      obtain ⟨y, hy⟩ : ∃ y, o.getLast? = some y := ⟨_, List.getLast?_eq_getLast ne⟩
      obtain ⟨z, hz⟩ : ∃ z, o.head? = some z := ⟨_, List.head?_eq_head ne⟩
      have et : ((subsN n).tail.take (i + 1)).filter (fun one => decide (k = 0) || stretchB one) = ((subsN n).tail.take i).filter (fun one => decide (k = 0) || stretchB one) ++ if (decide (k = 0) || stretchB o) = true then [o] else [] := by
        rw [List.take_add_one, hx, List.filter_append]
        congr 1
        show List.filter _ [o] = _
        rw [List.filter_cons]
        rfl
      have hlen : (((subsN n).tail.take i).filter (fun one => decide (k = 0) || stretchB one)).length ≤ 32 := by
        have h1 := List.length_filter_le (fun one => decide (k = 0) || stretchB one) ((subsN n).tail.take i)
        have h2 := (List.take_sublist i (subsN n).tail).length_le
        have h3 := (List.tail_sublist (subsN n)).length_le
        omega
      refine sv_if (b := decide (k = 0) || stretchB o) ?_ (fun h => ?_) (fun h => ?_)
      · refine et_or (et_test (ev_op (ev_var rfl) ev_int (od_eqN (b := 0)))) fun _ => et_test (Ev.to (ev_op (ev_op (ev_op (ev_var rfl) (ev_un ev_int ud_neg) (od_ixL (at_last hy))) (ev_op (ev_var rfl) ev_int (od_ixL (at_zero hz))) od_minus) (ev_op (ev_lenM (ev_var rfl)) ev_int od_minus) od_eqI) ?_)
        unfold stretchB
        rw [hy, hz]
        rfl
      · refine sv_app (d := nT o) rfl (ev_tuple (ds := o.map dN) (ev_var rfl) (.inl rfl)) (by rw [List.length_map]; omega) ⟨.rel (dR (nL o)), (fun z => z), ?_⟩
        rw [et, if_pos h, List.map_append]
        rfl
      · refine sv_next ⟨.rel (dR (nL o)), (fun z => z), ?_⟩
        rw [et, if_neg (by rw [h]; exact Bool.false_ne_true), List.append_nil]
        rfl
    · rintro ρ1 ⟨s4, n4, rfl⟩
      rw [List.take_length]
      show Sv G _ [.mvl shP, .rel (dR (dN k)), .rel (dR (dN n)), .own ((fitsM k n).map nT), s4, .un, .un, .un, .un, .un, .un] _
      have hfl : (fitsM k n).length ≤ 32 := by
        have h1 := List.length_filter_le (fun one => decide (k = 0) || stretchB one) (subsN n).tail
        have h3 := (List.tail_sublist (subsN n)).length_le
        unfold fitsM
        omega
      have hf1 : 1 ≤ (fitsM k n).length := by
        have := one_fit k hn.1
        have := List.length_pos_iff.mpr this
        omega
      -- forms
      refine sv_freeze (i := 3) rfl (sv_seq (sv_set (R := rEx fun L : { L : List (List Nat) // 1 ≤ L.length ∧ L.length ≤ 6 ∧ L.Nodup ∧ ∀ o, o ∈ L → o ∈ fitsM k n } => dR (.list (L.1.map nT)))
        (ev_call' (As := [.mvl 0 shP, .rel (dR (.list ((fitsM k n).map nT))), .rel (rEx fun c : Below 6 => dI (1 + (c.1 : Int)))]) (as_mvl rfl (as_rel (ev_var rfl) (as_rel (ev_op ev_int (draw _ 6 6 rfl (by decide) (by decide) rfl) (OpD.exR fun r => od_plusI)) as_nil))) fun σ F vs hv => ?_) (sv_ex (i := 5) rfl fun L => ?_)))
      · cases hv with
        | mvl h1 h2 hv =>
          cases hv with
          | rel h3 hv =>
            cases hv with
            | rel h4 hv =>
              cases hv
              obtain ⟨c, h4⟩ := h4
              refine ⟨[.mvl 0 shP, .rel (dR (.list ((fitsM k n).map nT))), .rel (dR (dN (1 + c.1)))], rTaken ((fitsM k n).map nT) (1 + c.1), .mvl h1 h2 (.rel h3 (.rel ?_ .nil)), by simp [mvlIx], ⟨_, _, by rw [List.length_map]; omega, rfl, rfl⟩, ?_⟩
              · have e : (1 : Int) + ((c.1 : Nat) : Int) = ((1 + c.1 : Nat) : Int) := by omega
                show Dq F _ (.int ((1 + c.1 : Nat) : Int))
                rw [← e]; exact h4
              · rintro F' v ⟨⟨fd, hfd, left, hp⟩, hv⟩
                obtain ⟨ys, e1, e2⟩ := perm_unmap hp _ rfl
                obtain ⟨L, L2, rfl, q1, q2⟩ := List.append_eq_map_iff.mp e1
                have hv2 : Dq F' v (.list fd) := hv
                rw [← q1] at hfd hv2
                have hc := c.2
                rw [List.length_map, List.length_map] at hfd
                have hmin : 1 ≤ min (1 + c.1) (fitsM k n).length := by omega
                have hmin2 := Nat.min_le_left (1 + c.1) (fitsM k n).length
                have nd : (L ++ L2).Nodup := e2.nodup_iff.mpr (fits_nodup k n)
                exact ⟨⟨L, by omega, by omega, (List.nodup_append.mp nd).1, fun o ho => e2.mem_iff.mp (List.mem_append_left _ ho)⟩, hv2⟩
      · obtain ⟨L, hL1, hL6, hLn, hLm⟩ := L
        show Sv G _ [.mvl shP, .rel (dR (dN k)), .rel (dR (dN n)), .rel (dR (.list ((fitsM k n).map nT))), s4, .rel (dR (.list (L.map nT))), .un, .un, .un, .un, .un] _
        refine sv_seq (sv_own (ds := []) en_lst0 (sv_seq (sv_own (ds := []) en_lst0 (sv_seq (sv_forR (B := 5) (fun i ρ1 => ∃ (sides : List (List Nat)) (s4 s8 s9 : Slot), ρ1 = [.mvl shP, .rel (dR (dN k)), .rel (dR (dN n)), .rel (dR (.list ((fitsM k n).map nT))), s4, .rel (dR (.list (L.map nT))), .own ((sides.map sideK).map nL), .own ((sides.map sideR).map nL), s8, s9, .un] ∧ ¬ s4.mine ∧ sides.length = i ∧ ∀ o, o ∈ sides → o.length = L.length)
          ?_ (by decide) ⟨[], _, _, _, rfl, n4, rfl, fun o ho => by cases ho⟩ ?_ ?_)))))
        · refine ev_ifA (eta_test (b := fun c : Below 6 => decide (c.1 = 0)) (ev_op (draw _ 6 6 rfl (by decide) (by decide) rfl) ev_int (OpD.exL fun r => od_eqN (b := 0)))) (draw _ 5 5 rfl (by decide) (by decide) rfl) ?_
          refine Ev.le (ev_op ev_int (draw _ 2 2 rfl (by decide) (by decide) rfl) (OpD.exR fun r => od_plusI)) fun F v ⟨c, hv⟩ => ⟨⟨1 + c.1, by have := c.2; omega⟩, ?_⟩
          have e : (1 : Int) + ((c.1 : Nat) : Int) = ((1 + c.1 : Nat) : Int) := by omega
          show Dq F v (.int ((1 + c.1 : Nat) : Int))
          rw [← e]; exact hv
        · rintro i ρ1 hi ⟨sides, s4, s8, s9, rfl, n4, hsl, hso⟩
          -- side
          refine sv_seq (sv_set (R := rEx fun l : { l : List Nat // l.length = L.length ∧ ∀ x, x ∈ l → x < 4 } => dR (nL l.1)) (Ev.le (en_map1 (xs := List.range L.length) (Rx := fun (i : Nat) => dI (i : Int)) (s0 := .un) (fun _ => rBelow 4) (ei_range1 (ea_cons (ev_lenM (ev_var rfl)) ea_nil) (by omega)) (by rw [List.length_range]; omega) rfl (fun z => z) fun x hx => draw _ 4 4 rfl (by decide) (by decide) rfl).ev (drawn_list (B := 4) L.length)) (sv_ex (i := 9) rfl fun side => ?_))
          obtain ⟨side, hs1, hs2⟩ := side
          refine sv_cut (fun ρ1 => ∃ side' : List Nat, side'.length = L.length ∧ ρ1 = [.mvl shP, .rel (dR (dN k)), .rel (dR (dN n)), .rel (dR (.list ((fitsM k n).map nT))), s4, .rel (dR (.list (L.map nT))), .own ((sides.map sideK).map nL), .own ((sides.map sideR).map nL), .rel (dI (i : Int)), .rel (dR (nL side')), .un]) ?_ ?_
          · refine sv_if (b := decide (k = 2)) (et_test (ev_op (ev_var rfl) ev_int (od_eqN (b := 2)))) (fun _ => ?_) fun _ => sv_next ⟨side, hs1, rfl⟩
            refine sv_set (ev_d (ev_map1 (xs := side) (Rx := fun o => dR (dN o)) (s0 := s4) (fun o => dN (min 1 o)) (ei_mapL (ev_var rfl)) (by omega) rfl n4 fun o ho => Ev.to (ev_min2 ev_int (ev_var rfl)) ?_) (show _ = nL (side.map (min 1)) by rw [nL, List.map_map]; rfl)) ⟨side.map (min 1), by rw [List.length_map]; exact hs1, rfl⟩
            by_cases h : ((o : Nat) : Int) < 1
            · rw [if_pos h]
              show dR (.int ((o : Nat) : Int)) = dR (.int ((min 1 o : Nat) : Int))
              rw [Nat.min_eq_right (by omega)]
            · rw [if_neg h]
              show dR (.int 1) = dR (.int ((min 1 o : Nat) : Int))
              rw [Nat.min_eq_left (by omega)]
              rfl
          · rintro ρ1 ⟨sd, hsd, rfl⟩
            have at_ : ∀ x, x ∈ List.range L.length → sd[x]? = some (sd.getD x 0) := fun x hx => by
              have hx' := List.mem_range.mp hx
              rw [List.getD_eq_getElem?_getD, List.getElem?_eq_getElem (by omega)]
              rfl
            refine sv_seq (sv_app (d := nL (sideK sd)) rfl (ev_d (ev_lc1 (xs := List.range L.length) (Rx := fun (i : Nat) => dI (i : Int)) (s0 := .un) (fun x => decide (sd.getD x 0 = 0)) dN (ei_range1 (ea_cons (ev_lenM (ev_var rfl)) ea_nil) (by omega)) (by rw [List.length_range]; omega) rfl (fun z => z)
              fun x hx => ⟨et_test (ev_op (ev_op (ev_var rfl) (ev_var rfl) (od_ixM (f := dN) rfl (at_ x hx))) ev_int (od_eqN (b := 0))), fun _ => ev_var rfl⟩) (by unfold sideK; rw [hsd])) (by rw [List.length_map, List.length_map]; omega) ?_)
            refine sv_app (d := nL (sideR sd)) rfl (ev_d (ev_lc1 (xs := List.range L.length) (Rx := fun (i : Nat) => dI (i : Int)) (s0 := .un) (fun x => decide (sd.getD x 0 = 1 ∨ sd.getD x 0 = 2)) dN (ei_range1 (ea_cons (ev_lenM (ev_var rfl)) ea_nil) (by omega)) (by rw [List.length_range]; omega) rfl (fun z => z)
              fun x hx => ⟨EvT.to (et_test (ev_op (ev_op (ev_var rfl) (ev_var rfl) (od_ixM (f := dN) rfl (at_ x hx))) (ev_d (ev_lst2 ev_int ev_int) (show _ = nL [1, 2] from rfl)) od_inN)) (by simp), fun _ => ev_var rfl⟩) (by unfold sideR; rw [hsd])) (by rw [List.length_map, List.length_map]; omega) ?_
            refine ⟨sides ++ [sd], s4, .rel (dI (i : Int)), .rel (dR (nL sd)), ?_, n4, by rw [List.length_append, hsl]; rfl, fun o ho => ?_⟩
            · simp only [List.map_append]
              rfl
            · rcases List.mem_append.mp ho with z | z
              · exact hso o z
              · rw [List.mem_singleton.mp z]; exact hsd
        · rintro m ρ1 hm ⟨sides, s4, s8, s9, rfl, n4, hsl, hso⟩
          refine sv_freeze (i := 6) rfl (sv_freeze (i := 7) rfl (sv_ret (ev_lst4 (ev_var rfl) (ev_var rfl) (ev_var rfl) (ev_var rfl)) ?_))
          show Rel.le _ _
          refine fun F v hv => ⟨⟨⟨n, L, sides.map sideK, sides.map sideR⟩, ?_⟩, hv⟩
          refine ⟨hn.1, hn.2, fun z => by have z2 : L = [] := z; rw [z2] at hL1; exact absurd hL1 (by decide), hL6, hLn, fun o ho => fits_mem (hLm o ho), by simp, by simp; omega, fun l hl => ?_, fun l hl => ?_, fun p kk rr h1 h2 => ?_⟩
          · obtain ⟨o, ho, rfl⟩ := List.mem_map.mp hl
            have := range_asc o.length fun i => decide (o.getD i 0 = 0)
            rw [hso o ho] at this
            unfold sideK
            rw [hso o ho]; exact this
          · obtain ⟨o, ho, rfl⟩ := List.mem_map.mp hl
            have := range_asc o.length fun i => decide (o.getD i 0 = 1 ∨ o.getD i 0 = 2)
            rw [hso o ho] at this
            unfold sideR
            rw [hso o ho]; exact this
          · rw [List.getElem?_map] at h1 h2
            cases e : sides[p]? with
            | none => rw [e] at h1; cases h1
            | some o =>
              rw [e] at h1 h2
              cases h1
              cases h2
              exact side_dj o
end
end K48
set_option Elab.async false
set_option linter.all false
set_option maxRecDepth 100000
/-! Ce: the class Wishes: made, its fields, outside, needs. -/
namespace K48
open PySem L2 Dx WM
/-- what the walk asks of the class -/
structure Tc (K : PySem.W.Frag) (mg : Str → Option Value) (C : Addr) : Prop where
  cl : Cls K C
  nF : NoAttr K C "held_fields"
  nO : NoAttr K C "held_forms"
  nK : NoAttr K C "held_keeps"
  nR : NoAttr K C "held_renews"
  mgC : mg "Wishes" = some (.ref C)
def wFields (W : Wish) : List (Str × Rel) := [("held_fields", dR (dN W.fields)), ("held_forms", dR (.list (W.forms.map nT))), ("held_keeps", dR (.list (W.keeps.map nL))), ("held_renews", dR (.list (W.renews.map nL)))]
abbrev rW (C : Addr) (W : Wish) : Rel := rIns C (wFields W)
theorem wF (W : Wish) : (wFields W).lookup ("held_fields" : Str) = some (dR (dN W.fields)) := rfl
theorem wO (W : Wish) : (wFields W).lookup ("held_forms" : Str) = some (dR (.list (W.forms.map nT))) := rfl
theorem wK (W : Wish) : (wFields W).lookup ("held_keeps" : Str) = some (dR (.list (W.keeps.map nL))) := rfl
theorem wR (W : Wish) : (wFields W).lookup ("held_renews" : Str) = some (dR (.list (W.renews.map nL))) := rfl
section
variable {P : Program} {w : World} {K : PySem.W.Frag} {mg : Str → Option Value} {base : Heap} {G : Glob} {C : Addr}
/-! ### outside -/
abbrev s_Wishes_outside : Stmt := inClass (topS 19) 1
abbrev N_Wishes_outside : List Str := ["self", "part", "number", "covered", "keeper", "field"]
theorem sc_Wishes_outside : FnScope N_Wishes_outside ["self", "part", "number"] (defScope s_Wishes_outside) := ⟨rfl, rfl, rfl, by decide +kernel, rfl, by decide +kernel, by decide +kernel⟩
/-- the fields of a form that are in no form that keeps the part -/
def po_outside (C : Addr) : List Slot → Rel → Prop := fun ρ R => ∃ (W : Wish) (p n : Nat), WOk W ∧ p < W.keeps.length ∧ n < W.forms.length ∧ ρ = [.rel (rW C W), .rel (dR (dN p)), .rel (dR (dN n))] ∧ R = dR (nL (outM W p n))
theorem ok_outside (T : Tx K mg) (Tw : Tc K mg C) (D : DfM K C "outside" "Wishes.outside" s_Wishes_outside ["self", "part", "number"]) : CalM P w K mg base C "outside" 1 ["self", "part", "number"] (spS G (po_outside C)) := by
  refine calm_df D Tw.cl sc_Wishes_outside ?_ fun f cdv A outer s H E hr => ⟨_, (pss_cons (ps_asg (pe_lst pa_nil) (pg_name (i := 3) sc_Wishes_outside.nd rfl (by first | exact Or.inl rfl | exact Or.inr rfl)))
      (pss_cons (ps_for PassesOwn.never rfl (pi_seqK (K := K) (pe_ix (ix_seqK (K := K)) (pe_fldK (K := K) (pv 0) rfl) (pv 1) (fun _ _ => rfl))) (pg_name (i := 4) sc_Wishes_outside.nd rfl (by first | exact Or.inl rfl | exact Or.inr rfl)) (pss_one (ps_asg (pe_op (op_plusK (K := K)) (pv 3) (pe_callTy (call_listK (K := K)) (by rfl) T.list_ (by decide +kernel) (pa_cons (pe_ix (ix_seqK (K := K)) (pe_fldK (K := K) (pv 0) rfl) (pv 4) (fun _ _ => rfl)) pa_nil))) (pg_name (i := 3) sc_Wishes_outside.nd rfl (by first | exact Or.inl rfl | exact Or.inr rfl)))))
      (pss_one (ps_ret (pe_lc (own := [("field", 5)]) rfl sc_Wishes_outside.nd (pi_seqK (K := K) (pe_ix (ix_seqK (K := K)) (pe_fldK (K := K) (pv 0) rfl) (pv 2) (fun _ _ => rfl))) (blkOk_by (by kernel_rfl)) (fun _ _ _ _ _ => (pg_name (i := 5) sc_Wishes_outside.nd rfl (by first | exact Or.inl rfl | exact Or.inr rfl))) (fun _ _ _ _ _ => (pts_one (pt_cmpR (op_niK (K := K) hr) (pv 5) (pv 3) rfl))) (fun _ _ _ _ _ => (pv 5))))))), ?_⟩
  · rintro ρ R ⟨W, p, n, _, _, _, rfl, _⟩
    exact ⟨rfl, fun j es h => by match j, h with | 0, h => cases h | 1, h => cases h | 2, h => cases h | j + 3, h => simp at h⟩
  · rintro ρ R ⟨W, p, n, ok, hp, hn, rfl, rfl⟩
    change Sv G _ [.rel (rW C W), .rel (dR (dN p)), .rel (dR (dN n)), .un, .un, .un] _
    have hk : W.keeps[p]? = some W.keeps[p] := List.getElem?_eq_getElem hp
    have ka := ok.ka _ (List.mem_of_getElem? hk)
    have klen := asc_len ka
    have six := ok.six
    have f5 := ok.f5
    have hf : W.forms[n]? = some W.forms[n] := List.getElem?_eq_getElem hn
    have flen := asc_len (ok.asc _ (List.mem_of_getElem? hf)).2
    refine sv_seq (sv_set ev_lst0 (sv_seq (sv_for1 (xs := W.keeps[p]) (Rx := fun k => dR (dN k)) (fun i ρ1 => ∃ s4 : Slot, ρ1 = [.rel (rW C W), .rel (dR (dN p)), .rel (dR (dN n)), .rel (dR (nL (covM W (W.keeps[p].take i)))), s4, .un] ∧ (covM W (W.keeps[p].take i)).length ≤ i * 5)
      (ei_mapL (ev_op (ev_fld (ev_var rfl) Tw.cl Tw.nK (wK W)) (ev_var rfl) (od_ixM (f := nL) rfl hk))) ⟨_, rfl, Nat.zero_le _⟩ ?_ ?_)))
    · rintro i k ρ1 hx ⟨s4, rfl, hl⟩
      have hkm : k ∈ W.keeps[p] := List.mem_of_getElem? hx
      have hkl : k < W.forms.length := ka.2 k hkm
      have hi : i < W.keeps[p].length := (List.getElem?_eq_some_iff.mp hx).1
      have hfk : W.forms[k]? = some W.forms[k] := List.getElem?_eq_getElem hkl
      have flk := asc_len (ok.asc _ (List.mem_of_getElem? hfk)).2
      have et : covM W (W.keeps[p].take (i + 1)) = covM W (W.keeps[p].take i) ++ W.forms[k] := by
        rw [List.take_add_one, hx]
        show covM W (W.keeps[p].take i ++ [k]) = _
        rw [covM_snoc, List.getD_eq_getElem?_getD, hfk]
        rfl
      refine sv_set (ev_op (ev_var rfl) (en_list (ds := W.forms[k].map dN) (ev_op (ev_fld (ev_var rfl) Tw.cl Tw.nO (wO W)) (ev_var rfl) (od_ixM (f := nT) rfl hfk)) (.inr rfl)).evD (od_plusM (by omega))) ⟨.rel (dR (dN k)), ?_, ?_⟩
      · rw [et]
        rfl
      · rw [et, List.length_append]
        omega
    · rintro ρ1 ⟨s4, rfl, _⟩
      rw [List.take_length]
      refine sv_ret (ev_lc1 (xs := W.forms[n]) (Rx := fun x => dR (dN x)) (s0 := .un) (fun x => !decide (x ∈ covM W W.keeps[p])) dN (ei_mapT (ev_op (ev_fld (ev_var rfl) Tw.cl Tw.nO (wO W)) (ev_var rfl) (od_ixM (f := nT) rfl hf))) (by omega) rfl (fun z => z)
        fun x hx => ⟨et_test (ev_op (ev_var rfl) (ev_var rfl) od_niN), fun _ => ev_var rfl⟩) ?_
      show Rel.le _ _
      have e : outM W p n = W.forms[n].filter fun x => !decide (x ∈ covM W W.keeps[p]) := by
        unfold outM
        rw [List.getD_eq_getElem?_getD, List.getD_eq_getElem?_getD, hf, hk]
        rfl
      rw [e]
      exact Rel.le_refl _
/-! ### needs -/
abbrev s_Wishes_needs : Stmt := inClass (topS 19) 2
abbrev N_Wishes_needs : List Str := ["self", "found", "part", "number"]
theorem sc_Wishes_needs : FnScope N_Wishes_needs ["self"] (defScope s_Wishes_needs) := ⟨rfl, rfl, rfl, by decide +kernel, rfl, by decide +kernel, by decide +kernel⟩
def po_needs (C : Addr) : List Slot → Rel → Prop := fun ρ R => ∃ W : Wish, WOk W ∧ ρ = [.rel (rW C W)] ∧ R = dR (.list ((needsM W).map eNeed))
theorem ok_needs (T : Tx K mg) (Tw : Tc K mg C) (M_outside : CalM P w K mg base C "outside" 1 ["self", "part", "number"] (spS G (po_outside C))) (D : DfM K C "needs" "Wishes.needs" s_Wishes_needs ["self"]) : CalM P w K mg base C "needs" 2 ["self"] (spS G (po_needs C)) := by
  refine calm_df D Tw.cl sc_Wishes_needs ?_ fun f cdv A outer s H E hr => ⟨_, (pss_cons (ps_asg (pe_lst pa_nil) (pg_name (i := 1) sc_Wishes_needs.nd rfl (by first | exact Or.inl rfl | exact Or.inr rfl)))
      (pss_cons (ps_for PassesOwn.never rfl (pi_range1 (by rfl) T.range_ (pa_cons (pe_callB (call_lenK (K := K)) (by rfl) T.len_ PySem.boot_len (pa_cons (pe_fldK (K := K) (pv 0) rfl) pa_nil)) pa_nil)) (pg_name (i := 2) sc_Wishes_needs.nd rfl (by first | exact Or.inl rfl | exact Or.inr rfl)) (pss_one (ps_for PassesOwn.never rfl (pi_seqK (K := K) (pe_ix (ix_seqK (K := K)) (pe_fldK (K := K) (pv 0) rfl) (pv 2) (fun _ _ => rfl))) (pg_name (i := 3) sc_Wishes_needs.nd rfl (by first | exact Or.inl rfl | exact Or.inr rfl)) (pss_one (ps_expr (pe_appK (K := K) (pv 1) (pe_tup (pa_cons (pv 2) (pa_cons (pv 3) (pa_cons (pe_calm M_outside hr (pv 0) (pa_cons (pv 2) (pa_cons (pv 3) pa_nil))) pa_nil))))))))))
      (pss_one (ps_ret (pv 1))))), ?_⟩
  · rintro ρ R ⟨W, _, rfl, _⟩
    exact ⟨rfl, fun j es h => by match j, h with | 0, h => cases h | j + 1, h => simp at h⟩
  · rintro ρ R ⟨W, ok, rfl, rfl⟩
    change Sv G _ [.rel (rW C W), .un, .un, .un] _
    have four := ok.four
    have kr := ok.kr
    have six := ok.six
    refine sv_seq (sv_own (ds := []) en_lst0 (sv_seq (sv_for1 (xs := List.range W.renews.length) (Rx := fun (i : Nat) => dI (i : Int)) (fun i ρ1 => ∃ s2 s3 : Slot, ρ1 = [.rel (rW C W), .own ((((List.range i).map (needsAt W)).flatten).map eNeed), s2, s3])
      (ei_range1 (ea_cons (ev_lenM (ev_fld (ev_var rfl) Tw.cl Tw.nR (wR W))) ea_nil) (by omega)) ⟨_, _, rfl⟩ ?_ ?_)))
    · rintro i x ρ1 hx ⟨s2, s3, rfl⟩
      obtain ⟨ex, hi⟩ := range_at hx
      subst ex
      have hrx : W.renews[x]? = some W.renews[x] := List.getElem?_eq_getElem hi
      have ra := ok.ra _ (List.mem_of_getElem? hrx)
      have rlen := asc_len ra
      have nl := needs_len W ok x
      have en : needsAt W x = W.renews[x].map fun n => (x, n, outM W x n) := by
        unfold needsAt
        rw [List.getD_eq_getElem?_getD, hrx]
        rfl
      refine sv_for1 (xs := W.renews[x]) (Rx := fun n => dR (dN n)) (fun j ρ2 => ∃ s3 : Slot, ρ2 = [.rel (rW C W), .own ((((List.range x).map (needsAt W)).flatten ++ (needsAt W x).take j).map eNeed), .rel (dI (x : Int)), s3])
        (ei_mapL (ev_op (ev_fld (ev_var rfl) Tw.cl Tw.nR (wR W)) (ev_var rfl) (od_ixM (f := nL) rfl hrx))) ⟨s3, by simp⟩ ?_ ?_
      · rintro j n ρ2 hy ⟨s3, rfl⟩
        have hn := ra.2 n (List.mem_of_getElem? hy)
        have hj : j < W.renews[x].length := (List.getElem?_eq_some_iff.mp hy).1
        refine sv_app (d := eNeed (x, n, outM W x n)) rfl (ev_tup3 (ev_var rfl) (ev_var rfl) (ev_meth (As := [.rel (dR (dN x)), .rel (dR (dN n))]) (ev_var rfl) rfl (as_rel (ev_var rfl) (as_rel (ev_var rfl) as_nil)) ⟨W, x, n, ok, by omega, hn, rfl, rfl⟩)) ?_ ⟨.rel (dR (dN n)), ?_⟩
        · rw [List.length_map, List.length_append]
          have := List.length_take_le j (needsAt W x)
          omega
        · have h2 : (needsAt W x)[j]? = some (x, n, outM W x n) := by rw [en, List.getElem?_map, hy]; rfl
          rw [List.take_add_one, h2]
          simp only [List.map_append, List.append_assoc]
          simp
      · rintro ρ2 ⟨s3, rfl⟩
        have el : W.renews[x].length = (needsAt W x).length := by rw [en, List.length_map]
        rw [el, List.take_length]
        exact ⟨.rel (dI (x : Int)), s3, by rw [needsM_take]⟩
    · rintro ρ1 ⟨s2, s3, rfl⟩
      rw [List.length_range]
      exact sv_freeze (i := 1) rfl (sv_ret (ev_var rfl) (show Rel.le _ _ from Rel.le_refl _))
end
end K48
set_option Elab.async false
set_option linter.all false
set_option maxRecDepth 100000
/-! Cf: needs_apart, fewest. -/
namespace K48
open PySem L2 Dx WM
section
variable {P : Program} {w : World} {K : PySem.W.Frag} {mg : Str → Option Value} {base : Heap} {G : Glob} {C : Addr}
/-! ### needs_apart -/
abbrev s_needs_apart : Stmt := topS 17
abbrev N_needs_apart : List Str := ["needs", "apart", "end", "part", "number", "fields"]
theorem sc_needs_apart : FnScope N_needs_apart ["needs"] (defScope s_needs_apart) := ⟨rfl, rfl, rfl, by decide +kernel, rfl, by decide +kernel, by decide +kernel⟩
def po_apart : List Slot → Rel → Prop := fun ρ R => ∃ needs : List Need, needs.length ≤ 100 ∧ (∀ n ∈ needs, n.2.2 ≠ [] ∧ n.2.2.length ≤ 100) ∧ ρ = [PyData.list (needs.map eNeed)].map (fun d => .rel (dR d)) ∧ R = dR (.list ((apartM needs).map eApart))
theorem ok_apart {c Pt : Addr} (T : Tx K mg) (TB : LamX.TabB base mg c Pt) (D : DfC K mg "needs_apart" s_needs_apart ["needs"] c) : Cal P w K mg base "needs_apart" 1 ["needs"] (spS (gT Pt "needs_apart.<locals>.<lambda>") po_apart) := by
  refine cal_dfC D sc_needs_apart ?_ fun f A outer s H E hr => ⟨_, (pss_cons (ps_asg (pe_lst pa_nil) (pg_name (i := 1) sc_needs_apart.nd rfl (by first | exact Or.inl rfl | exact Or.inr rfl)))
      (pss_cons (ps_asg (pe_un un_neg pe_int) (pg_name (i := 2) sc_needs_apart.nd rfl (by first | exact Or.inl rfl | exact Or.inr rfl)))
      (pss_cons (ps_for PassesOwn.never rfl (pi_seqK (K := K) (pe_sortKey (by rfl) T.sorted_ TB rfl rfl hr rfl rfl rfl rfl (by decide +kernel) rfl rfl (fun _ _ _ _ _ _ _ => rfl) (pv 0))) (pg_tupK (K := K) rfl (pgs_cons (pg_name (i := 3) sc_needs_apart.nd rfl (by first | exact Or.inl rfl | exact Or.inr rfl)) (pgs_cons (pg_name (i := 4) sc_needs_apart.nd rfl (by first | exact Or.inl rfl | exact Or.inr rfl)) (pgs_cons (pg_name (i := 5) sc_needs_apart.nd rfl (by first | exact Or.inl rfl | exact Or.inr rfl)) pgs_nil)))) (pss_one (ps_if (pt_cmpR op_gt (pe_ix (ix_seqK (K := K)) (pv 5) pe_int (fun _ _ => rfl)) (pv 2) (nomark _)) (pss_cons (ps_expr (pe_appK (K := K) (pv 1) (pe_tup (pa_cons (pv 3) (pa_cons (pv 4) pa_nil)))))
      (pss_one (ps_asg (pe_ix (ix_seqK (K := K)) (pv 5) (pe_un un_neg pe_int) (fun _ _ => rfl)) (pg_name (i := 2) sc_needs_apart.nd rfl (by first | exact Or.inl rfl | exact Or.inr rfl))))) pss_nil)))
      (pss_one (ps_ret (pv 1)))))), ?_⟩
  · rintro ρ R ⟨needs, _, _, rfl, _⟩
    exact ⟨rfl, noOwn (Rs := [_])⟩
  · rintro ρ R ⟨needs, hl, hn, rfl, rfl⟩
    have hs : (sortN needs).length = needs.length := (sortN_perm needs).length_eq
    change Sv _ _ [.rel (dR (.list (needs.map eNeed))), .un, .un, .un, .un, .un] _
    refine sv_seq (sv_own (ds := []) en_lst0 (sv_seq (sv_set (R := dI (-1)) (ev_un ev_int ud_neg) (sv_seq (sv_for (xs := sortN needs) (Rx := fun n => dR (eNeed n)) (fun i ρ1 => ∃ s3 s4 s5 : Slot, ρ1 = [.rel (dR (.list (needs.map eNeed))), .own ((greedy (-1) ((sortN needs).take i)).map eApart), .rel (dI (endOf (-1) ((sortN needs).take i))), s3, s4, s5])
      (ei_mapL (ev_sortKey (ev_var rfl) (by omega) fun n hn' => ⟨(hn n hn').1, by have := (hn n hn').2; omega⟩)) ⟨_, _, _, rfl⟩ ?_ ?_)))))
    · rintro i n ρ1 hx ⟨s3, s4, s5, rfl⟩
      refine ⟨_, _, tg_tup3, ?_⟩
      have hm : n ∈ needs := (sortN_perm needs).mem_iff.mp (List.mem_of_getElem? hx)
      obtain ⟨n1, n2⟩ := hn n hm
      obtain ⟨x, hxl⟩ : ∃ x, n.2.2.getLast? = some x := ⟨_, List.getLast?_eq_getLast n1⟩
      obtain ⟨y, hy⟩ : ∃ y, n.2.2.head? = some y := ⟨_, List.head?_eq_head n1⟩
      have e1 := at_last (f := dN) hxl
      have e2 := at_zero (f := dN) hy
      have ef : firstN n = y := by
        unfold firstN
        rw [List.headD_eq_head?_getD, hy]
        rfl
      have el : lastN n = x := by
        unfold lastN
        rw [List.getLastD_eq_getLast?, hxl]
        rfl
      have et : (sortN needs).take (i + 1) = (sortN needs).take i ++ [n] := by
        rw [List.take_add_one, hx]
        rfl
      refine sv_if (b := decide (endOf (-1) ((sortN needs).take i) < (firstN n : Int))) (et_test (ev_op (ev_op (ev_var rfl) ev_int (od_ixL e2)) (ev_var rfl) (ef ▸ od_gt))) (fun h1 => ?_) (fun h1 => ?_)
      · have h1 := of_decide_eq_true h1
        have gl : (greedy (-1) ((sortN needs).take i)).length ≤ 100 := by
          have := greedy_len ((sortN needs).take i) (-1)
          have h2 := List.length_take_le i (sortN needs)
          rw [List.length_take] at this
          omega
        refine sv_seq (sv_app (d := eApart n) rfl (ev_tup2 (ev_var rfl) (ev_var rfl)) (by rw [List.length_map]; omega) (sv_set (ev_op (ev_var rfl) (ev_un ev_int ud_neg) (od_ixL e1)) ⟨.rel (dR (dN n.1)), .rel (dR (dN n.2.1)), .rel (dR (nL n.2.2)), ?_⟩))
        rw [et, greedy_snoc, endOf_snoc, if_pos h1, if_pos h1, List.map_append, el]
        rfl
      · have h1 := of_decide_eq_false h1
        refine sv_next ⟨.rel (dR (dN n.1)), .rel (dR (dN n.2.1)), .rel (dR (nL n.2.2)), ?_⟩
        rw [et, greedy_snoc, endOf_snoc, if_neg h1, if_neg h1, List.append_nil]
        rfl
    · rintro ρ1 ⟨s3, s4, s5, rfl⟩
      rw [List.take_length]
      exact sv_freeze (i := 1) rfl (sv_ret (ev_var rfl) (show Rel.le _ _ from Rel.le_refl _))
/-! ### fewest -/
abbrev s_Wishes_fewest : Stmt := inClass (topS 19) 3
abbrev N_Wishes_fewest : List Str := ["self", "needs", "part", "number", "fields", "stretches", "need", "apart", "size", "spare"]
theorem sc_Wishes_fewest : FnScope N_Wishes_fewest ["self"] (defScope s_Wishes_fewest) := ⟨rfl, rfl, rfl, by decide +kernel, rfl, by decide +kernel, by decide +kernel⟩
def po_fewest (C : Addr) : List Slot → Rel → Prop := fun ρ R => ∃ W : Wish, WOk W ∧ ρ = [.rel (rW C W)] ∧ R = dR (fewestM W)
theorem ok_fewest (T : Tx K mg) (Tw : Tc K mg C) (M_needs : CalM P w K mg base C "needs" 2 ["self"] (spS G (po_needs C))) (C_is_stretch : Cal P w K mg base "is_stretch" 1 ["fields"] (spS G po_stretch))
    (C_needs_apart : Cal P w K mg base "needs_apart" 1 ["needs"] (spS G po_apart)) (C_picks : Cal P w K mg base "picks" 6 ["things", "size"] (spS G (po_picks 6))) (C_missed : Cal P w K mg base "missed" 1 ["needs", "spare"] (spS G po_missed))
    (D : DfM K C "fewest" "Wishes.fewest" s_Wishes_fewest ["self"]) : CalM P w K mg base C "fewest" 7 ["self"] (spS G (po_fewest C)) := by
  refine calm_df D Tw.cl sc_Wishes_fewest ?_ fun f cdv A outer s H E hr => ⟨_, (pss_cons (ps_asg (pe_calm0 M_needs hr (pv 0)) (pg_name (i := 1) sc_Wishes_fewest.nd rfl (by first | exact Or.inl rfl | exact Or.inr rfl)))
      (pss_cons (ps_for PassesOwn.never rfl (pi_seqK (K := K) (pv 1)) (pg_tupK (K := K) rfl (pgs_cons (pg_name (i := 2) sc_Wishes_fewest.nd rfl (by first | exact Or.inl rfl | exact Or.inr rfl)) (pgs_cons (pg_name (i := 3) sc_Wishes_fewest.nd rfl (by first | exact Or.inl rfl | exact Or.inr rfl)) (pgs_cons (pg_name (i := 4) sc_Wishes_fewest.nd rfl (by first | exact Or.inl rfl | exact Or.inr rfl)) pgs_nil)))) (pss_one (ps_if (pt_cmpR (op_eqK (K := K) hr) (pv 4) (pe_lst pa_nil) (nomark _)) (pss_one (ps_ret (pe_tup (pa_cons pe_str (pa_cons (pv 2) (pa_cons (pv 3) pa_nil)))))) pss_nil)))
      (pss_cons (ps_setLc (i := 5) (own := [("need", 6)]) rfl sc_Wishes_fewest.nd rfl (by rfl) (sw_true rfl rfl rfl (by decide +kernel)) (pi_seqK (K := K) (pv 1)) (blkOk_by (by kernel_rfl)) (fun _ _ _ _ _ => (pg_name (i := 6) sc_Wishes_fewest.nd rfl (by first | exact Or.inl rfl | exact Or.inr rfl))) (fun _ _ _ _ _ => (pts_one (pt_val (pe_cal C_is_stretch hr (pa_cons (pe_ix (ix_seqK (K := K)) (pv 6) pe_int (fun _ _ => rfl)) pa_nil))))) (fun _ _ _ _ _ => (pv 6)))
      (pss_cons (ps_asg (pe_ifExp (pt_cmpR (op_eqK (K := K) hr) (pe_callB (call_lenK (K := K)) (by rfl) T.len_ PySem.boot_len (pa_cons (pv 5) pa_nil)) (pe_callB (call_lenK (K := K)) (by rfl) T.len_ PySem.boot_len (pa_cons (pv 1) pa_nil)) (nomark _)) (pe_cal C_needs_apart hr (pa_cons (pv 1) pa_nil)) pe_non) (pg_name (i := 7) sc_Wishes_fewest.nd rfl (by first | exact Or.inl rfl | exact Or.inr rfl)))
      (pss_cons (ps_for PassesOwn.never rfl (pi_range1 (by rfl) T.range_ (pa_cons (pe_op (op_plusK (K := K)) (pe_fldK (K := K) (pv 0) rfl) pe_int) pa_nil)) (pg_name (i := 8) sc_Wishes_fewest.nd rfl (by first | exact Or.inl rfl | exact Or.inr rfl)) (pss_one (ps_for PassesOwn.never rfl (pi_seqK (K := K) (pe_cal C_picks hr (pa_cons (pe_listRg rfl (by rfl) T.list_ (prg_1 (by rfl) T.range_ (pe_fldK (K := K) (pv 0) rfl))) (pa_cons (pv 8) pa_nil)))) (pg_name (i := 9) sc_Wishes_fewest.nd rfl (by first | exact Or.inl rfl | exact Or.inr rfl)) (pss_one (ps_if (pt_cmpR op_isN (pe_cal C_missed hr (pa_cons (pv 1) (pa_cons (pv 9) pa_nil))) pe_non (nomark _)) (pss_one (ps_ret (pe_tup (pa_cons pe_str (pa_cons (pv 9) (pa_cons (pv 7) pa_nil)))))) pss_nil)))))
      (pss_one (ps_ret (pe_tup (pa_cons pe_str (pa_cons (pe_listRg rfl (by rfl) T.list_ (prg_1 (by rfl) T.range_ (pe_fldK (K := K) (pv 0) rfl))) (pa_cons (pv 7) pa_nil))))))))))), ?_⟩
  · rintro ρ R ⟨W, _, rfl, _⟩
    exact ⟨rfl, fun j es h => by match j, h with | 0, h => cases h | j + 1, h => simp at h⟩
  · rintro ρ R ⟨W, ok, rfl, rfl⟩
    change Sv G _ [.rel (rW C W), .un, .un, .un, .un, .un, .un, .un, .un, .un] _
    have n24 := needs_24 ok
    have few := fun n (h : n ∈ needsM W) => needs_few ok h
    have f5 := ok.f5
    refine sv_seq (sv_set (R := dR (.list ((needsM W).map eNeed))) (ev_meth (As := []) (ev_var rfl) rfl as_nil ⟨W, ok, rfl, rfl⟩) (sv_cut (fun ρ1 => ∃ s2 s3 s4 : Slot, ρ1 = [.rel (rW C W), .rel (dR (.list ((needsM W).map eNeed))), s2, s3, s4, .un, .un, .un, .un, .un] ∧ ∀ n, n ∈ needsM W → n.2.2.isEmpty = false)
      (sv_for (xs := needsM W) (Rx := fun n => dR (eNeed n)) (fun i ρ1 => ∃ s2 s3 s4 : Slot, ρ1 = [.rel (rW C W), .rel (dR (.list ((needsM W).map eNeed))), s2, s3, s4, .un, .un, .un, .un, .un] ∧ ∀ n, n ∈ (needsM W).take i → n.2.2.isEmpty = false)
        (ei_mapL (ev_var rfl)) ⟨_, _, _, rfl, fun n hn => by simp at hn⟩ ?_ ?_) ?_))
    · rintro i n ρ1 hx ⟨s2, s3, s4, rfl, hb⟩
      refine ⟨_, _, tg_tup3, ?_⟩
      have hm : n ∈ needsM W := List.mem_of_getElem? hx
      refine sv_if (b := n.2.2.isEmpty) ?_ (fun hb1 => ?_) (fun hb1 => ?_)
      · refine et_test (Ev.to (ev_op (ev_var rfl) ev_lst0 (od_eq0 (sh_nL _) (by decide))) ?_)
        rw [List.isEmpty_map]
      · refine sv_ret (R := dR (.tuple [.str "never", dN n.1, dN n.2.1])) (ev_tup3 ev_str (ev_var rfl) (ev_var rfl)) ?_
        show Rel.le _ _
        have e : (needsM W).find? (fun n => n.2.2.isEmpty) = some n := find_split hx hb hb1
        unfold fewestM
        rw [e]
        exact Rel.le_refl _
      · refine sv_next ⟨_, _, _, rfl, fun m hm => ?_⟩
        rw [List.take_add_one, hx] at hm
        rcases List.mem_append.mp hm with h | h
        · exact hb m h
        · have : m = n := by simpa using h
          rw [this]; exact hb1
    · rintro ρ1 ⟨s2, s3, s4, rfl, hb⟩
      rw [List.take_length] at hb
      exact ⟨_, _, _, rfl, hb⟩
    · rintro ρ1 ⟨s2, s3, s4, rfl, hb⟩
      have hne : ∀ n, n ∈ needsM W → n.2.2 ≠ [] := fun n hn z => by
        have := hb n hn
        rw [z] at this
        cases this
      have e0 : (needsM W).find? (fun n => n.2.2.isEmpty) = none := List.find?_eq_none.mpr fun n hn => by rw [hb n hn]; exact Bool.false_ne_true
      have eF : fewestM W = .tuple [.str "fields", nL (spareM W.fields (needsM W)), eOptApart (needsM W)] := by
        unfold fewestM
        rw [e0]
      refine sv_seq (sv_set (R := dR (.list (((needsM W).filter fun n => stretchN n.2.2).map eNeed))) (ev_lc1 (xs := needsM W) (Rx := fun n => dR (eNeed n)) (s0 := .un) (fun n => stretchN n.2.2) eNeed (ei_mapL (ev_var rfl)) (by omega) rfl (fun z => z)
        fun n hn => ⟨et_test (ev_call (As := [.rel (dR (nL n.2.2))]) (as_rel (ev_op (ev_var rfl) ev_int (od_ixT rfl)) as_nil) ⟨n.2.2, hne n hn, rfl, rfl⟩), fun _ => ev_var rfl⟩) ?_)
      refine sv_seq (sv_set (R := dR (eOptApart (needsM W))) (ev_if (b := decide (((needsM W).filter fun n => stretchN n.2.2).length = (needsM W).length)) (et_test (Ev.to (ev_op (ev_lenM (ev_var rfl)) (ev_lenM (ev_var rfl)) od_eqI) ?_)) (fun hs => ?_) (fun hs => ?_)) ?_)
      · exact congrArg dB (decide_eq_decide.mpr Int.ofNat_inj)
      · have hs := of_decide_eq_true hs
        have ha : ((needsM W).all fun n => stretchN n.2.2) = true := List.all_eq_true.mpr (List.length_filter_eq_length_iff.mp hs)
        unfold eOptApart
        rw [ha, if_pos rfl]
        exact ev_call (As := [.rel (dR (.list ((needsM W).map eNeed)))]) (as_rel (ev_var rfl) as_nil) ⟨needsM W, by omega, fun n hn => ⟨hne n hn, by have := few n hn; omega⟩, rfl, rfl⟩
      · have hs := of_decide_eq_false hs
        have ha : ((needsM W).all fun n => stretchN n.2.2) = false := Bool.eq_false_iff.mpr fun z => hs (List.length_filter_eq_length_iff.mpr (List.all_eq_true.mp z))
        unfold eOptApart
        rw [ha, if_neg Bool.false_ne_true]
        exact ev_non
      · refine sv_cut (fun ρ1 => ∃ s2 s3 s4 s6 s8 s9 : Slot, ρ1 = [.rel (rW C W), .rel (dR (.list ((needsM W).map eNeed))), s2, s3, s4, .rel (dR (.list (((needsM W).filter fun n => stretchN n.2.2).map eNeed))), s6, .rel (dR (eOptApart (needsM W))), s8, s9] ∧ (spares W.fields).find? (fun sp => (missedM (needsM W) sp).isNone) = none)
          (sv_for1 (xs := List.range (W.fields + 1)) (Rx := fun (i : Nat) => dI (i : Int)) (fun i ρ1 => ∃ s2 s3 s4 s6 s8 s9 : Slot, ρ1 = [.rel (rW C W), .rel (dR (.list ((needsM W).map eNeed))), s2, s3, s4, .rel (dR (.list (((needsM W).filter fun n => stretchN n.2.2).map eNeed))), s6, .rel (dR (eOptApart (needsM W))), s8, s9] ∧
              (((List.range i).map fun k => picksM k (List.range W.fields)).flatten).find? (fun sp => (missedM (needsM W) sp).isNone) = none)
            (ei_range1 (ea_cons (ev_op (ev_fld (ev_var rfl) Tw.cl Tw.nF (wF W)) ev_int od_plusI) ea_nil) (by omega)) ⟨_, _, _, _, _, _, rfl, rfl⟩ ?_ ?_) ?_
        · rintro i x ρ1 hx ⟨s2, s3, s4, s6, s8, s9, rfl, hf⟩
          obtain ⟨ex, hi⟩ := range_at hx
          subst ex
          refine sv_for1 (xs := picksM x (List.range W.fields)) (Rx := fun r => dR (nL r)) (fun j ρ2 => ∃ s9 : Slot, ρ2 = [.rel (rW C W), .rel (dR (.list ((needsM W).map eNeed))), s2, s3, s4, .rel (dR (.list (((needsM W).filter fun n => stretchN n.2.2).map eNeed))), s6, .rel (dR (eOptApart (needsM W))), .rel (dI (x : Int)), s9] ∧
              (((List.range x).map fun k => picksM k (List.range W.fields)).flatten ++ (picksM x (List.range W.fields)).take j).find? (fun sp => (missedM (needsM W) sp).isNone) = none)
            (ei_mapL (ev_call (As := [.rel (dR (nL (List.range W.fields))), .rel (dR (dN x))]) (as_rel (ev_listRgN (ev_fld (ev_var rfl) Tw.cl Tw.nF (wF W)) (by omega)) (as_rel (ev_var rfl) as_nil)) ⟨List.range W.fields, x, by rw [List.length_range]; omega, by omega, rfl, rfl⟩)) ⟨_, rfl, by rw [List.take_zero, List.append_nil]; exact hf⟩ ?_ ?_
          · rintro j sp ρ2 hs ⟨s9, rfl, hf2⟩
            refine sv_if (b := (missedM (needsM W) sp).isNone) (et_test (Ev.to (ev_op (ev_call (As := [.rel (dR (.list ((needsM W).map eNeed))), .rel (dR (nL sp))]) (as_rel (ev_var rfl) (as_rel (ev_var rfl) as_nil)) ⟨needsM W, sp, fun n hn => by have := few n hn; omega, rfl, rfl⟩) ev_non od_isN) (congrArg dB (eMiss_isNone _)))) (fun h1 => ?_) (fun h1 => ?_)
            · refine sv_ret (ev_tup3 ev_str (ev_var rfl) (ev_var rfl)) ?_
              show Rel.le _ _
              rw [eF]
              unfold spareM
              rw [spare_hit (p := fun sp => (missedM (needsM W) sp).isNone) hi hf2 hs h1]
              exact Rel.le_refl _
            · refine sv_next ⟨_, rfl, ?_⟩
              rw [List.take_add_one, hs, ← List.append_assoc, List.find?_append, hf2]
              show List.find? (fun sp => (missedM (needsM W) sp).isNone) [sp] = none
              rw [List.find?_cons, h1]
              rfl
          · rintro ρ2 ⟨s9, rfl, hf2⟩
            rw [List.take_length, ← spares_take _ _ hi] at hf2
            exact ⟨_, _, _, _, _, _, rfl, hf2⟩
        · rintro ρ1 ⟨s2, s3, s4, s6, s8, s9, rfl, hf⟩
          rw [List.length_range] at hf
          exact ⟨_, _, _, _, _, _, rfl, hf⟩
        · rintro ρ1 ⟨s2, s3, s4, s6, s8, s9, rfl, hf⟩
          refine sv_ret (ev_tup3 ev_str (ev_listRgN (ev_fld (ev_var rfl) Tw.cl Tw.nF (wF W)) (by omega)) (ev_var rfl)) ?_
          show Rel.le _ _
          rw [eF]
          unfold spareM
          rw [hf]
          exact Rel.le_refl _
end
end K48
set_option Elab.async false
set_option linter.all false
set_option maxRecDepth 100000
/-! Cg: Wishes made. -/
namespace K48
open PySem L2 Dx WM
section
variable {P : Program} {w : World} {K : PySem.W.Frag} {mg : Str → Option Value} {base : Heap} {G : Glob} {C : Addr}
abbrev s_Wishes___init__ : Stmt := inClass (topS 19) 0
abbrev N_Wishes___init__ : List Str := ["self", "fields", "forms", "keeps", "renews", "form", "numbers"]
theorem sc_Wishes___init__ : FnScope N_Wishes___init__ ["self", "fields", "forms", "keeps", "renews"] (defScope s_Wishes___init__) := ⟨rfl, rfl, rfl, by decide +kernel, rfl, by decide +kernel, by decide +kernel⟩
/-- the fields' values, read off F -/
def FieldsIn (W : Wish) (F : Hp) (fs : List (Str × V)) : Prop := (∀ f R, (wFields W).lookup f = some R → ∃ y, fs.lookup f = some y ∧ R.p F y) ∧ ∀ f, (wFields W).lookup f = none → fs.lookup f = none
def spInit (G : Glob) (C : Addr) : Sp := fun vs H Q _ => ∃ (x dx : Addr) (ws : List V) (F : Hp) (W : Wish), vs = .ref x :: ws ∧ EnvOk G ((eWL W).map fun d => .rel (dR d)) F H (ws.map some) ∧ WOk W ∧ H x = some (.ins C dx []) ∧ F x = none ∧
  ∀ H' F2 fs, Rw G (fun a => a = x) H H' → H' x = some (.ins C dx fs) → Same F2 H' → (∀ a, F2 a ≠ none → H a = none) → FieldsIn W F2 fs → Q .non H'
theorem fields_in {W : Wish} {F : Hp} {y1 y2 y3 y4 : V} (h1 : Dq F y1 (dN W.fields)) (h2 : Dq F y2 (.list (W.forms.map nT))) (h3 : Dq F y3 (.list (W.keeps.map nL))) (h4 : Dq F y4 (.list (W.renews.map nL))) :
    FieldsIn W F (putF "held_renews" y4 (putF "held_keeps" y3 (putF "held_forms" y2 (putF "held_fields" y1 [])))) := by
  have key : ∀ f : Str, (f = "held_fields" ∧ (wFields W).lookup f = some (dR (dN W.fields)) ∧ (putF "held_renews" y4 (putF "held_keeps" y3 (putF "held_forms" y2 (putF "held_fields" y1 [])))).lookup f = some y1) ∨
      (f = "held_forms" ∧ (wFields W).lookup f = some (dR (.list (W.forms.map nT))) ∧ (putF "held_renews" y4 (putF "held_keeps" y3 (putF "held_forms" y2 (putF "held_fields" y1 [])))).lookup f = some y2) ∨
      (f = "held_keeps" ∧ (wFields W).lookup f = some (dR (.list (W.keeps.map nL))) ∧ (putF "held_renews" y4 (putF "held_keeps" y3 (putF "held_forms" y2 (putF "held_fields" y1 [])))).lookup f = some y3) ∨
      (f = "held_renews" ∧ (wFields W).lookup f = some (dR (.list (W.renews.map nL))) ∧ (putF "held_renews" y4 (putF "held_keeps" y3 (putF "held_forms" y2 (putF "held_fields" y1 [])))).lookup f = some y4) ∨
      ((wFields W).lookup f = none ∧ (putF "held_renews" y4 (putF "held_keeps" y3 (putF "held_forms" y2 (putF "held_fields" y1 [])))).lookup f = none) := fun f => by
    simp only [lookup_putF]
    have n12 : ("held_fields" : Str) ≠ "held_forms" := by decide
    have n13 : ("held_fields" : Str) ≠ "held_keeps" := by decide
    have n14 : ("held_fields" : Str) ≠ "held_renews" := by decide
    have n23 : ("held_forms" : Str) ≠ "held_keeps" := by decide
    have n24 : ("held_forms" : Str) ≠ "held_renews" := by decide
    have n34 : ("held_keeps" : Str) ≠ "held_renews" := by decide
    by_cases q1 : f = "held_fields"
    · subst q1
      exact .inl ⟨rfl, rfl, by rw [if_neg n14, if_neg n13, if_neg n12, if_pos rfl]⟩
    by_cases q2 : f = "held_forms"
    · subst q2
      exact .inr (.inl ⟨rfl, rfl, by rw [if_neg n24, if_neg n23, if_pos rfl]⟩)
    by_cases q3 : f = "held_keeps"
    · subst q3
      exact .inr (.inr (.inl ⟨rfl, rfl, by rw [if_neg n34, if_pos rfl]⟩))
    by_cases q4 : f = "held_renews"
    · subst q4
      exact .inr (.inr (.inr (.inl ⟨rfl, rfl, by rw [if_pos rfl]⟩)))
    refine .inr (.inr (.inr (.inr ⟨?_, by rw [if_neg q4, if_neg q3, if_neg q2, if_neg q1]; rfl⟩)))
    unfold wFields
    simp only [List.lookup_cons, beq_false_of_ne q1, beq_false_of_ne q2, beq_false_of_ne q3, beq_false_of_ne q4]
    rfl
  refine ⟨fun f R h => ?_, fun f h => ?_⟩
  · rcases key f with ⟨_, e1, e2⟩ | ⟨_, e1, e2⟩ | ⟨_, e1, e2⟩ | ⟨_, e1, e2⟩ | ⟨e1, e2⟩
    · rw [e1] at h; cases h; exact ⟨_, e2, h1⟩
    · rw [e1] at h; cases h; exact ⟨_, e2, h2⟩
    · rw [e1] at h; cases h; exact ⟨_, e2, h3⟩
    · rw [e1] at h; cases h; exact ⟨_, e2, h4⟩
    · rw [e1] at h; cases h
  · rcases key f with ⟨_, e1, e2⟩ | ⟨_, e1, e2⟩ | ⟨_, e1, e2⟩ | ⟨_, e1, e2⟩ | ⟨e1, e2⟩
    · rw [e1] at h; cases h
    · rw [e1] at h; cases h
    · rw [e1] at h; cases h
    · rw [e1] at h; cases h
    · exact e2
theorem put_le {f : Str} {v : V} : ∀ {fs : List (Str × V)} {n : Nat}, fs.length ≤ n → (putF f v fs).length ≤ n + 1
  | [], n, _ => by simp [putF]
  | (g, x) :: r, n, h => by
    unfold putF
    split
    · simp at h ⊢; omega
    · have : r.length ≤ n - 1 := by simp at h; omega
      have := put_le (f := f) (v := v) this
      simp at h ⊢; omega
theorem ok_init (T : Tx K mg) (Tw : Tc K mg C) (C_check_wishes : Cal P w K mg base "check_wishes" 2 ["fields", "forms", "keeps", "renews"] (spS G po_checkW)) (D : DfI K C "Wishes.__init__" s_Wishes___init__ ["self", "fields", "forms", "keeps", "renews"]) :
    MkC P w K mg base C "Wishes" 3 ["self", "fields", "forms", "keeps", "renews"] (spInit G C) := by
  refine mk_raw D Tw.mgC sc_Wishes___init__ ?_ fun f cdv A outer s H E hr => ⟨_, (pss_cons (ps_expr (pe_cal C_check_wishes hr (pa_cons (pv 1) (pa_cons (pv 2) (pa_cons (pv 3) (pa_cons (pv 4) pa_nil))))))
      (pss_cons (ps_fld (pv 0) (pv 1) rfl)
      (pss_cons (ps_fld (pv 0) (pe_lc (own := [("form", 5)]) rfl sc_Wishes___init__.nd (pi_seqK (K := K) (pv 2)) (blkOk_by (by kernel_rfl)) (fun _ _ _ _ _ => (pg_name (i := 5) sc_Wishes___init__.nd rfl (by first | exact Or.inl rfl | exact Or.inr rfl))) (fun _ _ _ _ _ => pts_nil) (fun _ _ _ _ _ => (pe_callTy (call_tupleK (K := K)) (by rfl) T.tuple_ (by decide +kernel) (pa_cons (pv 5) pa_nil)))) rfl)
      (pss_cons (ps_fld (pv 0) (pe_lc (own := [("numbers", 6)]) rfl sc_Wishes___init__.nd (pi_seqK (K := K) (pv 3)) (blkOk_by (by kernel_rfl)) (fun _ _ _ _ _ => (pg_name (i := 6) sc_Wishes___init__.nd rfl (by first | exact Or.inl rfl | exact Or.inr rfl))) (fun _ _ _ _ _ => pts_nil) (fun _ _ _ _ _ => (pe_callTy (call_listK (K := K)) (by rfl) T.list_ (by decide +kernel) (pa_cons (pv 6) pa_nil)))) rfl)
      (pss_one (ps_fld (pv 0) (pe_lc (own := [("numbers", 6)]) rfl sc_Wishes___init__.nd (pi_seqK (K := K) (pv 4)) (blkOk_by (by kernel_rfl)) (fun _ _ _ _ _ => (pg_name (i := 6) sc_Wishes___init__.nd rfl (by first | exact Or.inl rfl | exact Or.inr rfl))) (fun _ _ _ _ _ => pts_nil) (fun _ _ _ _ _ => (pe_callTy (call_listK (K := K)) (by rfl) T.list_ (by decide +kernel) (pa_cons (pv 6) pa_nil)))) rfl)))))), ?_⟩
  · rintro vs H Q E ⟨x, dx, ws, F, W, rfl, E0, _⟩
    have := E0.len
    rw [List.length_map] at this
    rw [List.length_cons, this]
    rfl
  · rintro vs Q ⟨x, dx, ws, F, W, rfl, E0, ok, hx, fx, q⟩
    have E1 : EnvOk G [.un, .rel (dR (dN W.fields)), .rel (dR (.list (W.forms.map nL))), .rel (dR (.list (W.keeps.map nL))), .rel (dR (.list (W.renews.map nL))), .un, .un] F H (L2.start N_Wishes___init__ (.ref x :: ws)) := (E0.cons (v := .ref x)).start (N := N_Wishes___init__) (vs := .ref x :: ws)
    have nm : Tame [.un, .rel (dR (dN W.fields)), .rel (dR (.list (W.forms.map nL))), .rel (dR (.list (W.keeps.map nL))), .rel (dR (.list (W.renews.map nL))), .un, .un] := tame_of (by simp [Slot.mine])
    have hs : (L2.start N_Wishes___init__ (.ref x :: ws))[0]? = some (some (.ref x)) := rfl
    generalize L2.start N_Wishes___init__ (.ref x :: ws) = σ at E1 hs
    have nA : ∀ H', Tabled G H' → ∀ fs, H' x = some (.ins C dx fs) → ¬ G.A x := fun H' t fs e z => by
      obtain ⟨ps, e2⟩ := t x z
      rw [e] at e2
      cases e2
    have n0 := nA _ E1.tabled _ hx
    dsimp only [tSeq, sFld, tDrop]
    refine ev_raw (ev_call (As := (eWL W).map fun d => .rel (dR d)) (as_rel (ev_var (i := 1) rfl) (as_rel (ev_var (i := 2) rfl) (as_rel (ev_var (i := 3) rfl) (as_rel (ev_var (i := 4) rfl) as_nil)))) ⟨W, ok, rfl, rfl⟩) nm E1 fun _ H1 _ r1 E2 _ _ _ _ => ?_
    have hx1 := r1.ext x _ (fun z => z) n0 hx
    have rx : ∀ {H' : Hp} {fs gs : List (Str × V)}, H' x = some (.ins C dx fs) → Rw G (fun a => a = x) H' (upd H' x (.ins C dx gs)) := fun e => .upd e rfl (fun ps z => by cases z) fun φ z => by cases z
    have fb : ∀ a, F a ≠ none → ¬ a = x := fun a h e => h (by rw [e]; exact fx)
    -- held_fields
    refine ev_raw (ev_var (i := 1) rfl) nm E2 fun F2 H2 y r2 E3 _ _ _ hy => ⟨.ref x, hs, x, C, dx, [], rfl, r2.ext x _ (fun z => z) n0 hx1, Tw.cl, Tw.nF, by decide, ?_⟩
    have hx2 := r2.ext x _ (fun z => z) n0 hx1
    have E4 := E3.rw nm (rx (gs := putF "held_fields" y []) hx2) fb
    have hx3 : upd H2 x (.ins C dx (putF "held_fields" y [])) x = some (.ins C dx (putF "held_fields" y [])) := upd_same
    have R3 : Rw G (fun a => a = x) H (upd H2 x (.ins C dx (putF "held_fields" y []))) := ((r1.trans r2).mono fun _ z => z.elim).trans (rx hx2)
    generalize upd H2 x (.ins C dx (putF "held_fields" y [])) = H3 at E4 hx3 R3
    -- held_forms
    have six := ok.six
    have four := ok.four
    have kr := ok.kr
    refine ef_raw (ef_map1 (xs := W.forms) (Rx := fun f => dR (nL f)) (s0 := .un) (fun f => nT f) (ei_mapL (ev_var (i := 2) rfl)) (by omega) rfl (fun z => z) fun f hf => ef_tuple (ev_var rfl)) nm E4 fun H4 Fo vo r4 E5 so dO hvo => ⟨.ref x, hs, x, C, dx, _, rfl, r4.ext x _ (fun z => z) n0 hx3, Tw.cl, Tw.nO, Nat.lt_of_le_of_lt (put_le (Nat.le_refl 0)) (by decide), ?_⟩
    have hx4 := r4.ext x _ (fun z => z) n0 hx3
    have no : ∀ a, Fo a ≠ none → ¬ a = x := fun a h e => by
      have := dO a h
      rw [e, hx3] at this
      cases this
    have to := new_tab E4.tabled dO
    have E6 := E5.rw nm (rx (gs := putF "held_forms" vo (putF "held_fields" y [])) hx4) fb
    have so2 := (rx (gs := putF "held_forms" vo (putF "held_fields" y [])) hx4).part so to no
    have R5 := (R3.trans (r4.mono fun _ z => z.elim)).trans (rx (gs := putF "held_forms" vo (putF "held_fields" y [])) hx4)
    have dO0 : ∀ a, Fo a ≠ none → H a = none := fun a h => fresh_rw R3 (dO a h)
    have hx5 : upd H4 x (.ins C dx (putF "held_forms" vo (putF "held_fields" y []))) x = some (.ins C dx (putF "held_forms" vo (putF "held_fields" y []))) := upd_same
    generalize upd H4 x (.ins C dx (putF "held_forms" vo (putF "held_fields" y []))) = H5 at E6 hx5 R5 so2
    -- held_keeps
    refine ef_raw (ef_map1 (xs := W.keeps) (Rx := fun f => dR (nL f)) (s0 := .un) (fun f => nL f) (ei_mapL (ev_var (i := 3) rfl)) (by omega) rfl (fun z => z) fun f hf => ef_list (ev_var rfl) (.inl rfl)) nm E6 fun H6 Fk vk r6 E7 sk dK hvk => ⟨.ref x, hs, x, C, dx, _, rfl, r6.ext x _ (fun z => z) n0 hx5, Tw.cl, Tw.nK, Nat.lt_of_le_of_lt (put_le (put_le (Nat.le_refl 0))) (by decide), ?_⟩
    have hx6 := r6.ext x _ (fun z => z) n0 hx5
    have nk : ∀ a, Fk a ≠ none → ¬ a = x := fun a h e => by
      have := dK a h
      rw [e, hx5] at this
      cases this
    have tk := new_tab E6.tabled dK
    have E8 := E7.rw nm (rx (gs := putF "held_keeps" vk (putF "held_forms" vo (putF "held_fields" y []))) hx6) fb
    have so3 := (rx (gs := putF "held_keeps" vk (putF "held_forms" vo (putF "held_fields" y []))) hx6).part (r6.part so2 to fun _ _ z => z) to no
    have sk2 := (rx (gs := putF "held_keeps" vk (putF "held_forms" vo (putF "held_fields" y []))) hx6).part sk tk nk
    have R7 := (R5.trans (r6.mono fun _ z => z.elim)).trans (rx (gs := putF "held_keeps" vk (putF "held_forms" vo (putF "held_fields" y []))) hx6)
    have dK0 : ∀ a, Fk a ≠ none → H a = none := fun a h => fresh_rw R5 (dK a h)
    have oK : ∀ a, Fk a ≠ none → Fo a = none := fun a h => by
      cases e : Fo a with
      | none => rfl
      | some o => have := so2 a o e; rw [dK a h] at this; cases this
    have hx7 : upd H6 x (.ins C dx (putF "held_keeps" vk (putF "held_forms" vo (putF "held_fields" y [])))) x = some (.ins C dx (putF "held_keeps" vk (putF "held_forms" vo (putF "held_fields" y [])))) := upd_same
    generalize upd H6 x (.ins C dx (putF "held_keeps" vk (putF "held_forms" vo (putF "held_fields" y [])))) = H7 at E8 hx7 R7 so3 sk2
    -- held_renews
    refine ef_raw (ef_map1 (xs := W.renews) (Rx := fun f => dR (nL f)) (s0 := .un) (fun f => nL f) (ei_mapL (ev_var (i := 4) rfl)) (by omega) rfl (fun z => z) fun f hf => ef_list (ev_var rfl) (.inl rfl)) nm E8 fun H8 Fr vr r8 E9 sr dR' hvr => ⟨.ref x, hs, x, C, dx, _, rfl, r8.ext x _ (fun z => z) n0 hx7, Tw.cl, Tw.nR, Nat.lt_of_le_of_lt (put_le (put_le (put_le (Nat.le_refl 0)))) (by decide), ?_⟩
    have hx8 := r8.ext x _ (fun z => z) n0 hx7
    have nr : ∀ a, Fr a ≠ none → ¬ a = x := fun a h e => by
      have := dR' a h
      rw [e, hx7] at this
      cases this
    have tr := new_tab E8.tabled dR'
    have so4 := (rx (gs := putF "held_renews" vr (putF "held_keeps" vk (putF "held_forms" vo (putF "held_fields" y [])))) hx8).part (r8.part so3 to fun _ _ z => z) to no
    have sk4 := (rx (gs := putF "held_renews" vr (putF "held_keeps" vk (putF "held_forms" vo (putF "held_fields" y [])))) hx8).part (r8.part sk2 tk fun _ _ z => z) tk nk
    have sr4 := (rx (gs := putF "held_renews" vr (putF "held_keeps" vk (putF "held_forms" vo (putF "held_fields" y [])))) hx8).part sr tr nr
    have R9 := (R7.trans (r8.mono fun _ z => z.elim)).trans (rx (gs := putF "held_renews" vr (putF "held_keeps" vk (putF "held_forms" vo (putF "held_fields" y [])))) hx8)
    have oR : ∀ a, Fr a ≠ none → uni Fo Fk a = none := fun a h => by
      cases e : uni Fo Fk a with
      | none => rfl
      | some o =>
        rcases uni_in (show uni Fo Fk a ≠ none by rw [e]; exact fun z => by cases z) with z | z
        · cases e1 : Fo a with
          | none => exact absurd e1 z
          | some u => have := so3 a u e1; rw [dR' a h] at this; cases this
        · cases e1 : Fk a with
          | none => exact absurd e1 z
          | some u => have := sk2 a u e1; rw [dR' a h] at this; cases this
    have lo : Same Fo (uni (uni Fo Fk) Fr) := uni_l.trans uni_l
    have lk : Same Fk (uni (uni Fo Fk) Fr) := (uni_r oK).trans uni_l
    have lr : Same Fr (uni (uni Fo Fk) Fr) := uni_r oR
    refine q _ (uni (uni Fo Fk) Fr) _ R9 upd_same (uni_sub (uni_sub so4 sk4) sr4) (fun a h => ?_) (fields_in ?_ (Dq.mono lo _ _ hvo) (Dq.mono lk _ _ hvk) (Dq.mono lr _ _ hvr))
    · rcases uni_in h with z | z
      · rcases uni_in z with z | z
        · exact dO0 a z
        · exact dK0 a z
      · exact fresh_rw R7 (dR' a z)
    · cases hy
      exact .int _
end
end K48
set_option Elab.async false
set_option linter.all false
set_option maxRecDepth 100000
/-! Ch: _law_real_wishes. -/
namespace K48
open PySem L2 Dx WM
section
variable {P : Program} {w : World} {K : PySem.W.Frag} {mg : Str → Option Value} {base : Heap} {G : Glob} {C : Addr}
abbrev s_law_real_wishes : Stmt := topS 29
abbrev N_law_real_wishes : List Str := ["wishes", "forms", "form", "keeps", "numbers", "renews", "made"]
theorem sc_law_real_wishes : FnScope N_law_real_wishes ["wishes"] (defScope s_law_real_wishes) := ⟨rfl, rfl, rfl, by decide +kernel, rfl, by decide +kernel, by decide +kernel⟩
def po_real (C : Addr) : List Slot → Rel → Prop := fun ρ R => ∃ W : Wish, WOk W ∧ ρ = [eW W].map (fun d => .rel (dR d)) ∧ R = rW C W
def rVal (u : V) : Rel := ⟨fun _ v => v = u, fun _ h => h⟩
theorem ok_real (T : Tx K mg) (Tw : Tc K mg C) (M_Wishes : MkC P w K mg base C "Wishes" 3 ["self", "fields", "forms", "keeps", "renews"] (spInit G C)) (D : Df K mg "_law_real_wishes" s_law_real_wishes ["wishes"]) :
    Cal P w K mg base "_law_real_wishes" 5 ["wishes"] (spS G (po_real C)) := by
  refine cal_raw D sc_law_real_wishes ?_ fun f cdv A outer s H E hr => ⟨_, (pss_cons (ps_setLc (i := 1) (own := [("form", 2)]) rfl sc_law_real_wishes.nd rfl (by rfl) (sw_true rfl rfl rfl (by decide +kernel)) (pi_seqK (K := K) (pe_ix (ix_seqK (K := K)) (pv 0) pe_int (fun _ _ => rfl))) (blkOk_by (by kernel_rfl)) (fun _ _ _ _ _ => (pg_name (i := 2) sc_law_real_wishes.nd rfl (by first | exact Or.inl rfl | exact Or.inr rfl))) (fun _ _ _ _ _ => pts_nil) (fun _ _ _ _ _ => (pe_callTy (call_listK (K := K)) (by rfl) T.list_ (by decide +kernel) (pa_cons (pv 2) pa_nil))))
      (pss_cons (ps_setLc (i := 3) (own := [("numbers", 4)]) rfl sc_law_real_wishes.nd rfl (by rfl) (sw_true rfl rfl rfl (by decide +kernel)) (pi_seqK (K := K) (pe_ix (ix_seqK (K := K)) (pv 0) pe_int (fun _ _ => rfl))) (blkOk_by (by kernel_rfl)) (fun _ _ _ _ _ => (pg_name (i := 4) sc_law_real_wishes.nd rfl (by first | exact Or.inl rfl | exact Or.inr rfl))) (fun _ _ _ _ _ => pts_nil) (fun _ _ _ _ _ => (pe_callTy (call_listK (K := K)) (by rfl) T.list_ (by decide +kernel) (pa_cons (pv 4) pa_nil))))
      (pss_cons (ps_setLc (i := 5) (own := [("numbers", 4)]) rfl sc_law_real_wishes.nd rfl (by rfl) (sw_true rfl rfl rfl (by decide +kernel)) (pi_seqK (K := K) (pe_ix (ix_seqK (K := K)) (pv 0) pe_int (fun _ _ => rfl))) (blkOk_by (by kernel_rfl)) (fun _ _ _ _ _ => (pg_name (i := 4) sc_law_real_wishes.nd rfl (by first | exact Or.inl rfl | exact Or.inr rfl))) (fun _ _ _ _ _ => pts_nil) (fun _ _ _ _ _ => (pe_callTy (call_listK (K := K)) (by rfl) T.list_ (by decide +kernel) (pa_cons (pv 4) pa_nil))))
      (pss_cons (ps_asg (pe_mk M_Wishes hr (pa_cons (pe_ix (ix_seqK (K := K)) (pv 0) pe_int (fun _ _ => rfl)) (pa_cons (pv 1) (pa_cons (pv 3) (pa_cons (pv 5) pa_nil))))) (pg_name (i := 6) sc_law_real_wishes.nd rfl (by first | exact Or.inl rfl | exact Or.inr rfl)))
      (pss_cons (ps_expr (pe_appK (K := K) (pe_ix (ix_seqK (K := K)) (pv 1) pe_int (fun _ _ => rfl)) pe_int))
      (pss_cons (ps_expr (pe_appK (K := K) (pv 1) (pe_lst (pa_cons pe_int pa_nil))))
      (pss_cons (ps_for PassesOwn.never rfl (pi_seqK (K := K) (pv 3)) (pg_name (i := 4) sc_law_real_wishes.nd rfl (by first | exact Or.inl rfl | exact Or.inr rfl)) (pss_one (ps_expr (pe_appK (K := K) (pv 4) pe_int))))
      (pss_cons (ps_expr (pe_appK (K := K) (pv 5) (pe_lst (pa_cons pe_int pa_nil))))
      (pss_one (ps_ret (pv 6))))))))))), ?_⟩
  · rintro vs H Q E ⟨F, ρ, R, E0, ⟨W, _, rfl, _⟩, _⟩
    have := E0.len
    rw [List.length_map] at this
    exact this
  · rintro vs Q ⟨F, ρ, R, E0, ⟨W, ok, rfl, rfl⟩, q⟩
    have six := ok.six
    have four := ok.four
    have kr := ok.kr
    have nm0 : Tame ([eW W].map fun d => Slot.rel (dR d)) := tame_of (by simp [Slot.mine])
    have E1 : EnvOk G [.rel (dR (eW W)), .un, .un, .un, .un, .un, .un] F H (L2.start N_law_real_wishes vs) := E0.start (N := N_law_real_wishes)
    have l7 : (L2.start N_law_real_wishes vs).length = 7 := E1.len
    have nm : ∀ s1 s2 s3 s4 s5 s6 : Rel, Tame [.rel (dR (eW W)), .rel s1, .un, .rel s3, .un, .rel s5, .un] := fun s1 s2 s3 s4 s5 s6 => tame_of (by simp [Slot.mine])
    have nmA : Tame [.rel (dR (eW W)), .un, .un, .un, .un, .un, .un] := tame_of (by simp [Slot.mine])
    have nmB : ∀ r1 : Rel, Tame [.rel (dR (eW W)), .rel r1, .un, .un, .un, .un, .un] := fun r1 => tame_of (by simp [Slot.mine])
    have nmC : ∀ r1 r3 : Rel, Tame [.rel (dR (eW W)), .rel r1, .un, .rel r3, .un, .un, .un] := fun r1 r3 => tame_of (by simp [Slot.mine])
    have nmD : ∀ r1 r3 r5 : Rel, Tame [.rel (dR (eW W)), .rel r1, .un, .rel r3, .un, .rel r5, .un] := fun r1 r3 r5 => tame_of (by simp [Slot.mine])
    generalize L2.start N_law_real_wishes vs = σ at E1 l7
    dsimp only [tSeq, tAsg, gName, tMake]
    -- forms
    refine ef_raw (ef_map1 (xs := W.forms) (Rx := fun f => dR (nT f)) (s0 := .un) (fun f => nL f) (ei_mapL (ev_op (ev_var (i := 0) rfl) ev_int (od_ixL rfl))) (by omega) rfl (fun z => z) fun f hf => ef_list (ev_var rfl) (.inr rfl)) nmA E1 fun H1 Fo v1 r1 E2 so dO hv1 => ?_
    have to := new_tab E1.tabled dO
    have E3 := E2.set (R := rVal v1) 1 rfl
    -- keeps
    refine ef_raw (ef_map1 (xs := W.keeps) (Rx := fun f => dR (nL f)) (s0 := .un) (fun f => nL f) (ei_mapL (ev_op (ev_var (i := 0) rfl) ev_int (od_ixL rfl))) (by omega) rfl (fun z => z) fun f hf => ef_list (ev_var rfl) (.inl rfl)) (nmB _) E3 fun H2 Fk v2 r2 E4 sk dK hv2 => ?_
    have tk := new_tab E3.tabled dK
    have so2 := r2.part so to fun _ _ z => z
    have E5 := E4.set (R := rVal v2) 3 rfl
    -- renews
    refine ef_raw (ef_map1 (xs := W.renews) (Rx := fun f => dR (nL f)) (s0 := .un) (fun f => nL f) (ei_mapL (ev_op (ev_var (i := 0) rfl) ev_int (od_ixL rfl))) (by omega) rfl (fun z => z) fun f hf => ef_list (ev_var rfl) (.inl rfl)) (nmC _ _) E5 fun H3 Fr v3 r3 E6 sr dR' hv3 => ?_
    have tr := new_tab E5.tabled dR'
    have so3 := r3.part so2 to fun _ _ z => z
    have sk3 := r3.part sk tk fun _ _ z => z
    have E7 := E6.set (R := rVal v3) 5 rfl
    have dK0 : ∀ a, Fk a ≠ none → H a = none := fun a h => fresh_rw r1 (dK a h)
    have dR0 : ∀ a, Fr a ≠ none → H a = none := fun a h => fresh_rw r1 (fresh_rw r2 (dR' a h))
    have oK : ∀ a, Fk a ≠ none → Fo a = none := fun a h => by
      cases e : Fo a with
      | none => rfl
      | some o => have := so a o e; rw [dK a h] at this; cases this
    have oRo : ∀ a, Fr a ≠ none → Fo a = none := fun a h => by
      cases e : Fo a with
      | none => rfl
      | some o => have := so2 a o e; rw [dR' a h] at this; cases this
    have oRk : ∀ a, Fr a ≠ none → Fk a = none := fun a h => by
      cases e : Fk a with
      | none => rfl
      | some o => have := sk a o e; rw [dR' a h] at this; cases this
    have oR : ∀ a, Fr a ≠ none → uni Fo Fk a = none := fun a h => by
      unfold uni
      rw [oRo a h]
      exact oRk a h
    have lo : Same Fo (uni (uni Fo Fk) Fr) := uni_l.trans uni_l
    have lk : Same Fk (uni (uni Fo Fk) Fr) := (uni_r oK).trans uni_l
    have lr : Same Fr (uni (uni Fo Fk) Fr) := uni_r oR
    have sc3 : Same (uni (uni Fo Fk) Fr) H3 := uni_sub (uni_sub so3 sk3) sr
    have dc : ∀ a, uni (uni Fo Fk) Fr a ≠ none → H a = none := fun a h => by
      rcases uni_in h with z | z
      · rcases uni_in z with z | z
        · exact dO a z
        · exact dK0 a z
      · exact dR0 a z
    have tc : ∀ a, G.A a → uni (uni Fo Fk) Fr a = none := new_tab E1.tabled dc
    have R03 : Rw G No H H3 := (r1.trans r2).trans r3
    -- made
    refine (ea_cons (ev_op (ev_var (i := 0) rfl) ev_int (od_ixL rfl)) (ea_cons (ev_var (i := 1) rfl) (ea_cons (ev_var (i := 3) rfl) (ea_cons (ev_var (i := 5) rfl) ea_nil))) : EvA G _ [.rel (dR (eW W)), .rel (rVal v1), .un, .rel (rVal v2), .un, .rel (rVal v3), .un] [dR (dN W.fields), rVal v1, rVal v2, rVal v3]) F H3 _ E7 _ fun F4 H4 vs4 g4 E8 hvs => ?_
    have r4 : Rw G No H3 H4 := .gr (nmD _ _ _) g4 E8
    have sc4 := r4.part sc3 tc fun _ _ z => z
    cases hvs with
    | cons a1 hvs => cases hvs with
      | cons a2 hvs => cases hvs with
        | cons a3 hvs => cases hvs with
          | cons a4 hvs => cases hvs with
            | nil =>
              rename_i y u2 u3 u4
              obtain rfl : u2 = v1 := a2
              obtain rfl : u3 = v2 := a3
              obtain rfl : u4 = v3 := a4
              intro x dx hx hdx hne
              have rm : Rw G No H4 (upd (upd H4 dx (.own x)) x (.ins C dx [])) := (Rw.new hdx).trans (.new (by rw [upd_ne (Ne.symm hne)]; exact hx))
              have R0m : Rw G No H (upd (upd H4 dx (.own x)) x (.ins C dx [])) := (R03.trans r4).trans rm
              have scm := rm.part sc4 tc fun _ _ z => z
              have xF : uni (uni Fo Fk) Fr x = none := by
                cases e : uni (uni Fo Fk) Fr x with
                | none => rfl
                | some o => have := sc4 x o e; rw [hx] at this; cases this
              have xH : H x = none := fresh_rw (R03.trans r4) hx
              have tm := R0m.tab E1.tabled
              have gm := R0m.gi E1.tabled E1.glob
              have hxm : upd (upd H4 dx (.own x)) x (.ins C dx []) x = some (.ins C dx []) := upd_same
              generalize upd (upd H4 dx (.own x)) x (.ins C dx []) = Hm at *
              have ra : RAll (uni (uni Fo Fk) Fr) [y, u2, u3, u4] ((eWL W).map dR) := .cons (by cases a1; exact .int _) (.cons (Dq.mono lo _ _ hv1) (.cons (Dq.mono lk _ _ hv2) (.cons (Dq.mono lr _ _ hv3) .nil)))
              refine ⟨x, dx, [y, u2, u3, u4], uni (uni Fo Fk) Fr, W, rfl, env_rels ra scm gm tm tc, ok, hxm, xF, fun H5 F2 fs r5 hx5 s2 d2 hf => ⟨rfl, ?_⟩⟩
              have sc5 := r5.part scm tc fun a h z => h (by rw [z]; exact xF)
              have R05 : Rw G (fun a => H a = none) H H5 := (R0m.mono fun _ z => z.elim).trans (r5.mono fun a z => by rw [z]; exact xH)
              have t5 := R05.tab E1.tabled
              -- the instance's own part
              have d2' : ∀ a, F2 a ≠ none → H a = none := fun a h => fresh_rw R0m (d2 a h)
              have x2 : F2 x = none := by
                cases e : F2 x with
                | none => rfl
                | some o => have := d2 x (by rw [e]; exact fun z => by cases z); rw [hxm] at this; cases this
              have s2n : Same F2 (upd F2 x (.ins C dx fs)) := fun a o h => by rw [upd_ne (ne_of_none h x2)]; exact h
              have sn5 : Same (upd F2 x (.ins C dx fs)) H5 := fun a o h => by
                by_cases z : a = x
                · rw [z, upd_same] at h
                  rw [z, hx5]; exact h
                · rw [upd_ne z] at h
                  exact s2 a o h
              have dn : ∀ a, upd F2 x (.ins C dx fs) a ≠ none → H a = none := fun a h => by
                by_cases z : a = x
                · rw [z]; exact xH
                · rw [upd_ne z] at h
                  exact d2' a h
              have cn : ∀ a, upd F2 x (.ins C dx fs) a ≠ none → uni (uni Fo Fk) Fr a = none := fun a h => by
                by_cases z : a = x
                · rw [z]; exact xF
                · rw [upd_ne z] at h
                  cases e : uni (uni Fo Fk) Fr a with
                  | none => rfl
                  | some o => have := scm a o e; rw [d2 a h] at this; cases this
              have tn : ∀ a, G.A a → upd F2 x (.ins C dx fs) a = none := new_tab E1.tabled dn
              -- the passed lists
              have so5 : Same Fo H5 := lo.trans sc5
              have sk5 : Same Fk H5 := lk.trans sc5
              have sr5 : Same Fr H5 := lr.trans sc5
              have f5 := ok.f5
              obtain ⟨a1, xs1, rfl, h11, h12, h13⟩ := lists_at (c := 6) hv1 fun l hl => by have := asc_len (ok.asc l hl).2; omega
              obtain ⟨a2, xs2, rfl, h21, h22, h23⟩ := lists_at (c := 6) hv2 fun l hl => by have := asc_len (ok.ka l hl); omega
              obtain ⟨a3, xs3, rfl, h31, h32, h33⟩ := lists_at (c := 6) hv3 fun l hl => by have := asc_len (ok.ra l hl); omega
              have pos : 0 < xs1.length := by
                have := List.length_pos_iff.mpr ok.ne
                omega
              obtain ⟨b, ys, eb, bne, hb, hys⟩ := h13 0 _ (List.getElem?_eq_getElem pos)
              have at0 : atI xs1 (0 : Int) = some (.ref b) := atI_of (j := 0) rfl (by rw [List.getElem?_eq_getElem pos, eb])
              have q1 : ((((σ.set 1 (some (V.ref a1))).set 3 (some (V.ref a2))).set 5 (some (V.ref a3))).set 6 (some (V.ref x)))[1]? = some (some (V.ref a1)) := by simp [List.getElem?_set, l7]
              have q3 : ((((σ.set 1 (some (V.ref a1))).set 3 (some (V.ref a2))).set 5 (some (V.ref a3))).set 6 (some (V.ref x)))[3]? = some (some (V.ref a2)) := by simp [List.getElem?_set, l7]
              have q5 : ((((σ.set 1 (some (V.ref a1))).set 3 (some (V.ref a2))).set 5 (some (V.ref a3))).set 6 (some (V.ref x)))[5]? = some (some (V.ref a3)) := by simp [List.getElem?_set, l7]
              have q6 : ((((σ.set 1 (some (V.ref a1))).set 3 (some (V.ref a2))).set 5 (some (V.ref a3))).set 6 (some (V.ref x)))[6]? = some (some (V.ref x)) := by simp [List.getElem?_set, l7]
              have q7 : ((((σ.set 1 (some (V.ref a1))).set 3 (some (V.ref a2))).set 5 (some (V.ref a3))).set 6 (some (V.ref x))).length = 7 := by simp [l7]
              generalize (((σ.set 1 (some (V.ref a1))).set 3 (some (V.ref a2))).set 5 (some (V.ref a3))).set 6 (some (V.ref x)) = τ at *
              have nt : ∀ {xs : List V} (ps : Array Value), HO.lst xs ≠ .tbl ps := fun ps z => by cases z
              have nx : ∀ {xs : List V} (φ : Heap → Prop), HO.lst xs ≠ .ext φ := fun φ z => by cases z
              -- forms[0].append(7)
              refine ⟨.ref a1, q1, .inl ⟨a1, xs1, 0, .ref b, rfl, rfl, SqL.of (so5 _ _ h11), at0, .inl ⟨rfl, ys, SqL.of (so5 _ _ hb)⟩, b, ys, .int 7, rfl, rfl, so5 _ _ hb, small1000 (by omega), ?_⟩⟩
              have r6 : Rw G (fun a => Fo a ≠ none) H5 (upd H5 b (.lst (ys ++ [.int 7]))) := .upd (so5 _ _ hb) (by rw [hb]; exact fun z => by cases z) nt nx
              have h6 : upd H5 b (.lst (ys ++ [.int 7])) a1 = some (.lst xs1) := by rw [upd_ne (Ne.symm bne)]; exact so5 _ _ h11
              generalize upd H5 b (.lst (ys ++ [.int 7])) = H6 at r6 h6 ⊢
              -- forms.append([0])
              refine ⟨.ref a1, q1, .inl ⟨rfl, xs1, SqL.of h6⟩, by rw [sizeLine_eq]; simp, fun p1 hp1 => ⟨a1, xs1, .ref p1, rfl, rfl, by rw [upd_ne (ne_of_none h6 hp1)]; exact h6, small1000 (by omega), ?_⟩⟩
              have r7 : Rw G (fun a => Fo a ≠ none) H5 (upd (upd H6 p1 (.lst [.int 0])) a1 (.lst (xs1 ++ [.ref p1]))) :=
                (r6.trans (.new hp1)).trans (.upd (o := .lst xs1) (by rw [upd_ne (ne_of_none h6 hp1)]; exact h6) (by rw [h11]; exact fun z => by cases z) nt nx)
              generalize upd (upd H6 p1 (.lst [.int 0])) a1 (.lst (xs1 ++ [.ref p1])) = H7 at r7 ⊢
              have sk7 := r7.part sk5 tk fun a h z => z (oK a h)
              have sr7 := r7.part sr5 tr fun a h z => z (oRo a h)
              have sn7 := r7.part sn5 tn fun a h z => by
                have := cn a h
                cases e : Fo a with
                | none => exact z e
                | some o => rw [lo a o e] at this; cases this
              have R07 := R05.trans (r7.mono fun a z => dO a z)
              -- the loop
              refine raw_spoil (G := G) q3 (by decide) (by omega) (sk7 _ _ h21) (by omega) (fun k v hv => ?_) fun τ' H8 hτ hl8 r8 => ?_
              · obtain ⟨b', ys', e1, e2, e3, e4⟩ := h23 k v hv
                exact ⟨b', ys', e1, e2, sk7 _ _ e3, by omega⟩
              have r8' : Rw G (fun a => Fk a ≠ none) H7 H8 := r8.mono fun a ⟨k, hk⟩ => by
                obtain ⟨b', ys', e1, e2, e3, e4⟩ := h23 k _ hk
                cases e1
                rw [e3]; exact fun z => by cases z
              have sr8 := r8'.part sr7 tr fun a h z => z (oRk a h)
              have sn8 := r8'.part sn7 tn fun a h z => by
                have := cn a h
                cases e : Fk a with
                | none => exact z e
                | some o => rw [lk a o e] at this; cases this
              have R08 := R07.trans (r8'.mono fun a z => dK0 a z)
              -- renews.append([0])
              refine ⟨.ref a3, by rw [hτ 5 (by decide)]; exact q5, .inl ⟨rfl, xs3, SqL.of (sr8 _ _ h31)⟩, by rw [sizeLine_eq]; simp, fun p2 hp2 => ⟨a3, xs3, .ref p2, rfl, rfl, by rw [upd_ne (ne_of_none (sr8 _ _ h31) hp2)]; exact sr8 _ _ h31, small1000 (by omega), ?_⟩⟩
              have r9 : Rw G (fun a => Fr a ≠ none) H8 (upd (upd H8 p2 (.lst [.int 0])) a3 (.lst (xs3 ++ [.ref p2]))) :=
                (Rw.new hp2).trans (.upd (o := .lst xs3) (by rw [upd_ne (ne_of_none (sr8 _ _ h31) hp2)]; exact sr8 _ _ h31) (by rw [h31]; exact fun z => by cases z) nt nx)
              generalize upd (upd H8 p2 (.lst [.int 0])) a3 (.lst (xs3 ++ [.ref p2])) = H9 at r9 ⊢
              have sn9 := r9.part sn8 tn fun a h z => by
                have := cn a h
                cases e : Fr a with
                | none => exact z e
                | some o => rw [lr a o e] at this; cases this
              have R09 := R08.trans (r9.mono fun a z => dR0 a z)
              obtain ⟨g9, E9, sF⟩ := ret_raw nm0 E0 R09 (fun a h => h) sn9 dn
              refine ⟨.ref x, by rw [hτ 6 (by decide)]; exact q6, q _ _ _ g9 E9 ⟨x, dx, fs, rfl, sF _ _ upd_same, fun f R h => ?_, hf.2⟩⟩
              obtain ⟨y', k1, k2⟩ := hf.1 f R h
              exact ⟨y', k1, R.mono (s2n.trans sF) k2⟩
end
end K48
set_option Elab.async false
set_option linter.all false
set_option maxRecDepth 100000
/-! Ci: _law_needs. -/
namespace K48
open PySem L2 Dx WM
section
variable {P : Program} {w : World} {K : PySem.W.Frag} {mg : Str → Option Value} {base : Heap} {G : Glob} {C : Addr}
abbrev s_law_needs : Stmt := topS 30
abbrev N_law_needs : List Str := ["wishes", "found", "part", "number", "kept", "keeper", "fields", "field", "form"]
theorem sc_law_needs : FnScope N_law_needs ["wishes"] (defScope s_law_needs) := ⟨rfl, rfl, rfl, by decide +kernel, rfl, by decide +kernel, by decide +kernel⟩
def po_lneeds : List Slot → Rel → Prop := fun ρ R => ∃ W : Wish, WOk W ∧ ρ = [eW W].map (fun d => .rel (dR d)) ∧ R = dR (.list ((needsM W).map eNeed))
theorem ok_lneeds (T : Tx K mg) (D : Df K mg "_law_needs" s_law_needs ["wishes"]) : Cal P w K mg base "_law_needs" 1 ["wishes"] (spS G po_lneeds) := by
  refine cal_df D sc_law_needs ?_ fun f cdv A outer s H E hr => ⟨_, (pss_cons (ps_asg (pe_lst pa_nil) (pg_name (i := 1) sc_law_needs.nd rfl (by first | exact Or.inl rfl | exact Or.inr rfl)))
      (pss_cons (ps_for PassesOwn.never rfl (pi_range1 (by rfl) T.range_ (pa_cons (pe_callB (call_lenK (K := K)) (by rfl) T.len_ PySem.boot_len (pa_cons (pe_ix (ix_seqK (K := K)) (pv 0) pe_int (fun _ _ => rfl)) pa_nil)) pa_nil)) (pg_name (i := 2) sc_law_needs.nd rfl (by first | exact Or.inl rfl | exact Or.inr rfl)) (pss_one (ps_for PassesOwn.never rfl (pi_seqK (K := K) (pe_ix (ix_seqK (K := K)) (pe_ix (ix_seqK (K := K)) (pv 0) pe_int (fun _ _ => rfl)) (pv 2) (fun _ _ => rfl))) (pg_name (i := 3) sc_law_needs.nd rfl (by first | exact Or.inl rfl | exact Or.inr rfl)) (pss_cons (ps_asg (pe_lc (own := [("keeper", 5)]) rfl sc_law_needs.nd (pi_seqK (K := K) (pe_ix (ix_seqK (K := K)) (pe_ix (ix_seqK (K := K)) (pv 0) pe_int (fun _ _ => rfl)) (pv 2) (fun _ _ => rfl))) (blkOk_by (by kernel_rfl)) (fun _ _ _ _ _ => (pg_name (i := 5) sc_law_needs.nd rfl (by first | exact Or.inl rfl | exact Or.inr rfl))) (fun _ _ _ _ _ => pts_nil) (fun _ _ _ _ _ => (pe_ix (ix_seqK (K := K)) (pe_ix (ix_seqK (K := K)) (pv 0) pe_int (fun _ _ => rfl)) (pv 5) (fun _ _ => rfl)))) (pg_name (i := 4) sc_law_needs.nd rfl (by first | exact Or.inl rfl | exact Or.inr rfl)))
      (pss_cons (ps_setLc (i := 6) (own := [("field", 7)]) rfl sc_law_needs.nd rfl (by rfl) (sw_true rfl rfl rfl (by decide +kernel)) (pi_seqK (K := K) (pe_ix (ix_seqK (K := K)) (pe_ix (ix_seqK (K := K)) (pv 0) pe_int (fun _ _ => rfl)) (pv 3) (fun _ _ => rfl))) (blkOk_by (by kernel_rfl)) (fun _ _ _ _ _ => (pg_name (i := 7) sc_law_needs.nd rfl (by first | exact Or.inl rfl | exact Or.inr rfl))) (fun _ _ _ _ _ => (pts_one (pt_cmpR (op_eqK (K := K) hr) (pe_lc (own := [("form", 8)]) rfl sc_law_needs.nd (pi_seqK (K := K) (pv 4)) (blkOk_by (by kernel_rfl)) (fun _ _ _ _ _ => (pg_name (i := 8) sc_law_needs.nd rfl (by first | exact Or.inl rfl | exact Or.inr rfl))) (fun _ _ _ _ _ => (pts_one (pt_cmpR (op_inK (K := K) hr) (pv 7) (pv 8) rfl))) (fun _ _ _ _ _ => (pv 8))) (pe_lst pa_nil) (nomark _)))) (fun _ _ _ _ _ => (pv 7)))
      (pss_one (ps_expr (pe_appK (K := K) (pv 1) (pe_tup (pa_cons (pv 2) (pa_cons (pv 3) (pa_cons (pv 6) pa_nil))))))))))))
      (pss_one (ps_ret (pv 1))))), ?_⟩
  · rintro ρ R ⟨W, _, rfl, _⟩
    exact ⟨rfl, noOwn (Rs := [_])⟩
  · rintro ρ R ⟨W, ok, rfl, rfl⟩
    change Sv G _ [.rel (dR (eW W)), .un, .un, .un, .un, .un, .un, .un, .un] _
    have four := ok.four
    have kr := ok.kr
    have six := ok.six
    have f5 := ok.f5
    refine sv_seq (sv_own (ds := []) en_lst0 (sv_seq (sv_for1 (xs := List.range W.renews.length) (Rx := fun (i : Nat) => dI (i : Int)) (fun i ρ1 => ∃ s2 s3 s4 s6 : Slot, ρ1 = [.rel (dR (eW W)), .own ((((List.range i).map (needsAt W)).flatten).map eNeed), s2, s3, s4, .un, s6, .un, .un])
      (ei_range1 (ea_cons (ev_lenM (ev_op (ev_var rfl) ev_int (od_ixL rfl))) ea_nil) (by omega)) ⟨_, _, _, _, rfl⟩ ?_ ?_)))
    · rintro i x ρ1 hx ⟨s2, s3, s4, s6, rfl⟩
      obtain ⟨ex, hi⟩ := range_at hx
      subst ex
      have hrx : W.renews[x]? = some W.renews[x] := List.getElem?_eq_getElem hi
      have hkx : W.keeps[x]? = some W.keeps[x] := List.getElem?_eq_getElem (by omega)
      have ra := ok.ra _ (List.mem_of_getElem? hrx)
      have ka := ok.ka _ (List.mem_of_getElem? hkx)
      have rlen := asc_len ra
      have klen := asc_len ka
      have nl := needs_len W ok x
      have en : needsAt W x = W.renews[x].map fun n => (x, n, outM W x n) := by
        unfold needsAt
        rw [List.getD_eq_getElem?_getD, hrx]
        rfl
      refine sv_for1 (xs := W.renews[x]) (Rx := fun n => dR (dN n)) (fun j ρ2 => ∃ s3 s4 s6 : Slot, ρ2 = [.rel (dR (eW W)), .own ((((List.range x).map (needsAt W)).flatten ++ (needsAt W x).take j).map eNeed), .rel (dI (x : Int)), s3, s4, .un, s6, .un, .un])
        (ei_mapL (ev_op (ev_op (ev_var rfl) ev_int (od_ixL rfl)) (ev_var rfl) (od_ixM (f := nL) rfl hrx))) ⟨s3, s4, s6, by simp⟩ ?_ ?_
      · rintro j n ρ2 hy ⟨s3, s4, s6, rfl⟩
        have hn := ra.2 n (List.mem_of_getElem? hy)
        have hj : j < W.renews[x].length := (List.getElem?_eq_some_iff.mp hy).1
        have hfn : W.forms[n]? = some W.forms[n] := List.getElem?_eq_getElem hn
        have flen := asc_len (ok.asc _ (List.mem_of_getElem? hfn)).2
        refine sv_seq (sv_set (R := dR (.list ((W.keeps[x].map fun k => W.forms.getD k []).map nT))) ?_ ?_)
        · refine Ev.to (ev_map1 (xs := W.keeps[x]) (Rx := fun k => dR (dN k)) (s0 := .un) (fun k => nT (W.forms.getD k [])) (ei_mapL (ev_op (ev_op (ev_var rfl) ev_int (od_ixL rfl)) (ev_var rfl) (od_ixM (f := nL) rfl hkx))) (by omega) rfl (fun z => z) fun k hk => ?_) (by rw [List.map_map]; rfl)
          have hkl := ka.2 k hk
          have hfk : W.forms[k]? = some W.forms[k] := List.getElem?_eq_getElem hkl
          rw [List.getD_eq_getElem?_getD, hfk]
          exact ev_op (ev_op (ev_var rfl) ev_int (od_ixL rfl)) (ev_var rfl) (od_ixM (f := nT) rfl hfk)
        · refine sv_seq (sv_set (R := dR (nL (outM W x n))) (Ev.to (ev_lc1 (xs := W.forms[n]) (Rx := fun y => dR (dN y)) (s0 := .un) (fun y => !decide (y ∈ covM W W.keeps[x])) dN (ei_mapT (ev_op (ev_op (ev_var rfl) ev_int (od_ixL rfl)) (ev_var rfl) (od_ixM (f := nT) rfl hfn))) (by omega) rfl (fun z => z) fun y hy => ⟨?_, fun _ => ev_var rfl⟩) ?_) ?_)
          · refine et_test (Ev.to (ev_op (Rb := dR (.list [])) (ev_lc1 (xs := W.keeps[x].map fun k => W.forms.getD k []) (Rx := fun f => dR (nT f)) (s0 := .un) (fun f => decide (y ∈ f)) nT (ei_mapL (ev_var rfl)) (by rw [List.length_map]; omega) rfl (fun z => z) fun f hf => ⟨?_, fun _ => ev_var rfl⟩) ev_lst0 (od_eq0 (sh_list (n := 1) (sh_map fun _ _ => sh_nT _)) (by decide))) (congrArg dB (cov_empty W y _)))
            exact et_test (ev_op (ev_var rfl) (ev_var rfl) od_inNT)
          · have e : outM W x n = W.forms[n].filter fun y => !decide (y ∈ covM W W.keeps[x]) := by
              unfold outM
              rw [List.getD_eq_getElem?_getD, List.getD_eq_getElem?_getD, hfn, hkx]
              rfl
            rw [e]
          · refine sv_app (d := eNeed (x, n, outM W x n)) rfl (ev_tup3 (ev_var rfl) (ev_var rfl) (ev_var rfl)) ?_ ⟨.rel (dR (dN n)), .rel (dR (.list ((W.keeps[x].map fun k => W.forms.getD k []).map nT))), .rel (dR (nL (outM W x n))), ?_⟩
            · rw [List.length_map, List.length_append]
              have := List.length_take_le j (needsAt W x)
              omega
            · have h2 : (needsAt W x)[j]? = some (x, n, outM W x n) := by rw [en, List.getElem?_map, hy]; rfl
              rw [List.take_add_one, h2]
              simp only [List.map_append, List.append_assoc]
              rfl
      · rintro ρ2 ⟨s3, s4, s6, rfl⟩
        have el : W.renews[x].length = (needsAt W x).length := by rw [en, List.length_map]
        rw [el, List.take_length]
        exact ⟨.rel (dI (x : Int)), s3, s4, s6, by rw [needsM_take]⟩
    · rintro ρ1 ⟨s2, s3, s4, s6, rfl⟩
      rw [List.length_range]
      exact sv_freeze (i := 1) rfl (sv_ret (ev_var rfl) (show Rel.le _ _ from Rel.le_refl _))
end
end K48
set_option Elab.async false
set_option linter.all false
set_option maxRecDepth 100000
/-! Co: _law_purse, _law_two. -/
namespace K48
open PySem L2 Dx WM
section
variable {P : Program} {w : World} {K : PySem.W.Frag} {mg : Str → Option Value} {base : Heap} {G : Glob} {C : Addr}
-- ['script', 'at', 'cell', 'one', 'size']
abbrev s_law_purse : Stmt := topS 22
abbrev N_law_purse : List Str := ["script", "at", "cell", "one", "size"]
theorem sc_law_purse : FnScope N_law_purse ["script", "at"] (defScope s_law_purse) := ⟨rfl, rfl, rfl, by decide +kernel, rfl, by decide +kernel, by decide +kernel⟩
/-- a new purse -/
def spPurse (G : Glob) (K : PySem.W.Frag) : Sp := fun vs H Q _ => ∃ (F : Hp) (ns : List Int) (at_ : Nat), EnvOk G [.rel (rScr K ns), .rel (dR (dN at_))] F H (vs.map some) ∧ at_ < 10 ∧
  ∀ (H' : Hp) (p : Addr) (a b c : Int), Rw G No H H' → H p = none → H' p = some (.lst [.int a, .int b, .int c]) → Q (.ref p) H'
theorem ok_purse (T : Tx K mg) (D : Df K mg "_law_purse" s_law_purse ["script", "at"]) : Cal P w K mg base "_law_purse" 1 ["script", "at"] (spPurse G K) := by
  refine cal_raw D sc_law_purse (fun vs H Q E h => ?_) fun f cdv A outer s H E hr => ⟨_, (pss_cons (ps_asg (pe_ifExp (pt_cmpR op_lt (pv 1) (pe_callB (call_lenK (K := K)) (by rfl) T.len_ PySem.boot_len (pa_cons (pv 0) pa_nil)) (nomark _)) (pe_callTy call_int1 (by rfl) T.int_ (by decide +kernel) (pa_cons (pe_ix (ix_seqK (K := K)) (pv 0) (pv 1) (fun _ _ => rfl)) pa_nil)) (pe_op op_mul pe_int (pe_callB (cr_sumK (K := K) rfl) (by rfl) T.sum_ (by decide +kernel) (pa_cons (pe_lc (own := [("one", 3)]) rfl sc_law_purse.nd (pi_seqK (K := K) (pe_slice (sl_seqK (K := K)) (pv 0) po_none (po_some pe_int))) (blkOk_by (by kernel_rfl)) (fun _ _ _ _ _ => (pg_name (i := 3) sc_law_purse.nd rfl (by first | exact Or.inl rfl | exact Or.inr rfl))) (fun _ _ _ _ _ => pts_nil) (fun _ _ _ _ _ => (pe_callTy call_int1 (by rfl) T.int_ (by decide +kernel) (pa_cons (pv 3) pa_nil)))) pa_nil)))) (pg_name (i := 2) sc_law_purse.nd rfl (by first | exact Or.inl rfl | exact Or.inr rfl)))
      (pss_cons (ps_asg (pe_op (op_plusK (K := K)) (pe_op op_mul pe_int (pe_callB call_abs (by rfl) T.abs_ (by decide +kernel) (pa_cons (pv 2) pa_nil))) (pe_ifExp (pt_cmpR op_lt (pv 2) pe_int (nomark _)) pe_int pe_int)) (pg_name (i := 4) sc_law_purse.nd rfl (by first | exact Or.inl rfl | exact Or.inr rfl)))
      (pss_one (ps_ret (pe_lst (pa_cons (pe_ifExp (pt_cmpR op_ge (pv 4) (pe_op op_pow pe_int pe_int) (nomark _)) (pv 4) pe_int) (pa_cons (pe_op op_modN (pe_callTy call_int1 (by rfl) T.int_ (by decide +kernel) (pa_cons (pe_op (op_plusK (K := K)) (pe_op (op_plusK (K := K)) (pv 4) (pe_op op_mul (pv 1) pe_int)) pe_int) pa_nil)) pe_int) (pa_cons (pv 1) pa_nil)))))))), fun vs Q h => ?_⟩
  · obtain ⟨F, ns, at_, E, _⟩ := h
    have := E.len
    rw [List.length_map] at this
    exact this
  · obtain ⟨F, ns, at_, E0, ha, q⟩ := h
    have E1 : EnvOk G [.rel (rScr K ns), .rel (dR (dN at_)), .un, .un, .un] F H (L2.start N_law_purse vs) := E0.start (N := N_law_purse)
    generalize L2.start N_law_purse vs = σ at E1
    have nm1 : Tame [.rel (rScr K ns), .rel (dR (dN at_)), .un, .un, .un] := tame_of (by simp [Slot.mine])
    dsimp only [tSeq, tAsg, gName, tRet, tLst]
    refine ev_raw (R := rEx fun c : Int => dI c) (ev_if (b := decide ((at_ : Int) < (ns.length : Int))) (et_test (ev_op (ev_var rfl) (ev_lenS (ev_var rfl)) od_lt)) (fun h => ?_) (fun h => ?_)) nm1 E1 fun F2 H2 v2 r2 E2 fe2 fh2 _ hv2 => ?_
    · have h := of_decide_eq_true h
      have hl : at_ < ns.length := by omega
      exact (ev_int1 (ev_op (ev_var rfl) (ev_var rfl) (od_ixS (atI_nat (List.getElem?_eq_getElem hl))))).le fun F v hv => ⟨_, hv⟩
    · refine (ev_op (R := dI (31 * (ns.take 4).sum)) ev_int (ev_sum (ns := ns.take 4) (Ev.to (ev_map1 (xs := ns.take 4) (Rx := fun n => dI n) (s0 := .un) (fun n => PyData.int n) (ei_mapL (f := fun n => PyData.int n) (Ev.to (ev_sliceS (ev_var rfl) eo_none (eo_some ev_int)) ?_)) ?_ rfl (fun z => z) fun n hn => ev_int1 (ev_var rfl)) rfl)) (od_mul (.inl ⟨by decide, by decide⟩))).le fun F v hv => ⟨_, hv⟩
      · have ec : cutD (ns.map PyData.int) none (some 4) = (ns.map PyData.int).take 4 := cut_to _ 4
        rw [ec, List.map_take]
      · have := List.length_take_le 4 ns
        omega
    obtain ⟨c, hv2⟩ := hv2
    cases hv2
    have E3 := E2.set (R := dI c) (v := .int c) 2 (.int c)
    have nm3 : Tame [.rel (rScr K ns), .rel (dR (dN at_)), .rel (dI c), .un, .un] := tame_of (by simp [Slot.mine])
    refine ev_raw (R := rEx fun c : Int => dI c) ((ev_op (R := dI (2 * (if c < 0 then -c else c) + if c < 0 then 1 else 0)) (ev_op ev_int (ev_abs (ev_var rfl)) (od_mul (.inl ⟨by decide, by decide⟩))) (ev_if (b := decide (c < 0)) (R := dI (if c < 0 then 1 else 0)) (et_test (ev_op (ev_var rfl) ev_int od_lt)) (fun h => ?_) (fun h => ?_)) od_plusI).le fun F v hv => ⟨_, hv⟩) nm3 E3 fun F4 H4 v4 r4 E4 fe4 fh4 _ hv4 => ?_
    · rw [if_pos (of_decide_eq_true h)]
      exact ev_int
    · rw [if_neg (of_decide_eq_false h)]
      exact ev_int
    obtain ⟨sz, hv4⟩ := hv4
    cases hv4
    have E5 := E4.set (R := dI sz) (v := .int sz) 4 (.int sz)
    have nm5 : Tame [.rel (rScr K ns), .rel (dR (dN at_)), .rel (dI c), .un, .rel (dI sz)] := tame_of (by simp [Slot.mine])
    refine (ea_cons (ev_if (b := decide ((10 : Int) ^ (18 : Int).toNat ≤ sz)) (R := dI (if (10 : Int) ^ (18 : Int).toNat ≤ sz then sz else 0)) (et_test (ev_op (ev_var rfl) (ev_op ev_int ev_int (od_pow ⟨by decide, by decide, by decide⟩)) od_ge)) (fun h => ?_) (fun h => ?_)) (ea_cons (ev_op (ev_int1 (ev_op (ev_op (ev_var rfl) (ev_op (ev_var rfl) ev_int (od_mul (.inr ⟨by decide, by decide⟩))) od_plusI) ev_int od_plusI)) ev_int (od_mod (by decide))) (ea_cons (ev_var (i := 1) (R := dR (dN at_)) rfl) ea_nil)) : EvA G _ [.rel (rScr K ns), .rel (dR (dN at_)), .rel (dI c), .un, .rel (dI sz)] [dI (if (10 : Int) ^ (18 : Int).toNat ≤ sz then sz else 0), dI ((sz + (at_ : Int) * 104729 + 12345).fmod 2147483629), dR (dN at_)]) F H4 _ E5 _ fun F6 H6 vs6 g6 E6 hvs => ?_
    · rw [if_pos (of_decide_eq_true h)]
      exact ev_var rfl
    · rw [if_neg (of_decide_eq_false h)]
      exact ev_int
    have r6 : Rw G No H4 H6 := .gr nm5 g6 E6
    cases hvs with
    | cons a1 hvs => cases hvs with
      | cons a2 hvs => cases hvs with
        | cons a3 hvs => cases hvs with
          | nil =>
            cases a1
            cases a2
            cases a3
            refine ⟨by rw [sizeLine_eq]; simp, fun p hp => q _ p _ _ _ (((r2.trans r4).trans r6).trans (.new hp)) ?_ upd_same⟩
            exact fresh_rw ((r2.trans r4).trans r6) hp
-- ['script', 'purses', 'purse']
abbrev s_law_two : Stmt := topS 24
abbrev N_law_two : List Str := ["script", "purses", "purse"]
theorem sc_law_two : FnScope N_law_two ["script"] (defScope s_law_two) := ⟨rfl, rfl, rfl, by decide +kernel, rfl, by decide +kernel, by decide +kernel⟩
/-- two new purses in a new list -/
def spTwo (G : Glob) (K : PySem.W.Frag) : Sp := fun vs H Q _ => ∃ (F : Hp) (ns : List Int), EnvOk G [.rel (rScr K ns)] F H (vs.map some) ∧
  ∀ (H' : Hp) (l p1 p2 : Addr) (o1 o2 : HO), Rw G No H H' → H l = none → H p1 = none → H p2 = none → p1 ≠ p2 → H' l = some (.lst [.ref p1, .ref p2]) → H' p1 = some o1 → H' p2 = some o2 → shP o1 → shP o2 → Q (.ref l) H'
theorem ok_two (T : Tx K mg) (C_law_purse : Cal P w K mg base "_law_purse" 1 ["script", "at"] (spPurse G K)) (C_law_draw : Cal P w K mg base "_law_draw" 1 ["purse", "many"] (spS G po_draw)) (D : Df K mg "_law_two" s_law_two ["script"]) : Cal P w K mg base "_law_two" 2 ["script"] (spTwo G K) := by
  refine cal_raw D sc_law_two (fun vs H Q E h => ?_) fun f cdv A outer s H E hr => ⟨_, (pss_cons (ps_asg (pe_lst (pa_cons (pe_cal C_law_purse hr (pa_cons (pv 0) (pa_cons pe_int pa_nil))) (pa_cons (pe_cal C_law_purse hr (pa_cons (pv 0) (pa_cons pe_int pa_nil))) pa_nil))) (pg_name (i := 1) sc_law_two.nd rfl (by first | exact Or.inl rfl | exact Or.inr rfl)))
      (pss_cons (ps_for PassesOwn.never rfl (pi_seqK (K := K) (pv 1)) (pg_name (i := 2) sc_law_two.nd rfl (by first | exact Or.inl rfl | exact Or.inr rfl)) (pss_one (ps_expr (pe_cal C_law_draw hr (pa_cons (pv 2) (pa_cons pe_int pa_nil))))))
      (pss_one (ps_ret (pv 1))))), fun vs Q h => ?_⟩
  · obtain ⟨F, ns, E, _⟩ := h
    have := E.len
    rw [List.length_map] at this
    exact this
  · obtain ⟨F, ns, E0, q⟩ := h
    have E1 : EnvOk G [.rel (rScr K ns), .un, .un] F H (L2.start N_law_two vs) := E0.start (N := N_law_two)
    generalize L2.start N_law_two vs = σ at E1
    have l3 : σ.length = 3 := E1.len
    have nm1 : Tame [.rel (rScr K ns), .un, .un] := tame_of (by simp [Slot.mine])
    obtain ⟨vs0, hs0, a0, rfl, hq0⟩ := E1.at_ 0 _ rfl
    have purse : ∀ (X : XK) (H1 : Hp) (at_ : Nat) (j : Int) (Q' : VK), j = (at_ : Int) → EnvOk G [.rel (rScr K ns), .un, .un] F H1 σ → at_ < 10 → (∀ (H' : Hp) (p : Addr) (a b c : Int), Rw G No H1 H' → H1 p = none → H' p = some (.lst [.int a, .int b, .int c]) → Q' (.ref p) H') →
        spPurse G K [.ref a0, .int j] H1 Q' X := fun X H1 at_ j Q' ej E' h k => by
      subst ej
      exact ⟨F, ns, at_, env_rels (Rs := [rScr K ns, dR (dN at_)]) (.cons ⟨a0, rfl, hq0⟩ (.cons (.int _) .nil)) E'.sub E'.glob E'.tabled fun a ha => (E'.tab a ha).1, h, k⟩
    dsimp only [tSeq, tAsg, gName, tLst, tCons, tC, tCall, tNil, tVar, List.cons_append, List.nil_append]
    refine ⟨.ref a0, hs0, ?_⟩
    refine purse _ H 0 _ _ rfl E1 (by decide) fun H1 p1 a1 b1 c1 r1 n1 h1 => ?_
    refine ⟨.ref a0, hs0, ?_⟩
    refine purse _ H1 1 _ _ rfl (E1.rw nm1 r1 fun _ _ z => z) (by decide) fun H2 p2 a2 b2 c2 r2 n2 h2 => ?_
    refine ⟨by rw [sizeLine_eq]; simp, fun l hl => ?_⟩
    have R02 := r1.trans r2
    have ne12 : p1 ≠ p2 := fun z => by rw [z, n2] at h1; cases h1
    have tb := E1.tabled
    have nA : ∀ p, H p = none → ¬ G.A p := fun p h z => by
      obtain ⟨ps, e⟩ := tb p z
      rw [h] at e
      cases e
    have n2' : H p2 = none := fresh_rw r1 n2
    have nl : H l = none := fresh_rw R02 hl
    have h12 : H2 p1 = some (.lst [.int a1, .int b1, .int c1]) := r2.ext p1 _ (fun z => z) (nA p1 n1) h1
    have l1 : p1 ≠ l := ne_of_none h12 hl
    have l2 : p2 ≠ l := ne_of_none h2 hl
    have R03 : Rw G No H (upd H2 l (.lst [.ref p1, .ref p2])) := R02.trans (.new hl)
    have k0 : upd H2 l (.lst [.ref p1, .ref p2]) l = some (.lst [.ref p1, .ref p2]) := upd_same
    have k1 : upd H2 l (.lst [.ref p1, .ref p2]) p1 = some (.lst [.int a1, .int b1, .int c1]) := by rw [upd_ne l1]; exact h12
    have k2 : upd H2 l (.lst [.ref p1, .ref p2]) p2 = some (.lst [.int a2, .int b2, .int c2]) := by rw [upd_ne l2]; exact h2
    generalize upd H2 l (.lst [.ref p1, .ref p2]) = H3 at R03 k0 k1 k2
    have hτ : (σ.set 1 (some (V.ref l)))[1]? = some (some (V.ref l)) := List.getElem?_set_self (by omega)
    have lτ : (σ.set 1 (some (V.ref l))).length = 3 := by rw [List.length_set]; exact l3
    generalize σ.set 1 (some (V.ref l)) = τ at hτ lτ
    refine .inl ⟨.ref l, hτ, l, rfl, ⟨_, SqL.of k0⟩, fun n m τ' H' => m = 2 - n ∧ n ≤ 2 ∧ τ'[1]? = some (some (V.ref l)) ∧ τ'.length = 3 ∧ Rw G (fun a => a = p1 ∨ a = p2) H H' ∧ H' l = some (.lst [.ref p1, .ref p2]) ∧ (∃ o1, H' p1 = some o1 ∧ shP o1) ∧ ∃ o2, H' p2 = some o2 ∧ shP o2,
      ⟨_, rfl, by omega, hτ, lτ, R03.mono fun _ z => z.elim, k0, ⟨_, k1, _, _, _, rfl⟩, ⟨_, k2, _, _, _, rfl⟩⟩, ?_⟩
    rintro n m τ' H' ⟨rfl, hn, ht, hl', R, g0, ⟨o1, g1, s1⟩, o2, g2, s2⟩
    by_cases hlt : n < 2
    · obtain ⟨x, hx, hp⟩ : ∃ x, [V.ref p1, V.ref p2][n]? = some (V.ref x) ∧ (x = p1 ∨ x = p2) := by
        match n, hlt with
        | 0, _ => exact ⟨p1, rfl, .inl rfl⟩
        | 1, _ => exact ⟨p2, rfl, .inr rfl⟩
      refine .inr ⟨⟨_, _, SqL.of g0, hx⟩, fun τ'' H'' => τ''[1]? = some (some (V.ref l)) ∧ τ''.length = 3 ∧ Rw G (fun a => a = p1 ∨ a = p2) H H'' ∧ H'' l = some (.lst [.ref p1, .ref p2]) ∧ (∃ o1, H'' p1 = some o1 ∧ shP o1) ∧ ∃ o2, H'' p2 = some o2 ∧ shP o2, fun τ'' H'' h => ⟨2 - (n + 1), by omega, rfl, hlt, h⟩, fun y H4 hy => ?_⟩
      obtain ⟨rfl, hy⟩ := hy
      have e := hy _ (SqL.of g0)
      rw [hx] at e
      cases e
      have ox : ∃ o, H4 x = some o ∧ shP o := by
        rcases hp with rfl | rfl
        · exact ⟨o1, g1, s1⟩
        · exact ⟨o2, g2, s2⟩
      obtain ⟨o, gx, sx⟩ := ox
      have nx : H x = none := by
        rcases hp with rfl | rfl
        · exact n1
        · exact n2'
      have xl : l ≠ x := fun z => by
        obtain ⟨_, _, _, rfl⟩ := sx
        rw [← z, g0] at gx
        cases gx
      have tb4 := R.tab tb
      have gi4 := R.gi tb E1.glob
      have notA : ∀ {u : Addr} {o : HO}, H4 u = some o → (∀ ps, o ≠ .tbl ps) → ¬ G.A u := fun {u o} h k z => by
        obtain ⟨ps, e⟩ := tb4 u z
        rw [h] at e
        exact k ps (Option.some.inj e)
      have shn : ∀ {o : HO}, shP o → ∀ ps, o ≠ .tbl ps := fun {o} h ps z => by
        obtain ⟨_, _, _, rfl⟩ := h
        cases z
      have Ec : EnvOk G [.mvl shP, .rel (dR (dN 2))] (fun _ => none) H4 ([V.ref x, V.int 2].map some) := by
        refine ⟨fun a o h => (by cases h), rfl, fun i s hs => ?_, fun i j s s' a h1 h2 m1 m2 e1 e2 => ?_, gi4, fun a ha => ⟨rfl, tb4 a ha⟩⟩
        · match i, hs with
          | 0, hs =>
            cases hs
            exact ⟨x, o, rfl, gx, rfl, sx, shn sx⟩
          | 1, hs =>
            cases hs
            exact ⟨_, rfl, .int _⟩
          | i + 2, hs => simp at hs
        · match i, j, h1, h2 with
          | 0, 0, _, _ => rfl
          | 0, 1, _, h2 => cases h2; exact m2.elim
          | 1, _, h1, _ => cases h1; exact m1.elim
          | 0, j + 2, _, h2 => simp at h2
          | i + 2, _, h1, _ => simp at h1
      refine ⟨.ref x, List.getElem?_set_self (by omega), ?_⟩
      refine ⟨fun _ => none, _, _, Ec, ⟨2, by decide, by decide, rfl, rfl⟩, fun F5 H5 v5 g5 E5 _ => ⟨by rw [List.getElem?_set_ne (by decide)]; exact ht, by rw [List.length_set]; exact hl', ?_⟩⟩
      have ch : ∀ a, Ch G [.mvl shP, .rel (dR (dN 2))] ([V.ref x, V.int 2].map some) a → a = x ∨ G.A a := fun a z => by
        rcases z with ⟨i, sh, h1, h2⟩ | z
        · match i, h1, h2 with
          | 0, _, h2 =>
            left
            have := Option.some.inj (Option.some.inj h2)
            cases this
            rfl
          | 1, h1, _ => cases h1
          | i + 2, h1, _ => simp at h1
        · exact .inr z
      have keep : ∀ u o, u ≠ x → ¬ G.A u → H4 u = some o → H5 u = some o := fun u o h1 h2 h => g5.ext u o (fun z => by
        rcases ch u z with z | z
        · exact h1 z
        · exact h2 z) h
      have R5 : Rw G (fun a => a = p1 ∨ a = p2) H4 H5 := ⟨fun a o m n h => keep a o (fun z => m (by rw [z]; exact hp)) n h, g5.keep, g5.exts, fun _ => E5.tabled, fun _ _ => E5.glob⟩
      obtain ⟨p', o', e', hp', _, sh', _⟩ := E5.at_ 0 _ rfl
      have ep : p' = x := by
        have : some (some (V.ref x)) = some (some (V.ref p')) := e'
        cases this
        rfl
      subst ep
      refine ⟨R.trans R5, keep l _ xl (notA g0 fun ps z => by cases z) g0, ?_, ?_⟩
      · by_cases z : p1 = p'
        · exact ⟨o', by rw [z]; exact hp', sh'⟩
        · exact ⟨o1, keep p1 _ z (notA g1 (shn s1)) g1, s1⟩
      · by_cases z : p2 = p'
        · exact ⟨o', by rw [z]; exact hp', sh'⟩
        · exact ⟨o2, keep p2 _ z (notA g2 (shn s2)) g2, s2⟩
    · have e : n = 2 := by omega
      refine .inl ⟨⟨_, SqL.of g0, by rw [e]; exact Nat.le_refl _⟩, .ref l, ht, q _ l p1 p2 o1 o2 ⟨fun a o m n h => ?_, R.keep, R.exts, R.tab, R.gi⟩ nl n1 n2' ne12 g0 g1 g2 s1 s2⟩
      refine R.ext a o (fun z => ?_) n h
      rcases z with rfl | rfl
      · rw [n1] at h; cases h
      · rw [n2'] at h; cases h
end
end K48
set_option Elab.async false
set_option linter.all false
set_option maxRecDepth 100000
/-! Ea: judge_spare, two_courses, due, shown. -/
namespace K48
open PySem L2 Dx WM
section
variable {P : Program} {w : World} {K : PySem.W.Frag} {mg : Str → Option Value} {base : Heap} {G : Glob} {C : Addr}
theorem sh_str {n : Nat} {x : Str} (h : PyData.strOk x = true := by decide +kernel) : Sh n (.str x) := ⟨by simp [PyData.canLay0, h], by simp [PyData.depth]⟩
theorem eqv_str (x : Str) : PyData.eqv (.str x) (.str x) = true := by
  rw [PyData.eqv]
  exact beq_self_eq_true x
abbrev nS (l : List Str) : PyData := .list (l.map PyData.str)
abbrev s_judge_spare : Stmt := topS 20
abbrev N_judge_spare : List Str := ["wishes", "spare"]
theorem sc_judge_spare : FnScope N_judge_spare ["wishes", "spare"] (defScope s_judge_spare) := ⟨rfl, rfl, rfl, by decide +kernel, rfl, by decide +kernel, by decide +kernel⟩
def po_judge (C : Addr) : List Slot → Rel → Prop := fun ρ R => ∃ (W : Wish) (sp : List Nat), WOk W ∧ ρ = [.rel (rW C W), .rel (dR (nL sp))] ∧ R = dR (eMiss (missedM (needsM W) sp))
theorem ok_judge (T : Tx K mg) (M_needs : CalM P w K mg base C "needs" 2 ["self"] (spS G (po_needs C))) (C_missed : Cal P w K mg base "missed" 1 ["needs", "spare"] (spS G po_missed)) (D : Df K mg "judge_spare" s_judge_spare ["wishes", "spare"]) :
    Cal P w K mg base "judge_spare" 3 ["wishes", "spare"] (spS G (po_judge C)) := by
  refine cal_df D sc_judge_spare ?_ fun f cdv A outer s H E hr => ⟨_, (pss_one (ps_ret (pe_cal C_missed hr (pa_cons (pe_calm0 M_needs hr (pv 0)) (pa_cons (pv 1) pa_nil))))), ?_⟩
  · rintro ρ R ⟨W, sp, _, rfl, _⟩
    exact ⟨rfl, fun j es h => by match j, h with | 0, h => cases h | 1, h => cases h | j + 2, h => simp at h⟩
  · rintro ρ R ⟨W, sp, ok, rfl, rfl⟩
    change Sv G _ [.rel (rW C W), .rel (dR (nL sp))] _
    exact sv_ret (ev_call (As := [.rel (dR (.list ((needsM W).map eNeed))), .rel (dR (nL sp))]) (as_rel (ev_meth (As := []) (ev_var rfl) rfl as_nil ⟨W, ok, rfl, rfl⟩) (as_rel (ev_var rfl) as_nil)) ⟨needsM W, sp, fun n hn => by have := needs_few ok hn; omega, rfl, rfl⟩) (Rel.le_refl _)
abbrev s_Wishes_two_courses : Stmt := inClass (topS 19) 4
abbrev N_Wishes_two_courses : List Str := ["self", "spare", "least", "part", "number"]
theorem sc_Wishes_two_courses : FnScope N_Wishes_two_courses ["self", "spare"] (defScope s_Wishes_two_courses) := ⟨rfl, rfl, rfl, by decide +kernel, rfl, by decide +kernel, by decide +kernel⟩
def coursesM (W : Wish) (sp : List Nat) : PyData := match missedM (needsM W) sp with
  | none => .none
  | some (p, n) => .tuple [dN p, nL (W.keeps.getD p []), nL (n :: W.keeps.getD p [])]
def po_courses (C : Addr) : List Slot → Rel → Prop := fun ρ R => ∃ (W : Wish) (sp : List Nat), WOk W ∧ ρ = [.rel (rW C W), .rel (dR (nL sp))] ∧ R = dR (coursesM W sp)
theorem ok_courses (T : Tx K mg) (Tw : Tc K mg C) (M_needs : CalM P w K mg base C "needs" 2 ["self"] (spS G (po_needs C))) (C_missed : Cal P w K mg base "missed" 1 ["needs", "spare"] (spS G po_missed)) (D : DfM K C "two_courses" "Wishes.two_courses" s_Wishes_two_courses ["self", "spare"]) :
    CalM P w K mg base C "two_courses" 3 ["self", "spare"] (spS G (po_courses C)) := by
  refine calm_df D Tw.cl sc_Wishes_two_courses ?_ fun f cdv A outer s H E hr => ⟨_, (pss_cons (ps_asg (pe_cal C_missed hr (pa_cons (pe_calm0 M_needs hr (pv 0)) (pa_cons (pv 1) pa_nil))) (pg_name (i := 2) sc_Wishes_two_courses.nd rfl (by first | exact Or.inl rfl | exact Or.inr rfl)))
      (pss_cons (ps_if (pt_cmpR op_isN (pv 2) pe_non (nomark _)) (pss_one (ps_ret pe_non)) pss_nil)
      (pss_cons (ps_asg (pv 2) (pg_tupK (K := K) rfl (pgs_cons (pg_name (i := 3) sc_Wishes_two_courses.nd rfl (by first | exact Or.inl rfl | exact Or.inr rfl)) (pgs_cons (pg_name (i := 4) sc_Wishes_two_courses.nd rfl (by first | exact Or.inl rfl | exact Or.inr rfl)) pgs_nil))))
      (pss_one (ps_ret (pe_tup (pa_cons (pv 3) (pa_cons (pe_callTy (call_listK (K := K)) (by rfl) T.list_ (by decide +kernel) (pa_cons (pe_ix (ix_seqK (K := K)) (pe_fldK (K := K) (pv 0) rfl) (pv 3) (fun _ _ => rfl)) pa_nil)) (pa_cons (pe_op (op_plusK (K := K)) (pe_lst (pa_cons (pv 4) pa_nil)) (pe_ix (ix_seqK (K := K)) (pe_fldK (K := K) (pv 0) rfl) (pv 3) (fun _ _ => rfl))) pa_nil))))))))), ?_⟩
  · rintro ρ R ⟨W, sp, _, rfl, _⟩
    exact ⟨rfl, fun j es h => by match j, h with | 0, h => cases h | 1, h => cases h | j + 2, h => simp at h⟩
  · rintro ρ R ⟨W, sp, ok, rfl, rfl⟩
    change Sv G _ [.rel (rW C W), .rel (dR (nL sp)), .un, .un, .un] _
    refine sv_seq (sv_set (R := dR (eMiss (missedM (needsM W) sp))) (ev_call (As := [.rel (dR (.list ((needsM W).map eNeed))), .rel (dR (nL sp))]) (as_rel (ev_meth (As := []) (ev_var rfl) rfl as_nil ⟨W, ok, rfl, rfl⟩) (as_rel (ev_var rfl) as_nil)) ⟨needsM W, sp, fun n hn => by have := needs_few ok hn; omega, rfl, rfl⟩) ?_)
    unfold coursesM
    cases e : missedM (needsM W) sp with
    | none => exact sv_seq (sv_if (b := true) (et_test (ev_op (ev_var rfl) ev_non od_isN)) (fun _ => sv_ret ev_non (Rel.le_refl _)) fun z => by cases z)
    | some q =>
      obtain ⟨p, n⟩ := q
      obtain ⟨c⟩ := course_of ok e
      have klen := asc_len c.ha
      have six := ok.six
      refine sv_seq (sv_if (b := false) (et_test (ev_op (ev_var rfl) ev_non od_isN)) (fun z => by cases z) fun _ => sv_next ?_)
      refine sv_seq (sv_asg (R := dR (.tuple [dN p, dN n])) (ev_var rfl) tg_tup2 ?_)
      have e2 : W.keeps.getD p [] = c.k := by
        rw [List.getD_eq_getElem?_getD, c.hk]
        rfl
      refine sv_ret (R := dR (.tuple [dN p, nL c.k, nL (n :: c.k)])) (ev_tup3 (ev_var rfl) ((en_list (ds := c.k.map dN) (ev_op (ev_fld (ev_var rfl) Tw.cl Tw.nK (wK W)) (ev_var rfl) (od_ixM (f := nL) rfl c.hk)) (.inl rfl)).evD) (ev_op (ev_lst1 (ev_var rfl)) (ev_op (ev_fld (ev_var rfl) Tw.cl Tw.nK (wK W)) (ev_var rfl) (od_ixM (f := nL) rfl c.hk)) (od_plusL (ds := [dN n]) (by rw [List.length_map]; simp; omega)))) ?_
      show (dR (.tuple [dN p, nL c.k, nL (n :: c.k)])).le (dR (.tuple [dN p, nL (W.keeps.getD p []), nL (n :: W.keeps.getD p [])]))
      rw [e2]
      exact Rel.le_refl _
abbrev Saved (W : Wish) (saved : List Nat) : Prop := (∀ n, n ∈ saved → n < W.forms.length) ∧ saved.length ≤ 20
theorem due_take (W : Wish) (saved : List Nat) (i : Nat) : (List.range (i + 1)).map (dueAt W saved) = (List.range i).map (dueAt W saved) ++ [dueAt W saved i] := by
  rw [List.range_succ, List.map_append]
  rfl
-- ['self', 'saved', 'found', 'part', 'number']
abbrev s_Wishes_due : Stmt := inClass (topS 19) 5
abbrev N_Wishes_due : List Str := ["self", "saved", "found", "part", "number"]
theorem sc_Wishes_due : FnScope N_Wishes_due ["self", "saved"] (defScope s_Wishes_due) := ⟨rfl, rfl, rfl, by decide +kernel, rfl, by decide +kernel, by decide +kernel⟩
def po_due (C : Addr) : List Slot → Rel → Prop := fun ρ R => ∃ (W : Wish) (saved : List Nat), WOk W ∧ Saved W saved ∧ ρ = [.rel (rW C W), .rel (dR (nL saved))] ∧ R = dR (nS (dueM W saved))
theorem ok_due (T : Tx K mg) (Tw : Tc K mg C) (D : DfM K C "due" "Wishes.due" s_Wishes_due ["self", "saved"]) : CalM P w K mg base C "due" 1 ["self", "saved"] (spS G (po_due C)) := by
  refine calm_df D Tw.cl sc_Wishes_due ?_ fun f cdv A outer s H E hr => ⟨_, (pss_cons (ps_asg (pe_lst pa_nil) (pg_name (i := 2) sc_Wishes_due.nd rfl (by first | exact Or.inl rfl | exact Or.inr rfl)))
      (pss_cons (ps_for PassesOwn.never rfl (pi_range1 (by rfl) T.range_ (pa_cons (pe_callB (call_lenK (K := K)) (by rfl) T.len_ PySem.boot_len (pa_cons (pe_fldK (K := K) (pv 0) rfl) pa_nil)) pa_nil)) (pg_name (i := 3) sc_Wishes_due.nd rfl (by first | exact Or.inl rfl | exact Or.inr rfl)) (pss_one (ps_if (pt_cmpR (op_neK (K := K) hr) (pe_lc (own := [("number", 4)]) rfl sc_Wishes_due.nd (pi_seqK (K := K) (pv 1)) (blkOk_by (by kernel_rfl)) (fun _ _ _ _ _ => (pg_name (i := 4) sc_Wishes_due.nd rfl (by first | exact Or.inl rfl | exact Or.inr rfl))) (fun _ _ _ _ _ => (pts_one (pt_cmpR (op_inK (K := K) hr) (pv 4) (pe_ix (ix_seqK (K := K)) (pe_fldK (K := K) (pv 0) rfl) (pv 3) (fun _ _ => rfl)) rfl))) (fun _ _ _ _ _ => (pv 4))) (pe_lst pa_nil) (nomark _)) (pss_one (ps_expr (pe_appK (K := K) (pv 2) pe_str))) (pss_one (ps_if (pt_cmpR (op_neK (K := K) hr) (pe_lc (own := [("number", 4)]) rfl sc_Wishes_due.nd (pi_seqK (K := K) (pv 1)) (blkOk_by (by kernel_rfl)) (fun _ _ _ _ _ => (pg_name (i := 4) sc_Wishes_due.nd rfl (by first | exact Or.inl rfl | exact Or.inr rfl))) (fun _ _ _ _ _ => (pts_one (pt_cmpR (op_niK (K := K) hr) (pv 4) (pe_ix (ix_seqK (K := K)) (pe_fldK (K := K) (pv 0) rfl) (pv 3) (fun _ _ => rfl)) rfl))) (fun _ _ _ _ _ => (pv 4))) (pe_lst pa_nil) (nomark _)) (pss_one (ps_expr (pe_appK (K := K) (pv 2) pe_str))) (pss_one (ps_expr (pe_appK (K := K) (pv 2) pe_str))))))))
      (pss_one (ps_ret (pv 2))))), ?_⟩
  · rintro ρ R ⟨W, sp, _, _, rfl, _⟩
    exact ⟨rfl, fun j es h => by match j, h with | 0, h => cases h | 1, h => cases h | j + 2, h => simp at h⟩
  · rintro ρ R ⟨W, saved, ok, sv, rfl, rfl⟩
    change Sv G _ [.rel (rW C W), .rel (dR (nL saved)), .un, .un, .un] _
    have four := ok.four
    have s20 := sv.2
    refine sv_seq (sv_own (ds := []) en_lst0 (sv_seq (sv_for1 (xs := List.range W.keeps.length) (Rx := fun (i : Nat) => dI (i : Int)) (fun i ρ1 => ∃ s3 : Slot, ρ1 = [.rel (rW C W), .rel (dR (nL saved)), .own (((List.range i).map (dueAt W saved)).map PyData.str), s3, .un])
      (ei_range1 (ea_cons (ev_lenM (ev_fld (ev_var rfl) Tw.cl Tw.nK (wK W))) ea_nil) (by omega)) ⟨_, rfl⟩ ?_ ?_)))
    · rintro i x ρ1 hx ⟨s3, rfl⟩
      obtain ⟨ex, hi⟩ := range_at hx
      subst ex
      have hk : W.keeps[x]? = some W.keeps[x] := List.getElem?_eq_getElem hi
      have hr : W.renews[x]? = some (W.renews[x]'(by rw [← ok.kr]; exact hi)) := List.getElem?_eq_getElem _
      have app : ∀ (t : TE) (ρ : List Slot) (P' : Post), ρ = [.rel (rW C W), .rel (dR (nL saved)), .own (((List.range x).map (dueAt W saved)).map PyData.str), .rel (dI (x : Int)), .un] → Ev G t ρ (dR (.str (dueAt W saved x))) →
          P'.nx [.rel (rW C W), .rel (dR (nL saved)), .own (((List.range (x + 1)).map (dueAt W saved)).map PyData.str), .rel (dI (x : Int)), .un] → Sv G (tDrop (tBM K "list" rAppend (tVar 2) (tCons t tNil))) ρ P' := fun t ρ P' e h k => by
        subst e
        refine sv_app (d := .str (dueAt W saved x)) rfl h (by rw [List.length_map, List.length_map, List.length_range]; omega) ?_
        rw [due_take, List.map_append] at k
        exact k
      have eg : dueAt W saved x = if (saved.any fun n => decide (n ∈ W.renews[x]'(by rw [← ok.kr]; exact hi))) = true then ("default" : Str) else if (saved.any fun n => !decide (n ∈ W.keeps[x])) = true then ("either" : Str) else ("detail" : Str) := by
        unfold dueAt
        rw [List.getD_eq_getElem?_getD, List.getD_eq_getElem?_getD, hk, hr]
        rfl
      refine sv_if (b := saved.any fun n => decide (n ∈ W.renews[x]'(by rw [← ok.kr]; exact hi))) (et_test (Ev.to (ev_op (Rb := dR (.list [])) (ev_lc1 (xs := saved) (Rx := fun n => dR (dN n)) (s0 := .un) (fun n => decide (n ∈ W.renews[x]'(by rw [← ok.kr]; exact hi))) dN (ei_mapL (ev_var rfl)) (by omega) rfl (fun z => z) fun n hn =>
        ⟨et_test (ev_op (ev_var rfl) (ev_op (ev_fld (ev_var rfl) Tw.cl Tw.nR (wR W)) (ev_var rfl) (od_ixM (f := nL) rfl hr)) od_inN), fun _ => ev_var rfl⟩) ev_lst0 (od_ne0 (sh_nL _) (by decide))) (congrArg dB (filter_any _ _ _)))) (fun h => app _ _ _ rfl ?_ ⟨_, rfl⟩) fun h => ?_
      · rw [eg, if_pos h]
        exact ev_str
      refine sv_if (b := saved.any fun n => !decide (n ∈ W.keeps[x])) (et_test (Ev.to (ev_op (Rb := dR (.list [])) (ev_lc1 (xs := saved) (Rx := fun n => dR (dN n)) (s0 := .un) (fun n => !decide (n ∈ W.keeps[x])) dN (ei_mapL (ev_var rfl)) (by omega) rfl (fun z => z) fun n hn =>
        ⟨et_test (ev_op (ev_var rfl) (ev_op (ev_fld (ev_var rfl) Tw.cl Tw.nK (wK W)) (ev_var rfl) (od_ixM (f := nL) rfl hk)) od_niN), fun _ => ev_var rfl⟩) ev_lst0 (od_ne0 (sh_nL _) (by decide))) (congrArg dB (filter_any _ _ _)))) (fun h2 => app _ _ _ rfl ?_ ⟨_, rfl⟩) fun h2 => app _ _ _ rfl ?_ ⟨_, rfl⟩
      · rw [eg, if_neg (by rw [h]; exact Bool.false_ne_true), if_pos h2]
        exact ev_str
      · rw [eg, if_neg (by rw [h]; exact Bool.false_ne_true), if_neg (by rw [h2]; exact Bool.false_ne_true)]
        exact ev_str
    · rintro ρ1 ⟨s3, rfl⟩
      rw [List.length_range]
      exact sv_freeze (i := 2) rfl (sv_ret (ev_var rfl) (show Rel.le _ _ from Rel.le_refl _))
-- ['self', 'spare', 'saved', 'found', 'part', 'marks', 'number', 'one']
abbrev s_Wishes_shown : Stmt := inClass (topS 19) 6
abbrev N_Wishes_shown : List Str := ["self", "spare", "saved", "found", "part", "marks", "number", "one"]
theorem sc_Wishes_shown : FnScope N_Wishes_shown ["self", "spare", "saved"] (defScope s_Wishes_shown) := ⟨rfl, rfl, rfl, by decide +kernel, rfl, by decide +kernel, by decide +kernel⟩
theorem shown_take (W : Wish) (spare saved : List Nat) (i : Nat) : (List.range (i + 1)).map (shownAt W spare saved) = (List.range i).map (shownAt W spare saved) ++ [shownAt W spare saved i] := by
  rw [List.range_succ, List.map_append]
  rfl
def po_shown (C : Addr) : List Slot → Rel → Prop := fun ρ R => ∃ (W : Wish) (spare saved : List Nat), WOk W ∧ Saved W saved ∧ ρ = [.rel (rW C W), .rel (dR (nL spare)), .rel (dR (nL saved))] ∧ R = dR (nS (shownM W spare saved))
theorem ok_shown (T : Tx K mg) (Tw : Tc K mg C) (M_outside : CalM P w K mg base C "outside" 1 ["self", "part", "number"] (spS G (po_outside C))) (D : DfM K C "shown" "Wishes.shown" s_Wishes_shown ["self", "spare", "saved"]) : CalM P w K mg base C "shown" 2 ["self", "spare", "saved"] (spS G (po_shown C)) := by
  refine calm_df D Tw.cl sc_Wishes_shown ?_ fun f cdv A outer s H E hr => ⟨_, (pss_cons (ps_asg (pe_lst pa_nil) (pg_name (i := 3) sc_Wishes_shown.nd rfl (by first | exact Or.inl rfl | exact Or.inr rfl)))
      (pss_cons (ps_for PassesOwn.never rfl (pi_range1 (by rfl) T.range_ (pa_cons (pe_callB (call_lenK (K := K)) (by rfl) T.len_ PySem.boot_len (pa_cons (pe_fldK (K := K) (pv 0) rfl) pa_nil)) pa_nil)) (pg_name (i := 4) sc_Wishes_shown.nd rfl (by first | exact Or.inl rfl | exact Or.inr rfl)) (pss_cons (ps_setLc (i := 5) (own := [("number", 6)]) rfl sc_Wishes_shown.nd rfl (by rfl) (sw_true rfl rfl rfl (by decide +kernel)) (pi_seqK (K := K) (pv 2)) (blkOk_by (by kernel_rfl)) (fun _ _ _ _ _ => (pg_name (i := 6) sc_Wishes_shown.nd rfl (by first | exact Or.inl rfl | exact Or.inr rfl))) (fun _ _ _ _ _ => (pts_one (pt_cmpR (op_neK (K := K) hr) (pe_lc (own := [("one", 7)]) rfl sc_Wishes_shown.nd (pi_seqK (K := K) (pe_calm M_outside hr (pv 0) (pa_cons (pv 4) (pa_cons (pv 6) pa_nil)))) (blkOk_by (by kernel_rfl)) (fun _ _ _ _ _ => (pg_name (i := 7) sc_Wishes_shown.nd rfl (by first | exact Or.inl rfl | exact Or.inr rfl))) (fun _ _ _ _ _ => (pts_one (pt_cmpR (op_inK (K := K) hr) (pv 7) (pv 1) rfl))) (fun _ _ _ _ _ => (pv 7))) (pe_lst pa_nil) (nomark _)))) (fun _ _ _ _ _ => (pv 6)))
      (pss_one (ps_expr (pe_appK (K := K) (pv 3) (pe_ifExp (pt_cmpR (op_eqK (K := K) hr) (pv 5) (pe_lst pa_nil) (nomark _)) pe_str pe_str))))))
      (pss_one (ps_ret (pv 3))))), ?_⟩
  · rintro ρ R ⟨W, spare, sp, _, _, rfl, _⟩
    exact ⟨rfl, fun j es h => by match j, h with | 0, h => cases h | 1, h => cases h | 2, h => cases h | j + 3, h => simp at h⟩
  · rintro ρ R ⟨W, spare, saved, ok, sv, rfl, rfl⟩
    change Sv G _ [.rel (rW C W), .rel (dR (nL spare)), .rel (dR (nL saved)), .un, .un, .un, .un, .un] _
    have four := ok.four
    have f5 := ok.f5
    have s20 := sv.2
    refine sv_seq (sv_own (ds := []) en_lst0 (sv_seq (sv_for1 (xs := List.range W.keeps.length) (Rx := fun (i : Nat) => dI (i : Int)) (fun i ρ1 => ∃ s4 s5 : Slot, ρ1 = [.rel (rW C W), .rel (dR (nL spare)), .rel (dR (nL saved)), .own (((List.range i).map (shownAt W spare saved)).map PyData.str), s4, s5, .un, .un])
      (ei_range1 (ea_cons (ev_lenM (ev_fld (ev_var rfl) Tw.cl Tw.nK (wK W))) ea_nil) (by omega)) ⟨_, _, rfl⟩ ?_ ?_)))
    · rintro i x ρ1 hx ⟨s4, s5, rfl⟩
      obtain ⟨ex, hi⟩ := range_at hx
      subst ex
      refine sv_seq (sv_set (R := dR (nL (saved.filter fun n => (outM W x n).any fun f => decide (f ∈ spare)))) (ev_lc1 (xs := saved) (Rx := fun n => dR (dN n)) (s0 := .un) (fun n => (outM W x n).any fun f => decide (f ∈ spare)) dN (ei_mapL (ev_var rfl)) (by omega) rfl (fun z => z) fun n hn => ⟨?_, fun _ => ev_var rfl⟩) ?_)
      · have ol := asc_len (outM_asc ok (p := x) (sv.1 n hn))
        exact et_test (Ev.to (ev_op (Rb := dR (.list [])) (ev_lc1 (xs := outM W x n) (Rx := fun f => dR (dN f)) (s0 := .un) (fun f => decide (f ∈ spare)) dN (ei_mapL (ev_meth (As := [.rel (dR (dN x)), .rel (dR (dN n))]) (ev_var rfl) rfl (as_rel (ev_var rfl) (as_rel (ev_var rfl) as_nil)) ⟨W, x, n, ok, hi, sv.1 n hn, rfl, rfl⟩)) (by omega) rfl (fun z => z) fun f hf =>
          ⟨et_test (ev_op (ev_var rfl) (ev_var rfl) od_inN), fun _ => ev_var rfl⟩) ev_lst0 (od_ne0 (sh_nL _) (by decide))) (congrArg dB (filter_any _ _ _)))
      · refine sv_app (d := .str (shownAt W spare saved x)) rfl (ev_if (b := !shownB W spare saved x) (et_test (Ev.to (ev_op (ev_var rfl) ev_lst0 (od_eq0 (sh_nL _) (by decide))) (congrArg dB (filter_none _ _ _)))) (fun h => ?_) fun h => ?_) (by rw [List.length_map, List.length_map, List.length_range]; omega) ⟨.rel (dI (x : Int)), .rel (dR (nL (saved.filter fun n => (outM W x n).any fun f => decide (f ∈ spare)))), ?_⟩
        · have : shownAt W spare saved x = "detail" := by
            unfold shownAt
            rw [if_neg (by rw [Bool.not_eq_true'] at h; rw [h]; exact Bool.false_ne_true)]
          rw [this]
          exact ev_str
        · have : shownAt W spare saved x = "default" := by
            unfold shownAt
            rw [if_pos (by rw [Bool.not_eq_false'] at h; exact h)]
          rw [this]
          exact ev_str
        · rw [shown_take, List.map_append]
          rfl
    · rintro ρ1 ⟨s4, s5, rfl⟩
      rw [List.length_range]
      exact sv_freeze (i := 3) rfl (sv_ret (ev_var rfl) (show Rel.le _ _ from Rel.le_refl _))
end
end K48
set_option Elab.async false
set_option linter.all false
set_option maxRecDepth 100000
/-! Eb: _law_same, _law_due, _law_set_back, _law_reads. -/
namespace K48
open PySem L2 Dx WM
section
variable {P : Program} {w : World} {K : PySem.W.Frag} {mg : Str → Option Value} {base : Heap} {G : Glob} {C : Addr}
-- ['told', 'due', 'at']
abbrev s_law_same : Stmt := topS 25
abbrev N_law_same : List Str := ["told", "due", "at"]
theorem sc_law_same : FnScope N_law_same ["told", "due"] (defScope s_law_same) := ⟨rfl, rfl, rfl, by decide +kernel, rfl, by decide +kernel, by decide +kernel⟩
def KS : Nat → PyData → Prop
  | 0, _ => False
  | n + 1, d => d = .none ∨ (∃ i, d = .int i) ∨ (∃ s, d = .str s ∧ PyData.strOk s = true) ∨ ∃ ds : List PyData, (d = .tuple ds ∨ d = .list ds) ∧ ds.length ≤ 100 ∧ ∀ e, e ∈ ds → KS n e
def po_same (n : Nat) : List Slot → Rel → Prop := fun ρ R => ∃ d : PyData, KS n d ∧ ρ = [d, d].map (fun d => .rel (dR d)) ∧ R = dB true
theorem isi {G : Glob} {ρ : List Slot} {ta : TE} {d : PyData} {t n : String} {b : Bool} (h : Ev G ta ρ (dR d)) (ht : tyD d = some t) (hb : kitB t n = some b) : Ev G (tCB (rIsi K) (tCons ta (tCons (tC (.ty n)) tNil))) ρ (dB b) :=
  ev_isi h (fun t' ht' => by rw [ht] at ht'; cases ht'; exact hb) fun z => by rw [ht] at z; cases z
theorem ok_same (T : Tx K mg) (D : Df K mg "_law_same" s_law_same ["told", "due"]) : ∀ n : Nat, Cal P w K mg base "_law_same" n ["told", "due"] (spS G (po_same n))
  | 0 => cal_df0 D fun ρ R ⟨_, h, _⟩ => h
  | n + 1 => by
    have C_law_same := ok_same T D n
    refine cal_df D sc_law_same ?_ fun f cdv A outer s H E hr => ⟨_, (pss_cons (ps_if (PW.pt (pw_or (pt_cmpR op_isN (pv 1) pe_non (nomark _)) (pw_or1 (pt_cmpR op_isN (pv 0) pe_non (nomark _))))) (pss_one (ps_ret (pe_and (pe_cmpR op_isN (pv 1) pe_non (nomark _)) (pe_one (pe_cmpR op_isN (pv 0) pe_non (nomark _)))))) pss_nil)
      (pss_cons (ps_if (PW.pt (pw_or (pt_val (pe_callB (call_isiK' (K := K)) (by rfl) T.isinstance_ (by decide +kernel) (pa_cons (pv 1) (pa_cons (pe_bltn (v := .ty "bool") (by rfl) T.bool_ (by decide +kernel) rfl) pa_nil)))) (pw_or1 (pt_val (pe_callB (call_isiK' (K := K)) (by rfl) T.isinstance_ (by decide +kernel) (pa_cons (pv 0) (pa_cons (pe_bltn (v := .ty "bool") (by rfl) T.bool_ (by decide +kernel) rfl) pa_nil))))))) (pss_one (ps_ret (pe_and (pe_callB (call_isiK' (K := K)) (by rfl) T.isinstance_ (by decide +kernel) (pa_cons (pv 1) (pa_cons (pe_bltn (v := .ty "bool") (by rfl) T.bool_ (by decide +kernel) rfl) pa_nil))) (pe_and (pe_callB (call_isiK' (K := K)) (by rfl) T.isinstance_ (by decide +kernel) (pa_cons (pv 0) (pa_cons (pe_bltn (v := .ty "bool") (by rfl) T.bool_ (by decide +kernel) rfl) pa_nil))) (pe_one (pe_cmpR (op_eqK (K := K) hr) (pv 0) (pv 1) (nomark _))))))) pss_nil)
      (pss_cons (ps_if (pt_val (pe_callB (call_isiK' (K := K)) (by rfl) T.isinstance_ (by decide +kernel) (pa_cons (pv 1) (pa_cons (pe_bltn (v := .ty "int") (by rfl) T.int_ (by decide +kernel) rfl) pa_nil)))) (pss_one (ps_ret (pe_and (pe_callB (call_isiK' (K := K)) (by rfl) T.isinstance_ (by decide +kernel) (pa_cons (pv 0) (pa_cons (pe_bltn (v := .ty "int") (by rfl) T.int_ (by decide +kernel) rfl) pa_nil))) (pe_one (pe_cmpR (op_eqK (K := K) hr) (pv 0) (pv 1) (nomark _)))))) pss_nil)
      (pss_cons (ps_if (pt_val (pe_callB (call_isiK' (K := K)) (by rfl) T.isinstance_ (by decide +kernel) (pa_cons (pv 1) (pa_cons (pe_bltn (v := .ty "str") (by rfl) T.str_ (by decide +kernel) rfl) pa_nil)))) (pss_one (ps_ret (pe_and (pe_callB (call_isiK' (K := K)) (by rfl) T.isinstance_ (by decide +kernel) (pa_cons (pv 0) (pa_cons (pe_bltn (v := .ty "str") (by rfl) T.str_ (by decide +kernel) rfl) pa_nil))) (pe_one (pe_cmpR (op_eqK (K := K) hr) (pv 0) (pv 1) (nomark _)))))) pss_nil)
      (pss_cons (ps_if (PW.pt (pw_and (pt_val (pe_callB (call_isiK' (K := K)) (by rfl) T.isinstance_ (by decide +kernel) (pa_cons (pv 1) (pa_cons (pe_bltn (v := .ty "tuple") (by rfl) T.tuple_ (by decide +kernel) rfl) pa_nil)))) (pw_and1 (pt_not (pt_val (pe_callB (call_isiK' (K := K)) (by rfl) T.isinstance_ (by decide +kernel) (pa_cons (pv 0) (pa_cons (pe_bltn (v := .ty "tuple") (by rfl) T.tuple_ (by decide +kernel) rfl) pa_nil)))))))) (pss_one (ps_ret pe_bl)) pss_nil)
      (pss_cons (ps_if (PW.pt (pw_and (pt_val (pe_callB (call_isiK' (K := K)) (by rfl) T.isinstance_ (by decide +kernel) (pa_cons (pv 1) (pa_cons (pe_bltn (v := .ty "list") (by rfl) T.list_ (by decide +kernel) rfl) pa_nil)))) (pw_and1 (pt_not (pt_val (pe_callB (call_isiK' (K := K)) (by rfl) T.isinstance_ (by decide +kernel) (pa_cons (pv 0) (pa_cons (pe_bltn (v := .ty "list") (by rfl) T.list_ (by decide +kernel) rfl) pa_nil)))))))) (pss_one (ps_ret pe_bl)) pss_nil)
      (pss_cons (ps_if (pt_cmpR (op_neK (K := K) hr) (pe_callB (call_lenK (K := K)) (by rfl) T.len_ PySem.boot_len (pa_cons (pv 0) pa_nil)) (pe_callB (call_lenK (K := K)) (by rfl) T.len_ PySem.boot_len (pa_cons (pv 1) pa_nil)) (nomark _)) (pss_one (ps_ret pe_bl)) pss_nil)
      (pss_cons (ps_for PassesOwn.never rfl (pi_range1 (by rfl) T.range_ (pa_cons (pe_callB (call_lenK (K := K)) (by rfl) T.len_ PySem.boot_len (pa_cons (pv 1) pa_nil)) pa_nil)) (pg_name (i := 2) sc_law_same.nd rfl (by first | exact Or.inl rfl | exact Or.inr rfl)) (pss_one (ps_if (pt_not (pt_val (pe_cal C_law_same hr (pa_cons (pe_ix (ix_seqK (K := K)) (pv 0) (pv 2) (fun _ _ => rfl)) (pa_cons (pe_ix (ix_seqK (K := K)) (pv 1) (pv 2) (fun _ _ => rfl)) pa_nil))))) (pss_one (ps_ret pe_bl)) pss_nil)))
      (pss_one (ps_ret pe_bl)))))))))), ?_⟩
    · rintro ρ R ⟨d, _, rfl, _⟩
      exact ⟨rfl, noOwn (Rs := [_, _])⟩
    · rintro ρ R ⟨d, hd, rfl, rfl⟩
      change Sv G _ [.rel (dR d), .rel (dR d), .un] _
      rcases hd with rfl | ⟨i, rfl⟩ | ⟨x, rfl, hx⟩ | ⟨ds, hds, h100, hall⟩
      · exact sv_seq (sv_if (b := true || true) (et_or (et_test (ev_op (ev_var rfl) ev_non od_isN)) fun z => by cases z) (fun _ => sv_ret (R := dB (true && true)) (ev_andV (ev_op (ev_var rfl) ev_non od_isN) fun _ => ev_op (ev_var rfl) ev_non od_isN) (Rel.le_refl _)) fun z => by cases z)
      · refine sv_seq (sv_if (b := false || false) (et_or (et_test (ev_op (ev_var rfl) ev_non od_isN)) fun _ => et_test (ev_op (ev_var rfl) ev_non od_isN)) (fun z => by cases z) fun _ => sv_next ?_)
        refine sv_seq (sv_if (b := false || false) (et_or (et_test (isi (t := "int") (ev_var rfl) rfl (by decide +kernel))) fun _ => et_test (isi (t := "int") (ev_var rfl) rfl (by decide +kernel))) (fun z => by cases z) fun _ => sv_next ?_)
        refine sv_seq (sv_if (b := true) (et_test (isi (t := "int") (ev_var rfl) rfl (by decide +kernel))) (fun _ => ?_) fun z => by cases z)
        exact sv_ret (R := dB true) (Ev.to (ev_andV (a := true) (isi (t := "int") (ev_var rfl) rfl (by decide +kernel)) fun _ => ev_op (ev_var rfl) (ev_var rfl) od_eqI) (by simp)) (Rel.le_refl _)
      · refine sv_seq (sv_if (b := false || false) (et_or (et_test (ev_op (ev_var rfl) ev_non od_isN)) fun _ => et_test (ev_op (ev_var rfl) ev_non od_isN)) (fun z => by cases z) fun _ => sv_next ?_)
        refine sv_seq (sv_if (b := false || false) (et_or (et_test (isi (t := "str") (ev_var rfl) rfl (by decide +kernel))) fun _ => et_test (isi (t := "str") (ev_var rfl) rfl (by decide +kernel))) (fun z => by cases z) fun _ => sv_next ?_)
        refine sv_seq (sv_if (b := false) (et_test (isi (t := "str") (ev_var rfl) rfl (by decide +kernel))) (fun z => by cases z) fun _ => sv_next ?_)
        refine sv_seq (sv_if (b := true) (et_test (isi (t := "str") (ev_var rfl) rfl (by decide +kernel))) (fun _ => ?_) fun z => by cases z)
        exact sv_ret (R := dB true) (Ev.to (ev_andV (a := true) (isi (t := "str") (ev_var rfl) rfl (by decide +kernel)) fun _ => ev_op (ev_var rfl) (ev_var rfl) (od_eq ((sh_str hx : Sh 0 (.str _)).shaped (by decide)) ((sh_str hx : Sh 0 (.str _)).shaped (by decide)))) (by rw [eqv_str]; rfl)) (Rel.le_refl _)
      · have nn : isNone d = false := by rcases hds with rfl | rfl <;> rfl
        have ty : tyD d = some "tuple" ∨ tyD d = some "list" := by rcases hds with rfl | rfl <;> simp [tyD]
        have no : ∀ n, (n = "bool" ∨ n = "int" ∨ n = "str") → ∀ (ρ : List Slot) (i : Nat), ρ[i]? = some (.rel (dR d)) → Ev G (tCB (rIsi K) (tCons (tVar i) (tCons (tC (.ty n)) tNil))) ρ (dB false) := fun n hn ρ i h => by
          rcases ty with t | t
          · rcases hn with rfl | rfl | rfl <;> exact isi (ev_var h) t (by decide +kernel)
          · rcases hn with rfl | rfl | rfl <;> exact isi (ev_var h) t (by decide +kernel)
        refine sv_seq (sv_if (b := false || false) (et_or (et_test (Ev.to (ev_op (ev_var rfl) ev_non od_isN) (congrArg dB nn))) fun _ => et_test (Ev.to (ev_op (ev_var rfl) ev_non od_isN) (congrArg dB nn))) (fun z => by cases z) fun _ => sv_next ?_)
        refine sv_seq (sv_if (b := false || false) (et_or (et_test (no "bool" (.inl rfl) _ 1 rfl)) fun _ => et_test (no "bool" (.inl rfl) _ 0 rfl)) (fun z => by cases z) fun _ => sv_next ?_)
        refine sv_seq (sv_if (b := false) (et_test (no "int" (.inr (.inl rfl)) _ 1 rfl)) (fun z => by cases z) fun _ => sv_next ?_)
        refine sv_seq (sv_if (b := false) (et_test (no "str" (.inr (.inr rfl)) _ 1 rfl)) (fun z => by cases z) fun _ => sv_next ?_)
        have two : ∀ (n : String), (n = "tuple" ∨ n = "list") → ∃ b, ∀ (ρ : List Slot) (i : Nat), ρ[i]? = some (.rel (dR d)) → Ev G (tCB (rIsi K) (tCons (tVar i) (tCons (tC (.ty n)) tNil))) ρ (dB b) := fun n hn => by
          rcases ty with t | t
          · rcases hn with rfl | rfl
            · exact ⟨true, fun ρ i h => isi (ev_var h) t (by decide +kernel)⟩
            · exact ⟨false, fun ρ i h => isi (ev_var h) t (by decide +kernel)⟩
          · rcases hn with rfl | rfl
            · exact ⟨false, fun ρ i h => isi (ev_var h) t (by decide +kernel)⟩
            · exact ⟨true, fun ρ i h => isi (ev_var h) t (by decide +kernel)⟩
        obtain ⟨b1, h1⟩ := two "tuple" (.inl rfl)
        obtain ⟨b2, h2⟩ := two "list" (.inr rfl)
        refine sv_seq (sv_if (b := b1 && !b1) (et_and (et_test (h1 _ 1 rfl)) fun _ => et_not (et_test (h1 _ 0 rfl))) (fun z => by cases b1 <;> cases z) fun _ => sv_next ?_)
        refine sv_seq (sv_if (b := b2 && !b2) (et_and (et_test (h2 _ 1 rfl)) fun _ => et_not (et_test (h2 _ 0 rfl))) (fun z => by cases b2 <;> cases z) fun _ => sv_next ?_)
        have hd' : d = .list ds ∨ d = .tuple ds := hds.symm
        refine sv_seq (sv_if (b := !decide ((ds.length : Int) = (ds.length : Int))) (et_test (ev_op (ev_len (ev_var rfl) hd') (ev_len (ev_var rfl) hd') od_neI)) (fun z => by simp at z) fun _ => sv_next ?_)
        refine sv_seq (sv_for1 (xs := List.range ds.length) (Rx := fun (i : Nat) => dI (i : Int)) (fun i ρ1 => ∃ s2 : Slot, ρ1 = [.rel (dR d), .rel (dR d), s2]) (ei_range1 (ea_cons (ev_len (ev_var rfl) hd') ea_nil) (by omega)) ⟨_, rfl⟩ ?_ ?_)
        · rintro i x ρ1 hx ⟨s2, rfl⟩
          obtain ⟨ex, hi⟩ := range_at hx
          subst ex
          have he : ds[x]? = some ds[x] := List.getElem?_eq_getElem hi
          have ix : ∀ (ρ : List Slot) (j : Nat), ρ[j]? = some (.rel (dR d)) → ρ[2]? = some (.rel (dI (x : Int))) → Ev G (tOp (rIx K) (tVar j) (tVar 2)) ρ (dR ds[x]) := fun ρ j g1 g2 => by
            rcases hds with rfl | rfl
            · exact ev_op (ev_var g1) (ev_var g2) (od_ixT (atI_nat he))
            · exact ev_op (ev_var g1) (ev_var g2) (od_ixL (atI_nat he))
          exact sv_if (b := !true) (et_not (et_B (ev_call (As := [.rel (dR ds[x]), .rel (dR ds[x])]) (as_rel (ix _ 0 rfl rfl) (as_rel (ix _ 1 rfl rfl) as_nil)) ⟨ds[x], hall _ (List.getElem_mem hi), rfl, rfl⟩))) (fun z => by cases z) fun _ => sv_next ⟨_, rfl⟩
        · rintro ρ1 ⟨s2, rfl⟩
          exact sv_ret ev_bl (Rel.le_refl _)
/-! ### _law_due -/
-- ['wishes', 'saved', 'found', 'part', 'number', 'strange']
abbrev s_law_due : Stmt := topS 31
abbrev N_law_due : List Str := ["wishes", "saved", "found", "part", "number", "strange"]
theorem sc_law_due : FnScope N_law_due ["wishes", "saved"] (defScope s_law_due) := ⟨rfl, rfl, rfl, by decide +kernel, rfl, by decide +kernel, by decide +kernel⟩
def po_ldue : List Slot → Rel → Prop := fun ρ R => ∃ (W : Wish) (saved : List Nat), WOk W ∧ Saved W saved ∧ ρ = [eW W, nL saved].map (fun d => .rel (dR d)) ∧ R = dR (nS (dueM W saved))
theorem ok_ldue (T : Tx K mg) (D : Df K mg "_law_due" s_law_due ["wishes", "saved"]) : Cal P w K mg base "_law_due" 1 ["wishes", "saved"] (spS G po_ldue) := by
  refine cal_df D sc_law_due ?_ fun f cdv A outer s H E hr => ⟨_, (pss_cons (ps_asg (pe_lst pa_nil) (pg_name (i := 2) sc_law_due.nd rfl (by first | exact Or.inl rfl | exact Or.inr rfl)))
      (pss_cons (ps_for PassesOwn.never rfl (pi_range1 (by rfl) T.range_ (pa_cons (pe_callB (call_lenK (K := K)) (by rfl) T.len_ PySem.boot_len (pa_cons (pe_ix (ix_seqK (K := K)) (pv 0) pe_int (fun _ _ => rfl)) pa_nil)) pa_nil)) (pg_name (i := 3) sc_law_due.nd rfl (by first | exact Or.inl rfl | exact Or.inr rfl)) (pss_one (ps_if (pt_cmpR (op_neK (K := K) hr) (pe_lc (own := [("number", 4)]) rfl sc_law_due.nd (pi_seqK (K := K) (pv 1)) (blkOk_by (by kernel_rfl)) (fun _ _ _ _ _ => (pg_name (i := 4) sc_law_due.nd rfl (by first | exact Or.inl rfl | exact Or.inr rfl))) (fun _ _ _ _ _ => (pts_one (pt_cmpR (op_inK (K := K) hr) (pv 4) (pe_ix (ix_seqK (K := K)) (pe_ix (ix_seqK (K := K)) (pv 0) pe_int (fun _ _ => rfl)) (pv 3) (fun _ _ => rfl)) rfl))) (fun _ _ _ _ _ => (pv 4))) (pe_lst pa_nil) (nomark _)) (pss_one (ps_expr (pe_appK (K := K) (pv 2) pe_str))) (pss_cons (ps_setLc (i := 5) (own := [("number", 4)]) rfl sc_law_due.nd rfl (by rfl) (sw_true rfl rfl rfl (by decide +kernel)) (pi_seqK (K := K) (pv 1)) (blkOk_by (by kernel_rfl)) (fun _ _ _ _ _ => (pg_name (i := 4) sc_law_due.nd rfl (by first | exact Or.inl rfl | exact Or.inr rfl))) (fun _ _ _ _ _ => (pts_one (pt_cmpR (op_niK (K := K) hr) (pv 4) (pe_ix (ix_seqK (K := K)) (pe_ix (ix_seqK (K := K)) (pv 0) pe_int (fun _ _ => rfl)) (pv 3) (fun _ _ => rfl)) rfl))) (fun _ _ _ _ _ => (pv 4)))
      (pss_one (ps_expr (pe_appK (K := K) (pv 2) (pe_ifExp (pt_cmpR (op_eqK (K := K) hr) (pv 5) (pe_lst pa_nil) (nomark _)) pe_str pe_str))))))))
      (pss_one (ps_ret (pv 2))))), ?_⟩
  · rintro ρ R ⟨W, sp, _, _, rfl, _⟩
    exact ⟨rfl, noOwn (Rs := [_, _])⟩
  · rintro ρ R ⟨W, saved, ok, sv, rfl, rfl⟩
    change Sv G _ [.rel (dR (eW W)), .rel (dR (nL saved)), .un, .un, .un, .un] _
    have four := ok.four
    have s20 := sv.2
    refine sv_seq (sv_own (ds := []) en_lst0 (sv_seq (sv_for1 (xs := List.range W.keeps.length) (Rx := fun (i : Nat) => dI (i : Int)) (fun i ρ1 => ∃ s3 s5 : Slot, ρ1 = [.rel (dR (eW W)), .rel (dR (nL saved)), .own (((List.range i).map (dueAt W saved)).map PyData.str), s3, .un, s5])
      (ei_range1 (ea_cons (ev_lenM (ev_op (ev_var rfl) ev_int (od_ixL rfl))) ea_nil) (by omega)) ⟨_, _, rfl⟩ ?_ ?_)))
    · rintro i x ρ1 hx ⟨s3, s5, rfl⟩
      obtain ⟨ex, hi⟩ := range_at hx
      subst ex
      have hk : W.keeps[x]? = some W.keeps[x] := List.getElem?_eq_getElem hi
      have hr : W.renews[x]? = some (W.renews[x]'(by rw [← ok.kr]; exact hi)) := List.getElem?_eq_getElem _
      have eg : dueAt W saved x = if (saved.any fun n => decide (n ∈ W.renews[x]'(by rw [← ok.kr]; exact hi))) = true then ("default" : Str) else if (saved.any fun n => !decide (n ∈ W.keeps[x])) = true then ("either" : Str) else ("detail" : Str) := by
        unfold dueAt
        rw [List.getD_eq_getElem?_getD, List.getD_eq_getElem?_getD, hk, hr]
        rfl
      have len : (((List.range x).map (dueAt W saved)).map PyData.str).length < 1000 := by rw [List.length_map, List.length_map, List.length_range]; omega
      refine sv_if (b := saved.any fun n => decide (n ∈ W.renews[x]'(by rw [← ok.kr]; exact hi))) (et_test (Ev.to (ev_op (Rb := dR (.list [])) (ev_lc1 (xs := saved) (Rx := fun n => dR (dN n)) (s0 := .un) (fun n => decide (n ∈ W.renews[x]'(by rw [← ok.kr]; exact hi))) dN (ei_mapL (ev_var rfl)) (by omega) rfl (fun z => z) fun n hn =>
        ⟨et_test (ev_op (ev_var rfl) (ev_op (ev_op (ev_var rfl) ev_int (od_ixL rfl)) (ev_var rfl) (od_ixM (f := nL) rfl hr)) od_inN), fun _ => ev_var rfl⟩) ev_lst0 (od_ne0 (sh_nL _) (by decide))) (congrArg dB (filter_any _ _ _)))) (fun h => ?_) fun h => ?_
      · refine sv_app (d := .str (dueAt W saved x)) rfl ?_ len ⟨.rel (dI (x : Int)), s5, ?_⟩
        · rw [eg, if_pos h]
          exact ev_str
        · rw [due_take, List.map_append]
          rfl
      refine sv_seq (sv_set (R := dR (nL (saved.filter fun n => !decide (n ∈ W.keeps[x])))) (ev_lc1 (xs := saved) (Rx := fun n => dR (dN n)) (s0 := .un) (fun n => !decide (n ∈ W.keeps[x])) dN (ei_mapL (ev_var rfl)) (by omega) rfl (fun z => z) fun n hn =>
        ⟨et_test (ev_op (ev_var rfl) (ev_op (ev_op (ev_var rfl) ev_int (od_ixL rfl)) (ev_var rfl) (od_ixM (f := nL) rfl hk)) od_niN), fun _ => ev_var rfl⟩) ?_)
      refine sv_app (d := .str (dueAt W saved x)) rfl (ev_if (b := !saved.any fun n => !decide (n ∈ W.keeps[x])) (et_test (Ev.to (ev_op (ev_var rfl) ev_lst0 (od_eq0 (sh_nL _) (by decide))) (congrArg dB (filter_none _ _ _)))) (fun h2 => ?_) fun h2 => ?_) len ⟨.rel (dI (x : Int)), .rel (dR (nL (saved.filter fun n => !decide (n ∈ W.keeps[x])))), ?_⟩
      · rw [Bool.not_eq_true'] at h2
        rw [eg, if_neg (by rw [h]; exact Bool.false_ne_true), if_neg (by rw [h2]; exact Bool.false_ne_true)]
        exact ev_str
      · rw [Bool.not_eq_false'] at h2
        rw [eg, if_neg (by rw [h]; exact Bool.false_ne_true), if_pos h2]
        exact ev_str
      · rw [due_take, List.map_append]
        rfl
    · rintro ρ1 ⟨s3, s5, rfl⟩
      rw [List.length_range]
      exact sv_freeze (i := 2) rfl (sv_ret (ev_var rfl) (show Rel.le _ _ from Rel.le_refl _))
/-! ### _law_set_back -/
-- ['wishes', 'spare', 'saved', 'field', 'number']
abbrev s_law_set_back : Stmt := topS 33
abbrev N_law_set_back : List Str := ["wishes", "spare", "saved", "field", "number"]
theorem sc_law_set_back : FnScope N_law_set_back ["wishes", "spare", "saved"] (defScope s_law_set_back) := ⟨rfl, rfl, rfl, by decide +kernel, rfl, by decide +kernel, by decide +kernel⟩
def po_back : List Slot → Rel → Prop := fun ρ R => ∃ (W : Wish) (spare saved : List Nat), WOk W ∧ Saved W saved ∧ spare.length ≤ 5 ∧ ρ = [eW W, nL spare, nL saved].map (fun d => .rel (dR d)) ∧ R = dR (nL (backM W spare saved))
theorem ok_back (T : Tx K mg) (D : Df K mg "_law_set_back" s_law_set_back ["wishes", "spare", "saved"]) : Cal P w K mg base "_law_set_back" 1 ["wishes", "spare", "saved"] (spS G po_back) := by
  refine cal_df D sc_law_set_back ?_ fun f cdv A outer s H E hr => ⟨_, (pss_one (ps_ret (pe_lc (own := [("field", 3)]) rfl sc_law_set_back.nd (pi_seqK (K := K) (pv 1)) (blkOk_by (by kernel_rfl)) (fun _ _ _ _ _ => (pg_name (i := 3) sc_law_set_back.nd rfl (by first | exact Or.inl rfl | exact Or.inr rfl))) (fun _ _ _ _ _ => (pts_one (pt_cmpR (op_neK (K := K) hr) (pe_lc (own := [("number", 4)]) rfl sc_law_set_back.nd (pi_seqK (K := K) (pv 2)) (blkOk_by (by kernel_rfl)) (fun _ _ _ _ _ => (pg_name (i := 4) sc_law_set_back.nd rfl (by first | exact Or.inl rfl | exact Or.inr rfl))) (fun _ _ _ _ _ => (pts_one (pt_cmpR (op_inK (K := K) hr) (pv 3) (pe_ix (ix_seqK (K := K)) (pe_ix (ix_seqK (K := K)) (pv 0) pe_int (fun _ _ => rfl)) (pv 4) (fun _ _ => rfl)) rfl))) (fun _ _ _ _ _ => (pv 4))) (pe_lst pa_nil) (nomark _)))) (fun _ _ _ _ _ => (pv 3))))), ?_⟩
  · rintro ρ R ⟨W, _, sp, _, _, _, rfl, _⟩
    exact ⟨rfl, noOwn (Rs := [_, _, _])⟩
  · rintro ρ R ⟨W, spare, saved, ok, sv, s5, rfl, rfl⟩
    change Sv G _ [.rel (dR (eW W)), .rel (dR (nL spare)), .rel (dR (nL saved)), .un, .un] _
    have s20 := sv.2
    refine sv_ret (ev_lc1 (xs := spare) (Rx := fun f => dR (dN f)) (s0 := .un) (fun f => saved.any fun n => decide (f ∈ W.forms.getD n [])) dN (ei_mapL (ev_var rfl)) (by omega) rfl (fun z => z) fun f hf => ⟨?_, fun _ => ev_var rfl⟩) (Rel.le_refl _)
    refine et_test (Ev.to (ev_op (Rb := dR (.list [])) (ev_lc1 (xs := saved) (Rx := fun n => dR (dN n)) (s0 := .un) (fun n => decide (f ∈ W.forms.getD n [])) dN (ei_mapL (ev_var rfl)) (by omega) rfl (fun z => z) fun n hn => ⟨?_, fun _ => ev_var rfl⟩) ev_lst0 (od_ne0 (sh_nL _) (by decide))) (congrArg dB (filter_any _ _ _)))
    have hf : W.forms[n]? = some (W.forms[n]'(sv.1 n hn)) := List.getElem?_eq_getElem _
    rw [List.getD_eq_getElem?_getD, hf]
    exact et_test (ev_op (ev_var rfl) (ev_op (ev_op (ev_var rfl) ev_int (od_ixL rfl)) (ev_var rfl) (od_ixM (f := nT) rfl hf)) od_inNT)
/-! ### _law_reads -/
-- ['wishes', 'back', 'found', 'part', 'kept', 'keeper', 'strange', 'field', 'form']
abbrev s_law_reads : Stmt := topS 34
abbrev N_law_reads : List Str := ["wishes", "back", "found", "part", "kept", "keeper", "strange", "field", "form"]
theorem sc_law_reads : FnScope N_law_reads ["wishes", "back"] (defScope s_law_reads) := ⟨rfl, rfl, rfl, by decide +kernel, rfl, by decide +kernel, by decide +kernel⟩
theorem read_take (W : Wish) (back : List Nat) (i : Nat) : (List.range (i + 1)).map (readAt W back) = (List.range i).map (readAt W back) ++ [readAt W back i] := by
  rw [List.range_succ, List.map_append]
  rfl
def po_reads : List Slot → Rel → Prop := fun ρ R => ∃ (W : Wish) (back : List Nat), WOk W ∧ back.length ≤ 5 ∧ ρ = [eW W, nL back].map (fun d => .rel (dR d)) ∧ R = dR (nS (readM W back))
theorem ok_reads (T : Tx K mg) (D : Df K mg "_law_reads" s_law_reads ["wishes", "back"]) : Cal P w K mg base "_law_reads" 1 ["wishes", "back"] (spS G po_reads) := by
  refine cal_df D sc_law_reads ?_ fun f cdv A outer s H E hr => ⟨_, (pss_cons (ps_asg (pe_lst pa_nil) (pg_name (i := 2) sc_law_reads.nd rfl (by first | exact Or.inl rfl | exact Or.inr rfl)))
      (pss_cons (ps_for PassesOwn.never rfl (pi_range1 (by rfl) T.range_ (pa_cons (pe_callB (call_lenK (K := K)) (by rfl) T.len_ PySem.boot_len (pa_cons (pe_ix (ix_seqK (K := K)) (pv 0) pe_int (fun _ _ => rfl)) pa_nil)) pa_nil)) (pg_name (i := 3) sc_law_reads.nd rfl (by first | exact Or.inl rfl | exact Or.inr rfl)) (pss_cons (ps_asg (pe_lc (own := [("keeper", 5)]) rfl sc_law_reads.nd (pi_seqK (K := K) (pe_ix (ix_seqK (K := K)) (pe_ix (ix_seqK (K := K)) (pv 0) pe_int (fun _ _ => rfl)) (pv 3) (fun _ _ => rfl))) (blkOk_by (by kernel_rfl)) (fun _ _ _ _ _ => (pg_name (i := 5) sc_law_reads.nd rfl (by first | exact Or.inl rfl | exact Or.inr rfl))) (fun _ _ _ _ _ => pts_nil) (fun _ _ _ _ _ => (pe_ix (ix_seqK (K := K)) (pe_ix (ix_seqK (K := K)) (pv 0) pe_int (fun _ _ => rfl)) (pv 5) (fun _ _ => rfl)))) (pg_name (i := 4) sc_law_reads.nd rfl (by first | exact Or.inl rfl | exact Or.inr rfl)))
      (pss_cons (ps_setLc (i := 6) (own := [("field", 7)]) rfl sc_law_reads.nd rfl (by rfl) (sw_true rfl rfl rfl (by decide +kernel)) (pi_seqK (K := K) (pv 1)) (blkOk_by (by kernel_rfl)) (fun _ _ _ _ _ => (pg_name (i := 7) sc_law_reads.nd rfl (by first | exact Or.inl rfl | exact Or.inr rfl))) (fun _ _ _ _ _ => (pts_one (pt_cmpR (op_eqK (K := K) hr) (pe_lc (own := [("form", 8)]) rfl sc_law_reads.nd (pi_seqK (K := K) (pv 4)) (blkOk_by (by kernel_rfl)) (fun _ _ _ _ _ => (pg_name (i := 8) sc_law_reads.nd rfl (by first | exact Or.inl rfl | exact Or.inr rfl))) (fun _ _ _ _ _ => (pts_one (pt_cmpR (op_inK (K := K) hr) (pv 7) (pv 8) rfl))) (fun _ _ _ _ _ => (pv 8))) (pe_lst pa_nil) (nomark _)))) (fun _ _ _ _ _ => (pv 7)))
      (pss_one (ps_expr (pe_appK (K := K) (pv 2) (pe_ifExp (pt_cmpR (op_eqK (K := K) hr) (pv 6) (pe_lst pa_nil) (nomark _)) pe_str pe_str)))))))
      (pss_one (ps_ret (pv 2))))), ?_⟩
  · rintro ρ R ⟨W, _, _, _, rfl, _⟩
    exact ⟨rfl, noOwn (Rs := [_, _])⟩
  · rintro ρ R ⟨W, back, ok, b5, rfl, rfl⟩
    change Sv G _ [.rel (dR (eW W)), .rel (dR (nL back)), .un, .un, .un, .un, .un, .un, .un] _
    have four := ok.four
    have six := ok.six
    refine sv_seq (sv_own (ds := []) en_lst0 (sv_seq (sv_for1 (xs := List.range W.keeps.length) (Rx := fun (i : Nat) => dI (i : Int)) (fun i ρ1 => ∃ s3 s4 s6 : Slot, ρ1 = [.rel (dR (eW W)), .rel (dR (nL back)), .own (((List.range i).map (readAt W back)).map PyData.str), s3, s4, .un, s6, .un, .un])
      (ei_range1 (ea_cons (ev_lenM (ev_op (ev_var rfl) ev_int (od_ixL rfl))) ea_nil) (by omega)) ⟨_, _, _, rfl⟩ ?_ ?_)))
    · rintro i x ρ1 hx ⟨s3, s4, s6, rfl⟩
      obtain ⟨ex, hi⟩ := range_at hx
      subst ex
      have hk : W.keeps[x]? = some W.keeps[x] := List.getElem?_eq_getElem hi
      have ka := ok.ka _ (List.mem_of_getElem? hk)
      have klen := asc_len ka
      refine sv_seq (sv_set (R := dR (.list ((W.keeps[x].map fun k => W.forms.getD k []).map nT))) ?_ ?_)
      · refine Ev.to (ev_map1 (xs := W.keeps[x]) (Rx := fun k => dR (dN k)) (s0 := .un) (fun k => nT (W.forms.getD k [])) (ei_mapL (ev_op (ev_op (ev_var rfl) ev_int (od_ixL rfl)) (ev_var rfl) (od_ixM (f := nL) rfl hk))) (by omega) rfl (fun z => z) fun k hk' => ?_) (by rw [List.map_map]; rfl)
        have hfk : W.forms[k]? = some (W.forms[k]'(ka.2 k hk')) := List.getElem?_eq_getElem _
        rw [List.getD_eq_getElem?_getD, hfk]
        exact ev_op (ev_op (ev_var rfl) ev_int (od_ixL rfl)) (ev_var rfl) (od_ixM (f := nT) rfl hfk)
      refine sv_seq (sv_set (R := dR (nL (back.filter fun f => !decide (f ∈ covM W W.keeps[x])))) (ev_lc1 (xs := back) (Rx := fun f => dR (dN f)) (s0 := .un) (fun f => !decide (f ∈ covM W W.keeps[x])) dN (ei_mapL (ev_var rfl)) (by omega) rfl (fun z => z) fun f hf => ⟨?_, fun _ => ev_var rfl⟩) ?_)
      · refine et_test (Ev.to (ev_op (Rb := dR (.list [])) (ev_lc1 (xs := W.keeps[x].map fun k => W.forms.getD k []) (Rx := fun f => dR (nT f)) (s0 := .un) (fun g => decide (f ∈ g)) nT (ei_mapL (ev_var rfl)) (by rw [List.length_map]; omega) rfl (fun z => z) fun g hg => ⟨?_, fun _ => ev_var rfl⟩) ev_lst0 (od_eq0 (sh_list (n := 1) (sh_map fun _ _ => sh_nT _)) (by decide))) (congrArg dB (cov_empty W f _)))
        exact et_test (ev_op (ev_var rfl) (ev_var rfl) od_inNT)
      have eg : readB W back x = back.any fun f => !decide (f ∈ covM W W.keeps[x]) := by
        unfold readB
        rw [List.getD_eq_getElem?_getD, hk]
        rfl
      refine sv_app (d := .str (readAt W back x)) rfl (ev_if (b := !readB W back x) (et_test (Ev.to (ev_op (ev_var rfl) ev_lst0 (od_eq0 (sh_nL _) (by decide))) (congrArg dB (by rw [filter_none, eg])))) (fun h => ?_) fun h => ?_) (by rw [List.length_map, List.length_map, List.length_range]; omega) ⟨.rel (dI (x : Int)), .rel (dR (.list ((W.keeps[x].map fun k => W.forms.getD k []).map nT))), .rel (dR (nL (back.filter fun f => !decide (f ∈ covM W W.keeps[x])))), ?_⟩
      · have : readAt W back x = "detail" := by
          unfold readAt
          rw [if_neg (by rw [Bool.not_eq_true'] at h; rw [h]; exact Bool.false_ne_true)]
        rw [this]
        exact ev_str
      · have : readAt W back x = "default" := by
          unfold readAt
          rw [if_pos (by rw [Bool.not_eq_false'] at h; exact h)]
        rw [this]
        exact ev_str
      · rw [read_take, List.map_append]
        rfl
    · rintro ρ1 ⟨s3, s4, s6, rfl⟩
      rw [List.length_range]
      exact sv_freeze (i := 2) rfl (sv_ret (ev_var rfl) (show Rel.le _ _ from Rel.le_refl _))
end
end K48
set_option Elab.async false
set_option linter.all false
set_option maxRecDepth 100000
/-! Ec: _law_rows_of_forms. -/
namespace K48
open PySem L2 Dx WM
section
variable {P : Program} {w : World} {K : PySem.W.Frag} {mg : Str → Option Value} {base : Heap} {G : Glob} {C : Addr}
-- ['purse', 'many', 'most', 'found', 'last', 'turn', 'longer', 'row', 'number', 'at']
abbrev s_law_rows_of_forms : Stmt := topS 32
abbrev N_law_rows_of_forms : List Str := ["purse", "many", "most", "found", "last", "turn", "longer", "row", "number", "at"]
theorem sc_law_rows_of_forms : FnScope N_law_rows_of_forms ["purse", "many"] (defScope s_law_rows_of_forms) := ⟨rfl, rfl, rfl, by decide +kernel, rfl, by decide +kernel, by decide +kernel⟩
def Rows (many : Nat) : Type := { rows : List (List Nat) // rows.length ≤ 400 ∧ ∀ r, r ∈ rows → (∀ x, x ∈ r → x < many) ∧ r.length ≤ 6 }
def rRows (many : Nat) : Rel := rEx fun rs : Rows many => dR (.list (rs.1.map nL))
def po_rows : List Slot → Rel → Prop := fun ρ R => ∃ many : Nat, 1 ≤ many ∧ many ≤ 6 ∧ ρ = [.mvl shP, .rel (dR (dN many))] ∧ R = rRows many
def mostN : List Nat := [0, 4, 4, 3, 2, 2, 2]
theorem pow_small : ∀ m : Nat, m < 7 → ∀ i : Nat, i < 5 → i ≤ mostN.getD m 0 → m ^ i ≤ 40 := by decide
theorem most_small : ∀ m : Nat, m < 7 → mostN.getD m 0 < 5 := by decide
/-- the rows one longer -/
def longerM (many : Nat) (L : List (List Nat)) : List (List Nat) := (L.map fun r => (List.range many).map fun n => r ++ [n]).flatten
theorem longer_len (many : Nat) : ∀ L : List (List Nat), (longerM many L).length = L.length * many
  | [] => by simp [longerM]
  | r :: L => by
    have := longer_len many L
    unfold longerM at this ⊢
    rw [List.map_cons, List.flatten_cons, List.length_append, this, List.length_map, List.length_range, List.length_cons, Nat.add_mul]
    omega
theorem longer_take (many : Nat) (L : List (List Nat)) {i : Nat} {r : List Nat} (h : L[i]? = some r) : longerM many (L.take (i + 1)) = longerM many (L.take i) ++ (List.range many).map fun n => r ++ [n] := by
  unfold longerM
  rw [List.take_add_one, h, List.map_append, List.flatten_append]
  simp
theorem longer_mem {many : Nat} {L : List (List Nat)} {k : Nat} (h : ∀ r, r ∈ L → (∀ x, x ∈ r → x < many) ∧ r.length = k) : ∀ r, r ∈ longerM many L → (∀ x, x ∈ r → x < many) ∧ r.length = k + 1 := fun r hr => by
  obtain ⟨l, hl, hr⟩ := List.mem_flatten.mp hr
  obtain ⟨r0, h0, rfl⟩ := List.mem_map.mp hl
  obtain ⟨n, hn, rfl⟩ := List.mem_map.mp hr
  obtain ⟨a, b⟩ := h r0 h0
  refine ⟨fun x hx => ?_, by rw [List.length_append, b]; rfl⟩
  rcases List.mem_append.mp hx with z | z
  · exact a x z
  · rw [List.mem_singleton.mp z]
    exact List.mem_range.mp hn
theorem ok_rows (T : Tx K mg) (C_law_draw : Cal P w K mg base "_law_draw" 1 ["purse", "many"] (spS G po_draw)) (D : Df K mg "_law_rows_of_forms" s_law_rows_of_forms ["purse", "many"]) : Cal P w K mg base "_law_rows_of_forms" 2 ["purse", "many"] (spS G po_rows) := by
  refine cal_df D sc_law_rows_of_forms ?_ fun f cdv A outer s H E hr => ⟨_, (pss_cons (ps_asg (pe_ix (ix_seqK (K := K)) (pe_lst (pa_cons pe_int (pa_cons pe_int (pa_cons pe_int (pa_cons pe_int (pa_cons pe_int (pa_cons pe_int (pa_cons pe_int pa_nil)))))))) (pv 1) (fun _ _ => rfl)) (pg_name (i := 2) sc_law_rows_of_forms.nd rfl (by first | exact Or.inl rfl | exact Or.inr rfl)))
      (pss_cons (ps_asg (pe_lst (pa_cons (pe_lst pa_nil) pa_nil)) (pg_name (i := 3) sc_law_rows_of_forms.nd rfl (by first | exact Or.inl rfl | exact Or.inr rfl)))
      (pss_cons (ps_asg (pe_lst (pa_cons (pe_lst pa_nil) pa_nil)) (pg_name (i := 4) sc_law_rows_of_forms.nd rfl (by first | exact Or.inl rfl | exact Or.inr rfl)))
      (pss_cons (ps_for PassesOwn.never rfl (pi_range1 (by rfl) T.range_ (pa_cons (pv 2) pa_nil)) (pg_name (i := 5) sc_law_rows_of_forms.nd rfl (by first | exact Or.inl rfl | exact Or.inr rfl)) (pss_cons (ps_asg (pe_lst pa_nil) (pg_name (i := 6) sc_law_rows_of_forms.nd rfl (by first | exact Or.inl rfl | exact Or.inr rfl)))
      (pss_cons (ps_for PassesOwn.never rfl (pi_seqK (K := K) (pv 4)) (pg_name (i := 7) sc_law_rows_of_forms.nd rfl (by first | exact Or.inl rfl | exact Or.inr rfl)) (pss_one (ps_asg (pe_op (op_plusK (K := K)) (pv 6) (pe_lc (own := [("number", 8)]) rfl sc_law_rows_of_forms.nd (pi_range1 (by rfl) T.range_ (pa_cons (pv 1) pa_nil)) (blkOk_by (by kernel_rfl)) (fun _ _ _ _ _ => (pg_name (i := 8) sc_law_rows_of_forms.nd rfl (by first | exact Or.inl rfl | exact Or.inr rfl))) (fun _ _ _ _ _ => pts_nil) (fun _ _ _ _ _ => (pe_op (op_plusK (K := K)) (pv 7) (pe_lst (pa_cons (pv 8) pa_nil)))))) (pg_name (i := 6) sc_law_rows_of_forms.nd rfl (by first | exact Or.inl rfl | exact Or.inr rfl)))))
      (pss_cons (ps_asg (pe_op (op_plusK (K := K)) (pv 3) (pv 6)) (pg_name (i := 3) sc_law_rows_of_forms.nd rfl (by first | exact Or.inl rfl | exact Or.inr rfl)))
      (pss_one (ps_asg (pv 6) (pg_name (i := 4) sc_law_rows_of_forms.nd rfl (by first | exact Or.inl rfl | exact Or.inr rfl))))))))
      (pss_cons (ps_for PassesOwn.never rfl (pi_range1 (by rfl) T.range_ (pa_cons pe_int pa_nil)) (pg_name (i := 5) sc_law_rows_of_forms.nd rfl (by first | exact Or.inl rfl | exact Or.inr rfl)) (pss_one (ps_expr (pe_appK (K := K) (pv 3) (pe_lc (own := [("at", 9)]) rfl sc_law_rows_of_forms.nd (pi_range1 (by rfl) T.range_ (pa_cons (pe_op (op_plusK (K := K)) pe_int (pe_cal C_law_draw hr (pa_cons (pv 0) (pa_cons pe_int pa_nil)))) pa_nil)) (blkOk_by (by kernel_rfl)) (fun _ _ _ _ _ => (pg_name (i := 9) sc_law_rows_of_forms.nd rfl (by first | exact Or.inl rfl | exact Or.inr rfl))) (fun _ _ _ _ _ => pts_nil) (fun _ _ _ _ _ => (pe_cal C_law_draw hr (pa_cons (pv 0) (pa_cons (pv 1) pa_nil)))))))))
      (pss_one (ps_ret (pv 3)))))))), ?_⟩
  · rintro ρ R ⟨m, _, _, rfl, _⟩
    exact ⟨rfl, fun j es h => by match j, h with | 0, h => cases h | 1, h => cases h | j + 2, h => simp at h⟩
  · rintro ρ R ⟨m, m1, m6, rfl, rfl⟩
    change Sv G _ [.mvl shP, .rel (dR (dN m)), .un, .un, .un, .un, .un, .un, .un, .un] _
    have draw : ∀ (ρ : List Slot) (te : TE) (n : Nat), ρ[0]? = some (.mvl shP) → Ev G te ρ (dR (dN n)) → 0 < n → n < 1000 → Ev G (tCall (spS G po_draw) [] E0 (tCons (tVar 0) (tCons te tNil))) ρ (rBelow n) := fun ρ te n h0 he h1 h2 =>
      ev_call (As := [.mvl 0 shP, .rel (dR (dN n))]) (as_mvl h0 (as_rel he as_nil)) ⟨n, h1, by omega, rfl, rfl⟩
    have ms := most_small m (by omega)
    have hmost : mostN[m]? = some (mostN.getD m 0) := by
      rw [List.getD_eq_getElem?_getD, List.getElem?_eq_getElem (show m < mostN.length by show m < 7; omega)]
      rfl
    refine sv_seq (sv_set (R := dR (dN (mostN.getD m 0))) (ev_op (Ra := dR (.list (mostN.map dN))) (ev_lstD (ds := mostN.map dN) (ea_cons ev_int (ea_cons ev_int (ea_cons ev_int (ea_cons ev_int (ea_cons ev_int (ea_cons ev_int (ea_cons ev_int ea_nil))))))) (by decide)) (ev_var rfl) (od_ixM rfl hmost)) ?_)
    generalize hT : mostN.getD m 0 = top at *
    refine sv_seq (sv_own (ds := [[]].map nL) (en_lst1 ev_lst0) (sv_seq (sv_set (R := dR (.list ([[]].map nL))) (ev_lst1 ev_lst0) ?_)))
    refine sv_seq (sv_for1 (xs := List.range top) (Rx := fun (i : Nat) => dI (i : Int)) (fun i ρ1 => ∃ (Fd L : List (List Nat)) (s5 s6 s7 : Slot), ρ1 = [.mvl shP, .rel (dR (dN m)), .rel (dR (dN top)), .own (Fd.map nL), .rel (dR (.list (L.map nL))), s5, s6, s7, .un, .un] ∧
      Fd.length ≤ 1 + i * 40 ∧ L.length = m ^ i ∧ (∀ r, r ∈ Fd → (∀ x, x ∈ r → x < m) ∧ r.length ≤ i) ∧ ∀ r, r ∈ L → (∀ x, x ∈ r → x < m) ∧ r.length = i)
      (ei_range1 (ea_cons (ev_var rfl) ea_nil) (by omega)) ⟨[[]], [[]], _, _, _, rfl, by simp, by simp, by simp, by simp⟩ ?_ ?_)
    · rintro i x ρ1 hx ⟨Fd, L, s5, s6, s7, rfl, hF, hL, mF, mL⟩
      obtain ⟨ex, hi⟩ := range_at hx
      subst ex
      have p1 := pow_small m (by omega) (x + 1) (by omega) (by rw [hT]; omega)
      have lenL : (longerM m L).length ≤ 40 := by
        rw [longer_len, hL, ← Nat.pow_succ]
        exact p1
      have p0 := pow_small m (by omega) x (by omega) (by rw [hT]; omega)
      refine sv_seq (sv_set (R := dR (.list (([] : List (List Nat)).map nL))) ev_lst0 (sv_seq (sv_for1 (xs := L) (Rx := fun r => dR (nL r)) (fun j ρ2 => ∃ s7 : Slot, ρ2 = [.mvl shP, .rel (dR (dN m)), .rel (dR (dN top)), .own (Fd.map nL), .rel (dR (.list (L.map nL))), .rel (dI (x : Int)), .rel (dR (.list ((longerM m (L.take j)).map nL))), s7, .un, .un])
        (ei_mapL (ev_var rfl)) ⟨_, rfl⟩ ?_ ?_)))
      · rintro j r ρ2 hr2 ⟨s7, rfl⟩
        have hj : j < L.length := (List.getElem?_eq_some_iff.mp hr2).1
        have rl := (mL r (List.mem_of_getElem? hr2)).2
        have e1 := longer_take m L hr2
        have tl : (longerM m (L.take j)).length + m ≤ 40 := by
          have h := longer_len m (L.take (j + 1))
          rw [e1, List.length_append, List.length_map, List.length_range] at h
          rw [h]
          have h2 := List.length_take_le (j + 1) L
          have h3 := longer_len m L
          rw [List.length_take]
          have : (min (j + 1) L.length) * m ≤ L.length * m := Nat.mul_le_mul_right m (Nat.min_le_right _ _)
          omega
        refine sv_set (Ev.to (ev_op (ev_var rfl) (Ev.to (ev_map1 (xs := List.range m) (Rx := fun (i : Nat) => dI (i : Int)) (s0 := .un) (fun n => nL (r ++ [n])) (ei_range1 (n := m) (ea_cons (ev_var rfl) ea_nil) (by omega)) (by rw [List.length_range]; omega) rfl (fun z => z) fun n hn => Ev.to (ev_op (ev_var rfl) (ev_lst1 (ev_var rfl)) (od_plusL (ds := r.map dN) (es := [dN n]) (by rw [List.length_map]; simp; omega))) (show dR (.list (r.map dN ++ [dN n])) = dR (.list ((r ++ [n]).map dN)) by rw [List.map_append]; rfl))
          (show _ = dR (.list (((List.range m).map fun n => r ++ [n]).map nL)) by rw [List.map_map]; rfl)) (od_plusL (by rw [List.length_map, List.length_map, List.length_map, List.length_range]; omega))) (show _ = dR (.list ((longerM m (L.take (j + 1))).map nL)) by rw [e1, List.map_append])) ⟨.rel (dR (nL r)), rfl⟩
      · rintro ρ2 ⟨s7, rfl⟩
        rw [List.take_length]
        refine sv_seq (sv_own (ds := (Fd ++ longerM m L).map nL) ?_ (sv_set (R := dR (.list ((longerM m L).map nL))) (ev_var rfl) ⟨Fd ++ longerM m L, longerM m L, .rel (dI (x : Int)), .rel (dR (.list ((longerM m L).map nL))), s7, rfl, ?_, ?_, ?_, longer_mem mL⟩))
        · rw [List.map_append]
          exact en_plusOwn rfl (ev_var rfl) (by rw [List.length_map, List.length_map]; omega)
        · rw [List.length_append]
          omega
        · rw [longer_len, hL, Nat.pow_succ]
        · intro r hr
          rcases List.mem_append.mp hr with z | z
          · have := mF r z
            exact ⟨this.1, by omega⟩
          · have := longer_mem mL r z
            exact ⟨this.1, by omega⟩
    · rintro ρ1 ⟨Fd, L, s5, s6, s7, rfl, hF, hL, mF, mL⟩
      rw [List.length_range] at hF mF
      refine sv_seq (sv_for1 (xs := List.range 12) (Rx := fun (i : Nat) => dI (i : Int)) (fun i ρ1 => ∃ (Fd : List (List Nat)) (s5 : Slot), ρ1 = [.mvl shP, .rel (dR (dN m)), .rel (dR (dN top)), .own (Fd.map nL), .rel (dR (.list (L.map nL))), s5, s6, s7, .un, .un] ∧ Fd.length ≤ 200 + i ∧ ∀ r, r ∈ Fd → (∀ x, x ∈ r → x < m) ∧ r.length ≤ 6)
        (ei_range1 (n := 12) (ea_cons (Ev.to ev_int rfl) ea_nil) (by decide)) ⟨Fd, _, rfl, by omega, fun r hr => ⟨(mF r hr).1, by have := (mF r hr).2; omega⟩⟩ ?_ ?_)
      · rintro i x ρ2 hx ⟨Fd, s5, rfl, hF, mF⟩
        have hi : i < 12 := by
          obtain ⟨_, h⟩ := range_at hx
          have := (List.getElem?_eq_some_iff.mp hx).1
          rw [List.length_range] at this
          exact this
        refine sv_appEx (d := fun l : { l : List Nat // l.length ≤ 6 ∧ ∀ x, x ∈ l → x < m } => nL l.1) rfl (ev_lcR (B := 7) (Ev.le (ev_op (R := rEx fun r : Below 3 => dI (4 + (r.1 : Int))) ev_int (draw _ _ 3 rfl (Ev.to ev_int rfl) (by decide) (by decide)) (OpD.exR fun r => od_plusI)) fun F v ⟨r, hv⟩ => ⟨⟨4 + r.1, by have := r.2; omega⟩, ?_⟩) (by decide) fun n hn => ?_) (by rw [List.length_map]; omega) fun l => ?_
        · show Dq F v (.int (((4 + r.1 : Nat) : Nat) : Int))
          rw [show (((4 + r.1 : Nat) : Nat) : Int) = 4 + (r.1 : Int) by omega]
          exact hv
        · refine Ev.le (en_map1 (xs := List.range n) (Rx := fun (i : Nat) => dI (i : Int)) (s0 := .un) (fun _ => rBelow m) (ei_rng n) (by rw [List.length_range]; omega) rfl (fun z => z) fun x hx => draw _ _ m rfl (ev_var rfl) (by omega) (by omega)).ev fun F v h => ?_
          obtain ⟨l, hv⟩ := drawn_list (B := m) n F v h
          exact ⟨⟨l.1, by have := l.2.1; omega, l.2.2⟩, hv⟩
        · refine ⟨Fd ++ [l.1], .rel (dI (x : Int)), by rw [List.map_append]; rfl, by rw [List.length_append]; simp; omega, fun r hr => ?_⟩
          rcases List.mem_append.mp hr with z | z
          · exact mF r z
          · rw [List.mem_singleton.mp z]
            exact ⟨l.2.2, l.2.1⟩
      · rintro ρ2 ⟨Fd, s5, rfl, hF, mF⟩
        rw [List.length_range] at hF
        exact sv_freeze (i := 3) rfl (sv_ret (ev_var rfl) (show Rel.le _ _ from fun F v h => ⟨⟨Fd, by omega, mF⟩, h⟩))
end
end K48
set_option Elab.async false
set_option linter.all false
set_option maxRecDepth 100000
/-! Ed: _law_serves, _law_missed_by. -/
namespace K48
open PySem L2 Dx WM
section
variable {P : Program} {w : World} {K : PySem.W.Frag} {mg : Str → Option Value} {base : Heap} {G : Glob} {C : Addr}
theorem nt0 : True := trivial
theorem ks_strs {l : List Str} (h : l.length ≤ 100) (hs : ∀ s, s ∈ l → PyData.strOk s = true) : KS 2 (nS l) := .inr (.inr (.inr ⟨_, .inr rfl, by rw [List.length_map]; exact h, fun e he => by
  obtain ⟨s, hs', rfl⟩ := List.mem_map.mp he
  exact .inr (.inr (.inl ⟨s, rfl, hs s hs'⟩))⟩))
theorem due_str (W : Wish) (saved : List Nat) (p : Nat) : dueAt W saved p = "default" ∨ dueAt W saved p = "either" ∨ dueAt W saved p = "detail" := by
  unfold dueAt
  split
  · exact .inl rfl
  · split
    · exact .inr (.inl rfl)
    · exact .inr (.inr rfl)
theorem shown_str (W : Wish) (spare saved : List Nat) (p : Nat) : shownAt W spare saved p = "default" ∨ shownAt W spare saved p = "detail" := by
  unfold shownAt
  split
  · exact .inl rfl
  · exact .inr rfl
theorem word_ok {s : Str} (h : s = "default" ∨ s = "either" ∨ s = "detail") : PyData.strOk s = true := by
  rcases h with rfl | rfl | rfl <;> decide +kernel
theorem back_len {W : Wish} {spare saved : List Nat} (h : spare.length ≤ 5) : (backM W spare saved).length ≤ 5 := by
  unfold backM
  exact Nat.le_trans (List.length_filter_le _ _) h
theorem sh_word {s : Str} (h : s = "default" ∨ s = "either" ∨ s = "detail") : Sh 0 (.str s) := sh_str (word_ok h)
theorem eqv_words {s t : Str} : PyData.eqv (.str s) (.str t) = decide (s = t) := by
  rw [PyData.eqv]
  by_cases h : s = t
  · rw [h, decide_eq_true rfl]
    exact beq_self_eq_true t
  · rw [decide_eq_false h]
    exact beq_eq_false_iff_ne.mpr h
-- ['purse', 'wishes', 'real', 'spare', 'saved', 'due', 'shown', 'part']
abbrev s_law_serves : Stmt := topS 35
abbrev N_law_serves : List Str := ["purse", "wishes", "real", "spare", "saved", "due", "shown", "part"]
theorem sc_law_serves : FnScope N_law_serves ["purse", "wishes", "real", "spare"] (defScope s_law_serves) := ⟨rfl, rfl, rfl, by decide +kernel, rfl, by decide +kernel, by decide +kernel⟩
def po_serves (C : Addr) : List Slot → Rel → Prop := fun ρ R => ∃ (W : Wish) (sp : List Nat), WOk W ∧ Asc W.fields sp ∧ fitsB (needsM W) sp = true ∧ ρ = [.mvl shP, .rel (dR (eW W)), .rel (rW C W), .rel (dR (nL sp))] ∧ R = dB true
theorem ok_serves (T : Tx K mg) (C_law_rows_of_forms : Cal P w K mg base "_law_rows_of_forms" 2 ["purse", "many"] (spS G po_rows)) (C_law_due : Cal P w K mg base "_law_due" 1 ["wishes", "saved"] (spS G po_ldue)) (M_shown : CalM P w K mg base C "shown" 2 ["self", "spare", "saved"] (spS G (po_shown C)))
    (M_due : CalM P w K mg base C "due" 1 ["self", "saved"] (spS G (po_due C))) (C_law_same : Cal P w K mg base "_law_same" 2 ["told", "due"] (spS G (po_same 2))) (C_law_reads : Cal P w K mg base "_law_reads" 1 ["wishes", "back"] (spS G po_reads))
    (C_law_set_back : Cal P w K mg base "_law_set_back" 1 ["wishes", "spare", "saved"] (spS G po_back)) (M_two_courses : CalM P w K mg base C "two_courses" 3 ["self", "spare"] (spS G (po_courses C))) (C_judge_spare : Cal P w K mg base "judge_spare" 3 ["wishes", "spare"] (spS G (po_judge C)))
    (D : Df K mg "_law_serves" s_law_serves ["purse", "wishes", "real", "spare"]) : Cal P w K mg base "_law_serves" 4 ["purse", "wishes", "real", "spare"] (spS G (po_serves C)) := by
  refine cal_df D sc_law_serves ?_ fun f cdv A outer s H E hr => ⟨_, (pss_cons (ps_for PassesOwn.never rfl (pi_seqK (K := K) (pe_cal C_law_rows_of_forms hr (pa_cons (pv 0) (pa_cons (pe_callB (call_lenK (K := K)) (by rfl) T.len_ PySem.boot_len (pa_cons (pe_ix (ix_seqK (K := K)) (pv 1) pe_int (fun _ _ => rfl)) pa_nil)) pa_nil)))) (pg_name (i := 4) sc_law_serves.nd rfl (by first | exact Or.inl rfl | exact Or.inr rfl)) (pss_cons (ps_asg (pe_cal C_law_due hr (pa_cons (pv 1) (pa_cons (pv 4) pa_nil))) (pg_name (i := 5) sc_law_serves.nd rfl (by first | exact Or.inl rfl | exact Or.inr rfl)))
      (pss_cons (ps_asg (pe_calm M_shown hr (pv 2) (pa_cons (pv 3) (pa_cons (pv 4) pa_nil))) (pg_name (i := 6) sc_law_serves.nd rfl (by first | exact Or.inl rfl | exact Or.inr rfl)))
      (pss_cons (ps_if (PW.pt (pw_or (pt_not (pt_val (pe_cal C_law_same hr (pa_cons (pe_calm M_due hr (pv 2) (pa_cons (pv 4) pa_nil)) (pa_cons (pv 5) pa_nil))))) (pw_or1 (pt_not (pt_val (pe_cal C_law_same hr (pa_cons (pv 6) (pa_cons (pe_cal C_law_reads hr (pa_cons (pv 1) (pa_cons (pe_cal C_law_set_back hr (pa_cons (pv 1) (pa_cons (pv 3) (pa_cons (pv 4) pa_nil)))) pa_nil))) pa_nil)))))))) (pss_one (ps_ret pe_bl)) pss_nil)
      (pss_one (ps_for PassesOwn.never rfl (pi_range1 (by rfl) T.range_ (pa_cons (pe_callB (call_lenK (K := K)) (by rfl) T.len_ PySem.boot_len (pa_cons (pv 5) pa_nil)) pa_nil)) (pg_name (i := 7) sc_law_serves.nd rfl (by first | exact Or.inl rfl | exact Or.inr rfl)) (pss_one (ps_if (PW.pt (pw_and (pt_cmpR (op_neK (K := K) hr) (pe_ix (ix_seqK (K := K)) (pv 5) (pv 7) (fun _ _ => rfl)) pe_str (nomark _)) (pw_and1 (pt_cmpR (op_neK (K := K) hr) (pe_ix (ix_seqK (K := K)) (pv 5) (pv 7) (fun _ _ => rfl)) (pe_ix (ix_seqK (K := K)) (pv 6) (pv 7) (fun _ _ => rfl)) (nomark _))))) (pss_one (ps_ret pe_bl)) pss_nil))))))))
      (pss_one (ps_ret (pe_and (pe_cmpR op_isN (pe_calm M_two_courses hr (pv 2) (pa_cons (pv 3) pa_nil)) pe_non (nomark _)) (pe_one (pe_cmpR op_isN (pe_cal C_judge_spare hr (pa_cons (pv 2) (pa_cons (pv 3) pa_nil))) pe_non (nomark _))))))), ?_⟩
  · rintro ρ R ⟨W, sp, _, _, _, rfl, _⟩
    exact ⟨rfl, fun j es h => by match j, h with | 0, h => cases h | 1, h => cases h | 2, h => cases h | 3, h => cases h | j + 4, h => simp at h⟩
  · rintro ρ R ⟨W, sp, ok, sa, fit, rfl, rfl⟩
    change Sv G _ [.mvl shP, .rel (dR (eW W)), .rel (rW C W), .rel (dR (nL sp)), .un, .un, .un, .un] _
    have four := ok.four
    have six := ok.six
    have f5 := ok.f5
    have sl := asc_len sa
    have m1 : 1 ≤ W.forms.length := List.length_pos_iff.mpr ok.ne
    have miss : missedM (needsM W) sp = none := Option.isNone_iff_eq_none.mp fit
    refine sv_seq (sv_forX (xs := fun rs : Rows W.forms.length => rs.1) (Rx := fun r => dR (nL r)) (fun _ i ρ1 => ∃ s4 s5 s6 s7 : Slot, ρ1 = [.mvl shP, .rel (dR (eW W)), .rel (rW C W), .rel (dR (nL sp)), s4, s5, s6, s7])
      (eix_mapL (ev_call (As := [.mvl 0 shP, .rel (dR (dN W.forms.length))]) (as_mvl rfl (as_rel (ev_lenM (ev_op (ev_var rfl) ev_int (od_ixL rfl))) as_nil)) ⟨W.forms.length, m1, six, rfl, rfl⟩)) (fun _ => ⟨_, _, _, _, rfl⟩) ?_ ?_)
    · rintro rs i saved ρ1 hx ⟨s4, s5, s6, s7, rfl⟩
      obtain ⟨r1, r2⟩ := rs.2.2 saved (List.mem_of_getElem? hx)
      have sv : Saved W saved := ⟨r1, by omega⟩
      have dl : (dueM W saved).length = W.keeps.length := by
        unfold dueM
        rw [List.length_map, List.length_range]
      have hdS : ∀ s, s ∈ dueM W saved → PyData.strOk s = true := fun s hs => by
        obtain ⟨p, _, rfl⟩ := List.mem_map.mp hs
        exact word_ok (due_str W saved p)
      have hsS : ∀ s, s ∈ shownM W sp saved → PyData.strOk s = true := fun s hs => by
        obtain ⟨p, _, rfl⟩ := List.mem_map.mp hs
        exact word_ok ((shown_str W sp saved p).elim .inl fun z => .inr (.inr z))
      have shl : (shownM W sp saved).length = W.keeps.length := by
        unfold shownM
        rw [List.length_map, List.length_range]
      refine sv_seq (sv_set (R := dR (nS (dueM W saved))) (ev_call (As := [.rel (dR (eW W)), .rel (dR (nL saved))]) (as_rel (ev_var rfl) (as_rel (ev_var rfl) as_nil)) ⟨W, saved, ok, sv, rfl, rfl⟩) ?_)
      refine sv_seq (sv_set (R := dR (nS (shownM W sp saved))) (ev_meth (As := [.rel (dR (nL sp)), .rel (dR (nL saved))]) (ev_var rfl) rfl (as_rel (ev_var rfl) (as_rel (ev_var rfl) as_nil)) ⟨W, sp, saved, ok, sv, rfl, rfl⟩) ?_)
      refine sv_seq (sv_if (b := !true || !true) (et_or (et_not (et_B (ev_call (As := [.rel (dR (nS (dueM W saved))), .rel (dR (nS (dueM W saved)))]) (as_rel (ev_meth (As := [.rel (dR (nL saved))]) (ev_var rfl) rfl (as_rel (ev_var rfl) as_nil) ⟨W, saved, ok, sv, rfl, rfl⟩) (as_rel (ev_var rfl) as_nil)) ⟨_, ks_strs (by omega) hdS, rfl, rfl⟩)))
        fun _ => et_not (et_B (ev_call (As := [.rel (dR (nS (shownM W sp saved))), .rel (dR (nS (shownM W sp saved)))]) (as_rel (ev_var rfl) (as_rel (Ev.to (ev_call (As := [.rel (dR (eW W)), .rel (dR (nL (backM W sp saved)))]) (as_rel (ev_var rfl) (as_rel (ev_call (As := [.rel (dR (eW W)), .rel (dR (nL sp)), .rel (dR (nL saved))]) (as_rel (ev_var rfl) (as_rel (ev_var rfl) (as_rel (ev_var rfl) as_nil))) ⟨W, sp, saved, ok, sv, by omega, rfl, rfl⟩) as_nil)) ⟨W, _, ok, back_len (by omega), rfl, rfl⟩) (by rw [shown_reads])) as_nil)) ⟨_, ks_strs (by omega) hsS, rfl, rfl⟩))) (fun z => by cases z) fun _ => sv_next ?_)
      refine sv_for1 (xs := List.range W.keeps.length) (Rx := fun (i : Nat) => dI (i : Int)) (fun i ρ2 => ∃ s7 : Slot, ρ2 = [.mvl shP, .rel (dR (eW W)), .rel (rW C W), .rel (dR (nL sp)), .rel (dR (nL saved)), .rel (dR (nS (dueM W saved))), .rel (dR (nS (shownM W sp saved))), s7])
        (ei_range1 (ea_cons (Ev.to (ev_lenM (ev_var rfl)) (by rw [dl])) ea_nil) (by omega)) ⟨_, rfl⟩ ?_ ?_
      · rintro j p ρ2 hp ⟨s7, rfl⟩
        obtain ⟨ep, hp⟩ := range_at hp
        subst ep
        have d1 := due_at (saved := saved) hp
        have d2 := shown_at (spare := sp) (saved := saved) hp
        refine sv_if (b := !decide (dueAt W saved p = "either") && !decide (dueAt W saved p = shownAt W sp saved p)) (et_and (et_test (Ev.to (ev_op (ev_op (ev_var rfl) (ev_var rfl) (od_ixM rfl d1)) ev_str (od_ne ((sh_word (due_str W saved p)).shaped (by decide)) ((sh_str : Sh 0 (.str _)).shaped (by decide)))) (by rw [eqv_words])))
          fun _ => et_test (Ev.to (ev_op (ev_op (ev_var rfl) (ev_var rfl) (od_ixM rfl d1)) (ev_op (ev_var rfl) (ev_var rfl) (od_ixM rfl d2)) (od_ne ((sh_word (due_str W saved p)).shaped (by decide)) ((sh_word ((shown_str W sp saved p).elim .inl fun z => .inr (.inr z))).shaped (by decide)))) (by rw [eqv_words]))) (fun z => ?_) fun _ => sv_next ⟨_, rfl⟩
        exfalso
        simp only [Bool.and_eq_true, Bool.not_eq_true', decide_eq_false_iff_not] at z
        exact z.2 (serves ok sv.1 fit hp z.1)
      · rintro ρ2 ⟨s7, rfl⟩
        exact ⟨_, _, _, _, rfl⟩
    · rintro rs ρ1 ⟨s4, s5, s6, s7, rfl⟩
      refine sv_ret (R := dB (true && true)) (ev_andV (Ev.to (ev_op (Ra := dR .none) (Ev.to (ev_meth (As := [.rel (dR (nL sp))]) (ev_var rfl) rfl (as_rel (ev_var rfl) as_nil) ⟨W, sp, ok, rfl, rfl⟩) ?_) ev_non od_isN) rfl) fun _ => Ev.to (ev_op (Ra := dR .none) (Ev.to (ev_call (As := [.rel (rW C W), .rel (dR (nL sp))]) (as_rel (ev_var rfl) (as_rel (ev_var rfl) as_nil)) ⟨W, sp, ok, rfl, rfl⟩) ?_) ev_non od_isN) rfl) (Rel.le_refl _)
      · unfold coursesM
        rw [miss]
      · rw [miss]
        rfl
end
end K48
set_option Elab.async false
set_option linter.all false
set_option maxRecDepth 100000
/-! Ee: _law_missed_by, _law_served. -/
namespace K48
open PySem L2 Dx WM
section
variable {P : Program} {w : World} {K : PySem.W.Frag} {mg : Str → Option Value} {base : Heap} {G : Glob} {C : Addr}
-- ['wishes', 'real', 'spare', 'told', 'part', 'one', 'two', 'number', 'judged']
abbrev s_law_missed_by : Stmt := topS 36
abbrev N_law_missed_by : List Str := ["wishes", "real", "spare", "told", "part", "one", "two", "number", "judged"]
theorem sc_law_missed_by : FnScope N_law_missed_by ["wishes", "real", "spare"] (defScope s_law_missed_by) := ⟨rfl, rfl, rfl, by decide +kernel, rfl, by decide +kernel, by decide +kernel⟩
def po_mby (C : Addr) : List Slot → Rel → Prop := fun ρ R => ∃ (W : Wish) (sp : List Nat) (p n : Nat), WOk W ∧ sp.length ≤ 5 ∧ missedM (needsM W) sp = some (p, n) ∧ ρ = [.rel (dR (eW W)), .rel (rW C W), .rel (dR (nL sp))] ∧ R = dB true
theorem ok_mby (T : Tx K mg) (M_two_courses : CalM P w K mg base C "two_courses" 3 ["self", "spare"] (spS G (po_courses C))) (C_law_set_back : Cal P w K mg base "_law_set_back" 1 ["wishes", "spare", "saved"] (spS G po_back)) (C_law_due : Cal P w K mg base "_law_due" 1 ["wishes", "saved"] (spS G po_ldue))
    (C_judge_spare : Cal P w K mg base "judge_spare" 3 ["wishes", "spare"] (spS G (po_judge C)))
    (D : Df K mg "_law_missed_by" s_law_missed_by ["wishes", "real", "spare"]) : Cal P w K mg base "_law_missed_by" 4 ["wishes", "real", "spare"] (spS G (po_mby C)) := by
  refine cal_df D sc_law_missed_by ?_ fun f cdv A outer s H E hr => ⟨_, (pss_cons (ps_asg (pe_calm M_two_courses hr (pv 1) (pa_cons (pv 2) pa_nil)) (pg_name (i := 3) sc_law_missed_by.nd rfl (by first | exact Or.inl rfl | exact Or.inr rfl)))
      (pss_cons (ps_if (PW.pt (pw_or (pt_not (pt_val (pe_callB (call_isiK' (K := K)) (by rfl) T.isinstance_ (by decide +kernel) (pa_cons (pv 3) (pa_cons (pe_bltn (v := .ty "tuple") (by rfl) T.tuple_ (by decide +kernel) rfl) pa_nil))))) (pw_or1 (pt_cmpR (op_neK (K := K) hr) (pe_callB (call_lenK (K := K)) (by rfl) T.len_ PySem.boot_len (pa_cons (pv 3) pa_nil)) pe_int (nomark _))))) (pss_one (ps_ret pe_bl)) pss_nil)
      (pss_cons (ps_asg (pv 3) (pg_tupK (K := K) rfl (pgs_cons (pg_name (i := 4) sc_law_missed_by.nd rfl (by first | exact Or.inl rfl | exact Or.inr rfl)) (pgs_cons (pg_name (i := 5) sc_law_missed_by.nd rfl (by first | exact Or.inl rfl | exact Or.inr rfl)) (pgs_cons (pg_name (i := 6) sc_law_missed_by.nd rfl (by first | exact Or.inl rfl | exact Or.inr rfl)) pgs_nil)))))
      (pss_cons (ps_if (PW.pt (pw_or (pt_cmpR (op_niK (K := K) hr) (pv 4) (pe_listRg rfl (by rfl) T.list_ (prg_1 (by rfl) T.range_ (pe_callB (call_lenK (K := K)) (by rfl) T.len_ PySem.boot_len (pa_cons (pe_ix (ix_seqK (K := K)) (pv 0) pe_int (fun _ _ => rfl)) pa_nil)))) rfl) (pw_or (pt_not (pt_val (pe_callB (call_isiK' (K := K)) (by rfl) T.isinstance_ (by decide +kernel) (pa_cons (pv 5) (pa_cons (pe_bltn (v := .ty "list") (by rfl) T.list_ (by decide +kernel) rfl) pa_nil))))) (pw_or1 (pt_not (pt_val (pe_callB (call_isiK' (K := K)) (by rfl) T.isinstance_ (by decide +kernel) (pa_cons (pv 6) (pa_cons (pe_bltn (v := .ty "list") (by rfl) T.list_ (by decide +kernel) rfl) pa_nil))))))))) (pss_one (ps_ret pe_bl)) pss_nil)
      (pss_cons (ps_if (pt_cmpR (op_neK (K := K) hr) (pe_lc (own := [("number", 7)]) rfl sc_law_missed_by.nd (pi_seqK (K := K) (pe_op (op_plusK (K := K)) (pv 5) (pv 6))) (blkOk_by (by kernel_rfl)) (fun _ _ _ _ _ => (pg_name (i := 7) sc_law_missed_by.nd rfl (by first | exact Or.inl rfl | exact Or.inr rfl))) (fun _ _ _ _ _ => (pts_one (pt_cmpR (op_niK (K := K) hr) (pv 7) (pe_listRg rfl (by rfl) T.list_ (prg_1 (by rfl) T.range_ (pe_callB (call_lenK (K := K)) (by rfl) T.len_ PySem.boot_len (pa_cons (pe_ix (ix_seqK (K := K)) (pv 0) pe_int (fun _ _ => rfl)) pa_nil)))) rfl))) (fun _ _ _ _ _ => (pv 7))) (pe_lst pa_nil) (nomark _)) (pss_one (ps_ret pe_bl)) pss_nil)
      (pss_cons (ps_if (pt_cmpR (op_neK (K := K) hr) (pe_cal C_law_set_back hr (pa_cons (pv 0) (pa_cons (pv 2) (pa_cons (pv 5) pa_nil)))) (pe_cal C_law_set_back hr (pa_cons (pv 0) (pa_cons (pv 2) (pa_cons (pv 6) pa_nil)))) (nomark _)) (pss_one (ps_ret pe_bl)) pss_nil)
      (pss_cons (ps_if (PW.pt (pw_or (pt_cmpR (op_neK (K := K) hr) (pe_ix (ix_seqK (K := K)) (pe_cal C_law_due hr (pa_cons (pv 0) (pa_cons (pv 5) pa_nil))) (pv 4) (fun _ _ => rfl)) pe_str (nomark _)) (pw_or1 (pt_cmpR (op_neK (K := K) hr) (pe_ix (ix_seqK (K := K)) (pe_cal C_law_due hr (pa_cons (pv 0) (pa_cons (pv 6) pa_nil))) (pv 4) (fun _ _ => rfl)) pe_str (nomark _))))) (pss_one (ps_ret pe_bl)) pss_nil)
      (pss_cons (ps_asg (pe_cal C_judge_spare hr (pa_cons (pv 1) (pa_cons (pv 2) pa_nil))) (pg_name (i := 8) sc_law_missed_by.nd rfl (by first | exact Or.inl rfl | exact Or.inr rfl)))
      (pss_one (ps_ret (pe_and (pe_callB (call_isiK' (K := K)) (by rfl) T.isinstance_ (by decide +kernel) (pa_cons (pv 8) (pa_cons (pe_bltn (v := .ty "tuple") (by rfl) T.tuple_ (by decide +kernel) rfl) pa_nil))) (pe_one (pe_cmpR (op_eqK (K := K) hr) (pv 8) (pe_tup (pa_cons (pv 4) (pa_cons (pe_ix (ix_seqK (K := K)) (pv 6) pe_int (fun _ _ => rfl)) pa_nil))) (nomark _)))))))))))))), ?_⟩
  · rintro ρ R ⟨W, sp, p, n, _, _, _, rfl, _⟩
    exact ⟨rfl, fun j es h => by match j, h with | 0, h => cases h | 1, h => cases h | 2, h => cases h | j + 3, h => simp at h⟩
  · rintro ρ R ⟨W, sp, p, n, ok, s5, e, rfl, rfl⟩
    change Sv G _ [.rel (dR (eW W)), .rel (rW C W), .rel (dR (nL sp)), .un, .un, .un, .un, .un, .un] _
    have four := ok.four
    have six := ok.six
    obtain ⟨c⟩ := course_of ok e
    have klen := asc_len c.ha
    have hp := c.hp
    have e2 : W.keeps.getD p [] = c.k := by
      rw [List.getD_eq_getElem?_getD, c.hk]
      rfl
    have ec : coursesM W sp = .tuple [dN p, nL c.k, nL (n :: c.k)] := by
      unfold coursesM
      rw [e]
      show PyData.tuple [dN p, nL (W.keeps.getD p []), nL (n :: W.keeps.getD p [])] = _
      rw [e2]
    have sv1 : Saved W c.k := ⟨fun x hx => c.ha.2 x hx, by omega⟩
    have sv2 : Saved W (n :: c.k) := ⟨fun x hx => by
      rcases List.mem_cons.mp hx with rfl | hx
      · exact c.hl
      · exact c.ha.2 x hx, by rw [List.length_cons]; omega⟩
    refine sv_seq (sv_set (R := dR (.tuple [dN p, nL c.k, nL (n :: c.k)])) (Ev.to (ev_meth (As := [.rel (dR (nL sp))]) (ev_var rfl) rfl (as_rel (ev_var rfl) as_nil) ⟨W, sp, ok, rfl, rfl⟩) (by rw [ec])) ?_)
    refine sv_seq (sv_if (b := !true || false) (et_or (et_not (et_test (isi (t := "tuple") (ev_var rfl) rfl (by decide +kernel)))) fun _ => et_test (ev_op (ev_lenT (ev_var rfl)) ev_int od_neI)) (fun z => by cases z) fun _ => sv_next ?_)
    refine sv_seq (sv_asg (ev_var rfl) tg_tup3 ?_)
    change Sv G _ [.rel (dR (eW W)), .rel (rW C W), .rel (dR (nL sp)), .rel (dR (.tuple [dN p, nL c.k, nL (n :: c.k)])), .rel (dR (dN p)), .rel (dR (nL c.k)), .rel (dR (nL (n :: c.k))), .un, .un] _
    refine sv_seq (sv_if (b := !decide (p ∈ List.range W.keeps.length) || (!true || !true)) (et_or (et_test (ev_op (ev_var rfl) (ev_listRgN (ev_lenM (ev_op (ev_var rfl) ev_int (od_ixL rfl))) (by omega)) od_niN)) fun _ => et_or (et_not (et_test (isi (t := "list") (ev_var rfl) rfl (by decide +kernel)))) fun _ => et_not (et_test (isi (t := "list") (ev_var rfl) rfl (by decide +kernel)))) (fun z => ?_) fun _ => sv_next ?_)
    · rw [decide_eq_true (List.mem_range.mpr hp)] at z
      cases z
    refine sv_seq (sv_if (b := (c.k ++ (n :: c.k)).any fun x => !decide (x ∈ List.range W.forms.length)) (et_test (Ev.to (ev_op (Rb := dR (.list [])) (ev_lc1 (xs := c.k ++ (n :: c.k)) (Rx := fun x => dR (dN x)) (s0 := .un) (fun x => !decide (x ∈ List.range W.forms.length)) dN (ei_mapL (ev_op (ev_var rfl) (ev_var rfl) (od_plusM (by simp; omega)))) (by simp; omega) rfl (fun z => z) fun x hx =>
      ⟨et_test (ev_op (ev_var rfl) (ev_listRgN (ev_lenM (ev_op (ev_var rfl) ev_int (od_ixL rfl))) (by omega)) od_niN), fun _ => ev_var rfl⟩) ev_lst0 (od_ne0 (sh_nL _) (by decide))) (congrArg dB (filter_any _ _ _)))) (fun z => ?_) fun _ => sv_next ?_)
    · exfalso
      obtain ⟨x, hx, hz⟩ := List.any_eq_true.mp z
      have hl : x < W.forms.length := by
        rcases List.mem_append.mp hx with h | h
        · exact sv1.1 x h
        · exact sv2.1 x h
      rw [decide_eq_true (List.mem_range.mpr hl)] at hz
      cases hz
    have back : ∀ (ρ : List Slot) (i : Nat) (sd : List Nat), Saved W sd → ρ[0]? = some (.rel (dR (eW W))) → ρ[2]? = some (.rel (dR (nL sp))) → ρ[i]? = some (.rel (dR (nL sd))) → Ev G (tCall (spS G po_back) [] E0 (tCons (tVar 0) (tCons (tVar 2) (tCons (tVar i) tNil)))) ρ (dR (nL (backM W sp sd))) := fun ρ i sd hs h0 h2 hi =>
      ev_call (As := [.rel (dR (eW W)), .rel (dR (nL sp)), .rel (dR (nL sd))]) (as_rel (ev_var h0) (as_rel (ev_var h2) (as_rel (ev_var hi) as_nil))) ⟨W, sp, sd, ok, hs, s5, rfl, rfl⟩
    refine sv_seq (sv_if (b := false) (et_test (Ev.to (ev_op (back _ 5 _ sv1 rfl rfl rfl) (back _ 6 _ sv2 rfl rfl rfl) (od_ne ((sh_nL _).shaped (by decide)) ((sh_nL _).shaped (by decide)))) ?_)) (fun z => by cases z) fun _ => sv_next ?_)
    · rw [course_back c, eqv_nL, decide_eq_true rfl]
      rfl
    have due : ∀ (ρ : List Slot) (i : Nat) (sd : List Nat), Saved W sd → ρ[0]? = some (.rel (dR (eW W))) → ρ[4]? = some (.rel (dR (dN p))) → ρ[i]? = some (.rel (dR (nL sd))) → Ev G (tOp (rIx K) (tCall (spS G po_ldue) [] E0 (tCons (tVar 0) (tCons (tVar i) tNil))) (tVar 4)) ρ (dR (.str (dueAt W sd p))) := fun ρ i sd hs h0 h4 hi =>
      ev_op (ev_call (As := [.rel (dR (eW W)), .rel (dR (nL sd))]) (as_rel (ev_var h0) (as_rel (ev_var hi) as_nil)) ⟨W, sd, ok, hs, rfl, rfl⟩) (ev_var h4) (od_ixM rfl (due_at hp))
    refine sv_seq (sv_if (b := false || false) (et_or (et_test (Ev.to (ev_op (due _ 5 _ sv1 rfl rfl rfl) ev_str (od_ne ((sh_word (due_str W _ p)).shaped (by decide)) ((sh_str : Sh 0 (.str _)).shaped (by decide)))) ?_)) fun _ => et_test (Ev.to (ev_op (due _ 6 _ sv2 rfl rfl rfl) ev_str (od_ne ((sh_word (due_str W _ p)).shaped (by decide)) ((sh_str : Sh 0 (.str _)).shaped (by decide)))) ?_)) (fun z => by cases z) fun _ => sv_next ?_)
    · rw [course_due1 ok c, eqv_str]
      rfl
    · rw [course_due2 c, eqv_str]
      rfl
    refine sv_seq (sv_set (R := dR (nT [p, n])) (Ev.to (ev_call (As := [.rel (rW C W), .rel (dR (nL sp))]) (as_rel (ev_var rfl) (as_rel (ev_var rfl) as_nil)) ⟨W, sp, ok, rfl, rfl⟩) (by rw [e]; rfl)) ?_)
    refine sv_ret (R := dB true) (Ev.to (ev_andV (a := true) (isi (t := "tuple") (ev_var rfl) rfl (by decide +kernel)) fun _ => ev_op (Rb := dR (nT [p, n])) (ev_var rfl) (ev_tup2 (ev_var rfl) (ev_op (ev_var rfl) ev_int (od_ixM (f := dN) (j := 0) rfl rfl))) (od_eq ((sh_nT _).shaped (by decide)) ((sh_nT _).shaped (by decide)))) ?_) (Rel.le_refl _)
    rw [eqv_nT, decide_eq_true rfl]
    rfl
-- ['wishes', 'renews', 'numbers', 'part', 'number', 'fields', 'one']
abbrev s_law_served : Stmt := topS 38
abbrev N_law_served : List Str := ["wishes", "renews", "numbers", "part", "number", "fields", "one"]
theorem sc_law_served : FnScope N_law_served ["wishes"] (defScope s_law_served) := ⟨rfl, rfl, rfl, by decide +kernel, rfl, by decide +kernel, by decide +kernel⟩
def po_served : List Slot → Rel → Prop := fun ρ R => ∃ W : Wish, WOk W ∧ ρ = [eW W].map (fun d => .rel (dR d)) ∧ R = rWish
def Sub (W : Wish) (Rs : List (List Nat)) : Prop := Rs.length = W.renews.length ∧ ∀ (i : Nat) (l : List Nat), Rs[i]? = some l → ∃ r, W.renews[i]? = some r ∧ l.Sublist r
theorem sub_ok {W : Wish} (ok : WOk W) {Rs : List (List Nat)} (h : Sub W Rs) : WOk { W with renews := Rs } where
  f1 := ok.f1
  f5 := ok.f5
  ne := ok.ne
  six := ok.six
  nd := ok.nd
  asc := ok.asc
  kr := ok.kr.trans h.1.symm
  four := ok.four
  ka := ok.ka
  ra := fun l hl => by
    obtain ⟨i, hi⟩ := List.mem_iff_getElem?.mp hl
    obtain ⟨r, h1, h2⟩ := h.2 i l hi
    have := ok.ra r (List.mem_of_getElem? h1)
    exact ⟨List.Pairwise.sublist h2 this.1, fun x hx => this.2 x (h2.subset hx)⟩
  dj := fun q k l hk hl x hx hx' => by
    obtain ⟨r, h1, h2⟩ := h.2 q l hl
    exact ok.dj q k r hk h1 x hx (h2.subset hx')
theorem ok_served (T : Tx K mg) (C_law_needs : Cal P w K mg base "_law_needs" 1 ["wishes"] (spS G po_lneeds)) (D : Df K mg "_law_served" s_law_served ["wishes"]) : Cal P w K mg base "_law_served" 2 ["wishes"] (spS G po_served) := by
  refine cal_df D sc_law_served ?_ fun f cdv A outer s H E hr => ⟨_, (pss_cons (ps_setLc (i := 1) (own := [("numbers", 2)]) rfl sc_law_served.nd rfl (by rfl) (sw_true rfl rfl rfl (by decide +kernel)) (pi_seqK (K := K) (pe_ix (ix_seqK (K := K)) (pv 0) pe_int (fun _ _ => rfl))) (blkOk_by (by kernel_rfl)) (fun _ _ _ _ _ => (pg_name (i := 2) sc_law_served.nd rfl (by first | exact Or.inl rfl | exact Or.inr rfl))) (fun _ _ _ _ _ => pts_nil) (fun _ _ _ _ _ => (pe_callTy (call_listK (K := K)) (by rfl) T.list_ (by decide +kernel) (pa_cons (pv 2) pa_nil))))
      (pss_cons (ps_for PassesOwn.never rfl (pi_seqK (K := K) (pe_cal C_law_needs hr (pa_cons (pv 0) pa_nil))) (pg_tupK (K := K) rfl (pgs_cons (pg_name (i := 3) sc_law_served.nd rfl (by first | exact Or.inl rfl | exact Or.inr rfl)) (pgs_cons (pg_name (i := 4) sc_law_served.nd rfl (by first | exact Or.inl rfl | exact Or.inr rfl)) (pgs_cons (pg_name (i := 5) sc_law_served.nd rfl (by first | exact Or.inl rfl | exact Or.inr rfl)) pgs_nil)))) (pss_one (ps_if (pt_cmpR (op_eqK (K := K) hr) (pv 5) (pe_lst pa_nil) (nomark _)) (pss_one (ps_asg (pe_lc (own := [("one", 6)]) rfl sc_law_served.nd (pi_seqK (K := K) (pe_ix (ix_seqK (K := K)) (pv 1) (pv 3) (fun _ _ => rfl))) (blkOk_by (by kernel_rfl)) (fun _ _ _ _ _ => (pg_name (i := 6) sc_law_served.nd rfl (by first | exact Or.inl rfl | exact Or.inr rfl))) (fun _ _ _ _ _ => (pts_one (pt_cmpR (op_neK (K := K) hr) (pv 6) (pv 4) (nomark _)))) (fun _ _ _ _ _ => (pv 6))) (pg_sub (pv 1) (pv 3) set_list))) pss_nil)))
      (pss_one (ps_ret (pe_lst (pa_cons (pe_ix (ix_seqK (K := K)) (pv 0) pe_int (fun _ _ => rfl)) (pa_cons (pe_ix (ix_seqK (K := K)) (pv 0) pe_int (fun _ _ => rfl)) (pa_cons (pe_ix (ix_seqK (K := K)) (pv 0) pe_int (fun _ _ => rfl)) (pa_cons (pv 1) pa_nil))))))))), ?_⟩
  · rintro ρ R ⟨W, _, rfl, _⟩
    exact ⟨rfl, noOwn (Rs := [_])⟩
  · rintro ρ R ⟨W, ok, rfl, rfl⟩
    change Sv G _ [.rel (dR (eW W)), .un, .un, .un, .un, .un, .un] _
    have four := ok.four
    have six := ok.six
    have kr := ok.kr
    refine sv_seq (sv_ownM (xs := W.renews) (f := nL) (en_map1 (xs := W.renews) (Rx := fun f => dR (nL f)) (s0 := .un) (fun f => dR (nL f)) (ei_mapL (ev_op (ev_var rfl) ev_int (od_ixL rfl))) (by omega) rfl (fun z => z) fun f hf => (en_list (ds := f.map dN) (ev_var rfl) (.inl rfl)).evD) ?_)
    refine sv_seq (sv_for (xs := needsM W) (Rx := fun n => dR (eNeed n)) (fun i ρ1 => ∃ (Rs : List (List Nat)) (s3 s4 s5 : Slot), ρ1 = [.rel (dR (eW W)), .own (Rs.map nL), .un, s3, s4, s5, .un] ∧ Sub W Rs)
      (ei_mapL (ev_call (As := [.rel (dR (eW W))]) (as_rel (ev_var rfl) as_nil) ⟨W, ok, rfl, rfl⟩)) ⟨W.renews, _, _, _, rfl, rfl, fun i l h => ⟨l, h, List.Sublist.refl l⟩⟩ ?_ ?_)
    · rintro i n ρ1 hx ⟨Rs, s3, s4, s5, rfl, hs⟩
      refine ⟨_, _, tg_tup3, ?_⟩
      have hm : n ∈ needsM W := List.mem_of_getElem? hx
      obtain ⟨r, h1, h2, h3⟩ := needs_at hm
      have hp : n.1 < Rs.length := by
        rw [hs.1]
        exact (List.getElem?_eq_some_iff.mp h1).1
      have hR : Rs[n.1]? = some Rs[n.1] := List.getElem?_eq_getElem hp
      obtain ⟨r', h1', h2'⟩ := hs.2 _ _ hR
      have rl : Rs[n.1].length ≤ 6 := by
        have a := asc_len (ok.ra r' (List.mem_of_getElem? h1'))
        have b := h2'.length_le
        omega
      refine sv_if (b := n.2.2.isEmpty) (et_test (Ev.to (ev_op (ev_var rfl) ev_lst0 (od_eq0 (sh_nL _) (by decide))) (by rw [List.isEmpty_map]))) (fun _ => ?_) (fun _ => sv_next ⟨Rs, .rel (dR (dN n.1)), .rel (dR (dN n.2.1)), .rel (dR (nL n.2.2)), rfl, hs⟩)
      refine sv_setAt (ds := Rs.map nL) (i := 1) (j := n.1) (d := nL (Rs[n.1].filter fun k => !decide (k = n.2.1))) rfl (ev_lc1 (xs := Rs[n.1]) (Rx := fun f => dR (dN f)) (s0 := .un) (fun k => !decide (k = n.2.1)) dN (ei_mapL (ev_ixOwn rfl (ev_var rfl) (by rw [List.getElem?_map, hR]; rfl))) (by omega) rfl (fun z => z) fun k hk => ⟨et_test (ev_op (ev_var rfl) (ev_var rfl) od_neN), fun _ => ev_var rfl⟩) (ev_var rfl) (by rw [List.length_map]; exact hp)
        ⟨Rs.set n.1 (Rs[n.1].filter fun k => !decide (k = n.2.1)), .rel (dR (dN n.1)), .rel (dR (dN n.2.1)), .rel (dR (nL n.2.2)), by rw [List.map_set]; rfl, by rw [List.length_set]; exact hs.1, fun q l hl => ?_⟩
      rcases set_get hl with ⟨rfl, rfl, _⟩ | ⟨_, e⟩
      · exact ⟨r', h1', List.filter_sublist.trans h2'⟩
      · exact hs.2 q l e
    · rintro ρ1 ⟨Rs, s3, s4, s5, rfl, hs⟩
      exact sv_freeze (i := 1) rfl (sv_ret (R := dR (eW { W with renews := Rs })) (ev_lst4 (ev_op (ev_var rfl) ev_int (od_ixL rfl)) (ev_op (ev_var rfl) ev_int (od_ixL rfl)) (ev_op (ev_var rfl) ev_int (od_ixL rfl)) (ev_var rfl)) (show Rel.le _ _ from fun F v h => ⟨⟨_, sub_ok ok hs⟩, h⟩))
end
end K48
set_option Elab.async false
set_option linter.all false
set_option maxRecDepth 100000
/-! Ef: _law_asked, the law. -/
namespace K48
open PySem L2 Dx WM
section
variable {P : Program} {w : World} {K : PySem.W.Frag} {mg : Str → Option Value} {base : Heap} {G : Glob} {C : Addr}
theorem shNeed (n : Need) : Sh 2 (eNeed n) := sh_tup (n := 1) fun d hd => by
  rcases List.mem_cons.mp hd with rfl | hd
  · exact sh_int
  rcases List.mem_cons.mp hd with rfl | hd
  · exact sh_int
  rcases List.mem_cons.mp hd with rfl | hd
  · exact sh_nL _
  · cases hd
-- ['purse', 'wishes', 'real', 'told', 'empty', 'need', 'spare', 'field', 'at']
abbrev s_law_asked : Stmt := topS 37
abbrev N_law_asked : List Str := ["purse", "wishes", "real", "told", "empty", "need", "spare", "field", "at"]
theorem sc_law_asked : FnScope N_law_asked ["purse", "wishes"] (defScope s_law_asked) := ⟨rfl, rfl, rfl, by decide +kernel, rfl, by decide +kernel, by decide +kernel⟩
def po_asked : List Slot → Rel → Prop := fun ρ R => ∃ W : Wish, WOk W ∧ ρ = [.mvl shP, .rel (dR (eW W))] ∧ R = dB true
theorem ok_asked (T : Tx K mg) (C_law_real_wishes : Cal P w K mg base "_law_real_wishes" 5 ["wishes"] (spS G (po_real C))) (M_fewest : CalM P w K mg base C "fewest" 7 ["self"] (spS G (po_fewest C))) (C_law_needs : Cal P w K mg base "_law_needs" 1 ["wishes"] (spS G po_lneeds))
    (C_law_same : Cal P w K mg base "_law_same" 2 ["told", "due"] (spS G (po_same 2))) (C_law_missed_by : Cal P w K mg base "_law_missed_by" 4 ["wishes", "real", "spare"] (spS G (po_mby C))) (C_law_serves : Cal P w K mg base "_law_serves" 4 ["purse", "wishes", "real", "spare"] (spS G (po_serves C)))
    (D : Df K mg "_law_asked" s_law_asked ["purse", "wishes"]) : Cal P w K mg base "_law_asked" 8 ["purse", "wishes"] (spS G po_asked) := by
  refine cal_df D sc_law_asked ?_ fun f cdv A outer s H E hr => ⟨_, (pss_cons (ps_asg (pe_cal C_law_real_wishes hr (pa_cons (pv 1) pa_nil)) (pg_name (i := 2) sc_law_asked.nd rfl (by first | exact Or.inl rfl | exact Or.inr rfl)))
      (pss_cons (ps_asg (pe_calm0 M_fewest hr (pv 2)) (pg_name (i := 3) sc_law_asked.nd rfl (by first | exact Or.inl rfl | exact Or.inr rfl)))
      (pss_cons (ps_setLc (i := 4) (own := [("need", 5)]) rfl sc_law_asked.nd rfl (by rfl) (sw_true rfl rfl rfl (by decide +kernel)) (pi_seqK (K := K) (pe_cal C_law_needs hr (pa_cons (pv 1) pa_nil))) (blkOk_by (by kernel_rfl)) (fun _ _ _ _ _ => (pg_name (i := 5) sc_law_asked.nd rfl (by first | exact Or.inl rfl | exact Or.inr rfl))) (fun _ _ _ _ _ => (pts_one (pt_cmpR (op_eqK (K := K) hr) (pe_ix (ix_seqK (K := K)) (pv 5) pe_int (fun _ _ => rfl)) (pe_lst pa_nil) (nomark _)))) (fun _ _ _ _ _ => (pv 5)))
      (pss_cons (ps_if (PW.pt (pw_or (pt_not (pt_val (pe_callB (call_isiK' (K := K)) (by rfl) T.isinstance_ (by decide +kernel) (pa_cons (pv 3) (pa_cons (pe_bltn (v := .ty "tuple") (by rfl) T.tuple_ (by decide +kernel) rfl) pa_nil))))) (pw_or1 (pt_cmpR (op_neK (K := K) hr) (pe_callB (call_lenK (K := K)) (by rfl) T.len_ PySem.boot_len (pa_cons (pv 3) pa_nil)) pe_int (nomark _))))) (pss_one (ps_ret pe_bl)) pss_nil)
      (pss_cons (ps_if (pt_cmpR (op_neK (K := K) hr) (pv 4) (pe_lst pa_nil) (nomark _)) (pss_one (ps_ret (pe_and (pe_cal C_law_same hr (pa_cons (pv 3) (pa_cons (pe_tup (pa_cons pe_str (pa_cons (pe_ix (ix_seqK (K := K)) (pe_ix (ix_seqK (K := K)) (pv 4) pe_int (fun _ _ => rfl)) pe_int (fun _ _ => rfl)) (pa_cons (pe_ix (ix_seqK (K := K)) (pe_ix (ix_seqK (K := K)) (pv 4) pe_int (fun _ _ => rfl)) pe_int (fun _ _ => rfl)) pa_nil)))) pa_nil))) (pe_one (pe_cal C_law_missed_by hr (pa_cons (pv 1) (pa_cons (pv 2) (pa_cons (pe_listRg rfl (by rfl) T.list_ (prg_1 (by rfl) T.range_ (pe_ix (ix_seqK (K := K)) (pv 1) pe_int (fun _ _ => rfl)))) pa_nil)))))))) pss_nil)
      (pss_cons (ps_if (PW.pt (pw_or (pt_cmpR (op_neK (K := K) hr) (pe_ix (ix_seqK (K := K)) (pv 3) pe_int (fun _ _ => rfl)) pe_str (nomark _)) (pw_or1 (pt_not (pt_val (pe_callB (call_isiK' (K := K)) (by rfl) T.isinstance_ (by decide +kernel) (pa_cons (pe_ix (ix_seqK (K := K)) (pv 3) pe_int (fun _ _ => rfl)) (pa_cons (pe_bltn (v := .ty "list") (by rfl) T.list_ (by decide +kernel) rfl) pa_nil)))))))) (pss_one (ps_ret pe_bl)) pss_nil)
      (pss_cons (ps_asg (pe_callTy (call_listK (K := K)) (by rfl) T.list_ (by decide +kernel) (pa_cons (pe_ix (ix_seqK (K := K)) (pv 3) pe_int (fun _ _ => rfl)) pa_nil)) (pg_name (i := 6) sc_law_asked.nd rfl (by first | exact Or.inl rfl | exact Or.inr rfl)))
      (pss_cons (ps_if (PW.pt (pw_or (pt_cmpR (op_neK (K := K) hr) (pe_lc (own := [("field", 7)]) rfl sc_law_asked.nd (pi_seqK (K := K) (pv 6)) (blkOk_by (by kernel_rfl)) (fun _ _ _ _ _ => (pg_name (i := 7) sc_law_asked.nd rfl (by first | exact Or.inl rfl | exact Or.inr rfl))) (fun _ _ _ _ _ => (pts_one (pt_cmpR (op_niK (K := K) hr) (pv 7) (pe_listRg rfl (by rfl) T.list_ (prg_1 (by rfl) T.range_ (pe_ix (ix_seqK (K := K)) (pv 1) pe_int (fun _ _ => rfl)))) rfl))) (fun _ _ _ _ _ => (pv 7))) (pe_lst pa_nil) (nomark _)) (pw_or1 (pt_not (pt_val (pe_cal C_law_serves hr (pa_cons (pv 0) (pa_cons (pv 1) (pa_cons (pv 2) (pa_cons (pv 6) pa_nil)))))))))) (pss_one (ps_ret pe_bl)) pss_nil)
      (pss_cons (ps_for PassesOwn.never rfl (pi_range1 (by rfl) T.range_ (pa_cons (pe_callB (call_lenK (K := K)) (by rfl) T.len_ PySem.boot_len (pa_cons (pv 6) pa_nil)) pa_nil)) (pg_name (i := 8) sc_law_asked.nd rfl (by first | exact Or.inl rfl | exact Or.inr rfl)) (pss_one (ps_if (pt_not (pt_val (pe_cal C_law_missed_by hr (pa_cons (pv 1) (pa_cons (pv 2) (pa_cons (pe_op (op_plusK (K := K)) (pe_slice (sl_seqK (K := K)) (pv 6) po_none (po_some (pv 8))) (pe_slice (sl_seqK (K := K)) (pv 6) (po_some (pe_op (op_plusK (K := K)) (pv 8) pe_int)) po_none)) pa_nil)))))) (pss_one (ps_ret pe_bl)) pss_nil)))
      (pss_one (ps_ret pe_bl))))))))))), ?_⟩
  · rintro ρ R ⟨W, _, rfl, _⟩
    exact ⟨rfl, fun j es h => by match j, h with | 0, h => cases h | 1, h => cases h | j + 2, h => simp at h⟩
  · rintro ρ R ⟨W, ok, rfl, rfl⟩
    change Sv G _ [.mvl shP, .rel (dR (eW W)), .un, .un, .un, .un, .un, .un, .un] _
    have nok : NOk W.fields (needsM W) := fun n hn => needs_asc ok hn
    have n24 := needs_24 ok
    have f5 := ok.f5
    have mby : ∀ (ρ : List Slot) (te : TE) (sp : List Nat) (p n : Nat), sp.length ≤ 5 → missedM (needsM W) sp = some (p, n) → ρ[1]? = some (.rel (dR (eW W))) → ρ[2]? = some (.rel (rW C W)) → Ev G te ρ (dR (nL sp)) → Ev G (tCall (spS G (po_mby C)) [] E0 (tCons (tVar 1) (tCons (tVar 2) (tCons te tNil)))) ρ (dB true) := fun ρ te sp p n h5 hm h1 h2 hs =>
      ev_call (As := [.rel (dR (eW W)), .rel (rW C W), .rel (dR (nL sp))]) (as_rel (ev_var h1) (as_rel (ev_var h2) (as_rel hs as_nil))) ⟨W, sp, p, n, ok, h5, hm, rfl, rfl⟩
    refine sv_seq (sv_set (R := rW C W) (ev_call (As := [.rel (dR (eW W))]) (as_rel (ev_var rfl) as_nil) ⟨W, ok, rfl, rfl⟩) (sv_seq (sv_set (R := dR (fewestM W)) (ev_meth (As := []) (ev_var rfl) rfl as_nil ⟨W, ok, rfl, rfl⟩) ?_)))
    refine sv_seq (sv_set (R := dR (.list (((needsM W).filter fun n => n.2.2.isEmpty).map eNeed))) (ev_lc1 (xs := needsM W) (Rx := fun n => dR (eNeed n)) (s0 := .un) (fun n => n.2.2.isEmpty) eNeed (ei_mapL (ev_call (As := [.rel (dR (eW W))]) (as_rel (ev_var rfl) as_nil) ⟨W, ok, rfl, rfl⟩)) (by omega) rfl (fun z => z) fun n hn => ⟨?_, fun _ => ev_var rfl⟩) ?_)
    · refine et_test (Ev.to (ev_op (ev_op (ev_var rfl) ev_int (od_ixT rfl)) ev_lst0 (od_eq0 (sh_nL _) (by decide))) ?_)
      rw [List.isEmpty_map]
    change Sv G _ [.mvl shP, .rel (dR (eW W)), .rel (rW C W), .rel (dR (fewestM W)), .rel (dR (.list (((needsM W).filter fun n => n.2.2.isEmpty).map eNeed))), .un, .un, .un, .un] _
    cases hf : (needsM W).find? fun n => n.2.2.isEmpty with
    | some n0 =>
      have eF : fewestM W = .tuple [.str "never", dN n0.1, dN n0.2.1] := by
        unfold fewestM
        rw [hf]
      have h0 : ((needsM W).filter fun n => n.2.2.isEmpty)[0]? = some n0 := by
        rw [← List.head?_eq_getElem?, List.head?_filter]
        exact hf
      have ne : ((needsM W).filter fun n => n.2.2.isEmpty) ≠ [] := fun z => by rw [z] at h0; cases h0
      rw [eF]
      refine sv_seq (sv_if (b := !true || false) (et_or (et_not (et_test (isi (t := "tuple") (ev_var rfl) rfl (by decide +kernel)))) fun _ => et_test (ev_op (ev_lenT (ev_var rfl)) ev_int od_neI)) (fun z => by cases z) fun _ => sv_next ?_)
      refine sv_seq (sv_if (b := true) (et_test (Ev.to (ev_op (ev_var rfl) ev_lst0 (od_ne0 (sh_list (n := 2) (sh_map fun n _ => shNeed n)) (by decide))) ?_)) (fun _ => ?_) (fun z => by cases z))
      · rw [List.isEmpty_map, List.isEmpty_eq_false_iff.mpr ne]
        rfl
      · refine sv_ret (R := dB (true && true)) (ev_andV (ev_call (As := [.rel (dR (.tuple [.str "never", dN n0.1, dN n0.2.1])), .rel (dR (.tuple [.str "never", dN n0.1, dN n0.2.1]))]) (as_rel (ev_var rfl) (as_rel (ev_tup3 ev_str (ev_op (ev_op (ev_var rfl) ev_int (od_ixM (j := 0) rfl h0)) ev_int (od_ixT rfl)) (ev_op (ev_op (ev_var rfl) ev_int (od_ixM (j := 0) rfl h0)) ev_int (od_ixT rfl))) as_nil))
          ⟨_, .inr (.inr (.inr ⟨_, .inl rfl, by simp, fun e he => ?_⟩)), rfl, rfl⟩) fun _ => mby _ _ (List.range W.fields) n0.1 n0.2.1 (by rw [List.length_range]; omega) (empty_misses ok hf) rfl rfl (ev_listRgN (ev_op (ev_var rfl) ev_int (od_ixL rfl)) (by omega))) (Rel.le_refl _)
        rcases List.mem_cons.mp he with rfl | he
        · exact .inr (.inr (.inl ⟨_, rfl, by decide +kernel⟩))
        rcases List.mem_cons.mp he with rfl | he
        · exact .inr (.inl ⟨_, rfl⟩)
        rcases List.mem_cons.mp he with rfl | he
        · exact .inr (.inl ⟨_, rfl⟩)
        · cases he
    | none =>
      have full : Full (needsM W) := fun n hn e => by
        have := List.find?_eq_none.mp hf n hn
        rw [e] at this
        exact this rfl
      obtain ⟨sA, sF, sN⟩ := spare_ok nok full
      have less := fun {i : Nat} (hi : i < (spareM W.fields (needsM W)).length) => less_misses ok full hi
      have sl := asc_len sA
      have eF : fewestM W = .tuple [.str "fields", nL (spareM W.fields (needsM W)), eOptApart (needsM W)] := by
        unfold fewestM
        rw [hf]
      have e0 : ((needsM W).filter fun n => n.2.2.isEmpty) = [] := List.filter_eq_nil_iff.mpr fun n hn => List.find?_eq_none.mp hf n hn
      rw [eF, e0]
      generalize spareM W.fields (needsM W) = sp at *
      refine sv_seq (sv_if (b := !true || false) (et_or (et_not (et_test (isi (t := "tuple") (ev_var rfl) rfl (by decide +kernel)))) fun _ => et_test (ev_op (ev_lenT (ev_var rfl)) ev_int od_neI)) (fun z => by cases z) fun _ => sv_next ?_)
      refine sv_seq (sv_if (b := false) (et_test (ev_op (ev_var rfl) ev_lst0 (od_ne0 (ds := []) (sh_nil (n := 1)) (by decide)))) (fun z => by cases z) fun _ => sv_next ?_)
      refine sv_seq (sv_if (b := !PyData.eqv (.str "fields") (.str "fields") || !true) (et_or (et_test (ev_op (ev_op (ev_var rfl) ev_int (od_ixT rfl)) ev_str (od_ne ((sh_str : Sh 0 (.str _)).shaped (by decide)) ((sh_str : Sh 0 (.str _)).shaped (by decide))))) fun _ => et_not (et_test (isi (t := "list") (ev_op (ev_var rfl) ev_int (od_ixT rfl)) rfl (by decide +kernel)))) (fun z => ?_) fun _ => sv_next ?_)
      · rw [eqv_str] at z
        cases z
      refine sv_seq (sv_set (R := dR (nL sp)) (en_list (ds := sp.map dN) (ev_op (ev_var rfl) ev_int (od_ixT rfl)) (.inl rfl)).evD ?_)
      refine sv_seq (sv_if (b := (sp.any fun x => !decide (x ∈ List.range W.fields)) || !true) (et_or (et_test (Ev.to (ev_op (Rb := dR (.list [])) (ev_lc1 (xs := sp) (Rx := fun x => dR (dN x)) (s0 := .un) (fun x => !decide (x ∈ List.range W.fields)) dN (ei_mapL (ev_var rfl)) (by omega) rfl (fun z => z) fun x hx => ⟨et_test (ev_op (ev_var rfl) (ev_listRgN (ev_op (ev_var rfl) ev_int (od_ixL rfl)) (by omega)) od_niN), fun _ => ev_var rfl⟩) ev_lst0 (od_ne0 (sh_nL _) (by decide))) (congrArg dB (filter_any _ _ _))))
        fun _ => et_not (et_B (ev_call (As := [.mvl 0 shP, .rel (dR (eW W)), .rel (rW C W), .rel (dR (nL sp))]) (as_mvl rfl (as_rel (ev_var rfl) (as_rel (ev_var rfl) (as_rel (ev_var rfl) as_nil)))) ⟨W, sp, ok, sA, sF, rfl, rfl⟩))) (fun z => ?_) fun _ => sv_next ?_)
      · exfalso
        rw [Bool.or_eq_true] at z
        rcases z with z | z
        · obtain ⟨x, hx, hz⟩ := List.any_eq_true.mp z
          rw [decide_eq_true (List.mem_range.mpr (sA.2 x hx))] at hz
          cases hz
        · cases z
      refine sv_seq (sv_for1 (xs := List.range sp.length) (Rx := fun (i : Nat) => dI (i : Int)) (fun i ρ1 => ∃ s8 : Slot, ρ1 = [.mvl shP, .rel (dR (eW W)), .rel (rW C W), .rel (dR (.tuple [.str "fields", nL sp, eOptApart (needsM W)])), .rel (dR (.list (([] : List Need).map eNeed))), .un, .rel (dR (nL sp)), .un, s8]) (ei_range1 (ea_cons (ev_lenM (ev_var rfl)) ea_nil) (by omega)) ⟨_, rfl⟩ ?_ ?_)
      · rintro i x ρ1 hx ⟨s8, rfl⟩
        obtain ⟨ex, hi⟩ := range_at hx
        subst ex
        obtain ⟨p, n, hm⟩ := less hi
        have ll : (sp.take x ++ sp.drop (x + 1)).length ≤ 5 := by
          rw [List.length_append, List.length_take, List.length_drop]
          omega
        exact sv_if (b := !true) (et_not (et_B (mby _ _ _ p n ll hm rfl rfl (ev_op (ev_takeL (a := x) (ev_var rfl) (ev_var rfl) rfl) (ev_dropL (a := x + 1) (ev_var rfl) (ev_op (ev_var rfl) ev_int od_plusI) (by omega)) (od_plusM (by rw [List.length_append] at ll; omega)))))) (fun z => by cases z) fun _ => sv_next ⟨_, rfl⟩
      · rintro ρ1 ⟨s8, rfl⟩
        exact sv_ret ev_bl (Rel.le_refl _)
end
end K48
set_option Elab.async false
set_option linter.all false
set_option maxRecDepth 100000
/-! Eg: the law. -/
namespace K48
open PySem L2 Dx WM
section
variable {P : Program} {w : World} {K : PySem.W.Frag} {mg : Str → Option Value} {base : Heap} {G : Glob} {C : Addr}
def covW (c : Nat) (k r : List Nat) : Wish := ⟨c, [[0, 1], [1]], [k], [r]⟩
theorem cov_ok {c : Nat} {k r : List Nat} (hc : 2 ≤ c ∧ c ≤ 5) (hk : Asc 2 k) (hr : Asc 2 r) (dj : ∀ x, x ∈ k → x ∉ r) : WOk (covW c k r) where
  f1 := by show 1 ≤ c; omega
  f5 := hc.2
  ne := fun h => by cases h
  six := by show 2 ≤ 6; omega
  nd := by show [[0, 1], [1]].Nodup; decide
  asc := fun f hf => by
    rcases List.mem_cons.mp hf with rfl | hf
    · exact ⟨by simp, by simp, fun x hx => by
        show x < c
        simp at hx; omega⟩
    rcases List.mem_cons.mp hf with rfl | hf
    · exact ⟨by simp, by simp, fun x hx => by
        show x < c
        simp at hx; omega⟩
    · cases hf
  kr := rfl
  four := by show 1 ≤ 4; omega
  ka := fun l hl => by rw [List.mem_singleton.mp hl]; exact hk
  ra := fun l hl => by rw [List.mem_singleton.mp hl]; exact hr
  dj := fun p k' r' h1 h2 x hx hx' => by
    match p, h1, h2 with
    | 0, h1, h2 => cases h1; cases h2; exact dj x hx hx'
    | p + 1, h1, _ => simp [covW] at h1
theorem shW (W : Wish) : Sh 4 (eW W) := sh_list (n := 3) fun d hd => by
  rcases List.mem_cons.mp hd with rfl | hd
  · exact sh_int
  rcases List.mem_cons.mp hd with rfl | hd
  · exact sh_list (n := 2) (sh_map fun f _ => sh_tup (n := 1) (sh_map fun _ _ => sh_int))
  rcases List.mem_cons.mp hd with rfl | hd
  · exact sh_list (n := 2) (sh_map fun f _ => sh_list (n := 1) (sh_map fun _ _ => sh_int))
  rcases List.mem_cons.mp hd with rfl | hd
  · exact sh_list (n := 2) (sh_map fun f _ => sh_list (n := 1) (sh_map fun _ _ => sh_int))
  · cases hd
theorem ls4_ex {α : Sort _} {d : α → PyData} {a b c : PyData} : (rLs [rEx fun x => dR (d x), dR a, dR b, dR c]).le (rEx fun x => dR (.list [d x, a, b, c])) := fun F v ⟨p, vs, e, h1, h2⟩ => by
  cases h2 with
  | cons q h2 =>
    obtain ⟨x, q⟩ := q
    cases h2 with
    | cons q2 h2 => cases h2 with
      | cons q3 h2 => cases h2 with
        | cons q4 h2 =>
          cases h2
          subst e
          exact ⟨x, .lst h1 (.cons q (.cons q2 (.cons q3 (.cons q4 .nil))))⟩
-- ['script', 'purse', 'more', 'first', 'second', 'wishes', 'served', 'covered']
abbrev s_law : Stmt := topS 39
abbrev N_law : List Str := ["script", "purse", "more", "first", "second", "wishes", "served", "covered"]
theorem sc_law : FnScope N_law ["script"] (defScope s_law) := ⟨rfl, rfl, rfl, by decide +kernel, rfl, by decide +kernel, by decide +kernel⟩
def spLaw (G : Glob) (K : PySem.W.Frag) : Sp := fun vs H Q _ => ∃ (F : Hp) (ns : List Int), EnvOk G [.rel (rScr K ns)] F H (vs.map some) ∧ ∀ H', Q (.bl true) H'
theorem ok_law {f0 : Addr} {fd0 : FuncData} (T : Tx K mg) (C_law_two : Cal P w K mg base "_law_two" 2 ["script"] (spTwo G K)) (C_law_wishes : Cal P w K mg base "_law_wishes" 3 ["purse", "kind"] (spS G po_wishes)) (C_law_draw : Cal P w K mg base "_law_draw" 1 ["purse", "many"] (spS G po_draw))
    (C_law_served : Cal P w K mg base "_law_served" 2 ["wishes"] (spS G po_served)) (C_law_asked : Cal P w K mg base "_law_asked" 8 ["purse", "wishes"] (spS G po_asked))
    (D : Fun K "law" "law" s_law f0 fd0) : FnOk P w K mg base CX0 9 f0 fd0 ["script"] (spLaw G K) := by
  refine fn_raw D sc_law (fun vs H Q E h => ?_) fun f cdv A outer s H E hr => ⟨_, (pss_cons (ps_asg (pe_cal C_law_two hr (pa_cons (pv 0) pa_nil)) (pg_unlK (K := K) rfl (pgs_cons (pg_name (i := 1) sc_law.nd rfl (by first | exact Or.inl rfl | exact Or.inr rfl)) (pgs_cons (pg_name (i := 2) sc_law.nd rfl (by first | exact Or.inl rfl | exact Or.inr rfl)) pgs_nil))))
      (pss_cons (ps_asg (pe_cal C_law_wishes hr (pa_cons (pv 1) (pa_cons (pe_cal C_law_draw hr (pa_cons (pv 2) (pa_cons pe_int pa_nil))) pa_nil))) (pg_name (i := 3) sc_law.nd rfl (by first | exact Or.inl rfl | exact Or.inr rfl)))
      (pss_cons (ps_asg (pe_cal C_law_wishes hr (pa_cons (pv 2) (pa_cons pe_int pa_nil))) (pg_name (i := 4) sc_law.nd rfl (by first | exact Or.inl rfl | exact Or.inr rfl)))
      (pss_cons (ps_for PassesOwn.never rfl (pi_seqK (K := K) (pe_lst (pa_cons (pv 3) (pa_cons (pv 4) pa_nil)))) (pg_name (i := 5) sc_law.nd rfl (by first | exact Or.inl rfl | exact Or.inr rfl)) (pss_cons (ps_asg (pe_cal C_law_served hr (pa_cons (pv 5) pa_nil)) (pg_name (i := 6) sc_law.nd rfl (by first | exact Or.inl rfl | exact Or.inr rfl)))
      (pss_one (ps_if (PW.pt (pw_or (pt_not (pt_val (pe_cal C_law_asked hr (pa_cons (pv 2) (pa_cons (pv 5) pa_nil))))) (pw_or1 (PW.pt (pw_and (pt_cmpR (op_neK (K := K) hr) (pv 6) (pv 5) (nomark _)) (pw_and1 (pt_not (pt_val (pe_cal C_law_asked hr (pa_cons (pv 2) (pa_cons (pv 6) pa_nil))))))))))) (pss_one (ps_ret pe_bl)) pss_nil))))
      (pss_cons (ps_asg (pe_lst (pa_cons (pe_op (op_plusK (K := K)) pe_int (pe_cal C_law_draw hr (pa_cons (pv 2) (pa_cons pe_int pa_nil)))) (pa_cons (pe_lst (pa_cons (pe_tup (pa_cons pe_int (pa_cons pe_int pa_nil))) (pa_cons (pe_tup (pa_cons pe_int pa_nil)) pa_nil))) (pa_cons (pe_lst (pa_cons (pe_lst (pa_cons pe_int pa_nil)) pa_nil)) (pa_cons (pe_lst (pa_cons (pe_lst (pa_cons pe_int pa_nil)) pa_nil)) pa_nil))))) (pg_name (i := 7) sc_law.nd rfl (by first | exact Or.inl rfl | exact Or.inr rfl)))
      (pss_one (ps_ret (pe_and (pe_cal C_law_asked hr (pa_cons (pv 2) (pa_cons (pv 7) pa_nil))) (pe_one (pe_cal C_law_asked hr (pa_cons (pv 2) (pa_cons (pe_lst (pa_cons (pe_ix (ix_seqK (K := K)) (pv 7) pe_int (fun _ _ => rfl)) (pa_cons (pe_ix (ix_seqK (K := K)) (pv 7) pe_int (fun _ _ => rfl)) (pa_cons (pe_lst (pa_cons (pe_lst (pa_cons pe_int pa_nil)) pa_nil)) (pa_cons (pe_lst (pa_cons (pe_lst (pa_cons pe_int pa_nil)) pa_nil)) pa_nil))))) pa_nil)))))))))))), fun vs Q h => ?_⟩
  · obtain ⟨F, ns, E, _⟩ := h
    have := E.len
    rw [List.length_map] at this
    exact this
  · obtain ⟨F, ns, EE, q⟩ := h
    have E1 : EnvOk G [.rel (rScr K ns), .un, .un, .un, .un, .un, .un, .un] F H (L2.start N_law vs) := EE.start (N := N_law)
    generalize L2.start N_law vs = σ at E1
    have l8 : σ.length = 8 := E1.len
    obtain ⟨vs0, hs0, a0, rfl, hq0⟩ := E1.at_ 0 _ rfl
    refine ⟨.ref a0, hs0, ?_⟩
    refine ⟨F, ns, env_rels (Rs := [rScr K ns]) (.cons ⟨a0, rfl, hq0⟩ .nil) E1.sub E1.glob E1.tabled fun a ha => (E1.tab a ha).1, fun H1 l p1 p2 o1 o2 R nl n1 n2 ne g0 g1 g2 s1 s2 => ?_⟩
    refine ⟨l, _, rfl, SqL.of g0, rfl, _, _, rfl, _, _, rfl, rfl, ?_⟩
    have shn : ∀ {o : HO}, shP o → ∀ ps, o ≠ .tbl ps := fun {o} h ps z => by
      obtain ⟨_, _, _, rfl⟩ := h
      cases z
    have t1 : ((σ.set 1 (some (V.ref p1))).set 2 (some (V.ref p2)))[1]? = some (some (V.ref p1)) := by simp [List.getElem?_set, l8]
    have t2 : ((σ.set 1 (some (V.ref p1))).set 2 (some (V.ref p2)))[2]? = some (some (V.ref p2)) := by simp [List.getElem?_set, l8]
    have tl : ((σ.set 1 (some (V.ref p1))).set 2 (some (V.ref p2))).length = 8 := by simp [l8]
    generalize (σ.set 1 (some (V.ref p1))).set 2 (some (V.ref p2)) = τ at t1 t2 tl
    have E2 : EnvOk G [.un, .mvl shP, .mvl shP, .un, .un, .un, .un, .un] (fun _ => none) H1 τ := by
      refine ⟨fun a o h => (by cases h), tl, fun i s hs => ?_, fun i j s s' a h1 h2 m1 m2 e1 e2 => ?_, R.gi E1.tabled E1.glob, fun a ha => ⟨rfl, R.tab E1.tabled a ha⟩⟩
      · match i, hs with
        | 0, hs => cases hs; trivial
        | 1, hs =>
          cases hs
          exact ⟨p1, o1, t1, g1, rfl, s1, shn s1⟩
        | 2, hs =>
          cases hs
          exact ⟨p2, o2, t2, g2, rfl, s2, shn s2⟩
        | 3, hs => cases hs; trivial
        | 4, hs => cases hs; trivial
        | 5, hs => cases hs; trivial
        | 6, hs => cases hs; trivial
        | 7, hs => cases hs; trivial
        | i + 8, hs => simp at hs
      · have key : ∀ (i : Nat) (s : Slot), ([.un, .mvl shP, .mvl shP, .un, .un, .un, .un, .un] : List Slot)[i]? = some s → s.mine → i = 1 ∨ i = 2 := fun i s h m => by
          match i, h with
          | 0, h => cases h; exact m.elim
          | 1, _ => exact .inl rfl
          | 2, _ => exact .inr rfl
          | 3, h => cases h; exact m.elim
          | 4, h => cases h; exact m.elim
          | 5, h => cases h; exact m.elim
          | 6, h => cases h; exact m.elim
          | 7, h => cases h; exact m.elim
          | i + 8, h => simp at h
        rcases key i s h1 m1 with rfl | rfl
        · rcases key j s' h2 m2 with rfl | rfl
          · rfl
          · rw [t1] at e1
            rw [t2] at e2
            cases e1
            cases e2
            exact absurd rfl ne
        · rcases key j s' h2 m2 with rfl | rfl
          · rw [t2] at e1
            rw [t1] at e2
            cases e1
            cases e2
            exact absurd rfl ne
          · rfl
    dsimp only
    refine sv_run (R := dB true) E2 (fun j ds h => ?_) ?_ fun F' H' v hv => ?_
    · match j, h with
      | 0, h => cases h
      | 1, h => cases h
      | 2, h => cases h
      | 3, h => cases h
      | 4, h => cases h
      | 5, h => cases h
      | 6, h => cases h
      | 7, h => cases h
      | j + 8, h => simp at h
    · have asked : ∀ (ρ : List Slot) (te : TE) (W : Wish), WOk W → ρ[2]? = some (.mvl shP) → Ev G te ρ (dR (eW W)) → Ev G (tCall (spS G po_asked) [] E0 (tCons (tVar 2) (tCons te tNil))) ρ (dB true) := fun ρ te W ok h2 hi =>
        ev_call (As := [.mvl 2 shP, .rel (dR (eW W))]) (as_mvl h2 (as_rel hi as_nil)) ⟨W, ok, rfl, rfl⟩
      refine sv_seq (sv_setEx (Rs := fun W : WSub => dR (eW W.1)) (ev_call' (As := [.mvl 1 shP, .rel (rBelow 2)]) (as_mvl rfl (as_rel (ev_call (As := [.mvl 2 shP, .rel (dR (dN 2))]) (as_mvl rfl (as_rel (Ev.to ev_int rfl) as_nil)) ⟨2, by decide, by decide, rfl, rfl⟩) as_nil)) fun σ F vs h => ?_) fun W1 => ?_)
      · cases h with
        | mvl h1 h2 h3 => cases h3 with
          | rel q h3 =>
            obtain ⟨r, q⟩ := q
            exact ⟨[.mvl 1 shP, .rel (dR (dN r.1))], rWish, .mvl h1 h2 (.rel q h3), by simp [mvlIx], ⟨r.1, rfl, rfl⟩, Rel.le_refl _⟩
      refine sv_seq (sv_setEx (Rs := fun W : WSub => dR (eW W.1)) (ev_call (As := [.mvl 2 shP, .rel (dR (dN 2))]) (as_mvl rfl (as_rel (Ev.to ev_int rfl) as_nil)) ⟨2, rfl, rfl⟩) fun W2 => ?_)
      refine sv_seq (sv_for1 (xs := [W1, W2]) (Rx := fun W : WSub => dR (eW W.1)) (fun i ρ1 => ∃ s5 s6 : Slot, ρ1 = [.un, .mvl shP, .mvl shP, .rel (dR (eW W1.1)), .rel (dR (eW W2.1)), s5, s6, .un]) (ei_mapL (f := fun W : WSub => eW W.1) (ev_lst2 (ev_var rfl) (ev_var rfl))) ⟨_, _, rfl⟩ ?_ ?_)
      · rintro i W ρ1 _ ⟨s5, s6, rfl⟩
        refine sv_seq (sv_setEx (Rs := fun W : WSub => dR (eW W.1)) (ev_call (As := [.rel (dR (eW W.1))]) (as_rel (ev_var rfl) as_nil) ⟨W.1, W.2, rfl, rfl⟩) fun W' => ?_)
        exact sv_if (b := !true || (!PyData.eqv (eW W'.1) (eW W.1) && !true)) (et_or (et_not (et_B (asked _ _ W.1 W.2 rfl (ev_var rfl)))) fun _ => et_and (et_test (ev_op (ev_var rfl) (ev_var rfl) (od_ne ((shW _).shaped (by decide)) ((shW _).shaped (by decide))))) fun _ => et_not (et_B (asked _ _ W'.1 W'.2 rfl (ev_var rfl)))) (fun z => by simp at z) fun _ => sv_next ⟨_, _, rfl⟩
      · rintro ρ1 ⟨s5, s6, rfl⟩
        refine sv_seq (sv_setEx (Rs := fun r : Below 3 => dR (eW (covW (2 + r.1) [0] [1]))) (Ev.le (ev_lst (Rs := [rEx fun r : Below 3 => dR (dN (2 + r.1)), dR (.list [nT [0, 1], nT [1]]), dR (.list [nL [0]]), dR (.list [nL [1]])]) (ea_cons (Ev.le (ev_op (R := rEx fun r : Below 3 => dI (2 + (r.1 : Int))) ev_int (ev_call (As := [.mvl 2 shP, .rel (dR (dN 3))]) (as_mvl rfl (as_rel (Ev.to ev_int rfl) as_nil)) ⟨3, by decide, by decide, rfl, rfl⟩) (OpD.exR fun r => od_plusI)) fun F v ⟨r, hv⟩ => ⟨r, ?_⟩)
          (ea_cons (ev_lst2 (ev_tup2 ev_int ev_int) (ev_tup1 ev_int)) (ea_cons (ev_lst1 (ev_lst1 ev_int)) (ea_cons (ev_lst1 (ev_lst1 ev_int)) ea_nil)))) (by decide)) (ls4_ex (d := fun r : Below 3 => dN (2 + r.1)))) fun r => ?_)
        · show Dq F v (.int ((2 + r.1 : Nat) : Int))
          rw [show ((2 + r.1 : Nat) : Int) = 2 + (r.1 : Int) by omega]
          exact hv
        · have hc : 2 ≤ 2 + r.1 ∧ 2 + r.1 ≤ 5 := by have := r.2; omega
          have ok1 : WOk (covW (2 + r.1) [0] [1]) := cov_ok hc ⟨by simp, by simp⟩ ⟨by simp, by simp⟩ (by simp)
          have ok2 : WOk (covW (2 + r.1) [1] [0]) := cov_ok hc ⟨by simp, by simp⟩ ⟨by simp, by simp⟩ (by simp)
          exact sv_ret (R := dB (true && true)) (ev_andV (asked _ _ _ ok1 rfl (ev_var rfl)) fun _ => asked _ _ _ ok2 rfl (ev_lst4 (ev_op (ev_var rfl) ev_int (od_ixL rfl)) (ev_op (ev_var rfl) ev_int (od_ixL rfl)) (ev_lst1 (ev_lst1 ev_int)) (ev_lst1 (ev_lst1 ev_int)))) (Rel.le_refl _)
    · cases hv
      exact q H'
end
end K48
set_option Elab.async false
set_option linter.all false
set_option maxRecDepth 100000
/-! The whole: the facts of the top joined. -/
namespace K48
open PySem PySem.Spec PyProof.Rows L2 Dx WM
section
variable {K : PySem.W.Frag} {h : Heap} {mg : Str → Option Value} {C : Addr}
theorem tx_mk (X : K.In h) (G : h.Ns mainGlobals mg) (z0 : PySem.W.nsIn K mainGlobals "len" = some none) (z1 : PySem.W.nsIn K mainGlobals "range" = some none) (z2 : PySem.W.nsIn K mainGlobals "list" = some none) (z3 : PySem.W.nsIn K mainGlobals "tuple" = some none) (z4 : PySem.W.nsIn K mainGlobals "int" = some none) (z5 : PySem.W.nsIn K mainGlobals "abs" = some none) (z6 : PySem.W.nsIn K mainGlobals "min" = some none) (z7 : PySem.W.nsIn K mainGlobals "max" = some none) (z8 : PySem.W.nsIn K mainGlobals "sum" = some none) (z9 : PySem.W.nsIn K mainGlobals "sorted" = some none) (z10 : PySem.W.nsIn K mainGlobals "set" = some none) (z11 : PySem.W.nsIn K mainGlobals "isinstance" = some none) (z12 : PySem.W.nsIn K mainGlobals "bool" = some none) (z13 : PySem.W.nsIn K mainGlobals "str" = some none) {t0 t1 t2 : Tok} (k0 : PySem.W.nsIn K mainGlobals "PARTS" = some (some (.int 4 t0))) (k1 : PySem.W.nsIn K mainGlobals "FIELDS" = some (some (.int 5 t1))) (k2 : PySem.W.nsIn K mainGlobals "FORMS" = some (some (.int 6 t2))) : Tx K mg :=
  ⟨PySem.W.mg_none_of X G z0, PySem.W.mg_none_of X G z1, PySem.W.mg_none_of X G z2, PySem.W.mg_none_of X G z3, PySem.W.mg_none_of X G z4, PySem.W.mg_none_of X G z5, PySem.W.mg_none_of X G z6, PySem.W.mg_none_of X G z7, PySem.W.mg_none_of X G z8, PySem.W.mg_none_of X G z9, PySem.W.mg_none_of X G z10, PySem.W.mg_none_of X G z11, PySem.W.mg_none_of X G z12, PySem.W.mg_none_of X G z13, ⟨_, PySem.W.mg_of X G k0⟩, ⟨_, PySem.W.mg_of X G k1⟩, ⟨_, PySem.W.mg_of X G k2⟩⟩
theorem tc_mk (X : K.In h) (G : h.Ns mainGlobals mg) (aC : PySem.W.nsIn K mainGlobals "Wishes" = some (some (.ref C))) (pg : PySem.W.plainGet K C Str.empty = true) (hd : PySem.W.hasDictIn K C = true) (po : PySem.W.plainOver K C = true) (sa : PySem.W.findIn K (.ref C) "__setattr__" = some (some (.builtin "object.__setattr__"))) (n0 : PySem.W.findIn K (.ref C) "held_fields" = some none) (n1 : PySem.W.findIn K (.ref C) "held_forms" = some none) (n2 : PySem.W.findIn K (.ref C) "held_keeps" = some none) (n3 : PySem.W.findIn K (.ref C) "held_renews" = some none) : Tc K mg C :=
  ⟨⟨pg, hd, po, sa⟩, n0, n1, n2, n3, PySem.W.mg_of X G aC⟩
theorem all_law {l : PySem.W.OpenLaw} {w : World} {fa f4 c Pt : Addr} (X : K.In h) (G : h.Ns mainGlobals mg) (hfa : mg "law" = some (.ref fa)) {od4 an4 : Option Addr} {sl4 : Array (Option Value)} {oc4 kV4 dc4 pm4 cd4 ct4 : Value}
    (a4 : PySem.W.nsIn K mainGlobals "law" = some (some (.ref f4))) (l4 : K.lookup f4 = some ⟨oc4, od4, .func (PySem.W.fnOf "law" "law" (defArgs s_law) (defBody s_law) (defScope s_law) .none kV4 dc4 pm4 an4 cd4 ct4), sl4⟩) (c4 : PySem.W.codeIn K cd4 "law" = true) (k4 : PySem.W.keepIn K (.ref f4) = true) (T : Tx K mg) (Tw : Tc K mg C)
    (D_is_stretch : Df K mg "is_stretch" s_is_stretch ["fields"])
    (D_missed : Df K mg "missed" s_missed ["needs", "spare"])
    (D_picks : Df K mg "picks" s_picks ["things", "size"])
    (D_law_draw : Df K mg "_law_draw" s_law_draw ["purse", "many"])
    (D_law_taken : Df K mg "_law_taken" s_law_taken ["purse", "things", "many"])
    (D_law_subsets : Df K mg "_law_subsets" s_law_subsets ["things"])
    (D_check_most : Df K mg "check_most" s_check_most ["what", "many", "most"])
    (D_check_forms : Df K mg "check_forms" s_check_forms ["many", "forms"])
    (D_check_numbers_of : Df K mg "check_numbers_of" s_check_numbers_of ["lists", "many"])
    (D_check_wishes : Df K mg "check_wishes" s_check_wishes ["fields", "forms", "keeps", "renews"])
    (D_law_wishes : Df K mg "_law_wishes" s_law_wishes ["purse", "kind"])
    (D_Wishes_outside : DfM K C "outside" "Wishes.outside" s_Wishes_outside ["self", "part", "number"])
    (D_Wishes_needs : DfM K C "needs" "Wishes.needs" s_Wishes_needs ["self"])
    (D_needs_apart : DfC K mg "needs_apart" s_needs_apart ["needs"] c)
    (D_Wishes_fewest : DfM K C "fewest" "Wishes.fewest" s_Wishes_fewest ["self"])
    (D_Wishes___init__ : DfI K C "Wishes.__init__" s_Wishes___init__ ["self", "fields", "forms", "keeps", "renews"])
    (D_law_real_wishes : Df K mg "_law_real_wishes" s_law_real_wishes ["wishes"])
    (D_law_needs : Df K mg "_law_needs" s_law_needs ["wishes"])
    (D_judge_spare : Df K mg "judge_spare" s_judge_spare ["wishes", "spare"])
    (D_Wishes_two_courses : DfM K C "two_courses" "Wishes.two_courses" s_Wishes_two_courses ["self", "spare"])
    (D_Wishes_due : DfM K C "due" "Wishes.due" s_Wishes_due ["self", "saved"])
    (D_Wishes_shown : DfM K C "shown" "Wishes.shown" s_Wishes_shown ["self", "spare", "saved"])
    (D_law_same : Df K mg "_law_same" s_law_same ["told", "due"])
    (D_law_due : Df K mg "_law_due" s_law_due ["wishes", "saved"])
    (D_law_set_back : Df K mg "_law_set_back" s_law_set_back ["wishes", "spare", "saved"])
    (D_law_reads : Df K mg "_law_reads" s_law_reads ["wishes", "back"])
    (D_law_rows_of_forms : Df K mg "_law_rows_of_forms" s_law_rows_of_forms ["purse", "many"])
    (D_law_serves : Df K mg "_law_serves" s_law_serves ["purse", "wishes", "real", "spare"])
    (D_law_missed_by : Df K mg "_law_missed_by" s_law_missed_by ["wishes", "real", "spare"])
    (D_law_served : Df K mg "_law_served" s_law_served ["wishes"])
    (D_law_asked : Df K mg "_law_asked" s_law_asked ["purse", "wishes"])
    (D_law_purse : Df K mg "_law_purse" s_law_purse ["script", "at"])
    (D_law_two : Df K mg "_law_two" s_law_two ["script"])
    (ht : PySem.W.tabIn K "needs_apart" = some (c, Pt)) (nT : K.lookup Pt = none) : LawDef l w K "needs_apart" 9 "script" mg fa := by
  have e := hfa.symm.trans (PySem.W.mg_of X G a4)
  cases e
  refine ⟨PySem.W.fnOf "law" "law" (defArgs s_law) (defBody s_law) (defScope s_law) .none kV4 dc4 pm4 an4 cd4 ct4, c, Pt, spLaw (gT Pt "needs_apart.<locals>.<lambda>") K, ht, nT, fun s v => .of_eq rfl, fun H a ns hP hS => ?_, fun base hK hN TB => ?_⟩
  · have ne : a ≠ Pt := fun z => by
      rcases hS with (q | ⟨o, q⟩) | ⟨o, its, n, q, _⟩
      · rw [z, hP] at q; cases q
      · rw [z, hP] at q; cases q
      · rw [z, nT] at q; cases q
    refine ⟨fun b => if b = a then H a else none, ns, ?_, fun _ => rfl⟩
    refine env_rels (vs := [.ref a]) (Rs := [rScr K ns]) (.cons ⟨a, rfl, ?_⟩ .nil) (fun b o e => ?_) (LamX.TabS.nil hP) (fun b hb => ⟨#[], by rw [show b = Pt from hb]; exact hP⟩) fun b hb => ?_
    · have e : (fun b => if b = a then H a else none) a = H a := if_pos rfl
      rcases hS with (q | ⟨o, q⟩) | q
      · exact .inl (.inl (e.trans q))
      · exact .inl (.inr ⟨o, e.trans q⟩)
      · exact .inr q
    · have e' : (if b = a then H a else none) = some o := e
      by_cases z : b = a
      · rw [if_pos z] at e'
        rw [z]; exact e'
      · rw [if_neg z] at e'; cases e'
    · have hb : b = Pt := hb
      show (if b = a then H a else none) = none
      rw [if_neg (by rw [hb]; exact Ne.symm ne)]
  · have c_is_stretch := ok_stretch (P := l.prog) (w := w) (base := base) (G := gT Pt "needs_apart.<locals>.<lambda>") T D_is_stretch
    have c_missed := ok_missed (P := l.prog) (w := w) (base := base) (G := gT Pt "needs_apart.<locals>.<lambda>") T D_missed
    have c_picks := ok_picks (P := l.prog) (w := w) (base := base) (G := gT Pt "needs_apart.<locals>.<lambda>") T D_picks 6
    have c_law_draw := ok_draw (P := l.prog) (w := w) (base := base) (G := gT Pt "needs_apart.<locals>.<lambda>") T D_law_draw
    have c_law_taken := ok_taken (P := l.prog) (w := w) (base := base) (G := gT Pt "needs_apart.<locals>.<lambda>") T c_law_draw D_law_taken
    have c_law_subsets := ok_subsets (P := l.prog) (w := w) (base := base) (G := gT Pt "needs_apart.<locals>.<lambda>") T D_law_subsets
    have c_check_most := ok_most (P := l.prog) (w := w) (base := base) (G := gT Pt "needs_apart.<locals>.<lambda>") T D_check_most
    have c_check_forms := ok_forms (P := l.prog) (w := w) (base := base) (G := gT Pt "needs_apart.<locals>.<lambda>") T D_check_forms
    have c_check_numbers_of := ok_numbers (P := l.prog) (w := w) (base := base) (G := gT Pt "needs_apart.<locals>.<lambda>") T D_check_numbers_of
    have c_check_wishes := ok_checkW (P := l.prog) (w := w) (base := base) (G := gT Pt "needs_apart.<locals>.<lambda>") T c_check_most c_check_forms c_check_numbers_of D_check_wishes
    have c_law_wishes := ok_wishes (P := l.prog) (w := w) (base := base) (G := gT Pt "needs_apart.<locals>.<lambda>") T c_law_draw c_law_taken c_law_subsets D_law_wishes
    have c_Wishes_outside := ok_outside (P := l.prog) (w := w) (base := base) (G := gT Pt "needs_apart.<locals>.<lambda>") T Tw D_Wishes_outside
    have c_Wishes_needs := ok_needs (P := l.prog) (w := w) (base := base) (G := gT Pt "needs_apart.<locals>.<lambda>") T Tw c_Wishes_outside D_Wishes_needs
    have c_needs_apart := ok_apart (P := l.prog) (w := w) (base := base) T TB D_needs_apart
    have c_Wishes_fewest := ok_fewest (P := l.prog) (w := w) (base := base) (G := gT Pt "needs_apart.<locals>.<lambda>") T Tw c_Wishes_needs c_is_stretch c_needs_apart c_picks c_missed D_Wishes_fewest
    have c_Wishes___init__ := ok_init (P := l.prog) (w := w) (base := base) (G := gT Pt "needs_apart.<locals>.<lambda>") T Tw c_check_wishes D_Wishes___init__
    have c_law_real_wishes := ok_real (P := l.prog) (w := w) (base := base) (G := gT Pt "needs_apart.<locals>.<lambda>") T Tw c_Wishes___init__ D_law_real_wishes
    have c_law_needs := ok_lneeds (P := l.prog) (w := w) (base := base) (G := gT Pt "needs_apart.<locals>.<lambda>") T D_law_needs
    have c_judge_spare := ok_judge (P := l.prog) (w := w) (base := base) (G := gT Pt "needs_apart.<locals>.<lambda>") T c_Wishes_needs c_missed D_judge_spare
    have c_Wishes_two_courses := ok_courses (P := l.prog) (w := w) (base := base) (G := gT Pt "needs_apart.<locals>.<lambda>") T Tw c_Wishes_needs c_missed D_Wishes_two_courses
    have c_Wishes_due := ok_due (P := l.prog) (w := w) (base := base) (G := gT Pt "needs_apart.<locals>.<lambda>") T Tw D_Wishes_due
    have c_Wishes_shown := ok_shown (P := l.prog) (w := w) (base := base) (G := gT Pt "needs_apart.<locals>.<lambda>") T Tw c_Wishes_outside D_Wishes_shown
    have c_law_same := ok_same (P := l.prog) (w := w) (base := base) (G := gT Pt "needs_apart.<locals>.<lambda>") T D_law_same 2
    have c_law_due := ok_ldue (P := l.prog) (w := w) (base := base) (G := gT Pt "needs_apart.<locals>.<lambda>") T D_law_due
    have c_law_set_back := ok_back (P := l.prog) (w := w) (base := base) (G := gT Pt "needs_apart.<locals>.<lambda>") T D_law_set_back
    have c_law_reads := ok_reads (P := l.prog) (w := w) (base := base) (G := gT Pt "needs_apart.<locals>.<lambda>") T D_law_reads
    have c_law_rows_of_forms := ok_rows (P := l.prog) (w := w) (base := base) (G := gT Pt "needs_apart.<locals>.<lambda>") T c_law_draw D_law_rows_of_forms
    have c_law_serves := ok_serves (P := l.prog) (w := w) (base := base) (G := gT Pt "needs_apart.<locals>.<lambda>") T c_law_rows_of_forms c_law_due c_Wishes_shown c_Wishes_due c_law_same c_law_reads c_law_set_back c_Wishes_two_courses c_judge_spare D_law_serves
    have c_law_missed_by := ok_mby (P := l.prog) (w := w) (base := base) (G := gT Pt "needs_apart.<locals>.<lambda>") T c_Wishes_two_courses c_law_set_back c_law_due c_judge_spare D_law_missed_by
    have c_law_served := ok_served (P := l.prog) (w := w) (base := base) (G := gT Pt "needs_apart.<locals>.<lambda>") T c_law_needs D_law_served
    have c_law_asked := ok_asked (P := l.prog) (w := w) (base := base) (G := gT Pt "needs_apart.<locals>.<lambda>") T c_law_real_wishes c_Wishes_fewest c_law_needs c_law_same c_law_missed_by c_law_serves D_law_asked
    have c_law_purse := ok_purse (P := l.prog) (w := w) (base := base) (G := gT Pt "needs_apart.<locals>.<lambda>") T D_law_purse
    have c_law_two := ok_two (P := l.prog) (w := w) (base := base) (G := gT Pt "needs_apart.<locals>.<lambda>") T c_law_purse c_law_draw D_law_two
    exact ok_law (G := gT Pt "needs_apart.<locals>.<lambda>") T c_law_two c_law_wishes c_law_draw c_law_served c_law_asked (fun_mk (st := s_law) l4 c4 k4)
end
end K48
open PySem PySem.W PyProof.Rows in
set_option maxRecDepth 100000 in
set_option maxHeartbeats 0 in
theorem PySem.Challenge.cw_stillwritten_k48_whole_details_behind_al_holds : PySem.Challenge.rw_stillwritten_k48_whole_details_behind_al.Holds := by
  w_on; o_law; k_head; (case hw => w_witness2)
  k_fill
  refine Dx.walk_def (l := PySem.Challenge.rw_stillwritten_k48_whole_details_behind_al) (k := 9) (x := "script") (x0 := "needs_apart") rfl (by decide) rfl ⟨rfl, by decide, by decide⟩ rfl (fun w h Y => PySem.W.km_in_of Y) ?F
  case F =>
    intro w mg fa h KX G hmg
    refine' K48.all_law KX G hmg ?a4 ?l4 ?c4 ?k4 ?T ?Tw ?D_is_stretch ?D_missed ?D_picks ?D_law_draw ?D_law_taken ?D_law_subsets ?D_check_most ?D_check_forms ?D_check_numbers_of ?D_check_wishes ?D_law_wishes ?D_Wishes_outside ?D_Wishes_needs ?D_needs_apart ?D_Wishes_fewest ?D_Wishes___init__ ?D_law_real_wishes ?D_law_needs ?D_judge_spare ?D_Wishes_two_courses ?D_Wishes_due ?D_Wishes_shown ?D_law_same ?D_law_due ?D_law_set_back ?D_law_reads ?D_law_rows_of_forms ?D_law_serves ?D_law_missed_by ?D_law_served ?D_law_asked ?D_law_purse ?D_law_two ?ht ?nT
    (case a4 => k_is)
    (case l4 => k_is)
    (case c4 => k_is)
    (case k4 => k_is)
    (case T => (refine' K48.tx_mk KX G ?z0 ?z1 ?z2 ?z3 ?z4 ?z5 ?z6 ?z7 ?z8 ?z9 ?z10 ?z11 ?z12 ?z13 ?k0 ?k1 ?k2); (case z0 => k_is); (case z1 => k_is); (case z2 => k_is); (case z3 => k_is); (case z4 => k_is); (case z5 => k_is); (case z6 => k_is); (case z7 => k_is); (case z8 => k_is); (case z9 => k_is); (case z10 => k_is); (case z11 => k_is); (case z12 => k_is); (case z13 => k_is); (case k0 => k_is); (case k1 => k_is); (case k2 => k_is))
    (case Tw => (refine' K48.tc_mk KX G ?aC ?pg ?hd ?po ?sa ?n0 ?n1 ?n2 ?n3); (case aC => k_is); (case pg => k_is); (case hd => k_is); (case po => k_is); (case sa => k_is); (case n0 => k_is); (case n1 => k_is); (case n2 => k_is); (case n3 => k_is))
    (case D_is_stretch => (refine' Dx.df_mk KX G ?a ?l ?c ?k (fun _ _ _ _ _ _ us hl => match us, hl with | [_], _ => rfl)); (case a => k_is); (case l => k_is); (case c => k_is); (case k => k_is))
    (case D_missed => (refine' Dx.df_mk KX G ?a ?l ?c ?k (fun _ _ _ _ _ _ us hl => match us, hl with | [_, _], _ => rfl)); (case a => k_is); (case l => k_is); (case c => k_is); (case k => k_is))
    (case D_picks => (refine' Dx.df_mk KX G ?a ?l ?c ?k (fun _ _ _ _ _ _ us hl => match us, hl with | [_, _], _ => rfl)); (case a => k_is); (case l => k_is); (case c => k_is); (case k => k_is))
    (case D_law_draw => (refine' Dx.df_mk KX G ?a ?l ?c ?k (fun _ _ _ _ _ _ us hl => match us, hl with | [_, _], _ => rfl)); (case a => k_is); (case l => k_is); (case c => k_is); (case k => k_is))
    (case D_law_taken => (refine' Dx.df_mk KX G ?a ?l ?c ?k (fun _ _ _ _ _ _ us hl => match us, hl with | [_, _, _], _ => rfl)); (case a => k_is); (case l => k_is); (case c => k_is); (case k => k_is))
    (case D_law_subsets => (refine' Dx.df_mk KX G ?a ?l ?c ?k (fun _ _ _ _ _ _ us hl => match us, hl with | [_], _ => rfl)); (case a => k_is); (case l => k_is); (case c => k_is); (case k => k_is))
    (case D_check_most => (refine' Dx.df_mk KX G ?a ?l ?c ?k (fun _ _ _ _ _ _ us hl => match us, hl with | [_, _, _], _ => rfl)); (case a => k_is); (case l => k_is); (case c => k_is); (case k => k_is))
    (case D_check_forms => (refine' Dx.df_mk KX G ?a ?l ?c ?k (fun _ _ _ _ _ _ us hl => match us, hl with | [_, _], _ => rfl)); (case a => k_is); (case l => k_is); (case c => k_is); (case k => k_is))
    (case D_check_numbers_of => (refine' Dx.df_mk KX G ?a ?l ?c ?k (fun _ _ _ _ _ _ us hl => match us, hl with | [_, _], _ => rfl)); (case a => k_is); (case l => k_is); (case c => k_is); (case k => k_is))
    (case D_check_wishes => (refine' Dx.df_mk KX G ?a ?l ?c ?k (fun _ _ _ _ _ _ us hl => match us, hl with | [_, _, _, _], _ => rfl)); (case a => k_is); (case l => k_is); (case c => k_is); (case k => k_is))
    (case D_law_wishes => (refine' Dx.df_mk KX G ?a ?l ?c ?k (fun _ _ _ _ _ _ us hl => match us, hl with | [_, _], _ => rfl)); (case a => k_is); (case l => k_is); (case c => k_is); (case k => k_is))
    (case D_Wishes_outside => (refine' Dx.dfM_mk ?a ?i ?l ?c ?k (fun _ _ _ _ _ _ us hl => match us, hl with | [_, _, _], _ => rfl)); (case a => k_is); (case i => k_is); (case l => k_is); (case c => k_is); (case k => k_is))
    (case D_Wishes_needs => (refine' Dx.dfM_mk ?a ?i ?l ?c ?k (fun _ _ _ _ _ _ us hl => match us, hl with | [_], _ => rfl)); (case a => k_is); (case i => k_is); (case l => k_is); (case c => k_is); (case k => k_is))
    (case D_needs_apart => (refine' Dx.dfC_mk KX G ?a ?l ?c ?k (fun _ _ _ _ _ _ us hl => match us, hl with | [_], _ => rfl)); (case a => k_is); (case l => k_is); (case c => k_is); (case k => k_is))
    (case D_Wishes_fewest => (refine' Dx.dfM_mk ?a ?i ?l ?c ?k (fun _ _ _ _ _ _ us hl => match us, hl with | [_], _ => rfl)); (case a => k_is); (case i => k_is); (case l => k_is); (case c => k_is); (case k => k_is))
    (case D_Wishes___init__ => (refine' Dx.dfI_mk ?a ?i ?l ?c ?k ?m ?kc (fun _ _ _ _ _ _ us hl => match us, hl with | [_, _, _, _, _], _ => rfl)); (case a => k_is); (case i => k_is); (case l => k_is); (case c => k_is); (case k => k_is); (case m => k_is); (case kc => k_is))
    (case D_law_real_wishes => (refine' Dx.df_mk KX G ?a ?l ?c ?k (fun _ _ _ _ _ _ us hl => match us, hl with | [_], _ => rfl)); (case a => k_is); (case l => k_is); (case c => k_is); (case k => k_is))
    (case D_law_needs => (refine' Dx.df_mk KX G ?a ?l ?c ?k (fun _ _ _ _ _ _ us hl => match us, hl with | [_], _ => rfl)); (case a => k_is); (case l => k_is); (case c => k_is); (case k => k_is))
    (case D_judge_spare => (refine' Dx.df_mk KX G ?a ?l ?c ?k (fun _ _ _ _ _ _ us hl => match us, hl with | [_, _], _ => rfl)); (case a => k_is); (case l => k_is); (case c => k_is); (case k => k_is))
    (case D_Wishes_two_courses => (refine' Dx.dfM_mk ?a ?i ?l ?c ?k (fun _ _ _ _ _ _ us hl => match us, hl with | [_, _], _ => rfl)); (case a => k_is); (case i => k_is); (case l => k_is); (case c => k_is); (case k => k_is))
    (case D_Wishes_due => (refine' Dx.dfM_mk ?a ?i ?l ?c ?k (fun _ _ _ _ _ _ us hl => match us, hl with | [_, _], _ => rfl)); (case a => k_is); (case i => k_is); (case l => k_is); (case c => k_is); (case k => k_is))
    (case D_Wishes_shown => (refine' Dx.dfM_mk ?a ?i ?l ?c ?k (fun _ _ _ _ _ _ us hl => match us, hl with | [_, _, _], _ => rfl)); (case a => k_is); (case i => k_is); (case l => k_is); (case c => k_is); (case k => k_is))
    (case D_law_same => (refine' Dx.df_mk KX G ?a ?l ?c ?k (fun _ _ _ _ _ _ us hl => match us, hl with | [_, _], _ => rfl)); (case a => k_is); (case l => k_is); (case c => k_is); (case k => k_is))
    (case D_law_due => (refine' Dx.df_mk KX G ?a ?l ?c ?k (fun _ _ _ _ _ _ us hl => match us, hl with | [_, _], _ => rfl)); (case a => k_is); (case l => k_is); (case c => k_is); (case k => k_is))
    (case D_law_set_back => (refine' Dx.df_mk KX G ?a ?l ?c ?k (fun _ _ _ _ _ _ us hl => match us, hl with | [_, _, _], _ => rfl)); (case a => k_is); (case l => k_is); (case c => k_is); (case k => k_is))
    (case D_law_reads => (refine' Dx.df_mk KX G ?a ?l ?c ?k (fun _ _ _ _ _ _ us hl => match us, hl with | [_, _], _ => rfl)); (case a => k_is); (case l => k_is); (case c => k_is); (case k => k_is))
    (case D_law_rows_of_forms => (refine' Dx.df_mk KX G ?a ?l ?c ?k (fun _ _ _ _ _ _ us hl => match us, hl with | [_, _], _ => rfl)); (case a => k_is); (case l => k_is); (case c => k_is); (case k => k_is))
    (case D_law_serves => (refine' Dx.df_mk KX G ?a ?l ?c ?k (fun _ _ _ _ _ _ us hl => match us, hl with | [_, _, _, _], _ => rfl)); (case a => k_is); (case l => k_is); (case c => k_is); (case k => k_is))
    (case D_law_missed_by => (refine' Dx.df_mk KX G ?a ?l ?c ?k (fun _ _ _ _ _ _ us hl => match us, hl with | [_, _, _], _ => rfl)); (case a => k_is); (case l => k_is); (case c => k_is); (case k => k_is))
    (case D_law_served => (refine' Dx.df_mk KX G ?a ?l ?c ?k (fun _ _ _ _ _ _ us hl => match us, hl with | [_], _ => rfl)); (case a => k_is); (case l => k_is); (case c => k_is); (case k => k_is))
    (case D_law_asked => (refine' Dx.df_mk KX G ?a ?l ?c ?k (fun _ _ _ _ _ _ us hl => match us, hl with | [_, _], _ => rfl)); (case a => k_is); (case l => k_is); (case c => k_is); (case k => k_is))
    (case D_law_purse => (refine' Dx.df_mk KX G ?a ?l ?c ?k (fun _ _ _ _ _ _ us hl => match us, hl with | [_, _], _ => rfl)); (case a => k_is); (case l => k_is); (case c => k_is); (case k => k_is))
    (case D_law_two => (refine' Dx.df_mk KX G ?a ?l ?c ?k (fun _ _ _ _ _ _ us hl => match us, hl with | [_], _ => rfl)); (case a => k_is); (case l => k_is); (case c => k_is); (case k => k_is))
    (case ht => (refine' Dx.tabIn_of (st := K48.s_needs_apart) ?a ?l ?lc ?hv); (case a => k_is); (case l => k_is); (case lc => k_is); (case hv => rfl))
    (case nT => rfl)
#print axioms PySem.Challenge.cw_stillwritten_k48_whole_details_behind_al_holds
