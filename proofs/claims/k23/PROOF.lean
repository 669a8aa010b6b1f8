import PyProof.Rows.All
import Wide.All
import OpenK.AllK
import Wide.FinOn
import HandS.ForMost
import HandS.ForExc
import HandS.Walk
import HandS.Wide
import HandS.Style
import HandS.Deep
import HandS.IsInst
import HandS.Zip
import HandS.TupAny
import HandS.CallSlots
import HandS.Lambda
import HandS.HeadHook2
import HandS.HeadHook4
import HandS.ExcCtx
import HandS.HotCalls
import HandS.SuiteRaise
import HandS.EndBits
import PyProof.MaxThree
import HandS.Head0
import HandS.Head1
import HandS.Head2
import HandS.HeadEnd
import HandS.HeadHook1
import HandS.EndTab
import HandS.HeadWalk
import HandS.WordsExc
import KE.KStateDown
import HandS.Hot
import HandS.ExcIs
import HandS.MapJoin
import HandS.TryOnly
import HandS.List
import HandS.SortInts
import HandS.Conv
import HandS.Iter
import PyProof.Draws
import PyProof.EnumMake
import HandS.TupMul
import HandS.SetFor
import HandS.TupSets
import PySem.Challenge.RW_leapchains_k23_whole_three_calendars
set_option Elab.async false
set_option linter.all false
set_option maxRecDepth 100000
set_option maxHeartbeats 4000000
/-! Q1: data of any depth as pure values over the hand layer: outcomes, environments, the state's reading. -/
namespace QL
open PySem PySem.Spec PyProof.Rows L2

abbrev Sg := L2.St
abbrev D := PyData
/-- an exception by its class's name, with the limit that it may bear -/
structure Ex where
  c : Str
  lim : Option Int
/-- an outcome: no answer (out of the model's reach, or a way that is not walked), a value, an exception -/
inductive R (α : Type) where
  | stuck
  | ok (a : α)
  | err (x : Ex)
/-- what a slot holds: nothing told, data, a list of the frame's own -/
inductive Sl where
  | no
  | im (d : D)
  | mu (ds : List D)
abbrev Rho := List Sl
def M (α : Type) := Rho → R (α × Rho)

/-! ### tables of code objects may grow -/
/-- the tables of code objects that a law's lambdas go into: a table, the lambdas' qualified name -/
class LawTabs where
  tabs : List (Addr × Str)
/-- they tell only code objects of that name -/
def TabL [LawTabs] (K : PySem.W.Frag) (H : Hp) : Prop := LamX.Tabs LawTabs.tabs H
variable [LawTabs]
/-- no table -/
def NT (o : HO) : Prop := ∀ ps, o ≠ .tbl ps
/-- an object stands at b, no table -/
def Trk (H : Hp) (b : Addr) : Prop := ∃ o, H b = some o ∧ NT o
theorem Trk.ne {H : Hp} {b : Addr} (h : Trk H b) : H b ≠ none := fun z => by
  obtain ⟨o, e, _⟩ := h
  rw [e] at z
  cases z
/-- all but what N tells and the tables stays; tables stay such -/
structure SameX (N : Addr → Prop) (H H' : Hp) : Prop where
  keep : ∀ b o, ¬ N b → NT o → H b = some o → H' b = some o
  trk : ∀ b, Trk H b → Trk H' b
  tab : LamX.Tabs LawTabs.tabs H → LamX.Tabs LawTabs.tabs H'
abbrev SameT (H H' : Hp) : Prop := SameX (fun _ => False) H H'
theorem Same.trk {H H' : Hp} (e : Same H H') (b : Addr) (h : Trk H b) : Trk H' b := by
  obtain ⟨o, h, nt⟩ := h
  exact ⟨o, e b o h, nt⟩
theorem SameX.of {N : Addr → Prop} {H H' : Hp} (e : Same H H') : SameX N H H' := ⟨fun b o _ _ h => e b o h, Same.trk e, fun t => t.ext e⟩
theorem SameX.refl {N : Addr → Prop} {H : Hp} : SameX N H H := .of (Same.refl H)
theorem SameX.le {N M : Addr → Prop} {H H' : Hp} (e : SameX N H H') (h : ∀ b, N b → M b) : SameX M H H' := ⟨fun b o n nt hb => e.keep b o (fun z => n (h b z)) nt hb, e.trk, e.tab⟩
theorem SameT.any {N : Addr → Prop} {H H' : Hp} (e : SameT H H') : SameX N H H' := e.le fun _ z => z.elim
theorem SameX.trans {N : Addr → Prop} {H H1 H2 : Hp} (a : SameX N H H1) (b : SameX N H1 H2) : SameX N H H2 := ⟨fun c o n nt h => b.keep c o n nt (a.keep c o n nt h), fun c h => b.trk c (a.trk c h), fun t => b.tab (a.tab t)⟩
theorem SameX.tabL {K : PySem.W.Frag} {N : Addr → Prop} {H H' : Hp} (e : SameX N H H') (t : TabL K H) : TabL K H' := e.tab t
theorem nt_lst {xs : List V} : NT (.lst xs) := fun _ z => by cases z
theorem nt_tup {xs : List V} : NT (.tup xs) := fun _ z => by cases z
/-- a change of one list -/
theorem SameX.one {l : Addr} {xs : List V} {H H' : Hp} (hl : H l = some (.lst xs)) (k : ∀ b o, b ≠ l → H b = some o → H' b = some o) (ht : Trk H' l) : SameX (fun b => b = l) H H' :=
  ⟨fun b o n _ h => k b o n h, fun b h => by
    by_cases e : b = l
    · rw [e]; exact ht
    · obtain ⟨o, h, nt⟩ := h
      exact ⟨o, k b o e h, nt⟩, fun t p hp => by
    obtain ⟨ps, h1, h2, h3⟩ := t p hp
    exact ⟨ps, k _ _ (fun z => by rw [z, hl] at h1; cases h1) h1, h2, fun pos cv hc => by
      obtain ⟨c, e1, e2⟩ := h3 pos cv hc
      exact ⟨c, e1, k _ _ (fun z => by rw [z, hl] at e2; unfold LamX.CodeO at e2; cases e2) e2⟩⟩⟩
/-! ### hidden addresses -/
noncomputable def hid (H : Hp) (O : Addr → Prop) : Hp := fun a => open Classical in if O a ∨ ∃ ps, H a = some (.tbl ps) then none else H a
theorem hid_some {H : Hp} {O : Addr → Prop} {a : Addr} {o : HO} : hid H O a = some o ↔ ¬ O a ∧ H a = some o ∧ NT o := by
  unfold hid
  by_cases h : O a ∨ ∃ ps, H a = some (.tbl ps)
  · rw [if_pos h]
    refine ⟨(fun z => nomatch z), fun ⟨h1, h2, h3⟩ => ?_⟩
    rcases h with h | ⟨ps, h⟩
    · exact absurd h h1
    · rw [h2] at h
      exact absurd (Option.some.inj h) (h3 ps)
  · rw [if_neg h]
    exact ⟨fun z => ⟨fun q => h (.inl q), z, fun ps q => h (.inr ⟨ps, by rw [z, q]⟩)⟩, fun z => z.2.1⟩
theorem hid_le {H : Hp} {O : Addr → Prop} : Same (hid H O) H := fun b o h => (hid_some.mp h).2.1
theorem hid_mono {H H' : Hp} {O : Addr → Prop} (e : SameT H H') : Same (hid H O) (hid H' O) := fun b o h => hid_some.mpr ⟨(hid_some.mp h).1, e.keep _ _ id (hid_some.mp h).2.2 (hid_some.mp h).2.1, (hid_some.mp h).2.2⟩
theorem seqT_same {K : PySem.W.Frag} {H H' : Hp} {a : Addr} {xs : List V} (e : Same H H') (h : SqT K H a xs) : SqT K H' a xs := by
  rcases h with (h | ⟨o, h⟩) | h
  · exact .inl (.inl (e _ _ h))
  · exact .inl (.inr ⟨o, e _ _ h⟩)
  · exact .inr h
end QL
namespace L2
open PySem PySem.Spec PyProof.Rows QL
variable [LawTabs]
mutual
theorem Dp.same {K : PySem.W.Frag} {H H' : Hp} (e : Same H H') : ∀ (d : D) (v : V), Dp K H v d → Dp K H' v d
  | .none, _, .non => .non
  | .bool _, _, .bl _ => .bl _
  | .int _, _, .int _ => .int _
  | .str _, _, .str _ => .str _
  | .list ds, _, .lst hs ha => .lst (e.seq hs) (DpAll.same e ds _ ha)
  | .tuple ds, _, .tup hs ha => .tup (seqT_same e hs) (DpAll.same e ds _ ha)
theorem DpAll.same {K : PySem.W.Frag} {H H' : Hp} (e : Same H H') : ∀ (ds : List D) (vs : List V), DpAll K H vs ds → DpAll K H' vs ds
  | [], _, .nil => .nil
  | d :: ds, _, .cons h1 h2 => .cons (Dp.same e d _ h1) (DpAll.same e ds _ h2)
end
section
variable {K : PySem.W.Frag} {H : Hp}
theorem DpAll.length : ∀ {ds : List D} {vs : List V}, DpAll K H vs ds → vs.length = ds.length
  | [], _, .nil => rfl
  | d :: ds, _, .cons h1 h2 => congrArg (· + 1) (DpAll.length h2)
theorem DpAll.append : ∀ {ds es : List D} {vs ws : List V}, DpAll K H vs ds → DpAll K H ws es → DpAll K H (vs ++ ws) (ds ++ es)
  | [], _, _, _, .nil, h => h
  | d :: ds, _, _, _, .cons h1 h2, h => .cons h1 (DpAll.append h2 h)
theorem DpAll.get : ∀ {ds : List D} {vs : List V} {i : Nat} {d : D}, DpAll K H vs ds → ds[i]? = some d → ∃ v, vs[i]? = some v ∧ Dp K H v d
  | [], _, _, _, .nil, e => by simp at e
  | d :: ds, _, 0, _, .cons h1 h2, e => by simp at e; subst e; exact ⟨_, rfl, h1⟩
  | d :: ds, _, i + 1, d', .cons h1 h2, e => by
    obtain ⟨v, e1, e2⟩ := DpAll.get (i := i) h2 (by simpa using e)
    exact ⟨v, by simpa using e1, e2⟩
theorem DpAll.getV : ∀ {ds : List D} {vs : List V} {i : Nat} {v : V}, DpAll K H vs ds → vs[i]? = some v → ∃ d, ds[i]? = some d ∧ Dp K H v d
  | [], _, _, _, .nil, e => by simp at e
  | d :: ds, _, 0, _, .cons h1 h2, e => by simp at e; subst e; exact ⟨_, rfl, h1⟩
  | d :: ds, _, i + 1, v', .cons h1 h2, e => by
    obtain ⟨v, e1, e2⟩ := DpAll.getV (i := i) h2 (by simpa using e)
    exact ⟨v, by simpa using e1, e2⟩
theorem DpAll.take : ∀ {ds : List D} {vs : List V} (n : Nat), DpAll K H vs ds → DpAll K H (vs.take n) (ds.take n)
  | _, _, 0, _ => by simp; exact .nil
  | [], _, n + 1, .nil => .nil
  | d :: ds, _, n + 1, .cons h1 h2 => .cons h1 (DpAll.take n h2)
theorem DpAll.drop : ∀ {ds : List D} {vs : List V} (n : Nat), DpAll K H vs ds → DpAll K H (vs.drop n) (ds.drop n)
  | _, _, 0, h => h
  | [], _, n + 1, .nil => .nil
  | d :: ds, _, n + 1, .cons h1 h2 => DpAll.drop n h2
theorem DpAll.reverse : ∀ {ds : List D} {vs : List V}, DpAll K H vs ds → DpAll K H vs.reverse ds.reverse
  | [], _, .nil => .nil
  | d :: ds, _, .cons h1 h2 => by
    rw [List.reverse_cons, List.reverse_cons]
    exact DpAll.append (DpAll.reverse h2) (.cons h1 .nil)
theorem DpAll.set : ∀ {ds : List D} {vs : List V} {d : D} {v : V} (i : Nat), DpAll K H vs ds → Dp K H v d → DpAll K H (vs.set i v) (ds.set i d)
  | [], _, _, _, _, .nil, _ => .nil
  | _ :: ds, _, _, _, 0, .cons h1 h2, h => .cons h h2
  | _ :: ds, _, _, _, i + 1, .cons h1 h2, h => .cons h1 (DpAll.set i h2 h)
theorem DpAll.mk : ∀ {ds : List D} {vs : List V}, vs.length = ds.length → (∀ (i : Nat) v d, vs[i]? = some v → ds[i]? = some d → Dp K H v d) → DpAll K H vs ds
  | [], [], _, _ => .nil
  | [], _ :: _, e, _ => by simp at e
  | _ :: _, [], e, _ => by simp at e
  | d :: ds, v :: vs, e, h => .cons (h 0 v d rfl rfl) (DpAll.mk (by simpa using e) fun i v d h1 h2 => h (i + 1) v d (by simpa using h1) (by simpa using h2))
theorem DpAll.ints : ∀ {ns : List Int} {vs : List V}, DpAll K H vs (ns.map PyData.int) → vs = ns.map V.int
  | [], _, .nil => rfl
  | n :: ns, _, .cons h1 h2 => by
    cases h1
    rw [DpAll.ints h2] <;> rfl
theorem DpAll.ofInts : ∀ (ns : List Int), DpAll K H (ns.map V.int) (ns.map PyData.int)
  | [] => .nil
  | n :: ns => .cons (.int n) (DpAll.ofInts ns)
theorem DpAll.bls : ∀ {ns : List Bool} {vs : List V}, DpAll K H vs (ns.map PyData.bool) → vs = ns.map V.bl
  | [], _, .nil => rfl
  | n :: ns, _, .cons h1 h2 => by
    cases h1
    rw [DpAll.bls h2] <;> rfl
/-- a new list, a new tuple -/
theorem Dp.newL {O : Addr → Prop} {p : Addr} {xs : List V} {ds : List D} (hO : ∀ b, O b → Trk H b) (hp : H p = none) (h : DpAll K (hid H O) xs ds) : Dp K (hid (upd H p (.lst xs)) O) (.ref p) (.list ds) := by
  have e : Same H (upd H p (.lst xs)) := fun b o q => by rw [upd_ne (ne_of_none q hp)]; exact q
  exact .lst (.inl (.inl (hid_some.mpr ⟨fun z => (hO p z).ne hp, upd_same, nt_lst⟩))) (DpAll.same (hid_mono (.of e)) _ _ h)
theorem Dp.newT {O : Addr → Prop} {p : Addr} {xs : List V} {ds : List D} (hO : ∀ b, O b → Trk H b) (hp : H p = none) (h : DpAll K (hid H O) xs ds) : Dp K (hid (upd H p (.tup xs)) O) (.ref p) (.tuple ds) := by
  have e : Same H (upd H p (.tup xs)) := fun b o q => by rw [upd_ne (ne_of_none q hp)]; exact q
  exact .tup (.inl (.inl (hid_some.mpr ⟨fun z => (hO p z).ne hp, upd_same, nt_tup⟩))) (DpAll.same (hid_mono (.of e)) _ _ h)
theorem same_new {p : Addr} {o : HO} (hp : H p = none) : Same H (upd H p o) := fun b o q => by rw [upd_ne (ne_of_none q hp)]; exact q
end

end L2
namespace QL
open PySem PySem.Spec PyProof.Rows L2
variable [LawTabs]
/-! ### the state's reading -/
/-- b is a list of the frame's own -/
def Own (ρ : Rho) (σ : Sg) (b : Addr) : Prop := ∃ (i : Nat) (ds : List D), ρ[i]? = some (Sl.mu ds) ∧ σ[i]? = some (some (V.ref b))
def hd (O : Addr → Prop) (ρ : Rho) (σ : Sg) : Addr → Prop := fun b => Own ρ σ b ∨ O b
structure Rep (K : PySem.W.Frag) (O : Addr → Prop) (ρ : Rho) (σ : Sg) (H : Hp) : Prop where
  len : ρ.length = σ.length
  im : ∀ (i : Nat) (d : D), ρ[i]? = some (.im d) → ∃ v, σ[i]? = some (some v) ∧ Dp K (hid H (hd O ρ σ)) v d
  mu : ∀ (i : Nat) (ds : List D), ρ[i]? = some (.mu ds) → ∃ l xs, σ[i]? = some (some (.ref l)) ∧ H l = some (.lst xs) ∧ DpAll K (hid H (hd O ρ σ)) xs ds
  inj : ∀ (i j : Nat) (ds es : List D) (l : Addr), ρ[i]? = some (.mu ds) → ρ[j]? = some (.mu es) → σ[i]? = some (some (.ref l)) → σ[j]? = some (some (.ref l)) → i = j
  ap : ∀ b, Own ρ σ b → ¬ O b
  tr : ∀ b, O b → Trk H b
  tb : TabL K H
theorem Rep.trk {K : PySem.W.Frag} {O : Addr → Prop} {ρ : Rho} {σ : Sg} {H : Hp} (r : Rep K O ρ σ H) : ∀ b, hd O ρ σ b → Trk H b := fun b h => by
  rcases h with ⟨i, ds, h1, h2⟩ | h
  · obtain ⟨l, xs, h3, h4, _⟩ := r.mu i ds h1
    rw [h2] at h3
    cases h3
    exact ⟨_, h4, nt_lst⟩
  · exact r.tr b h
/-- what has become of the state: P the slots that stay -/
structure Ext (P : List Nat) (ρ : Rho) (σ : Sg) (H : Hp) (ρ' : Rho) (σ' : Sg) (H' : Hp) : Prop where
  keep : ∀ b o, ¬ Own ρ σ b → NT o → H b = some o → H' b = some o
  own : ∀ b, Own ρ' σ' b → Own ρ σ b ∨ ¬ Trk H b
  trk : ∀ b, Trk H b → Trk H' b
  par : ∀ i ∈ P, σ'[i]? = σ[i]?
  len : σ'.length = σ.length
  tab : LamX.Tabs LawTabs.tabs H → LamX.Tabs LawTabs.tabs H'
section
variable {K : PySem.W.Frag} {O : Addr → Prop} {P : List Nat} {ρ ρ1 ρ2 : Rho} {σ σ1 σ2 : Sg} {H H1 H2 : Hp}
theorem Ext.refl : Ext P ρ σ H ρ σ H := ⟨fun _ _ _ _ h => h, fun _ h => .inl h, fun _ h => h, fun _ _ => rfl, rfl, fun h => h⟩
theorem Ext.sx (a : Ext P ρ σ H ρ1 σ1 H1) : SameX (Own ρ σ) H H1 := ⟨a.keep, a.trk, a.tab⟩
theorem Ext.trans (a : Ext P ρ σ H ρ1 σ1 H1) (b : Ext P ρ1 σ1 H1 ρ2 σ2 H2) : Ext P ρ σ H ρ2 σ2 H2 := by
  have nown : ∀ c o, ¬ Own ρ σ c → NT o → H c = some o → ¬ Own ρ1 σ1 c := fun c o hn nt hc hw => by
    rcases a.own c hw with z | z
    · exact hn z
    · exact z ⟨o, hc, nt⟩
  refine ⟨fun c o hn nt hc => b.keep c o (nown c o hn nt hc) nt (a.keep c o hn nt hc), fun c hw => ?_, fun c hc => b.trk c (a.trk c hc), fun i hi => (b.par i hi).trans (a.par i hi), b.len.trans a.len, fun t => b.tab (a.tab t)⟩
  rcases b.own c hw with z | z
  · exact a.own c z
  · exact .inr fun t => z (a.trk c t)
theorem Ext.same (a : Ext P ρ σ H ρ1 σ1 H1) : Same (hid H (hd O ρ σ)) (hid H1 (hd O ρ1 σ1)) := fun b o h => by
  obtain ⟨h1, h2, nt⟩ := hid_some.mp h
  have hn : ¬ Own ρ σ b := fun z => h1 (.inl z)
  refine hid_some.mpr ⟨fun z => ?_, a.keep b o hn nt h2, nt⟩
  rcases z with z | z
  · rcases a.own b z with q | q
    · exact hn q
    · exact q ⟨o, h2, nt⟩
  · exact h1 (.inr z)
theorem Ext.of_same (e : SameT H H1) : Ext P ρ σ H ρ σ H1 := ⟨fun b o _ nt h => e.keep b o id nt h, fun b h => .inl h, e.trk, fun _ _ => rfl, rfl, e.tab⟩
theorem Rep.same (r : Rep K O ρ σ H) (e : SameT H H1) : Rep K O ρ σ H1 := by
  refine ⟨r.len, fun i d h => ?_, fun i ds h => ?_, r.inj, r.ap, fun b h => (Ext.of_same (P := []) (ρ := ρ) (σ := σ) e).trk b (r.tr b h), e.tabL r.tb⟩
  · obtain ⟨v, h1, h2⟩ := r.im i d h
    exact ⟨v, h1, Dp.same (hid_mono e) _ _ h2⟩
  · obtain ⟨l, xs, h1, h2, h3⟩ := r.mu i ds h
    exact ⟨l, xs, h1, e.keep _ _ id nt_lst h2, DpAll.same (hid_mono e) _ _ h3⟩
end

/-! ### outcomes -/
def R.bind {α β : Type} (a : R α) (k : α → R β) : R β :=
  match a with
  | .stuck => .stuck
  | .ok x => k x
  | .err e => .err e
def M.pure {α : Type} (a : α) : M α := fun ρ => .ok (a, ρ)
def M.bind {α β : Type} (a : M α) (k : α → M β) : M β := fun ρ =>
  match a ρ with
  | .stuck => .stuck
  | .ok (x, ρ1) => k x ρ1
  | .err e => .err e
/-- an outcome without a state -/
def M.lift {α : Type} (r : R α) : M α := fun ρ =>
  match r with
  | .stuck => .stuck
  | .ok x => .ok (x, ρ)
  | .err e => .err e
def M.stuck {α : Type} : M α := fun _ => .stuck
def R.guard {α : Type} (c : Prop) [Decidable c] (r : R α) : R α := if c then r else .stuck
/-- what an outcome wants of what follows -/
def RP {α : Type} (r : R (α × Rho)) (k : α → Rho → Prop) (e : Ex → Prop) : Prop :=
  match r with
  | .stuck => False
  | .ok (a, ρ) => k a ρ
  | .err x => e x
theorem RP.bind {α β : Type} {a : M α} {f : α → M β} {ρ : Rho} {k : β → Rho → Prop} {e : Ex → Prop} (h : RP (M.bind a f ρ) k e) : RP (a ρ) (fun x ρ1 => RP (f x ρ1) k e) e := by
  unfold RP at h ⊢
  unfold M.bind at h
  cases q : a ρ with
  | stuck => rw [q] at h; exact h
  | err x => rw [q] at h; exact h
  | ok x => rw [q] at h; exact h
theorem RP.mono {α : Type} {r : R (α × Rho)} {k k' : α → Rho → Prop} {e e' : Ex → Prop} (h : RP r k e) (hk : ∀ a ρ, k a ρ → k' a ρ) (he : ∀ x, e x → e' x) : RP r k' e' := by
  unfold RP at h ⊢
  cases r with
  | stuck => exact h
  | ok x => exact hk _ _ h
  | err x => exact he _ h
theorem RP.lift {α : Type} {r : R α} {ρ : Rho} {k : α → Rho → Prop} {e : Ex → Prop} (h : RP (M.lift r ρ) k e) : (∃ a, r = .ok a ∧ k a ρ) ∨ (∃ x, r = .err x ∧ e x) := by
  unfold M.lift RP at h
  cases r with
  | stuck => exact h.elim
  | ok x => exact .inl ⟨x, rfl, h⟩
  | err x => exact .inr ⟨x, rfl, h⟩

/-! ### readings -/
/-- how an exception lies: its class by the module's name, its own dict where it has one -/
def ErrAt (K : PySem.W.Frag) (cls : Value) (od : Option Addr) (H : Hp) (x : Ex) : Prop :=
  cls = .ref (He.ga K x.c) ∧ match x.lim with
    | none => od = none
    | some n => ∃ d, od = some d ∧ H d = some (.xd [("limit", .int n)])
/-- what is wanted where an exception x leaves from the state (ρ, σ, H) -/
def ErrK (K : PySem.W.Frag) (W : XK) (ρ : Rho) (σ : Sg) (H : Hp) (x : Ex) : Prop :=
  ∀ cls od H', ErrAt K cls od H' x → SameX (Own ρ σ) H H' → W cls od H'
theorem ErrK.back {K : PySem.W.Frag} {W : XK} {P : List Nat} {ρ ρ1 : Rho} {σ σ1 : Sg} {H H1 : Hp} {x : Ex} (h : ErrK K W ρ σ H x) (a : Ext P ρ σ H ρ1 σ1 H1) : ErrK K W ρ1 σ1 H1 x := fun cls od H' he k => by
  refine h cls od H' he ⟨fun b o hn nt hb => k.keep b o (fun z => ?_) nt (a.keep b o hn nt hb), fun b hb => k.trk b (a.trk b hb), fun t => k.tab (a.tab t)⟩
  rcases a.own b z with q | q
  · exact hn q
  · exact q ⟨o, hb, nt⟩
/-- an expression that gives f -/
def tE (K : PySem.W.Frag) (O : Addr → Prop) (W : XK) (f : M D) : TE := fun σ H Q => ∃ ρ, Rep K O ρ σ H ∧
  RP (f ρ) (fun d ρ' => ∀ v H', Rep K O ρ' σ H' → Ext [] ρ σ H ρ' σ H' → Dp K (hid H' (hd O ρ' σ)) v d → Q v H') (ErrK K W ρ σ H)
/-- a test -/
def tT (K : PySem.W.Frag) (O : Addr → Prop) (W : XK) (f : M Bool) : TT := fun σ H Q => ∃ ρ, Rep K O ρ σ H ∧
  RP (f ρ) (fun b ρ' => ∀ H', Rep K O ρ' σ H' → Ext [] ρ σ H ρ' σ H' → Q b H') (ErrK K W ρ σ H)
/-- arguments -/
def tA (K : PySem.W.Frag) (O : Addr → Prop) (W : XK) (f : M (List D)) : TA := fun σ H Q => ∃ ρ, Rep K O ρ σ H ∧
  RP (f ρ) (fun ds ρ' => ∀ vs H', Rep K O ρ' σ H' → Ext [] ρ σ H ρ' σ H' → DpAll K (hid H' (hd O ρ' σ)) vs ds → Q vs H') (ErrK K W ρ σ H)
/-- how a statement ends -/
inductive Out where
  | nx | bk | ct
  | ret (d : D)
  /-- a new list handed back -/
  | rto (ds : List D)
def OutK (K : PySem.W.Frag) (O : Addr → Prop) (P : List Nat) (E : Ends) (ρ : Rho) (σ : Sg) (H : Hp) (o : Out) (ρ' : Rho) : Prop :=
  match o with
  | .nx => ∀ σ' H', Rep K O ρ' σ' H' → Ext P ρ σ H ρ' σ' H' → E.nx σ' H'
  | .bk => ∀ σ' H', Rep K O ρ' σ' H' → Ext P ρ σ H ρ' σ' H' → E.bk σ' H'
  | .ct => ∀ σ' H', Rep K O ρ' σ' H' → Ext P ρ σ H ρ' σ' H' → E.ct σ' H'
  | .ret d => ∀ v σ' H', Rep K O ρ' σ' H' → Ext P ρ σ H ρ' σ' H' → Dp K (hid H' (hd O ρ' σ')) v d → E.rt v H'
  | .rto ds => ∀ p xs σ' H', Rep K O ρ' σ' H' → Ext P ρ σ H ρ' σ' H' → ¬ Trk H p → ¬ Own ρ' σ' p → ¬ O p → H' p = some (.lst xs) → DpAll K (hid H' fun b => hd O ρ' σ' b ∨ b = p) xs ds → E.rt (.ref p) H'
/-- a statement that does S -/
def tS (K : PySem.W.Frag) (O : Addr → Prop) (P : List Nat) (W : XK) (S : M Out) : TS := fun E σ H => ∃ ρ, Rep K O ρ σ H ∧ RP (S ρ) (OutK K O P E ρ σ H) (ErrK K W ρ σ H)

end QL
namespace L2
open PySem PySem.Spec PyProof.Rows QL
variable [LawTabs]
theorem PE.weak {X : Cx} {e : Expr} {t t' : TE} (h : PE X e t) (w : ∀ σ H Q, t' σ H Q → t σ H Q) : PE X e t' := ⟨fun pins s σ H Q I q => h.run pins s σ H Q I (w _ _ _ q)⟩
theorem PT.weak {X : Cx} {e : Expr} {t t' : TT} (h : PT X e t) (w : ∀ σ H Q, t' σ H Q → t σ H Q) : PT X e t' := ⟨fun pins s σ H Q I q => h.run pins s σ H Q I (w _ _ _ q)⟩
theorem PA.weak {X : Cx} {e : List Expr} {t t' : TA} (h : PA X e t) (w : ∀ σ H Q, t' σ H Q → t σ H Q) : PA X e t' := ⟨fun pos pins s σ H Q I q => h.run pos pins s σ H Q I (w _ _ _ q)⟩
theorem PS.weak {X : Cx} {e : Stmt} {t t' : TS} (h : PS X e t) (w : ∀ E σ H, t' E σ H → t E σ H) : PS X e t' := ⟨fun pins s σ H E I q => h.run pins s σ H E I (w _ _ _ q)⟩
theorem PSs.weak {X : Cx} {e : List Stmt} {t t' : TS} (h : PSs X e t) (w : ∀ E σ H, t' E σ H → t E σ H) : PSs X e t' := ⟨fun pins s σ H E I q => h.run pins s σ H E I (w _ _ _ q)⟩
theorem PI.weak {X : Cx} {tg e : Expr} {t t' : TI} (h : PI X tg e t) (w : ∀ σ H Q, t' σ H Q → t σ H Q) : PI X tg e t' := ⟨fun pins s σ H R I q => h.run pins s σ H R I (w _ _ _ q)⟩
theorem PG.weak {X : Cx} {e : Expr} {t t' : TG} (h : PG X e t) (w : ∀ v σ H Q, t' v σ H Q → t v σ H Q) : PG X e t' := ⟨fun pins s σ H v u Q I r q => h.run pins s σ H v u Q I r (w _ _ _ _ q)⟩

end L2
namespace QL
open PySem PySem.Spec PyProof.Rows L2
variable [LawTabs]
/-- e gives f, whatever is hidden, whatever is wanted of exceptions that X takes -/
def QE (X : Cx) (W : XK) (e : Expr) (f : M D) : Prop := ∀ O, PE X e (tE X.K O W f)
def QT (X : Cx) (W : XK) (e : Expr) (f : M Bool) : Prop := ∀ O, PT X e (tT X.K O W f)
def QA (X : Cx) (W : XK) (es : List Expr) (f : M (List D)) : Prop := ∀ O, PA X es (tA X.K O W f)
def QS (X : Cx) (P : List Nat) (W : XK) (st : Stmt) (S : M Out) : Prop := ∀ O, PS X st (tS X.K O P W S)
def QSs (X : Cx) (P : List Nat) (W : XK) (st : List Stmt) (S : M Out) : Prop := ∀ O, PSs X st (tS X.K O P W S)

/-! ### two in a row -/
section
variable {K : PySem.W.Frag} {O : Addr → Prop} {W : XK}
theorem tE.bind {a : M D} {f : D → M D} {σ : Sg} {H : Hp} {Q : VK} (h : tE K O W (M.bind a f) σ H Q) :
    tE K O W a σ H fun v H1 => ∃ d ρ1, Rep K O ρ1 σ H1 ∧ Dp K (hid H1 (hd O ρ1 σ)) v d ∧ RP (f d ρ1) (fun d' ρ' => ∀ v' H', Rep K O ρ' σ H' → Ext [] ρ1 σ H1 ρ' σ H' → Dp K (hid H' (hd O ρ' σ)) v' d' → Q v' H') (ErrK K W ρ1 σ H1) := by
  obtain ⟨ρ, r, h⟩ := h
  refine ⟨ρ, r, RP.mono (RP.bind h) (fun d ρ1 q v H1 r1 e1 dp => ⟨d, ρ1, r1, dp, RP.mono q (fun d' ρ' q' v' H' r' e' dp' => q' v' H' r' (e1.trans e') dp') fun x q' => ErrK.back q' e1⟩) fun x q => q⟩
end
end QL
set_option Elab.async false
set_option linter.all false
set_option maxRecDepth 100000
set_option maxHeartbeats 4000000
/-! Q2: operators on data. -/
namespace QL
open PySem PySem.Spec PyProof.Rows L2
variable [LawTabs]

def M.opt {α : Type} (o : Option α) : M α := fun ρ => match o with | none => .stuck | some x => .ok (x, ρ)
theorem RP.opt {α : Type} {o : Option α} {ρ : Rho} {k : α → Rho → Prop} {e : Ex → Prop} (h : RP (M.opt o ρ) k e) : ∃ a, o = some a ∧ k a ρ := by
  unfold M.opt RP at h
  cases o with
  | none => exact h.elim
  | some x => exact ⟨x, rfl, h⟩

/-- what an operation on data hands back: z, in a heap that has grown -/
def HasV (K : PySem.W.Frag) (O : Addr → Prop) (z : D) (H : Hp) (Q : VK) : Prop := ∀ v H', SameT H H' → Dp K (hid H' O) v z → Q v H'
def rD (K : PySem.W.Frag) (O : Addr → Prop) (g : D → D → Option D) : R2 := fun x y H Q => ∃ d e z, Dp K (hid H O) x d ∧ Dp K (hid H O) y e ∧ (∀ b, O b → Trk H b) ∧ g d e = some z ∧ HasV K O z H Q
/-- a comparison -/
def rB (K : PySem.W.Frag) (O : Addr → Prop) (g : D → D → Option Bool) : R2 := fun x y H Q => ∃ d e z, Dp K (hid H O) x d ∧ Dp K (hid H O) y e ∧ (∀ b, O b → Trk H b) ∧ g d e = some z ∧ Q (.bl z) H
def rC (K : PySem.W.Frag) (O : Addr → Prop) (g : List D → Option D) : List V → Hp → VK → Prop := fun vs H Q => ∃ ds z, DpAll K (hid H O) vs ds ∧ (∀ b, O b → Trk H b) ∧ g ds = some z ∧ HasV K O z H Q
section
variable {K : PySem.W.Frag} {O : Addr → Prop} {H : Hp} {Q : VK}
theorem HasV.now {z : D} {v : V} (h : HasV K O z H Q) (d : Dp K (hid H O) v z) : Q v H := h v H .refl d
theorem HasV.newL {ds : List D} {xs : List V} (h : HasV K O (.list ds) H Q) (hO : ∀ b, O b → Trk H b) (d : DpAll K (hid H O) xs ds) : ∀ p, H p = none → Q (.ref p) (upd H p (.lst xs)) := fun p hp => h _ _ (.of (same_new hp)) (Dp.newL hO hp d)
theorem HasV.newT {ds : List D} {xs : List V} (h : HasV K O (.tuple ds) H Q) (hO : ∀ b, O b → Trk H b) (d : DpAll K (hid H O) xs ds) : ∀ p, H p = none → Q (.ref p) (upd H p (.tup xs)) := fun p hp => h _ _ (.of (same_new hp)) (Dp.newT hO hp d)
theorem _root_.L2.Dp.int_of {v : V} {i : Int} (h : Dp K H v (.int i)) : v = .int i := by cases h; rfl
theorem _root_.L2.Dp.bl_of {v : V} {i : Bool} (h : Dp K H v (.bool i)) : v = .bl i := by cases h; rfl
theorem _root_.L2.Dp.str_of {v : V} {i : Str} (h : Dp K H v (.str i)) : v = .str i := by cases h; rfl
theorem _root_.L2.Dp.non_of {v : V} (h : Dp K H v .none) : v = .non := by cases h; rfl
theorem _root_.L2.Dp.list_of {v : V} {ds : List D} (h : Dp K H v (.list ds)) : ∃ a xs, v = .ref a ∧ SqL K H a xs ∧ DpAll K H xs ds := by cases h with | lst a b => exact ⟨_, _, rfl, a, b⟩
theorem _root_.L2.Dp.tuple_of {v : V} {ds : List D} (h : Dp K H v (.tuple ds)) : ∃ a xs, v = .ref a ∧ SqT K H a xs ∧ DpAll K H xs ds := by cases h with | tup a b => exact ⟨_, _, rfl, a, b⟩
theorem _root_.L2.Dp.unhid {v : V} {d : D} (h : Dp K (hid H O) v d) : Dp K H v d := Dp.same hid_le _ _ h
theorem _root_.L2.DpAll.unhid {v : List V} {d : List D} (h : DpAll K (hid H O) v d) : DpAll K H v d := DpAll.same hid_le _ _ h
end

/-! ### int operators -/
section
variable {X : Cx} {O : Addr → Prop}
def int2 (f : Int → Int → Option Int) : D → D → Option D
  | .int a, .int b => (f a b).map .int
  | _, _ => none
theorem int2_some {f : Int → Int → Option Int} {d e z : D} (h : int2 f d e = some z) : ∃ a b c, d = .int a ∧ e = .int b ∧ f a b = some c ∧ z = .int c := by
  unfold int2 at h
  split at h
  · rename_i a b
    cases q : f a b with
    | none => rw [q] at h; cases h
    | some c => rw [q] at h; cases h; exact ⟨a, b, c, rfl, rfl, q, rfl⟩
  · cases h
theorem opInt {op : Operator} {f : Int → Int → Option Int} (h : ∀ {x y : Int} {c : Int}, f x y = some c → ∃ (C : Int → Int → Prop) (g : Int → Int → Int), C x y ∧ g x y = c ∧ OpR X (binaryOp op) (rI C fun i j => .int (g i j))) : OpR X (binaryOp op) (rD X.K O (int2 f)) := by
  intro pins s σ H x y v u Q I rx ry ⟨d, e, z, hd, he, hO, hg, hq⟩
  obtain ⟨a, b, c, rfl, rfl, hf, rfl⟩ := int2_some hg
  obtain rfl := Dp.int_of hd
  obtain rfl := Dp.int_of he
  obtain ⟨C, g, hc, rfl, o⟩ := h hf
  exact o pins s σ H _ _ v u Q I rx ry ⟨a, b, rfl, rfl, hc, hq.now (.int _)⟩
theorem rI_of0 {g : Int → Int → Int} {op : Operator} (h : OpR X (binaryOp op) (rI0 fun i j => .int (g i j))) : OpR X (binaryOp op) (rI (fun _ _ => True) fun i j => .int (g i j)) := by
  intro pins s σ H x y v u Q I rx ry ⟨i, j, e1, e2, _, q⟩
  exact h pins s σ H x y v u Q I rx ry ⟨i, j, e1, e2, q⟩
def subI (a b : Int) : Option Int := some (a - b)
def mulI (a b : Int) : Option Int := if a.natAbs.log2 + b.natAbs.log2 < 1000000 then some (a * b) else none
def fdivI (a b : Int) : Option Int := if 0 < b ∧ b.natAbs.log2 < 9000 then some (a / b) else if b ≠ 0 ∧ b.natAbs < 1073741824 then some (a.fdiv b) else none
def modI (a b : Int) : Option Int := if 0 < b then some (a % b) else none
def powI (a b : Int) : Option Int := if 0 ≤ b ∧ b ≤ 1000000 ∧ a.natAbs < 2 ^ 64 then some (a ^ b.toNat) else none
theorem op_subD : OpR X (binaryOp .Sub) (rD X.K O (int2 subI)) := opInt fun {x y c} h => ⟨fun _ _ => True, fun i j => i - j, trivial, Option.some.inj h, rI_of0 op_sub⟩
theorem op_fdivD : OpR X (binaryOp .FloorDiv) (rD X.K O (int2 fdivI)) := opInt fun {x y c} h => by
  unfold fdivI at h
  split at h
  · rename_i q
    exact ⟨CDivW, fun i j => i / j, q, Option.some.inj h, op_fdivW⟩
  · split at h
    · rename_i q
      exact ⟨CDivN, fun i j => i.fdiv j, q, Option.some.inj h, op_fdivN⟩
    · cases h
theorem op_modD : OpR X (binaryOp .Mod) (rD X.K O (int2 modI)) := opInt fun {x y c} h => by
  unfold modI at h
  split at h
  · rename_i q
    exact ⟨fun _ j => 0 < j, fun i j => i % j, q, Option.some.inj h, op_mod⟩
  · cases h
theorem op_powD : OpR X (binaryOp .Pow) (rD X.K O (int2 powI)) := opInt fun {x y c} h => by
  unfold powI at h
  split at h
  · rename_i q
    exact ⟨CPow, fun i j => i ^ j.toNat, q, Option.some.inj h, op_pow⟩
  · cases h

/-! ### lists by reading -/
/-- a list at a, whatever holds it, + another -/
def rCatS (K : PySem.W.Frag) : R2 := fun x y H Q => ∃ l b xs zs, x = .ref l ∧ y = .ref b ∧ SqL K H l xs ∧ SqL K H b zs ∧ xs.length + zs.length ≤ sizeLine ∧ ∀ p, H p = none → Q (.ref p) (upd H p (.lst (xs ++ zs)))
theorem op_catS : OpR X (binaryOp .Add) (rCatS X.K) := by
  intro pins s σ H x y v u Q I rx ry h
  obtain ⟨l, b, xs, zs, rfl, rfl, hH, hB, hz, q⟩ := h
  cases rx
  cases ry
  obtain ⟨its, r, ⟨⟨c1, dd1, dt1, sl1⟩, n, e, hc, hdn, hdt⟩, z⟩ := I.list hH
  obtain ⟨its2, r2, ⟨⟨c2, dd2, dt2, sl2⟩, n2, e2, hc2, hdn2, hdt2⟩, z2⟩ := I.list hB
  simp only at hc hdn hdt hc2 hdn2 hdt2
  subst hc hdn hdt hc2 hdn2 hdt2
  have hl := r.length
  have hl2 := r2.length
  have ea : its.toArray ++ its2.toArray = (its ++ its2).toArray := by simp
  refine concat_meets ⟨_, e, rfl⟩ ⟨_, e2, rfl⟩ noFill_list_add seq_list_add F.slot_list_add F.entry_list_add (F.args_list_add_2 _ _)
    (list_addW l b its.toArray its2.toArray n n2 none none sl1 sl2 (by rw [List.size_toArray, List.size_toArray]; omega)) ⟨e, e2, ?_⟩
  rw [ea]
  exact ⟨.ref _, _, I.lnew (t' := s.toks) (r.append r2) (by rw [List.length_append]; omega), rfl, q _ I.fresh⟩
end

def addD : D → D → Option D
  | .int a, .int b => some (.int (a + b))
  | .str a, .str b => if a.length + b.length ≤ sizeLine then some (.str (a ++ b)) else none
  | .list a, .list b => if a.length + b.length ≤ sizeLine then some (.list (a ++ b)) else none
  | .tuple a, .tuple b => if a.length + b.length ≤ sizeLine then some (.tuple (a ++ b)) else none
  | _, _ => none
section
variable {X : Cx} {O : Addr → Prop}
theorem op_addD : OpR X (binaryOp .Add) (rD X.K O addD) := by
  intro pins s σ H x y v u Q I rx ry ⟨d, e, z, hd, he, hO, hg, hq⟩
  unfold addD at hg
  split at hg
  · cases hg
    obtain rfl := Dp.int_of hd
    obtain rfl := Dp.int_of he
    exact op_add pins s σ H _ _ v u Q I rx ry ⟨_, _, rfl, rfl, hq.now (.int _)⟩
  · split at hg
    · rename_i hz
      cases hg
      obtain rfl := Dp.str_of hd
      obtain rfl := Dp.str_of he
      exact op_add_str pins s σ H _ _ v u Q I rx ry ⟨_, _, rfl, rfl, hz, hq.now (.str _)⟩
    · cases hg
  · split at hg
    · rename_i hz
      cases hg
      obtain ⟨a, xs, rfl, h1, h2⟩ := Dp.list_of hd
      obtain ⟨b, ys, rfl, h3, h4⟩ := Dp.list_of he
      exact op_catS pins s σ H _ _ v u Q I rx ry ⟨a, b, xs, ys, rfl, rfl, hid_le.seq h1, hid_le.seq h3, by rw [h2.length, h4.length]; exact hz, hq.newL hO (h2.append h4)⟩
    · cases hg
  · split at hg
    · rename_i hz
      cases hg
      obtain ⟨a, xs, rfl, h1, h2⟩ := Dp.tuple_of hd
      obtain ⟨b, ys, rfl, h3, h4⟩ := Dp.tuple_of he
      refine op_catA pins s σ H _ _ v u Q I rx ry ⟨a, b, xs, ys, rfl, rfl, seqT_same hid_le h1, seqT_same hid_le h3, by rw [h2.length, h4.length]; exact hz, fun e => ?_, fun _ e => ?_, fun _ _ => hq.newT hO (h2.append h4)⟩
      · subst e
        cases h2
        exact hq.now (.tup h3 h4)
      · subst e
        cases h4
        rw [List.append_nil] at hq
        exact hq.now (.tup h1 h2)
    · cases hg
  · cases hg
def mulD : D → D → Option D
  | .int a, .int b => if a.natAbs.log2 + b.natAbs.log2 < 1000000 then some (.int (a * b)) else none
  | _, _ => none
theorem op_mulD : OpR X (binaryOp .Mult) (rD X.K O mulD) := by
  intro pins s σ H x y v u Q I rx ry ⟨d, e, z, hd, he, hO, hg, hq⟩
  unfold mulD at hg
  split at hg
  · split at hg
    · rename_i hz
      cases hg
      obtain rfl := Dp.int_of hd
      obtain rfl := Dp.int_of he
      exact op_mulW pins s σ H _ _ v u Q I rx ry ⟨_, _, rfl, rfl, hz, hq.now (.int _)⟩
    · cases hg
  · cases hg
def negD : D → Option D
  | .int a => some (.int (-a))
  | _ => none
def rU (K : PySem.W.Frag) (O : Addr → Prop) (g : D → Option D) : V → Hp → VK → Prop := fun x H Q => ∃ d z, Dp K (hid H O) x d ∧ (∀ b, O b → Trk H b) ∧ g d = some z ∧ HasV K O z H Q
theorem un_negD : UnR X (unaryOp .USub) (QL.rU X.K O negD) := by
  intro pins s σ H x v Q I rx ⟨d, z, hd, hO, hg, hq⟩
  unfold negD at hg
  split at hg
  · cases hg
    obtain rfl := Dp.int_of hd
    exact un_neg pins s σ H _ v Q I rx ⟨_, rfl, hq.now (.int _)⟩
  · cases hg

/-! ### comparisons -/
def cmpI (f : Int → Int → Bool) : D → D → Option Bool
  | .int a, .int b => some (f a b)
  | _, _ => none
theorem opCmp {op : CmpOp} {f : Int → Int → Bool} (h : OpR X (compareOp op) (rI0 fun i j => .bl (f i j))) : OpR X (compareOp op) (rB X.K O (cmpI f)) := by
  intro pins s σ H x y v u Q I rx ry ⟨d, e, z, hd, he, hO, hg, hq⟩
  unfold cmpI at hg
  split at hg
  · cases hg
    obtain rfl := Dp.int_of hd
    obtain rfl := Dp.int_of he
    exact h pins s σ H _ _ v u Q I rx ry ⟨_, _, rfl, rfl, hq⟩
  · cases hg
abbrev ltD := cmpI fun i j => decide (i < j)
abbrev leD := cmpI fun i j => decide (i ≤ j)
abbrev gtD := cmpI fun i j => decide (j < i)
abbrev geD := cmpI fun i j => decide (j ≤ i)
theorem op_ltD : OpR X (compareOp .Lt) (rB X.K O ltD) := opCmp op_lt
theorem op_leD : OpR X (compareOp .LtE) (rB X.K O leD) := opCmp op_le
theorem op_gtD : OpR X (compareOp .Gt) (rB X.K O gtD) := opCmp op_gt
theorem op_geD : OpR X (compareOp .GtE) (rB X.K O geD) := opCmp op_ge
def eqD (d e : D) : Option Bool := if SeqAt.shaped d = true ∧ SeqAt.shaped e = true then some (PyData.eqv d e) else none
def neD (d e : D) : Option Bool := if SeqAt.shaped d = true ∧ SeqAt.shaped e = true then some (!PyData.eqv d e) else none
theorem op_eqQ (hu : X.A.units + 65 < cLine) : OpR X (compareOp .Eq) (rB X.K O eqD) := by
  intro pins s σ H x y v u Q I rx ry ⟨d, e, z, hd, he, hO, hg, hq⟩
  unfold eqD at hg
  split at hg
  · rename_i hs
    cases hg
    exact op_eqD (by omega) pins s σ H _ _ v u Q I rx ry ⟨d, e, hd.unhid, he.unhid, hs.1, hs.2, hq⟩
  · cases hg
theorem op_neQ (hu : X.A.units + 65 < cLine) : OpR X (compareOp .NotEq) (rB X.K O neD) := by
  intro pins s σ H x y v u Q I rx ry ⟨d, e, z, hd, he, hO, hg, hq⟩
  unfold neD at hg
  split at hg
  · rename_i hs
    cases hg
    exact op_neD (by omega) pins s σ H _ _ v u Q I rx ry ⟨d, e, hd.unhid, he.unhid, hs.1, hs.2, hq⟩
  · cases hg
def isNone : D → Bool
  | .none => true
  | _ => false
def isD : D → D → Option Bool
  | d, .none => some (isNone d)
  | .bool a, .bool b => some (decide (a = b))
  | .int _, .bool _ => some false
  | .none, .bool _ => some false
  | _, _ => none
def isnD : D → D → Option Bool
  | d, .none => some (!isNone d)
  | .bool a, .bool b => some (!decide (a = b))
  | .int _, .bool _ => some true
  | .none, .bool _ => some true
  | _, _ => none
theorem _root_.L2.Dp.isNone {K : PySem.W.Frag} {H : Hp} {v : V} {d : D} (h : Dp K H v d) : decide (v = .non) = QL.isNone d := by
  cases h <;> simp [QL.isNone]
theorem op_isQ : OpR X (compareOp .Is) (rB X.K O isD) := by
  intro pins s σ H x y v u Q I rx ry ⟨d, e, z, hd, he, hO, hg, hq⟩
  unfold isD at hg
  split at hg
  · cases hg
    obtain rfl := Dp.non_of he
    exact op_isN pins s σ H _ _ v u Q I rx ry ⟨rfl, by rw [hd.isNone]; exact hq⟩
  · cases hg
    obtain rfl := Dp.bl_of hd
    obtain rfl := Dp.bl_of he
    exact op_isBl pins s σ H _ _ v u Q I rx ry ⟨_, _, rfl, rfl, hq⟩
  · cases hg
    obtain rfl := Dp.int_of hd
    obtain rfl := Dp.bl_of he
    obtain ⟨t, rfl⟩ := rx
    cases ry
    exact wpAny_is_other rfl (fun z => by cases z) ⟨.bl false, H, I, rfl, hq⟩
  · cases hg
    obtain rfl := Dp.non_of hd
    obtain rfl := Dp.bl_of he
    cases rx
    cases ry
    exact wpAny_is_other rfl (fun z => by cases z) ⟨.bl false, H, I, rfl, hq⟩
  · cases hg
theorem op_isnQ : OpR X (compareOp .IsNot) (rB X.K O isnD) := by
  intro pins s σ H x y v u Q I rx ry ⟨d, e, z, hd, he, hO, hg, hq⟩
  unfold isnD at hg
  split at hg
  · cases hg
    obtain rfl := Dp.non_of he
    exact op_notN pins s σ H _ _ v u Q I rx ry ⟨rfl, by rw [hd.isNone]; exact hq⟩
  · cases hg
    obtain rfl := Dp.bl_of hd
    obtain rfl := Dp.bl_of he
    exact op_notBl pins s σ H _ _ v u Q I rx ry ⟨_, _, rfl, rfl, hq⟩
  · cases hg
    obtain rfl := Dp.int_of hd
    obtain rfl := Dp.bl_of he
    obtain ⟨t, rfl⟩ := rx
    cases ry
    exact wpAny_isNot_other rfl (fun z => by cases z) ⟨.bl true, H, I, rfl, hq⟩
  · cases hg
    obtain rfl := Dp.non_of hd
    obtain rfl := Dp.bl_of he
    cases rx
    cases ry
    exact wpAny_isNot_other rfl (fun z => by cases z) ⟨.bl true, H, I, rfl, hq⟩
  · cases hg
def inL : D → D → Option Bool
  | d, .list ds => if SeqAt.shaped d = true ∧ SeqAt.shaped (.list ds) = true then some (ds.any fun z => PyData.eqv z d) else none
  | _, _ => none
def ninL : D → D → Option Bool
  | d, .list ds => if SeqAt.shaped d = true ∧ SeqAt.shaped (.list ds) = true then some (!ds.any fun z => PyData.eqv z d) else none
  | _, _ => none
theorem op_inQ (hu : X.A.units + 65 < cLine) : OpR X (compareOp .In) (rB X.K O inL) := by
  intro pins s σ H x y v u Q I rx ry ⟨d, e, z, hd, he, hO, hg, hq⟩
  unfold inL at hg
  split at hg
  · split at hg
    · rename_i hs
      cases hg
      exact op_inD hu pins s σ H _ _ v u Q I rx ry ⟨_, _, hd.unhid, he.unhid, hs.1, hs.2, hq⟩
    · cases hg
  · cases hg
theorem op_ninQ (hu : X.A.units + 65 < cLine) : OpR X (compareOp .NotIn) (rB X.K O ninL) := by
  intro pins s σ H x y v u Q I rx ry ⟨d, e, z, hd, he, hO, hg, hq⟩
  unfold ninL at hg
  split at hg
  · split at hg
    · rename_i hs
      cases hg
      exact op_notInD hu pins s σ H _ _ v u Q I rx ry ⟨_, _, hd.unhid, he.unhid, hs.1, hs.2, hq⟩
    · cases hg
  · cases hg

/-! ### subscripts -/
def ixD : D → D → Option D
  | .list ds, .int i => atI ds i
  | .tuple ds, .int i => atI ds i
  | _, _ => none
theorem _root_.L2.DpAll.atI {K : PySem.W.Frag} {H : Hp} {ds : List D} {vs : List V} {i : Int} {d : D} (h : DpAll K H vs ds) (e : L2.atI ds i = some d) : ∃ v, L2.atI vs i = some v ∧ Dp K H v d := by
  unfold L2.atI at e ⊢
  rw [h.length]
  cases q : ixN ds.length i with
  | none => rw [q] at e; cases e
  | some j =>
    rw [q] at e
    exact h.get e
theorem ix_D : IxR X (rD X.K O ixD) := by
  intro value slice pins s σ H x y v u Q I rx ry ⟨d, e, z, hd, he, hO, hg, hq⟩ hsb
  unfold ixD at hg
  split at hg
  · obtain ⟨a, xs, rfl, h1, h2⟩ := Dp.list_of hd
    obtain rfl := Dp.int_of he
    obtain ⟨w, e1, e2⟩ := h2.atI hg
    exact ix_list value slice pins s σ H _ _ v u Q I rx ry ⟨a, xs, _, w, rfl, rfl, hid_le.seq h1, e1, hq.now e2⟩ hsb
  · obtain ⟨a, xs, rfl, h1, h2⟩ := Dp.tuple_of hd
    obtain rfl := Dp.int_of he
    obtain ⟨w, e1, e2⟩ := h2.atI hg
    exact ix_tup value slice pins s σ H _ _ v u Q I rx ry ⟨a, xs, _, w, rfl, rfl, seqT_same hid_le h1, e1, hq.now e2⟩ hsb
  · cases hg

/-! ### slices -/
def cutL {α : Type} (xs : List α) (lo hi : Option Int) : List α := (xs.drop (HT.sIx xs.length 0 lo)).take (HT.sIx xs.length xs.length hi - HT.sIx xs.length 0 lo)
def slD (d : D) (lo hi : Option Int) : Option D :=
  match d with
  | .list ds => some (.list (cutL ds lo hi))
  | .tuple ds => some (.tuple (cutL ds lo hi))
  | _ => none
def rS (K : PySem.W.Frag) (O : Addr → Prop) : V → Option Int → Option Int → Hp → VK → Prop := fun x lo hi H Q => ∃ d z, Dp K (hid H O) x d ∧ (∀ b, O b → Trk H b) ∧ slD d lo hi = some z ∧ HasV K O z H Q
theorem _root_.L2.DpAll.cut {K : PySem.W.Frag} {H : Hp} {ds : List D} {vs : List V} (lo hi : Option Int) (h : DpAll K H vs ds) : DpAll K H (cutV vs lo hi) (cutL ds lo hi) := by
  unfold cutV cutL
  rw [h.length]
  exact (h.drop _).take _
theorem sl_D : SlR X (rS X.K O) := by
  intro pins s σ H x v vl vu lo hi sl Q I rx hs pl pu ⟨d, z, hd, hO, hg, hq⟩
  unfold slD at hg
  split at hg
  · cases hg
    obtain ⟨a, xs, rfl, h1, h2⟩ := Dp.list_of hd
    exact sl_list pins s σ H _ v vl vu lo hi sl Q I rx hs pl pu ⟨a, xs, rfl, hid_le.seq h1, hq.newL hO (h2.cut lo hi)⟩
  · cases hg
    rename_i ds
    obtain ⟨a, xs, rfl, h1, h2⟩ := Dp.tuple_of hd
    refine sl_tupA pins s σ H _ v vl vu lo hi sl Q I rx hs pl pu ⟨a, xs, rfl, seqT_same hid_le h1, fun ⟨e1, e2⟩ => ?_, fun _ => hq.newT hO (h2.cut lo hi)⟩
    have e : cutL ds lo hi = ds := by
      rw [h2.length] at e1 e2
      unfold cutL
      rw [e1, e2, List.drop_zero, Nat.sub_zero, List.take_length]
    rw [e] at hq
    exact hq.now (.tup h1 h2)
  · cases hg
end
end QL
set_option Elab.async false
set_option linter.all false
set_option maxRecDepth 100000
set_option maxHeartbeats 4000000
/-! Q3: built-ins and methods on data. -/
namespace QL
open PySem PySem.Spec PyProof.Rows L2
variable [LawTabs]

/-! ### lists of ints, of bools -/
def asInts : List D → Option (List Int)
  | [] => some []
  | .int i :: r => (asInts r).map (i :: ·)
  | _ :: _ => none
theorem asInts_some : ∀ {ds : List D} {ns : List Int}, asInts ds = some ns → ds = ns.map PyData.int
  | [], ns, h => by
    cases h
    rfl
  | .int i :: r, ns, h => by
    unfold asInts at h
    cases q : asInts r with
    | none => rw [q] at h; cases h
    | some m =>
      rw [q] at h
      cases h
      rw [asInts_some q] <;> rfl
  | .none :: _, _, h => nomatch h
  | .bool _ :: _, _, h => nomatch h
  | .str _ :: _, _, h => nomatch h
  | .list _ :: _, _, h => nomatch h
  | .tuple _ :: _, _, h => nomatch h
  | .dict _ :: _, _, h => nomatch h
theorem asInts_map (ns : List Int) : asInts (ns.map PyData.int) = some ns := by
  induction ns with
  | nil => rfl
  | cons n r ih =>
    show (asInts (r.map PyData.int)).map (n :: ·) = _
    rw [ih] <;> rfl
def asBools : List D → Option (List Bool)
  | [] => some []
  | .bool i :: r => (asBools r).map (i :: ·)
  | _ :: _ => none
theorem asBools_some : ∀ {ds : List D} {ns : List Bool}, asBools ds = some ns → ds = ns.map PyData.bool
  | [], ns, h => by
    cases h
    rfl
  | .bool i :: r, ns, h => by
    unfold asBools at h
    cases q : asBools r with
    | none => rw [q] at h; cases h
    | some m =>
      rw [q] at h
      cases h
      rw [asBools_some q] <;> rfl
  | .none :: _, _, h => nomatch h
  | .int _ :: _, _, h => nomatch h
  | .str _ :: _, _, h => nomatch h
  | .list _ :: _, _, h => nomatch h
  | .tuple _ :: _, _, h => nomatch h
  | .dict _ :: _, _, h => nomatch h
theorem asBools_map (ns : List Bool) : asBools (ns.map PyData.bool) = some ns := by
  induction ns with
  | nil => rfl
  | cons n r ih =>
    show (asBools (r.map PyData.bool)).map (n :: ·) = _
    rw [ih] <;> rfl
def maxL : List Int → Option Int
  | [] => none
  | n :: r => some (r.foldl max n)
def minL : List Int → Option Int
  | [] => none
  | n :: r => some (r.foldl min n)
theorem foldl_max : ∀ (r : List Int) (n : Int), (r.foldl max n = n ∨ r.foldl max n ∈ r) ∧ n ≤ r.foldl max n ∧ ∀ y ∈ r, y ≤ r.foldl max n
  | [], n => ⟨.inl rfl, Int.le_refl _, fun _ h => nomatch h⟩
  | a :: r, n => by
    obtain ⟨h1, h2, h3⟩ := foldl_max r (max n a)
    refine ⟨?_, Int.le_trans (Int.le_max_left _ _) h2, fun y hy => ?_⟩
    · rcases h1 with h1 | h1
      · by_cases c : n ≤ a
        · right
          rw [show List.foldl max n (a :: r) = List.foldl max (max n a) r from rfl, h1, Int.max_eq_right c]
          exact List.mem_cons_self
        · left
          rw [show List.foldl max n (a :: r) = List.foldl max (max n a) r from rfl, h1, Int.max_eq_left (by omega)]
      · exact .inr (List.mem_cons_of_mem _ h1)
    · rcases List.mem_cons.mp hy with e | hy
      · subst e
        exact Int.le_trans (Int.le_max_right _ _) h2
      · exact h3 y hy
theorem foldl_min : ∀ (r : List Int) (n : Int), (r.foldl min n = n ∨ r.foldl min n ∈ r) ∧ r.foldl min n ≤ n ∧ ∀ y ∈ r, r.foldl min n ≤ y
  | [], n => ⟨.inl rfl, Int.le_refl _, fun _ h => nomatch h⟩
  | a :: r, n => by
    obtain ⟨h1, h2, h3⟩ := foldl_min r (min n a)
    refine ⟨?_, Int.le_trans h2 (Int.min_le_left _ _), fun y hy => ?_⟩
    · rcases h1 with h1 | h1
      · by_cases c : n ≤ a
        · left
          rw [show List.foldl min n (a :: r) = List.foldl min (min n a) r from rfl, h1, Int.min_eq_left c]
        · right
          rw [show List.foldl min n (a :: r) = List.foldl min (min n a) r from rfl, h1, Int.min_eq_right (by omega)]
          exact List.mem_cons_self
      · exact .inr (List.mem_cons_of_mem _ h1)
    · rcases List.mem_cons.mp hy with e | hy
      · subst e
        exact Int.le_trans h2 (Int.min_le_right _ _)
      · exact h3 y hy
theorem maxL_some {ns : List Int} {m : Int} (h : maxL ns = some m) : m ∈ ns ∧ ∀ y ∈ ns, y ≤ m := by
  cases ns with
  | nil => cases h
  | cons n r =>
    cases h
    obtain ⟨h1, h2, h3⟩ := foldl_max r n
    refine ⟨?_, fun y hy => ?_⟩
    · rcases h1 with h1 | h1
      · rw [h1]; exact List.mem_cons_self
      · exact List.mem_cons_of_mem _ h1
    · rcases List.mem_cons.mp hy with e | hy
      · rw [e]; exact h2
      · exact h3 y hy
theorem minL_some {ns : List Int} {m : Int} (h : minL ns = some m) : m ∈ ns ∧ ∀ y ∈ ns, m ≤ y := by
  cases ns with
  | nil => cases h
  | cons n r =>
    cases h
    obtain ⟨h1, h2, h3⟩ := foldl_min r n
    refine ⟨?_, fun y hy => ?_⟩
    · rcases h1 with h1 | h1
      · rw [h1]; exact List.mem_cons_self
      · exact List.mem_cons_of_mem _ h1
    · rcases List.mem_cons.mp hy with e | hy
      · rw [e]; exact h2
      · exact h3 y hy

/-! ### the built-ins as functions on data -/
def lenD : List D → Option D
  | [.list ds] => some (.int ds.length)
  | [.tuple ds] => some (.int ds.length)
  | [.str z] => if z.length ≤ sizeLine then some (.int z.length) else none
  | _ => none
def absD : List D → Option D
  | [.int i] => some (.int (if i < 0 then -i else i))
  | _ => none
def maxD : List D → Option D
  | [.int i, .int j] => some (.int (if j > i then j else i))
  | [.int i, .int j, .int k] => some (.int (if j > i then (if k > j then k else j) else (if k > i then k else i)))
  | [.list ds] => ((asInts ds).bind maxL).map .int
  | _ => none
def minD : List D → Option D
  | [.int i, .int j] => some (.int (if j < i then j else i))
  | [.list ds] => ((asInts ds).bind minL).map .int
  | _ => none
def sumD : List D → Option D
  | [.list ds] => (asInts ds).map fun ns => .int ns.sum
  | _ => none
def allD : List D → Option D
  | [.list ds] => (asBools ds).map fun bs => .bool (bs.all id)
  | _ => none
def intD : List D → Option D
  | [.int i] => some (.int i)
  | [.bool k] => some (.int (if k then 1 else 0))
  | _ => none
def boolD : List D → Option D
  | [.int i] => some (.bool (i != 0))
  | [.bool k] => some (.bool k)
  | _ => none
def strD : List D → Option D
  | [.int i] => if i.natAbs.log2 < 1920 then some (.str (toString i)) else none
  | _ => none
def listD : List D → Option D
  | [.list ds] => some (.list ds)
  | [.tuple ds] => some (.list ds)
  | _ => none
def tupleD : List D → Option D
  | [.list ds] => some (.tuple ds)
  | [.tuple ds] => some (.tuple ds)
  | _ => none
section
variable {K : PySem.W.Frag} {H : Hp}
theorem _root_.L2.DpAll.one {vs : List V} {d : D} (h : DpAll K H vs [d]) : ∃ v, vs = [v] ∧ Dp K H v d := by
  cases h with
  | cons h1 h2 => cases h2; exact ⟨_, rfl, h1⟩
theorem _root_.L2.DpAll.two {vs : List V} {d e : D} (h : DpAll K H vs [d, e]) : ∃ v w, vs = [v, w] ∧ Dp K H v d ∧ Dp K H w e := by
  cases h with
  | cons h1 h2 =>
    obtain ⟨w, rfl, h3⟩ := DpAll.one h2
    exact ⟨_, _, rfl, h1, h3⟩
theorem _root_.L2.DpAll.three {vs : List V} {d e f : D} (h : DpAll K H vs [d, e, f]) : ∃ v w x, vs = [v, w, x] ∧ Dp K H v d ∧ Dp K H w e ∧ Dp K H x f := by
  cases h with
  | cons h1 h2 =>
    obtain ⟨w, x, rfl, h3, h4⟩ := DpAll.two h2
    exact ⟨_, _, _, rfl, h1, h3, h4⟩
end
section
variable {X : Cx} {O : Addr → Prop}
theorem c_len : CallR X (.builtin "len") (rC X.K O lenD) := by
  intro pins s σ H xs us Q I r ⟨ds, z, hd, hO, hg, hq⟩
  unfold lenD at hg
  split at hg
  · cases hg
    obtain ⟨v, rfl, h⟩ := DpAll.one hd
    obtain ⟨a, ys, rfl, h1, h2⟩ := Dp.list_of h
    exact call_len_seq pins s σ H _ us Q I r ⟨a, ys, rfl, .inl (hid_le.seq h1), by rw [h2.length]; exact hq.now (.int _)⟩
  · cases hg
    obtain ⟨v, rfl, h⟩ := DpAll.one hd
    obtain ⟨a, ys, rfl, h1, h2⟩ := Dp.tuple_of h
    exact call_len_seq pins s σ H _ us Q I r ⟨a, ys, rfl, .inr (seqT_same hid_le h1), by rw [h2.length]; exact hq.now (.int _)⟩
  · split at hg
    · rename_i hz
      cases hg
      obtain ⟨v, rfl, h⟩ := DpAll.one hd
      obtain rfl := Dp.str_of h
      exact call_len_str pins s σ H _ us Q I r ⟨_, rfl, hz, hq.now (.int _)⟩
    · cases hg
  · cases hg
theorem c_abs : CallR X (.builtin "abs") (rC X.K O absD) := by
  intro pins s σ H xs us Q I r ⟨ds, z, hd, hO, hg, hq⟩
  unfold absD at hg
  split at hg
  · cases hg
    obtain ⟨v, rfl, h⟩ := DpAll.one hd
    obtain rfl := Dp.int_of h
    exact call_abs pins s σ H _ us Q I r ⟨_, rfl, hq.now (.int _)⟩
  · cases hg
theorem call_max3 (hc : X.calm = true) : CallR X (.builtin "max") (fun xs H Q => ∃ i j k, xs = [.int i, .int j, .int k] ∧ Q (.int (if j > i then (if k > j then k else j) else (if k > i then k else i))) H) := by
  intro pins s σ H xs us Q I r h
  obtain ⟨i, j, k, rfl, q⟩ := h
  cases r with
  | cons r1 r =>
    obtain ⟨u, w', rfl, ⟨t2, rfl⟩, ⟨t3, rfl⟩⟩ := vals2 r
    obtain ⟨t1, rfl⟩ := r1
    refine PySem.max_three_ints (I.ok.hd hc) fun h' tk hk => ⟨_, H, I.kept hk, ?_, q⟩
    by_cases h1 : j > i
    · by_cases h2 : k > j
      · rw [if_pos h1, if_pos h2, if_pos h1, if_pos h2]; exact ⟨_, rfl⟩
      · rw [if_pos h1, if_neg h2, if_pos h1, if_neg h2]; exact ⟨_, rfl⟩
    · by_cases h2 : k > i
      · rw [if_neg h1, if_pos h2, if_neg h1, if_pos h2]; exact ⟨_, rfl⟩
      · rw [if_neg h1, if_neg h2, if_neg h1, if_neg h2]; exact ⟨_, rfl⟩
theorem c_max (hc : X.calm = true) : CallR X (.builtin "max") (rC X.K O maxD) := by
  intro pins s σ H xs us Q I r ⟨ds, z, hd, hO, hg, hq⟩
  unfold maxD at hg
  split at hg
  · cases hg
    obtain ⟨v, w, rfl, h, h'⟩ := DpAll.two hd
    obtain rfl := Dp.int_of h
    obtain rfl := Dp.int_of h'
    exact call_max2 hc pins s σ H _ us Q I r ⟨_, _, rfl, hq.now (.int _)⟩
  · cases hg
    obtain ⟨v, w, x, rfl, h, h', h''⟩ := DpAll.three hd
    obtain rfl := Dp.int_of h
    obtain rfl := Dp.int_of h'
    obtain rfl := Dp.int_of h''
    exact call_max3 hc pins s σ H _ us Q I r ⟨_, _, _, rfl, hq.now (.int _)⟩
  · rename_i es
    cases e1 : asInts es with
    | none => rw [e1] at hg; cases hg
    | some ns =>
      rw [e1] at hg
      cases e2 : maxL ns with
      | none =>
        have : (Option.bind (some ns) maxL) = none := e2
        rw [this] at hg
        cases hg
      | some m =>
        have e3 : (Option.bind (some ns) maxL) = some m := e2
        rw [e3] at hg
        cases hg
        have e4 := asInts_some e1
        subst e4
        obtain ⟨v, rfl, h⟩ := DpAll.one hd
        obtain ⟨a, ys, rfl, h1, h2⟩ := Dp.list_of h
        obtain rfl := DpAll.ints h2
        obtain ⟨g1, g2⟩ := maxL_some e2
        refine cr_max hc pins s σ H _ us Q I r ⟨a, ns, rfl, hid_le.seq h1, by cases ns with | nil => cases g1 | cons _ _ => simp, fun m' k1 k2 => ?_⟩
        have e5 : m' = m := Int.le_antisymm (g2 _ k1) (k2 _ g1)
        rw [e5]
        exact hq.now (.int _)
  · cases hg
theorem c_min (hc : X.calm = true) : CallR X (.builtin "min") (rC X.K O minD) := by
  intro pins s σ H xs us Q I r ⟨ds, z, hd, hO, hg, hq⟩
  unfold minD at hg
  split at hg
  · cases hg
    obtain ⟨v, w, rfl, h, h'⟩ := DpAll.two hd
    obtain rfl := Dp.int_of h
    obtain rfl := Dp.int_of h'
    exact call_min2 hc pins s σ H _ us Q I r ⟨_, _, rfl, hq.now (.int _)⟩
  · rename_i es
    cases e1 : asInts es with
    | none => rw [e1] at hg; cases hg
    | some ns =>
      rw [e1] at hg
      cases e2 : minL ns with
      | none =>
        have : (Option.bind (some ns) minL) = none := e2
        rw [this] at hg
        cases hg
      | some m =>
        have e3 : (Option.bind (some ns) minL) = some m := e2
        rw [e3] at hg
        cases hg
        have e4 := asInts_some e1
        subst e4
        obtain ⟨v, rfl, h⟩ := DpAll.one hd
        obtain ⟨a, ys, rfl, h1, h2⟩ := Dp.list_of h
        obtain rfl := DpAll.ints h2
        obtain ⟨g1, g2⟩ := minL_some e2
        refine cr_min hc pins s σ H _ us Q I r ⟨a, ns, rfl, hid_le.seq h1, by cases ns with | nil => cases g1 | cons _ _ => simp, fun m' k1 k2 => ?_⟩
        have e5 : m' = m := Int.le_antisymm (k2 _ g1) (g2 _ k1)
        rw [e5]
        exact hq.now (.int _)
  · cases hg
theorem c_sum (hc : X.calm = true) : CallR X (.builtin "sum") (rC X.K O sumD) := by
  intro pins s σ H xs us Q I r ⟨ds, z, hd, hO, hg, hq⟩
  unfold sumD at hg
  split at hg
  · rename_i es
    cases e1 : asInts es with
    | none => rw [e1] at hg; cases hg
    | some ns =>
      rw [e1] at hg
      cases hg
      have e4 := asInts_some e1
      subst e4
      obtain ⟨v, rfl, h⟩ := DpAll.one hd
      obtain ⟨a, ys, rfl, h1, h2⟩ := Dp.list_of h
      obtain rfl := DpAll.ints h2
      exact cr_sum hc pins s σ H _ us Q I r ⟨a, ns, rfl, hid_le.seq h1, hq.now (.int _)⟩
  · cases hg
theorem c_all (hc : X.calm = true) : CallR X (.builtin "all") (rC X.K O allD) := by
  intro pins s σ H xs us Q I r ⟨ds, z, hd, hO, hg, hq⟩
  unfold allD at hg
  split at hg
  · rename_i es
    cases e1 : asBools es with
    | none => rw [e1] at hg; cases hg
    | some ns =>
      rw [e1] at hg
      cases hg
      have e4 := asBools_some e1
      subst e4
      obtain ⟨v, rfl, h⟩ := DpAll.one hd
      obtain ⟨a, ys, rfl, h1, h2⟩ := Dp.list_of h
      obtain rfl := DpAll.bls h2
      exact cr_all hc pins s σ H _ us Q I r ⟨a, ns, rfl, hid_le.seq h1, hq.now (.bl _)⟩
  · cases hg
theorem c_int : CallR X (.type "int") (rC X.K O intD) := by
  intro pins s σ H xs us Q I r ⟨ds, z, hd, hO, hg, hq⟩
  unfold intD at hg
  split at hg
  · cases hg
    obtain ⟨v, rfl, h⟩ := DpAll.one hd
    obtain rfl := Dp.int_of h
    exact call_int1 pins s σ H _ us Q I r (.inl ⟨_, rfl, hq.now (.int _)⟩)
  · cases hg
    obtain ⟨v, rfl, h⟩ := DpAll.one hd
    obtain rfl := Dp.bl_of h
    exact call_int1 pins s σ H _ us Q I r (.inr ⟨_, rfl, hq.now (.int _)⟩)
  · cases hg
theorem c_bool : CallR X (.type "bool") (rC X.K O boolD) := by
  intro pins s σ H xs us Q I r ⟨ds, z, hd, hO, hg, hq⟩
  unfold boolD at hg
  split at hg
  · cases hg
    obtain ⟨v, rfl, h⟩ := DpAll.one hd
    obtain rfl := Dp.int_of h
    exact call_bool1 pins s σ H _ us Q I r (.inl ⟨_, rfl, hq.now (.bl _)⟩)
  · cases hg
    obtain ⟨v, rfl, h⟩ := DpAll.one hd
    obtain rfl := Dp.bl_of h
    exact call_bool1 pins s σ H _ us Q I r (.inr ⟨_, rfl, hq.now (.bl _)⟩)
  · cases hg
theorem c_str : CallR X (.type "str") (rC X.K O strD) := by
  intro pins s σ H xs us Q I r ⟨ds, z, hd, hO, hg, hq⟩
  unfold strD at hg
  split at hg
  · split at hg
    · rename_i hz
      cases hg
      obtain ⟨v, rfl, h⟩ := DpAll.one hd
      obtain rfl := Dp.int_of h
      exact call_str_int pins s σ H _ us Q I r ⟨_, rfl, hz, hq.now (.str _)⟩
    · cases hg
  · cases hg
theorem c_list : CallR X (.type "list") (rC X.K O listD) := by
  intro pins s σ H xs us Q I r ⟨ds, z, hd, hO, hg, hq⟩
  unfold listD at hg
  split at hg
  · cases hg
    obtain ⟨v, rfl, h⟩ := DpAll.one hd
    obtain ⟨a, ys, rfl, h1, h2⟩ := Dp.list_of h
    exact call_list_of pins s σ H _ us Q I r ⟨a, ys, rfl, .inl (hid_le.seq h1), hq.newL hO h2⟩
  · cases hg
    obtain ⟨v, rfl, h⟩ := DpAll.one hd
    obtain ⟨a, ys, rfl, h1, h2⟩ := Dp.tuple_of h
    exact call_list_of pins s σ H _ us Q I r ⟨a, ys, rfl, .inr (seqT_same hid_le h1), hq.newL hO h2⟩
  · cases hg
theorem c_tuple : CallR X (.type "tuple") (rC X.K O tupleD) := by
  intro pins s σ H xs us Q I r ⟨ds, z, hd, hO, hg, hq⟩
  unfold tupleD at hg
  split at hg
  · cases hg
    obtain ⟨v, rfl, h⟩ := DpAll.one hd
    obtain ⟨a, ys, rfl, h1, h2⟩ := Dp.list_of h
    exact call_tuple_of pins s σ H _ us Q I r ⟨a, ys, rfl, .inl ⟨hid_le.seq h1, hq.newT hO h2⟩⟩
  · cases hg
    obtain ⟨v, rfl, h⟩ := DpAll.one hd
    obtain ⟨a, ys, rfl, h1, h2⟩ := Dp.tuple_of h
    exact call_tuple_of pins s σ H _ us Q I r ⟨a, ys, rfl, .inr ⟨seqT_same hid_le h1, hq.now (.tup h1 h2)⟩⟩
  · cases hg

/-! ### isinstance -/
def tyNm : D → String
  | .none => "NoneType"
  | .bool _ => "bool"
  | .int _ => "int"
  | .str _ => "str"
  | .list _ => "list"
  | .tuple _ => "tuple"
  | .dict _ => "dict"
theorem tyX_of {K : PySem.W.Frag} {H : Hp} {v : V} {d : D} (h : Dp K H v d) : TyX K H v (.type (tyNm d)) := by
  cases h with
  | non => exact .base .non
  | bl b => exact .base (.bl b)
  | int i => exact .base (.int i)
  | str x => exact .base (.str x)
  | lst hs _ =>
    rcases hs with (h | ⟨o, h⟩) | ⟨o, its, n, h, hc, _⟩
    · exact .base (.lst h)
    · exact .base (.frz h)
    · exact .kList h hc
  | tup hs _ =>
    rcases hs with (h | ⟨o, h⟩) | ⟨o, its, n, h, hc, _⟩
    · exact .base (.tup h)
    · exact .fTuple h
    · exact .kTuple h hc
def isTy (T : String) (d : D) : Option D := (kitB (tyNm d) T).map .bool
/-- isinstance(e, T), T a built-in class -/
theorem isi_D (T : String) : ∀ {pins : List (Addr × Obj)} {s : Shared} {σ : Sg} {H : Hp} {v : V} {u : Value} {d z : D} {Q : VK}, Inv X pins σ H s → RelV v u → Dp X.K (hid H O) v d → isTy T d = some z → HasV X.K O z H Q →
    wpAny (model X.prog X.w) X.A (call (.builtin "isinstance") [u, .type T]) (EP X pins σ Q) X.xe s := by
  intro pins s σ H v u d z Q I r hd hg hq
  unfold isTy at hg
  cases e : kitB (tyNm d) T with
  | none => rw [e] at hg; cases hg
  | some b =>
    rw [e] at hg
    cases hg
    exact call_isi pins s σ H [v, .ty T] [u, .type T] Q I (.cons r (.cons rfl .nil)) ⟨v, .ty T, _, _, b, rfl, .ty T, tyX_of hd.unhid, kit_ty e, hq.now (.bl _)⟩

/-! ### methods of lists -/
def countL (ds : List D) (d : D) : Option D := if SeqAt.shaped d = true ∧ SeqAt.shaped (.list ds) = true then some (.int (ds.countP fun z => PyData.eqv z d : Nat)) else none
def countD : D → List D → Option D
  | .list ds, [d] => countL ds d
  | _, _ => none
def rM (K : PySem.W.Frag) (O : Addr → Prop) (g : D → List D → Option D) : V → List V → Hp → VK → Prop := fun x vs H Q => ∃ d ds z, Dp K (hid H O) x d ∧ DpAll K (hid H O) vs ds ∧ (∀ b, O b → Trk H b) ∧ g d ds = some z ∧ HasV K O z H Q
theorem countP_map_readOf {h : Heap} {d : D} : ∀ (its : List Value) (ds : List D), its.map (SeqAt.readOf h) = ds → its.countP (fun u => PyData.eqv (SeqAt.readOf h u) d) = ds.countP fun z => PyData.eqv z d := fun its ds e => by
  subst e
  rw [List.countP_map] <;> rfl
theorem m_count (hu : X.A.units + 65 < cLine) : MtR X "list.count" (rM X.K O countD) := by
  intro pins s σ H x xs v us Q I rx rxs ⟨d, ds, z, hd, hds, hO, hg, hq⟩
  unfold countD at hg
  split at hg
  · rename_i es d0
    unfold countL at hg
    split at hg
    · rename_i hs
      cases hg
      obtain ⟨a, ys, rfl, h1, h2⟩ := Dp.list_of hd
      obtain ⟨w, rfl, h3⟩ := DpAll.one hds
      obtain ⟨u, rfl, ru⟩ := rxs.one
      cases rx
      obtain ⟨bs, r1⟩ := Dp.reads I d0 w u h3.unhid ru
      have hxs : PyData.canLayAll0 es = true := SeqAt.canLay_of_shaped hs.2
      have hroom : X.A.units + 1 + min (PyData.depthAll es) d0.depth < cLine := room_in_shaped hs.1 hu
      obtain ⟨its, rv, ⟨⟨cls, dd, data, sls⟩, n, ho, hc, hdn, hdt⟩, hlen⟩ := I.list (hid_le.seq h1)
      simp only at hc hdt
      subst hc hdt
      obtain ⟨as, h4⟩ := Dp.readsAll I es _ its h2.unhid rv
      have hmap : its.map (SeqAt.readOf s.heap) = es := SeqAt.readsAll_map es its as hxs h4
      refine call_meets PySem.F.slot_list_count ⟨_, ho, rfl⟩ PySem.F.entry_list_count (PySem.F.args_list_count_2 _ _)
        (SeqAt.list_countAt a its.toArray n dd sls u (fun u => PyData.eqv (SeqAt.readOf s.heap u) d0)) ⟨ho, SeqAt.items_eqAt (vs := its.toArray) (show ReadsAll s.heap its.toArray.toList es as from h4) r1 hxs (SeqAt.canLay_of_shaped hs.1) hroom, ?_⟩
      have e1 : its.toArray.toList.countP (fun u => PyData.eqv (SeqAt.readOf s.heap u) d0) = es.countP fun z => PyData.eqv z d0 := countP_map_readOf _ _ hmap
      refine ⟨.int (es.countP fun z => PyData.eqv z d0 : Nat), H, I.tok _, ⟨s.toks, ?_⟩, hq.now (.int _)⟩
      show Value.int ((its.toArray.toList.countP (fun u => PyData.eqv (SeqAt.readOf s.heap u) d0) : Nat) : Int) s.toks = _
      rw [e1]
    · cases hg
  · cases hg
def idxOf (d : D) : List D → Option Nat
  | [] => none
  | z :: r => if PyData.eqv z d = true then some 0 else (idxOf d r).map (· + 1)
theorem idxOf_some {d : D} : ∀ {ds : List D} {j : Nat}, idxOf d ds = some j → (∃ z, ds[j]? = some z ∧ PyData.eqv z d = true) ∧ ∀ (m : Nat) z, m < j → ds[m]? = some z → PyData.eqv z d = false
  | [], _, h => nomatch h
  | z :: r, j, h => by
    unfold idxOf at h
    by_cases c : PyData.eqv z d = true
    · rw [if_pos c] at h
      cases h
      exact ⟨⟨z, rfl, c⟩, fun m _ hm => absurd hm (Nat.not_lt_zero _)⟩
    · rw [if_neg c] at h
      cases q : idxOf d r with
      | none => rw [q] at h; cases h
      | some i =>
        rw [q] at h
        cases h
        obtain ⟨⟨y, h1, h2⟩, h3⟩ := idxOf_some q
        refine ⟨⟨y, by simpa using h1, h2⟩, fun m w hm hw => ?_⟩
        cases m with
        | zero =>
          cases hw
          simpa using c
        | succ m => exact h3 m w (Nat.lt_of_succ_lt_succ hm) (by simpa using hw)
def indexD : D → List D → Option D
  | .list ds, [d] => if SeqAt.shaped d = true ∧ SeqAt.shaped (.list ds) = true then (idxOf d ds).map fun j => .int (j : Nat) else none
  | _, _ => none
theorem m_index (hu : X.A.units + 65 < cLine) : MtR X "list.index" (rM X.K O indexD) := by
  intro pins s σ H x xs v us Q I rx rxs ⟨d, ds, z, hd, hds, hO, hg, hq⟩
  unfold indexD at hg
  split at hg
  · rename_i es d0
    split at hg
    · rename_i hs
      cases e : idxOf d0 es with
      | none => rw [e] at hg; cases hg
      | some j =>
        rw [e] at hg
        cases hg
        obtain ⟨⟨y, h1, h2⟩, h3⟩ := idxOf_some e
        obtain ⟨w, rfl, h4⟩ := DpAll.one hds
        obtain ⟨a, ys, rfl, _, _⟩ := Dp.list_of hd
        exact mt_indexD hu pins s σ H _ _ v us Q I rx rxs ⟨a, w, d0, es, j, y, rfl, rfl, hd.unhid, h4.unhid, hs.2, hs.1, h1, h2, fun m z' hm hz => h3 m z' hm hz, hq.now (.int _)⟩
    · cases hg
  · cases hg
end
end QL
set_option Elab.async false
set_option linter.all false
set_option maxRecDepth 100000
set_option maxHeartbeats 4000000
/-! Q4: expressions. -/
namespace QL
open PySem PySem.Spec PyProof.Rows L2
variable [LawTabs]

/-! ### the functions -/
def var (i : Nat) : M D := fun ρ => match ρ[i]? with
  | some (.im d) => .ok (d, ρ)
  | _ => .stuck
def cst (d : D) : M D := M.pure d
def op1 (g : D → Option D) (a : M D) : M D := M.bind a fun x => M.opt (g x)
def op2 (g : D → D → Option D) (a b : M D) : M D := M.bind a fun x => M.bind b fun y => M.opt (g x y)
/-- a comparison's answer -/
def cmp (g : D → D → Option Bool) (a b : M D) : M Bool := M.bind a fun x => M.bind b fun y => M.opt (g x y)
/-- as a value -/
def bv (a : M Bool) : M D := M.bind a fun b => M.pure (.bool b)
/-- a value that is a bool, as a test -/
def tb (a : M D) : M Bool := M.bind a fun d => M.opt (match d with | .bool b => some b | _ => none)
/-- a value's truth -/
def truD : D → Option Bool
  | .none => some false
  | .bool b => some b
  | .int i => some (i != 0)
  | .str y => if y.length ≤ sizeLine then some ((y.length : Int) != 0) else none
  | .list ds => some (!ds.isEmpty)
  | .tuple ds => some (!ds.isEmpty)
  | _ => none
def tru (a : M D) : M Bool := M.bind a fun d => M.opt (truD d)
def chain2 (g g' : D → D → Option Bool) (a b c : M D) : M Bool := M.bind a fun x => M.bind b fun y => M.bind (M.opt (g x y)) fun k => if k = true then M.bind c fun z => M.opt (g' y z) else M.pure false
def andM (a b : M Bool) : M Bool := M.bind a fun c => if c = true then b else M.pure false
def orM (a b : M Bool) : M Bool := M.bind a fun c => if c = true then M.pure true else b
def notM (a : M Bool) : M Bool := M.bind a fun c => M.pure (!c)
/-- a and b, as values: a is a bool -/
def andV (a b : M D) : M D := M.bind (tb a) fun c => if c = true then b else M.pure (.bool false)
def orV (a b : M D) : M D := M.bind (tb a) fun c => if c = true then M.pure (.bool true) else b
def notV (a : M D) : M D := M.bind (tb a) fun c => M.pure (.bool !c)
def iteM {α : Type} (c : M Bool) (a b : M α) : M α := M.bind c fun k => if k = true then a else b
def args0 : M (List D) := M.pure []
def argsC (a : M D) (r : M (List D)) : M (List D) := M.bind a fun x => M.bind r fun xs => M.pure (x :: xs)
def tupM (r : M (List D)) : M D := M.bind r fun xs => M.opt (if xs.length ≤ sizeLine then some (.tuple xs) else none)
def lstM (r : M (List D)) : M D := M.bind r fun xs => M.opt (if xs.length ≤ sizeLine then some (.list xs) else none)
def callB (g : List D → Option D) (r : M (List D)) : M D := M.bind r fun xs => M.opt (g xs)
def methB (T : String) (g : D → List D → Option D) (a : M D) (r : M (List D)) : M D := M.bind a fun x => if tyNm x = T then M.bind r fun xs => M.opt (g x xs) else M.stuck
/-- a part of a slice -/
def noPart : M (Option Int) := M.pure none
def somePart (a : M D) : M (Option Int) := M.bind a fun d => M.opt (match d with | .int i => some (some i) | _ => none)
def slM (a : M D) (lo hi : M (Option Int)) : M D := M.bind a fun x => M.bind lo fun l => M.bind hi fun h => M.opt (slD x l h)

/-! ### the readings in a row -/
section
variable {K : PySem.W.Frag} {O : Addr → Prop} {W : XK}
/-- behind an expression (its value v, d), something whose outcome is m -/
def After (K : PySem.W.Frag) (O : Addr → Prop) (W : XK) {β : Type} (σ : Sg) (m : Rho → R (β × Rho)) (k : Rho → Hp → β → Rho → Prop) (H1 : Hp) : Prop := ∃ ρ1, Rep K O ρ1 σ H1 ∧ RP (m ρ1) (k ρ1 H1) (ErrK K W ρ1 σ H1)
theorem tE.app {β : Type} {a : M D} {f : D → M β} {σ : Sg} {H : Hp} {ρ : Rho} {k : β → Rho → Prop} (r : Rep K O ρ σ H) (h : RP (M.bind a f ρ) k (ErrK K W ρ σ H)) :
    tE K O W a σ H fun v H1 => ∃ d ρ1, Rep K O ρ1 σ H1 ∧ Ext [] ρ σ H ρ1 σ H1 ∧ Dp K (hid H1 (hd O ρ1 σ)) v d ∧ RP (f d ρ1) k (ErrK K W ρ1 σ H1) :=
  ⟨ρ, r, RP.mono (RP.bind h) (fun d ρ1 q v H1 r1 e1 dp => ⟨d, ρ1, r1, e1, dp, RP.mono q (fun _ _ z => z) fun x q' => ErrK.back q' e1⟩) fun x q => q⟩
theorem tT.app {β : Type} {a : M Bool} {f : Bool → M β} {σ : Sg} {H : Hp} {ρ : Rho} {k : β → Rho → Prop} (r : Rep K O ρ σ H) (h : RP (M.bind a f ρ) k (ErrK K W ρ σ H)) :
    tT K O W a σ H fun b H1 => ∃ ρ1, Rep K O ρ1 σ H1 ∧ Ext [] ρ σ H ρ1 σ H1 ∧ RP (f b ρ1) k (ErrK K W ρ1 σ H1) :=
  ⟨ρ, r, RP.mono (RP.bind h) (fun d ρ1 q H1 r1 e1 => ⟨ρ1, r1, e1, RP.mono q (fun _ _ z => z) fun x q' => ErrK.back q' e1⟩) fun x q => q⟩
theorem tA.app {β : Type} {a : M (List D)} {f : List D → M β} {σ : Sg} {H : Hp} {ρ : Rho} {k : β → Rho → Prop} (r : Rep K O ρ σ H) (h : RP (M.bind a f ρ) k (ErrK K W ρ σ H)) :
    tA K O W a σ H fun vs H1 => ∃ ds ρ1, Rep K O ρ1 σ H1 ∧ Ext [] ρ σ H ρ1 σ H1 ∧ DpAll K (hid H1 (hd O ρ1 σ)) vs ds ∧ RP (f ds ρ1) k (ErrK K W ρ1 σ H1) :=
  ⟨ρ, r, RP.mono (RP.bind h) (fun d ρ1 q vs H1 r1 e1 dp => ⟨d, ρ1, r1, e1, dp, RP.mono q (fun _ _ z => z) fun x q' => ErrK.back q' e1⟩) fun x q => q⟩
/-- the readings grow with what is wanted -/
theorem tE.mono {f : M D} {σ : Sg} {H : Hp} {Q Q' : VK} (h : tE K O W f σ H Q) (m : ∀ v H', Q v H' → Q' v H') : tE K O W f σ H Q' := by
  obtain ⟨ρ, r, h⟩ := h
  exact ⟨ρ, r, RP.mono h (fun d ρ' q v H' r' e dp => m _ _ (q v H' r' e dp)) fun x q => q⟩
theorem tT.mono {f : M Bool} {σ : Sg} {H : Hp} {Q Q' : Bool → Hp → Prop} (h : tT K O W f σ H Q) (m : ∀ v H', Q v H' → Q' v H') : tT K O W f σ H Q' := by
  obtain ⟨ρ, r, h⟩ := h
  exact ⟨ρ, r, RP.mono h (fun d ρ' q H' r' e => m _ _ (q H' r' e)) fun x q => q⟩
theorem tA.mono {f : M (List D)} {σ : Sg} {H : Hp} {Q Q' : List V → Hp → Prop} (h : tA K O W f σ H Q) (m : ∀ v H', Q v H' → Q' v H') : tA K O W f σ H Q' := by
  obtain ⟨ρ, r, h⟩ := h
  exact ⟨ρ, r, RP.mono h (fun d ρ' q v H' r' e dp => m _ _ (q v H' r' e dp)) fun x q => q⟩
/-- what HasV wants, from the end of a reading -/
theorem hasV_end {ρ ρ1 : Rho} {σ : Sg} {H H1 : Hp} {z : D} {Q : VK} (r1 : Rep K O ρ1 σ H1) (e1 : Ext [] ρ σ H ρ1 σ H1) (q : ∀ v H', Rep K O ρ1 σ H' → Ext [] ρ σ H ρ1 σ H' → Dp K (hid H' (hd O ρ1 σ)) v z → Q v H') : HasV K (hd O ρ1 σ) z H1 Q :=
  fun v H' sm dp => q v H' (r1.same sm) (e1.trans (Ext.of_same sm)) dp
end

/-! ### the rules -/
section
variable {X : Cx} {W : XK} {a b c e : Expr} {es : List Expr} {f f1 f2 f3 : M D} {fs : M (List D)} {t t1 t2 : M Bool} {pos : Pos}
theorem q_var (i : Nat) {x : Str} (hN : X.N[i]? = some x := by rfl) (hv : Vis X.env.scope x := by first | exact Or.inl rfl | exact Or.inr (Or.inl rfl) | exact Or.inr (Or.inr rfl)) (hd : (x == ("__debug__" : Str)) = false := by decide)
    (hcd : (x == ("__classdict__" : Str)) = false := by decide) : QE X W (.Name x pos) (var i) := fun O => (pe_var hN hv hd hcd).weak fun σ H Q ⟨ρ, r, h⟩ => by
  unfold var RP at h
  cases q : ρ[i]? with
  | none => rw [q] at h; exact h.elim
  | some s =>
    rw [q] at h
    cases s with
    | no => exact h.elim
    | mu _ => exact h.elim
    | im d =>
      obtain ⟨v, e1, e2⟩ := r.im i d q
      exact ⟨v, e1, h v H r Ext.refl e2⟩
theorem q_const {d : D} {v : V} (h : PE X e (tC v)) (hd : ∀ K H, Dp K H v d) : QE X W e (cst d) := fun O => h.weak fun σ H Q ⟨ρ, r, h⟩ => h v H r Ext.refl (hd _ _)
theorem q_int {i j} : QE X W (.Constant (.int i) j pos) (cst (.int i)) := q_const pe_int fun _ _ => .int i
theorem q_bl {b j} : QE X W (.Constant (.bool b) j pos) (cst (.bool b)) := q_const pe_bl fun _ _ => .bl b
theorem q_non {j} : QE X W (.Constant .none j pos) (cst .none) := q_const pe_non fun _ _ => .non
theorem q_str {x j} : QE X W (.Constant (.str x) j pos) (cst (.str x)) := q_const pe_str fun _ _ => .str x
theorem q_globI {x : Str} {i : Int} (hg : Gl X x) (hm : ∃ t, X.mg x = some (.int i t)) (hd : (x == ("__debug__" : Str)) = false := by decide) : QE X W (.Name x pos) (cst (.int i)) := by
  obtain ⟨t, hm⟩ := hm
  exact q_const (pe_glob hg hm (v := .int i) ⟨t, rfl⟩ hd) fun _ _ => .int i
theorem q_op1 {op : UnaryOp} {g : D → Option D} (ho : ∀ O, UnR X (unaryOp op) (QL.rU X.K O g)) (ha : QE X W a f) : QE X W (.UnaryOp op a pos) (op1 g f) := fun O => by
  refine ⟨fun pins s σ H Q I ⟨ρ, r, h⟩ => ?_⟩
  refine UnaryOp_ (thn ((ha O).run pins s σ H _ I (tE.app r h)) fun v s1 ⟨x, H1, I1, r1, d, ρ1, rep1, e1, dp, q⟩ => ?_)
  obtain ⟨z, hz, q⟩ := RP.opt q
  exact ho (hd O ρ1 σ) pins s1 σ H1 x v Q I1 r1 ⟨d, z, dp, rep1.trk, hz, hasV_end rep1 e1 q⟩
theorem q_two {g : D → D → Option D} {n : Value → Value → Sem Value} (ho : ∀ O, OpR X n (rD X.K O g)) (ha : QE X W a f1) (hb : QE X W b f2) {O : Addr → Prop} {pins : List (Addr × Obj)} {s : Shared} {σ : Sg} {H : Hp} {Q : VK} (I : Inv X pins σ H s) (h : tE X.K O W (op2 g f1 f2) σ H Q) :
    wpAny (model X.prog X.w) X.A (eval a X.env) (fun v s₁ => wpAny (model X.prog X.w) X.A (eval b X.env) (fun u s₂ => wpAny (model X.prog X.w) X.A (n v u) (EP X pins σ Q) X.xe s₂) X.xe s₁) X.xe s := by
  obtain ⟨ρ, r, h⟩ := h
  refine thn ((ha O).run pins s σ H _ I (tE.app r h)) fun v s1 ⟨x, H1, I1, r1, d, ρ1, rep1, e1, dp1, q1⟩ => ?_
  refine thn ((hb O).run pins s1 σ H1 _ I1 (tE.app rep1 q1)) fun u s2 ⟨y, H2, I2, r2, d2, ρ2, rep2, e2, dp2, q2⟩ => ?_
  obtain ⟨z, hz, q⟩ := RP.opt q2
  exact ho (hd O ρ2 σ) pins s2 σ H2 x y v u Q I2 r1 r2 ⟨d, d2, z, Dp.same e2.same _ _ dp1, dp2, rep2.trk, hz, hasV_end rep2 (e1.trans e2) q⟩
theorem q_op2 {op : Operator} {g : D → D → Option D} (ho : ∀ O, OpR X (binaryOp op) (rD X.K O g)) (ha : QE X W a f1) (hb : QE X W b f2) : QE X W (.BinOp a op b pos) (op2 g f1 f2) := fun O =>
  ⟨fun pins s σ H Q I h => wpAny_BinOp (q_two ho ha hb I h)⟩
theorem q_cmpV {op : CmpOp} {g : D → D → Option Bool} (ho : ∀ O, OpR X (compareOp op) (rB X.K O g)) (ha : QE X W a f1) (hb : QE X W b f2) (hm : behindInMarks op b = false) : QE X W (.Compare a [op] [b] pos) (bv (cmp g f1 f2)) := fun O => by
  refine ⟨fun pins s σ H Q I ⟨ρ, r, h⟩ => ?_⟩
  have h0 := RP.bind h
  refine wpAny_Compare1 (thn ((ha O).run pins s σ H _ I (tE.app r h0)) fun v s1 ⟨x, H1, I1, r1, d, ρ1, rep1, e1, dp1, q1⟩ => ?_) hm
  refine thn ((hb O).run pins s1 σ H1 _ I1 (tE.app rep1 q1)) fun u s2 ⟨y, H2, I2, r2, d2, ρ2, rep2, e2, dp2, q2⟩ => ?_
  obtain ⟨z, hz, q⟩ := RP.opt q2
  exact ho (hd O ρ2 σ) pins s2 σ H2 x y v u Q I2 r1 r2 ⟨d, d2, z, Dp.same e2.same _ _ dp1, dp2, rep2.trk, hz, q (.bl z) H2 rep2 (e1.trans e2) (.bl z)⟩
theorem q_cmp {op : CmpOp} {g : D → D → Option Bool} (ho : ∀ O, OpR X (compareOp op) (rB X.K O g)) (ha : QE X W a f1) (hb : QE X W b f2) (hm : behindInMarks op b = false) : QT X W (.Compare a [op] [b] pos) (cmp g f1 f2) := fun O => by
  refine ⟨fun pins s σ H Q I ⟨ρ, r, h⟩ => ?_⟩
  refine wpAny_isTrue_Compare1 (thn ((ha O).run pins s σ H _ I (tE.app r h)) fun v s1 ⟨x, H1, I1, r1, d, ρ1, rep1, e1, dp1, q1⟩ => ?_) hm
  refine thn ((hb O).run pins s1 σ H1 _ I1 (tE.app rep1 q1)) fun u s2 ⟨y, H2, I2, r2, d2, ρ2, rep2, e2, dp2, q2⟩ => ?_
  obtain ⟨z, hz, q⟩ := RP.opt q2
  refine thn (ho (hd O ρ2 σ) pins s2 σ H2 x y v u (fun w H3 => w = .bl z ∧ H3 = H2) I2 r1 r2 ⟨d, d2, z, Dp.same e2.same _ _ dp1, dp2, rep2.trk, hz, rfl, rfl⟩) fun k s3 ⟨w, H3, I3, r3, ew, eH⟩ => ?_
  subst ew eH
  cases r3
  exact wpAny_truthy_bool ⟨_, I3, q _ rep2 (e1.trans e2)⟩
/-- a < b < c -/
theorem q_chain {op op' : CmpOp} {g g' : D → D → Option Bool} (ho : ∀ O, OpR X (compareOp op) (rB X.K O g)) (ho' : ∀ O, OpR X (compareOp op') (rB X.K O g')) (ha : QE X W a f1) (hb : QE X W b f2) (hc : QE X W c f3) (hm : lastMarks [op, op'] [b, c] = false := by with_unfolding_all rfl) : QT X W (.Compare a [op, op'] [b, c] pos) (chain2 g g' f1 f2 f3) := fun O => by
  refine ⟨fun pins s σ H Q I ⟨ρ, r, h⟩ => ?_⟩
  refine isTrue_chain (thn ((ha O).run pins s σ H _ I (tE.app r h)) fun v s1 ⟨x, H1, I1, r1, d, ρ1, rep1, e1, dp1, q1⟩ => test_link (thn ((hb O).run pins s1 σ H1 _ I1 (tE.app rep1 q1)) fun u s2 ⟨y, H2, I2, r2, d2, ρ2, rep2, e2, dp2, q2⟩ => ?_)) hm
  obtain ⟨k, hk, q⟩ := RP.opt (RP.bind q2)
  refine thn (ho (hd O ρ2 σ) pins s2 σ H2 x y v u (fun w H3 => w = .bl k ∧ H3 = H2) I2 r1 r2 ⟨d, d2, k, Dp.same e2.same _ _ dp1, dp2, rep2.trk, hk, rfl, rfl⟩) fun z s3 ⟨w, H3, I3, r3, ew, eH⟩ => ?_
  subst ew eH
  cases r3
  refine wpAny_truthy_bool ?_
  cases k with
  | false => exact ite_ff ⟨_, I3, q _ rep2 (e1.trans e2)⟩
  | true =>
    have q' : RP (M.bind f3 (fun z => M.opt (g' d2 z)) ρ2) _ _ := q
    refine ite_tt (test_last (thn ((hc O).run pins s3 σ _ _ I3 (tE.app rep2 q')) fun w' s4 ⟨z', H4, I4, r4, d4, ρ4, rep4, e4, dp4, q4⟩ => ?_))
    obtain ⟨k2, hk2, q5⟩ := RP.opt q4
    refine thn (ho' (hd O ρ4 σ) pins s4 σ H4 y z' u w' (fun w H3 => w = .bl k2 ∧ H3 = H4) I4 r2 r4 ⟨d2, d4, k2, Dp.same e4.same _ _ dp2, dp4, rep4.trk, hk2, rfl, rfl⟩) fun z s5 ⟨w, H5, I5, r5, ew, eH⟩ => ?_
    subst ew eH
    cases r5
    exact wpAny_truthy_bool ⟨_, I5, q5 _ rep4 ((e1.trans e2).trans e4)⟩
theorem q_chainV {op op' : CmpOp} {g g' : D → D → Option Bool} (ho : ∀ O, OpR X (compareOp op) (rB X.K O g)) (ho' : ∀ O, OpR X (compareOp op') (rB X.K O g')) (ha : QE X W a f1) (hb : QE X W b f2) (hc : QE X W c f3) (hm : lastMarks [op, op'] [b, c] = false := by with_unfolding_all rfl) : QE X W (.Compare a [op, op'] [b, c] pos) (bv (chain2 g g' f1 f2 f3)) := fun O => by
  refine ⟨fun pins s σ H Q I ⟨ρ, r, h⟩ => ?_⟩
  have h0 := RP.bind h
  refine Compare_chain (thn ((ha O).run pins s σ H _ I (tE.app r h0)) fun v s1 ⟨x, H1, I1, r1, d, ρ1, rep1, e1, dp1, q1⟩ => chain_link (thn ((hb O).run pins s1 σ H1 _ I1 (tE.app rep1 q1)) fun u s2 ⟨y, H2, I2, r2, d2, ρ2, rep2, e2, dp2, q2⟩ => ?_)) hm
  obtain ⟨k, hk, q⟩ := RP.opt (RP.bind q2)
  refine thn (ho (hd O ρ2 σ) pins s2 σ H2 x y v u (fun w H3 => w = .bl k ∧ H3 = H2) I2 r1 r2 ⟨d, d2, k, Dp.same e2.same _ _ dp1, dp2, rep2.trk, hk, rfl, rfl⟩) fun z s3 ⟨w, H3, I3, r3, ew, eH⟩ => ?_
  subst ew eH
  cases r3
  refine wpAny_truthy_bool ?_
  cases k with
  | false => exact ite_ff ⟨.bl false, _, I3, rfl, q (.bl false) _ rep2 (e1.trans e2) (.bl _)⟩
  | true =>
    have q' : RP (M.bind f3 (fun z => M.opt (g' d2 z)) ρ2) _ _ := q
    refine ite_tt (chain_last (thn ((hc O).run pins s3 σ _ _ I3 (tE.app rep2 q')) fun w' s4 ⟨z', H4, I4, r4, d4, ρ4, rep4, e4, dp4, q4⟩ => ?_))
    obtain ⟨k2, hk2, q5⟩ := RP.opt q4
    exact ho' (hd O ρ4 σ) pins s4 σ H4 y z' u w' Q I4 r2 r4 ⟨d2, d4, k2, Dp.same e4.same _ _ dp2, dp4, rep4.trk, hk2, q5 (.bl k2) _ rep4 ((e1.trans e2).trans e4) (.bl _)⟩
/-- a value that is a bool, as a test -/
theorem q_tb (h : QE X W e f) (he : ∀ whole, isTrue e X.env whole = (do let v ← whole; standAt e.pos; holding [v] (truthy v)) := by intro _; rfl) : QT X W e (tb f) := fun O => by
  refine ⟨fun pins s σ H Q I ⟨ρ, r, hw⟩ => ?_⟩
  refine isTrue_plain (thn ((h O).run pins s σ H _ I (tE.app r hw)) fun v s1 ⟨x, H1, I1, r1, d, ρ1, rep1, e1, dp1, q1⟩ => ?_) (he _)
  obtain ⟨b, hb, q⟩ := RP.opt q1
  cases d with
  | bool b' =>
    cases hb
    obtain rfl := Dp.bl_of dp1
    cases r1
    exact wpAny_truthy_bool ⟨H1, I1, q _ rep1 e1⟩
  | _ => cases hb
/-- a value's truth -/
theorem q_tru (h : QE X W e f) (he : ∀ whole, isTrue e X.env whole = (do let v ← whole; standAt e.pos; holding [v] (truthy v)) := by intro _; rfl) : QT X W e (tru f) := fun O => by
  refine ⟨fun pins s σ H Q I ⟨ρ, r, hw⟩ => ?_⟩
  refine isTrue_plain (thn ((h O).run pins s σ H _ I (tE.app r hw)) fun v s1 ⟨x, H1, I1, r1, d, ρ1, rep1, e1, dp1, q1⟩ => ?_) (he _)
  obtain ⟨b, hb, q⟩ := RP.opt q1
  refine tru_ok pins s1 σ H1 x v Q I1 r1 ⟨b, ?_, q _ rep1 e1⟩
  cases d with
  | none => cases hb; obtain rfl := Dp.non_of dp1; rfl
  | bool _ => cases hb; obtain rfl := Dp.bl_of dp1; rfl
  | int _ => cases hb; obtain rfl := Dp.int_of dp1; rfl
  | str y =>
    have hb' : (if y.length ≤ sizeLine then some ((y.length : Int) != 0) else none) = some b := hb
    by_cases hz : y.length ≤ sizeLine
    · rw [if_pos hz] at hb'
      cases hb'
      obtain rfl := Dp.str_of dp1
      exact ⟨hz, rfl⟩
    · rw [if_neg hz] at hb'
      cases hb'
  | list ds =>
    cases hb
    obtain ⟨a, xs, rfl, h1, h2⟩ := Dp.list_of dp1
    refine .inl ⟨xs, hid_le.seq h1, ?_⟩
    cases h2 <;> rfl
  | tuple ds =>
    cases hb
    obtain ⟨a, xs, rfl, h1, h2⟩ := Dp.tuple_of dp1
    refine .inr (.inl ⟨xs, seqT_same hid_le h1, ?_⟩)
    cases h2 <;> rfl
  | dict _ => cases hb
/-- a test within and, or -/
def QW (X : Cx) (W : XK) (e : Expr) (f : M Bool) : Prop := ∀ O, PW X e (tT X.K O W f)
theorem QW.qt (h : QW X W e t) : QT X W e t := fun O => (h O).pt
theorem q_and1 (ha : QT X W a t) : QW X W (.BoolOp .And [a] pos) t := fun O => pw_and1 (ha O)
theorem q_or1 (ha : QT X W a t) : QW X W (.BoolOp .Or [a] pos) t := fun O => pw_or1 (ha O)
theorem q_and (ha : QT X W a t1) (hb : QW X W (.BoolOp .And (b :: es) pos) t2) : QW X W (.BoolOp .And (a :: b :: es) pos) (andM t1 t2) := fun O => by
  refine ⟨fun wh pins s σ H Q I ⟨ρ, r, h⟩ => ?_⟩
  refine isTrue_and (thn ((ha O).run pins s σ H _ I (tT.app r h)) fun k s1 ⟨H1, I1, ρ1, rep1, e1, q1⟩ => ?_)
  cases k with
  | true => exact (hb O).run wh pins s1 σ H1 Q I1 ⟨ρ1, rep1, RP.mono (show RP (t2 ρ1) _ _ from q1) (fun b ρ' q H' r' e' => q H' r' (e1.trans e')) fun x q => q⟩
  | false => exact ⟨H1, I1, q1 _ rep1 e1⟩
theorem q_or (ha : QT X W a t1) (hb : QW X W (.BoolOp .Or (b :: es) pos) t2) : QW X W (.BoolOp .Or (a :: b :: es) pos) (orM t1 t2) := fun O => by
  refine ⟨fun wh pins s σ H Q I ⟨ρ, r, h⟩ => ?_⟩
  refine isTrue_or (thn ((ha O).run pins s σ H _ I (tT.app r h)) fun k s1 ⟨H1, I1, ρ1, rep1, e1, q1⟩ => ?_)
  cases k with
  | true => exact ⟨H1, I1, q1 _ rep1 e1⟩
  | false => exact (hb O).run wh pins s1 σ H1 Q I1 ⟨ρ1, rep1, RP.mono (show RP (t2 ρ1) _ _ from q1) (fun b ρ' q H' r' e' => q H' r' (e1.trans e')) fun x q => q⟩
theorem q_not (ha : QT X W a t) : QT X W (.UnaryOp .Not a pos) (notM t) := fun O => by
  refine ⟨fun pins s σ H Q I ⟨ρ, r, h⟩ => ?_⟩
  refine isTrue_not ((ha O).run pins s σ H (fun c H1 => Q (!c) H1) I ?_)
  exact tT.mono (tT.app r h) fun c H1 ⟨ρ1, rep1, e1, q⟩ => q H1 rep1 e1
/-- as values -/
theorem q_oneV {op} (h : QE X W a f) : QE X W (.BoolOp op [a] pos) f := fun O => pe_one (h O)
theorem q_andV (ha : QE X W a f1) (hb : QE X W (.BoolOp .And (b :: es) pos) f2) : QE X W (.BoolOp .And (a :: b :: es) pos) (andV f1 f2) := fun O => (pe_and (ha O) (hb O)).weak fun σ H Q ⟨ρ, r, h⟩ => by
  refine tE.mono (tE.app r (RP.bind h)) fun v H1 ⟨d, ρ1, rep1, e1, dp1, q1⟩ => ?_
  obtain ⟨b, hb, q⟩ := RP.opt q1
  cases d with
  | bool b' =>
    cases hb
    obtain rfl := Dp.bl_of dp1
    refine ⟨_, rfl, ?_⟩
    cases b with
    | true => exact ⟨ρ1, rep1, RP.mono (show RP (f2 ρ1) _ _ from q) (fun b ρ' q v H' r' e' dp => q v H' r' (e1.trans e') dp) fun x q => ErrK.back q e1⟩
    | false => exact q _ _ rep1 e1 (.bl false)
  | _ => cases hb
theorem q_orV (ha : QE X W a f1) (hb : QE X W (.BoolOp .Or (b :: es) pos) f2) : QE X W (.BoolOp .Or (a :: b :: es) pos) (orV f1 f2) := fun O => (pe_or (ha O) (hb O)).weak fun σ H Q ⟨ρ, r, h⟩ => by
  refine tE.mono (tE.app r (RP.bind h)) fun v H1 ⟨d, ρ1, rep1, e1, dp1, q1⟩ => ?_
  obtain ⟨b, hb, q⟩ := RP.opt q1
  cases d with
  | bool b' =>
    cases hb
    obtain rfl := Dp.bl_of dp1
    refine ⟨_, rfl, ?_⟩
    cases b with
    | false => exact ⟨ρ1, rep1, RP.mono (show RP (f2 ρ1) _ _ from q) (fun b ρ' q v H' r' e' dp => q v H' r' (e1.trans e') dp) fun x q => ErrK.back q e1⟩
    | true => exact q _ _ rep1 e1 (.bl true)
  | _ => cases hb
theorem q_notV (ha : QE X W a f) : QE X W (.UnaryOp .Not a pos) (notV f) := fun O => (pe_not (ha O)).weak fun σ H Q ⟨ρ, r, h⟩ => by
  refine tE.mono (tE.app r (RP.bind h)) fun v H1 ⟨d, ρ1, rep1, e1, dp1, q1⟩ => ?_
  obtain ⟨b, hb, q⟩ := RP.opt q1
  cases d with
  | bool b' =>
    cases hb
    obtain rfl := Dp.bl_of dp1
    exact ⟨_, rfl, q _ _ rep1 e1 (.bl _)⟩
  | _ => cases hb
theorem q_ifE (hc : QT X W c t) (ha : QE X W a f1) (hb : QE X W b f2) : QE X W (.IfExp c a b pos) (iteM t f1 f2) := fun O => (pe_ifExp (hc O) (ha O) (hb O)).weak fun σ H Q ⟨ρ, r, h⟩ => by
  refine tT.mono (tT.app r h) fun k H1 ⟨ρ1, rep1, e1, q1⟩ => ?_
  cases k with
  | true => exact ⟨ρ1, rep1, RP.mono (show RP (f1 ρ1) _ _ from q1) (fun b ρ' q v H' r' e' dp => q v H' r' (e1.trans e') dp) fun x q => q⟩
  | false => exact ⟨ρ1, rep1, RP.mono (show RP (f2 ρ1) _ _ from q1) (fun b ρ' q v H' r' e' dp => q v H' r' (e1.trans e') dp) fun x q => q⟩
/-! arguments, displays -/
theorem qa_nil : QA X W [] args0 := fun O => pa_nil.weak fun σ H Q ⟨ρ, r, h⟩ => h [] H r Ext.refl .nil
theorem qa_cons (ha : QE X W e f) (hr : QA X W es fs) (hs : starEach (e :: es) X.env = (false, eval e X.env) :: starEach es X.env := by rfl) : QA X W (e :: es) (argsC f fs) := fun O => (pa_cons (ha O) (hr O) hs).weak fun σ H Q ⟨ρ, r, h⟩ => by
  refine tE.mono (tE.app r h) fun v H1 ⟨d, ρ1, rep1, e1, dp1, q1⟩ => ?_
  refine tA.mono (tA.app rep1 q1) fun vs H2 ⟨ds, ρ2, rep2, e2, dp2, q2⟩ => ?_
  exact q2 (v :: vs) H2 rep2 (e1.trans e2) (.cons (Dp.same e2.same _ _ dp1) dp2)
theorem q_tup {x1} (h : QA X W es fs) : QE X W (.Tuple es x1 pos) (tupM fs) := fun O => (pe_tup (h O)).weak fun σ H Q ⟨ρ, r, h⟩ => by
  refine tA.mono (tA.app r h) fun vs H1 ⟨ds, ρ1, rep1, e1, dp1, q1⟩ => ?_
  obtain ⟨z, hz, q⟩ := RP.opt q1
  split at hz
  · rename_i hl
    cases hz
    refine ⟨by rw [dp1.length]; exact hl, fun p hp => q _ _ (rep1.same (.of (same_new hp))) (e1.trans (Ext.of_same (.of (same_new hp)))) (Dp.newT rep1.trk hp dp1)⟩
  · cases hz
theorem q_lst (h : QA X W es fs) : QE X W (.List es pos) (lstM fs) := fun O => (pe_lst (h O)).weak fun σ H Q ⟨ρ, r, h⟩ => by
  refine tA.mono (tA.app r h) fun vs H1 ⟨ds, ρ1, rep1, e1, dp1, q1⟩ => ?_
  obtain ⟨z, hz, q⟩ := RP.opt q1
  split at hz
  · rename_i hl
    cases hz
    refine ⟨by rw [dp1.length]; exact hl, fun p hp => q _ _ (rep1.same (.of (same_new hp))) (e1.trans (Ext.of_same (.of (same_new hp)))) (Dp.newL rep1.trk hp dp1)⟩
  · cases hz
/-! subscripts, slices -/
theorem q_ix {g : D → D → Option D} (hr : ∀ O, IxR X (rD X.K O g)) (ha : QE X W a f1) (hb : QE X W b f2) (hs : PlainIx b := by exact fun _ _ => rfl) : QE X W (.Subscript a b pos) (op2 g f1 f2) := fun O =>
  ⟨fun pins s σ H Q I h => by
    obtain ⟨ρ, r, h⟩ := h
    refine Subscript_ (thn ((ha O).run pins s σ H _ I (tE.app r h)) fun v s1 ⟨x, H1, I1, r1, d, ρ1, rep1, e1, dp1, q1⟩ => ?_)
    refine thn ((hb O).run pins s1 σ H1 _ I1 (tE.app rep1 q1)) fun u s2 ⟨y, H2, I2, r2, d2, ρ2, rep2, e2, dp2, q2⟩ => ?_
    obtain ⟨z, hz, q⟩ := RP.opt q2
    exact hr (hd O ρ2 σ) a b pins s2 σ H2 x y v u Q I2 r1 r2 ⟨d, d2, z, Dp.same e2.same _ _ dp1, dp2, rep2.trk, hz, hasV_end rep2 (e1.trans e2) q⟩ (hs _ _)⟩
end
end QL
set_option Elab.async false
set_option linter.all false
set_option maxRecDepth 100000
set_option maxHeartbeats 4000000
/-! Q5: slices, calls. -/
namespace QL
open PySem PySem.Spec PyProof.Rows L2
variable [LawTabs]

theorem fm_congr {α β : Type} {f g : α → Option β} : ∀ (l : List α), (∀ a ∈ l, f a = g a) → l.filterMap f = l.filterMap g
  | [], _ => rfl
  | a :: r, h => by
    rw [List.filterMap_cons, List.filterMap_cons, h a List.mem_cons_self, fm_congr r fun b hb => h b (List.mem_cons_of_mem _ hb)]
/-! ### t[::-1] of a tuple -/
section
variable {prog : Program} {w : World} {A : Around} {E : Value → Shared → Prop} {s : Shared}
theorem sliceApplied_rev {sl : Addr} {vs : Value} {n : Nat} {Q : Int × Int × Nat → Shared → Prop} (hs : s.heap.IsSliceOf sl .none .none vs) (ps : IsPart vs (some (-1))) (h : Q ((n : Int) - 1, -1, n) s) :
    wpAny (model prog w) A (Builtin.Slice.sliceApplied (.ref sl) (pure (n : Int))) Q E s := by
  obtain ⟨os, hos, hcs, hds⟩ := id hs
  unfold Builtin.Slice.sliceApplied Builtin.Slice.sliceFields
  refine wpAny_bind (wpAny_bind (wpAny_field hos hds (x := .none) rfl (wpAny_bind (wpAny_field hos hds (x := .none) rfl (wpAny_bind (wpAny_field hos hds (x := vs) rfl (wpAny_pure ?_)))))))
  refine wpAny_bind (HT.slicePart_ ps ?_)
  show wpAny _ _ (if ((-1 : Int) == 0) = true then _ else _) _ _ s
  rw [if_neg (by decide)]
  refine wpAny_bind (slicePart_none (wpAny_bind (slicePart_none (wpAny_bind (wpAny_pure ?_)))))
  have e1 : Builtin.Slice.sliceAdjust none none (-1) (n : Int) = ((n : Int) - 1, -1) := by
    unfold Builtin.Slice.sliceAdjust
    simp
  show wpAny _ _ (match Builtin.Slice.sliceAdjust none none (-1) (n : Int) with | (lo, hi) => pure (lo, (-1 : Int), Builtin.Slice.slicePlaces lo hi (-1))) _ _ s
  rw [e1]
  show wpAny _ _ (pure ((n : Int) - 1, (-1 : Int), Builtin.Slice.slicePlaces ((n : Int) - 1) (-1) (-1))) _ _ s
  have e2 : Builtin.Slice.slicePlaces ((n : Int) - 1) (-1) (-1) = n := by
    unfold Builtin.Slice.slicePlaces
    have h1 : ¬ ((-1 : Int) > 0) := by omega
    simp only [h1, if_false]
    by_cases c : (n : Int) - 1 > -1
    · simp only [c, if_true]
      have : (- -1 : Int) = 1 := by omega
      rw [this, Int.ediv_one]
      omega
    · simp only [c, if_false]
      omega
  rw [e2]
  exact wpAny_pure h
theorem pick_rev (xs : Array Value) : ((List.range xs.size).filterMap fun (k : Nat) => xs[(((xs.size : Nat) : Int) - 1 + (k : Int) * -1).toNat]?).toArray = xs.toList.reverse.toArray := by
  have e : (List.range xs.size).filterMap (fun (k : Nat) => xs[(((xs.size : Nat) : Int) - 1 + (k : Int) * -1).toNat]?) = ((List.range xs.size).map fun k => xs.size - 1 - k).filterMap (xs[·]?) := by
    rw [List.filterMap_map]
    apply fm_congr
    intro k hk
    have := List.mem_range.mp hk
    show xs[(((xs.size : Nat) : Int) - 1 + (k : Int) * -1).toNat]? = xs[xs.size - 1 - k]?
    congr 1
    omega
  rw [e, PySem.W.krv_range, List.filterMap_reverse, PySem.W.krv_all]
theorem getItem_tuple_rev {t sl : Addr} {items : Array Value} {vs : Value} {Q : Value → Shared → Prop} (ht : IsTup s.heap t items) (hs : s.heap.IsSliceOf sl .none .none vs) (ps : IsPart vs (some (-1)))
    (h : Q (.ref s.heap.objs.size) { s with heap := s.heap.push { cls := .type "tuple", data := .seq items.toList.reverse.toArray } })
    (hsz : items.size ≤ sizeLine) : wpAny (model prog w) A (getItem (.ref t) (.ref sl)) Q E s := by
  have htake : sizeOk (.seq items.toList.reverse.toArray) := by
    show items.toList.reverse.toArray.size ≤ sizeLine
    rw [List.size_toArray, List.length_reverse, Array.length_toList]
    exact hsz
  obtain ⟨os, hos, hcs, hds⟩ := id hs
  have hTs : s.TypeIs (.ref sl) "slice" := ⟨os, hos, hcs⟩
  unfold getItem
  try with_reducible refine wpAny_holding ?_
  first | refine wpAny_bind (wpAny_pure ?_) | skip
  refine wpAny_bind (wpAny_sequenceKey ht.typeIs (by decide) ?_)
  refine wpAny_bind (wpAny_callSpecial?_slot (name := Str.ofString "__getitem__") ht.typeIs PyProof.Rows.slot_tuple_getitem
    (wpAny_call_entry PyProof.Rows.slot_tuple_getitem ht.typeIs entry_tuple_getitem ?_ (args_tuple_getitem _ _)))
  show wpAny _ _ (Builtin.Tuple.tupleItemsOf (.ref t) >>= _) _ _ s
  refine wpAny_bind (tupleItemsOf_ ht ?_)
  refine wpAny_bind (wpAny_typeOf hTs ?_)
  rw [if_pos (by decide)]
  refine wpAny_bind (sliceApplied_rev hs ps ?_)
  have hno : ¬ ((((items.size : Int) - 1) == 0 && (-1 : Int) == 1 && items.size == items.size) = true) := by
    intro q
    rw [Bool.and_eq_true, Bool.and_eq_true] at q
    exact absurd q.1.2 (by decide)
  show wpAny _ _ (if (((items.size : Int) - 1) == 0 && (-1 : Int) == 1 && items.size == items.size) = true then _ else _) _ _ s
  rw [if_neg hno, pick_rev]
  first
    | exact wpAny_bind (m := Builtin.Tuple.tupleExact _) (wpAny_newObj_type (wpAny_pure ⟨_, rfl, wpAny_pure h⟩) htake)
    | exact wpAny_bind (m := Builtin.Tuple.tupleExact _) (wpAny_newObj_type (wpAny_bind (wpAny_pure (wpAny_pure ⟨_, rfl, wpAny_pure h⟩))) htake)
    | exact wpAny_bind (wpAny_bind (m := Builtin.Tuple.tupleExact _) (wpAny_newObj_type (wpAny_pure (wpAny_pure ⟨_, rfl, wpAny_pure h⟩)) htake))
    | exact wpAny_bind (wpAny_bind (m := Builtin.Tuple.tupleExact _) (wpAny_newObj_type (wpAny_pure ⟨_, rfl, wpAny_pure h⟩) htake))
end
/-- the items at lo, lo + c, .. -/
def pickL {α : Type} (xs : List α) (lo hi st : Option Int) : List α :=
  let b := sliceBounds lo hi st xs.length
  (sliceRange b.1 b.2.1 b.2.2).filterMap (xs[·]?)
def revD : D → Option D
  | .list ds => some (.list ds.reverse)
  | .tuple ds => some (.tuple ds.reverse)
  | _ => none
section
variable {X : Cx} {W : XK} {e : Expr} {f : M D}
/-- xs[::-1] -/
theorem q_rev {k : Nat} {p1 p2 p3 pos : Pos} (he : QE X W e f) : QE X W (.Subscript e (.Slice none none (some (.UnaryOp .USub (.Constant (.int 1) k p1) p2)) p3) pos) (op1 revD f) := fun O => by
  refine ⟨fun pins s σ H Q I ⟨ρ, r, h⟩ => ?_⟩
  refine Subscript_ (thn ((he O).run pins s σ H _ I (tE.app r h)) fun v s1 ⟨x, H1, I1, r1, d, ρ1, rep1, e1, dp1, q1⟩ => ?_)
  obtain ⟨z, hz, q⟩ := RP.opt q1
  have hst : PO X (some (.UnaryOp .USub (.Constant (.int 1) k p1) p2)) (tPart (tUn (L2.rU fun i => .int (-i)) (tC (.int 1)))) := po_some (pe_un un_neg pe_int)
  refine wpAny_Slice (thn (po_none.run pins s1 σ H1 (fun o H2 => o = none ∧ H2 = H1) I1 ⟨rfl, rfl⟩) fun vl s2 ⟨l, H2, I2, pl, el, e2⟩ => ?_)
  subst el e2
  refine thn (po_none.run pins s2 σ _ (fun o H3 => o = none ∧ H3 = H2) I2 ⟨rfl, rfl⟩) fun vu s3 ⟨u, H3, I3, pu, eu, e3⟩ => ?_
  subst eu e3
  refine thn (hst.run pins s3 σ _ (fun o H4 => o = some (-1) ∧ H4 = H3) I3 ⟨1, rfl, -1, rfl, rfl, rfl⟩) fun vs s4 ⟨o, H4, I4, ps, eo, e4⟩ => ?_
  subst eo e4
  have I5 : Inv X pins σ H4 { s4 with heap := s4.heap.push { cls := .type "slice", data := .fields #[vl, vu, vs] } } := I4.kept (t' := s4.toks) fun b ob q => Heap.get?_push_of_some _ q
  cases pl
  cases pu
  unfold revD at hz
  split at hz
  · cases hz
    obtain ⟨a, xs, rfl, h1, h2⟩ := Dp.list_of dp1
    cases r1
    obtain ⟨its, r, ht, hz⟩ := I5.list (hid_le.seq h1)
    have hlen := r.length
    show wpAny (model X.prog X.w) X.A (subscriptTail e (.Slice none none (some (.UnaryOp .USub (.Constant (.int 1) k p1) p2)) p3) (.ref a) (.ref s4.heap.objs.size)) (EP X pins σ Q) X.xe { s4 with heap := s4.heap.push { cls := .type "slice", data := .fields #[.none, .none, vs] } }
    refine tail_any (ops := [.ref a, .ref s4.heap.objs.size]) ht.isList.typeIs (PySem.slot_list_getitem.lookup) ?_ (by with_unfolding_all rfl)
    refine wpAny_getItem_list_slice ht.isList (Heap.IsSliceOf.new _ .none .none vs) .none .none ps (by decide) ?_ (by rw [List.size_toArray]; omega)
    rw [PySem.W.krv_pick]
    have hp := I5.hok.fresh (Nat.le_refl _)
    refine ⟨.ref _, _, I5.laid (t' := s4.toks) (o := .lst xs.reverse) (fun b ob q => Heap.get?_push_of_some _ q) (Nat.le_refl _) ?_, rfl, hasV_end rep1 e1 q _ _ (.of (same_new hp)) (Dp.newL rep1.trk hp h2.reverse)⟩
    exact ⟨by rw [List.length_reverse]; exact hz, _, 0, r.reverse, Heap.get?_push_size _ rfl⟩
  · cases hz
    obtain ⟨a, xs, rfl, h1, h2⟩ := Dp.tuple_of dp1
    cases r1
    obtain ⟨its, r, ht, hz⟩ := I5.tuple (seqT_same hid_le h1)
    have hlen := r.length
    show wpAny (model X.prog X.w) X.A (subscriptTail e (.Slice none none (some (.UnaryOp .USub (.Constant (.int 1) k p1) p2)) p3) (.ref a) (.ref s4.heap.objs.size)) (EP X pins σ Q) X.xe { s4 with heap := s4.heap.push { cls := .type "slice", data := .fields #[.none, .none, vs] } }
    refine tail_any (ops := [.ref a, .ref s4.heap.objs.size]) ht.typeIs (PyProof.Rows.slot_tuple_getitem.lookup) ?_ (by with_unfolding_all rfl)
    refine getItem_tuple_rev ht (Heap.IsSliceOf.new _ .none .none vs) ps ?_ (by rw [List.size_toArray]; omega)
    have hp := I5.hok.fresh (Nat.le_refl _)
    refine ⟨.ref _, _, I5.laid (t' := s4.toks) (o := .tup xs.reverse) (fun b ob q => Heap.get?_push_of_some _ q) (Nat.le_refl _) ?_, rfl, hasV_end rep1 e1 q _ _ (.of (same_new hp)) (Dp.newT rep1.trk hp h2.reverse)⟩
    exact ⟨by rw [List.length_reverse]; exact hz, _, r.reverse, ⟨_, Heap.get?_push_size _ rfl, rfl, _, rfl⟩⟩
  · cases hz
end

/-! ### slices, built-ins, methods, isinstance -/
section
variable {X : Cx} {W : XK} {e o : Expr} {es : List Expr} {f f1 f2 : M D} {fs : M (List D)} {pos : Pos}
/-- a slice's part -/
def tO (K : PySem.W.Frag) (O : Addr → Prop) (W : XK) (f : M (Option Int)) : TO := fun σ H Q => ∃ ρ, Rep K O ρ σ H ∧
  RP (f ρ) (fun o ρ' => ∀ H', Rep K O ρ' σ H' → Ext [] ρ σ H ρ' σ H' → Q o H') (ErrK K W ρ σ H)
def QO (X : Cx) (W : XK) (e : Option Expr) (f : M (Option Int)) : Prop := ∀ O, PO X e (tO X.K O W f)
theorem tO.app {K : PySem.W.Frag} {O : Addr → Prop} {β : Type} {a : M (Option Int)} {f : Option Int → M β} {σ : Sg} {H : Hp} {ρ : Rho} {k : β → Rho → Prop} (r : Rep K O ρ σ H) (h : RP (M.bind a f ρ) k (ErrK K W ρ σ H)) :
    tO K O W a σ H fun b H1 => ∃ ρ1, Rep K O ρ1 σ H1 ∧ Ext [] ρ σ H ρ1 σ H1 ∧ RP (f b ρ1) k (ErrK K W ρ1 σ H1) :=
  ⟨ρ, r, RP.mono (RP.bind h) (fun d ρ1 q H1 r1 e1 => ⟨ρ1, r1, e1, RP.mono q (fun _ _ z => z) fun x q' => ErrK.back q' e1⟩) fun x q => q⟩
theorem qo_none : QO X W none noPart := fun O => by
  refine ⟨fun pins s σ H Q I ⟨ρ, r, h⟩ => ?_⟩
  rw [evalPart_none]
  exact wpAny_pure ⟨none, H, I, .none, h H r Ext.refl⟩
theorem qo_some (he : QE X W e f) : QO X W (some e) (somePart f) := fun O => by
  refine ⟨fun pins s σ H Q I ⟨ρ, r, h⟩ => ?_⟩
  rw [evalPart_some]
  refine thn ((he O).run pins s σ H _ I (tE.app r h)) fun u s1 ⟨x, H1, I1, r1, d, ρ1, rep1, e1, dp1, q1⟩ => ?_
  obtain ⟨b, hb, q⟩ := RP.opt q1
  cases d with
  | int i =>
    cases hb
    obtain rfl := Dp.int_of dp1
    obtain ⟨t, rfl⟩ := r1
    exact ⟨some i, H1, I1, .int i t, q _ rep1 e1⟩
  | _ => cases hb
theorem q_slice {lo hi : Option Expr} {p2 : Pos} {l h : M (Option Int)} (he : QE X W e f) (hl : QO X W lo l) (hu : QO X W hi h) : QE X W (.Subscript e (.Slice lo hi none p2) pos) (slM f l h) := fun O => by
  refine ⟨fun pins s σ H Q I ⟨ρ, r, hw⟩ => ?_⟩
  refine Subscript_ (thn ((he O).run pins s σ H _ I (tE.app r hw)) fun v s1 ⟨x, H1, I1, r1, d, ρ1, rep1, e1, dp1, q1⟩ => ?_)
  refine wpAny_Slice (thn ((hl O).run pins s1 σ H1 _ I1 (tO.app rep1 q1)) fun vl s2 ⟨lo, H2, I2, pl, ρ2, rep2, e2, q2⟩ => thn ((hu O).run pins s2 σ H2 _ I2 (tO.app rep2 q2)) fun vu s3 ⟨hi, H3, I3, pu, ρ3, rep3, e3, q3⟩ => ?_)
  obtain ⟨z, hz, q⟩ := RP.opt q3
  rw [evalPart_none]
  refine wpAny_pure ?_
  have I4 : Inv X pins σ H3 { s3 with heap := s3.heap.push { cls := .type "slice", data := .fields #[vl, vu, .none] } } := I3.kept (t' := s3.toks) fun b ob q => Heap.get?_push_of_some _ q
  obtain ⟨T, id, hT, ht, hg⟩ := sl_D (O := hd O ρ3 σ) pins { s3 with heap := s3.heap.push { cls := .type "slice", data := .fields #[vl, vu, .none] } } σ H3 x v vl vu lo hi s3.heap.objs.size Q I4 r1 (Heap.IsSliceOf.new ..) pl pu
    ⟨d, z, Dp.same e3.same _ _ (Dp.same e2.same _ _ dp1), rep3.trk, hz, hasV_end rep3 ((e1.trans e2).trans e3) q⟩
  exact tail_any (ops := [.ref s3.heap.objs.size, v]) ht hT hg (by with_unfolding_all rfl)
/-! built-ins -/
theorem q_callB {x : Str} {id : String} {g : List D → Option D} {p : Pos} (hc : ∀ O, CallR X (.builtin id) (rC X.K O g)) (hg : Gl X x) (hm : X.mg x = none) (hv : bootBuiltins x = some (.builtin id)) (ha : QA X W (e :: es) fs) (hn : x ≠ "__name__" := by decide) (hdb : (x == ("__debug__" : Str)) = false := by decide)
    (he : starEach (e :: es) X.env = (false, eval e X.env) :: starEach es X.env := by rfl) (hpl : (backTo pos (starEach es X.env)).any (·.1) = false := by rfl) : QE X W (.Call (.Name x p) (e :: es) [] pos) (callB g fs) := fun O => by
  refine ⟨fun pins s σ H Q I ⟨ρ, r, h⟩ => ?_⟩
  refine wpAny_Call_Name_kw (ld_blt I hg hm hv ?_ hn hdb)
  refine PyProof.Rows.callWith_builtin1 (thn ((ha O).run pos pins s σ H _ I (tA.app r h)) fun us s1 ⟨vs, H1, I1, r1, ds, ρ1, rep1, e1, dp1, q1⟩ => ?_) he hpl
  obtain ⟨z, hz, q⟩ := RP.opt q1
  exact hc (hd O ρ1 σ) pins s1 σ H1 vs us Q I1 r1 ⟨ds, z, dp1, rep1.trk, hz, hasV_end rep1 e1 q⟩
theorem q_callT {x : Str} {T : String} {g : List D → Option D} {p : Pos} (hc : ∀ O, CallR X (.type T) (rC X.K O g)) (hg : Gl X x) (hm : X.mg x = none) (hv : bootBuiltins x = some (.type T)) (ha : QA X W (e :: es) fs) (hn : x ≠ "__name__" := by decide) (hdb : (x == ("__debug__" : Str)) = false := by decide)
    (he : starEach (e :: es) X.env = (false, eval e X.env) :: starEach es X.env := by rfl) (hpl : (backTo pos (starEach es X.env)).any (·.1) = false := by rfl) : QE X W (.Call (.Name x p) (e :: es) [] pos) (callB g fs) := fun O => by
  refine ⟨fun pins s σ H Q I ⟨ρ, r, h⟩ => ?_⟩
  refine wpAny_Call_Name_kw (ld_blt I hg hm hv ?_ hn hdb)
  refine PyProof.Rows.callWith_type1 (thn ((ha O).run pos pins s σ H _ I (tA.app r h)) fun us s1 ⟨vs, H1, I1, r1, ds, ρ1, rep1, e1, dp1, q1⟩ => ?_) he hpl
  obtain ⟨z, hz, q⟩ := RP.opt q1
  exact hc (hd O ρ1 σ) pins s1 σ H1 vs us Q I1 r1 ⟨ds, z, dp1, rep1.trk, hz, hasV_end rep1 e1 q⟩
/-- isinstance(e, T) -/
theorem q_isi {T : String} {y : Str} {p p2 : Pos} (hg : Gl X "isinstance") (hm : X.mg "isinstance" = none) (he : QE X W e f) (hg2 : Gl X y) (hm2 : X.mg y = none) (hv : bootBuiltins y = some (.type T)) (hn : y ≠ "__name__" := by decide) (hdb : (y == ("__debug__" : Str)) = false := by decide)
    (hs : starEach [e, .Name y p2] X.env = (false, eval e X.env) :: starEach [.Name y p2] X.env := by rfl) (hs2 : starEach [.Name y p2] X.env = (false, eval (.Name y p2) X.env) :: starEach [] X.env := by rfl) (hpl : (backTo pos (starEach [.Name y p2] X.env)).any (·.1) = false := by rfl) : QE X W (.Call (.Name "isinstance" p) [e, .Name y p2] [] pos) (op1 (isTy T) f) := fun O => by
  refine ⟨fun pins s σ H Q I ⟨ρ, r, h⟩ => ?_⟩
  have pt : PE X (.Name y p2) (tC (.ty T)) := pe_bltn hg2 hm2 hv rfl hn hdb
  refine wpAny_Call_Name_kw (ld_blt I hg hm (by decide +kernel : bootBuiltins "isinstance" = some (.builtin "isinstance")) ?_)
  refine PyProof.Rows.callWith_builtin1 (thn ((pa_cons (he O) (pa_cons pt pa_nil hs2) hs).run pos pins s σ H (fun vs H1 => ∃ v, vs = [v, .ty T] ∧ ∃ d ρ1, Rep X.K O ρ1 σ H1 ∧ Ext [] ρ σ H ρ1 σ H1 ∧ Dp X.K (hid H1 (hd O ρ1 σ)) v d ∧ RP (M.opt (isTy T d) ρ1) (fun d ρ' => ∀ v H', Rep X.K O ρ' σ H' → Ext [] ρ σ H ρ' σ H' → Dp X.K (hid H' (hd O ρ' σ)) v d → Q v H') (ErrK X.K W ρ1 σ H1)) I
    (tE.mono (tE.app r h) fun v H1 q => ⟨v, rfl, q⟩)) fun us s1 ⟨vs, H1, I1, r1, v, ev, d, ρ1, rep1, e1, dp1, q1⟩ => ?_) hs hpl
  subst ev
  obtain ⟨u, w', rfl, r2, r3⟩ := vals2 r1
  cases r3
  obtain ⟨z, hz, q⟩ := RP.opt q1
  exact isi_D (O := hd O ρ1 σ) T I1 r2 dp1 hz (hasV_end rep1 e1 q)
/-- x.m(e, ..) of a list, a text -/
theorem q_meth {T id : String} {nm : Str} {g : D → List D → Option D} {apos cpos : Pos} (pa : PlainAttrs T) (slot : Slot T nm id) (hty : typeOf (.builtin id) = pure (.type "method_descriptor")) (hm : ∀ O, MtR X id (rM X.K O g)) (hT : T = "list" ∨ T = "str") (ho : QE X W o f) (ha : QA X W (e :: es) fs)
    (hbase : attributeBase o nm X.env (eval o X.env) = eval o X.env := by rfl)
    (hfew : ((backTo cpos (starEach (e :: es) X.env)).all (fun x => !x.1) && (backToKw cpos (keywordEach [] X.env)).all (fun x => x.1.isSome)
      && decide ((e :: es).length + ([] : List Keyword).length + (if ([] : List Keyword).isEmpty then 0 else 1) < 30)) = true := by rfl)
    (hline : (apos.endLine == cpos.line) = true := by rfl) (hs : starEach (e :: es) X.env = (false, eval e X.env) :: starEach es X.env := by rfl) (hplain : (backTo cpos (starEach es X.env)).any (·.1) = false := by rfl) :
    QE X W (.Call (.Attribute o nm apos) (e :: es) [] cpos) (methB T g f fs) := fun O => by
  refine ⟨fun pins s σ H Q I ⟨ρ, r, h⟩ => ?_⟩
  refine wpAny_Call_method_late hbase hfew hline rfl (thn ((ho O).run pins s σ H _ I (tE.app r h)) fun v s1 ⟨x, H1, I1, r1, d, ρ1, rep1, e1, dp1, q1⟩ => ?_)
  by_cases ht : tyNm d = T
  · have q1' : RP (M.bind fs (fun xs => M.opt (g d xs)) ρ1) (fun d ρ' => ∀ v H', Rep X.K O ρ' σ H' → Ext [] ρ σ H ρ' σ H' → Dp X.K (hid H' (hd O ρ' σ)) v d → Q v H') (ErrK X.K W ρ1 σ H1) := by
      have z := q1
      simp only [if_pos ht] at z
      exact z
    have ty : tyV X.K T x H1 := by
      cases dp1 with
      | str y => exact ht.symm
      | @lst a xs ds h1 h2 => exact .inl ⟨ht.symm, xs, hid_le.seq h1⟩
      | int _ => exact ht.symm
      | non => rcases hT with z | z <;> (subst z; exact absurd (show ("NoneType" : String) = _ from ht) (by decide))
      | bl _ => rcases hT with z | z <;> (subst z; exact absurd (show ("bool" : String) = _ from ht) (by decide))
      | tup _ _ => rcases hT with z | z <;> (subst z; exact absurd (show ("tuple" : String) = _ from ht) (by decide))
    obtain ⟨h1, h2⟩ := tyV_is I1 r1 ty
    refine ⟨T, id, pa, slot, hty, h1, h2, ?_⟩
    have hA := (ha O).run cpos pins s1 σ H1 _ I1 (tA.app rep1 q1')
    rw [hs] at hA ⊢
    refine Calls.callWith_builtin (by show (false || (backTo cpos (starEach es X.env)).any (·.1)) = false; rw [hplain] <;> rfl) (Calls.evalArgs_plain ?_)
    refine thn hA fun us s2 ⟨vs, H2, I2, r2, ds, ρ2, rep2, e2, dp2, q2⟩ => ?_
    obtain ⟨z, hz, q⟩ := RP.opt q2
    exact hm (hd O ρ2 σ) pins s2 σ H2 x vs v us Q I2 r1 r2 ⟨d, ds, z, Dp.same e2.same _ _ dp1, dp2, rep2.trk, hz, hasV_end rep2 (e1.trans e2) q⟩
  · have z := q1
    simp only [if_neg ht] at z
    exact z.elim
end

/-! ### what a def promises -/
/-- a def of n parameters that gives F -/
def spP (K : PySem.W.Frag) (n : Nat) (F : List D → R D) : Sp := fun vs H Q E => ∃ (O : Addr → Prop) (ds : List D), ds.length = n ∧ DpAll K (hid H O) vs ds ∧ (∀ b, O b → Trk H b) ∧ TabL K H ∧
  match F ds with
  | .stuck => False
  | .ok d => HasV K O d H Q
  | .err x => ∀ cls od H', ErrAt K cls od H' x → SameT H H' → E cls od H'
/-- .. whose first argument is a list that it changes: es ahead, es' behind -/
def spM (K : PySem.W.Frag) (n : Nat) (F : List D → List D → R (D × List D)) : Sp := fun vs H Q E => ∃ (O : Addr → Prop) (l : Addr) (xs : List V) (es : List D) (vr : List V) (ds : List D), vs = .ref l :: vr ∧ ds.length = n ∧ H l = some (.lst xs) ∧ ¬ O l ∧
  DpAll K (hid H fun b => O b ∨ b = l) xs es ∧ DpAll K (hid H fun b => O b ∨ b = l) vr ds ∧ (∀ b, O b → Trk H b) ∧ TabL K H ∧
  match F es ds with
  | .stuck => False
  | .ok (d, es') => ∀ v H' xs', SameX (fun b => b = l) H H' → H' l = some (.lst xs') → DpAll K (hid H' fun b => O b ∨ b = l) xs' es' → Dp K (hid H' fun b => O b ∨ b = l) v d → Q v H'
  | .err x => ∀ cls od H', ErrAt K cls od H' x → SameX (fun b => b = l) H H' → E cls od H'
/-- .. that hands back a new list -/
def spO (K : PySem.W.Frag) (n : Nat) (F : List D → R (List D)) : Sp := fun vs H Q E => ∃ (O : Addr → Prop) (ds : List D), ds.length = n ∧ DpAll K (hid H O) vs ds ∧ (∀ b, O b → Trk H b) ∧ TabL K H ∧
  match F ds with
  | .stuck => False
  | .ok es => ∀ p xs H', ¬ Trk H p → SameT H H' → H' p = some (.lst xs) → DpAll K (hid H' fun b => O b ∨ b = p) xs es → Q (.ref p) H'
  | .err x => ∀ cls od H', ErrAt K cls od H' x → SameT H H' → E cls od H'
def callF (n : Nat) (F : List D → R D) (r : M (List D)) : M D := M.bind r fun ds => if ds.length = n then M.lift (F ds) else M.stuck
section
variable {X : Cx} {W : XK} {e : Expr} {es : List Expr} {fs : M (List D)} {pos : Pos}
/-- f(e, ..) -/
theorem q_call {k n : Nat} {f : Addr} {fd : FuncData} {ps : List Str} {F : List D → R D} {x : Str} {p : Pos} (G : FnOk X.prog X.w X.K X.mg X.base (L2N.CX X.prog X.w) k f fd ps (spP X.K n F)) (hr : Room k X.A) (hp : Passes (L2N.CX X.prog X.w) X W) (hg : Gl X x) (hm : X.mg x = some (.ref f)) (hk : PySem.W.keepIn X.K (.ref f) = true) (hb : Binds X.K fd ps [])
    (ha : QA X W (e :: es) fs) (hdb : (x == ("__debug__" : Str)) = false := by decide) (he : starEach (e :: es) X.env = (false, eval e X.env) :: starEach es X.env := by rfl) (hpl : (backTo pos (starEach es X.env)).any (·.1) = false := by rfl) :
    QE X W (.Call (.Name x p) (e :: es) [] pos) (callF n F fs) := fun O => by
  refine (pe_call G hr hg hm hk hb .nil hp (ha O) hdb he hpl).weak fun σ H Q ⟨ρ, r, h⟩ => ?_
  refine tA.mono (tA.app r h) fun vs H1 ⟨ds, ρ1, rep1, e1, dp1, q1⟩ => ?_
  rw [List.append_nil]
  by_cases hl : ds.length = n
  · simp only [if_pos hl] at q1
    refine ⟨hd O ρ1 σ, ds, hl, dp1, rep1.trk, rep1.tb, ?_⟩
    rcases RP.lift q1 with ⟨d, e, q⟩ | ⟨x, e, q⟩
    · rw [e]
      exact hasV_end rep1 e1 q
    · rw [e]
      exact fun cls od H' hx sm => q cls od H' hx sm.any
  · simp only [if_neg hl] at q1
    exact q1.elim
end
end QL
set_option Elab.async false
set_option linter.all false
set_option maxRecDepth 100000
set_option maxHeartbeats 4000000
/-! Q6: statements. -/
namespace QL
open PySem PySem.Spec PyProof.Rows L2
variable [LawTabs]

/-! ### slots -/
theorem hid_anti {H H' : Hp} {O O' : Addr → Prop} (s : SameT H H') (h : ∀ b, Trk H b → O' b → O b) : Same (hid H O) (hid H' O') := fun b o e => by
  obtain ⟨h1, h2, nt⟩ := hid_some.mp e
  exact hid_some.mpr ⟨fun z => h1 (h b ⟨o, h2, nt⟩ z), s.keep b o id nt h2, nt⟩
section
variable {K : PySem.W.Frag} {O : Addr → Prop} {P : List Nat} {ρ : Rho} {σ : Sg} {H H' : Hp} {i : Nat} {v : V} {d : D} {ds : List D}
theorem set_get {α : Type} {l : List α} {i j : Nat} {a b : α} (h : (l.set i a)[j]? = some b) : (i = j ∧ i < l.length ∧ b = a) ∨ (i ≠ j ∧ l[j]? = some b) := by
  by_cases e : i = j
  · subst e
    by_cases hl : i < l.length
    · rw [List.getElem?_set_self hl] at h
      cases h
      exact .inl ⟨rfl, hl, rfl⟩
    · rw [List.getElem?_eq_none (by simpa using hl)] at h
      cases h
  · rw [List.getElem?_set_ne e] at h
    exact .inr ⟨e, h⟩
theorem own_set_im {ρ : Rho} {s : Sl} {ov : Option V} {b : Addr} (hs : ∀ ds, s ≠ .mu ds) (h : Own (ρ.set i s) (σ.set i ov) b) : Own ρ σ b := by
  obtain ⟨j, ds, h1, h2⟩ := h
  rcases set_get h1 with ⟨_, _, e⟩ | ⟨e, h1⟩
  · exact absurd e.symm (hs ds)
  · rcases set_get h2 with ⟨e', _, _⟩ | ⟨_, h2⟩
    · exact absurd e' e
    · exact ⟨j, ds, h1, h2⟩
/-- a slot takes data -/
theorem Rep.setIm (r : Rep K O ρ σ H) (dp : Dp K (hid H (hd O ρ σ)) v d) : Rep K O (ρ.set i (.im d)) (σ.set i (some v)) H := by
  have ho : ∀ b, Own (ρ.set i (.im d)) (σ.set i (some v)) b → Own ρ σ b := fun b => own_set_im fun ds z => by cases z
  have sm : Same (hid H (hd O ρ σ)) (hid H (hd O (ρ.set i (.im d)) (σ.set i (some v)))) := hid_anti .refl fun b _ z => z.elim (fun z => .inl (ho b z)) .inr
  refine ⟨by rw [List.length_set, List.length_set]; exact r.len, fun j e h => ?_, fun j es h => ?_, fun j k es fs l h1 h2 h3 h4 => ?_, fun b h => r.ap b (ho b h), r.tr, r.tb⟩
  · rcases set_get h with ⟨rfl, hl, e'⟩ | ⟨ne, h⟩
    · cases e'
      exact ⟨v, List.getElem?_set_self (by rw [← r.len]; exact hl), Dp.same sm _ _ dp⟩
    · obtain ⟨w, h1, h2⟩ := r.im j e h
      exact ⟨w, by rw [List.getElem?_set_ne ne]; exact h1, Dp.same sm _ _ h2⟩
  · rcases set_get h with ⟨rfl, hl, e'⟩ | ⟨ne, h⟩
    · cases e'
    · obtain ⟨l, xs, h1, h2, h3⟩ := r.mu j es h
      exact ⟨l, xs, by rw [List.getElem?_set_ne ne]; exact h1, h2, DpAll.same sm _ _ h3⟩
  · rcases set_get h1 with ⟨_, _, e'⟩ | ⟨n1, h1⟩
    · cases e'
    · rcases set_get h2 with ⟨_, _, e'⟩ | ⟨n2, h2⟩
      · cases e'
      · rw [List.getElem?_set_ne n1] at h3
        rw [List.getElem?_set_ne n2] at h4
        exact r.inj j k es fs l h1 h2 h3 h4
theorem Ext.setIm (hP : i ∉ P) : Ext P ρ σ H (ρ.set i (.im d)) (σ.set i (some v)) H :=
  ⟨fun b o _ _ h => h, fun b h => .inl (own_set_im (fun ds z => by cases z) h), fun b h => h, fun j hj => List.getElem?_set_ne (fun e : i = j => hP (by rw [e]; exact hj)), List.length_set, fun t => t⟩
theorem own_set_mu {ρ : Rho} {p b : Addr} (h : Own (ρ.set i (.mu ds)) (σ.set i (some (.ref p))) b) : Own ρ σ b ∨ b = p := by
  obtain ⟨j, es, h1, h2⟩ := h
  rcases set_get h1 with ⟨e, _, _⟩ | ⟨ne, h1⟩
  · subst e
    rcases set_get h2 with ⟨_, _, e⟩ | ⟨ne, _⟩
    · cases e; exact .inr rfl
    · exact absurd rfl ne
  · rw [List.getElem?_set_ne ne] at h2
    exact .inl ⟨j, es, h1, h2⟩
/-- a slot takes a new list of its own -/
theorem Rep.setMu {p : Addr} {xs : List V} (r : Rep K O ρ σ H) (hp : ¬ Trk H p) (sm : SameT H H') (hl : H' p = some (.lst xs)) (hd' : DpAll K (hid H' fun b => hd O ρ σ b ∨ b = p) xs ds) :
    Rep K O (ρ.set i (.mu ds)) (σ.set i (some (.ref p))) H' := by
  have nO : ∀ b, O b → b ≠ p := fun b hb z => hp (z ▸ r.tr b hb)
  have nOwn : ∀ b, Own ρ σ b → b ≠ p := fun b hb z => hp (z ▸ r.trk b (.inl hb))
  have sd : Same (hid H (hd O ρ σ)) (hid H' (hd O (ρ.set i (.mu ds)) (σ.set i (some (.ref p))))) := hid_anti sm fun b hb z => by
    rcases z with z | z
    · rcases own_set_mu z with z | z
      · exact .inl z
      · rw [z] at hb; exact absurd hb hp
    · exact .inr z
  have sd2 : Same (hid H' fun b => hd O ρ σ b ∨ b = p) (hid H' (hd O (ρ.set i (.mu ds)) (σ.set i (some (.ref p))))) := hid_anti .refl fun b hb z => by
    rcases z with z | z
    · rcases own_set_mu z with z | z
      · exact .inl (.inl z)
      · exact .inr z
    · exact .inl (.inr z)
  refine ⟨by rw [List.length_set, List.length_set]; exact r.len, fun j e h => ?_, fun j es h => ?_, fun j k es fs l h1 h2 h3 h4 => ?_, fun b h => ?_, fun b h => sm.trk b (r.tr b h), sm.tabL r.tb⟩
  · rcases set_get h with ⟨rfl, hl, e'⟩ | ⟨ne, h⟩
    · cases e'
    · obtain ⟨w, h1, h2⟩ := r.im j e h
      exact ⟨w, by rw [List.getElem?_set_ne ne]; exact h1, Dp.same sd _ _ h2⟩
  · rcases set_get h with ⟨rfl, hi, e'⟩ | ⟨ne, h⟩
    · cases e'
      exact ⟨p, xs, List.getElem?_set_self (by rw [← r.len]; exact hi), hl, DpAll.same sd2 _ _ hd'⟩
    · obtain ⟨l, ys, h1, h2, h3⟩ := r.mu j es h
      exact ⟨l, ys, by rw [List.getElem?_set_ne ne]; exact h1, sm.keep _ _ id nt_lst h2, DpAll.same sd _ _ h3⟩
  · rcases set_get h1 with ⟨e1, hi, _⟩ | ⟨n1, h1⟩
    · subst e1
      rcases set_get h2 with ⟨e2, _, _⟩ | ⟨n2, h2⟩
      · exact e2
      · rw [List.getElem?_set_self (by rw [← r.len]; exact hi)] at h3
        cases h3
        rw [List.getElem?_set_ne n2] at h4
        exact absurd rfl (nOwn p ⟨k, fs, h2, h4⟩)
    · rw [List.getElem?_set_ne n1] at h3
      rcases set_get h2 with ⟨e2, hi, _⟩ | ⟨n2, h2⟩
      · subst e2
        rw [List.getElem?_set_self (by rw [← r.len]; exact hi)] at h4
        cases h4
        exact absurd rfl (nOwn p ⟨j, es, h1, h3⟩)
      · rw [List.getElem?_set_ne n2] at h4
        exact r.inj j k es fs l h1 h2 h3 h4
  · rcases own_set_mu h with z | z
    · exact r.ap b z
    · exact fun q => nO b q z
theorem Ext.setMu {p : Addr} (hp : ¬ Trk H p) (sm : SameT H H') (hP : i ∉ P) : Ext P ρ σ H (ρ.set i (.mu ds)) (σ.set i (some (.ref p))) H' :=
  ⟨fun b o _ nt h => sm.keep b o id nt h, fun b h => (own_set_mu h).elim .inl fun z => .inr (z ▸ hp), sm.trk, fun j hj => List.getElem?_set_ne (fun e : i = j => hP (by rw [e]; exact hj)), List.length_set, sm.tab⟩
theorem own_mut {ρ : Rho} {es : List D} (h : ρ[i]? = some (.mu es)) (b : Addr) : Own (ρ.set i (.mu ds)) σ b ↔ Own ρ σ b := by
  have hi : i < ρ.length := by
    cases Nat.lt_or_ge i ρ.length with
    | inl h => exact h
    | inr h' => rw [List.getElem?_eq_none h'] at h; cases h
  constructor
  · rintro ⟨j, fs, h1, h2⟩
    rcases set_get h1 with ⟨rfl, _, _⟩ | ⟨ne, h1⟩
    · exact ⟨i, es, h, h2⟩
    · exact ⟨j, fs, h1, h2⟩
  · rintro ⟨j, fs, h1, h2⟩
    by_cases e : i = j
    · subst e
      exact ⟨i, ds, List.getElem?_set_self hi, h2⟩
    · exact ⟨j, fs, by rw [List.getElem?_set_ne e]; exact h1, h2⟩
theorem hd_mut {ρ : Rho} {es : List D} (h : ρ[i]? = some (.mu es)) : hd O (ρ.set i (.mu ds)) σ = hd O ρ σ := funext fun b => propext ⟨fun z => z.elim (fun z => .inl ((own_mut h b).mp z)) .inr, fun z => z.elim (fun z => .inl ((own_mut h b).mpr z)) .inr⟩
/-- an own list is changed -/
theorem Rep.mut {es : List D} {l : Addr} {xs : List V} (r : Rep K O ρ σ H) (hi : ρ[i]? = some (.mu es)) (hs : σ[i]? = some (some (.ref l))) (keep : SameX (fun b => b = l) H H') (hl : H' l = some (.lst xs)) (hx : DpAll K (hid H' (hd O ρ σ)) xs ds) :
    Rep K O (ρ.set i (.mu ds)) σ H' := by
  have hown : Own ρ σ l := ⟨i, es, hi, hs⟩
  have sm : Same (hid H (hd O ρ σ)) (hid H' (hd O ρ σ)) := fun b o e => by
    obtain ⟨h1, h2, nt⟩ := hid_some.mp e
    exact hid_some.mpr ⟨h1, keep.keep b o (fun z => h1 (z ▸ .inl hown)) nt h2, nt⟩
  refine ⟨by rw [List.length_set]; exact r.len, fun j e h => ?_, fun j fs h => ?_, fun j k fs gs m h1 h2 h3 h4 => ?_, fun b h => r.ap b ((own_mut hi b).mp h), fun b h => ?_, keep.tabL r.tb⟩
  · rcases set_get h with ⟨rfl, _, e'⟩ | ⟨ne, h⟩
    · cases e'
    · obtain ⟨w, h1, h2⟩ := r.im j e h
      rw [hd_mut hi]
      exact ⟨w, h1, Dp.same sm _ _ h2⟩
  · rw [hd_mut hi]
    rcases set_get h with ⟨rfl, _, e'⟩ | ⟨ne, h⟩
    · cases e'
      exact ⟨l, xs, hs, hl, hx⟩
    · obtain ⟨m, ys, h1, h2, h3⟩ := r.mu j fs h
      have nm : m ≠ l := fun z => ne (r.inj i j es fs l hi h hs (by rw [← z]; exact h1))
      exact ⟨m, ys, h1, keep.keep _ _ nm nt_lst h2, DpAll.same sm _ _ h3⟩
  · have g : ∀ (a : Nat) fs, (ρ.set i (.mu ds))[a]? = some (.mu fs) → ∃ fs', ρ[a]? = some (.mu fs') := fun a fs h => by
      rcases set_get h with ⟨rfl, _, _⟩ | ⟨_, h⟩
      · exact ⟨es, hi⟩
      · exact ⟨fs, h⟩
    obtain ⟨fs', h1⟩ := g j fs h1
    obtain ⟨gs', h2⟩ := g k gs h2
    exact r.inj j k _ _ m h1 h2 h3 h4
  · exact keep.trk b (r.tr b h)
theorem Ext.mut {es : List D} {l : Addr} {xs : List V} (hi : ρ[i]? = some (.mu es)) (hs : σ[i]? = some (some (.ref l))) (keep : SameX (fun b => b = l) H H') (hl : H' l = some (.lst xs)) : Ext P ρ σ H (ρ.set i (.mu ds)) σ H' := by
  exact ⟨fun b o hn nt hb => keep.keep b o (fun z => hn (z ▸ ⟨i, es, hi, hs⟩)) nt hb, fun b h => .inl ((own_mut hi b).mp h), keep.trk, fun _ _ => rfl, rfl, keep.tab⟩
/-- an own list becomes data -/
theorem Rep.freeze {es : List D} (r : Rep K O ρ σ H) (hi : ρ[i]? = some (.mu es)) : Rep K O (ρ.set i (.im (.list es))) σ H ∧ Ext P ρ σ H (ρ.set i (.im (.list es))) σ H := by
  have ho : ∀ b, Own (ρ.set i (.im (.list es))) σ b → Own ρ σ b ∧ σ[i]? ≠ some (some (.ref b)) := fun b ⟨j, fs, h1, h2⟩ => by
    rcases set_get h1 with ⟨_, _, e⟩ | ⟨ne, h1⟩
    · cases e
    · exact ⟨⟨j, fs, h1, h2⟩, fun z => ne (r.inj i j es fs b hi h1 z h2)⟩
  have sm : Same (hid H (hd O ρ σ)) (hid H (hd O (ρ.set i (.im (.list es))) σ)) := hid_anti .refl fun b _ z => z.elim (fun z => .inl (ho b z).1) .inr
  refine ⟨⟨by rw [List.length_set]; exact r.len, fun j e h => ?_, fun j fs h => ?_, fun j k fs gs m h1 h2 h3 h4 => ?_, fun b h => r.ap b (ho b h).1, r.tr, r.tb⟩, ⟨fun _ _ _ _ h => h, fun b h => .inl (ho b h).1, fun _ h => h, fun _ _ => rfl, rfl, fun t => t⟩⟩
  · rcases set_get h with ⟨rfl, _, e'⟩ | ⟨ne, h⟩
    · cases e'
      obtain ⟨l, xs, h1, h2, h3⟩ := r.mu i es hi
      refine ⟨.ref l, h1, .lst (.inl (.inl (hid_some.mpr ⟨fun z => ?_, h2, nt_lst⟩))) (DpAll.same sm _ _ h3)⟩
      rcases z with z | z
      · exact (ho l z).2 h1
      · exact r.ap l ⟨i, es, hi, h1⟩ z
    · obtain ⟨w, h1, h2⟩ := r.im j e h
      exact ⟨w, h1, Dp.same sm _ _ h2⟩
  · rcases set_get h with ⟨rfl, _, e'⟩ | ⟨ne, h⟩
    · cases e'
    · obtain ⟨m, ys, h1, h2, h3⟩ := r.mu j fs h
      exact ⟨m, ys, h1, h2, DpAll.same sm _ _ h3⟩
  · rcases set_get h1 with ⟨_, _, e'⟩ | ⟨_, h1⟩
    · cases e'
    · rcases set_get h2 with ⟨_, _, e'⟩ | ⟨_, h2⟩
      · cases e'
      · exact r.inj j k _ _ m h1 h2 h3 h4
end
end QL
set_option Elab.async false
set_option linter.all false
set_option maxRecDepth 100000
set_option maxHeartbeats 4000000
/-! Q7: statements and loops. -/
namespace QL
open PySem PySem.Spec PyProof.Rows L2
variable [LawTabs]

def nxS : M Out := M.pure .nx
def bkS : M Out := M.pure .bk
def ctS : M Out := M.pure .ct
def setS (i : Nat) (f : M D) : M Out := M.bind f fun d ρ => .ok (.nx, ρ.set i (.im d))
def exprS (f : M D) : M Out := M.bind f fun _ => nxS
def retS (f : M D) : M Out := M.bind f fun d => M.pure (.ret d)
def retNS : M Out := M.pure (.ret .none)
def seqS (a b : M Out) : M Out := M.bind a fun o => match o with
  | .nx => b
  | o => M.pure o
def raiseS (c : Str) : M Out := fun _ => .err ⟨c, none⟩
/-- a, b = f, g -/
def parS (i j : Nat) (f g : M D) : M Out := M.bind f fun x => M.bind g fun y ρ => .ok (.nx, (ρ.set i (.im x)).set j (.im y))
def par3S (i j k : Nat) (f g h : M D) : M Out := M.bind f fun x => M.bind g fun y => M.bind h fun z ρ => .ok (.nx, ((ρ.set i (.im x)).set j (.im y)).set k (.im z))
/-- x op= f -/
def augS (g : D → D → Option D) (i : Nat) (f : M D) : M Out := M.bind (var i) fun x => M.bind f fun y => M.bind (M.opt (g x y)) fun z ρ => .ok (.nx, ρ.set i (.im z))
def iaddD : D → D → Option D
  | .int a, .int b => some (.int (a + b))
  | _, _ => none
/-- targets -/
def gN (i : Nat) : D → M Unit := fun d ρ => .ok ((), ρ.set i (.im d))
def gTs : List (D → M Unit) → List D → M Unit
  | [], [] => M.pure ()
  | g :: gs, d :: ds => M.bind (g d) fun _ => gTs gs ds
  | _, _ => M.stuck
def gT (gs : List (D → M Unit)) : D → M Unit := fun d => match d with
  | .tuple ds => if ds.length = gs.length then gTs gs ds else M.stuck
  | _ => M.stuck
def asgS (f : M D) (g : D → M Unit) : M Out := M.bind f fun d => M.bind (g d) fun _ => nxS
def loopS (g : D → M Unit) (b : M Out) : List D → M Out
  | [] => M.pure .nx
  | d :: ds => M.bind (g d) fun _ => M.bind b fun o => match o with
    | .nx => loopS g b ds
    | .ct => loopS g b ds
    | .bk => M.pure .nx
    | o => M.pure o
def forS (it : M (List D)) (g : D → M Unit) (b : M Out) : M Out := M.bind it fun ds => loopS g b ds
def whileF (c : M Bool) (b : M Out) : Nat → M Out
  | 0 => M.stuck
  | n + 1 => M.bind c fun k => if k = true then M.bind b fun o => match o with
    | .nx => whileF c b n
    | .ct => whileF c b n
    | .bk => M.pure .nx
    | o => M.pure o
    else M.pure .nx
/-- own lists -/
def newS (i : Nat) (r : M (List D)) : M Out := M.bind r fun ds ρ => if ds.length ≤ sizeLine then .ok (.nx, ρ.set i (.mu ds)) else .stuck
def isMu (ρ : Rho) (i : Nat) : Bool := match ρ[i]? with
  | some (.mu _) => true
  | _ => false
def appS (i : Nat) (f : M D) : M Out := fun ρ => if isMu ρ i = true then M.bind f (fun d ρ => match ρ[i]? with
  | some (.mu ds) => if ds.length < sizeLine then .ok (.nx, ρ.set i (.mu (ds ++ [d]))) else .stuck
  | _ => .stuck) ρ else .stuck
def ownIx (i : Nat) (k : Int) : M D := fun ρ => match ρ[i]? with
  | some (.mu ds) => (match atI ds k with | some z => .ok (z, ρ) | none => .stuck)
  | _ => .stuck
def ownLen (i : Nat) : M D := fun ρ => match ρ[i]? with
  | some (.mu ds) => .ok (.int ds.length, ρ)
  | _ => .stuck
def putIx (i : Nat) (k : Int) (f : M D) : M Out := M.bind f fun d ρ => match ρ[i]? with
  | some (.mu ds) => (match ixN ds.length k with | some j => .ok (.nx, ρ.set i (.mu (ds.set j d))) | none => .stuck)
  | _ => .stuck
/-- an own list becomes data from here on -/
def frz (i : Nat) (S : M Out) : M Out := fun ρ => match ρ[i]? with
  | some (.mu ds) => S (ρ.set i (.im (.list ds)))
  | _ => S ρ
def rtoS (r : M (List D)) : M Out := M.bind r fun ds => if ds.length ≤ sizeLine then M.pure (.rto ds) else M.stuck

section
variable {K : PySem.W.Frag} {O : Addr → Prop} {P : List Nat} {W : XK} {ρ ρ1 ρ2 : Rho} {σ σ1 σ2 : Sg} {H H1 H2 : Hp}
theorem Ext.toP (e : Ext [] ρ σ H ρ1 σ H1) : Ext P ρ σ H ρ1 σ H1 := ⟨e.keep, e.own, e.trk, fun _ _ => rfl, rfl, e.tab⟩
theorem OutK.fwd {E : Ends} {o : Out} (h : OutK K O P E ρ σ H o ρ2) (e : Ext P ρ σ H ρ1 σ1 H1) : OutK K O P E ρ1 σ1 H1 o ρ2 := by
  cases o with
  | nx => exact fun σ' H' r x => h σ' H' r (e.trans x)
  | bk => exact fun σ' H' r x => h σ' H' r (e.trans x)
  | ct => exact fun σ' H' r x => h σ' H' r (e.trans x)
  | ret d => exact fun v σ' H' r x dp => h v σ' H' r (e.trans x) dp
  | rto ds => exact fun p xs σ' H' r x hp n1 n2 hl dp => h p xs σ' H' r (e.trans x) (fun t => hp (e.trk p t)) n1 n2 hl dp
theorem RP.fwd {E : Ends} {r : R (Out × Rho)} (h : RP r (OutK K O P E ρ σ H) (ErrK K W ρ σ H)) (e : Ext P ρ σ H ρ1 σ1 H1) : RP r (OutK K O P E ρ1 σ1 H1) (ErrK K W ρ1 σ1 H1) :=
  RP.mono h (fun o ρ' q => OutK.fwd q e) fun x q => ErrK.back q e
end

section
variable {X : Cx} {P : List Nat} {W : XK} {e e2 e3 : Expr} {es : List Expr} {f f1 f2 f3 : M D} {fs : M (List D)} {t : M Bool} {st : Stmt} {sts : List Stmt} {S S1 S2 : M Out} {pos pos' : Pos}
theorem qss_nil : QSs X P W [] nxS := fun O => pss_nil.weak fun E σ H ⟨ρ, r, h⟩ => h σ H r Ext.refl
theorem tS.seq {O : Addr → Prop} {E : Ends} {σ : Sg} {H : Hp} (h : tS X.K O P W (seqS S1 S2) E σ H) : tS X.K O P W S1 { E with nx := tS X.K O P W S2 E } σ H := by
  obtain ⟨ρ, r, h⟩ := h
  refine ⟨ρ, r, RP.mono (RP.bind h) (fun o ρ1 q => ?_) fun x q => q⟩
  cases o with
  | nx => exact fun σ' H' r' x => ⟨ρ1, r', RP.fwd q x⟩
  | bk => exact q
  | ct => exact q
  | ret d => exact q
  | rto ds => exact q
theorem qss_cons (h1 : QS X P W st S1) (h2 : QSs X P W sts S2) : QSs X P W (st :: sts) (seqS S1 S2) := fun O => (pss_cons (h1 O) (h2 O)).weak fun E σ H h => tS.seq h
theorem qss_one (h1 : QS X P W st S) : QSs X P W [st] S := fun O => pss_one (h1 O)
/-- a list of the frame's own is data from here on -/
theorem qss_frz (i : Nat) (h : QSs X P W sts S) : QSs X P W sts (frz i S) := fun O => (h O).weak fun E σ H ⟨ρ, r, h⟩ => by
  unfold frz at h
  cases q : ρ[i]? with
  | none => rw [q] at h; exact ⟨ρ, r, h⟩
  | some s =>
    rw [q] at h
    cases s with
    | no => exact ⟨ρ, r, h⟩
    | im d => exact ⟨ρ, r, h⟩
    | mu ds =>
      obtain ⟨r1, e1⟩ := Rep.freeze (P := P) r q
      exact ⟨_, r1, RP.fwd h e1⟩
theorem qs_pass : QS X P W (.Pass pos) nxS := fun O => ps_pass.weak fun E σ H ⟨ρ, r, h⟩ => h σ H r Ext.refl
theorem qs_break : QS X P W (.Break pos) bkS := fun O => ps_break.weak fun E σ H ⟨ρ, r, h⟩ => h σ H r Ext.refl
theorem qs_continue : QS X P W (.Continue pos) ctS := fun O => ps_continue.weak fun E σ H ⟨ρ, r, h⟩ => h σ H r Ext.refl
theorem qs_expr (he : QE X W e f) (hs : swapsWith e none pos.line X.env = pure false := by rfl) : QS X P W (.Expr e pos) (exprS f) := fun O => (ps_expr (he O) hs).weak fun E σ H ⟨ρ, r, h⟩ =>
  tE.mono (tE.app r h) fun v H1 ⟨d, ρ1, rep1, e1, dp1, q1⟩ => q1 σ H1 rep1 e1.toP
theorem qs_ret (he : QE X W e f) : QS X P W (.Return (some e) pos) (retS f) := fun O => (ps_ret (he O)).weak fun E σ H ⟨ρ, r, h⟩ =>
  tE.mono (tE.app r h) fun v H1 ⟨d, ρ1, rep1, e1, dp1, q1⟩ => q1 v σ H1 rep1 e1.toP dp1
theorem qs_retN : QS X P W (.Return none pos) retNS := fun O => ps_retN.weak fun E σ H ⟨ρ, r, h⟩ => h .non σ H r Ext.refl .non
theorem qs_if {c : Expr} {a b : List Stmt} (hc : QT X W c t) (ha : QSs X P W a S1) (hb : QSs X P W b S2) : QS X P W (.If c a b pos) (iteM t S1 S2) := fun O => (ps_if (hc O) (ha O) (hb O)).weak fun E σ H ⟨ρ, r, h⟩ => by
  refine tT.mono (tT.app r h) fun k H1 ⟨ρ1, rep1, e1, q1⟩ => ?_
  cases k with
  | true => exact ⟨ρ1, rep1, RP.mono (show RP (S1 ρ1) _ _ from q1) (fun o ρ' q => OutK.fwd q e1.toP) fun x q => q⟩
  | false => exact ⟨ρ1, rep1, RP.mono (show RP (S2 ρ1) _ _ from q1) (fun o ρ' q => OutK.fwd q e1.toP) fun x q => q⟩
/-- x = e -/
theorem qs_set {i : Nat} {x : Str} (hN : X.N.Nodup) (hi : X.N[i]? = some x) (hx : Loc X.env.scope x) (he : QE X W e f) (hP : i ∉ P := by decide) (hs : swapsWith e (some (.Name x pos')) pos.line X.env = pure false := by rfl) (hf : X.fn x = true ∨ X.env.scope.names.lookup x = some .local := by first | exact .inl rfl | exact .inr rfl | assumption) :
    QS X P W (.Assign [.Name x pos'] e pos) (setS i f) := fun O => (ps_set hN hi hx (he O) hs hf).weak fun E σ H ⟨ρ, r, h⟩ =>
  tE.mono (tE.app r h) fun v H1 ⟨d, ρ1, rep1, e1, dp1, q1⟩ => q1 _ _ (rep1.setIm dp1) (e1.toP.trans (Ext.setIm hP))
/-- raise C("..") -/
theorem qs_raise {j : Nat} {x m : Str} {p p2 p3 : Pos} (tk : L2N.Takes X fun cls d _ H => W cls d H) (hc : X.calm = true) (q : PySem.W.excIn X.K (He.ga X.K x) He.veBase "ValueError.__new__" = true) (gC : X.mg x = some (.ref (He.ga X.K x))) (kC : PySem.W.keepIn X.K (.ref (He.ga X.K x)) = true)
    (h1 : PySem.W.subIn X.K (.ref (He.ga X.K x)) (.type "BaseException") = some true) (h2 : PySem.W.typeIn X.K (.ref (He.ga X.K x)) = some (.type "type")) (hg : Gl X x) (hdb : (x == ("__debug__" : Str)) = false := by decide) :
    QS X P W (.Raise (some (.Call (.Name x p) [.Constant (.str m) j p2] [] p3)) none pos) (raiseS x) := fun O => (L2N.ps_raise hc tk (L2N.pmk_own PySem.F.excBase_ValueError q gC kC (raises_own h1 h2) hg hdb)).weak fun E σ H ⟨ρ, r, h⟩ =>
  h _ _ _ ⟨rfl, rfl⟩ .refl
/-- a, b = e, e2 with plain locals -/
theorem qs_par {i j : Nat} {x y : Str} {px py pt : Pos} {kt k2 pt2} (hc : X.calm = true) (hN : X.N.Nodup) (hi : X.N[i]? = some x) (hj : X.N[j]? = some y) (hij : i ≠ j)
    (hx : X.env.scope.names.lookup x = some .local) (hy : X.env.scope.names.lookup y = some .local) (ha : QE X W e f1) (hb : QE X W e2 f2) (hPi : i ∉ P := by decide) (hPj : j ∉ P := by decide)
    (hw : swappedStores [.Tuple [.Name x px, .Name y py] kt pt] (.Tuple [e, e2] k2 pt2) X.env = pure (some [x, y]) := by rfl)
    (hs : swapsWithSole [.Tuple [.Name x px, .Name y py] kt pt] (.Tuple [e, e2] k2 pt2) pos.line X.env = pure false := by rfl)
    (h1 : starEach [e, e2] X.env = (false, eval e X.env) :: starEach [e2] X.env := by rfl) (h2 : starEach [e2] X.env = (false, eval e2 X.env) :: starEach [] X.env := by rfl) :
    QS X P W (.Assign [.Tuple [.Name x px, .Name y py] kt pt] (.Tuple [e, e2] k2 pt2) pos) (parS i j f1 f2) := fun O => (ps_par hc hN hi hj hij hx hy (pa_cons (ha O) (pa_cons (hb O) pa_nil h2) h1) hw hs).weak fun E σ H ⟨ρ, r, h⟩ => by
  refine tE.mono (tE.app r h) fun v H1 ⟨d, ρ1, rep1, e1, dp1, q1⟩ => ?_
  refine tE.mono (tE.app rep1 q1) fun w H2 ⟨d2, ρ2, rep2, e2, dp2, q2⟩ => ?_
  have dp1' := Dp.same e2.same _ _ dp1
  have ra := rep2.setIm (i := i) dp1'
  have ea : Ext P ρ2 σ H2 (ρ2.set i (.im d)) (σ.set i (some v)) H2 := Ext.setIm hPi
  have rb := ra.setIm (i := j) (Dp.same ea.same _ _ dp2)
  exact ⟨v, w, rfl, q2 _ _ rb ((e1.trans e2).toP.trans (ea.trans (Ext.setIm hPj)))⟩
theorem qs_par3 {i j l : Nat} {x y z : Str} {px py pz pt : Pos} {kt k2 pt2} (hc : X.calm = true) (hN : X.N.Nodup) (hi : X.N[i]? = some x) (hj : X.N[j]? = some y) (hl : X.N[l]? = some z) (hij : i ≠ j) (hil : i ≠ l) (hjl : j ≠ l)
    (hx : X.env.scope.names.lookup x = some .local) (hy : X.env.scope.names.lookup y = some .local) (hz : X.env.scope.names.lookup z = some .local) (ha : QE X W e f1) (hb : QE X W e2 f2) (hd' : QE X W e3 f3) (hPi : i ∉ P := by decide) (hPj : j ∉ P := by decide) (hPl : l ∉ P := by decide)
    (hw : swappedStores [.Tuple [.Name x px, .Name y py, .Name z pz] kt pt] (.Tuple [e, e2, e3] k2 pt2) X.env = pure (some [x, y, z]) := by rfl)
    (hs : swapsWithSole [.Tuple [.Name x px, .Name y py, .Name z pz] kt pt] (.Tuple [e, e2, e3] k2 pt2) pos.line X.env = pure false := by rfl)
    (h1 : starEach [e, e2, e3] X.env = (false, eval e X.env) :: starEach [e2, e3] X.env := by rfl) (h2 : starEach [e2, e3] X.env = (false, eval e2 X.env) :: starEach [e3] X.env := by rfl) (h3 : starEach [e3] X.env = (false, eval e3 X.env) :: starEach [] X.env := by rfl) :
    QS X P W (.Assign [.Tuple [.Name x px, .Name y py, .Name z pz] kt pt] (.Tuple [e, e2, e3] k2 pt2) pos) (par3S i j l f1 f2 f3) := fun O => (ps_par3 hc hN hi hj hl hij hil hjl hx hy hz (pa_cons (ha O) (pa_cons (hb O) (pa_cons (hd' O) pa_nil h3) h2) h1) hw hs).weak fun E σ H ⟨ρ, r, h⟩ => by
  refine tE.mono (tE.app r h) fun v H1 ⟨d, ρ1, rep1, e1, dp1, q1⟩ => ?_
  refine tE.mono (tE.app rep1 q1) fun w H2 ⟨d2, ρ2, rep2, e2, dp2, q2⟩ => ?_
  refine tE.mono (tE.app rep2 q2) fun u H3 ⟨d3, ρ3, rep3, e3, dp3, q3⟩ => ?_
  have dp1' := Dp.same e3.same _ _ (Dp.same e2.same _ _ dp1)
  have dp2' := Dp.same e3.same _ _ dp2
  have ra := rep3.setIm (i := i) dp1'
  have ea : Ext P ρ3 σ H3 (ρ3.set i (.im d)) (σ.set i (some v)) H3 := Ext.setIm hPi
  have rb := ra.setIm (i := j) (Dp.same ea.same _ _ dp2')
  have eb : Ext P _ _ H3 ((ρ3.set i (.im d)).set j (.im d2)) ((σ.set i (some v)).set j (some w)) H3 := Ext.setIm hPj
  have rc := rb.setIm (i := l) (Dp.same eb.same _ _ (Dp.same ea.same _ _ dp3))
  exact ⟨v, w, u, rfl, q3 _ _ rc (((e1.trans e2).trans e3).toP.trans (ea.trans (eb.trans (Ext.setIm hPl))))⟩
/-- an operator in place, by data -/
def PIq (X : Cx) (op : Operator) (g : D → D → Option D) : Prop := ∀ O, PIp X op (rD X.K O g)
theorem ip_addQ : PIq X .Add iaddD := by
  intro O pins s σ H x y v u Q I rx ry ⟨d, e, z, hd, he, hO, hg, hq⟩
  unfold iaddD at hg
  split at hg
  · cases hg
    obtain rfl := Dp.int_of hd
    obtain rfl := Dp.int_of he
    exact ip_add pins s σ H _ _ v u Q I rx ry ⟨_, _, rfl, rfl, hq.now (.int _)⟩
  · cases hg
theorem qs_aug {i : Nat} {x : Str} {op : Operator} {g : D → D → Option D} (hN : X.N.Nodup) (hi : X.N[i]? = some x) (hx : Loc X.env.scope x) (he : QE X W e f) (ho : PIq X op g) (hP : i ∉ P := by decide) (hf : X.fn x = true ∨ X.env.scope.names.lookup x = some .local := by first | exact .inl rfl | exact .inr rfl | assumption) :
    QS X P W (.AugAssign (.Name x pos') op e pos) (augS g i f) := fun O => by
  refine ⟨fun pins s σ H E I ⟨ρ, r, h⟩ => ?_⟩
  have h0 := RP.bind h
  obtain ⟨m, hn, hl⟩ := I.loc
  cases q : ρ[i]? with
  | none =>
    have z : var i ρ = .stuck := by unfold var; rw [q]
    rw [z] at h0
    exact h0.elim
  | some sl =>
    cases sl with
    | no =>
      have z : var i ρ = .stuck := by unfold var; rw [q]
      rw [z] at h0
      exact h0.elim
    | mu _ =>
      have z : var i ρ = .stuck := by unfold var; rw [q]
      rw [z] at h0
      exact h0.elim
    | im d =>
      have z : var i ρ = .ok (d, ρ) := by unfold var; rw [q]
      rw [z] at h0
      obtain ⟨v, ev, dv⟩ := r.im i d q
      have hrd : tE X.K O W f σ H fun y H1 => ∃ d2 ρ1, Rep X.K O ρ1 σ H1 ∧ Ext [] ρ σ H ρ1 σ H1 ∧ Dp X.K (hid H1 (hd O ρ1 σ)) y d2 ∧ RP (M.bind (M.opt (g d d2)) (fun z ρ => .ok (.nx, ρ.set i (.im z))) ρ1) (OutK X.K O P E ρ σ H) (ErrK X.K W ρ1 σ H1) := tE.app r h0
      have vis : Vis X.env.scope x := by rcases hx with k | k; exact .inl k; exact .inr (.inl k)
      obtain ⟨u, ru, l⟩ := hl i x v hi ev vis
      refine wpAny_AugAssign_Name ?_
      have go : wpAny (model X.prog X.w) X.A (eval e X.env) (fun w s₂ => wpAny (model X.prog X.w) X.A (inplaceOp op u w) (fun r s₃ => wpAny (model X.prog X.w) X.A (storeName X.env x r) (fun _ => SP X pins E .next) X.xe s₃) X.xe s₂) X.xe s := by
        refine thn ((he O).run pins s σ H _ I hrd) fun w s1 ⟨y, H1, I1, r1, d2, ρ1, rep1, e1, dp1, q1⟩ => ?_
        obtain ⟨z, hz, q2⟩ := RP.opt (RP.bind q1)
        refine thn (ho (hd O ρ1 σ) pins s1 σ H1 v y u w (fun zv H2 => SameT H1 H2 ∧ Dp X.K (hid H2 (hd O ρ1 σ)) zv z) I1 ru r1 ⟨d, d2, z, Dp.same e1.same _ _ dv, dp1, rep1.trk, hz, fun v H' sm dp => ⟨sm, dp⟩⟩) fun zu s2 ⟨zv, H2, I2, r2, sm, dz⟩ => ?_
        exact store_ok I2 hN hi hx r2 (fun s3 I3 => ⟨_, H2, I3, (show OutK X.K O P E ρ σ H .nx _ from q2) _ _ ((rep1.same sm).setIm dz) ((e1.trans (Ext.of_same sm)).toP.trans (Ext.setIm hP))⟩) hf
      rcases l with ⟨hk, hm⟩ | ⟨hk, c, hc, hcell⟩
      · exact wpAny_loadName_local I.ok.kind hk hn hm go
      · rcases hk with hk | hk
        · exact wpAny_loadName_cell I.ok.kind hk hc hcell go
        · rcases hx with k | k
          · have : X.env.scope.names.lookup x = some .free := hk
            rw [k] at this; cases this
          · have : X.env.scope.names.lookup x = some .free := hk
            rw [k] at this; cases this
end
end QL
set_option Elab.async false
set_option linter.all false
set_option maxRecDepth 100000
set_option maxHeartbeats 4000000
/-! Q8: targets, walks, loops, own lists. -/
namespace QL
open PySem PySem.Spec PyProof.Rows L2
variable [LawTabs]

/-! ### targets -/
def tG (K : PySem.W.Frag) (O : Addr → Prop) (P : List Nat) (W : XK) (g : D → M Unit) : TG := fun v σ H Q => ∃ ρ d, Rep K O ρ σ H ∧ Dp K (hid H (hd O ρ σ)) v d ∧
  RP (g d ρ) (fun _ ρ' => ∀ σ' H', Rep K O ρ' σ' H' → Ext P ρ σ H ρ' σ' H' → Q σ' H') (ErrK K W ρ σ H)
def tGs (K : PySem.W.Frag) (O : Addr → Prop) (P : List Nat) (W : XK) (g : List D → M Unit) : TGs := fun vs σ H Q => ∃ ρ ds, Rep K O ρ σ H ∧ DpAll K (hid H (hd O ρ σ)) vs ds ∧
  RP (g ds ρ) (fun _ ρ' => ∀ σ' H', Rep K O ρ' σ' H' → Ext P ρ σ H ρ' σ' H' → Q σ' H') (ErrK K W ρ σ H)
def QG (X : Cx) (P : List Nat) (W : XK) (tg : Expr) (g : D → M Unit) : Prop := ∀ O, PG X tg (tG X.K O P W g)
def QGs (X : Cx) (P : List Nat) (W : XK) (tg : List Expr) (g : List D → M Unit) : Prop := ∀ O, PGs X tg (tGs X.K O P W g)
theorem _root_.L2.PGs.weak {X : Cx} {e : List Expr} {t t' : TGs} (h : PGs X e t) (w : ∀ v σ H Q, t' v σ H Q → t v σ H Q) : PGs X e t' := ⟨fun pins s σ H v u Q I r q => h.run pins s σ H v u Q I r (w _ _ _ _ q)⟩
section
variable {X : Cx} {P : List Nat} {W : XK} {e : Expr} {es : List Expr} {pos : Pos} {g : D → M Unit} {gs : List (D → M Unit)}
theorem qg_name {i : Nat} {x : Str} (hN : X.N.Nodup) (hi : X.N[i]? = some x) (hx : Loc X.env.scope x) (hP : i ∉ P := by decide) (hf : X.fn x = true ∨ X.env.scope.names.lookup x = some .local := by first | exact .inl rfl | exact .inr rfl | assumption) : QG X P W (.Name x pos) (gN i) := fun O => (pg_name hN hi hx hf).weak fun v σ H Q ⟨ρ, d, r, dp, h⟩ =>
  h _ _ (r.setIm dp) (Ext.setIm hP)
theorem qgs_nil : QGs X P W [] (gTs []) := fun O => pgs_nil.weak fun v σ H Q ⟨ρ, ds, r, dp, h⟩ => by
  cases ds with
  | nil => cases dp; exact ⟨rfl, h σ H r Ext.refl⟩
  | cons d ds => exact h.elim
theorem qgs_cons (h1 : QG X P W e g) (h2 : QGs X P W es (gTs gs)) (hs : (assignEach (e :: es) X.env).map (·.2) = assign e X.env :: (assignEach es X.env).map (·.2) := by rfl) : QGs X P W (e :: es) (gTs (g :: gs)) := fun O => (pgs_cons (h1 O) (h2 O) hs).weak fun vs σ H Q ⟨ρ, ds, r, dp, h⟩ => by
  cases dp with
  | nil => exact h.elim
  | @cons v vr d dr d1 d2 =>
    have h' : RP (M.bind (g d) (fun _ => gTs gs dr) ρ) (fun _ ρ' => ∀ σ' H', Rep X.K O ρ' σ' H' → Ext P ρ σ H ρ' σ' H' → Q σ' H') (ErrK X.K W ρ σ H) := h
    refine ⟨v, vr, rfl, ρ, d, r, d1, RP.mono (RP.bind h') (fun _ ρ1 q σ1 H1 r1 e1 => ⟨ρ1, dr, r1, DpAll.same e1.same _ _ d2, RP.mono q (fun _ ρ2 q σ2 H2 r2 e2 => q σ2 H2 r2 (e1.trans e2)) fun x q => ErrK.back q e1⟩) fun x q => q⟩
theorem qg_tup {k n : Nat} (hc : X.calm = true) (h : QGs X P W es (gTs gs)) (hl : gs.length = n) (hn : (assignEach es X.env).length = n := by rfl) (hst : (assignEach es X.env).findIdx? (·.1) = none := by rfl) : QG X P W (.Tuple es k pos) (gT gs) := fun O => (pg_tup hc (h O) hn hst).weak fun v σ H Q ⟨ρ, d, r, dp, h⟩ => by
  cases dp with
  | @tup a xs ds h1 h2 =>
    by_cases hq : ds.length = gs.length
    · have h' : RP (gTs gs ds ρ) (fun _ ρ' => ∀ σ' H', Rep X.K O ρ' σ' H' → Ext P ρ σ H ρ' σ' H' → Q σ' H') (ErrK X.K W ρ σ H) := by
        have z : gT gs (.tuple ds) = gTs gs ds := if_pos hq
        rw [z] at h
        exact h
      exact ⟨a, xs, rfl, seqT_same hid_le h1, by rw [h2.length, hq]; exact hl, ρ, ds, r, h2, h'⟩
    · have z : gT gs (.tuple ds) = M.stuck := if_neg hq
      rw [z] at h
      exact h.elim
  | _ => exact h.elim
theorem qs_asg {f : M D} {tg : Expr} (he : QE X W e f) (hg : QG X P W tg g) (hs : swapsWithSole [tg] e pos.line X.env = pure false := by rfl) (hw : swappedStores [tg] e X.env = pure none := by rfl)
    (h1 : (assignEach [tg] X.env).map (·.2) = [assign tg X.env] := by rfl) : QS X P W (.Assign [tg] e pos) (asgS f g) := fun O => (ps_asg (he O) (hg O) hs hw h1).weak fun E σ H ⟨ρ, r, h⟩ =>
  tE.mono (tE.app r h) fun v H1 ⟨d, ρ1, rep1, e1, dp1, q1⟩ => ⟨ρ1, d, rep1, dp1, RP.mono (RP.bind q1) (fun _ ρ2 q σ2 H2 r2 e2 => q σ2 H2 r2 (e1.toP.trans e2)) fun x q => q⟩
end

/-! ### what is walked -/
def Kept (own : Addr → Prop) (H0 H : Hp) : Prop := ∀ b o, ¬ own b → NT o → H0 b = some o → H b = some o
/-- J walks ds, from the heap H0 on, own being what may change -/
structure WalkD (K : PySem.W.Frag) (own : Addr → Prop) (J : It) (ds : List D) (H0 : Hp) : Prop where
  goes : ∀ i H, i < ds.length → Kept own H0 H → J.go i H
  stops : ∀ H, Kept own H0 H → J.stop ds.length H
  yields : ∀ (i : Nat) H x H' d, ds[i]? = some d → Kept own H0 H → J.yld i H x H' → SameT H H' ∧ ∀ own' : Addr → Prop, (∀ b, own' b → Trk H b) → (∀ b, Trk H0 b → own' b → own b) → Dp K (hid H' own') x d
def tI (K : PySem.W.Frag) (O : Addr → Prop) (W : XK) (f : M (List D)) : TI := fun σ H R => ∃ ρ, Rep K O ρ σ H ∧
  RP (f ρ) (fun ds ρ' => ∀ J H', Rep K O ρ' σ H' → Ext [] ρ σ H ρ' σ H' → WalkD K (hd O ρ' σ) J ds H' → R J H') (ErrK K W ρ σ H)
def QI (X : Cx) (W : XK) (tg e : Expr) (f : M (List D)) : Prop := ∀ O, PI X tg e (tI X.K O W f)
section
variable {K : PySem.W.Frag} {own : Addr → Prop} {H0 : Hp}
theorem Kept.same {own' : Addr → Prop} {H : Hp} (k : Kept own H0 H) (h : ∀ b, Trk H0 b → own' b → own b) : Same (hid H0 own) (hid H own') := fun b o e => by
  obtain ⟨h1, h2, nt⟩ := hid_some.mp e
  exact hid_some.mpr ⟨fun z => h1 (h b ⟨o, h2, nt⟩ z), k b o h1 nt h2, nt⟩
theorem kept_seqL {a : Addr} {xs : List V} {H : Hp} (k : Kept own H0 H) (h : SqL K (hid H0 own) a xs) : SqL K H a xs := (show Same (hid H0 own) H from fun b o e => let ⟨h1, h2, nt⟩ := hid_some.mp e; k b o h1 nt h2).seq h
theorem kept_seqT {a : Addr} {xs : List V} {H : Hp} (k : Kept own H0 H) (h : SqT K (hid H0 own) a xs) : SqT K H a xs := seqT_same (show Same (hid H0 own) H from fun b o e => let ⟨h1, h2, nt⟩ := hid_some.mp e; k b o h1 nt h2) h
theorem walkD_list {a : Addr} {xs : List V} {ds : List D} (h : SqL K (hid H0 own) a xs) (d : DpAll K (hid H0 own) xs ds) : WalkD K own (Itl K a) ds H0 := by
  refine ⟨fun i H hi k => ?_, fun H k => ?_, fun i H x H' e he k y => ?_⟩
  · obtain ⟨v, hv, _⟩ := d.get (List.getElem?_eq_getElem hi)
    exact ⟨xs, v, kept_seqL k h, hv⟩
  · exact ⟨xs, kept_seqL k h, by rw [d.length]; exact Nat.le_refl _⟩
  · obtain ⟨e1, y⟩ := y
    subst e1
    refine ⟨.refl, fun own' h1 h2 => ?_⟩
    obtain ⟨v, hv, dv⟩ := d.get he
    have := y xs (kept_seqL k h)
    rw [hv] at this
    cases this
    exact Dp.same (k.same h2) _ _ dv
theorem walkD_tup {a : Addr} {xs : List V} {ds : List D} (h : SqT K (hid H0 own) a xs) (d : DpAll K (hid H0 own) xs ds) : WalkD K own (Itt K a) ds H0 := by
  refine ⟨fun i H hi k => ?_, fun H k => ?_, fun i H x H' e he k y => ?_⟩
  · obtain ⟨v, hv, _⟩ := d.get (List.getElem?_eq_getElem hi)
    exact ⟨xs, v, kept_seqT k h, hv⟩
  · exact ⟨xs, kept_seqT k h, by rw [d.length]; exact Nat.le_refl _⟩
  · obtain ⟨e1, y⟩ := y
    subst e1
    refine ⟨.refl, fun own' h1 h2 => ?_⟩
    obtain ⟨v, hv, dv⟩ := d.get he
    have := y xs (kept_seqT k h)
    rw [hv] at this
    cases this
    exact Dp.same (k.same h2) _ _ dv
/-- lo, lo + 1, .. -/
def rangeL (lo : Int) (n : Nat) : List D := (List.range n).map fun i => .int (lo + (i : Nat))
theorem rangeL_length (lo : Int) (n : Nat) : (rangeL lo n).length = n := by unfold rangeL; rw [List.length_map, List.length_range]
theorem rangeL_get {lo : Int} {n i : Nat} {d : D} (h : (rangeL lo n)[i]? = some d) : d = .int (lo + (i : Nat)) := by
  unfold rangeL at h
  rw [List.getElem?_map] at h
  by_cases hi : i < n
  · rw [List.getElem?_range hi] at h
    cases h; rfl
  · rw [List.getElem?_eq_none (by simpa using hi)] at h
    cases h
theorem walkD_range {lo : Int} {n : Nat} : WalkD K own (Itr lo n) (rangeL lo n) H0 := by
  refine ⟨fun i H hi k => ?_, fun H k => ?_, fun i H x H' e he k y => ?_⟩
  · rw [rangeL_length] at hi; exact hi
  · rw [rangeL_length]; exact Nat.le_refl n
  · obtain ⟨e1, y⟩ := y
    subst e1 y
    rw [rangeL_get he]
    exact ⟨.refl, fun _ _ _ => .int _⟩
def rangeC (lo c : Int) (n : Nat) : List D := (List.range n).map fun i => .int (lo + (i : Nat) * c)
theorem rangeC_length (lo c : Int) (n : Nat) : (rangeC lo c n).length = n := by unfold rangeC; rw [List.length_map, List.length_range]
theorem rangeC_get {lo c : Int} {n i : Nat} {d : D} (h : (rangeC lo c n)[i]? = some d) : d = .int (lo + (i : Nat) * c) := by
  unfold rangeC at h
  rw [List.getElem?_map] at h
  by_cases hi : i < n
  · rw [List.getElem?_range hi] at h
    cases h; rfl
  · rw [List.getElem?_eq_none (by simpa using hi)] at h
    cases h
theorem walkD_rangeC {lo c : Int} {n : Nat} : WalkD K own (Itc lo c n) (rangeC lo c n) H0 := by
  refine ⟨fun i H hi k => ?_, fun H k => ?_, fun i H x H' e he k y => ?_⟩
  · rw [rangeC_length] at hi; exact hi
  · rw [rangeC_length]; exact Nat.le_refl n
  · obtain ⟨e1, y⟩ := y
    subst e1 y
    rw [rangeC_get he]
    exact ⟨.refl, fun _ _ _ => .int _⟩
/-- pairs of a turn's number and an item -/
def enumL (n : Nat) : List D → List D
  | [] => []
  | d :: ds => .tuple [.int (n : Nat), d] :: enumL (n + 1) ds
theorem enumL_length : ∀ (ds : List D) (n : Nat), (enumL n ds).length = ds.length
  | [], _ => rfl
  | d :: ds, n => congrArg (· + 1) (enumL_length ds (n + 1))
theorem enumL_get : ∀ {ds : List D} {n i : Nat} {e : D}, (enumL n ds)[i]? = some e → ∃ d, ds[i]? = some d ∧ e = .tuple [.int ((n + i : Nat) : Int), d]
  | [], _, _, _, h => by simp [enumL] at h
  | d :: ds, n, 0, e, h => by
    have h' : some (PyData.tuple [.int (n : Nat), d]) = some e := h
    cases h'
    exact ⟨d, rfl, rfl⟩
  | d :: ds, n, i + 1, e, h => by
    obtain ⟨d', h1, h2⟩ := enumL_get (ds := ds) (n := n + 1) (i := i) h
    exact ⟨d', by simpa using h1, by rw [h2, show n + 1 + i = n + (i + 1) by omega]⟩
def zipL : List D → List D → List D
  | d :: ds, e :: es => .tuple [d, e] :: zipL ds es
  | _, _ => []
theorem zipL_length : ∀ (ds es : List D), (zipL ds es).length = min ds.length es.length
  | [], _ => by simp [zipL]
  | _ :: _, [] => by simp [zipL]
  | d :: ds, e :: es => by
    show (zipL ds es).length + 1 = min (ds.length + 1) (es.length + 1)
    rw [zipL_length ds es]
    omega
theorem zipL_get : ∀ {ds es : List D} {i : Nat} {z : D}, (zipL ds es)[i]? = some z → ∃ d e, ds[i]? = some d ∧ es[i]? = some e ∧ z = .tuple [d, e]
  | [], _, _, _, h => by simp [zipL] at h
  | _ :: _, [], _, _, h => by simp [zipL] at h
  | d :: ds, e :: es, 0, z, h => by
    have h' : some (PyData.tuple [d, e]) = some z := h
    cases h'
    exact ⟨d, e, rfl, rfl, rfl⟩
  | d :: ds, e :: es, i + 1, z, h => by
    obtain ⟨d', e', h1, h2, h3⟩ := zipL_get (ds := ds) (es := es) (i := i) h
    exact ⟨d', e', by simpa using h1, by simpa using h2, h3⟩
theorem new_pair {H H' : Hp} {T : Addr} {x y : V} {d e : D} {own' : Addr → Prop} (hT : H T = none) (eH : H' = upd H T (.tup [x, y])) (h1 : ∀ b, own' b → Trk H b) (dx : Dp K (hid H own') x d) (dy : Dp K (hid H own') y e) : Dp K (hid H' own') (.ref T) (.tuple [d, e]) := by
  subst eH
  exact Dp.newT h1 hT (.cons dx (.cons dy .nil))
theorem walkD_enumL {a : Addr} {xs : List V} {ds : List D} (h : SqL K (hid H0 own) a xs) (d : DpAll K (hid H0 own) xs ds) : WalkD K own (Ite K a) (enumL 0 ds) H0 := by
  refine ⟨fun i H hi k => ?_, fun H k => ?_, fun i H x H' e he k y => ?_⟩
  · rw [enumL_length] at hi
    obtain ⟨v, hv, _⟩ := d.get (List.getElem?_eq_getElem hi)
    exact ⟨xs, v, kept_seqL k h, hv⟩
  · rw [enumL_length]
    exact ⟨xs, kept_seqL k h, by rw [d.length]; exact Nat.le_refl _⟩
  · obtain ⟨d', h1, h2⟩ := enumL_get he
    obtain ⟨v, hv, dv⟩ := d.get h1
    obtain ⟨T, z, ex, hT, eH, y⟩ := y
    have ez := y xs (kept_seqL k h)
    rw [hv] at ez
    cases ez
    subst ex h2
    refine ⟨by rw [eH]; exact SameX.of (same_new hT), fun own' g1 g2 => new_pair hT eH g1 ?_ (Dp.same (k.same g2) _ _ dv)⟩
    rw [Nat.zero_add]
    exact .int _
theorem walkD_zipL {a b : Addr} {xs ys : List V} {ds es : List D} (h : SqL K (hid H0 own) a xs) (d : DpAll K (hid H0 own) xs ds) (h' : SqL K (hid H0 own) b ys) (d' : DpAll K (hid H0 own) ys es) : WalkD K own (Itz K a b) (zipL ds es) H0 := by
  refine ⟨fun i H hi k => ?_, fun H k => ?_, fun i H x H' e he k y => ?_⟩
  · rw [zipL_length] at hi
    obtain ⟨v, hv, _⟩ := d.get (List.getElem?_eq_getElem (show i < ds.length by omega))
    obtain ⟨w, hw, _⟩ := d'.get (List.getElem?_eq_getElem (show i < es.length by omega))
    exact ⟨xs, ys, v, w, kept_seqL k h, kept_seqL k h', hv, hw⟩
  · rw [zipL_length]
    exact ⟨xs, ys, kept_seqL k h, kept_seqL k h', by rw [d.length, d'.length]; omega⟩
  · obtain ⟨d1, d2, h1, h2, h3⟩ := zipL_get he
    obtain ⟨v, hv, dv⟩ := d.get h1
    obtain ⟨w, hw, dw⟩ := d'.get h2
    obtain ⟨T, z, z2, ex, hT, eH, y1, y2⟩ := y
    have e1 := y1 xs (kept_seqL k h)
    have e2 := y2 ys (kept_seqL k h')
    rw [hv] at e1
    rw [hw] at e2
    cases e1
    cases e2
    subst ex h3
    exact ⟨by rw [eH]; exact SameX.of (same_new hT), fun own' g1 g2 => new_pair hT eH g1 (Dp.same (k.same g2) _ _ dv) (Dp.same (k.same g2) _ _ dw)⟩
theorem walkD_zipT {a b : Addr} {xs ys : List V} {ds es : List D} (h : SqT K (hid H0 own) a xs) (d : DpAll K (hid H0 own) xs ds) (h' : SqT K (hid H0 own) b ys) (d' : DpAll K (hid H0 own) ys es) : WalkD K own (RZ.ItzT K a b) (zipL ds es) H0 := by
  refine ⟨fun i H hi k => ?_, fun H k => ?_, fun i H x H' e he k y => ?_⟩
  · rw [zipL_length] at hi
    obtain ⟨v, hv, _⟩ := d.get (List.getElem?_eq_getElem (show i < ds.length by omega))
    obtain ⟨w, hw, _⟩ := d'.get (List.getElem?_eq_getElem (show i < es.length by omega))
    exact ⟨xs, ys, v, w, kept_seqT k h, kept_seqT k h', hv, hw⟩
  · rw [zipL_length]
    exact ⟨xs, ys, kept_seqT k h, kept_seqT k h', by rw [d.length, d'.length]; omega⟩
  · obtain ⟨d1, d2, h1, h2, h3⟩ := zipL_get he
    obtain ⟨v, hv, dv⟩ := d.get h1
    obtain ⟨w, hw, dw⟩ := d'.get h2
    obtain ⟨T, z, z2, ex, hT, eH, y1, y2⟩ := y
    have e1 := y1 xs (kept_seqT k h)
    have e2 := y2 ys (kept_seqT k h')
    rw [hv] at e1
    rw [hw] at e2
    cases e1
    cases e2
    subst ex h3
    exact ⟨by rw [eH]; exact SameX.of (same_new hT), fun own' g1 g2 => new_pair hT eH g1 (Dp.same (k.same g2) _ _ dv) (Dp.same (k.same g2) _ _ dw)⟩
end
end QL
set_option Elab.async false
set_option linter.all false
set_option maxRecDepth 100000
set_option maxHeartbeats 4000000
/-! Q9: iterables, for, while, own lists. -/
namespace QL
open PySem PySem.Spec PyProof.Rows L2
variable [LawTabs]

/-- the items of a list, of a tuple -/
def itemsM (f : M D) : M (List D) := M.bind f fun d => M.opt (match d with | .list ds => some ds | .tuple ds => some ds | _ => none)
def small62 (i : Int) : Bool := decide (-(2 ^ 62) ≤ i ∧ i < 2 ^ 62)
def range1D : List D → Option (List D)
  | [.int j] => if small62 j = true then some (rangeL 0 j.toNat) else none
  | _ => none
def range2D : List D → Option (List D)
  | [.int i, .int j] => if small62 i = true ∧ small62 j = true then some (rangeL i (j - i).toNat) else none
  | _ => none
/-- range(i, j, c): n the turns -/
def range3N (i j c : Int) : Nat := (Builtin.Range.rangeSize i j c).toNat
def range3D : List D → Option (List D)
  | [.int i, .int j, .int c] => if c ≠ 0 ∧ c.natAbs < 1073741824 ∧ Builtin.Range.small i j c = true then some (rangeC i c (range3N i j c)) else none
  | _ => none
def rangeM (g : List D → Option (List D)) (fs : M (List D)) : M (List D) := M.bind fs fun ds => M.opt (g ds)
def enumD : List D → Option (List D)
  | [.list ds] => some (enumL 0 ds)
  | _ => none
def zipD : List D → Option (List D)
  | [.list ds, .list es] => some (zipL ds es)
  | [.tuple ds, .tuple es] => some (zipL ds es)
  | _ => none
section
variable {X : Cx} {W : XK} {tg e e2 e3 : Expr} {f f1 f2 f3 : M D} {fs : M (List D)} {pos : Pos}
theorem tI_end {K : PySem.W.Frag} {O : Addr → Prop} {ρ ρ1 : Rho} {σ : Sg} {H H1 : Hp} {R : It → Hp → Prop} {ds : List D} {J : It} (r1 : Rep K O ρ1 σ H1) (e1 : Ext [] ρ σ H ρ1 σ H1) (w : WalkD K (hd O ρ1 σ) J ds H1)
    (q : ∀ J H', Rep K O ρ1 σ H' → Ext [] ρ σ H ρ1 σ H' → WalkD K (hd O ρ1 σ) J ds H' → R J H') : R J H1 := q J H1 r1 e1 w
/-- the items of a list or a tuple -/
theorem qi_seq (he : QE X W e f) : QI X W tg e (itemsM f) := fun O => by
  refine ⟨fun pins s σ H R I ⟨ρ, r, h⟩ => ?_⟩
  refine thn ((he O).run pins s σ H _ I (tE.app r h)) fun v s1 ⟨x, H1, I1, r1, d, ρ1, rep1, e1, dp1, q1⟩ => ?_
  obtain ⟨ds, hz, q⟩ := RP.opt q1
  cases dp1 with
  | @lst a xs es h1 h2 =>
    cases hz
    cases r1
    obtain ⟨its, rv, p, hz⟩ := I1.list (hid_le.seq h1)
    refine wpAny_pyIter_list p.isList ?_
    refine ⟨s1.heap.objs.size, [s1.heap.objs.size], _, _, H1, rfl, I1.kept (t' := s1.toks) fun b o e => Heap.get?_push_of_some _ e, turn_list a _, ⟨_, Heap.get?_push_size _ rfl, rfl, rfl⟩, fun b hb => ?_, tI_end rep1 e1 (walkD_list h1 h2) q⟩
    have e : b = s1.heap.objs.size := by simpa using hb
    subst e
    exact I1.fpOk (Nat.le_refl _) (I1.hok.fresh (Nat.le_refl _))
  | @tup a xs es h1 h2 =>
    cases hz
    cases r1
    obtain ⟨its, rv, p, hz⟩ := I1.tuple (seqT_same hid_le h1)
    refine wpAny_pyIter_tuple (show s1.heap.IsTuple a its.toArray from p) ?_
    refine ⟨s1.heap.objs.size, [s1.heap.objs.size], _, _, H1, rfl, I1.kept (t' := s1.toks) fun b o e => Heap.get?_push_of_some _ e, turn_tuple a _, ⟨_, Heap.get?_push_size _ rfl, rfl, rfl⟩, fun b hb => ?_, tI_end rep1 e1 (walkD_tup h1 h2) q⟩
    have e : b = s1.heap.objs.size := by simpa using hb
    subst e
    exact I1.fpOk (Nat.le_refl _) (I1.hok.fresh (Nat.le_refl _))
  | _ => cases hz
theorem small62_iff {i : Int} : small62 i = true ↔ -(2 ^ 62) ≤ i ∧ i < 2 ^ 62 := by unfold small62; exact decide_eq_true_iff
theorem qi_range1 {p : Pos} (hg : Gl X "range") (hm : X.mg "range" = none) (ha : QA X W [e] fs) (hs : starEach [e] X.env = [(false, eval e X.env)] := by rfl) : QI X W tg (.Call (.Name "range" p) [e] [] pos) (rangeM range1D fs) := fun O => (pi_range1 hg hm (ha O) hs).weak fun σ H R ⟨ρ, r, h⟩ => by
  refine tA.mono (tA.app r h) fun vs H1 ⟨ds, ρ1, rep1, e1, dp1, q1⟩ => ?_
  obtain ⟨z, hz, q⟩ := RP.opt q1
  unfold range1D at hz
  split at hz
  · split at hz
    · rename_i hsm
      cases hz
      obtain ⟨v, rfl, h⟩ := DpAll.one dp1
      obtain rfl := Dp.int_of h
      have := small62_iff.mp hsm
      exact ⟨_, rfl, this.1, this.2, tI_end rep1 e1 walkD_range q⟩
    · cases hz
  · cases hz
theorem qi_range2 {p : Pos} (hg : Gl X "range") (hm : X.mg "range" = none) (ha : QA X W [e, e2] fs) (hs : starEach [e, e2] X.env = [(false, eval e X.env), (false, eval e2 X.env)] := by rfl) (hs2 : starEach [e2] X.env = [(false, eval e2 X.env)] := by rfl) : QI X W tg (.Call (.Name "range" p) [e, e2] [] pos) (rangeM range2D fs) := fun O => (pi_range2 hg hm (ha O) hs hs2).weak fun σ H R ⟨ρ, r, h⟩ => by
  refine tA.mono (tA.app r h) fun vs H1 ⟨ds, ρ1, rep1, e1, dp1, q1⟩ => ?_
  obtain ⟨z, hz, q⟩ := RP.opt q1
  unfold range2D at hz
  split at hz
  · split at hz
    · rename_i hsm
      cases hz
      obtain ⟨v, w, rfl, h, h'⟩ := DpAll.two dp1
      obtain rfl := Dp.int_of h
      obtain rfl := Dp.int_of h'
      have h1 := small62_iff.mp hsm.1
      have h2 := small62_iff.mp hsm.2
      exact ⟨_, _, rfl, ⟨h1.1, h1.2, h2.1, h2.2⟩, tI_end rep1 e1 walkD_range q⟩
    · cases hz
  · cases hz
theorem qi_enum {p tpos : Pos} {elts : List Expr} {kk : Nat} (hg : Gl X "enumerate") (hm : X.mg "enumerate" = none) (ha : QA X W [e] fs) (hs : starEach [e] X.env = [(false, eval e X.env)] := by rfl) : QI X W (.Tuple elts kk tpos) (.Call (.Name "enumerate" p) [e] [] pos) (rangeM enumD fs) := fun O => (pi_enum hg hm (ha O) hs).weak fun σ H R ⟨ρ, r, h⟩ => by
  refine tA.mono (tA.app r h) fun vs H1 ⟨ds, ρ1, rep1, e1, dp1, q1⟩ => ?_
  obtain ⟨z, hz, q⟩ := RP.opt q1
  unfold enumD at hz
  split at hz
  · cases hz
    obtain ⟨v, rfl, h⟩ := DpAll.one dp1
    obtain ⟨a, xs, rfl, h1, h2⟩ := Dp.list_of h
    exact ⟨a, xs, rfl, hid_le.seq h1, tI_end rep1 e1 (walkD_enumL h1 h2) q⟩
  · cases hz
theorem qi_zip {p tpos : Pos} {elts : List Expr} {kk : Nat} (hg : Gl X "zip") (hm : X.mg "zip" = none) (ha : QA X W [e, e2] fs)
    (hs : starEach [e, e2] X.env = (false, eval e X.env) :: starEach [e2] X.env := by rfl) (hpl : (backTo pos (starEach [e2] X.env)).any (·.1) = false := by rfl) : QI X W (.Tuple elts kk tpos) (.Call (.Name "zip" p) [e, e2] [] pos) (rangeM zipD fs) := fun O => (RZ.pi_zipA hg hm (ha O) hs hpl).weak fun σ H R ⟨ρ, r, h⟩ => by
  refine tA.mono (tA.app r h) fun vs H1 ⟨ds, ρ1, rep1, e1, dp1, q1⟩ => ?_
  obtain ⟨z, hz, q⟩ := RP.opt q1
  unfold zipD at hz
  split at hz
  · cases hz
    obtain ⟨v, w, rfl, h, h'⟩ := DpAll.two dp1
    obtain ⟨a, xs, rfl, h1, h2⟩ := Dp.list_of h
    obtain ⟨b, ys, rfl, h3, h4⟩ := Dp.list_of h'
    exact ⟨a, b, xs, ys, rfl, .inl ⟨hid_le.seq h1, hid_le.seq h3, tI_end rep1 e1 (walkD_zipL h1 h2 h3 h4) q⟩⟩
  · cases hz
    obtain ⟨v, w, rfl, h, h'⟩ := DpAll.two dp1
    obtain ⟨a, xs, rfl, h1, h2⟩ := Dp.tuple_of h
    obtain ⟨b, ys, rfl, h3, h4⟩ := Dp.tuple_of h'
    exact ⟨a, b, xs, ys, rfl, .inr ⟨seqT_same hid_le h1, seqT_same hid_le h3, tI_end rep1 e1 (walkD_zipT h1 h2 h3 h4) q⟩⟩
  · cases hz
end

/-! ### for, while -/
section
variable {X : Cx} {P : List Nat} {W : XK} {tg iter c : Expr} {body : List Stmt} {it : M (List D)} {g : D → M Unit} {B : M Out} {t : M Bool} {pos : Pos}
theorem qs_for (hp : PassesOwn (model X.prog X.w) X.A X.env X.xe) (hc : X.calm = true) (hi : QI X W tg iter it) (hg : QG X P W tg g) (hb : QSs X P W body B) (hs : ∀ x, foldedSetIterable iter X.env x = pure x := by intro _; rfl) : QS X P W (.For tg iter body [] pos) (forS it g B) := fun O => by
  refine (ps_for hp hc (hi O) (hg O) (hb O) hs).weak fun E σ H ⟨ρ, r, h⟩ => ?_
  refine ⟨ρ, r, RP.mono (RP.bind h) (fun ds ρ1 q J H1 r1 e1 w => ?_) fun x q => q⟩
  have q0 : RP (loopS g B ds ρ1) (OutK X.K O P E ρ1 σ H1) (ErrK X.K W ρ1 σ H1) := RP.mono (show RP (loopS g B ds ρ1) (OutK X.K O P E ρ σ H) (ErrK X.K W ρ σ H) from q) (fun o ρ' q => OutK.fwd q e1.toP) fun x q => ErrK.back q e1
  refine ⟨fun i m σi Hi => m = ds.length - i ∧ i ≤ ds.length ∧ ∃ ρi, Rep X.K O ρi σi Hi ∧ Ext P ρ1 σ H1 ρi σi Hi ∧ RP (loopS g B (ds.drop i) ρi) (OutK X.K O P E ρi σi Hi) (ErrK X.K W ρi σi Hi), ⟨ds.length, by simp, Nat.zero_le _, ρ1, r1, Ext.refl, q0⟩, ?_⟩
  rintro i m σi Hi ⟨rfl, hi', ρi, ri, ei, qi⟩
  have kept : Kept (hd O ρ1 σ) H1 Hi := fun b o hn nt hb => ei.keep b o (fun z => hn (.inl z)) nt hb
  by_cases hlt : i < ds.length
  · right
    refine ⟨w.goes i Hi hlt kept, fun σ' H' => (fun i m σi Hi => m = ds.length - i ∧ i ≤ ds.length ∧ ∃ ρi, Rep X.K O ρi σi Hi ∧ Ext P ρ1 σ H1 ρi σi Hi ∧ RP (loopS g B (ds.drop i) ρi) (OutK X.K O P E ρi σi Hi) (ErrK X.K W ρi σi Hi)) (i + 1) (ds.length - (i + 1)) σ' H', fun σ' H' z => ⟨_, by omega, z⟩, fun x H' y => ?_⟩
    obtain ⟨sm, dd⟩ := w.yields i Hi x H' ds[i] (List.getElem?_eq_getElem hlt) kept y
    have ri' := ri.same sm
    have ei' : Ext P ρi σi Hi ρi σi H' := Ext.of_same sm
    have dp := dd (hd O ρi σi) ri.trk fun b hb z => by
      rcases z with z | z
      · rcases ei.own b z with q | q
        · exact .inl q
        · exact absurd hb q
      · exact .inr z
    rw [List.drop_eq_getElem_cons hlt] at qi
    have q1 := RP.bind (show RP (M.bind (g ds[i]) _ ρi) (OutK X.K O P E ρi σi Hi) (ErrK X.K W ρi σi Hi) from qi)
    refine ⟨ρi, ds[i], ri', dp, RP.mono q1 (fun _ ρ2 q2 σ2 H2 r2 e2 => ?_) fun x q => ErrK.back q ei'⟩
    have e02 : Ext P ρi σi Hi ρ2 σ2 H2 := ei'.trans e2
    refine ⟨ρ2, r2, RP.mono (RP.bind q2) (fun o ρ3 q3 => ?_) fun x q => ErrK.back q e02⟩
    cases o with
    | nx => exact fun σ3 H3 r3 e3 => ⟨rfl, hlt, ρ3, r3, ei.trans (e02.trans e3), RP.fwd q3 (e02.trans e3)⟩
    | ct => exact fun σ3 H3 r3 e3 => ⟨rfl, hlt, ρ3, r3, ei.trans (e02.trans e3), RP.fwd q3 (e02.trans e3)⟩
    | bk => exact fun σ3 H3 r3 e3 => q3 σ3 H3 r3 (e02.trans e3)
    | ret d => exact OutK.fwd (E := { E with nx := _, ct := _, bk := _ }) q3 e02
    | rto d => exact OutK.fwd (E := { E with nx := _, ct := _, bk := _ }) q3 e02
  · left
    have e : i = ds.length := by omega
    subst e
    rw [List.drop_length] at qi
    exact ⟨w.stops Hi kept, qi σi Hi ri Ext.refl⟩
/-- the number of turns that a while may take, as far as it is walked -/
@[irreducible] def fuel : Nat := 10 ^ 40
def whileS (c : M Bool) (b : M Out) : M Out := whileF c b fuel
theorem qs_while (hp : PassesOwn (model X.prog X.w) X.A X.env X.xe) (hc : QT X W c t) (hb : QSs X P W body B) : QS X P W (.While c body [] pos) (whileS t B) := fun O => by
  refine (ps_while hp (hc O) (hb O)).weak fun E σ H ⟨ρ, r, h⟩ => ?_
  refine ⟨fun m σi Hi => ∃ ρi, Rep X.K O ρi σi Hi ∧ RP (whileF t B m ρi) (OutK X.K O P E ρi σi Hi) (ErrK X.K W ρi σi Hi), ⟨fuel, ρ, r, h⟩, ?_⟩
  rintro m σi Hi ⟨ρi, ri, qi⟩
  cases m with
  | zero => exact qi.elim
  | succ m =>
    refine tT.mono (tT.app ri (show RP (M.bind t _ ρi) _ _ from qi)) fun b H1 ⟨ρ1, r1, e1, q1⟩ => ?_
    cases b with
    | false => exact (if_neg Bool.false_ne_true).mpr (q1 σi H1 r1 e1.toP)
    | true =>
      refine (if_pos rfl).mpr ⟨fun σ' H' => ∃ ρi, Rep X.K O ρi σ' H' ∧ RP (whileF t B m ρi) (OutK X.K O P E ρi σ' H') (ErrK X.K W ρi σ' H'), fun σ' H' z => ⟨m, Nat.lt_succ_self _, z⟩, ?_⟩
      have q1' : RP (M.bind B _ ρ1) (OutK X.K O P E ρi σi Hi) (ErrK X.K W ρ1 σi H1) := q1
      refine ⟨ρ1, r1, RP.mono (RP.bind q1') (fun o ρ3 q3 => ?_) fun x q => q⟩
      cases o with
      | nx => exact fun σ3 H3 r3 e3 => ⟨ρ3, r3, RP.mono (show RP (whileF t B m ρ3) (OutK X.K O P E ρi σi Hi) (ErrK X.K W ρ1 σi H1) from q3) (fun o ρ' q => OutK.fwd q (e1.toP.trans e3)) fun x q => ErrK.back q e3⟩
      | ct => exact fun σ3 H3 r3 e3 => ⟨ρ3, r3, RP.mono (show RP (whileF t B m ρ3) (OutK X.K O P E ρi σi Hi) (ErrK X.K W ρ1 σi H1) from q3) (fun o ρ' q => OutK.fwd q (e1.toP.trans e3)) fun x q => ErrK.back q e3⟩
      | bk => exact fun σ3 H3 r3 e3 => q3 σ3 H3 r3 (e1.toP.trans e3)
      | ret d => exact OutK.fwd (E := { E with nx := _, ct := _, bk := _ }) q3 e1.toP
      | rto d => exact OutK.fwd (E := { E with nx := _, ct := _, bk := _ }) q3 e1.toP
end
end QL
set_option Elab.async false
set_option linter.all false
set_option maxRecDepth 100000
set_option maxHeartbeats 4000000
/-! Q10: own lists, calls that change them, defs. -/
namespace QL
open PySem PySem.Spec PyProof.Rows L2
variable [LawTabs]

section
variable {X : Cx} {P : List Nat} {W : XK} {e : Expr} {es : List Expr} {f : M D} {fs : M (List D)} {pos pos' : Pos}
theorem vis_of_loc {sc : Scope} {x : Str} (h : Loc sc x) : Vis sc x := h.elim .inl fun z => .inr (.inl z)
/-- x = [..], a list of the frame's own -/
theorem qs_new {i : Nat} {x : Str} {p2 : Pos} (hN : X.N.Nodup) (hi : X.N[i]? = some x) (hx : Loc X.env.scope x) (he : QA X W es fs) (hP : i ∉ P := by decide) (hs : swapsWith (.List es p2) (some (.Name x pos')) pos.line X.env = pure false := by rfl) (hf : X.fn x = true ∨ X.env.scope.names.lookup x = some .local := by first | exact .inl rfl | exact .inr rfl | assumption) :
    QS X P W (.Assign [.Name x pos'] (.List es p2) pos) (newS i fs) := fun O => (ps_set hN hi hx (pe_lst (he O)) hs hf).weak fun E σ H ⟨ρ, r, h⟩ => by
  refine tA.mono (tA.app r h) fun vs H1 ⟨ds, ρ1, rep1, e1, dp1, q1⟩ => ?_
  by_cases hl : ds.length ≤ sizeLine
  · simp only [if_pos hl] at q1
    refine ⟨by rw [dp1.length]; exact hl, fun p hp => ?_⟩
    have sm : SameT H1 (upd H1 p (.lst vs)) := .of (same_new (o := .lst vs) hp)
    have dd : DpAll X.K (hid (upd H1 p (.lst vs)) fun b => hd O ρ1 σ b ∨ b = p) vs ds := DpAll.same (hid_anti sm fun b hb z => z.elim (fun z => z) fun z => absurd hp (z ▸ hb.ne)) _ _ dp1
    exact q1 _ _ (rep1.setMu (fun t => t.ne hp) sm upd_same dd) (e1.toP.trans (Ext.setMu (fun t => t.ne hp) sm hP))
  · simp only [if_neg hl] at q1
    exact q1.elim
/-- x.append(e), x of the frame's own -/
theorem qs_append {i : Nat} {x : Str} {p1 apos cpos : Pos} (hN : X.N[i]? = some x) (hv : Vis X.env.scope x) (he : QE X W e f) (hd' : (x == ("__debug__" : Str)) = false := by decide) (hcd : (x == ("__classdict__" : Str)) = false := by decide)
    (hbase : attributeBase (.Name x p1) "append" X.env (eval (.Name x p1) X.env) = eval (.Name x p1) X.env := by rfl)
    (hfew : ((backTo cpos (starEach [e] X.env)).all (fun x => !x.1) && (backToKw cpos (keywordEach [] X.env)).all (fun x => x.1.isSome)
      && decide ([e].length + ([] : List Keyword).length + (if ([] : List Keyword).isEmpty then 0 else 1) < 30)) = true := by rfl)
    (hline : (apos.endLine == cpos.line) = true := by rfl) (hs : starEach [e] X.env = (false, eval e X.env) :: starEach [] X.env := by rfl) (hplain : (backTo cpos (starEach [] X.env)).any (·.1) = false := by rfl)
    (hs0 : swapsWith (.Call (.Attribute (.Name x p1) "append" apos) [e] [] cpos) none pos.line X.env = pure false := by rfl) :
    QS X P W (.Expr (.Call (.Attribute (.Name x p1) "append" apos) [e] [] cpos) pos) (appS i f) := fun O => by
  refine (ps_expr (pe_bm PySem.F.plainAttrs_list PySem.F.slot_list_append PySem.F.type_list_append mt_append (pe_var hN hv hd' hcd) (pa_cons (he O) pa_nil hs) hbase hfew hline hs hplain) hs0).weak fun E σ H ⟨ρ, r, h⟩ => ?_
  unfold appS at h
  by_cases hm : isMu ρ i = true
  · rw [if_pos hm] at h
    cases q : ρ[i]? with
    | none =>
      have z : isMu ρ i = false := by unfold isMu; rw [q]
      rw [z] at hm; cases hm
    | some sl =>
      cases sl with
      | no =>
        have z : isMu ρ i = false := by unfold isMu; rw [q]
        rw [z] at hm; cases hm
      | im _ =>
        have z : isMu ρ i = false := by unfold isMu; rw [q]
        rw [z] at hm; cases hm
      | mu ds0 =>
        obtain ⟨l, xs0, hl, hH, _⟩ := r.mu i ds0 q
        refine ⟨.ref l, hl, .inl ⟨rfl, xs0, SqL.of hH⟩, ?_⟩
        refine tE.mono (tE.app r h) fun v H1 ⟨d, ρ1, rep1, e1, dp1, q1⟩ => ?_
        cases q2 : ρ1[i]? with
        | none => simp only [q2] at q1; exact q1.elim
        | some sl =>
          cases sl with
          | no => simp only [q2] at q1; exact q1.elim
          | im _ => simp only [q2] at q1; exact q1.elim
          | mu ds =>
            simp only [q2] at q1
            by_cases hz : ds.length < sizeLine
            · simp only [if_pos hz] at q1
              obtain ⟨l', xs, hl', hH', dd⟩ := rep1.mu i ds q2
              rw [hl] at hl'
              cases hl'
              have keep : SameX (fun b => b = l) H1 (upd H1 l (.lst (xs ++ [v]))) := .one hH' (fun b o hb h => by rw [upd_ne hb]; exact h) ⟨_, upd_same, nt_lst⟩
              have hown : hd O ρ1 σ l := .inl ⟨i, ds, q2, hl⟩
              have sm : Same (hid H1 (hd O ρ1 σ)) (hid (upd H1 l (.lst (xs ++ [v]))) (hd O ρ1 σ)) := fun b o h => by
                obtain ⟨h1, h2, nt⟩ := hid_some.mp h
                exact hid_some.mpr ⟨h1, keep.keep b o (fun z => h1 (z ▸ hown)) nt h2, nt⟩
              exact ⟨l, xs, v, rfl, rfl, hH', by rw [dd.length]; exact hz, q1 σ _ (rep1.mut q2 hl keep upd_same (DpAll.same sm _ _ (dd.append (.cons dp1 .nil)))) (e1.toP.trans (Ext.mut q2 hl keep upd_same))⟩
            · simp only [if_neg hz] at q1
              exact q1.elim
  · rw [if_neg hm] at h
    exact h.elim
theorem mu_of {i : Nat} {K : PySem.W.Frag} {O : Addr → Prop} {ρ : Rho} {σ : Sg} {H : Hp} {ds : List D} (r : Rep K O ρ σ H) (h : ρ[i]? = some (.mu ds)) : ∃ l xs, σ[i]? = some (some (.ref l)) ∧ H l = some (.lst xs) ∧ DpAll K (hid H (hd O ρ σ)) xs ds := r.mu i ds h
/-- x[k] of an own list, k written -/
theorem q_ownIx {i : Nat} {x : Str} {k : Int} {p1 : Pos} {eb : Expr} (hN : X.N[i]? = some x) (hv : Vis X.env.scope x) (hb : PE X eb (tC (.int k))) (hd' : (x == ("__debug__" : Str)) = false := by decide) (hcd : (x == ("__classdict__" : Str)) = false := by decide) (hs : PlainIx eb := by exact fun _ _ => rfl) :
    QE X W (.Subscript (.Name x p1) eb pos) (ownIx i k) := fun O => by
  refine (pe_ix ix_list (pe_var hN hv hd' hcd) hb hs).weak fun σ H Q ⟨ρ, r, h⟩ => ?_
  unfold ownIx at h
  cases q : ρ[i]? with
  | none => rw [q] at h; exact h.elim
  | some sl =>
    rw [q] at h
    cases sl with
    | no => exact h.elim
    | im _ => exact h.elim
    | mu ds =>
      obtain ⟨l, xs, hl, hH, dd⟩ := r.mu i ds q
      cases e : atI ds k with
      | none =>
        simp only [e] at h
        exact h.elim
      | some z =>
        simp only [e] at h
        obtain ⟨w, e1, e2⟩ := dd.atI e
        exact ⟨.ref l, hl, l, xs, k, w, rfl, rfl, SqL.of hH, e1, h w H r Ext.refl e2⟩
/-- len(x) of an own list -/
theorem q_ownLen {i : Nat} {x : Str} {p p1 : Pos} (hg : Gl X "len") (hm : X.mg "len" = none) (hN : X.N[i]? = some x) (hv : Vis X.env.scope x) (hd' : (x == ("__debug__" : Str)) = false := by decide) (hcd : (x == ("__classdict__" : Str)) = false := by decide)
    (hs : starEach [.Name x p1] X.env = (false, eval (.Name x p1) X.env) :: starEach [] X.env := by rfl) (hpl : (backTo pos (starEach [] X.env)).any (·.1) = false := by rfl) : QE X W (.Call (.Name "len" p) [.Name x p1] [] pos) (ownLen i) := fun O => by
  refine (pe_callB call_len_seq hg hm boot_len (pa_cons (pe_var hN hv hd' hcd) pa_nil hs) (by decide) (by decide) hs hpl).weak fun σ H Q ⟨ρ, r, h⟩ => ?_
  unfold ownLen at h
  cases q : ρ[i]? with
  | none => rw [q] at h; exact h.elim
  | some sl =>
    rw [q] at h
    cases sl with
    | no => exact h.elim
    | im _ => exact h.elim
    | mu ds =>
      obtain ⟨l, xs, hl, hH, dd⟩ := r.mu i ds q
      refine ⟨.ref l, hl, l, xs, rfl, .inl (SqL.of hH), ?_⟩
      rw [dd.length]
      exact h _ H r Ext.refl (.int _)
/-- x[k] = e, x of the frame's own, k written -/
theorem qs_putIx {i : Nat} {x : Str} {k : Int} {p1 p2 : Pos} {eb : Expr} (hN : X.N[i]? = some x) (hv : Vis X.env.scope x) (hb : PE X eb (tC (.int k))) (he : QE X W e f) (hd' : (x == ("__debug__" : Str)) = false := by decide) (hcd : (x == ("__classdict__" : Str)) = false := by decide)
    (ha : ∀ v, assign (.Subscript (.Name x p1) eb p2) X.env v = (do
      let ov ← holding [v] (eval (.Name x p1) X.env)
      let iv ← holding [v, ov] (eval eb X.env)
      standAt p2
      holding [v, ov, iv] (setItem ov iv v)
      release [v, ov, iv] []) := by intro _; rfl)
    (hs : swapsWithSole [.Subscript (.Name x p1) eb p2] e pos.line X.env = pure false := by rfl) (hw : swappedStores [.Subscript (.Name x p1) eb p2] e X.env = pure none := by rfl)
    (h1 : (assignEach [.Subscript (.Name x p1) eb p2] X.env).map (·.2) = [assign (.Subscript (.Name x p1) eb p2) X.env] := by rfl) :
    QS X P W (.Assign [.Subscript (.Name x p1) eb p2] e pos) (putIx i k f) := fun O => by
  refine (ps_asg (he O) (pg_sub (pe_var hN hv hd' hcd) hb set_list ha) hs hw h1).weak fun E σ H ⟨ρ, r, h⟩ => ?_
  refine tE.mono (tE.app r h) fun v H1 ⟨d, ρ1, rep1, e1, dp1, q1⟩ => ?_
  cases q : ρ1[i]? with
  | none => simp only [q] at q1; exact q1.elim
  | some sl =>
    cases sl with
    | no => simp only [q] at q1; exact q1.elim
    | im _ => simp only [q] at q1; exact q1.elim
    | mu ds =>
      simp only [q] at q1
      cases e : ixN ds.length k with
      | none => simp only [e] at q1; exact q1.elim
      | some j =>
        simp only [e] at q1
        obtain ⟨l, xs, hl, hH, dd⟩ := rep1.mu i ds q
        have keep : SameX (fun b => b = l) H1 (upd H1 l (.lst (xs.set j v))) := .one hH (fun b o hb h => by rw [upd_ne hb]; exact h) ⟨_, upd_same, nt_lst⟩
        have hown : hd O ρ1 σ l := .inl ⟨i, ds, q, hl⟩
        have sm : Same (hid H1 (hd O ρ1 σ)) (hid (upd H1 l (.lst (xs.set j v))) (hd O ρ1 σ)) := fun b o h => by
          obtain ⟨h1, h2, nt⟩ := hid_some.mp h
          exact hid_some.mpr ⟨h1, keep.keep b o (fun z => h1 (z ▸ hown)) nt h2, nt⟩
        exact ⟨.ref l, hl, l, xs, k, j, rfl, rfl, hH, by rw [dd.length]; exact e, q1 σ _ (rep1.mut q hl keep upd_same (DpAll.same sm _ _ (dd.set j dp1))) (e1.toP.trans (Ext.mut q hl keep upd_same))⟩
/-- return [..], a new list -/
theorem qs_rto {p2 : Pos} (he : QA X W es fs) : QS X P W (.Return (some (.List es p2)) pos) (rtoS fs) := fun O => (ps_ret (pe_lst (he O))).weak fun E σ H ⟨ρ, r, h⟩ => by
  refine tA.mono (tA.app r h) fun vs H1 ⟨ds, ρ1, rep1, e1, dp1, q1⟩ => ?_
  by_cases hl : ds.length ≤ sizeLine
  · simp only [if_pos hl] at q1
    refine ⟨by rw [dp1.length]; exact hl, fun p hp => ?_⟩
    have sm : SameT H1 (upd H1 p (.lst vs)) := .of (same_new (o := .lst vs) hp)
    have dd : DpAll X.K (hid (upd H1 p (.lst vs)) fun b => hd O ρ1 σ b ∨ b = p) vs ds := DpAll.same (hid_anti sm fun b hb z => z.elim (fun z => z) fun z => absurd hp (z ▸ hb.ne)) _ _ dp1
    have hp0 : ¬ Trk H p := fun t => (e1.trk p t).ne hp
    exact (show OutK X.K O P E ρ σ H (.rto ds) ρ1 from q1) p vs σ _ (rep1.same sm) (e1.toP.trans (Ext.of_same sm)) hp0 (fun z => (rep1.trk p (.inl z)).ne hp) (fun z => (rep1.tr p z).ne hp) upd_same dd
  · simp only [if_neg hl] at q1
    exact q1.elim
end
end QL
set_option Elab.async false
set_option linter.all false
set_option maxRecDepth 100000
set_option maxHeartbeats 4000000
/-! Q11: calls that change a list, defs. -/
namespace QL
open PySem PySem.Spec PyProof.Rows L2
variable [LawTabs]

def callMF (j n : Nat) (F : List D → List D → R (D × List D)) (fs : M (List D)) : M D := fun ρ => if isMu ρ j = true then M.bind fs (fun ds ρ1 => match ρ1[j]? with
  | some (.mu cs) => if ds.length = n then (match F cs ds with
    | .ok (d, cs') => .ok (d, ρ1.set j (.mu cs'))
    | .err x => .err x
    | .stuck => .stuck) else .stuck
  | _ => .stuck) ρ else .stuck
def newCallS (i n : Nat) (F : List D → R (List D)) (fs : M (List D)) : M Out := M.bind fs fun ds ρ => if ds.length = n then (match F ds with
  | .ok es => .ok (.nx, ρ.set i (.mu es))
  | .err x => .err x
  | .stuck => .stuck) else .stuck
section
variable {X : Cx} {P : List Nat} {W : XK} {e : Expr} {es : List Expr} {fs : M (List D)} {pos pos' : Pos}
theorem isMu_some {ρ : Rho} {i : Nat} (h : isMu ρ i = true) : ∃ ds, ρ[i]? = some (.mu ds) := by
  unfold isMu at h
  cases q : ρ[i]? with
  | none => rw [q] at h; cases h
  | some sl =>
    rw [q] at h
    cases sl with
    | no => cases h
    | im _ => cases h
    | mu ds => exact ⟨ds, rfl⟩
/-- f(x, e, ..), x of the frame's own, changed by f -/
theorem q_callM {j k n : Nat} {f : Addr} {fd : FuncData} {ps : List Str} {F : List D → List D → R (D × List D)} {x y : Str} {p p1 : Pos} (G : FnOk X.prog X.w X.K X.mg X.base (L2N.CX X.prog X.w) k f fd ps (spM X.K n F)) (hr : Room k X.A) (hp : Passes (L2N.CX X.prog X.w) X W) (hg : Gl X x) (hm : X.mg x = some (.ref f)) (hk : PySem.W.keepIn X.K (.ref f) = true) (hb : Binds X.K fd ps [])
    (hN : X.N[j]? = some y) (hv : Vis X.env.scope y) (ha : QA X W es fs) (hdb : (x == ("__debug__" : Str)) = false := by decide) (hd' : (y == ("__debug__" : Str)) = false := by decide) (hcd : (y == ("__classdict__" : Str)) = false := by decide)
    (he : starEach (.Name y p1 :: es) X.env = (false, eval (.Name y p1) X.env) :: starEach es X.env := by rfl) (hpl : (backTo pos (starEach es X.env)).any (·.1) = false := by rfl) :
    QE X W (.Call (.Name x p) (.Name y p1 :: es) [] pos) (callMF j n F fs) := fun O => by
  refine (pe_call G hr hg hm hk hb .nil hp (pa_cons (pe_var hN hv hd' hcd) (ha O) he) hdb he hpl).weak fun σ H Q ⟨ρ, r, h⟩ => ?_
  unfold callMF at h
  by_cases hmu : isMu ρ j = true
  · rw [if_pos hmu] at h
    obtain ⟨ds0, q⟩ := isMu_some hmu
    obtain ⟨l, xs0, hl, hH, _⟩ := r.mu j ds0 q
    refine ⟨.ref l, hl, ?_⟩
    refine tA.mono (tA.app r h) fun vs H1 ⟨ds, ρ1, rep1, e1, dp1, q1⟩ => ?_
    show spM X.K n F ((V.ref l :: vs) ++ []) H1 Q W
    rw [List.append_nil]
    cases q2 : ρ1[j]? with
    | none => simp only [q2] at q1; exact q1.elim
    | some sl =>
      cases sl with
      | no => simp only [q2] at q1; exact q1.elim
      | im _ => simp only [q2] at q1; exact q1.elim
      | mu cs =>
        simp only [q2] at q1
        by_cases hn : ds.length = n
        · simp only [if_pos hn] at q1
          obtain ⟨l', xs, hl', hH', dd⟩ := rep1.mu j cs q2
          rw [hl] at hl'
          cases hl'
          have hown : Own ρ1 σ l := ⟨j, cs, q2, hl⟩
          have eO : (fun b => (hd O ρ1 σ b ∧ b ≠ l) ∨ b = l) = hd O ρ1 σ := funext fun b => propext ⟨fun z => z.elim (fun z => z.1) fun z => z ▸ .inl hown, fun z => by
            by_cases q : b = l
            · exact .inr q
            · exact .inl ⟨z, q⟩⟩
          refine ⟨fun b => hd O ρ1 σ b ∧ b ≠ l, l, xs, cs, vs, ds, rfl, hn, hH', fun z => z.2 rfl, by rw [eO]; exact dd, by rw [eO]; exact dp1, fun b z => rep1.trk b z.1, rep1.tb, ?_⟩
          cases eF : F cs ds with
          | stuck => simp only [eF] at q1; exact q1.elim
          | err x =>
            simp only [eF] at q1
            exact fun cls od H' hx keep => (show ErrK X.K W ρ1 σ H1 x from q1) cls od H' hx (keep.le fun b z => z ▸ hown)
          | ok dc =>
            obtain ⟨d, cs'⟩ := dc
            simp only [eF] at q1
            rw [eO]
            exact fun v H' xs' keep hl' dx dv => q1 v H' (rep1.mut q2 hl keep hl' dx) (e1.trans (Ext.mut q2 hl keep hl')) (by rw [hd_mut q2]; exact dv)
        · simp only [if_neg hn] at q1
          exact q1.elim
  · rw [if_neg hmu] at h
    exact h.elim
/-- x = f(e, ..), a new list, x of the frame's own -/
theorem qs_newCall {i k n : Nat} {f : Addr} {fd : FuncData} {ps : List Str} {F : List D → R (List D)} {x y : Str} {p cpos : Pos} (G : FnOk X.prog X.w X.K X.mg X.base (L2N.CX X.prog X.w) k f fd ps (spO X.K n F)) (hr : Room k X.A) (hp : Passes (L2N.CX X.prog X.w) X W) (hg : Gl X x) (hm : X.mg x = some (.ref f)) (hk : PySem.W.keepIn X.K (.ref f) = true) (hb : Binds X.K fd ps [])
    (ha : QA X W (e :: es) fs) (hN : X.N.Nodup) (hi : X.N[i]? = some y) (hy : Loc X.env.scope y) (hP : i ∉ P := by decide) (hdb : (x == ("__debug__" : Str)) = false := by decide) (he : starEach (e :: es) X.env = (false, eval e X.env) :: starEach es X.env := by rfl) (hpl : (backTo cpos (starEach es X.env)).any (·.1) = false := by rfl)
    (hs : swapsWith (.Call (.Name x p) (e :: es) [] cpos) (some (.Name y pos')) pos.line X.env = pure false := by rfl) (hf : X.fn y = true ∨ X.env.scope.names.lookup y = some .local := by first | exact .inl rfl | exact .inr rfl | assumption) :
    QS X P W (.Assign [.Name y pos'] (.Call (.Name x p) (e :: es) [] cpos) pos) (newCallS i n F fs) := fun O => by
  refine (ps_set hN hi hy (pe_call G hr hg hm hk hb .nil hp (ha O) hdb he hpl) hs hf).weak fun E σ H ⟨ρ, r, h⟩ => ?_
  refine tA.mono (tA.app r h) fun vs H1 ⟨ds, ρ1, rep1, e1, dp1, q1⟩ => ?_
  rw [List.append_nil]
  by_cases hl : ds.length = n
  · simp only [if_pos hl] at q1
    refine ⟨hd O ρ1 σ, ds, hl, dp1, rep1.trk, rep1.tb, ?_⟩
    cases eF : F ds with
    | stuck => simp only [eF] at q1; exact q1.elim
    | err x =>
      simp only [eF] at q1
      exact fun cls od H' hx sm => (show ErrK X.K W ρ1 σ H1 x from q1) cls od H' hx sm.any
    | ok cs =>
      simp only [eF] at q1
      exact fun p xs H' hp sm hl dx => q1 _ _ (rep1.setMu hp sm hl dx) (e1.toP.trans (Ext.setMu hp sm hP))
  · simp only [if_neg hl] at q1
    exact q1.elim
end

/-! ### defs -/
def rho0 (m : Nat) (ds : List D) : Rho := ds.map .im ++ List.replicate (m - ds.length) .no
def runP (S : M Out) (m : Nat) (ds : List D) : R D := match S (rho0 m ds) with
  | .ok (.nx, _) => .ok .none
  | .ok (.ret d, _) => .ok d
  | .err x => .err x
  | _ => .stuck
def runO (S : M Out) (m : Nat) (ds : List D) : R (List D) := match S (rho0 m ds) with
  | .ok (.rto es, _) => .ok es
  | .err x => .err x
  | _ => .stuck
def rhoM (m : Nat) (es : List D) (ds : List D) : Rho := .mu es :: (ds.map .im ++ List.replicate (m - (ds.length + 1)) .no)
def runM (S : M Out) (m : Nat) (es ds : List D) : R (D × List D) := match S (rhoM m es ds) with
  | .ok (.nx, ρ) => (match (ρ : List Sl)[0]? with
    | some (Sl.mu cs) => .ok (.none, cs)
    | _ => .stuck)
  | .ok (.ret d, ρ) => (match (ρ : List Sl)[0]? with
    | some (Sl.mu cs) => .ok (d, cs)
    | _ => .stuck)
  | .err x => .err x
  | _ => .stuck
section
variable {K : PySem.W.Frag} {O : Addr → Prop} {H : Hp}
theorem no_or_im {m : Nat} {ds : List D} {i : Nat} {s : Sl} (h : (rho0 m ds)[i]? = some s) : (∃ d, ds[i]? = some d ∧ s = .im d) ∨ s = .no := by
  unfold rho0 at h
  by_cases hi : i < ds.length
  · rw [List.getElem?_append_left (by simpa using hi), List.getElem?_map, List.getElem?_eq_getElem hi] at h
    cases h
    exact .inl ⟨_, List.getElem?_eq_getElem hi, rfl⟩
  · rw [List.getElem?_append_right (by simpa using hi), List.getElem?_replicate] at h
    split at h
    · cases h; exact .inr rfl
    · cases h
theorem start_get {N : List Str} {vs : List V} {i : Nat} {v : V} (h : vs[i]? = some v) : (L2.start N vs)[i]? = some (some v) := by
  unfold L2.start
  have hi : i < vs.length := (List.getElem?_eq_some_iff.mp h).1
  rw [List.getElem?_append_left (by simpa using hi), List.getElem?_map, h] <;> rfl
theorem rep_start {N : List Str} {vs : List V} {ds : List D} (hd' : DpAll K (hid H O) vs ds) (hO : ∀ b, O b → Trk H b) (tb : TabL K H) : Rep K O (rho0 N.length ds) (L2.start N vs) H ∧ ∀ b, ¬ Own (rho0 N.length ds) (L2.start N vs) b := by
  have no : ∀ b, ¬ Own (rho0 N.length ds) (L2.start N vs) b := fun b ⟨i, es, h1, _⟩ => by
    rcases no_or_im h1 with ⟨_, _, z⟩ | z <;> cases z
  have sm : Same (hid H O) (hid H (hd O (rho0 N.length ds) (L2.start N vs))) := hid_anti .refl fun b _ z => z.elim (fun z => absurd z (no b)) id
  refine ⟨⟨?_, fun i d h => ?_, fun i es h => ?_, fun i j a b l h _ _ _ => ?_, fun b h => absurd h (no b), hO, tb⟩, no⟩
  · unfold rho0 L2.start
    rw [List.length_append, List.length_append, List.length_map, List.length_map, List.length_replicate, List.length_replicate, hd'.length]
  · rcases no_or_im h with ⟨d', h1, z⟩ | z
    · cases z
      obtain ⟨v, h2, h3⟩ := hd'.get h1
      exact ⟨v, start_get h2, Dp.same sm _ _ h3⟩
    · cases z
  · rcases no_or_im h with ⟨_, _, z⟩ | z <;> cases z
  · rcases no_or_im h with ⟨_, _, z⟩ | z <;> cases z
theorem muM {m : Nat} {es ds : List D} {i : Nat} {fs : List D} (h : (rhoM m es ds)[i]? = some (.mu fs)) : i = 0 ∧ fs = es := by
  cases i with
  | zero => cases h; exact ⟨rfl, rfl⟩
  | succ i =>
    have h' : (ds.map Sl.im ++ List.replicate (m - (ds.length + 1)) Sl.no)[i]? = some (.mu fs) := h
    by_cases hi : i < ds.length
    · rw [List.getElem?_append_left (by simpa using hi), List.getElem?_map, List.getElem?_eq_getElem hi] at h'
      cases h'
    · rw [List.getElem?_append_right (by simpa using hi), List.getElem?_replicate] at h'
      split at h' <;> cases h'
theorem rep_startM {N : List Str} {l : Addr} {xs vs : List V} {es ds : List D} (hH : H l = some (.lst xs)) (nO : ¬ O l) (dx : DpAll K (hid H fun b => O b ∨ b = l) xs es) (hd' : DpAll K (hid H fun b => O b ∨ b = l) vs ds) (hO : ∀ b, O b → Trk H b) (tb : TabL K H) :
    Rep K O (rhoM N.length es ds) (L2.start N (.ref l :: vs)) H ∧ ∀ b, Own (rhoM N.length es ds) (L2.start N (.ref l :: vs)) b → b = l := by
  have h0 : (L2.start N (.ref l :: vs))[0]? = some (some (.ref l)) := start_get rfl
  have own : ∀ b, Own (rhoM N.length es ds) (L2.start N (.ref l :: vs)) b → b = l := fun b ⟨i, fs, h1, h2⟩ => by
    obtain ⟨rfl, rfl⟩ := muM h1
    rw [h0] at h2
    cases h2
    rfl
  have sm : Same (hid H fun b => O b ∨ b = l) (hid H (hd O (rhoM N.length es ds) (L2.start N (.ref l :: vs)))) := hid_anti .refl fun b _ z => z.elim (fun z => .inr (own b z)) .inl
  refine ⟨⟨?_, fun i d h => ?_, fun i fs h => ?_, fun i j a b c h1 h2 _ _ => ?_, fun b h => by rw [own b h]; exact nO, hO, tb⟩, own⟩
  · unfold rhoM L2.start
    rw [List.length_cons, List.length_append, List.length_append, List.length_map, List.length_map, List.length_replicate, List.length_replicate, List.length_cons, hd'.length]
    omega
  · cases i with
    | zero => cases h
    | succ i =>
      have h' : (ds.map Sl.im ++ List.replicate (N.length - (ds.length + 1)) Sl.no)[i]? = some (.im d) := h
      by_cases hi : i < ds.length
      · rw [List.getElem?_append_left (by simpa using hi), List.getElem?_map, List.getElem?_eq_getElem hi] at h'
        cases h'
        obtain ⟨v, h2, h3⟩ := hd'.get (List.getElem?_eq_getElem hi)
        exact ⟨v, start_get (i := i + 1) (by simpa using h2), Dp.same sm _ _ h3⟩
      · rw [List.getElem?_append_right (by simpa using hi), List.getElem?_replicate] at h'
        split at h' <;> cases h'
  · obtain ⟨rfl, rfl⟩ := muM h
    exact ⟨l, xs, h0, hH, DpAll.same sm _ _ dx⟩
  · obtain ⟨rfl, _⟩ := muM h1
    obtain ⟨rfl, _⟩ := muM h2
    rfl
end
section
variable {P : Program} {w : World} {K : PySem.W.Frag} {mg : Str → Option Value} {base : Heap} {x qual : Str} {params : Arguments} {body : List Stmt} {scope : Scope} {f : Addr} {fd : FuncData} {N ps : List Str} {k n : Nat} {S : M Out}
/-- a def that gives a function of its arguments -/
theorem fn_P (F : FunD K x qual params body scope [] [] f fd) (Sc : FnScope N ps scope) (hn : n = ps.length)
    (hbody : ∀ (cdv : Value) (A : Around) (outer : List Env) (s : Shared) (H : Hp) (E : XK), Room k (A.deeper (envOfC qual scope s.heap.objs.size f cdv)) → QSs (cxOf (L2N.CX P w) P w K mg base N qual scope f cdv A outer s H E) [] E body S) :
    FnOk P w K mg base (L2N.CX P w) (k + 1) f fd ps (spP K n (runP S N.length)) := by
  refine F.ok Sc (fun vs H Q E ⟨O, ds, h1, h2, _⟩ => by rw [h2.length, h1, hn]) (fun cdv A outer s H vs Q E hr ⟨O, ds, h1, h2, h3, tb, h4⟩ => ⟨_, hbody cdv A outer s H E hr O, ?_⟩)
  obtain ⟨r, no⟩ := rep_start (N := N) h2 h3 tb
  have smO : Same (hid H (hd O (rho0 N.length ds) (L2.start N vs))) (hid H O) := hid_anti .refl fun b _ z => .inr z
  refine ⟨_, r, ?_⟩
  unfold runP at h4
  have keep : ∀ {ρ' σ' H'}, Ext [] (rho0 N.length ds) (L2.start N vs) H ρ' σ' H' → SameT H H' := fun e => e.sx.le no
  cases q : S (rho0 N.length ds) with
  | stuck => rw [q] at h4; exact h4.elim
  | err y =>
    rw [q] at h4
    exact fun cls od H' he hk => h4 cls od H' he (hk.le no)
  | ok z =>
    obtain ⟨o, ρ1⟩ := z
    rw [q] at h4
    cases o with
    | nx => exact fun σ' H' r' e' => h4 _ _ (keep e') .non
    | ret d => exact fun v σ' H' r' e' dp => h4 _ _ (keep e') (Dp.same (hid_anti .refl fun b _ z => .inr z) _ _ dp)
    | bk => exact h4.elim
    | ct => exact h4.elim
    | rto _ => exact h4.elim
theorem fn_O (F : FunD K x qual params body scope [] [] f fd) (Sc : FnScope N ps scope) (hn : n = ps.length)
    (hbody : ∀ (cdv : Value) (A : Around) (outer : List Env) (s : Shared) (H : Hp) (E : XK), Room k (A.deeper (envOfC qual scope s.heap.objs.size f cdv)) → QSs (cxOf (L2N.CX P w) P w K mg base N qual scope f cdv A outer s H E) [] E body S) :
    FnOk P w K mg base (L2N.CX P w) (k + 1) f fd ps (spO K n (runO S N.length)) := by
  refine F.ok Sc (fun vs H Q E ⟨O, ds, h1, h2, _⟩ => by rw [h2.length, h1, hn]) (fun cdv A outer s H vs Q E hr ⟨O, ds, h1, h2, h3, tb, h4⟩ => ⟨_, hbody cdv A outer s H E hr O, ?_⟩)
  obtain ⟨r, no⟩ := rep_start (N := N) h2 h3 tb
  refine ⟨_, r, ?_⟩
  unfold runO at h4
  have keep : ∀ {ρ' σ' H'}, Ext [] (rho0 N.length ds) (L2.start N vs) H ρ' σ' H' → SameT H H' := fun e => e.sx.le no
  cases q : S (rho0 N.length ds) with
  | stuck => rw [q] at h4; exact h4.elim
  | err y =>
    rw [q] at h4
    exact fun cls od H' he hk => h4 cls od H' he (hk.le no)
  | ok z =>
    obtain ⟨o, ρ1⟩ := z
    rw [q] at h4
    cases o with
    | rto es => exact fun p xs σ' H' r' e' hp n1 n2 hl dp => h4 p xs H' hp (keep e') hl (DpAll.same (hid_anti .refl fun b _ z => z.elim (fun z => .inl (.inr z)) .inr) _ _ dp)
    | nx => exact h4.elim
    | bk => exact h4.elim
    | ct => exact h4.elim
    | ret _ => exact h4.elim
/-- a def whose first argument is a list that it changes -/
theorem fn_M (F : FunD K x qual params body scope [] [] f fd) (Sc : FnScope N ps scope) (hn : n + 1 = ps.length)
    (hbody : ∀ (cdv : Value) (A : Around) (outer : List Env) (s : Shared) (H : Hp) (E : XK), Room k (A.deeper (envOfC qual scope s.heap.objs.size f cdv)) → QSs (cxOf (L2N.CX P w) P w K mg base N qual scope f cdv A outer s H E) [0] E body S) :
    FnOk P w K mg base (L2N.CX P w) (k + 1) f fd ps (spM K n (runM S N.length)) := by
  refine F.ok Sc (fun vs H Q E ⟨O, l, xs, es, vr, ds, e, h1, _, _, _, h2, _⟩ => by rw [e, List.length_cons, h2.length, h1, hn]) (fun cdv A outer s H vs Q E hr ⟨O, l, xs, es, vr, ds, e, h1, hH, nO, dx, h2, h3, tb, h4⟩ => ⟨_, hbody cdv A outer s H E hr O, ?_⟩)
  subst e
  obtain ⟨r, own⟩ := rep_startM (N := N) hH nO dx h2 h3 tb
  have h0 : (L2.start N (.ref l :: vr))[0]? = some (some (.ref l)) := start_get rfl
  refine ⟨_, r, ?_⟩
  unfold runM at h4
  have keep : ∀ {ρ' σ' H'}, Ext [0] (rhoM N.length es ds) (L2.start N (.ref l :: vr)) H ρ' σ' H' → SameX (fun b => b = l) H H' := fun e => e.sx.le own
  have mu : ∀ {ρ' σ' H' cs}, Rep K O ρ' σ' H' → Ext [0] (rhoM N.length es ds) (L2.start N (.ref l :: vr)) H ρ' σ' H' → ρ'[0]? = some (.mu cs) → hd O ρ' σ' l ∧ ∃ xs', H' l = some (.lst xs') ∧ DpAll K (hid H' fun b => O b ∨ b = l) xs' cs := fun {ρ' σ' H' cs} r' e' hm => by
    obtain ⟨l', xs', hl, hH', dd⟩ := r'.mu 0 cs hm
    have hs := e'.par 0 (by simp)
    rw [h0, hl] at hs
    cases hs
    exact ⟨.inl ⟨0, cs, hm, hl⟩, xs', hH', DpAll.same (hid_anti .refl fun b _ z => z.elim .inr fun z => z ▸ .inl ⟨0, cs, hm, hl⟩) _ _ dd⟩
  cases q : S (rhoM N.length es ds) with
  | stuck => rw [q] at h4; exact h4.elim
  | err y =>
    rw [q] at h4
    exact fun cls od H' he hk => h4 cls od H' he (hk.le own)
  | ok z =>
    obtain ⟨o, ρ1⟩ := z
    rw [q] at h4
    cases o with
    | nx =>
      cases q2 : ρ1[0]? with
      | none => simp only [q2] at h4
      | some sl =>
        cases sl with
        | no => simp only [q2] at h4
        | im _ => simp only [q2] at h4
        | mu cs =>
          simp only [q2] at h4
          refine fun σ' H' r' e' => ?_
          obtain ⟨hl, xs', h5, h6⟩ := mu r' e' q2
          exact h4 _ _ _ (keep e') h5 h6 .non
    | ret d =>
      cases q2 : ρ1[0]? with
      | none => simp only [q2] at h4
      | some sl =>
        cases sl with
        | no => simp only [q2] at h4
        | im _ => simp only [q2] at h4
        | mu cs =>
          simp only [q2] at h4
          refine fun v σ' H' r' e' dp => ?_
          obtain ⟨hl, xs', h5, h6⟩ := mu r' e' q2
          exact h4 _ _ _ (keep e') h5 h6 (Dp.same (hid_anti .refl fun b _ z => z.elim .inr fun z => z ▸ hl) _ _ dp)
    | bk => exact h4.elim
    | ct => exact h4.elim
    | rto _ => exact h4.elim
end
end QL
set_option Elab.async false
set_option linter.all false
set_option maxRecDepth 100000
set_option maxHeartbeats 4000000
/-! Q12: list comprehensions. -/
namespace QL
open PySem PySem.Spec PyProof.Rows L2
variable [LawTabs]

def wipeR (ρ : Rho) : List Nat → Rho
  | [] => ρ
  | v :: vs => (wipeR ρ vs).set v .no
def noMu (ρ : Rho) (vs : List Nat) : Bool := vs.all fun i => !isMu ρ i
def restR (ρ ρ' : Rho) : List Nat → Rho
  | [] => ρ'
  | v :: vs => match ρ[v]? with
    | some s => (restR ρ ρ' vs).set v s
    | none => restR ρ ρ' vs
def wipeM (vs : List Nat) : M Unit := fun ρ => if noMu ρ vs = true then .ok ((), wipeR ρ vs) else .stuck
def compL (g : D → M Unit) (c : M Bool) (e : M D) (vs : List Nat) : List D → M (List D)
  | [] => M.pure []
  | d :: ds => M.bind (g d) fun _ => M.bind c fun k => if k = true then M.bind e fun z => M.bind (wipeM vs) fun _ => M.bind (compL g c e vs ds) fun zs => M.pure (z :: zs) else M.bind (wipeM vs) fun _ => compL g c e vs ds
def compM (it : M (List D)) (g : D → M Unit) (c : M Bool) (e : M D) (vs : List Nat) : M D := M.bind it fun ds ρ => if noMu ρ vs = true ∧ ds.length ≤ sizeLine then (match compL g c e vs ds (wipeR ρ vs) with
  | .ok (es, ρ') => .ok (.list es, restR ρ ρ' vs)
  | _ => .stuck) else .stuck

theorem M.bind_ok {α β : Type} {a : M α} {k : α → M β} {ρ ρ' : Rho} {x : β} (h : M.bind a k ρ = .ok (x, ρ')) : ∃ y ρ1, a ρ = .ok (y, ρ1) ∧ k y ρ1 = .ok (x, ρ') := by
  unfold M.bind at h
  cases q : a ρ with
  | stuck => rw [q] at h; cases h
  | err _ => rw [q] at h; cases h
  | ok z =>
    obtain ⟨y, ρ1⟩ := z
    rw [q] at h
    exact ⟨y, ρ1, rfl, h⟩

theorem wipeR_length (ρ : Rho) : ∀ vs : List Nat, (wipeR ρ vs).length = ρ.length
  | [] => rfl
  | v :: vs => by unfold wipeR; rw [List.length_set, wipeR_length ρ vs]
theorem wipeR_in {ρ : Rho} {i : Nat} {s : Sl} : ∀ {vs : List Nat}, i ∈ vs → (wipeR ρ vs)[i]? = some s → s = .no
  | v :: vs, hi, h => by
    unfold wipeR at h
    rcases set_get h with ⟨_, _, e⟩ | ⟨ne, h⟩
    · exact e
    · rcases List.mem_cons.mp hi with e | hi
      · exact absurd e.symm ne
      · exact wipeR_in hi h
theorem wipeR_out {ρ : Rho} {i : Nat} : ∀ {vs : List Nat}, i ∉ vs → (wipeR ρ vs)[i]? = ρ[i]?
  | [], _ => rfl
  | v :: vs, h => by
    unfold wipeR
    rw [List.getElem?_set_ne (fun e => h (by rw [e]; exact List.mem_cons_self)), wipeR_out fun z => h (List.mem_cons_of_mem _ z)]
theorem wipe_out' {σ : Sg} {i : Nat} : ∀ {vs : List Nat}, i ∉ vs → (wipe σ vs)[i]? = σ[i]?
  | [], _ => rfl
  | v :: vs, h => by
    unfold wipe
    rw [List.getElem?_set_ne (fun e => h (by rw [e]; exact List.mem_cons_self)), wipe_out' fun z => h (List.mem_cons_of_mem _ z)]
theorem wipe_in {σ : Sg} {i : Nat} {s : Option V} : ∀ {vs : List Nat}, i ∈ vs → (wipe σ vs)[i]? = some s → s = none
  | v :: vs, hi, h => by
    unfold wipe at h
    rcases set_get h with ⟨_, _, e⟩ | ⟨ne, h⟩
    · exact e
    · rcases List.mem_cons.mp hi with e | hi
      · exact absurd e.symm ne
      · exact wipe_in hi h
/-- two states that differ in the wiped slots alone -/
theorem wipe_eq {σ σ' : Sg} {vs : List Nat} (hl : σ'.length = σ.length) (h : ∀ i, i ∉ vs → σ'[i]? = σ[i]?) : wipe σ' vs = wipe σ vs := by
  apply List.ext_getElem?
  intro i
  by_cases hi : i ∈ vs
  · by_cases hn : i < σ.length
    · have h1 : i < (wipe σ vs).length := by rw [wipe_length]; exact hn
      have h2 : i < (wipe σ' vs).length := by rw [wipe_length, hl]; exact hn
      rw [List.getElem?_eq_getElem h1, List.getElem?_eq_getElem h2, wipe_in hi (List.getElem?_eq_getElem h1), wipe_in hi (List.getElem?_eq_getElem h2)]
    · rw [List.getElem?_eq_none (by rw [wipe_length, hl]; omega), List.getElem?_eq_none (by rw [wipe_length]; omega)]
  · rw [wipe_out' hi, wipe_out' hi, h i hi]
theorem wipeR_eq {σ σ' : Rho} {vs : List Nat} (hl : σ'.length = σ.length) (h : ∀ i, i ∉ vs → σ'[i]? = σ[i]?) : wipeR σ' vs = wipeR σ vs := by
  apply List.ext_getElem?
  intro i
  by_cases hi : i ∈ vs
  · by_cases hn : i < σ.length
    · have h1 : i < (wipeR σ vs).length := by rw [wipeR_length]; exact hn
      have h2 : i < (wipeR σ' vs).length := by rw [wipeR_length, hl]; exact hn
      rw [List.getElem?_eq_getElem h1, List.getElem?_eq_getElem h2, wipeR_in hi (List.getElem?_eq_getElem h1), wipeR_in hi (List.getElem?_eq_getElem h2)]
    · rw [List.getElem?_eq_none (by rw [wipeR_length, hl]; omega), List.getElem?_eq_none (by rw [wipeR_length]; omega)]
  · rw [wipeR_out hi, wipeR_out hi, h i hi]
theorem wipe_wipe (σ : Sg) (vs : List Nat) : wipe (wipe σ vs) vs = wipe σ vs := wipe_eq (wipe_length σ vs) fun i hi => wipe_out' hi
theorem wipeR_wipeR (σ : Rho) (vs : List Nat) : wipeR (wipeR σ vs) vs = wipeR σ vs := wipeR_eq (wipeR_length σ vs) fun i hi => wipeR_out hi
theorem restR_length (ρ ρ' : Rho) : ∀ vs : List Nat, (restR ρ ρ' vs).length = ρ'.length
  | [] => rfl
  | v :: vs => by
    unfold restR
    split
    · rw [List.length_set, restR_length ρ ρ' vs]
    · exact restR_length ρ ρ' vs
theorem restR_out {ρ ρ' : Rho} {i : Nat} : ∀ {vs : List Nat}, i ∉ vs → (restR ρ ρ' vs)[i]? = ρ'[i]?
  | [], _ => rfl
  | v :: vs, h => by
    unfold restR
    split
    · rw [List.getElem?_set_ne (fun e => h (by rw [e]; exact List.mem_cons_self)), restR_out fun z => h (List.mem_cons_of_mem _ z)]
    · exact restR_out fun z => h (List.mem_cons_of_mem _ z)
theorem restR_in {ρ ρ' : Rho} {i : Nat} (hl : ρ.length = ρ'.length) : ∀ {vs : List Nat}, i ∈ vs → (restR ρ ρ' vs)[i]? = ρ[i]?
  | v :: vs, hi => by
    unfold restR
    cases q : ρ[v]? with
    | none =>
      show (restR ρ ρ' vs)[i]? = ρ[i]?
      by_cases hv : i ∈ vs
      · exact restR_in hl hv
      · have e : i = v := (List.mem_cons.mp hi).resolve_right hv
        rw [restR_out hv, e, q, List.getElem?_eq_none_iff, ← hl]
        exact List.getElem?_eq_none_iff.mp q
    | some s =>
      show ((restR ρ ρ' vs).set v s)[i]? = ρ[i]?
      by_cases e : v = i
      · subst e
        rw [List.getElem?_set_self (by rw [restR_length, ← hl]; exact (List.getElem?_eq_some_iff.mp q).1), q]
      · rw [List.getElem?_set_ne e]
        exact restR_in hl ((List.mem_cons.mp hi).resolve_left fun z => e z.symm)
theorem noMu_at {ρ : Rho} {vs : List Nat} (h : noMu ρ vs = true) {i : Nat} (hi : i ∈ vs) (ds : List D) : ρ[i]? ≠ some (.mu ds) := fun e => by
  have z := List.all_eq_true.mp h i hi
  unfold isMu at z
  rw [e] at z
  cases z
section
variable {K : PySem.W.Frag} {O : Addr → Prop} {ρ ρ1 : Rho} {σ : Sg} {H H1 : Hp} {vs : List Nat}
theorem own_wipe (h : noMu ρ vs = true) (b : Addr) : Own (wipeR ρ vs) (wipe σ vs) b ↔ Own ρ σ b := by
  constructor
  · rintro ⟨i, ds, h1, h2⟩
    by_cases hi : i ∈ vs
    · cases wipeR_in hi h1
    · rw [wipeR_out hi] at h1
      rw [wipe_out' hi] at h2
      exact ⟨i, ds, h1, h2⟩
  · rintro ⟨i, ds, h1, h2⟩
    by_cases hi : i ∈ vs
    · exact absurd h1 (noMu_at h hi ds)
    · exact ⟨i, ds, by rw [wipeR_out hi]; exact h1, by rw [wipe_out' hi]; exact h2⟩
theorem hd_wipe (h : noMu ρ vs = true) : hd O (wipeR ρ vs) (wipe σ vs) = hd O ρ σ := funext fun b => propext ⟨fun z => z.elim (fun z => .inl ((own_wipe h b).mp z)) .inr, fun z => z.elim (fun z => .inl ((own_wipe h b).mpr z)) .inr⟩
theorem Rep.wipe (r : Rep K O ρ σ H) (h : noMu ρ vs = true) : Rep K O (wipeR ρ vs) (L2.wipe σ vs) H := by
  refine ⟨by rw [wipeR_length, wipe_length]; exact r.len, fun i d e => ?_, fun i ds e => ?_, fun i j a b l h1 h2 h3 h4 => ?_, fun b z => r.ap b ((own_wipe h b).mp z), r.tr, r.tb⟩
  · by_cases hi : i ∈ vs
    · cases wipeR_in hi e
    · rw [wipeR_out hi] at e
      rw [hd_wipe h, wipe_out' hi]
      exact r.im i d e
  · by_cases hi : i ∈ vs
    · cases wipeR_in hi e
    · rw [wipeR_out hi] at e
      rw [hd_wipe h, wipe_out' hi]
      exact r.mu i ds e
  · by_cases hi : i ∈ vs
    · cases wipeR_in hi h1
    · by_cases hj : j ∈ vs
      · cases wipeR_in hj h2
      · rw [wipeR_out hi] at h1
        rw [wipeR_out hj] at h2
        rw [wipe_out' hi] at h3
        rw [wipe_out' hj] at h4
        exact r.inj i j a b l h1 h2 h3 h4
/-- more is hidden: an address that nothing tells of -/
theorem Rep.hide {p : Addr} (r : Rep K O ρ σ H) (hp : H p = none) {o : HO} (nt : NT o := by exact nt_lst) : Rep K (fun b => O b ∨ b = p) ρ σ (upd H p o) := by
  have sm : SameT H (upd H p o) := .of (same_new (o := o) hp)
  have sd : Same (hid H (hd O ρ σ)) (hid (upd H p o) (hd (fun b => O b ∨ b = p) ρ σ)) := hid_anti sm fun b hb z => by
    rcases z with z | z | z
    · exact .inl z
    · exact .inr z
    · rw [z] at hb; exact absurd hp hb.ne
  refine ⟨r.len, fun i d e => ?_, fun i ds e => ?_, r.inj, fun b z q => ?_, fun b z => ?_, sm.tabL r.tb⟩
  · obtain ⟨v, h1, h2⟩ := r.im i d e
    exact ⟨v, h1, Dp.same sd _ _ h2⟩
  · obtain ⟨l, xs, h1, h2, h3⟩ := r.mu i ds e
    exact ⟨l, xs, h1, sm.keep _ _ id nt_lst h2, DpAll.same sd _ _ h3⟩
  · rcases q with q | q
    · exact r.ap b z q
    · exact (r.trk b (.inl z)).ne (by rw [q]; exact hp)
  · rcases z with z | z
    · exact sm.trk b (r.tr b z)
    · rw [z]; exact ⟨o, upd_same, nt⟩
/-- a hidden object is changed -/
theorem Rep.updHid {p : Addr} {xs0 : List V} (r : Rep K O ρ σ H) (hp : O p) (hl : H p = some (.lst xs0)) {o : HO} (nt : NT o := by exact nt_lst) : Rep K O ρ σ (upd H p o) ∧ Same (hid H (hd O ρ σ)) (hid (upd H p o) (hd O ρ σ)) := by
  have sd : Same (hid H (hd O ρ σ)) (hid (upd H p o) (hd O ρ σ)) := fun b x e => by
    obtain ⟨h1, h2, nt⟩ := hid_some.mp e
    exact hid_some.mpr ⟨h1, by rw [upd_ne (show b ≠ p from fun z => h1 (by rw [z]; exact .inr hp))]; exact h2, nt⟩
  refine ⟨⟨r.len, fun i d e => ?_, fun i ds e => ?_, r.inj, r.ap, fun b z => ?_, (SameX.one (l := p) (H' := upd H p o) hl (fun b o hb h => by rw [upd_ne hb]; exact h) ⟨o, upd_same, nt⟩).tabL r.tb⟩, sd⟩
  · obtain ⟨v, h1, h2⟩ := r.im i d e
    exact ⟨v, h1, Dp.same sd _ _ h2⟩
  · obtain ⟨l, xs, h1, h2, h3⟩ := r.mu i ds e
    exact ⟨l, xs, h1, by rw [upd_ne (show l ≠ p from fun z => r.ap l ⟨i, ds, e, h1⟩ (by rw [z]; exact hp))]; exact h2, DpAll.same sd _ _ h3⟩
  · by_cases q : b = p
    · rw [q]; exact ⟨o, upd_same, nt⟩
    · obtain ⟨u, h, n⟩ := r.tr b z
      exact ⟨u, by rw [upd_ne q]; exact h, n⟩
end

/-! ### the rule -/
def tEx (K : PySem.W.Frag) (W : XK) (f : M D) : TE := fun σ H Q => ∃ O, tE K O W f σ H Q
def tTx (K : PySem.W.Frag) (W : XK) (f : M Bool) : TT := fun σ H Q => ∃ O, tT K O W f σ H Q
def tGx (K : PySem.W.Frag) (P : List Nat) (W : XK) (g : D → M Unit) : TG := fun v σ H Q => ∃ O, tG K O P W g v σ H Q
def QTs (X : Cx) (W : XK) (ifs : List Expr) (c : M Bool) : Prop := ∀ O, PTs X ifs (tT X.K O W c)
abbrev W0 : XK := fun _ _ _ => False
theorem qts_nil {X : Cx} {W : XK} : QTs X W [] (M.pure true) := fun O => ⟨fun pins s σ H Q I ⟨ρ, r, h⟩ => pts_nil.run pins s σ H Q I (h H r Ext.refl)⟩
theorem qts_one {X : Cx} {W : XK} {e : Expr} {c : M Bool} (h : QT X W e c) : QTs X W [e] c := fun O => pts_one (h O)
section
variable {X : Cx} {W : XK}
theorem comp_read {K : PySem.W.Frag} {O : Addr → Prop} {σ : Sg} {H : Hp} {Q : VK} {it : M (List D)} {g : D → M Unit} {c : M Bool} {e : M D} {Pv : List Nat} {vs : List Nat} {n : Nat} (hσ : σ.length = n) (hcov : ∀ i, i < n → i ∈ vs ∨ i ∈ Pv) (h : tE K O W (compM it g c e vs) σ H Q) :
    tLc (tI K O W it) (tGx K Pv W0 g) (tTx K W0 c) (tEx K W0 e) vs σ H Q := by
  obtain ⟨ρ, r, h⟩ := h
  refine ⟨ρ, r, RP.mono (RP.bind h) (fun ds ρ1 q J H1 r1 e1 w => ?_) fun x q => q⟩
  intro Dd hDd
  by_cases hcond : noMu ρ1 vs = true ∧ ds.length ≤ sizeLine
  · obtain ⟨hmu, hsz⟩ := hcond
    have q' := q
    simp only [if_pos (show noMu ρ1 vs = true ∧ ds.length ≤ sizeLine from ⟨hmu, hsz⟩)] at q'
    cases ec : compL g c e vs ds (wipeR ρ1 vs) with
    | stuck => rw [ec] at q'; exact q'.elim
    | err _ => rw [ec] at q'; exact q'.elim
    | ok z =>
      obtain ⟨esF, ρF⟩ := z
      rw [ec] at q'
      have qF : ∀ v H', Rep K O (restR ρ1 ρF vs) σ H' → Ext [] ρ σ H (restR ρ1 ρF vs) σ H' → Dp K (hid H' (hd O (restR ρ1 ρF vs) σ)) v (.list esF) → Q v H' := q'
      -- the start of the block
      have rw1 := r1.wipe hmu
      have rw2 : Rep K (fun b => O b ∨ b = Dd) (wipeR ρ1 vs) (wipe σ vs) (upd H1 Dd (.lst [])) := rw1.hide hDd
      have ew1 : Ext [] (wipeR ρ1 vs) (wipe σ vs) H1 (wipeR ρ1 vs) (wipe σ vs) (upd H1 Dd (.lst [])) := Ext.of_same (.of (same_new hDd))
      have tracked : ∀ b o, H1 b = some o → b ≠ Dd := fun b o hb z => by rw [z, hDd] at hb; cases hb
      refine ⟨fun i m Hi => m = ds.length - i ∧ i ≤ ds.length ∧ ∃ (ρi : Rho) (acc : List V) (dn es : List D), Rep K (fun b => O b ∨ b = Dd) ρi (wipe σ vs) Hi ∧ Ext [] (wipeR ρ1 vs) (wipe σ vs) H1 ρi (wipe σ vs) Hi ∧ wipeR ρi vs = ρi ∧ Hi Dd = some (.lst acc) ∧
          DpAll K (hid Hi (hd (fun b => O b ∨ b = Dd) ρi (wipe σ vs))) acc dn ∧ dn.length ≤ i ∧ compL g c e vs (ds.drop i) ρi = .ok (es, ρF) ∧ dn ++ es = esF,
        ⟨ds.length, by simp, Nat.zero_le _, wipeR ρ1 vs, [], [], esF, rw2, ew1, wipeR_wipeR _ _, upd_same, .nil, Nat.le_refl _, ec, rfl⟩, ?_⟩
      rintro i m Hi ⟨rfl, hi', ρi, acc, dn, es, ri, ei, wi, hD, da, hdn, eci, edn⟩
      have kept : Kept (hd O ρ1 σ) H1 Hi := fun b o hb nt hh => ei.keep b o (fun z => hb (.inl ((own_wipe hmu b).mp z))) nt hh
      have ownLe : ∀ b, Trk H1 b → hd (fun b => O b ∨ b = Dd) ρi (wipe σ vs) b → hd O ρ1 σ b := fun b hb z => by
        rcases z with z | z | z
        · rcases ei.own b z with q | q
          · exact .inl ((own_wipe hmu b).mp q)
          · exact absurd hb q
        · exact .inr z
        · rw [z] at hb; exact absurd hDd hb.ne
      by_cases hlt : i < ds.length
      · right
        refine ⟨w.goes i Hi hlt kept, fun H' => (fun i m Hi => m = ds.length - i ∧ i ≤ ds.length ∧ ∃ (ρi : Rho) (acc : List V) (dn es : List D), Rep K (fun b => O b ∨ b = Dd) ρi (wipe σ vs) Hi ∧ Ext [] (wipeR ρ1 vs) (wipe σ vs) H1 ρi (wipe σ vs) Hi ∧ wipeR ρi vs = ρi ∧ Hi Dd = some (.lst acc) ∧
          DpAll K (hid Hi (hd (fun b => O b ∨ b = Dd) ρi (wipe σ vs))) acc dn ∧ dn.length ≤ i ∧ compL g c e vs (ds.drop i) ρi = .ok (es, ρF) ∧ dn ++ es = esF) (i + 1) (ds.length - (i + 1)) H', fun H' z => ⟨_, by omega, z⟩, fun x H' y => ?_⟩
        obtain ⟨sm, dd⟩ := w.yields i Hi x H' ds[i] (List.getElem?_eq_getElem hlt) kept y
        have ri' := ri.same sm
        have ei' : Ext Pv ρi (wipe σ vs) Hi ρi (wipe σ vs) H' := Ext.of_same sm
        have dp := dd (hd (fun b => O b ∨ b = Dd) ρi (wipe σ vs)) ri.trk ownLe
        rw [List.drop_eq_getElem_cons hlt] at eci
        obtain ⟨_, ρ2, eg, eci⟩ := M.bind_ok (show M.bind (g ds[i]) _ ρi = _ from eci)
        obtain ⟨k, ρ3, et, eci⟩ := M.bind_ok eci
        refine ⟨fun b => O b ∨ b = Dd, ρi, ds[i], ri', dp, ?_⟩
        rw [eg]
        refine fun σ2 H2 r2 e2 => ?_
        have e02 : Ext Pv ρi (wipe σ vs) Hi ρ2 σ2 H2 := ei'.trans e2
        have hw2 : wipe σ2 vs = wipe σ vs := by
          have hl : σ2.length = (wipe σ vs).length := e2.len
          rw [show wipe σ vs = wipe (wipe σ vs) vs from (wipe_wipe σ vs).symm]
          refine wipe_eq hl fun j hj => ?_
          by_cases hjn : j < n
          · exact e2.par j ((hcov j hjn).resolve_left hj)
          · rw [List.getElem?_eq_none (by rw [hl, wipe_length, hσ]; omega), List.getElem?_eq_none (by rw [wipe_length, hσ]; omega)]
        refine ⟨hw2, fun b => O b ∨ b = Dd, ρ2, r2, ?_⟩
        rw [et]
        refine fun H3 r3 e3 => ?_
        have e03 : Ext Pv ρi (wipe σ vs) Hi ρ3 σ2 H3 := e02.trans e3.toP
        have atD : ∀ {ρ' σ' H'}, Ext Pv ρi (wipe σ vs) Hi ρ' σ' H' → H' Dd = some (.lst acc) := fun x => x.keep Dd _ (fun z => ri.ap Dd z (.inr rfl)) nt_lst hD
        -- the end of a turn
        have fin : ∀ {ρ4 : Rho} {H4 : Hp} {acc' : List V} {dn' es' : List D}, Rep K (fun b => O b ∨ b = Dd) ρ4 σ2 H4 → Ext Pv ρi (wipe σ vs) Hi ρ4 σ2 H4 → noMu ρ4 vs = true → DpAll K (hid H4 (hd (fun b => O b ∨ b = Dd) ρ4 σ2)) acc' dn' → dn'.length ≤ i + 1 → compL g c e vs (ds.drop (i + 1)) (wipeR ρ4 vs) = .ok (es', ρF) → dn' ++ es' = esF →
            ∃ (ρi : Rho) (acc : List V) (dn es : List D), Rep K (fun b => O b ∨ b = Dd) ρi (wipe σ vs) (upd H4 Dd (.lst acc')) ∧ Ext [] (wipeR ρ1 vs) (wipe σ vs) H1 ρi (wipe σ vs) (upd H4 Dd (.lst acc')) ∧ wipeR ρi vs = ρi ∧ (upd H4 Dd (.lst acc')) Dd = some (.lst acc) ∧
              DpAll K (hid (upd H4 Dd (.lst acc')) (hd (fun b => O b ∨ b = Dd) ρi (wipe σ vs))) acc dn ∧ dn.length ≤ i + 1 ∧ compL g c e vs (ds.drop (i + 1)) ρi = .ok (es, ρF) ∧ dn ++ es = esF := fun {ρ4 H4 acc' dn' es'} r4 e4 hm4 da' hl' ec' ed' => by
          have r5 := r4.wipe hm4
          rw [hw2] at r5
          obtain ⟨r6, sm6⟩ := r5.updHid (p := Dd) (.inr rfl) (atD e4) (o := .lst acc')
          have eh : hd (fun b => O b ∨ b = Dd) (wipeR ρ4 vs) (wipe σ vs) = hd (fun b => O b ∨ b = Dd) ρ4 σ2 := by rw [← hw2]; exact hd_wipe hm4
          refine ⟨wipeR ρ4 vs, acc', dn', es', r6, ⟨fun b o hb nt hh => ?_, fun b z => ?_, fun b hb => ?_, (fun _ h => nomatch h), rfl, fun t => (SameX.one (atD e4) (fun b o hb h => by rw [upd_ne hb]; exact h) ⟨_, upd_same, nt_lst⟩).tab (e4.tab (ei.tab t))⟩, wipeR_wipeR _ _, upd_same, ?_, hl', ec', ed'⟩
          · rw [upd_ne (tracked b o hh)]
            have h1 := ei.keep b o hb nt hh
            have hno : ¬ Own ρi (wipe σ vs) b := fun z => (ei.own b z).elim hb fun q => q ⟨o, hh, nt⟩
            exact e4.keep b o hno nt h1
          · have z' : Own ρ4 σ2 b := by
              rw [← hw2] at z
              exact (own_wipe hm4 b).mp z
            rcases e4.own b z' with q | q
            · exact ei.own b q
            · exact .inr fun t => q (ei.trk b t)
          · by_cases z : b = Dd
            · rw [z]; exact ⟨_, upd_same, nt_lst⟩
            · unfold Trk; rw [upd_ne z]
              exact e4.trk b (ei.trk b hb)
          · rw [eh]
            rw [eh] at sm6
            exact DpAll.same sm6 _ _ da'
        cases k with
        | true =>
          refine (if_pos rfl).mpr ⟨fun b => O b ∨ b = Dd, ρ3, r3, ?_⟩
          obtain ⟨z, ρ4, ee, eci⟩ := M.bind_ok (show M.bind e _ ρ3 = _ from eci)
          obtain ⟨_, ρ5, ew, eci⟩ := M.bind_ok eci
          obtain ⟨zs, ρ6, ecr, eci⟩ := M.bind_ok eci
          have e6 : (R.ok (z :: zs, ρ6) : R (List D × Rho)) = .ok (es, ρF) := eci
          cases e6
          rw [ee]
          refine fun v H4 r4 e4 dz => ?_
          have e04 := e03.trans (e4.toP (P := Pv))
          have hm4 : noMu ρ4 vs = true := by
            cases hq : noMu ρ4 vs with
            | true => rfl
            | false =>
              unfold wipeM at ew
              rw [hq] at ew
              cases ew
          have e5 : ρ5 = wipeR ρ4 vs := by
            unfold wipeM at ew
            rw [if_pos hm4] at ew
            cases ew; rfl
          subst e5
          refine ⟨acc, atD e04, ?_, rfl, hlt, ?_⟩
          · have := da.length
            omega
          · exact fin (acc' := acc ++ [v]) (dn' := dn ++ [z]) r4 e04 hm4 ((DpAll.same e04.same _ _ da).append (.cons dz .nil)) (by rw [List.length_append]; show dn.length + 1 ≤ i + 1; omega) ecr (by rw [List.append_assoc]; exact edn)
        | false =>
          refine (if_neg Bool.false_ne_true).mpr ?_
          obtain ⟨_, ρ5, ew, ecr⟩ := M.bind_ok (show M.bind (wipeM vs) _ ρ3 = _ from eci)
          have hm3 : noMu ρ3 vs = true := by
            cases hq : noMu ρ3 vs with
            | true => rfl
            | false =>
              unfold wipeM at ew
              rw [hq] at ew
              cases ew
          have e5 : ρ5 = wipeR ρ3 vs := by
            unfold wipeM at ew
            rw [if_pos hm3] at ew
            cases ew; rfl
          subst e5
          have hu : upd H3 Dd (.lst acc) = H3 := by
            funext b
            by_cases z : b = Dd
            · rw [z, upd_same, atD e03]
            · rw [upd_ne z]
          have f := fin (acc' := acc) (dn' := dn) r3 e03 hm3 (DpAll.same e03.same _ _ da) (by omega) ecr edn
          rw [hu] at f
          exact ⟨rfl, hlt, f⟩
      · left
        have ei0 : i = ds.length := by omega
        subst ei0
        rw [List.drop_length] at eci
        have e6 : (R.ok (([] : List D), ρi) : R (List D × Rho)) = .ok (es, ρF) := eci
        cases e6
        rw [List.append_nil] at edn
        subst edn
        refine ⟨w.stops Hi kept, ?_⟩
        have hlen : ρ1.length = ρF.length := by rw [r1.len, ri.len, wipe_length]
        -- the slots again as they were
        have get_in : ∀ {j}, j ∈ vs → (restR ρ1 ρF vs)[j]? = ρ1[j]? := fun hj => restR_in hlen hj
        have get_out : ∀ {j}, j ∉ vs → (restR ρ1 ρF vs)[j]? = ρF[j]? := fun hj => restR_out hj
        have ownF : ∀ b, Own (restR ρ1 ρF vs) σ b ↔ Own ρF (wipe σ vs) b := fun b => by
          constructor
          · rintro ⟨j, fs, h1, h2⟩
            by_cases hj : j ∈ vs
            · rw [get_in hj] at h1
              exact absurd h1 (noMu_at hmu hj fs)
            · rw [get_out hj] at h1
              exact ⟨j, fs, h1, by rw [wipe_out' hj]; exact h2⟩
          · rintro ⟨j, fs, h1, h2⟩
            by_cases hj : j ∈ vs
            · rw [← wi] at h1
              cases wipeR_in hj h1
            · rw [wipe_out' hj] at h2
              exact ⟨j, fs, by rw [get_out hj]; exact h1, h2⟩
        have smF : Same (hid Hi (hd (fun b => O b ∨ b = Dd) ρF (wipe σ vs))) (hid Hi (hd O (restR ρ1 ρF vs) σ)) := hid_anti .refl fun b _ z => z.elim (fun z => .inl ((ownF b).mp z)) fun z => .inr (.inl z)
        have sm1 : Same (hid H1 (hd O ρ1 σ)) (hid Hi (hd O (restR ρ1 ρF vs) σ)) := fun b o hh => by
          obtain ⟨h1, h2, nt⟩ := hid_some.mp hh
          refine hid_some.mpr ⟨fun z => h1 (ownLe b ⟨o, h2, nt⟩ ?_), kept b o h1 nt h2, nt⟩
          rcases z with z | z
          · exact .inl ((ownF b).mp z)
          · exact .inr (.inl z)
        have repF : Rep K O (restR ρ1 ρF vs) σ Hi := by
          refine ⟨by rw [restR_length, ri.len, wipe_length], fun j d hh => ?_, fun j fs hh => ?_, fun j k a b l h1 h2 h3 h4 => ?_, fun b hh q => ri.ap b ((ownF b).mp hh) (.inl q), fun b hh => ri.tr b (.inl hh), ri.tb⟩
          · by_cases hj : j ∈ vs
            · rw [get_in hj] at hh
              obtain ⟨v, h1, h2⟩ := r1.im j d hh
              exact ⟨v, h1, Dp.same sm1 _ _ h2⟩
            · rw [get_out hj] at hh
              obtain ⟨v, h1, h2⟩ := ri.im j d hh
              rw [wipe_out' hj] at h1
              exact ⟨v, h1, Dp.same smF _ _ h2⟩
          · by_cases hj : j ∈ vs
            · rw [get_in hj] at hh
              exact absurd hh (noMu_at hmu hj fs)
            · rw [get_out hj] at hh
              obtain ⟨l, xs, h1, h2, h3⟩ := ri.mu j fs hh
              rw [wipe_out' hj] at h1
              exact ⟨l, xs, h1, h2, DpAll.same smF _ _ h3⟩
          · by_cases hj : j ∈ vs
            · rw [get_in hj] at h1
              exact absurd h1 (noMu_at hmu hj a)
            · by_cases hk : k ∈ vs
              · rw [get_in hk] at h2
                exact absurd h2 (noMu_at hmu hk b)
              · rw [get_out hj] at h1
                rw [get_out hk] at h2
                exact ri.inj j k a b l h1 h2 (by rw [wipe_out' hj]; exact h3) (by rw [wipe_out' hk]; exact h4)
        have extF : Ext [] ρ1 σ H1 (restR ρ1 ρF vs) σ Hi := by
          refine ⟨fun b o hb nt hh => ei.keep b o (fun z => hb ((own_wipe hmu b).mp z)) nt hh, fun b z => ?_, fun b hb => ei.trk b hb, (fun _ h => nomatch h), rfl, ei.tab⟩
          rcases ei.own b ((ownF b).mp z) with q | q
          · exact .inl ((own_wipe hmu b).mp q)
          · exact .inr q
        refine qF _ _ repF (e1.trans extF) (.lst (.inl (.inl (hid_some.mpr ⟨fun z => ?_, hD, nt_lst⟩))) (DpAll.same smF _ _ da))
        rcases z with z | z
        · exact ri.ap Dd ((ownF Dd).mp z) (.inr rfl)
        · exact (r1.tr Dd z).ne hDd
  · have q' := q
    simp only [if_neg hcond] at q'
    exact q'.elim
/-- each of the first n slots is the comprehension's own or is kept -/
def covered (n : Nat) (vs Pv : List Nat) : Bool := (List.range n).all fun i => vs.contains i || Pv.contains i
theorem covered_all {n : Nat} {vs Pv : List Nat} (h : covered n vs Pv = true) (i : Nat) (hi : i < n) : i ∈ vs ∨ i ∈ Pv := by
  have := (List.all_eq_true.mp h) i (List.mem_range.mpr hi)
  simpa using this
theorem q_comp {elt tg iter : Expr} {ifs : List Expr} {scope : Scope} {own : List (Str × Nat)} {pos : Pos} {it : M (List D)} {g : D → M Unit} {c : M Bool} {e : M D} {Pv : List Nat} {vs : List Nat} (hc : X.calm = true) (hN : X.N.Nodup) (hi : QI X W tg iter it) (ok : BlkOk X.N X.env.scope scope own)
    (hg : ∀ (s : Shared) (H : Hp) (C : Addr) (cl : List (Str × Addr)) (fp : List Addr), QG (X.blk s H scope (compEnvC scope cl C X.env) fp) Pv W0 tg g) (ht : ∀ (s : Shared) (H : Hp) (C : Addr) (cl : List (Str × Addr)) (fp : List Addr), QTs (X.blk s H scope (compEnvC scope cl C X.env) fp) W0 ifs c)
    (he : ∀ (s : Shared) (H : Hp) (C : Addr) (cl : List (Str × Addr)) (fp : List Addr), QE (X.blk s H scope (compEnvC scope cl C X.env) fp) W0 elt e) (hvs : own.map (·.2) = vs := by rfl) (hcov : covered X.N.length vs Pv = true := by rfl) (hs : ∀ x, foldedSetIterable iter X.env x = pure x := by intro _; rfl) :
    QE X W (.ListComp elt [⟨tg, iter, ifs, 0⟩] scope pos) (compM it g c e vs) := fun O => by
  refine ⟨fun pins s σ H Q I h => ?_⟩
  have hσ : σ.length = X.N.length := I.len
  refine (pe_lc (g := tGx X.K Pv W0 g) (tt := tTx X.K W0 c) (te := tEx X.K W0 e) hc hN (hi O) ok
    (fun s H C cl fp => ⟨fun pins s' σ H v u Q I r ⟨O, h⟩ => (hg s _ C cl fp O).run pins s' σ H v u Q I r h⟩)
    (fun s H C cl fp => ⟨fun pins s' σ H Q I ⟨O, h⟩ => (ht s _ C cl fp O).run pins s' σ H Q I h⟩)
    (fun s H C cl fp => ⟨fun pins s' σ H Q I ⟨O, h⟩ => (he s _ C cl fp O).run pins s' σ H Q I h⟩) hs).run pins s σ H Q I ?_
  rw [hvs]
  exact comp_read hσ (covered_all hcov) h
/-- y = [..], y a plain local, on one line -/
theorem qs_setComp {P : List Nat} {i : Nat} {y : Str} {py : Pos} {elt tg iter : Expr} {ifs : List Expr} {scope : Scope} {own : List (Str × Nat)} {pos spos : Pos} {it : M (List D)} {g : D → M Unit} {c : M Bool} {e : M D} {Pv : List Nat} {vs : List Nat} (hc : X.calm = true) (hN : X.N.Nodup) (hy : X.N[i]? = some y) (hyl : X.env.scope.names.lookup y = some .local)
    (hsw : swapsWith (.ListComp elt [⟨tg, iter, ifs, 0⟩] scope pos) (some (.Name y py)) spos.line X.env = pure true) (hi : QI X W tg iter it) (ok : BlkOk X.N X.env.scope scope own)
    (hg : ∀ (s : Shared) (H : Hp) (C : Addr) (cl : List (Str × Addr)) (fp : List Addr), QG (X.blk s H scope (compEnvC scope cl C X.env) fp) Pv W0 tg g) (ht : ∀ (s : Shared) (H : Hp) (C : Addr) (cl : List (Str × Addr)) (fp : List Addr), QTs (X.blk s H scope (compEnvC scope cl C X.env) fp) W0 ifs c)
    (he : ∀ (s : Shared) (H : Hp) (C : Addr) (cl : List (Str × Addr)) (fp : List Addr), QE (X.blk s H scope (compEnvC scope cl C X.env) fp) W0 elt e) (hP : i ∉ P := by decide) (hvs : own.map (·.2) = vs := by rfl) (hcov : covered X.N.length vs Pv = true := by rfl) (hs : ∀ x, foldedSetIterable iter X.env x = pure x := by intro _; rfl) :
    QS X P W (.Assign [.Name y py] (.ListComp elt [⟨tg, iter, ifs, 0⟩] scope pos) spos) (setS i (compM it g c e vs)) := fun O => by
  refine ⟨fun pins s σ H E I ⟨ρ, r, h⟩ => ?_⟩
  have hσ : σ.length = X.N.length := I.len
  refine (ps_setLc (g := tGx X.K Pv W0 g) (tt := tTx X.K W0 c) (te := tEx X.K W0 e) hc hN hy hyl hsw (hi O) ok
    (fun s H C cl fp => ⟨fun pins s' σ H v u Q I r ⟨O, h⟩ => (hg s _ C cl fp O).run pins s' σ H v u Q I r h⟩)
    (fun s H C cl fp => ⟨fun pins s' σ H Q I ⟨O, h⟩ => (ht s _ C cl fp O).run pins s' σ H Q I h⟩)
    (fun s H C cl fp => ⟨fun pins s' σ H Q I ⟨O, h⟩ => (he s _ C cl fp O).run pins s' σ H Q I h⟩) hs).run pins s σ H E I ?_
  rw [hvs]
  exact comp_read hσ (covered_all hcov) (tE.mono (tE.app r h) fun v H1 ⟨d, ρ1, rep1, e1, dp1, q1⟩ => q1 _ _ (rep1.setIm dp1) (e1.toP.trans (Ext.setIm hP)))
end
end QL
set_option Elab.async false
set_option linter.all false
set_option maxRecDepth 100000
set_option maxHeartbeats 4000000
/-! Q13: words for generated texts. -/
namespace QL
open PySem PySem.Spec PyProof.Rows L2
variable [LawTabs]

/-- the def x of the module keeps the promise sp -/
def DefOk (P : Program) (w : World) (K : PySem.W.Frag) (mg : Str → Option Value) (base : Heap) (x : Str) (k : Nat) (ps : List Str) (sp : Sp) : Prop :=
  ∃ fd, FnOk P w K mg base (L2N.CX P w) k (He.ga K x) fd ps sp ∧ mg x = some (.ref (He.ga K x)) ∧ PySem.W.keepIn K (.ref (He.ga K x)) = true ∧ Binds K fd ps []
/-- a def as the head tells it -/
def DefAt (K : PySem.W.Frag) (mg : Str → Option Value) (x : Str) (st : Stmt) : Prop := ∃ fd, FunD K x x (defArgs st) (defBody st) (defScope st) [] [] (He.ga K x) fd ∧ mg x = some (.ref (He.ga K x))
section
variable {P : Program} {w : World} {K : PySem.W.Frag} {mg : Str → Option Value} {base : Heap} {x : Str} {st : Stmt} {N ps : List Str} {k n : Nat} {S : M Out}
abbrev BindsH (x : Str) (st : Stmt) (ps : List Str) : Prop := ∀ (dV kV doc pm : Value) (an : Option Addr) (cdv ct : Value) (us : List Value), us.length = ps.length → bindArgs (PySem.W.fnOf x x (defArgs st) (defBody st) (defScope st) .none kV doc pm an cdv ct) ⟨us, []⟩ = pure (ps.zip us)
theorem binds_of {fd : FuncData} {f : Addr} (F : FunD K x x (defArgs st) (defBody st) (defScope st) [] [] f fd) (h : BindsH x st ps) : Binds K fd ps [] := by
  obtain ⟨oc, od, dV, kV, doc, pm, an, cdv, ct, osl, rfl, lk, hcd, hD, _⟩ := F.ex
  rcases hD with ⟨_, rfl⟩ | ⟨h0, _⟩
  · exact .all (h .none kV doc pm an cdv ct)
  · exact absurd rfl h0
abbrev Body (P : Program) (w : World) (K : PySem.W.Frag) (mg : Str → Option Value) (base : Heap) (N : List Str) (x : Str) (st : Stmt) (k : Nat) (PP : List Nat) (S : M Out) : Prop :=
  ∀ (cdv : Value) (A : Around) (outer : List Env) (s : Shared) (H : Hp) (E : XK), Room k (A.deeper (envOfC x (defScope st) s.heap.objs.size (He.ga K x) cdv)) → QSs (cxOf (L2N.CX P w) P w K mg base N x (defScope st) (He.ga K x) cdv A outer s H E) PP E (defBody st) S
theorem def_P (D : DefAt K mg x st) (Sc : FnScope N ps (defScope st)) (hn : n = ps.length) (hb : BindsH x st ps) (h : Body P w K mg base N x st k [] S) : DefOk P w K mg base x (k + 1) ps (spP K n (runP S N.length)) := by
  obtain ⟨fd, F, g⟩ := D
  exact ⟨fd, fn_P F Sc hn h, g, F.kp, binds_of F hb⟩
theorem def_O (D : DefAt K mg x st) (Sc : FnScope N ps (defScope st)) (hn : n = ps.length) (hb : BindsH x st ps) (h : Body P w K mg base N x st k [] S) : DefOk P w K mg base x (k + 1) ps (spO K n (runO S N.length)) := by
  obtain ⟨fd, F, g⟩ := D
  exact ⟨fd, fn_O F Sc hn h, g, F.kp, binds_of F hb⟩
theorem def_M (D : DefAt K mg x st) (Sc : FnScope N ps (defScope st)) (hn : n + 1 = ps.length) (hb : BindsH x st ps) (h : Body P w K mg base N x st k [0] S) : DefOk P w K mg base x (k + 1) ps (spM K n (runM S N.length)) := by
  obtain ⟨fd, F, g⟩ := D
  exact ⟨fd, fn_M F Sc hn h, g, F.kp, binds_of F hb⟩
end
theorem hu_room {k : Nat} {A : Around} (h : Room k A) : A.units + 65 < cLine := by have := h.un; omega
section
variable {X : Cx} {W : XK} {P : List Nat} {e : Expr} {es : List Expr} {f : M D} {fs : M (List D)} {pos pos' : Pos}
theorem q_def {k n : Nat} {ps : List Str} {F : List D → R D} {x : Str} {p : Pos} (G : DefOk X.prog X.w X.K X.mg X.base x k ps (spP X.K n F)) (hr : Room k X.A) (hp : Passes (L2N.CX X.prog X.w) X W) (ha : QA X W (e :: es) fs) (hg : Gl X x := by exact rfl) (hdb : (x == ("__debug__" : Str)) = false := by decide) (he : starEach (e :: es) X.env = (false, eval e X.env) :: starEach es X.env := by rfl) (hpl : (backTo pos (starEach es X.env)).any (·.1) = false := by rfl) :
    QE X W (.Call (.Name x p) (e :: es) [] pos) (callF n F fs) := by
  obtain ⟨fd, G, gm, kp, hb⟩ := G
  exact q_call G hr hp hg gm kp hb ha hdb he hpl
theorem q_def0 {k : Nat} {ps : List Str} {F : List D → R D} {x : Str} {p : Pos} (G : DefOk X.prog X.w X.K X.mg X.base x k ps (spP X.K 0 F)) (hr : Room k X.A) (hp : Passes (L2N.CX X.prog X.w) X W) (hg : Gl X x := by exact rfl) (hdb : (x == ("__debug__" : Str)) = false := by decide) :
    QE X W (.Call (.Name x p) [] [] pos) (callF 0 F args0) := by
  obtain ⟨fd, G, gm, kp, hb⟩ := G
  intro O
  refine (pe_call0 G hr hg gm kp hb .nil hp hdb).weak fun σ H Q ⟨ρ, r, h⟩ => ?_
  have q1 : RP (M.lift (F []) ρ) (fun d ρ' => ∀ v H', Rep X.K O ρ' σ H' → Ext [] ρ σ H ρ' σ H' → Dp X.K (hid H' (hd O ρ' σ)) v d → Q v H') (ErrK X.K W ρ σ H) := h
  refine ⟨hd O ρ σ, [], rfl, .nil, r.trk, r.tb, ?_⟩
  rcases RP.lift q1 with ⟨d, e, q⟩ | ⟨x, e, q⟩
  · rw [e]
    exact hasV_end r Ext.refl q
  · rw [e]
    exact fun cls od H' hx sm => q cls od H' hx sm.any
theorem q_defM {k n : Nat} {ps : List Str} {F : List D → List D → R (D × List D)} {x y : Str} {p p1 : Pos} (G : DefOk X.prog X.w X.K X.mg X.base x k ps (spM X.K n F)) (hr : Room k X.A) (hp : Passes (L2N.CX X.prog X.w) X W) (j : Nat) (ha : QA X W es fs) (hN : X.N[j]? = some y := by rfl) (hv : Vis X.env.scope y := by first | exact Or.inl rfl | exact Or.inr (Or.inl rfl) | exact Or.inr (Or.inr rfl)) (hg : Gl X x := by exact rfl) (hdb : (x == ("__debug__" : Str)) = false := by decide) (hd' : (y == ("__debug__" : Str)) = false := by decide) (hcd : (y == ("__classdict__" : Str)) = false := by decide)
    (he : starEach (.Name y p1 :: es) X.env = (false, eval (.Name y p1) X.env) :: starEach es X.env := by rfl) (hpl : (backTo pos (starEach es X.env)).any (·.1) = false := by rfl) :
    QE X W (.Call (.Name x p) (.Name y p1 :: es) [] pos) (callMF j n F fs) := by
  obtain ⟨fd, G, gm, kp, hb⟩ := G
  exact q_callM G hr hp hg gm kp hb hN hv ha hdb hd' hcd he hpl
theorem qs_defO {k n : Nat} {ps : List Str} {F : List D → R (List D)} {x y : Str} {p cpos : Pos} (G : DefOk X.prog X.w X.K X.mg X.base x k ps (spO X.K n F)) (hr : Room k X.A) (hp : Passes (L2N.CX X.prog X.w) X W) (i : Nat) (ha : QA X W (e :: es) fs) (hN : X.N.Nodup) (hy : Loc X.env.scope y) (hi : X.N[i]? = some y := by rfl) (hg : Gl X x := by exact rfl) (hP : i ∉ P := by decide) (hdb : (x == ("__debug__" : Str)) = false := by decide) (he : starEach (e :: es) X.env = (false, eval e X.env) :: starEach es X.env := by rfl) (hpl : (backTo cpos (starEach es X.env)).any (·.1) = false := by rfl)
    (hs : swapsWith (.Call (.Name x p) (e :: es) [] cpos) (some (.Name y pos')) pos.line X.env = pure false := by rfl) (hf : X.fn y = true ∨ X.env.scope.names.lookup y = some .local := by first | exact .inl rfl | exact .inr rfl | assumption) :
    QS X P W (.Assign [.Name y pos'] (.Call (.Name x p) (e :: es) [] cpos) pos) (newCallS i n F fs) := by
  obtain ⟨fd, G, gm, kp, hb⟩ := G
  exact qs_newCall G hr hp hg gm kp hb ha hN hi hy hP hdb he hpl hs hf
theorem pe_negc {n : Int} {j : Nat} {p pos : Pos} : PE X (.UnaryOp .USub (.Constant (.int n) j p) pos) (tC (.int (-n))) := (pe_un un_neg pe_int).weak fun σ H Q h => ⟨n, rfl, h⟩
/-- exceptions of callees go out of a def's body as they are -/
theorem passes_body {CXp : Program} {w : World} {K : PySem.W.Frag} {mg : Str → Option Value} {base : Heap} {N : List Str} {qual : Str} {scope : Scope} {f : Addr} {cd : Value} {A : Around} {outer : List Env} {s : Shared} {H : Hp} {E : XK} : Passes (L2N.CX CXp w) (cxOf (L2N.CX CXp w) CXp w K mg base N qual scope f cd A outer s H E) E :=
  L2N.passes_call (L2N.takes_of rfl rfl rfl rfl) fun _ _ _ _ h => h
theorem takes_body {CXp : Program} {w : World} {K : PySem.W.Frag} {mg : Str → Option Value} {base : Heap} {N : List Str} {qual : Str} {scope : Scope} {f : Addr} {cd : Value} {A : Around} {outer : List Env} {s : Shared} {H : Hp} {E : XK} : L2N.Takes (cxOf (L2N.CX CXp w) CXp w K mg base N qual scope f cd A outer s H E) (fun cls d _ H => E cls d H) :=
  L2N.takes_of rfl rfl rfl rfl
theorem own_body {CXp : Program} {w : World} {K : PySem.W.Frag} {mg : Str → Option Value} {base : Heap} {N : List Str} {qual : Str} {scope : Scope} {f : Addr} {cd : Value} {A : Around} {outer : List Env} {s : Shared} {H : Hp} {E : XK} : PassesOwn (model CXp w) (cxOf (L2N.CX CXp w) CXp w K mg base N qual scope f cd A outer s H E).A (cxOf (L2N.CX CXp w) CXp w K mg base N qual scope f cd A outer s H E).env (cxOf (L2N.CX CXp w) CXp w K mg base N qual scope f cd A outer s H E).xe :=
  PassesOwn.leaving
/-- where nothing may be let out -/
theorem passN {X : Cx} : Passes (L2N.CX X.prog X.w) X W0 := fun _ _ _ _ _ _ _ h => by
  obtain ⟨_, _, _, _, _, _, _, _, _, _, _, _, z⟩ := h
  exact z.elim
/-- what the head tells of an exception class -/
def ExcAt (K : PySem.W.Frag) (mg : Str → Option Value) (x : Str) : Prop := mg x = some (.ref (He.ga K x)) ∧ PySem.W.excIn K (He.ga K x) He.veBase "ValueError.__new__" = true ∧ PySem.W.keepIn K (.ref (He.ga K x)) = true ∧ PySem.W.subIn K (.ref (He.ga K x)) (.type "BaseException") = some true ∧ PySem.W.typeIn K (.ref (He.ga K x)) = some (.type "type")
theorem qs_raiseA {j : Nat} {x m : Str} {p p2 p3 : Pos} (tk : L2N.Takes X fun cls d _ H => W cls d H) (T : ExcAt X.K X.mg x) (hc : X.calm = true := by rfl) (hg : Gl X x := by exact rfl) (hdb : (x == ("__debug__" : Str)) = false := by decide) :
    QS X P W (.Raise (some (.Call (.Name x p) [.Constant (.str m) j p2] [] p3)) none pos) (raiseS x) :=
  qs_raise tk hc T.2.1 T.1 T.2.2.1 T.2.2.2.1 T.2.2.2.2 hg hdb
/-- more hidden, less hidden -/
theorem Rep.unhide {K : PySem.W.Frag} {O : Addr → Prop} {p : Addr} {ρ : Rho} {σ : Sg} {H : Hp} (r : Rep K (fun b => O b ∨ b = p) ρ σ H) : Rep K O ρ σ H := by
  have sd : Same (hid H (hd (fun b => O b ∨ b = p) ρ σ)) (hid H (hd O ρ σ)) := hid_anti .refl fun b _ z => z.elim .inl fun z => .inr (.inl z)
  refine ⟨r.len, fun i d e => ?_, fun i ds e => ?_, r.inj, fun b z q => r.ap b z (.inl q), fun b z => r.tr b (.inl z), r.tb⟩
  · obtain ⟨v, h1, h2⟩ := r.im i d e
    exact ⟨v, h1, Dp.same sd _ _ h2⟩
  · obtain ⟨l, xs, h1, h2, h3⟩ := r.mu i ds e
    exact ⟨l, xs, h1, h2, DpAll.same sd _ _ h3⟩
/-- a, b = [..], e: a takes a new list of the frame's own -/
def parNS (i j : Nat) (fs : M (List D)) (f : M D) : M Out := M.bind fs fun ds => if ds.length ≤ sizeLine then M.bind f fun y ρ => .ok (.nx, (ρ.set i (.mu ds)).set j (.im y)) else M.stuck
theorem qs_parN {i j : Nat} {x y : Str} {px py pt pl : Pos} {kt k2 pt2} (hc : X.calm = true) (hN : X.N.Nodup) (hi : X.N[i]? = some x) (hj : X.N[j]? = some y) (hij : i ≠ j)
    (hx : X.env.scope.names.lookup x = some .local) (hy : X.env.scope.names.lookup y = some .local) (ha : QA X W es fs) (hb : QE X W e f) (hPi : i ∉ P := by decide) (hPj : j ∉ P := by decide)
    (hw : swappedStores [.Tuple [.Name x px, .Name y py] kt pt] (.Tuple [.List es pl, e] k2 pt2) X.env = pure (some [x, y]) := by rfl)
    (hs : swapsWithSole [.Tuple [.Name x px, .Name y py] kt pt] (.Tuple [.List es pl, e] k2 pt2) pos.line X.env = pure false := by rfl)
    (h1 : starEach [.List es pl, e] X.env = (false, eval (.List es pl) X.env) :: starEach [e] X.env := by rfl) (h2 : starEach [e] X.env = (false, eval e X.env) :: starEach [] X.env := by rfl) :
    QS X P W (.Assign [.Tuple [.Name x px, .Name y py] kt pt] (.Tuple [.List es pl, e] k2 pt2) pos) (parNS i j fs f) := fun O => by
  have hbx : PE X e (tEx X.K W f) := ⟨fun pins s σ H Q I ⟨O, h⟩ => (hb O).run pins s σ H Q I h⟩
  refine (ps_par hc hN hi hj hij hx hy (pa_cons (pe_lst (ha O)) (pa_cons hbx pa_nil h2) h1) hw hs).weak fun E σ H ⟨ρ, r, h⟩ => ?_
  refine tA.mono (tA.app r h) fun vs H1 ⟨ds, ρ1, rep1, e1, dp1, q1⟩ => ?_
  by_cases hl : ds.length ≤ sizeLine
  · refine ⟨by rw [dp1.length]; exact hl, fun p hp => ?_⟩
    have sm : SameT H1 (upd H1 p (.lst vs)) := .of (same_new (o := .lst vs) hp)
    have dd : DpAll X.K (hid (upd H1 p (.lst vs)) (hd (fun b => O b ∨ b = p) ρ1 σ)) vs ds := DpAll.same (hid_anti sm fun b hb z => by
      rcases z with z | z | z
      · exact .inl z
      · exact .inr z
      · exact absurd hp (z ▸ hb.ne)) _ _ dp1
    have r2 : Rep X.K (fun b => O b ∨ b = p) ρ1 σ (upd H1 p (.lst vs)) := rep1.hide hp
    have e2 : Ext [] ρ1 σ H1 ρ1 σ (upd H1 p (.lst vs)) := Ext.of_same sm
    have q1' : RP (M.bind f (fun y ρ => .ok (.nx, (ρ.set i (.mu ds)).set j (.im y))) ρ1) (OutK X.K O P E ρ σ H) (ErrK X.K W ρ1 σ H1) := by
      simp only [if_pos hl] at q1
      exact q1
    have q2 := RP.bind q1'
    refine ⟨fun b => O b ∨ b = p, ρ1, r2, RP.mono q2 (fun d ρ2 q v H2 r3 e3 dv => ?_) fun x q => ErrK.back q e2⟩
    have q' : OutK X.K O P E ρ σ H .nx ((ρ2.set i (.mu ds)).set j (.im d)) := q
    have nOwn : ¬ Own ρ1 σ p := fun z => (rep1.trk p (.inl z)).ne hp
    have hl2 : H2 p = some (.lst vs) := e3.keep p _ nOwn nt_lst upd_same
    have n2 : ¬ Own ρ2 σ p := fun z => r3.ap p z (.inr rfl)
    have r4 : Rep X.K O ρ2 σ H2 := r3.unhide
    -- the slot i takes the list
    have nO : ∀ b, O b → b ≠ p := fun b hb z => (z ▸ rep1.tr b hb).ne hp
    have dd2 : DpAll X.K (hid H2 (hd (fun b => O b ∨ b = p) ρ2 σ)) vs ds := DpAll.same e3.same _ _ dd
    have hsd : Same (hid H2 (hd (fun b => O b ∨ b = p) ρ2 σ)) (hid H2 (hd O (ρ2.set i (.mu ds)) (σ.set i (some (.ref p))))) := hid_anti .refl fun b _ z => by
      rcases z with z | z
      · rcases own_set_mu z with z | z
        · exact .inl z
        · exact .inr (.inr z)
      · exact .inr (.inl z)
    have r5 : Rep X.K O (ρ2.set i (.mu ds)) (σ.set i (some (.ref p))) H2 := by
      refine ⟨by rw [List.length_set, List.length_set]; exact r4.len, fun k c hh => ?_, fun k cs hh => ?_, fun k k' a b l g1 g2 g3 g4 => ?_, fun b hh => ?_, r4.tr, r4.tb⟩
      · rcases set_get hh with ⟨rfl, _, e'⟩ | ⟨ne, hh⟩
        · cases e'
        · obtain ⟨w, g1, g2⟩ := r3.im k c hh
          exact ⟨w, by rw [List.getElem?_set_ne ne]; exact g1, Dp.same hsd _ _ g2⟩
      · rcases set_get hh with ⟨rfl, hi', e'⟩ | ⟨ne, hh⟩
        · cases e'
          exact ⟨p, vs, List.getElem?_set_self (by rw [← r4.len]; exact hi'), hl2, DpAll.same hsd _ _ dd2⟩
        · obtain ⟨l, ys, g1, g2, g3⟩ := r3.mu k cs hh
          exact ⟨l, ys, by rw [List.getElem?_set_ne ne]; exact g1, g2, DpAll.same hsd _ _ g3⟩
      · rcases set_get g1 with ⟨e1, hi', _⟩ | ⟨n1, g1⟩
        · subst e1
          rcases set_get g2 with ⟨e2, _, _⟩ | ⟨n2', g2⟩
          · exact e2
          · rw [List.getElem?_set_self (by rw [← r4.len]; exact hi')] at g3
            cases g3
            rw [List.getElem?_set_ne n2'] at g4
            exact absurd ⟨k', b, g2, g4⟩ n2
        · rw [List.getElem?_set_ne n1] at g3
          rcases set_get g2 with ⟨e2, hi', _⟩ | ⟨n2', g2⟩
          · subst e2
            rw [List.getElem?_set_self (by rw [← r4.len]; exact hi')] at g4
            cases g4
            exact absurd ⟨k, a, g1, g3⟩ n2
          · rw [List.getElem?_set_ne n2'] at g4
            exact r4.inj k k' a b l g1 g2 g3 g4
      · rcases own_set_mu hh with z | z
        · exact r4.ap b z
        · exact fun q => nO b q z
    have r6 := r5.setIm (i := j) (Dp.same hsd _ _ dv)
    refine ⟨.ref p, v, rfl, q' _ _ r6 ⟨fun b o hb nt hh => ?_, fun b z => ?_, fun b hb => e3.trk b (e2.trk b (e1.trk b hb)), fun k hk => ?_, by rw [List.length_set, List.length_set], fun t => e3.tab (e2.tab (e1.tab t))⟩⟩
    · have e12 := e1.trans (e2.trans e3)
      exact e12.keep b o hb nt hh
    · have e12 := e1.trans (e2.trans e3)
      rcases own_set_mu (own_set_im (fun ds z => by cases z) z) with z | z
      · exact e12.own b z
      · right
        exact fun t => (z ▸ e1.trk b t).ne hp
    · rw [List.getElem?_set_ne (fun e : j = k => hPj (by rw [e]; exact hk)), List.getElem?_set_ne (fun e : i = k => hPi (by rw [e]; exact hk))]
  · simp only [if_neg hl] at q1
    exact q1.elim
end
end QL
set_option Elab.async false
set_option linter.all false
set_option maxRecDepth 100000
set_option maxHeartbeats 2000000
/-! Q14: the end of a law over the data layer. -/
namespace QL
open PySem PySem.Spec PyProof.Rows L2
variable [LawTabs]
/-- what the walk tells of the law's def: one function object, its promise over every base -/
def LawOk (P : Program) (w : World) (K : PySem.W.Frag) (mg : Str → Option Value) (x : Str) (k : Nat) (y : Str) (sp : Sp) : Prop :=
  ∃ fd, mg x = some (.ref (He.ga K x)) ∧ (∀ (s : Shared) (u : Value), BindsTo s fd ⟨[u], []⟩ [(y, u)]) ∧ ∀ base : Heap, K.In base → base.Ns mainGlobals mg → FnOk P w K mg base (L2N.CX P w) k (He.ga K x) fd [y] sp
theorem def_L {P : Program} {w : World} {K : PySem.W.Frag} {mg : Str → Option Value} {x y : Str} {st : Stmt} {N : List Str} {k : Nat} {S : M Out} (D : DefAt K mg x st) (Sc : FnScope N [y] (defScope st)) (hb : BindsH x st [y]) (h : ∀ base : Heap, K.In base → base.Ns mainGlobals mg → Body P w K mg base N x st k [] S) :
    LawOk P w K mg x (k + 1) y (spP K 1 (runP S N.length)) := by
  obtain ⟨fd, F, g⟩ := D
  refine ⟨fd, g, fun s u => ?_, fun base hi hn => fn_P F Sc rfl (h base hi hn)⟩
  exact FunD.bindsA (ps := [y]) F (fun kV doc pm an cdv ct us hl => hb .none kV doc pm an cdv ct us hl) s [u] rfl
theorem seqL_hid {K : PySem.W.Frag} {H : Hp} {O : Addr → Prop} {a : Addr} {xs : List V} (h : SqL K H a xs) (n : ¬ O a) : SqL K (hid H O) a xs := by
  rcases h with (h | ⟨o, h⟩) | h
  · exact .inl (.inl (hid_some.mpr ⟨n, h, nt_lst⟩))
  · exact .inl (.inr ⟨o, hid_some.mpr ⟨n, h, fun ps z => by cases z⟩⟩)
  · exact .inr h
/-- a law over the data layer; the script's bits are told -/
theorem walk_QL (ht : LawTabs.tabs = []) {l : PySem.W.OpenLaw} {n k : Nat} {q : Program} {loose : List Str} {XP : (Str → Option Value) → Heap → Prop} {fa : List He.Fa} {fn : List He.DefD} {d : DefRec} {x : Str} {F : List D → R D}
    (hn : l.most = some n) (hn2 : n ≤ sizeLine) (hdf : d.params.defaults = []) (hr : Room k callerA)
    (hw : ∀ (w : World) (K : PySem.W.Frag) (mg : Str → Option Value) (h : Heap), K.In h → h.Ns mainGlobals mg → He.SaysD fa fn K → LawOk l.prog w K mg d.name k x (spP K 1 F))
    (hF : ∀ ns : List Int, ns.length ≤ n → (∀ z ∈ ns, Builtin.Int.intBits z ≤ 1048576) → F [.list (ns.map .int)] = .ok (.bool true)) :
    PySem.W.WalkO q loose XP (He.hookD 4 fa fn).says l.row.toRowW d [] (fun f vs => PySem.call f vs) := by
  refine Att.attach_callB hn hdf fun w s₀ s₁ mg mb fa o pm cd doc a vs ns G Y ho hd hcd hmg hobj hints hlen hbits hg => ?_
  obtain ⟨K, KX, c⟩ := Y
  obtain ⟨fd, gm, hb, hf⟩ := hw w K mg _ KX G.T.g c
  have e := hmg.symm.trans gm
  cases e
  refine law_call (CX := L2N.CX l.prog w) KX G.T.g G.T.b G.T.builtins G.T.nolimit hg hobj hints (Nat.le_trans hlen hn2) hr hf hb (fun H hO hS => ?_) fun H e s' z => ?_
  · refine ⟨fun _ => False, [.list (ns.map .int)], rfl, ?_, fun b z => z.elim, show LamX.Tabs LawTabs.tabs H from fun p hp => (by rw [ht] at hp; cases hp), ?_⟩
    · exact .cons (.lst (seqL_hid hS id) (DpAll.ofInts ns)) .nil
    · rw [hF ns hlen hbits]
      show HasV K (fun _ => False) (.bool true) H fun v _ => v = .bl true
      exact fun v H' _ hv => by
        cases hv
        rfl
  · obtain ⟨_, _, _, _, _, _, _, _, _, _, _, _, z⟩ := z
    exact z
/-! ### laws whose def makes lambdas -/
/-- the context of a def's body whose code object is known -/
abbrev BodyC (P : Program) (w : World) (K : PySem.W.Frag) (mg : Str → Option Value) (base : Heap) (N : List Str) (x : Str) (st : Stmt) (k : Nat) (PP : List Nat) (S : M Out) : Prop :=
  ∀ (cdv : Value) (A : Around) (outer : List Env) (s : Shared) (H : Hp) (E : XK), cdv = .ref (He.codeOf K (x, none)) → Room k (A.deeper (envOfC x (defScope st) s.heap.objs.size (He.ga K x) cdv)) → QSs (cxOf (L2N.CX P w) P w K mg base N x (defScope st) (He.ga K x) cdv A outer s H E) PP E (defBody st) S
theorem fn_PC {P : Program} {w : World} {K : PySem.W.Frag} {mg : Str → Option Value} {base : Heap} {x : Str} {params : Arguments} {body : List Stmt} {scope : Scope} {fd : FuncData} {N ps : List Str} {k n : Nat} {S : M Out} (F : FunD K x x params body scope [] [] (He.ga K x) fd) (Sc : FnScope N ps scope) (hn : n = ps.length)
    (hbody : ∀ (cdv : Value) (A : Around) (outer : List Env) (s : Shared) (H : Hp) (E : XK), cdv = .ref (He.codeOf K (x, none)) → Room k (A.deeper (envOfC x scope s.heap.objs.size (He.ga K x) cdv)) → QSs (cxOf (L2N.CX P w) P w K mg base N x scope (He.ga K x) cdv A outer s H E) [] E body S) :
    FnOk P w K mg base (L2N.CX P w) (k + 1) (He.ga K x) fd ps (spP K n (runP S N.length)) := by
  have kp := F.kp
  obtain ⟨oc, od, dV, kV, doc, pm, an, cdv, ct, osl, e, lk, hcd, hD, hK⟩ := F.ex
  obtain ⟨c, ec⟩ := He.codeIn_ref hcd
  have e2 : He.codeOf K (x, none) = c := He.codeOf_eq (p := (x, none)) lk (by rw [e]; exact ec)
  subst e
  have key : ∀ {vs : List V} {H : Hp} {Q : VK} {E : XK} (A : Around) (outer : List Env) (s : Shared), Room k (A.deeper (envOfC x scope s.heap.objs.size (He.ga K x) cdv)) → spP K n (runP S N.length) vs H Q E → ∃ t, PSs (cxOf (L2N.CX P w) P w K mg base N x scope (He.ga K x) cdv A outer s H E) body t ∧ t { nx := fun _ H' => Q .non H', rt := Q } (L2.start N vs) H := by
    intro vs H Q E A outer s hr ⟨O, ds, h1, h2, h3, tb, h4⟩
    refine ⟨_, hbody cdv A outer s H E (by rw [e2]; exact ec) hr O, ?_⟩
    obtain ⟨r, no⟩ := rep_start (N := N) h2 h3 tb
    refine ⟨_, r, ?_⟩
    unfold runP at h4
    have keep : ∀ {ρ' σ' H'}, Ext [] (rho0 N.length ds) (L2.start N vs) H ρ' σ' H' → SameT H H' := fun e => e.sx.le no
    cases q : S (rho0 N.length ds) with
    | stuck => rw [q] at h4; exact h4.elim
    | err y =>
      rw [q] at h4
      exact fun cls od H' he hk => h4 cls od H' he (hk.le no)
    | ok z =>
      obtain ⟨o, ρ1⟩ := z
      rw [q] at h4
      cases o with
      | nx => exact fun σ' H' r' e' => h4 _ _ (keep e') .non
      | ret d => exact fun v σ' H' r' e' dp => h4 _ _ (keep e') (Dp.same (hid_anti .refl fun b _ z => .inr z) _ _ dp)
      | bk => exact h4.elim
      | ct => exact h4.elim
      | rto _ => exact h4.elim
  exact fn_of lk hcd Sc (fun vs H Q E ⟨O, ds, h1, h2, _⟩ => by rw [h2.length, h1, hn]) fun A outer s H vs Q E hr h => key A outer s hr h
def LawOkT (P : Program) (w : World) (K : PySem.W.Frag) (mg : Str → Option Value) (cs : List (Addr × Addr)) (x : Str) (k : Nat) (y : Str) (sp : Sp) : Prop :=
  ∃ fd, mg x = some (.ref (He.ga K x)) ∧ (∀ (s : Shared) (u : Value), BindsTo s fd ⟨[u], []⟩ [(y, u)]) ∧ ∀ base : Heap, K.In base → base.Ns mainGlobals mg → (∀ p ∈ cs, LamX.TabB base mg p.1 p.2) → FnOk P w K mg base (L2N.CX P w) k (He.ga K x) fd [y] sp
theorem def_LT {P : Program} {w : World} {K : PySem.W.Frag} {mg : Str → Option Value} {cs : List (Addr × Addr)} {x y : Str} {st : Stmt} {N : List Str} {k : Nat} {S : M Out} (D : DefAt K mg x st) (Sc : FnScope N [y] (defScope st)) (hb : BindsH x st [y]) (h : ∀ base : Heap, K.In base → base.Ns mainGlobals mg → (∀ p ∈ cs, LamX.TabB base mg p.1 p.2) → BodyC P w K mg base N x st k [] S) :
    LawOkT P w K mg cs x (k + 1) y (spP K 1 (runP S N.length)) := by
  obtain ⟨fd, F, g⟩ := D
  refine ⟨fd, g, fun s u => ?_, fun base hi hn ht => fn_PC F Sc rfl (h base hi hn ht)⟩
  exact FunD.bindsA (ps := [y]) F (fun kV doc pm an cdv ct us hl => hb .none kV doc pm an cdv ct us hl) s [u] rfl
end QL
namespace QL
open PySem PySem.Spec PyProof.Rows L2
/-- the tables of the defs tf, told of a part K -/
@[reducible] def tabsOf (tf : List (Str × Str)) (K : PySem.W.Frag) : LawTabs := ⟨tf.map fun p => ((He.cT K (p.1, none)).2, p.2)⟩
/-- a law whose defs tf make lambdas -/
theorem walk_QT {l : PySem.W.OpenLaw} {n k : Nat} {q : Program} {loose : List Str} {XP : (Str → Option Value) → Heap → Prop} {fa : List He.Fa} {fn : List He.DefD} {tf : List (Str × Str)} {d : DefRec} {x : Str} {F : List D → R D}
    (hn : l.most = some n) (hn2 : n ≤ sizeLine) (hdf : d.params.defaults = []) (hr : Room k callerA)
    (hw : ∀ (w : World) (K : PySem.W.Frag) (mg : Str → Option Value) (h : Heap), K.In h → h.Ns mainGlobals mg → He.SaysD fa fn K → @LawOkT l.prog w K mg ((tf.map fun p => ((p.1, none) : He.Defn)).map (He.cT K)) d.name k x (@spP (tabsOf tf K) K 1 F))
    (hF : ∀ ns : List Int, ns.length ≤ n → (∀ z ∈ ns, Builtin.Int.intBits z ≤ 1048576) → F [.list (ns.map .int)] = .ok (.bool true)) :
    PySem.W.WalkO q loose XP (He.hookX 4 fa fn [] (tf.map fun p => ((p.1, none) : He.Defn)) fun _ => true).says l.row.toRowW d [] (fun f vs => PySem.call f vs) := by
  refine Att.attach_callB hn hdf fun w s₀ s₁ mg mb fa o pm cd doc a vs ns G Y ho hd hcd hmg hobj hints hlen hbits hg => ?_
  obtain ⟨K, KX, c⟩ := Y
  obtain ⟨fd, gm, hb, hf⟩ := hw w K mg _ KX G.T.g c.t.d
  have e := hmg.symm.trans gm
  cases e
  have at_ : ∀ p ∈ (tf.map fun p => ((p.1, none) : He.Defn)).map (He.cT K), ∃ z ∈ tf.map fun p => ((p.1, none) : He.Defn), p = He.cT K z := fun p hp => by
    obtain ⟨z, hz, e⟩ := List.mem_map.mp hp
    exact ⟨z, hz, e.symm⟩
  refine LamX.law_callTs (cs := (tf.map fun p => ((p.1, none) : He.Defn)).map (He.cT K)) (CX := L2N.CX l.prog w) KX G.T.g G.T.b G.T.builtins G.T.nolimit hg (fun p hp => ?_) (fun p hp => ?_) (fun p hp => ?_) G.T.bmain hobj hints (Nat.le_trans hlen hn2) hr hf hb (fun H hT hS => ?_) fun H e s' z => ?_
  · obtain ⟨z, hz, rfl⟩ := at_ p hp
    exact c.empty z hz
  · obtain ⟨z, hz, rfl⟩ := at_ p hp
    exact c.out z hz
  · obtain ⟨z, hz, rfl⟩ := at_ p hp
    exact PySem.W.codeHd_of_K KX (c.hd z hz)
  · letI := tabsOf tf K
    refine ⟨fun _ => False, [.list (ns.map .int)], rfl, ?_, fun b z => z.elim, show LamX.Tabs (tabsOf tf K).tabs H from fun p hp => ?_, ?_⟩
    · exact .cons (.lst (seqL_hid hS id) (DpAll.ofInts ns)) .nil
    · obtain ⟨z, hz, rfl⟩ := List.mem_map.mp hp
      exact LamX.TabS.nil (hT (He.cT K (z.1, none)) (List.mem_map.mpr ⟨(z.1, none), List.mem_map.mpr ⟨z, hz, rfl⟩, rfl⟩))
    · rw [hF ns hlen hbits]
      show @HasV (tabsOf tf K) K (fun _ => False) (.bool true) H fun v _ => v = .bl true
      exact fun v H' _ hv => by
        cases hv
        rfl
  · obtain ⟨_, _, _, _, _, _, _, _, _, _, _, _, z⟩ := z
    exact z
end QL
set_option Elab.async false
set_option linter.all false
set_option maxRecDepth 100000
set_option maxHeartbeats 2000000
/-! Q15: what a text does, told by what it wants of what follows (printed by gen15.py). -/
namespace QL
open PySem PySem.Spec PyProof.Rows L2

/-- so that simp does not take a step by computing -/
theorem nr {α : Sort _} {a b : α} (h : a = b) : a = b := h
@[irreducible] def wp {α : Type} (m : M α) (ρ : Rho) (Q : α → Rho → Prop) (E : Ex → Prop) : Prop := match m ρ with
  | .ok (a, ρ1) => Q a ρ1
  | .err x => E x
  | .stuck => False
@[irreducible] def OptP {α : Type} (o : Option α) (Q : α → Prop) : Prop := match o with
  | some x => Q x
  | none => False
@[irreducible] def LiftP {α : Type} (r : R α) (Q : α → Prop) (E : Ex → Prop) : Prop := match r with
  | .ok x => Q x
  | .err x => E x
  | .stuck => False
def SetP (i : Nat) (s : Sl) (ρ : Rho) (Q : Rho → Prop) : Prop := Q (ρ.set i s)
def MuP (ρ : Rho) (i : Nat) (Q : List D → Prop) : Prop := match ρ[i]? with
  | some (.mu ds) => Q ds
  | _ => False
def LenP (n : Nat) (ds : List D) (Q : Prop) : Prop := if ds.length = n then Q else False
def BoolP (b : Bool) (Q R : Prop) : Prop := if b = true then Q else R
theorem BoolP_true {Q R : Prop} : BoolP true Q R = Q := by simp [BoolP]
theorem BoolP_false {Q R : Prop} : BoolP false Q R = R := by simp [BoolP]
theorem BoolP_decide {p : Prop} [Decidable p] {Q R : Prop} : BoolP (decide p) Q R = ((p → Q) ∧ (¬ p → R)) := by
  by_cases h : p <;> simp [BoolP, h]
theorem BoolP_if {b : Bool} {Q R : Prop} : BoolP b Q R = ((b = true → Q) ∧ (b = false → R)) := by
  cases b <;> simp [BoolP]
section
variable {α β : Type} {a : M α} {k : α → M β} {ρ : Rho} {Q : α → Rho → Prop} {Qb : β → Rho → Prop} {E : Ex → Prop} {x : α}
@[simp ↓] theorem wp_bind : wp (M.bind a k) ρ Qb E = wp a ρ (fun x ρ1 => wp (k x) ρ1 Qb E) E := by
  unfold wp M.bind
  cases a ρ <;> with_unfolding_all rfl
theorem wpb {Z : α → Rho → Prop} (h : ∀ x ρ1, wp (k x) ρ1 Qb E = Z x ρ1) : wp (M.bind a k) ρ Qb E = wp a ρ Z E := by
  rw [wp_bind]
  congr 1
  funext x ρ1
  exact h x ρ1
@[simp ↓] theorem wp_pure : wp (M.pure x) ρ Q E = Q x ρ := nr (by with_unfolding_all rfl)
@[simp ↓] theorem wp_opt {o : Option α} : wp (M.opt o) ρ Q E = OptP o (fun x => Q x ρ) := by
  unfold wp M.opt OptP
  cases o <;> with_unfolding_all rfl
@[simp ↓] theorem wp_lift {r : R α} : wp (M.lift r) ρ Q E = LiftP r (fun x => Q x ρ) E := by
  unfold wp M.lift LiftP
  cases r <;> with_unfolding_all rfl
@[simp ↓] theorem wp_stuck : wp (M.stuck : M α) ρ Q E = False := nr (by with_unfolding_all rfl)
@[simp ↓] theorem OptP_some {Q : α → Prop} : OptP (some x) Q = Q x := nr (by with_unfolding_all rfl)
@[simp ↓] theorem OptP_none {Q : α → Prop} : OptP (none : Option α) Q = False := nr (by with_unfolding_all rfl)
@[simp ↓] theorem LiftP_ok {Q : α → Prop} : LiftP (.ok x) Q E = Q x := nr (by with_unfolding_all rfl)
@[simp ↓] theorem LiftP_err {Q : α → Prop} {e : Ex} : LiftP (.err e : R α) Q E = E e := nr (by with_unfolding_all rfl)
@[simp ↓] theorem LiftP_stuck {Q : α → Prop} : LiftP (.stuck : R α) Q E = False := nr (by with_unfolding_all rfl)
theorem opt_of {o : Option α} {Q : α → Prop} (h : o = some x) : OptP o Q = Q x := by rw [h]; with_unfolding_all rfl
theorem lift_of {r : R α} {Q : α → Prop} (h : r = .ok x) : LiftP r Q E = Q x := by rw [h]; with_unfolding_all rfl
theorem lift_err {r : R α} {Q : α → Prop} {e : Ex} (h : r = .err e) : LiftP r Q E = E e := by rw [h]; with_unfolding_all rfl
theorem wp_mono {m : M α} {Q' : α → Rho → Prop} {E' : Ex → Prop} (h : wp m ρ Q E) (hq : ∀ a ρ1, Q a ρ1 → Q' a ρ1) (he : ∀ x, E x → E' x) : wp m ρ Q' E' := by
  unfold wp at h ⊢
  split at h
  · exact hq _ _ h
  · exact he _ h
  · exact h
theorem LiftP_mono {r : R α} {Q Q' : α → Prop} {E' : Ex → Prop} (h : LiftP r Q E) (hq : ∀ a, Q a → Q' a) (he : ∀ x, E x → E' x) : LiftP r Q' E' := by
  unfold LiftP at h ⊢
  cases r with
  | ok x => exact hq _ h
  | err x => exact he _ h
  | stuck => exact h
end
section
variable {α : Type} {ρ : Rho} {Q : D → Rho → Prop} {Qu : Unit → Rho → Prop} {Qo : Out → Rho → Prop} {Ql : List D → Rho → Prop} {Qb : Bool → Rho → Prop} {Qi : Option Int → Rho → Prop} {E : Ex → Prop} {f a b c : M D} {fs r : M (List D)} {t u v : M Bool} {S S1 S2 : M Out} {i j n : Nat} {d : D}
@[simp ↓] theorem wp_cst : wp (cst d) ρ Q E = Q d ρ := nr (by with_unfolding_all rfl)
@[simp ↓] theorem wp_op1 {g : D → Option D} : wp (op1 g a) ρ Q E = wp a ρ (fun x ρ1 => OptP (g x) fun z => Q z ρ1) E := by unfold op1; simp only [wp_bind, wp_opt]
@[simp ↓] theorem wp_op2 {g : D → D → Option D} : wp (op2 g a b) ρ Q E = wp a ρ (fun x ρ1 => wp b ρ1 (fun y ρ2 => OptP (g x y) fun z => Q z ρ2) E) E := by unfold op2; simp only [wp_bind, wp_opt]
@[simp ↓] theorem wp_cmp {g : D → D → Option Bool} : wp (cmp g a b) ρ Qb E = wp a ρ (fun x ρ1 => wp b ρ1 (fun y ρ2 => OptP (g x y) fun z => Qb z ρ2) E) E := by unfold cmp; simp only [wp_bind, wp_opt]
@[simp ↓] theorem wp_bv : wp (bv t) ρ Q E = wp t ρ (fun k ρ1 => Q (.bool k) ρ1) E := by unfold bv; simp only [wp_bind, wp_pure]
def tbD : D → Option Bool
  | .bool b => some b
  | _ => none
@[simp ↓] theorem wp_tb : wp (tb a) ρ Qb E = wp a ρ (fun d ρ1 => OptP (tbD d) fun k => Qb k ρ1) E := by
  unfold tb; simp only [wp_bind, wp_opt]; with_unfolding_all rfl
@[simp ↓] theorem wp_tru : wp (tru a) ρ Qb E = wp a ρ (fun d ρ1 => OptP (truD d) fun k => Qb k ρ1) E := by unfold tru; simp only [wp_bind, wp_opt]
theorem wp_if {p : Prop} [Decidable p] {m m' : M α} {Q : α → Rho → Prop} : wp (if p then m else m') ρ Q E = if p then wp m ρ Q E else wp m' ρ Q E := by split <;> with_unfolding_all rfl
@[simp ↓] theorem wp_chain2 {g g' : D → D → Option Bool} : wp (chain2 g g' a b c) ρ Qb E = wp a ρ (fun x ρ1 => wp b ρ1 (fun y ρ2 => OptP (g x y) fun k => BoolP k (wp c ρ2 (fun z ρ3 => OptP (g' y z) fun k => Qb k ρ3) E) (Qb false ρ2)) E) E := by
  unfold chain2; simp only [wp_bind, wp_opt, wp_if, wp_pure]; with_unfolding_all rfl
@[simp ↓] theorem wp_andM : wp (andM t u) ρ Qb E = wp t ρ (fun k ρ1 => BoolP k (wp u ρ1 Qb E) (Qb false ρ1)) E := by unfold andM; simp only [wp_bind, wp_if, wp_pure]; with_unfolding_all rfl
@[simp ↓] theorem wp_orM : wp (orM t u) ρ Qb E = wp t ρ (fun k ρ1 => BoolP k (Qb true ρ1) (wp u ρ1 Qb E)) E := by unfold orM; simp only [wp_bind, wp_if, wp_pure]; with_unfolding_all rfl
@[simp ↓] theorem wp_notM : wp (notM t) ρ Qb E = wp t ρ (fun k ρ1 => Qb (!k) ρ1) E := by unfold notM; simp only [wp_bind, wp_pure]
@[simp ↓] theorem wp_andV : wp (andV a b) ρ Q E = wp a ρ (fun d ρ1 => OptP (tbD d) fun k => BoolP k (wp b ρ1 Q E) (Q (.bool false) ρ1)) E := by unfold andV; simp only [wp_bind, wp_tb, wp_if, wp_pure]; with_unfolding_all rfl
@[simp ↓] theorem wp_orV : wp (orV a b) ρ Q E = wp a ρ (fun d ρ1 => OptP (tbD d) fun k => BoolP k (Q (.bool true) ρ1) (wp b ρ1 Q E)) E := by unfold orV; simp only [wp_bind, wp_tb, wp_if, wp_pure]; with_unfolding_all rfl
@[simp ↓] theorem wp_notV : wp (notV a) ρ Q E = wp a ρ (fun d ρ1 => OptP (tbD d) fun k => Q (.bool (!k)) ρ1) E := by unfold notV; simp only [wp_bind, wp_tb, wp_pure]
@[simp ↓] theorem wp_iteM {m m' : M α} {Q : α → Rho → Prop} : wp (iteM t m m') ρ Q E = wp t ρ (fun k ρ1 => BoolP k (wp m ρ1 Q E) (wp m' ρ1 Q E)) E := by unfold iteM; simp only [wp_bind, wp_if]; with_unfolding_all rfl
@[simp ↓] theorem wp_args0 : wp args0 ρ Ql E = Ql [] ρ := nr (by with_unfolding_all rfl)
@[simp ↓] theorem wp_argsC : wp (argsC a r) ρ Ql E = wp a ρ (fun x ρ1 => wp r ρ1 (fun xs ρ2 => Ql (x :: xs) ρ2) E) E := by unfold argsC; simp only [wp_bind, wp_pure]
def LineP (ds : List D) (Q : Prop) : Prop := if ds.length ≤ sizeLine then Q else False
theorem wp_optIf {p : Prop} [Decidable p] {d : D} : wp (M.opt (if p then some d else none)) ρ Q E = if p then Q d ρ else False := by split <;> with_unfolding_all rfl
@[simp ↓] theorem wp_tupM : wp (tupM r) ρ Q E = wp r ρ (fun xs ρ1 => LineP xs (Q (.tuple xs) ρ1)) E := by unfold tupM; simp only [wp_bind, wp_optIf]; with_unfolding_all rfl
@[simp ↓] theorem wp_lstM : wp (lstM r) ρ Q E = wp r ρ (fun xs ρ1 => LineP xs (Q (.list xs) ρ1)) E := by unfold lstM; simp only [wp_bind, wp_optIf]; with_unfolding_all rfl
@[simp ↓] theorem wp_callB {g : List D → Option D} : wp (callB g r) ρ Q E = wp r ρ (fun xs ρ1 => OptP (g xs) fun z => Q z ρ1) E := by unfold callB; simp only [wp_bind, wp_opt]
@[simp ↓] theorem wp_methB {T : String} {g : D → List D → Option D} : wp (methB T g a r) ρ Q E = wp a ρ (fun x ρ1 => if tyNm x = T then wp r ρ1 (fun xs ρ2 => OptP (g x xs) fun z => Q z ρ2) E else False) E := by unfold methB; simp only [wp_bind, wp_if, wp_opt, wp_stuck]
@[simp ↓] theorem wp_noPart : wp noPart ρ Qi E = Qi none ρ := nr (by with_unfolding_all rfl)
def ixO : D → Option (Option Int)
  | .int i => some (some i)
  | _ => none
@[simp ↓] theorem wp_somePart : wp (somePart a) ρ Qi E = wp a ρ (fun d ρ1 => OptP (ixO d) fun z => Qi z ρ1) E := by
  unfold somePart; simp only [wp_bind, wp_opt]; with_unfolding_all rfl
@[simp ↓] theorem wp_slM {lo hi : M (Option Int)} : wp (slM a lo hi) ρ Q E = wp a ρ (fun x ρ1 => wp lo ρ1 (fun l ρ2 => wp hi ρ2 (fun h ρ3 => OptP (slD x l h) fun z => Q z ρ3) E) E) E := by unfold slM; simp only [wp_bind, wp_opt]
@[simp ↓] theorem wp_callF {F : List D → R D} : wp (callF n F r) ρ Q E = wp r ρ (fun ds ρ1 => LenP n ds (LiftP (F ds) (fun d => Q d ρ1) E)) E := by unfold callF; simp only [wp_bind, wp_if, wp_lift, wp_stuck]; with_unfolding_all rfl
@[simp ↓] theorem wp_callMF {F : List D → List D → R (D × List D)} : wp (callMF j n F fs) ρ Q E = MuP ρ j fun _ => wp fs ρ (fun ds ρ1 => MuP ρ1 j fun es => LenP n ds (LiftP (F es ds) (fun z => SetP j (.mu z.2) ρ1 (Q z.1)) E)) E := by
  unfold callMF wp MuP isMu
  cases q : ρ[j]? with
  | none => simp only [q, if_neg, Bool.false_eq_true, if_false]
  | some sl =>
    cases sl with
    | no => simp only [q, if_neg, Bool.false_eq_true, if_false]
    | im _ => simp only [q, if_neg, Bool.false_eq_true, if_false]
    | mu es =>
      simp only [q, if_true]
      unfold M.bind
      cases fs ρ with
      | stuck => with_unfolding_all rfl
      | err _ => with_unfolding_all rfl
      | ok z =>
        obtain ⟨ds, ρ1⟩ := z
        simp only
        cases ρ1[j]? with
        | none => with_unfolding_all rfl
        | some sl =>
          cases sl with
          | no => with_unfolding_all rfl
          | im _ => with_unfolding_all rfl
          | mu cs =>
            simp only [LenP]
            by_cases hq : ds.length = n
            · rw [if_pos hq, if_pos hq]
              cases F cs ds <;> with_unfolding_all rfl
            · rw [if_neg hq, if_neg hq]
@[simp ↓] theorem wp_newCallS {F : List D → R (List D)} : wp (newCallS i n F fs) ρ Qo E = wp fs ρ (fun ds ρ1 => LenP n ds (LiftP (F ds) (fun es => SetP i (.mu es) ρ1 (Qo .nx)) E)) E := by
  refine wpb fun ds ρ1 => ?_
  unfold wp LenP
  dsimp only
  by_cases hq : ds.length = n
  · rw [if_pos hq, if_pos hq]
    cases F ds <;> with_unfolding_all rfl
  · rw [if_neg hq, if_neg hq]
@[simp ↓] theorem wp_nxS : wp nxS ρ Qo E = Qo .nx ρ := nr (by with_unfolding_all rfl)
@[simp ↓] theorem wp_bkS : wp bkS ρ Qo E = Qo .bk ρ := nr (by with_unfolding_all rfl)
@[simp ↓] theorem wp_ctS : wp ctS ρ Qo E = Qo .ct ρ := nr (by with_unfolding_all rfl)
@[simp ↓] theorem wp_setS : wp (setS i f) ρ Qo E = wp f ρ (fun d ρ1 => SetP i (.im d) ρ1 (Qo .nx)) E := wpb fun _ _ => by with_unfolding_all rfl
@[simp ↓] theorem wp_exprS : wp (exprS f) ρ Qo E = wp f ρ (fun _ ρ1 => Qo .nx ρ1) E := by unfold exprS; simp only [wp_bind, wp_nxS]
@[simp ↓] theorem wp_retS : wp (retS f) ρ Qo E = wp f ρ (fun d ρ1 => Qo (.ret d) ρ1) E := by unfold retS; simp only [wp_bind, wp_pure]
@[simp ↓] theorem wp_retNS : wp retNS ρ Qo E = Qo (.ret .none) ρ := nr (by with_unfolding_all rfl)
/-- go on behind nx -/
def NxP (o : Out) (ρ : Rho) (Q : Prop) (Qo : Out → Rho → Prop) : Prop := match o with
  | .nx => Q
  | o => Qo o ρ
@[simp ↓] theorem NxP_nx {Q : Prop} : NxP .nx ρ Q Qo = Q := nr (by with_unfolding_all rfl)
@[simp ↓] theorem NxP_bk {Q : Prop} : NxP .bk ρ Q Qo = Qo .bk ρ := nr (by with_unfolding_all rfl)
@[simp ↓] theorem NxP_ct {Q : Prop} : NxP .ct ρ Q Qo = Qo .ct ρ := nr (by with_unfolding_all rfl)
@[simp ↓] theorem NxP_ret {Q : Prop} {d : D} : NxP (.ret d) ρ Q Qo = Qo (.ret d) ρ := nr (by with_unfolding_all rfl)
@[simp ↓] theorem NxP_rto {Q : Prop} {ds : List D} : NxP (.rto ds) ρ Q Qo = Qo (.rto ds) ρ := nr (by with_unfolding_all rfl)
@[simp ↓] theorem wp_seqS : wp (seqS S1 S2) ρ Qo E = wp S1 ρ (fun o ρ1 => NxP o ρ1 (wp S2 ρ1 Qo E) Qo) E := by
  unfold seqS
  rw [wp_bind]
  congr 1
  funext o ρ1
  cases o <;> with_unfolding_all rfl
@[simp ↓] theorem wp_raiseS {x : Str} : wp (raiseS x) ρ Qo E = E ⟨x, none⟩ := nr (by with_unfolding_all rfl)
@[simp ↓] theorem wp_parS : wp (parS i j a b) ρ Qo E = wp a ρ (fun x ρ1 => wp b ρ1 (fun y ρ2 => SetP i (.im x) ρ2 fun ρ3 => SetP j (.im y) ρ3 (Qo .nx)) E) E := wpb fun _ _ => wpb fun _ _ => by with_unfolding_all rfl
@[simp ↓] theorem wp_par3S {k : Nat} : wp (par3S i j k a b c) ρ Qo E = wp a ρ (fun x ρ1 => wp b ρ1 (fun y ρ2 => wp c ρ2 (fun z ρ3 => SetP i (.im x) ρ3 fun ρ4 => SetP j (.im y) ρ4 fun ρ5 => SetP k (.im z) ρ5 (Qo .nx)) E) E) E := wpb fun _ _ => wpb fun _ _ => wpb fun _ _ => by with_unfolding_all rfl
@[simp ↓] theorem wp_parNS : wp (parNS i j fs b) ρ Qo E = wp fs ρ (fun ds ρ1 => LineP ds (wp b ρ1 (fun y ρ2 => SetP i (.mu ds) ρ2 fun ρ3 => SetP j (.im y) ρ3 (Qo .nx)) E)) E := by
  refine wpb fun ds ρ1 => ?_
  rw [wp_if]
  unfold LineP
  rw [show (wp (M.bind b fun y ρ => (.ok (.nx, (ρ.set i (.mu ds)).set j (.im y)) : R (Out × Rho))) ρ1 Qo E) = _ from wpb fun _ _ => by with_unfolding_all rfl]
  with_unfolding_all rfl
@[simp ↓] theorem wp_augS {g : D → D → Option D} : wp (augS g i f) ρ Qo E = wp (var i) ρ (fun x ρ1 => wp f ρ1 (fun y ρ2 => OptP (g x y) fun z => SetP i (.im z) ρ2 (Qo .nx)) E) E := wpb fun _ _ => wpb fun _ _ => (wpb (Z := fun z ρ3 => SetP i (.im z) ρ3 (Qo .nx)) fun _ _ => by with_unfolding_all rfl).trans wp_opt
@[simp ↓] theorem wp_gN : wp (gN i d) ρ Qu E = SetP i (.im d) ρ (Qu ()) := nr (by with_unfolding_all rfl)
@[simp ↓] theorem wp_gTs0 : wp (gTs [] []) ρ Qu E = Qu () ρ := nr (by with_unfolding_all rfl)
@[simp ↓] theorem wp_gTs1 {g : D → M Unit} {gs : List (D → M Unit)} {ds : List D} : wp (gTs (g :: gs) (d :: ds)) ρ Qu E = wp (g d) ρ (fun _ ρ1 => wp (gTs gs ds) ρ1 Qu E) E := by
  show wp (M.bind (g d) fun _ => gTs gs ds) ρ Qu E = _
  rw [wp_bind]
@[simp ↓] theorem wp_gT {gs : List (D → M Unit)} {ds : List D} : wp (gT gs (.tuple ds)) ρ Qu E = if ds.length = gs.length then wp (gTs gs ds) ρ Qu E else False := by unfold gT; simp only [wp_if, wp_stuck]
@[simp ↓] theorem wp_gT2 {g1 g2 : D → M Unit} {x y : D} : wp (gT [g1, g2] (.tuple [x, y])) ρ Qu E = wp (g1 x) ρ (fun _ ρ1 => wp (g2 y) ρ1 Qu E) E := by rw [wp_gT, if_pos (by rfl)]; simp only [wp_gTs1, wp_gTs0]
@[simp ↓] theorem wp_gT3 {g1 g2 g3 : D → M Unit} {x y z : D} : wp (gT [g1, g2, g3] (.tuple [x, y, z])) ρ Qu E = wp (g1 x) ρ (fun _ ρ1 => wp (g2 y) ρ1 (fun _ ρ2 => wp (g3 z) ρ2 Qu E) E) E := by rw [wp_gT, if_pos (by rfl)]; simp only [wp_gTs1, wp_gTs0]
@[simp ↓] theorem wp_asgS {g : D → M Unit} : wp (asgS f g) ρ Qo E = wp f ρ (fun d ρ1 => wp (g d) ρ1 (fun _ ρ2 => Qo .nx ρ2) E) E := by unfold asgS; simp only [wp_bind, wp_nxS]
/-- behind a turn -/
def TurnP (o : Out) (ρ : Rho) (Q : Rho → Prop) (Qo : Out → Rho → Prop) : Prop := match o with
  | .nx => Q ρ
  | .ct => Q ρ
  | .bk => Qo .nx ρ
  | o => Qo o ρ
@[simp ↓] theorem TurnP_nx {Q : Rho → Prop} : TurnP .nx ρ Q Qo = Q ρ := nr (by with_unfolding_all rfl)
@[simp ↓] theorem TurnP_ct {Q : Rho → Prop} : TurnP .ct ρ Q Qo = Q ρ := nr (by with_unfolding_all rfl)
@[simp ↓] theorem TurnP_bk {Q : Rho → Prop} : TurnP .bk ρ Q Qo = Qo .nx ρ := nr (by with_unfolding_all rfl)
@[simp ↓] theorem TurnP_ret {Q : Rho → Prop} {d : D} : TurnP (.ret d) ρ Q Qo = Qo (.ret d) ρ := nr (by with_unfolding_all rfl)
@[simp ↓] theorem TurnP_rto {Q : Rho → Prop} {ds : List D} : TurnP (.rto ds) ρ Q Qo = Qo (.rto ds) ρ := nr (by with_unfolding_all rfl)
theorem wp_loop0 {g : D → M Unit} : wp (loopS g S []) ρ Qo E = Qo .nx ρ := by with_unfolding_all rfl
theorem wp_loop1 {g : D → M Unit} {ds : List D} : wp (loopS g S (d :: ds)) ρ Qo E = wp (g d) ρ (fun _ ρ1 => wp S ρ1 (fun o ρ2 => TurnP o ρ2 (fun ρ3 => wp (loopS g S ds) ρ3 Qo E) Qo) E) E := by
  show wp (M.bind (g d) _) ρ Qo E = _
  rw [wp_bind]
  congr 1
  funext _ ρ1
  rw [wp_bind]
  congr 1
  funext o ρ2
  cases o <;> with_unfolding_all rfl
@[simp ↓] theorem wp_forS {it : M (List D)} {g : D → M Unit} : wp (forS it g S) ρ Qo E = wp it ρ (fun ds ρ1 => wp (loopS g S ds) ρ1 Qo E) E := by unfold forS; rw [wp_bind]
theorem wp_while1 : wp (whileF t S (n + 1)) ρ Qo E = wp t ρ (fun k ρ1 => BoolP k (wp S ρ1 (fun o ρ2 => TurnP o ρ2 (fun ρ3 => wp (whileF t S n) ρ3 Qo E) Qo) E) (Qo .nx ρ1)) E := by
  show wp (M.bind t _) ρ Qo E = _
  rw [wp_bind]
  congr 1
  funext k ρ1
  rw [wp_if]
  unfold BoolP
  rw [wp_bind, wp_pure]
  congr 2
  funext o ρ2
  cases o <;> with_unfolding_all rfl
@[simp ↓] theorem wp_newS : wp (newS i fs) ρ Qo E = wp fs ρ (fun ds ρ1 => LineP ds (SetP i (.mu ds) ρ1 (Qo .nx))) E := by
  refine wpb fun ds ρ1 => ?_
  unfold wp LineP
  dsimp only
  by_cases hq : ds.length ≤ sizeLine
  · rw [if_pos hq, if_pos hq]
    with_unfolding_all rfl
  · rw [if_neg hq, if_neg hq]
def RoomP (ds : List D) (Q : Prop) : Prop := ds.length < sizeLine ∧ Q
@[simp ↓] theorem wp_appS : wp (appS i f) ρ Qo E = MuP ρ i fun _ => wp f ρ (fun d ρ1 => MuP ρ1 i fun ds => RoomP ds (SetP i (.mu (ds ++ [d])) ρ1 (Qo .nx))) E := by
  unfold appS wp MuP isMu
  cases q : ρ[i]? with
  | none => simp only [q, if_neg, Bool.false_eq_true, if_false]
  | some sl =>
    cases sl with
    | no => simp only [q, if_neg, Bool.false_eq_true, if_false]
    | im _ => simp only [q, if_neg, Bool.false_eq_true, if_false]
    | mu es =>
      simp only [q, if_true]
      unfold M.bind
      cases f ρ with
      | stuck => with_unfolding_all rfl
      | err _ => with_unfolding_all rfl
      | ok z =>
        obtain ⟨d, ρ1⟩ := z
        simp only
        cases ρ1[i]? with
        | none => with_unfolding_all rfl
        | some sl =>
          cases sl with
          | no => with_unfolding_all rfl
          | im _ => with_unfolding_all rfl
          | mu cs =>
            unfold RoomP SetP
            by_cases h : cs.length < sizeLine
            · simp [h]
            · simp [h]
@[simp ↓] theorem wp_ownIx {k : Int} : wp (ownIx i k) ρ Q E = MuP ρ i fun ds => OptP (atI ds k) fun z => Q z ρ := by
  unfold ownIx wp MuP
  dsimp only
  cases ρ[i]? with
  | none => with_unfolding_all rfl
  | some sl =>
    cases sl with
    | no => with_unfolding_all rfl
    | im _ => with_unfolding_all rfl
    | mu ds =>
      simp only
      cases atI ds k <;> with_unfolding_all rfl
@[simp ↓] theorem wp_ownLen : wp (ownLen i) ρ Q E = MuP ρ i fun ds => Q (.int ds.length) ρ := by
  unfold ownLen wp MuP
  dsimp only
  cases ρ[i]? with
  | none => with_unfolding_all rfl
  | some sl => cases sl <;> with_unfolding_all rfl
@[simp ↓] theorem wp_putIx {k : Int} : wp (putIx i k f) ρ Qo E = wp f ρ (fun d ρ1 => MuP ρ1 i fun ds => OptP (ixN ds.length k) fun j => SetP i (.mu (ds.set j d)) ρ1 (Qo .nx)) E := by
  refine wpb fun d ρ1 => ?_
  unfold wp MuP
  dsimp only
  cases ρ1[i]? with
  | none => with_unfolding_all rfl
  | some sl =>
    cases sl with
    | no => with_unfolding_all rfl
    | im _ => with_unfolding_all rfl
    | mu ds =>
      simp only
      cases ixN ds.length k <;> with_unfolding_all rfl
def FrzP (ρ : Rho) (i : Nat) (Q : Rho → Prop) : Prop := match ρ[i]? with
  | some (.mu ds) => Q (ρ.set i (.im (.list ds)))
  | _ => Q ρ
@[simp ↓] theorem wp_frz : wp (frz i S) ρ Qo E = FrzP ρ i fun ρ1 => wp S ρ1 Qo E := by
  unfold frz wp FrzP
  dsimp only
  cases ρ[i]? with
  | none => with_unfolding_all rfl
  | some sl => cases sl <;> with_unfolding_all rfl
@[simp ↓] theorem wp_rtoS : wp (rtoS fs) ρ Qo E = wp fs ρ (fun ds ρ1 => LineP ds (Qo (.rto ds) ρ1)) E := by unfold rtoS; simp only [wp_bind, wp_if, wp_pure, wp_stuck]; with_unfolding_all rfl
def itsD : D → Option (List D)
  | .list ds => some ds
  | .tuple ds => some ds
  | _ => none
@[simp ↓] theorem wp_itemsM : wp (itemsM f) ρ Ql E = wp f ρ (fun d ρ1 => OptP (itsD d) fun ds => Ql ds ρ1) E := by
  unfold itemsM; simp only [wp_bind, wp_opt]; with_unfolding_all rfl
@[simp ↓] theorem wp_rangeM {g : List D → Option (List D)} : wp (rangeM g fs) ρ Ql E = wp fs ρ (fun ds ρ1 => OptP (g ds) fun zs => Ql zs ρ1) E := by unfold rangeM; simp only [wp_bind, wp_opt]
@[simp ↓] theorem OptP_its_list {ds : List D} {P : List D → Prop} : OptP (itsD (.list ds)) P = P ds := nr (by with_unfolding_all rfl)
@[simp ↓] theorem OptP_its_tuple {ds : List D} {P : List D → Prop} : OptP (itsD (.tuple ds)) P = P ds := nr (by with_unfolding_all rfl)
@[simp ↓] theorem OptP_tbD {b : Bool} {P : Bool → Prop} : OptP (tbD (.bool b)) P = P b := nr (by with_unfolding_all rfl)
@[simp ↓] theorem OptP_truB {b : Bool} {P : Bool → Prop} : OptP (truD (.bool b)) P = P b := nr (by with_unfolding_all rfl)
@[simp ↓] theorem OptP_ixO {k : Int} {P : Option Int → Prop} : OptP (ixO (.int k)) P = P (some k) := nr (by with_unfolding_all rfl)
@[simp ↓] theorem BoolP_T {P R : Prop} : BoolP true P R = P := BoolP_true
@[simp ↓] theorem BoolP_F {P R : Prop} : BoolP false P R = R := BoolP_false
@[simp ↓] theorem BoolP_nT {P R : Prop} : BoolP (!true) P R = R := BoolP_false
@[simp ↓] theorem BoolP_nF {P R : Prop} : BoolP (!false) P R = P := BoolP_true
@[simp ↓] theorem BoolP_n {b : Bool} {P R : Prop} : BoolP (!b) P R = BoolP b R P := by cases b <;> simp [BoolP]

@[simp ↓] theorem LenP_0 {P : Prop} : LenP 0 [] P = P := nr (if_pos rfl)
@[simp ↓] theorem LenP_1 {P : Prop} {x0 : D} : LenP 1 [x0] P = P := nr (if_pos rfl)
@[simp ↓] theorem LenP_2 {P : Prop} {x0 x1 : D} : LenP 2 [x0, x1] P = P := nr (if_pos rfl)
@[simp ↓] theorem LenP_3 {P : Prop} {x0 x1 x2 : D} : LenP 3 [x0, x1, x2] P = P := nr (if_pos rfl)
@[simp ↓] theorem LenP_4 {P : Prop} {x0 x1 x2 x3 : D} : LenP 4 [x0, x1, x2, x3] P = P := nr (if_pos rfl)
@[simp ↓] theorem LenP_5 {P : Prop} {x0 x1 x2 x3 x4 : D} : LenP 5 [x0, x1, x2, x3, x4] P = P := nr (if_pos rfl)
@[simp ↓] theorem LenP_6 {P : Prop} {x0 x1 x2 x3 x4 x5 : D} : LenP 6 [x0, x1, x2, x3, x4, x5] P = P := nr (if_pos rfl)
@[simp ↓] theorem LenP_7 {P : Prop} {x0 x1 x2 x3 x4 x5 x6 : D} : LenP 7 [x0, x1, x2, x3, x4, x5, x6] P = P := nr (if_pos rfl)
@[simp ↓] theorem LenP_8 {P : Prop} {x0 x1 x2 x3 x4 x5 x6 x7 : D} : LenP 8 [x0, x1, x2, x3, x4, x5, x6, x7] P = P := nr (if_pos rfl)
@[simp ↓] theorem LineP_0 {P : Prop} : LineP [] P = P := if_pos (by simp [sizeLine])
@[simp ↓] theorem LineP_1 {P : Prop} {x0 : D} : LineP [x0] P = P := if_pos (by simp [sizeLine])
@[simp ↓] theorem LineP_2 {P : Prop} {x0 x1 : D} : LineP [x0, x1] P = P := if_pos (by simp [sizeLine])
@[simp ↓] theorem LineP_3 {P : Prop} {x0 x1 x2 : D} : LineP [x0, x1, x2] P = P := if_pos (by simp [sizeLine])
@[simp ↓] theorem LineP_4 {P : Prop} {x0 x1 x2 x3 : D} : LineP [x0, x1, x2, x3] P = P := if_pos (by simp [sizeLine])
@[simp ↓] theorem LineP_5 {P : Prop} {x0 x1 x2 x3 x4 : D} : LineP [x0, x1, x2, x3, x4] P = P := if_pos (by simp [sizeLine])
@[simp ↓] theorem LineP_6 {P : Prop} {x0 x1 x2 x3 x4 x5 : D} : LineP [x0, x1, x2, x3, x4, x5] P = P := if_pos (by simp [sizeLine])
@[simp ↓] theorem LineP_7 {P : Prop} {x0 x1 x2 x3 x4 x5 x6 : D} : LineP [x0, x1, x2, x3, x4, x5, x6] P = P := if_pos (by simp [sizeLine])
@[simp ↓] theorem LineP_8 {P : Prop} {x0 x1 x2 x3 x4 x5 x6 x7 : D} : LineP [x0, x1, x2, x3, x4, x5, x6, x7] P = P := if_pos (by simp [sizeLine])
@[simp ↓] theorem LineP_9 {P : Prop} {x0 x1 x2 x3 x4 x5 x6 x7 x8 : D} : LineP [x0, x1, x2, x3, x4, x5, x6, x7, x8] P = P := if_pos (by simp [sizeLine])
@[simp ↓] theorem LineP_10 {P : Prop} {x0 x1 x2 x3 x4 x5 x6 x7 x8 x9 : D} : LineP [x0, x1, x2, x3, x4, x5, x6, x7, x8, x9] P = P := if_pos (by simp [sizeLine])
@[simp ↓] theorem LineP_11 {P : Prop} {x0 x1 x2 x3 x4 x5 x6 x7 x8 x9 x10 : D} : LineP [x0, x1, x2, x3, x4, x5, x6, x7, x8, x9, x10] P = P := if_pos (by simp [sizeLine])
@[simp ↓] theorem wp_var0 {rr : Rho} : wp (var 0) (.im d :: rr) Q E = Q d (.im d :: rr) := nr (by with_unfolding_all rfl)
@[simp ↓] theorem SetP_0 {s t : Sl} {rr : Rho} {P : Rho → Prop} : SetP 0 s (t :: rr) P = P (s :: rr) := nr (by with_unfolding_all rfl)
@[simp ↓] theorem MuP_0 {ds : List D} {rr : Rho} {P : List D → Prop} : MuP (.mu ds :: rr) 0 P = P ds := nr (by with_unfolding_all rfl)
@[simp ↓] theorem FrzP_0 {ds : List D} {rr : Rho} {P : Rho → Prop} : FrzP (.mu ds :: rr) 0 P = P (.im (.list ds) :: rr) := nr (by with_unfolding_all rfl)
@[simp ↓] theorem wp_var1 {s0 : Sl} {rr : Rho} : wp (var 1) (s0 :: .im d :: rr) Q E = Q d (s0 :: .im d :: rr) := nr (by with_unfolding_all rfl)
@[simp ↓] theorem SetP_1 {s0 : Sl} {s t : Sl} {rr : Rho} {P : Rho → Prop} : SetP 1 s (s0 :: t :: rr) P = P (s0 :: s :: rr) := nr (by with_unfolding_all rfl)
@[simp ↓] theorem MuP_1 {s0 : Sl} {ds : List D} {rr : Rho} {P : List D → Prop} : MuP (s0 :: .mu ds :: rr) 1 P = P ds := nr (by with_unfolding_all rfl)
@[simp ↓] theorem FrzP_1 {s0 : Sl} {ds : List D} {rr : Rho} {P : Rho → Prop} : FrzP (s0 :: .mu ds :: rr) 1 P = P (s0 :: .im (.list ds) :: rr) := nr (by with_unfolding_all rfl)
@[simp ↓] theorem wp_var2 {s0 s1 : Sl} {rr : Rho} : wp (var 2) (s0 :: s1 :: .im d :: rr) Q E = Q d (s0 :: s1 :: .im d :: rr) := nr (by with_unfolding_all rfl)
@[simp ↓] theorem SetP_2 {s0 s1 : Sl} {s t : Sl} {rr : Rho} {P : Rho → Prop} : SetP 2 s (s0 :: s1 :: t :: rr) P = P (s0 :: s1 :: s :: rr) := nr (by with_unfolding_all rfl)
@[simp ↓] theorem MuP_2 {s0 s1 : Sl} {ds : List D} {rr : Rho} {P : List D → Prop} : MuP (s0 :: s1 :: .mu ds :: rr) 2 P = P ds := nr (by with_unfolding_all rfl)
@[simp ↓] theorem FrzP_2 {s0 s1 : Sl} {ds : List D} {rr : Rho} {P : Rho → Prop} : FrzP (s0 :: s1 :: .mu ds :: rr) 2 P = P (s0 :: s1 :: .im (.list ds) :: rr) := nr (by with_unfolding_all rfl)
@[simp ↓] theorem wp_var3 {s0 s1 s2 : Sl} {rr : Rho} : wp (var 3) (s0 :: s1 :: s2 :: .im d :: rr) Q E = Q d (s0 :: s1 :: s2 :: .im d :: rr) := nr (by with_unfolding_all rfl)
@[simp ↓] theorem SetP_3 {s0 s1 s2 : Sl} {s t : Sl} {rr : Rho} {P : Rho → Prop} : SetP 3 s (s0 :: s1 :: s2 :: t :: rr) P = P (s0 :: s1 :: s2 :: s :: rr) := nr (by with_unfolding_all rfl)
@[simp ↓] theorem MuP_3 {s0 s1 s2 : Sl} {ds : List D} {rr : Rho} {P : List D → Prop} : MuP (s0 :: s1 :: s2 :: .mu ds :: rr) 3 P = P ds := nr (by with_unfolding_all rfl)
@[simp ↓] theorem FrzP_3 {s0 s1 s2 : Sl} {ds : List D} {rr : Rho} {P : Rho → Prop} : FrzP (s0 :: s1 :: s2 :: .mu ds :: rr) 3 P = P (s0 :: s1 :: s2 :: .im (.list ds) :: rr) := nr (by with_unfolding_all rfl)
@[simp ↓] theorem wp_var4 {s0 s1 s2 s3 : Sl} {rr : Rho} : wp (var 4) (s0 :: s1 :: s2 :: s3 :: .im d :: rr) Q E = Q d (s0 :: s1 :: s2 :: s3 :: .im d :: rr) := nr (by with_unfolding_all rfl)
@[simp ↓] theorem SetP_4 {s0 s1 s2 s3 : Sl} {s t : Sl} {rr : Rho} {P : Rho → Prop} : SetP 4 s (s0 :: s1 :: s2 :: s3 :: t :: rr) P = P (s0 :: s1 :: s2 :: s3 :: s :: rr) := nr (by with_unfolding_all rfl)
@[simp ↓] theorem MuP_4 {s0 s1 s2 s3 : Sl} {ds : List D} {rr : Rho} {P : List D → Prop} : MuP (s0 :: s1 :: s2 :: s3 :: .mu ds :: rr) 4 P = P ds := nr (by with_unfolding_all rfl)
@[simp ↓] theorem FrzP_4 {s0 s1 s2 s3 : Sl} {ds : List D} {rr : Rho} {P : Rho → Prop} : FrzP (s0 :: s1 :: s2 :: s3 :: .mu ds :: rr) 4 P = P (s0 :: s1 :: s2 :: s3 :: .im (.list ds) :: rr) := nr (by with_unfolding_all rfl)
@[simp ↓] theorem wp_var5 {s0 s1 s2 s3 s4 : Sl} {rr : Rho} : wp (var 5) (s0 :: s1 :: s2 :: s3 :: s4 :: .im d :: rr) Q E = Q d (s0 :: s1 :: s2 :: s3 :: s4 :: .im d :: rr) := nr (by with_unfolding_all rfl)
@[simp ↓] theorem SetP_5 {s0 s1 s2 s3 s4 : Sl} {s t : Sl} {rr : Rho} {P : Rho → Prop} : SetP 5 s (s0 :: s1 :: s2 :: s3 :: s4 :: t :: rr) P = P (s0 :: s1 :: s2 :: s3 :: s4 :: s :: rr) := nr (by with_unfolding_all rfl)
@[simp ↓] theorem MuP_5 {s0 s1 s2 s3 s4 : Sl} {ds : List D} {rr : Rho} {P : List D → Prop} : MuP (s0 :: s1 :: s2 :: s3 :: s4 :: .mu ds :: rr) 5 P = P ds := nr (by with_unfolding_all rfl)
@[simp ↓] theorem FrzP_5 {s0 s1 s2 s3 s4 : Sl} {ds : List D} {rr : Rho} {P : Rho → Prop} : FrzP (s0 :: s1 :: s2 :: s3 :: s4 :: .mu ds :: rr) 5 P = P (s0 :: s1 :: s2 :: s3 :: s4 :: .im (.list ds) :: rr) := nr (by with_unfolding_all rfl)
@[simp ↓] theorem wp_var6 {s0 s1 s2 s3 s4 s5 : Sl} {rr : Rho} : wp (var 6) (s0 :: s1 :: s2 :: s3 :: s4 :: s5 :: .im d :: rr) Q E = Q d (s0 :: s1 :: s2 :: s3 :: s4 :: s5 :: .im d :: rr) := nr (by with_unfolding_all rfl)
@[simp ↓] theorem SetP_6 {s0 s1 s2 s3 s4 s5 : Sl} {s t : Sl} {rr : Rho} {P : Rho → Prop} : SetP 6 s (s0 :: s1 :: s2 :: s3 :: s4 :: s5 :: t :: rr) P = P (s0 :: s1 :: s2 :: s3 :: s4 :: s5 :: s :: rr) := nr (by with_unfolding_all rfl)
@[simp ↓] theorem MuP_6 {s0 s1 s2 s3 s4 s5 : Sl} {ds : List D} {rr : Rho} {P : List D → Prop} : MuP (s0 :: s1 :: s2 :: s3 :: s4 :: s5 :: .mu ds :: rr) 6 P = P ds := nr (by with_unfolding_all rfl)
@[simp ↓] theorem FrzP_6 {s0 s1 s2 s3 s4 s5 : Sl} {ds : List D} {rr : Rho} {P : Rho → Prop} : FrzP (s0 :: s1 :: s2 :: s3 :: s4 :: s5 :: .mu ds :: rr) 6 P = P (s0 :: s1 :: s2 :: s3 :: s4 :: s5 :: .im (.list ds) :: rr) := nr (by with_unfolding_all rfl)
@[simp ↓] theorem wp_var7 {s0 s1 s2 s3 s4 s5 s6 : Sl} {rr : Rho} : wp (var 7) (s0 :: s1 :: s2 :: s3 :: s4 :: s5 :: s6 :: .im d :: rr) Q E = Q d (s0 :: s1 :: s2 :: s3 :: s4 :: s5 :: s6 :: .im d :: rr) := nr (by with_unfolding_all rfl)
@[simp ↓] theorem SetP_7 {s0 s1 s2 s3 s4 s5 s6 : Sl} {s t : Sl} {rr : Rho} {P : Rho → Prop} : SetP 7 s (s0 :: s1 :: s2 :: s3 :: s4 :: s5 :: s6 :: t :: rr) P = P (s0 :: s1 :: s2 :: s3 :: s4 :: s5 :: s6 :: s :: rr) := nr (by with_unfolding_all rfl)
@[simp ↓] theorem MuP_7 {s0 s1 s2 s3 s4 s5 s6 : Sl} {ds : List D} {rr : Rho} {P : List D → Prop} : MuP (s0 :: s1 :: s2 :: s3 :: s4 :: s5 :: s6 :: .mu ds :: rr) 7 P = P ds := nr (by with_unfolding_all rfl)
@[simp ↓] theorem FrzP_7 {s0 s1 s2 s3 s4 s5 s6 : Sl} {ds : List D} {rr : Rho} {P : Rho → Prop} : FrzP (s0 :: s1 :: s2 :: s3 :: s4 :: s5 :: s6 :: .mu ds :: rr) 7 P = P (s0 :: s1 :: s2 :: s3 :: s4 :: s5 :: s6 :: .im (.list ds) :: rr) := nr (by with_unfolding_all rfl)
@[simp ↓] theorem wp_var8 {s0 s1 s2 s3 s4 s5 s6 s7 : Sl} {rr : Rho} : wp (var 8) (s0 :: s1 :: s2 :: s3 :: s4 :: s5 :: s6 :: s7 :: .im d :: rr) Q E = Q d (s0 :: s1 :: s2 :: s3 :: s4 :: s5 :: s6 :: s7 :: .im d :: rr) := nr (by with_unfolding_all rfl)
@[simp ↓] theorem SetP_8 {s0 s1 s2 s3 s4 s5 s6 s7 : Sl} {s t : Sl} {rr : Rho} {P : Rho → Prop} : SetP 8 s (s0 :: s1 :: s2 :: s3 :: s4 :: s5 :: s6 :: s7 :: t :: rr) P = P (s0 :: s1 :: s2 :: s3 :: s4 :: s5 :: s6 :: s7 :: s :: rr) := nr (by with_unfolding_all rfl)
@[simp ↓] theorem MuP_8 {s0 s1 s2 s3 s4 s5 s6 s7 : Sl} {ds : List D} {rr : Rho} {P : List D → Prop} : MuP (s0 :: s1 :: s2 :: s3 :: s4 :: s5 :: s6 :: s7 :: .mu ds :: rr) 8 P = P ds := nr (by with_unfolding_all rfl)
@[simp ↓] theorem FrzP_8 {s0 s1 s2 s3 s4 s5 s6 s7 : Sl} {ds : List D} {rr : Rho} {P : Rho → Prop} : FrzP (s0 :: s1 :: s2 :: s3 :: s4 :: s5 :: s6 :: s7 :: .mu ds :: rr) 8 P = P (s0 :: s1 :: s2 :: s3 :: s4 :: s5 :: s6 :: s7 :: .im (.list ds) :: rr) := nr (by with_unfolding_all rfl)
@[simp ↓] theorem wp_var9 {s0 s1 s2 s3 s4 s5 s6 s7 s8 : Sl} {rr : Rho} : wp (var 9) (s0 :: s1 :: s2 :: s3 :: s4 :: s5 :: s6 :: s7 :: s8 :: .im d :: rr) Q E = Q d (s0 :: s1 :: s2 :: s3 :: s4 :: s5 :: s6 :: s7 :: s8 :: .im d :: rr) := nr (by with_unfolding_all rfl)
@[simp ↓] theorem SetP_9 {s0 s1 s2 s3 s4 s5 s6 s7 s8 : Sl} {s t : Sl} {rr : Rho} {P : Rho → Prop} : SetP 9 s (s0 :: s1 :: s2 :: s3 :: s4 :: s5 :: s6 :: s7 :: s8 :: t :: rr) P = P (s0 :: s1 :: s2 :: s3 :: s4 :: s5 :: s6 :: s7 :: s8 :: s :: rr) := nr (by with_unfolding_all rfl)
@[simp ↓] theorem MuP_9 {s0 s1 s2 s3 s4 s5 s6 s7 s8 : Sl} {ds : List D} {rr : Rho} {P : List D → Prop} : MuP (s0 :: s1 :: s2 :: s3 :: s4 :: s5 :: s6 :: s7 :: s8 :: .mu ds :: rr) 9 P = P ds := nr (by with_unfolding_all rfl)
@[simp ↓] theorem FrzP_9 {s0 s1 s2 s3 s4 s5 s6 s7 s8 : Sl} {ds : List D} {rr : Rho} {P : Rho → Prop} : FrzP (s0 :: s1 :: s2 :: s3 :: s4 :: s5 :: s6 :: s7 :: s8 :: .mu ds :: rr) 9 P = P (s0 :: s1 :: s2 :: s3 :: s4 :: s5 :: s6 :: s7 :: s8 :: .im (.list ds) :: rr) := nr (by with_unfolding_all rfl)
@[simp ↓] theorem wp_var10 {s0 s1 s2 s3 s4 s5 s6 s7 s8 s9 : Sl} {rr : Rho} : wp (var 10) (s0 :: s1 :: s2 :: s3 :: s4 :: s5 :: s6 :: s7 :: s8 :: s9 :: .im d :: rr) Q E = Q d (s0 :: s1 :: s2 :: s3 :: s4 :: s5 :: s6 :: s7 :: s8 :: s9 :: .im d :: rr) := nr (by with_unfolding_all rfl)
@[simp ↓] theorem SetP_10 {s0 s1 s2 s3 s4 s5 s6 s7 s8 s9 : Sl} {s t : Sl} {rr : Rho} {P : Rho → Prop} : SetP 10 s (s0 :: s1 :: s2 :: s3 :: s4 :: s5 :: s6 :: s7 :: s8 :: s9 :: t :: rr) P = P (s0 :: s1 :: s2 :: s3 :: s4 :: s5 :: s6 :: s7 :: s8 :: s9 :: s :: rr) := nr (by with_unfolding_all rfl)
@[simp ↓] theorem MuP_10 {s0 s1 s2 s3 s4 s5 s6 s7 s8 s9 : Sl} {ds : List D} {rr : Rho} {P : List D → Prop} : MuP (s0 :: s1 :: s2 :: s3 :: s4 :: s5 :: s6 :: s7 :: s8 :: s9 :: .mu ds :: rr) 10 P = P ds := nr (by with_unfolding_all rfl)
@[simp ↓] theorem FrzP_10 {s0 s1 s2 s3 s4 s5 s6 s7 s8 s9 : Sl} {ds : List D} {rr : Rho} {P : Rho → Prop} : FrzP (s0 :: s1 :: s2 :: s3 :: s4 :: s5 :: s6 :: s7 :: s8 :: s9 :: .mu ds :: rr) 10 P = P (s0 :: s1 :: s2 :: s3 :: s4 :: s5 :: s6 :: s7 :: s8 :: s9 :: .im (.list ds) :: rr) := nr (by with_unfolding_all rfl)
@[simp ↓] theorem wp_var11 {s0 s1 s2 s3 s4 s5 s6 s7 s8 s9 s10 : Sl} {rr : Rho} : wp (var 11) (s0 :: s1 :: s2 :: s3 :: s4 :: s5 :: s6 :: s7 :: s8 :: s9 :: s10 :: .im d :: rr) Q E = Q d (s0 :: s1 :: s2 :: s3 :: s4 :: s5 :: s6 :: s7 :: s8 :: s9 :: s10 :: .im d :: rr) := nr (by with_unfolding_all rfl)
@[simp ↓] theorem SetP_11 {s0 s1 s2 s3 s4 s5 s6 s7 s8 s9 s10 : Sl} {s t : Sl} {rr : Rho} {P : Rho → Prop} : SetP 11 s (s0 :: s1 :: s2 :: s3 :: s4 :: s5 :: s6 :: s7 :: s8 :: s9 :: s10 :: t :: rr) P = P (s0 :: s1 :: s2 :: s3 :: s4 :: s5 :: s6 :: s7 :: s8 :: s9 :: s10 :: s :: rr) := nr (by with_unfolding_all rfl)
@[simp ↓] theorem MuP_11 {s0 s1 s2 s3 s4 s5 s6 s7 s8 s9 s10 : Sl} {ds : List D} {rr : Rho} {P : List D → Prop} : MuP (s0 :: s1 :: s2 :: s3 :: s4 :: s5 :: s6 :: s7 :: s8 :: s9 :: s10 :: .mu ds :: rr) 11 P = P ds := nr (by with_unfolding_all rfl)
@[simp ↓] theorem FrzP_11 {s0 s1 s2 s3 s4 s5 s6 s7 s8 s9 s10 : Sl} {ds : List D} {rr : Rho} {P : Rho → Prop} : FrzP (s0 :: s1 :: s2 :: s3 :: s4 :: s5 :: s6 :: s7 :: s8 :: s9 :: s10 :: .mu ds :: rr) 11 P = P (s0 :: s1 :: s2 :: s3 :: s4 :: s5 :: s6 :: s7 :: s8 :: s9 :: s10 :: .im (.list ds) :: rr) := nr (by with_unfolding_all rfl)
@[simp ↓] theorem wp_var12 {s0 s1 s2 s3 s4 s5 s6 s7 s8 s9 s10 s11 : Sl} {rr : Rho} : wp (var 12) (s0 :: s1 :: s2 :: s3 :: s4 :: s5 :: s6 :: s7 :: s8 :: s9 :: s10 :: s11 :: .im d :: rr) Q E = Q d (s0 :: s1 :: s2 :: s3 :: s4 :: s5 :: s6 :: s7 :: s8 :: s9 :: s10 :: s11 :: .im d :: rr) := nr (by with_unfolding_all rfl)
@[simp ↓] theorem SetP_12 {s0 s1 s2 s3 s4 s5 s6 s7 s8 s9 s10 s11 : Sl} {s t : Sl} {rr : Rho} {P : Rho → Prop} : SetP 12 s (s0 :: s1 :: s2 :: s3 :: s4 :: s5 :: s6 :: s7 :: s8 :: s9 :: s10 :: s11 :: t :: rr) P = P (s0 :: s1 :: s2 :: s3 :: s4 :: s5 :: s6 :: s7 :: s8 :: s9 :: s10 :: s11 :: s :: rr) := nr (by with_unfolding_all rfl)
@[simp ↓] theorem MuP_12 {s0 s1 s2 s3 s4 s5 s6 s7 s8 s9 s10 s11 : Sl} {ds : List D} {rr : Rho} {P : List D → Prop} : MuP (s0 :: s1 :: s2 :: s3 :: s4 :: s5 :: s6 :: s7 :: s8 :: s9 :: s10 :: s11 :: .mu ds :: rr) 12 P = P ds := nr (by with_unfolding_all rfl)
@[simp ↓] theorem FrzP_12 {s0 s1 s2 s3 s4 s5 s6 s7 s8 s9 s10 s11 : Sl} {ds : List D} {rr : Rho} {P : Rho → Prop} : FrzP (s0 :: s1 :: s2 :: s3 :: s4 :: s5 :: s6 :: s7 :: s8 :: s9 :: s10 :: s11 :: .mu ds :: rr) 12 P = P (s0 :: s1 :: s2 :: s3 :: s4 :: s5 :: s6 :: s7 :: s8 :: s9 :: s10 :: s11 :: .im (.list ds) :: rr) := nr (by with_unfolding_all rfl)
@[simp ↓] theorem wp_var13 {s0 s1 s2 s3 s4 s5 s6 s7 s8 s9 s10 s11 s12 : Sl} {rr : Rho} : wp (var 13) (s0 :: s1 :: s2 :: s3 :: s4 :: s5 :: s6 :: s7 :: s8 :: s9 :: s10 :: s11 :: s12 :: .im d :: rr) Q E = Q d (s0 :: s1 :: s2 :: s3 :: s4 :: s5 :: s6 :: s7 :: s8 :: s9 :: s10 :: s11 :: s12 :: .im d :: rr) := nr (by with_unfolding_all rfl)
@[simp ↓] theorem SetP_13 {s0 s1 s2 s3 s4 s5 s6 s7 s8 s9 s10 s11 s12 : Sl} {s t : Sl} {rr : Rho} {P : Rho → Prop} : SetP 13 s (s0 :: s1 :: s2 :: s3 :: s4 :: s5 :: s6 :: s7 :: s8 :: s9 :: s10 :: s11 :: s12 :: t :: rr) P = P (s0 :: s1 :: s2 :: s3 :: s4 :: s5 :: s6 :: s7 :: s8 :: s9 :: s10 :: s11 :: s12 :: s :: rr) := nr (by with_unfolding_all rfl)
@[simp ↓] theorem MuP_13 {s0 s1 s2 s3 s4 s5 s6 s7 s8 s9 s10 s11 s12 : Sl} {ds : List D} {rr : Rho} {P : List D → Prop} : MuP (s0 :: s1 :: s2 :: s3 :: s4 :: s5 :: s6 :: s7 :: s8 :: s9 :: s10 :: s11 :: s12 :: .mu ds :: rr) 13 P = P ds := nr (by with_unfolding_all rfl)
@[simp ↓] theorem FrzP_13 {s0 s1 s2 s3 s4 s5 s6 s7 s8 s9 s10 s11 s12 : Sl} {ds : List D} {rr : Rho} {P : Rho → Prop} : FrzP (s0 :: s1 :: s2 :: s3 :: s4 :: s5 :: s6 :: s7 :: s8 :: s9 :: s10 :: s11 :: s12 :: .mu ds :: rr) 13 P = P (s0 :: s1 :: s2 :: s3 :: s4 :: s5 :: s6 :: s7 :: s8 :: s9 :: s10 :: s11 :: s12 :: .im (.list ds) :: rr) := nr (by with_unfolding_all rfl)
@[simp ↓] theorem wp_var14 {s0 s1 s2 s3 s4 s5 s6 s7 s8 s9 s10 s11 s12 s13 : Sl} {rr : Rho} : wp (var 14) (s0 :: s1 :: s2 :: s3 :: s4 :: s5 :: s6 :: s7 :: s8 :: s9 :: s10 :: s11 :: s12 :: s13 :: .im d :: rr) Q E = Q d (s0 :: s1 :: s2 :: s3 :: s4 :: s5 :: s6 :: s7 :: s8 :: s9 :: s10 :: s11 :: s12 :: s13 :: .im d :: rr) := nr (by with_unfolding_all rfl)
@[simp ↓] theorem SetP_14 {s0 s1 s2 s3 s4 s5 s6 s7 s8 s9 s10 s11 s12 s13 : Sl} {s t : Sl} {rr : Rho} {P : Rho → Prop} : SetP 14 s (s0 :: s1 :: s2 :: s3 :: s4 :: s5 :: s6 :: s7 :: s8 :: s9 :: s10 :: s11 :: s12 :: s13 :: t :: rr) P = P (s0 :: s1 :: s2 :: s3 :: s4 :: s5 :: s6 :: s7 :: s8 :: s9 :: s10 :: s11 :: s12 :: s13 :: s :: rr) := nr (by with_unfolding_all rfl)
@[simp ↓] theorem MuP_14 {s0 s1 s2 s3 s4 s5 s6 s7 s8 s9 s10 s11 s12 s13 : Sl} {ds : List D} {rr : Rho} {P : List D → Prop} : MuP (s0 :: s1 :: s2 :: s3 :: s4 :: s5 :: s6 :: s7 :: s8 :: s9 :: s10 :: s11 :: s12 :: s13 :: .mu ds :: rr) 14 P = P ds := nr (by with_unfolding_all rfl)
@[simp ↓] theorem FrzP_14 {s0 s1 s2 s3 s4 s5 s6 s7 s8 s9 s10 s11 s12 s13 : Sl} {ds : List D} {rr : Rho} {P : Rho → Prop} : FrzP (s0 :: s1 :: s2 :: s3 :: s4 :: s5 :: s6 :: s7 :: s8 :: s9 :: s10 :: s11 :: s12 :: s13 :: .mu ds :: rr) 14 P = P (s0 :: s1 :: s2 :: s3 :: s4 :: s5 :: s6 :: s7 :: s8 :: s9 :: s10 :: s11 :: s12 :: s13 :: .im (.list ds) :: rr) := nr (by with_unfolding_all rfl)
@[simp ↓] theorem wp_var15 {s0 s1 s2 s3 s4 s5 s6 s7 s8 s9 s10 s11 s12 s13 s14 : Sl} {rr : Rho} : wp (var 15) (s0 :: s1 :: s2 :: s3 :: s4 :: s5 :: s6 :: s7 :: s8 :: s9 :: s10 :: s11 :: s12 :: s13 :: s14 :: .im d :: rr) Q E = Q d (s0 :: s1 :: s2 :: s3 :: s4 :: s5 :: s6 :: s7 :: s8 :: s9 :: s10 :: s11 :: s12 :: s13 :: s14 :: .im d :: rr) := nr (by with_unfolding_all rfl)
@[simp ↓] theorem SetP_15 {s0 s1 s2 s3 s4 s5 s6 s7 s8 s9 s10 s11 s12 s13 s14 : Sl} {s t : Sl} {rr : Rho} {P : Rho → Prop} : SetP 15 s (s0 :: s1 :: s2 :: s3 :: s4 :: s5 :: s6 :: s7 :: s8 :: s9 :: s10 :: s11 :: s12 :: s13 :: s14 :: t :: rr) P = P (s0 :: s1 :: s2 :: s3 :: s4 :: s5 :: s6 :: s7 :: s8 :: s9 :: s10 :: s11 :: s12 :: s13 :: s14 :: s :: rr) := nr (by with_unfolding_all rfl)
@[simp ↓] theorem MuP_15 {s0 s1 s2 s3 s4 s5 s6 s7 s8 s9 s10 s11 s12 s13 s14 : Sl} {ds : List D} {rr : Rho} {P : List D → Prop} : MuP (s0 :: s1 :: s2 :: s3 :: s4 :: s5 :: s6 :: s7 :: s8 :: s9 :: s10 :: s11 :: s12 :: s13 :: s14 :: .mu ds :: rr) 15 P = P ds := nr (by with_unfolding_all rfl)
@[simp ↓] theorem FrzP_15 {s0 s1 s2 s3 s4 s5 s6 s7 s8 s9 s10 s11 s12 s13 s14 : Sl} {ds : List D} {rr : Rho} {P : Rho → Prop} : FrzP (s0 :: s1 :: s2 :: s3 :: s4 :: s5 :: s6 :: s7 :: s8 :: s9 :: s10 :: s11 :: s12 :: s13 :: s14 :: .mu ds :: rr) 15 P = P (s0 :: s1 :: s2 :: s3 :: s4 :: s5 :: s6 :: s7 :: s8 :: s9 :: s10 :: s11 :: s12 :: s13 :: s14 :: .im (.list ds) :: rr) := nr (by with_unfolding_all rfl)
@[simp ↓] theorem wp_var16 {s0 s1 s2 s3 s4 s5 s6 s7 s8 s9 s10 s11 s12 s13 s14 s15 : Sl} {rr : Rho} : wp (var 16) (s0 :: s1 :: s2 :: s3 :: s4 :: s5 :: s6 :: s7 :: s8 :: s9 :: s10 :: s11 :: s12 :: s13 :: s14 :: s15 :: .im d :: rr) Q E = Q d (s0 :: s1 :: s2 :: s3 :: s4 :: s5 :: s6 :: s7 :: s8 :: s9 :: s10 :: s11 :: s12 :: s13 :: s14 :: s15 :: .im d :: rr) := nr (by with_unfolding_all rfl)
@[simp ↓] theorem SetP_16 {s0 s1 s2 s3 s4 s5 s6 s7 s8 s9 s10 s11 s12 s13 s14 s15 : Sl} {s t : Sl} {rr : Rho} {P : Rho → Prop} : SetP 16 s (s0 :: s1 :: s2 :: s3 :: s4 :: s5 :: s6 :: s7 :: s8 :: s9 :: s10 :: s11 :: s12 :: s13 :: s14 :: s15 :: t :: rr) P = P (s0 :: s1 :: s2 :: s3 :: s4 :: s5 :: s6 :: s7 :: s8 :: s9 :: s10 :: s11 :: s12 :: s13 :: s14 :: s15 :: s :: rr) := nr (by with_unfolding_all rfl)
@[simp ↓] theorem MuP_16 {s0 s1 s2 s3 s4 s5 s6 s7 s8 s9 s10 s11 s12 s13 s14 s15 : Sl} {ds : List D} {rr : Rho} {P : List D → Prop} : MuP (s0 :: s1 :: s2 :: s3 :: s4 :: s5 :: s6 :: s7 :: s8 :: s9 :: s10 :: s11 :: s12 :: s13 :: s14 :: s15 :: .mu ds :: rr) 16 P = P ds := nr (by with_unfolding_all rfl)
@[simp ↓] theorem FrzP_16 {s0 s1 s2 s3 s4 s5 s6 s7 s8 s9 s10 s11 s12 s13 s14 s15 : Sl} {ds : List D} {rr : Rho} {P : Rho → Prop} : FrzP (s0 :: s1 :: s2 :: s3 :: s4 :: s5 :: s6 :: s7 :: s8 :: s9 :: s10 :: s11 :: s12 :: s13 :: s14 :: s15 :: .mu ds :: rr) 16 P = P (s0 :: s1 :: s2 :: s3 :: s4 :: s5 :: s6 :: s7 :: s8 :: s9 :: s10 :: s11 :: s12 :: s13 :: s14 :: s15 :: .im (.list ds) :: rr) := nr (by with_unfolding_all rfl)
@[simp ↓] theorem wp_var17 {s0 s1 s2 s3 s4 s5 s6 s7 s8 s9 s10 s11 s12 s13 s14 s15 s16 : Sl} {rr : Rho} : wp (var 17) (s0 :: s1 :: s2 :: s3 :: s4 :: s5 :: s6 :: s7 :: s8 :: s9 :: s10 :: s11 :: s12 :: s13 :: s14 :: s15 :: s16 :: .im d :: rr) Q E = Q d (s0 :: s1 :: s2 :: s3 :: s4 :: s5 :: s6 :: s7 :: s8 :: s9 :: s10 :: s11 :: s12 :: s13 :: s14 :: s15 :: s16 :: .im d :: rr) := nr (by with_unfolding_all rfl)
@[simp ↓] theorem SetP_17 {s0 s1 s2 s3 s4 s5 s6 s7 s8 s9 s10 s11 s12 s13 s14 s15 s16 : Sl} {s t : Sl} {rr : Rho} {P : Rho → Prop} : SetP 17 s (s0 :: s1 :: s2 :: s3 :: s4 :: s5 :: s6 :: s7 :: s8 :: s9 :: s10 :: s11 :: s12 :: s13 :: s14 :: s15 :: s16 :: t :: rr) P = P (s0 :: s1 :: s2 :: s3 :: s4 :: s5 :: s6 :: s7 :: s8 :: s9 :: s10 :: s11 :: s12 :: s13 :: s14 :: s15 :: s16 :: s :: rr) := nr (by with_unfolding_all rfl)
@[simp ↓] theorem MuP_17 {s0 s1 s2 s3 s4 s5 s6 s7 s8 s9 s10 s11 s12 s13 s14 s15 s16 : Sl} {ds : List D} {rr : Rho} {P : List D → Prop} : MuP (s0 :: s1 :: s2 :: s3 :: s4 :: s5 :: s6 :: s7 :: s8 :: s9 :: s10 :: s11 :: s12 :: s13 :: s14 :: s15 :: s16 :: .mu ds :: rr) 17 P = P ds := nr (by with_unfolding_all rfl)
@[simp ↓] theorem FrzP_17 {s0 s1 s2 s3 s4 s5 s6 s7 s8 s9 s10 s11 s12 s13 s14 s15 s16 : Sl} {ds : List D} {rr : Rho} {P : Rho → Prop} : FrzP (s0 :: s1 :: s2 :: s3 :: s4 :: s5 :: s6 :: s7 :: s8 :: s9 :: s10 :: s11 :: s12 :: s13 :: s14 :: s15 :: s16 :: .mu ds :: rr) 17 P = P (s0 :: s1 :: s2 :: s3 :: s4 :: s5 :: s6 :: s7 :: s8 :: s9 :: s10 :: s11 :: s12 :: s13 :: s14 :: s15 :: s16 :: .im (.list ds) :: rr) := nr (by with_unfolding_all rfl)
@[simp ↓] theorem wp_var18 {s0 s1 s2 s3 s4 s5 s6 s7 s8 s9 s10 s11 s12 s13 s14 s15 s16 s17 : Sl} {rr : Rho} : wp (var 18) (s0 :: s1 :: s2 :: s3 :: s4 :: s5 :: s6 :: s7 :: s8 :: s9 :: s10 :: s11 :: s12 :: s13 :: s14 :: s15 :: s16 :: s17 :: .im d :: rr) Q E = Q d (s0 :: s1 :: s2 :: s3 :: s4 :: s5 :: s6 :: s7 :: s8 :: s9 :: s10 :: s11 :: s12 :: s13 :: s14 :: s15 :: s16 :: s17 :: .im d :: rr) := nr (by with_unfolding_all rfl)
@[simp ↓] theorem SetP_18 {s0 s1 s2 s3 s4 s5 s6 s7 s8 s9 s10 s11 s12 s13 s14 s15 s16 s17 : Sl} {s t : Sl} {rr : Rho} {P : Rho → Prop} : SetP 18 s (s0 :: s1 :: s2 :: s3 :: s4 :: s5 :: s6 :: s7 :: s8 :: s9 :: s10 :: s11 :: s12 :: s13 :: s14 :: s15 :: s16 :: s17 :: t :: rr) P = P (s0 :: s1 :: s2 :: s3 :: s4 :: s5 :: s6 :: s7 :: s8 :: s9 :: s10 :: s11 :: s12 :: s13 :: s14 :: s15 :: s16 :: s17 :: s :: rr) := nr (by with_unfolding_all rfl)
@[simp ↓] theorem MuP_18 {s0 s1 s2 s3 s4 s5 s6 s7 s8 s9 s10 s11 s12 s13 s14 s15 s16 s17 : Sl} {ds : List D} {rr : Rho} {P : List D → Prop} : MuP (s0 :: s1 :: s2 :: s3 :: s4 :: s5 :: s6 :: s7 :: s8 :: s9 :: s10 :: s11 :: s12 :: s13 :: s14 :: s15 :: s16 :: s17 :: .mu ds :: rr) 18 P = P ds := nr (by with_unfolding_all rfl)
@[simp ↓] theorem FrzP_18 {s0 s1 s2 s3 s4 s5 s6 s7 s8 s9 s10 s11 s12 s13 s14 s15 s16 s17 : Sl} {ds : List D} {rr : Rho} {P : Rho → Prop} : FrzP (s0 :: s1 :: s2 :: s3 :: s4 :: s5 :: s6 :: s7 :: s8 :: s9 :: s10 :: s11 :: s12 :: s13 :: s14 :: s15 :: s16 :: s17 :: .mu ds :: rr) 18 P = P (s0 :: s1 :: s2 :: s3 :: s4 :: s5 :: s6 :: s7 :: s8 :: s9 :: s10 :: s11 :: s12 :: s13 :: s14 :: s15 :: s16 :: s17 :: .im (.list ds) :: rr) := nr (by with_unfolding_all rfl)
@[simp ↓] theorem wp_var19 {s0 s1 s2 s3 s4 s5 s6 s7 s8 s9 s10 s11 s12 s13 s14 s15 s16 s17 s18 : Sl} {rr : Rho} : wp (var 19) (s0 :: s1 :: s2 :: s3 :: s4 :: s5 :: s6 :: s7 :: s8 :: s9 :: s10 :: s11 :: s12 :: s13 :: s14 :: s15 :: s16 :: s17 :: s18 :: .im d :: rr) Q E = Q d (s0 :: s1 :: s2 :: s3 :: s4 :: s5 :: s6 :: s7 :: s8 :: s9 :: s10 :: s11 :: s12 :: s13 :: s14 :: s15 :: s16 :: s17 :: s18 :: .im d :: rr) := nr (by with_unfolding_all rfl)
@[simp ↓] theorem SetP_19 {s0 s1 s2 s3 s4 s5 s6 s7 s8 s9 s10 s11 s12 s13 s14 s15 s16 s17 s18 : Sl} {s t : Sl} {rr : Rho} {P : Rho → Prop} : SetP 19 s (s0 :: s1 :: s2 :: s3 :: s4 :: s5 :: s6 :: s7 :: s8 :: s9 :: s10 :: s11 :: s12 :: s13 :: s14 :: s15 :: s16 :: s17 :: s18 :: t :: rr) P = P (s0 :: s1 :: s2 :: s3 :: s4 :: s5 :: s6 :: s7 :: s8 :: s9 :: s10 :: s11 :: s12 :: s13 :: s14 :: s15 :: s16 :: s17 :: s18 :: s :: rr) := nr (by with_unfolding_all rfl)
@[simp ↓] theorem MuP_19 {s0 s1 s2 s3 s4 s5 s6 s7 s8 s9 s10 s11 s12 s13 s14 s15 s16 s17 s18 : Sl} {ds : List D} {rr : Rho} {P : List D → Prop} : MuP (s0 :: s1 :: s2 :: s3 :: s4 :: s5 :: s6 :: s7 :: s8 :: s9 :: s10 :: s11 :: s12 :: s13 :: s14 :: s15 :: s16 :: s17 :: s18 :: .mu ds :: rr) 19 P = P ds := nr (by with_unfolding_all rfl)
@[simp ↓] theorem FrzP_19 {s0 s1 s2 s3 s4 s5 s6 s7 s8 s9 s10 s11 s12 s13 s14 s15 s16 s17 s18 : Sl} {ds : List D} {rr : Rho} {P : Rho → Prop} : FrzP (s0 :: s1 :: s2 :: s3 :: s4 :: s5 :: s6 :: s7 :: s8 :: s9 :: s10 :: s11 :: s12 :: s13 :: s14 :: s15 :: s16 :: s17 :: s18 :: .mu ds :: rr) 19 P = P (s0 :: s1 :: s2 :: s3 :: s4 :: s5 :: s6 :: s7 :: s8 :: s9 :: s10 :: s11 :: s12 :: s13 :: s14 :: s15 :: s16 :: s17 :: s18 :: .im (.list ds) :: rr) := nr (by with_unfolding_all rfl)
@[simp ↓] theorem wp_var20 {s0 s1 s2 s3 s4 s5 s6 s7 s8 s9 s10 s11 s12 s13 s14 s15 s16 s17 s18 s19 : Sl} {rr : Rho} : wp (var 20) (s0 :: s1 :: s2 :: s3 :: s4 :: s5 :: s6 :: s7 :: s8 :: s9 :: s10 :: s11 :: s12 :: s13 :: s14 :: s15 :: s16 :: s17 :: s18 :: s19 :: .im d :: rr) Q E = Q d (s0 :: s1 :: s2 :: s3 :: s4 :: s5 :: s6 :: s7 :: s8 :: s9 :: s10 :: s11 :: s12 :: s13 :: s14 :: s15 :: s16 :: s17 :: s18 :: s19 :: .im d :: rr) := nr (by with_unfolding_all rfl)
@[simp ↓] theorem SetP_20 {s0 s1 s2 s3 s4 s5 s6 s7 s8 s9 s10 s11 s12 s13 s14 s15 s16 s17 s18 s19 : Sl} {s t : Sl} {rr : Rho} {P : Rho → Prop} : SetP 20 s (s0 :: s1 :: s2 :: s3 :: s4 :: s5 :: s6 :: s7 :: s8 :: s9 :: s10 :: s11 :: s12 :: s13 :: s14 :: s15 :: s16 :: s17 :: s18 :: s19 :: t :: rr) P = P (s0 :: s1 :: s2 :: s3 :: s4 :: s5 :: s6 :: s7 :: s8 :: s9 :: s10 :: s11 :: s12 :: s13 :: s14 :: s15 :: s16 :: s17 :: s18 :: s19 :: s :: rr) := nr (by with_unfolding_all rfl)
@[simp ↓] theorem MuP_20 {s0 s1 s2 s3 s4 s5 s6 s7 s8 s9 s10 s11 s12 s13 s14 s15 s16 s17 s18 s19 : Sl} {ds : List D} {rr : Rho} {P : List D → Prop} : MuP (s0 :: s1 :: s2 :: s3 :: s4 :: s5 :: s6 :: s7 :: s8 :: s9 :: s10 :: s11 :: s12 :: s13 :: s14 :: s15 :: s16 :: s17 :: s18 :: s19 :: .mu ds :: rr) 20 P = P ds := nr (by with_unfolding_all rfl)
@[simp ↓] theorem FrzP_20 {s0 s1 s2 s3 s4 s5 s6 s7 s8 s9 s10 s11 s12 s13 s14 s15 s16 s17 s18 s19 : Sl} {ds : List D} {rr : Rho} {P : Rho → Prop} : FrzP (s0 :: s1 :: s2 :: s3 :: s4 :: s5 :: s6 :: s7 :: s8 :: s9 :: s10 :: s11 :: s12 :: s13 :: s14 :: s15 :: s16 :: s17 :: s18 :: s19 :: .mu ds :: rr) 20 P = P (s0 :: s1 :: s2 :: s3 :: s4 :: s5 :: s6 :: s7 :: s8 :: s9 :: s10 :: s11 :: s12 :: s13 :: s14 :: s15 :: s16 :: s17 :: s18 :: s19 :: .im (.list ds) :: rr) := nr (by with_unfolding_all rfl)
@[simp ↓] theorem wp_var21 {s0 s1 s2 s3 s4 s5 s6 s7 s8 s9 s10 s11 s12 s13 s14 s15 s16 s17 s18 s19 s20 : Sl} {rr : Rho} : wp (var 21) (s0 :: s1 :: s2 :: s3 :: s4 :: s5 :: s6 :: s7 :: s8 :: s9 :: s10 :: s11 :: s12 :: s13 :: s14 :: s15 :: s16 :: s17 :: s18 :: s19 :: s20 :: .im d :: rr) Q E = Q d (s0 :: s1 :: s2 :: s3 :: s4 :: s5 :: s6 :: s7 :: s8 :: s9 :: s10 :: s11 :: s12 :: s13 :: s14 :: s15 :: s16 :: s17 :: s18 :: s19 :: s20 :: .im d :: rr) := nr (by with_unfolding_all rfl)
@[simp ↓] theorem SetP_21 {s0 s1 s2 s3 s4 s5 s6 s7 s8 s9 s10 s11 s12 s13 s14 s15 s16 s17 s18 s19 s20 : Sl} {s t : Sl} {rr : Rho} {P : Rho → Prop} : SetP 21 s (s0 :: s1 :: s2 :: s3 :: s4 :: s5 :: s6 :: s7 :: s8 :: s9 :: s10 :: s11 :: s12 :: s13 :: s14 :: s15 :: s16 :: s17 :: s18 :: s19 :: s20 :: t :: rr) P = P (s0 :: s1 :: s2 :: s3 :: s4 :: s5 :: s6 :: s7 :: s8 :: s9 :: s10 :: s11 :: s12 :: s13 :: s14 :: s15 :: s16 :: s17 :: s18 :: s19 :: s20 :: s :: rr) := nr (by with_unfolding_all rfl)
@[simp ↓] theorem MuP_21 {s0 s1 s2 s3 s4 s5 s6 s7 s8 s9 s10 s11 s12 s13 s14 s15 s16 s17 s18 s19 s20 : Sl} {ds : List D} {rr : Rho} {P : List D → Prop} : MuP (s0 :: s1 :: s2 :: s3 :: s4 :: s5 :: s6 :: s7 :: s8 :: s9 :: s10 :: s11 :: s12 :: s13 :: s14 :: s15 :: s16 :: s17 :: s18 :: s19 :: s20 :: .mu ds :: rr) 21 P = P ds := nr (by with_unfolding_all rfl)
@[simp ↓] theorem FrzP_21 {s0 s1 s2 s3 s4 s5 s6 s7 s8 s9 s10 s11 s12 s13 s14 s15 s16 s17 s18 s19 s20 : Sl} {ds : List D} {rr : Rho} {P : Rho → Prop} : FrzP (s0 :: s1 :: s2 :: s3 :: s4 :: s5 :: s6 :: s7 :: s8 :: s9 :: s10 :: s11 :: s12 :: s13 :: s14 :: s15 :: s16 :: s17 :: s18 :: s19 :: s20 :: .mu ds :: rr) 21 P = P (s0 :: s1 :: s2 :: s3 :: s4 :: s5 :: s6 :: s7 :: s8 :: s9 :: s10 :: s11 :: s12 :: s13 :: s14 :: s15 :: s16 :: s17 :: s18 :: s19 :: s20 :: .im (.list ds) :: rr) := nr (by with_unfolding_all rfl)
@[simp ↓] theorem wp_var22 {s0 s1 s2 s3 s4 s5 s6 s7 s8 s9 s10 s11 s12 s13 s14 s15 s16 s17 s18 s19 s20 s21 : Sl} {rr : Rho} : wp (var 22) (s0 :: s1 :: s2 :: s3 :: s4 :: s5 :: s6 :: s7 :: s8 :: s9 :: s10 :: s11 :: s12 :: s13 :: s14 :: s15 :: s16 :: s17 :: s18 :: s19 :: s20 :: s21 :: .im d :: rr) Q E = Q d (s0 :: s1 :: s2 :: s3 :: s4 :: s5 :: s6 :: s7 :: s8 :: s9 :: s10 :: s11 :: s12 :: s13 :: s14 :: s15 :: s16 :: s17 :: s18 :: s19 :: s20 :: s21 :: .im d :: rr) := nr (by with_unfolding_all rfl)
@[simp ↓] theorem SetP_22 {s0 s1 s2 s3 s4 s5 s6 s7 s8 s9 s10 s11 s12 s13 s14 s15 s16 s17 s18 s19 s20 s21 : Sl} {s t : Sl} {rr : Rho} {P : Rho → Prop} : SetP 22 s (s0 :: s1 :: s2 :: s3 :: s4 :: s5 :: s6 :: s7 :: s8 :: s9 :: s10 :: s11 :: s12 :: s13 :: s14 :: s15 :: s16 :: s17 :: s18 :: s19 :: s20 :: s21 :: t :: rr) P = P (s0 :: s1 :: s2 :: s3 :: s4 :: s5 :: s6 :: s7 :: s8 :: s9 :: s10 :: s11 :: s12 :: s13 :: s14 :: s15 :: s16 :: s17 :: s18 :: s19 :: s20 :: s21 :: s :: rr) := nr (by with_unfolding_all rfl)
@[simp ↓] theorem MuP_22 {s0 s1 s2 s3 s4 s5 s6 s7 s8 s9 s10 s11 s12 s13 s14 s15 s16 s17 s18 s19 s20 s21 : Sl} {ds : List D} {rr : Rho} {P : List D → Prop} : MuP (s0 :: s1 :: s2 :: s3 :: s4 :: s5 :: s6 :: s7 :: s8 :: s9 :: s10 :: s11 :: s12 :: s13 :: s14 :: s15 :: s16 :: s17 :: s18 :: s19 :: s20 :: s21 :: .mu ds :: rr) 22 P = P ds := nr (by with_unfolding_all rfl)
@[simp ↓] theorem FrzP_22 {s0 s1 s2 s3 s4 s5 s6 s7 s8 s9 s10 s11 s12 s13 s14 s15 s16 s17 s18 s19 s20 s21 : Sl} {ds : List D} {rr : Rho} {P : Rho → Prop} : FrzP (s0 :: s1 :: s2 :: s3 :: s4 :: s5 :: s6 :: s7 :: s8 :: s9 :: s10 :: s11 :: s12 :: s13 :: s14 :: s15 :: s16 :: s17 :: s18 :: s19 :: s20 :: s21 :: .mu ds :: rr) 22 P = P (s0 :: s1 :: s2 :: s3 :: s4 :: s5 :: s6 :: s7 :: s8 :: s9 :: s10 :: s11 :: s12 :: s13 :: s14 :: s15 :: s16 :: s17 :: s18 :: s19 :: s20 :: s21 :: .im (.list ds) :: rr) := nr (by with_unfolding_all rfl)
@[simp ↓] theorem wp_var23 {s0 s1 s2 s3 s4 s5 s6 s7 s8 s9 s10 s11 s12 s13 s14 s15 s16 s17 s18 s19 s20 s21 s22 : Sl} {rr : Rho} : wp (var 23) (s0 :: s1 :: s2 :: s3 :: s4 :: s5 :: s6 :: s7 :: s8 :: s9 :: s10 :: s11 :: s12 :: s13 :: s14 :: s15 :: s16 :: s17 :: s18 :: s19 :: s20 :: s21 :: s22 :: .im d :: rr) Q E = Q d (s0 :: s1 :: s2 :: s3 :: s4 :: s5 :: s6 :: s7 :: s8 :: s9 :: s10 :: s11 :: s12 :: s13 :: s14 :: s15 :: s16 :: s17 :: s18 :: s19 :: s20 :: s21 :: s22 :: .im d :: rr) := nr (by with_unfolding_all rfl)
@[simp ↓] theorem SetP_23 {s0 s1 s2 s3 s4 s5 s6 s7 s8 s9 s10 s11 s12 s13 s14 s15 s16 s17 s18 s19 s20 s21 s22 : Sl} {s t : Sl} {rr : Rho} {P : Rho → Prop} : SetP 23 s (s0 :: s1 :: s2 :: s3 :: s4 :: s5 :: s6 :: s7 :: s8 :: s9 :: s10 :: s11 :: s12 :: s13 :: s14 :: s15 :: s16 :: s17 :: s18 :: s19 :: s20 :: s21 :: s22 :: t :: rr) P = P (s0 :: s1 :: s2 :: s3 :: s4 :: s5 :: s6 :: s7 :: s8 :: s9 :: s10 :: s11 :: s12 :: s13 :: s14 :: s15 :: s16 :: s17 :: s18 :: s19 :: s20 :: s21 :: s22 :: s :: rr) := nr (by with_unfolding_all rfl)
@[simp ↓] theorem MuP_23 {s0 s1 s2 s3 s4 s5 s6 s7 s8 s9 s10 s11 s12 s13 s14 s15 s16 s17 s18 s19 s20 s21 s22 : Sl} {ds : List D} {rr : Rho} {P : List D → Prop} : MuP (s0 :: s1 :: s2 :: s3 :: s4 :: s5 :: s6 :: s7 :: s8 :: s9 :: s10 :: s11 :: s12 :: s13 :: s14 :: s15 :: s16 :: s17 :: s18 :: s19 :: s20 :: s21 :: s22 :: .mu ds :: rr) 23 P = P ds := nr (by with_unfolding_all rfl)
@[simp ↓] theorem FrzP_23 {s0 s1 s2 s3 s4 s5 s6 s7 s8 s9 s10 s11 s12 s13 s14 s15 s16 s17 s18 s19 s20 s21 s22 : Sl} {ds : List D} {rr : Rho} {P : Rho → Prop} : FrzP (s0 :: s1 :: s2 :: s3 :: s4 :: s5 :: s6 :: s7 :: s8 :: s9 :: s10 :: s11 :: s12 :: s13 :: s14 :: s15 :: s16 :: s17 :: s18 :: s19 :: s20 :: s21 :: s22 :: .mu ds :: rr) 23 P = P (s0 :: s1 :: s2 :: s3 :: s4 :: s5 :: s6 :: s7 :: s8 :: s9 :: s10 :: s11 :: s12 :: s13 :: s14 :: s15 :: s16 :: s17 :: s18 :: s19 :: s20 :: s21 :: s22 :: .im (.list ds) :: rr) := nr (by with_unfolding_all rfl)
@[simp ↓] theorem wp_var24 {s0 s1 s2 s3 s4 s5 s6 s7 s8 s9 s10 s11 s12 s13 s14 s15 s16 s17 s18 s19 s20 s21 s22 s23 : Sl} {rr : Rho} : wp (var 24) (s0 :: s1 :: s2 :: s3 :: s4 :: s5 :: s6 :: s7 :: s8 :: s9 :: s10 :: s11 :: s12 :: s13 :: s14 :: s15 :: s16 :: s17 :: s18 :: s19 :: s20 :: s21 :: s22 :: s23 :: .im d :: rr) Q E = Q d (s0 :: s1 :: s2 :: s3 :: s4 :: s5 :: s6 :: s7 :: s8 :: s9 :: s10 :: s11 :: s12 :: s13 :: s14 :: s15 :: s16 :: s17 :: s18 :: s19 :: s20 :: s21 :: s22 :: s23 :: .im d :: rr) := nr (by with_unfolding_all rfl)
@[simp ↓] theorem SetP_24 {s0 s1 s2 s3 s4 s5 s6 s7 s8 s9 s10 s11 s12 s13 s14 s15 s16 s17 s18 s19 s20 s21 s22 s23 : Sl} {s t : Sl} {rr : Rho} {P : Rho → Prop} : SetP 24 s (s0 :: s1 :: s2 :: s3 :: s4 :: s5 :: s6 :: s7 :: s8 :: s9 :: s10 :: s11 :: s12 :: s13 :: s14 :: s15 :: s16 :: s17 :: s18 :: s19 :: s20 :: s21 :: s22 :: s23 :: t :: rr) P = P (s0 :: s1 :: s2 :: s3 :: s4 :: s5 :: s6 :: s7 :: s8 :: s9 :: s10 :: s11 :: s12 :: s13 :: s14 :: s15 :: s16 :: s17 :: s18 :: s19 :: s20 :: s21 :: s22 :: s23 :: s :: rr) := nr (by with_unfolding_all rfl)
@[simp ↓] theorem MuP_24 {s0 s1 s2 s3 s4 s5 s6 s7 s8 s9 s10 s11 s12 s13 s14 s15 s16 s17 s18 s19 s20 s21 s22 s23 : Sl} {ds : List D} {rr : Rho} {P : List D → Prop} : MuP (s0 :: s1 :: s2 :: s3 :: s4 :: s5 :: s6 :: s7 :: s8 :: s9 :: s10 :: s11 :: s12 :: s13 :: s14 :: s15 :: s16 :: s17 :: s18 :: s19 :: s20 :: s21 :: s22 :: s23 :: .mu ds :: rr) 24 P = P ds := nr (by with_unfolding_all rfl)
@[simp ↓] theorem FrzP_24 {s0 s1 s2 s3 s4 s5 s6 s7 s8 s9 s10 s11 s12 s13 s14 s15 s16 s17 s18 s19 s20 s21 s22 s23 : Sl} {ds : List D} {rr : Rho} {P : Rho → Prop} : FrzP (s0 :: s1 :: s2 :: s3 :: s4 :: s5 :: s6 :: s7 :: s8 :: s9 :: s10 :: s11 :: s12 :: s13 :: s14 :: s15 :: s16 :: s17 :: s18 :: s19 :: s20 :: s21 :: s22 :: s23 :: .mu ds :: rr) 24 P = P (s0 :: s1 :: s2 :: s3 :: s4 :: s5 :: s6 :: s7 :: s8 :: s9 :: s10 :: s11 :: s12 :: s13 :: s14 :: s15 :: s16 :: s17 :: s18 :: s19 :: s20 :: s21 :: s22 :: s23 :: .im (.list ds) :: rr) := nr (by with_unfolding_all rfl)
@[simp ↓] theorem wp_var25 {s0 s1 s2 s3 s4 s5 s6 s7 s8 s9 s10 s11 s12 s13 s14 s15 s16 s17 s18 s19 s20 s21 s22 s23 s24 : Sl} {rr : Rho} : wp (var 25) (s0 :: s1 :: s2 :: s3 :: s4 :: s5 :: s6 :: s7 :: s8 :: s9 :: s10 :: s11 :: s12 :: s13 :: s14 :: s15 :: s16 :: s17 :: s18 :: s19 :: s20 :: s21 :: s22 :: s23 :: s24 :: .im d :: rr) Q E = Q d (s0 :: s1 :: s2 :: s3 :: s4 :: s5 :: s6 :: s7 :: s8 :: s9 :: s10 :: s11 :: s12 :: s13 :: s14 :: s15 :: s16 :: s17 :: s18 :: s19 :: s20 :: s21 :: s22 :: s23 :: s24 :: .im d :: rr) := nr (by with_unfolding_all rfl)
@[simp ↓] theorem SetP_25 {s0 s1 s2 s3 s4 s5 s6 s7 s8 s9 s10 s11 s12 s13 s14 s15 s16 s17 s18 s19 s20 s21 s22 s23 s24 : Sl} {s t : Sl} {rr : Rho} {P : Rho → Prop} : SetP 25 s (s0 :: s1 :: s2 :: s3 :: s4 :: s5 :: s6 :: s7 :: s8 :: s9 :: s10 :: s11 :: s12 :: s13 :: s14 :: s15 :: s16 :: s17 :: s18 :: s19 :: s20 :: s21 :: s22 :: s23 :: s24 :: t :: rr) P = P (s0 :: s1 :: s2 :: s3 :: s4 :: s5 :: s6 :: s7 :: s8 :: s9 :: s10 :: s11 :: s12 :: s13 :: s14 :: s15 :: s16 :: s17 :: s18 :: s19 :: s20 :: s21 :: s22 :: s23 :: s24 :: s :: rr) := nr (by with_unfolding_all rfl)
@[simp ↓] theorem MuP_25 {s0 s1 s2 s3 s4 s5 s6 s7 s8 s9 s10 s11 s12 s13 s14 s15 s16 s17 s18 s19 s20 s21 s22 s23 s24 : Sl} {ds : List D} {rr : Rho} {P : List D → Prop} : MuP (s0 :: s1 :: s2 :: s3 :: s4 :: s5 :: s6 :: s7 :: s8 :: s9 :: s10 :: s11 :: s12 :: s13 :: s14 :: s15 :: s16 :: s17 :: s18 :: s19 :: s20 :: s21 :: s22 :: s23 :: s24 :: .mu ds :: rr) 25 P = P ds := nr (by with_unfolding_all rfl)
@[simp ↓] theorem FrzP_25 {s0 s1 s2 s3 s4 s5 s6 s7 s8 s9 s10 s11 s12 s13 s14 s15 s16 s17 s18 s19 s20 s21 s22 s23 s24 : Sl} {ds : List D} {rr : Rho} {P : Rho → Prop} : FrzP (s0 :: s1 :: s2 :: s3 :: s4 :: s5 :: s6 :: s7 :: s8 :: s9 :: s10 :: s11 :: s12 :: s13 :: s14 :: s15 :: s16 :: s17 :: s18 :: s19 :: s20 :: s21 :: s22 :: s23 :: s24 :: .mu ds :: rr) 25 P = P (s0 :: s1 :: s2 :: s3 :: s4 :: s5 :: s6 :: s7 :: s8 :: s9 :: s10 :: s11 :: s12 :: s13 :: s14 :: s15 :: s16 :: s17 :: s18 :: s19 :: s20 :: s21 :: s22 :: s23 :: s24 :: .im (.list ds) :: rr) := nr (by with_unfolding_all rfl)
end
end QL
set_option Elab.async false
set_option linter.all false
set_option maxRecDepth 100000
set_option maxHeartbeats 2000000
/-! Q16: operations on data of known kinds; rules for loops and comprehensions (printed by gen16.py). -/
namespace QL
open PySem PySem.Spec PyProof.Rows L2

/-! ### data that == compares -/
theorem beq_dec {α : Type} [BEq α] [LawfulBEq α] [DecidableEq α] (a b : α) : (a == b) = decide (a = b) := by
  rw [Bool.eq_iff_iff, beq_iff_eq, decide_eq_true_eq]
mutual
def lay : Nat → D → Bool
  | _, .none => true
  | _, .bool _ => true
  | _, .int _ => true
  | n + 1, .list ds => layAll n ds
  | n + 1, .tuple ds => layAll n ds
  | _, .str x => PyData.strOk x
  | _, _ => false
def layAll : Nat → List D → Bool
  | _, [] => true
  | n, d :: ds => lay n d && layAll n ds
end
mutual
theorem lay_can : ∀ (n : Nat) (d : D), lay n d = true → d.canLay0 = true ∧ d.depth ≤ n
  | _, .none, _ => ⟨rfl, Nat.zero_le _⟩
  | _, .bool _, _ => ⟨rfl, Nat.zero_le _⟩
  | _, .int _, _ => ⟨rfl, Nat.zero_le _⟩
  | n, .str x, h => by
    refine ⟨?_, Nat.zero_le _⟩
    cases n <;> simpa [lay, PyData.canLay0] using h
  | 0, .list _, h => by simp [lay] at h
  | 0, .tuple _, h => by simp [lay] at h
  | n, .dict _, h => by cases n <;> simp [lay] at h
  | n + 1, .list ds, h => by
    obtain ⟨h1, h2⟩ := layAll_can n ds (by simpa [lay] using h)
    exact ⟨by simpa [PyData.canLay0] using h1, by simp only [PyData.depth]; omega⟩
  | n + 1, .tuple ds, h => by
    obtain ⟨h1, h2⟩ := layAll_can n ds (by simpa [lay] using h)
    exact ⟨by simpa [PyData.canLay0] using h1, by simp only [PyData.depth]; omega⟩
theorem layAll_can : ∀ (n : Nat) (ds : List D), layAll n ds = true → PyData.canLayAll0 ds = true ∧ PyData.depthAll ds ≤ n
  | _, [], _ => ⟨rfl, Nat.zero_le _⟩
  | n, d :: ds, h => by
    simp only [layAll, Bool.and_eq_true] at h
    obtain ⟨h1, h2⟩ := lay_can n d h.1
    obtain ⟨h3, h4⟩ := layAll_can n ds h.2
    exact ⟨by simp only [PyData.canLayAll0, h1, h3, Bool.and_self], by simp only [PyData.depthAll]; omega⟩
end
theorem shaped_of {n : Nat} {d : D} (h : lay n d = true) (hn : n ≤ 64) : SeqAt.shaped d = true := by
  obtain ⟨h1, h2⟩ := lay_can n d h
  unfold SeqAt.shaped
  rw [h1, decide_eq_true (Nat.le_trans h2 hn)]
  with_unfolding_all rfl
theorem layAll_map {α : Type} {n : Nat} {f : α → D} (h : ∀ a, lay n (f a) = true) : ∀ xs : List α, layAll n (xs.map f) = true
  | [] => rfl
  | x :: xs => by rw [List.map_cons, layAll, h, layAll_map h xs]; with_unfolding_all rfl
mutual
theorem eqv_self : ∀ d : D, d.canLay0 = true → PyData.eqv d d = true
  | .none, _ => by simp [PyData.eqv]
  | .bool _, _ => by simp [PyData.eqv]
  | .int _, _ => by simp [PyData.eqv]
  | .str _, _ => by simp [PyData.eqv]
  | .list xs, h => by simp only [PyData.eqv]; exact eqvAll_self xs (by simpa [PyData.canLay0] using h)
  | .tuple xs, h => by simp only [PyData.eqv]; exact eqvAll_self xs (by simpa [PyData.canLay0] using h)
  | .dict _, h => by simp [PyData.canLay0] at h
theorem eqvAll_self : ∀ xs : List D, PyData.canLayAll0 xs = true → PyData.eqvAll xs xs = true
  | [], _ => by simp [PyData.eqvAll]
  | x :: xs, h => by
    simp only [PyData.canLayAll0, Bool.and_eq_true] at h
    simp only [PyData.eqvAll, eqv_self x h.1, eqvAll_self xs h.2, Bool.and_self]
end
theorem eqD_self {n : Nat} {d : D} (h : lay n d = true) (hn : n ≤ 64) : eqD d d = some true := by
  unfold eqD
  rw [if_pos ⟨shaped_of h hn, shaped_of h hn⟩, eqv_self d (lay_can n d h).1]
theorem neD_self {n : Nat} {d : D} (h : lay n d = true) (hn : n ≤ 64) : neD d d = some false := by
  unfold neD
  rw [if_pos ⟨shaped_of h hn, shaped_of h hn⟩, eqv_self d (lay_can n d h).1]
  with_unfolding_all rfl
theorem eqD_of {n : Nat} {d e : D} (h : lay n d = true) (h' : lay n e = true) (hn : n ≤ 64) : eqD d e = some (PyData.eqv d e) := by
  unfold eqD
  rw [if_pos ⟨shaped_of h hn, shaped_of h' hn⟩]
theorem neD_of {n : Nat} {d e : D} (h : lay n d = true) (h' : lay n e = true) (hn : n ≤ 64) : neD d e = some (!PyData.eqv d e) := by
  unfold neD
  rw [if_pos ⟨shaped_of h hn, shaped_of h' hn⟩]
/-- an encoding that == tells apart -/
structure EncOk {α : Type} [DecidableEq α] (f : α → D) : Prop where
  lay : ∀ a, lay 8 (f a) = true
  eqv : ∀ a b, PyData.eqv (f a) (f b) = decide (a = b)
theorem encInt : EncOk PyData.int := ⟨fun a => by simp [lay], fun a b => by simp only [PyData.eqv]; exact beq_dec a b⟩
theorem encBool : EncOk PyData.bool := ⟨fun a => by simp [lay], fun a b => by simp only [PyData.eqv]; exact beq_dec a b⟩
theorem EncOk.all {α : Type} [DecidableEq α] {f : α → D} (h : ∀ a b, PyData.eqv (f a) (f b) = decide (a = b)) : ∀ xs ys : List α, PyData.eqvAll (xs.map f) (ys.map f) = decide (xs = ys)
  | [], [] => by simp [PyData.eqvAll]
  | [], _ :: _ => by simp [PyData.eqvAll]
  | _ :: _, [] => by simp [PyData.eqvAll]
  | x :: xs, y :: ys => by
    rw [List.map_cons, List.map_cons, PyData.eqvAll, h x y, EncOk.all h xs ys, ← Bool.decide_and]
    exact decide_eq_decide.mpr (by rw [List.cons.injEq])
theorem EncOk.eqv_list {α : Type} [DecidableEq α] {f : α → D} (h : EncOk f) (xs ys : List α) : PyData.eqv (.list (xs.map f)) (.list (ys.map f)) = decide (xs = ys) := by
  simp only [PyData.eqv]; exact EncOk.all h.eqv xs ys
theorem EncOk.eqv_tuple {α : Type} [DecidableEq α] {f : α → D} (h : EncOk f) (xs ys : List α) : PyData.eqv (.tuple (xs.map f)) (.tuple (ys.map f)) = decide (xs = ys) := by
  simp only [PyData.eqv]; exact EncOk.all h.eqv xs ys
theorem EncOk.eqD_list {α : Type} [DecidableEq α] {f : α → D} (h : EncOk f) (xs ys : List α) : eqD (.list (xs.map f)) (.list (ys.map f)) = some (decide (xs = ys)) := by
  rw [eqD_of (n := 9) (by simp only [QL.lay]; exact layAll_map h.lay xs) (by simp only [QL.lay]; exact layAll_map h.lay ys) (by omega), h.eqv_list]
theorem EncOk.neD_list {α : Type} [DecidableEq α] {f : α → D} (h : EncOk f) (xs ys : List α) : neD (.list (xs.map f)) (.list (ys.map f)) = some (!decide (xs = ys)) := by
  rw [neD_of (n := 9) (by simp only [QL.lay]; exact layAll_map h.lay xs) (by simp only [QL.lay]; exact layAll_map h.lay ys) (by omega), h.eqv_list]
theorem EncOk.eqD_tuple {α : Type} [DecidableEq α] {f : α → D} (h : EncOk f) (xs ys : List α) : eqD (.tuple (xs.map f)) (.tuple (ys.map f)) = some (decide (xs = ys)) := by
  rw [eqD_of (n := 9) (by simp only [QL.lay]; exact layAll_map h.lay xs) (by simp only [QL.lay]; exact layAll_map h.lay ys) (by omega), h.eqv_tuple]
theorem EncOk.neD_tuple {α : Type} [DecidableEq α] {f : α → D} (h : EncOk f) (xs ys : List α) : neD (.tuple (xs.map f)) (.tuple (ys.map f)) = some (!decide (xs = ys)) := by
  rw [neD_of (n := 9) (by simp only [QL.lay]; exact layAll_map h.lay xs) (by simp only [QL.lay]; exact layAll_map h.lay ys) (by omega), h.eqv_tuple]
theorem EncOk.count {α : Type} [DecidableEq α] {f : α → D} (h : EncOk f) (xs : List α) (a : α) : countD (.list (xs.map f)) [f a] = some (.int (xs.count a : Nat)) := by
  show countL (xs.map f) (f a) = _
  unfold countL
  rw [if_pos ⟨shaped_of (n := 8) (h.lay a) (by omega), shaped_of (n := 9) (by simp only [QL.lay]; exact layAll_map h.lay xs) (by omega)⟩]
  congr 2
  rw [List.countP_map, List.count]
  congr 1
  apply List.countP_congr
  intro x _
  simp [h.eqv]

/-! ### numbers -/
def FdOk (b : Int) : Prop := (0 < b ∧ b.natAbs.log2 < 9000) ∨ (b ≠ 0 ∧ b.natAbs < 1073741824)
instance decFdOk (b : Int) : Decidable (FdOk b) := by unfold FdOk; infer_instance
def MulOk (a b : Int) : Prop := a.natAbs.log2 + b.natAbs.log2 < 1000000
def PowOk (a b : Int) : Prop := 0 ≤ b ∧ b ≤ 1000000 ∧ a.natAbs < 2 ^ 64
/-- the whole part of a quotient, rounded down -/
def pdiv (a b : Int) : Int := if 0 < b then a / b else a.fdiv b
theorem pdiv_pos {a b : Int} (h : 0 < b) : pdiv a b = a / b := if_pos h
theorem fdivI_eq (a b : Int) : fdivI a b = if FdOk b then some (pdiv a b) else none := by
  unfold fdivI
  by_cases h1 : 0 < b ∧ b.natAbs.log2 < 9000
  · have h : FdOk b := Or.inl h1
    rw [if_pos h1, if_pos h, pdiv, if_pos h1.1]
  · rw [if_neg h1]
    by_cases h2 : b ≠ 0 ∧ b.natAbs < 1073741824
    · have h : FdOk b := Or.inr h2
      rw [if_pos h2, if_pos h, pdiv]
      by_cases h3 : 0 < b
      · rw [if_pos h3, Int.fdiv_eq_ediv_of_nonneg _ (by omega)]
      · rw [if_neg h3]
    · have h : ¬ FdOk b := fun z => Or.elim z h1 h2
      rw [if_neg h2, if_neg h]
theorem log2_lt_of {n k : Nat} (h : n < 2 ^ k) (hk : 0 < k) : n.log2 < k := by
  by_cases z : n = 0
  · subst z; simpa using hk
  · exact (Nat.log2_lt z).mpr h
theorem FdOk_of {b : Int} (h : 0 < b) (h2 : b < 1606938044258990275541962092341162602522202993782792835301376) : FdOk b := by
  refine .inl ⟨h, Nat.lt_of_lt_of_le (log2_lt_of (k := 200) (by omega) (by omega)) (by omega)⟩
theorem MulOk_of {a b : Int} (h1 : -1606938044258990275541962092341162602522202993782792835301376 < a) (h2 : a < 1606938044258990275541962092341162602522202993782792835301376) (h3 : -1606938044258990275541962092341162602522202993782792835301376 < b) (h4 : b < 1606938044258990275541962092341162602522202993782792835301376) : MulOk a b := by
  have z1 := log2_lt_of (n := a.natAbs) (k := 200) (by omega) (by omega)
  have z2 := log2_lt_of (n := b.natAbs) (k := 200) (by omega) (by omega)
  unfold MulOk
  omega
section
variable {a b c : Int} {k l : Bool} {xs ys : List D} {P : D → Prop} {Pb : Bool → Prop} {Pl : List D → Prop} {d e : D}
theorem OptP_ite {α : Type} {p : Prop} [Decidable p] {x : α} {P : α → Prop} : OptP (if p then some x else none) P = (p ∧ P x) := by
  by_cases h : p <;> simp [h, OptP]
@[simp ↓] theorem OptP_add : OptP (addD (.int a) (.int b)) P = P (.int (a + b)) := nr (by with_unfolding_all rfl)
@[simp ↓] theorem OptP_addL : OptP (addD (.list xs) (.list ys)) P = (xs.length + ys.length ≤ sizeLine ∧ P (.list (xs ++ ys))) := OptP_ite
@[simp ↓] theorem OptP_addT : OptP (addD (.tuple xs) (.tuple ys)) P = (xs.length + ys.length ≤ sizeLine ∧ P (.tuple (xs ++ ys))) := OptP_ite
@[simp ↓] theorem OptP_iadd : OptP (iaddD (.int a) (.int b)) P = P (.int (a + b)) := nr (by with_unfolding_all rfl)
@[simp ↓] theorem OptP_sub : OptP (int2 subI (.int a) (.int b)) P = P (.int (a - b)) := nr (by with_unfolding_all rfl)
@[simp ↓] theorem OptP_mul : OptP (mulD (.int a) (.int b)) P = (MulOk a b ∧ P (.int (a * b))) := OptP_ite
@[simp ↓] theorem OptP_neg : OptP (negD (.int a)) P = P (.int (-a)) := nr (by with_unfolding_all rfl)
@[simp ↓] theorem OptP_fdiv : OptP (int2 fdivI (.int a) (.int b)) P = (FdOk b ∧ P (.int (pdiv a b))) := by
  show OptP ((fdivI a b).map .int) P = _
  rw [fdivI_eq]
  by_cases h : FdOk b <;> simp [h, OptP]
@[simp ↓] theorem OptP_mod : OptP (int2 modI (.int a) (.int b)) P = (0 < b ∧ P (.int (a % b))) := by
  show OptP ((modI a b).map .int) P = _
  unfold modI
  by_cases h : 0 < b <;> simp [h, OptP]
@[simp ↓] theorem OptP_pow : OptP (int2 powI (.int a) (.int b)) P = (PowOk a b ∧ P (.int (a ^ b.toNat))) := by
  show OptP ((powI a b).map .int) P = _
  unfold powI PowOk
  by_cases h : 0 ≤ b ∧ b ≤ 1000000 ∧ a.natAbs < 2 ^ 64 <;> simp [h, OptP]
@[simp ↓] theorem OptP_lt : OptP (cmpI (fun i j => decide (i < j)) (.int a) (.int b)) Pb = Pb (decide (a < b)) := nr (by with_unfolding_all rfl)
@[simp ↓] theorem OptP_le : OptP (cmpI (fun i j => decide (i ≤ j)) (.int a) (.int b)) Pb = Pb (decide (a ≤ b)) := nr (by with_unfolding_all rfl)
@[simp ↓] theorem OptP_gt : OptP (cmpI (fun i j => decide (j < i)) (.int a) (.int b)) Pb = Pb (decide (b < a)) := nr (by with_unfolding_all rfl)
@[simp ↓] theorem OptP_ge : OptP (cmpI (fun i j => decide (j ≤ i)) (.int a) (.int b)) Pb = Pb (decide (b ≤ a)) := nr (by with_unfolding_all rfl)
theorem eqD_ii : eqD (.int a) (.int b) = some (decide (a = b)) := by rw [eqD_of (n := 0) (by simp [lay]) (by simp [lay]) (by omega)]; simp only [PyData.eqv, beq_dec]
theorem neD_ii : neD (.int a) (.int b) = some (!decide (a = b)) := by rw [neD_of (n := 0) (by simp [lay]) (by simp [lay]) (by omega)]; simp only [PyData.eqv, beq_dec]
theorem eqD_bb : eqD (.bool k) (.bool l) = some (decide (k = l)) := by rw [eqD_of (n := 0) (by simp [lay]) (by simp [lay]) (by omega)]; simp only [PyData.eqv, beq_dec]
theorem neD_bb : neD (.bool k) (.bool l) = some (!decide (k = l)) := by rw [neD_of (n := 0) (by simp [lay]) (by simp [lay]) (by omega)]; simp only [PyData.eqv, beq_dec]
@[simp ↓] theorem OptP_eq_ii : OptP (eqD (.int a) (.int b)) Pb = Pb (decide (a = b)) := opt_of eqD_ii
@[simp ↓] theorem OptP_ne_ii : OptP (neD (.int a) (.int b)) Pb = Pb (!decide (a = b)) := opt_of neD_ii
@[simp ↓] theorem OptP_eq_bb : OptP (eqD (.bool k) (.bool l)) Pb = Pb (decide (k = l)) := opt_of eqD_bb
@[simp ↓] theorem OptP_ne_bb : OptP (neD (.bool k) (.bool l)) Pb = Pb (!decide (k = l)) := opt_of neD_bb
@[simp ↓] theorem OptP_truI : OptP (truD (.int a)) Pb = Pb (a != 0) := nr (by with_unfolding_all rfl)
@[simp ↓] theorem OptP_truL : OptP (truD (.list xs)) Pb = Pb (!xs.isEmpty) := nr (by with_unfolding_all rfl)
@[simp ↓] theorem OptP_truT : OptP (truD (.tuple xs)) Pb = Pb (!xs.isEmpty) := nr (by with_unfolding_all rfl)
@[simp ↓] theorem OptP_truN : OptP (truD .none) Pb = Pb false := nr (by with_unfolding_all rfl)
@[simp ↓] theorem OptP_lenL : OptP (lenD [.list xs]) P = P (.int xs.length) := nr (by with_unfolding_all rfl)
@[simp ↓] theorem OptP_lenT : OptP (lenD [.tuple xs]) P = P (.int xs.length) := nr (by with_unfolding_all rfl)
@[simp ↓] theorem OptP_intI : OptP (intD [.int a]) P = P (.int a) := nr (by with_unfolding_all rfl)
@[simp ↓] theorem OptP_intB : OptP (intD [.bool k]) P = P (.int (if k then 1 else 0)) := nr (by with_unfolding_all rfl)
@[simp ↓] theorem OptP_boolI : OptP (boolD [.int a]) P = P (.bool (a != 0)) := nr (by with_unfolding_all rfl)
@[simp ↓] theorem OptP_boolB : OptP (boolD [.bool k]) P = P (.bool k) := nr (by with_unfolding_all rfl)
@[simp ↓] theorem OptP_listL : OptP (listD [.list xs]) P = P (.list xs) := nr (by with_unfolding_all rfl)
@[simp ↓] theorem OptP_listT : OptP (listD [.tuple xs]) P = P (.list xs) := nr (by with_unfolding_all rfl)
@[simp ↓] theorem OptP_tupleL : OptP (tupleD [.list xs]) P = P (.tuple xs) := nr (by with_unfolding_all rfl)
@[simp ↓] theorem OptP_tupleT : OptP (tupleD [.tuple xs]) P = P (.tuple xs) := nr (by with_unfolding_all rfl)
@[simp ↓] theorem OptP_abs : OptP (absD [.int a]) P = P (.int (if a < 0 then -a else a)) := nr (by with_unfolding_all rfl)
@[simp ↓] theorem OptP_max : OptP (maxD [.int a, .int b]) P = P (.int (max a b)) := by
  refine (show _ = P (.int (if b > a then b else a)) from by with_unfolding_all rfl).trans ?_
  congr 2
  omega
@[simp ↓] theorem OptP_max3 : OptP (maxD [.int a, .int b, .int c]) P = P (.int (max a (max b c))) := by
  refine (show _ = P (.int (if b > a then (if c > b then c else b) else (if c > a then c else a))) from by with_unfolding_all rfl).trans ?_
  congr 2
  omega
@[simp ↓] theorem OptP_min : OptP (minD [.int a, .int b]) P = P (.int (min a b)) := by
  refine (show _ = P (.int (if b < a then b else a)) from by with_unfolding_all rfl).trans ?_
  congr 2
  omega
@[simp ↓] theorem OptP_revL : OptP (revD (.list xs)) P = P (.list xs.reverse) := nr (by with_unfolding_all rfl)
@[simp ↓] theorem OptP_revT : OptP (revD (.tuple xs)) P = P (.tuple xs.reverse) := nr (by with_unfolding_all rfl)
@[simp ↓] theorem OptP_slL {lo hi : Option Int} : OptP (slD (.list xs) lo hi) P = P (.list (cutL xs lo hi)) := nr (by with_unfolding_all rfl)
@[simp ↓] theorem OptP_slT {lo hi : Option Int} : OptP (slD (.tuple xs) lo hi) P = P (.tuple (cutL xs lo hi)) := nr (by with_unfolding_all rfl)
@[simp ↓] theorem OptP_isN : OptP (isD d .none) Pb = Pb (isNone d) := by unfold isD; cases d <;> with_unfolding_all rfl
@[simp ↓] theorem OptP_isnN : OptP (isnD d .none) Pb = Pb (!isNone d) := by unfold isnD; cases d <;> with_unfolding_all rfl
@[simp ↓] theorem OptP_isB : OptP (isD (.bool k) (.bool l)) Pb = Pb (decide (k = l)) := nr (by with_unfolding_all rfl)
@[simp ↓] theorem OptP_isnB : OptP (isnD (.bool k) (.bool l)) Pb = Pb (!decide (k = l)) := nr (by with_unfolding_all rfl)
@[simp ↓] theorem OptP_range1 : OptP (range1D [.int a]) Pl = (small62 a = true ∧ Pl (rangeL 0 a.toNat)) := OptP_ite
@[simp ↓] theorem OptP_range2 : OptP (range2D [.int a, .int b]) Pl = ((small62 a = true ∧ small62 b = true) ∧ Pl (rangeL a (b - a).toNat)) := OptP_ite
@[simp ↓] theorem OptP_enum : OptP (enumD [.list xs]) Pl = Pl (enumL 0 xs) := nr (by with_unfolding_all rfl)
@[simp ↓] theorem OptP_zipL : OptP (zipD [.list xs, .list ys]) Pl = Pl (zipL xs ys) := nr (by with_unfolding_all rfl)
@[simp ↓] theorem OptP_zipT : OptP (zipD [.tuple xs, .tuple ys]) Pl = Pl (zipL xs ys) := nr (by with_unfolding_all rfl)
theorem small62_of (h1 : -4611686018427387904 ≤ a) (h2 : a < 4611686018427387904) : small62 a = true := decide_eq_true ⟨by omega, by omega⟩
@[simp ↓] theorem meth_list {α : Type} {Q : α} {R : α} : (if tyNm (.list xs) = "list" then Q else R) = Q := if_pos rfl
@[simp ↓] theorem OptP_ixL : OptP (ixD (.list xs) (.int a)) P = OptP (atI xs a) P := nr (by with_unfolding_all rfl)
@[simp ↓] theorem OptP_ixT : OptP (ixD (.tuple xs) (.int a)) P = OptP (atI xs a) P := nr (by with_unfolding_all rfl)
theorem atI_nat {α : Type} {xs : List α} {n : Nat} : atI xs (n : Int) = xs[n]? := by
  unfold atI ixN
  rw [if_pos (Int.natCast_nonneg n)]
  by_cases h : (n : Int) < xs.length
  · rw [if_pos h]; with_unfolding_all rfl
  · rw [if_neg h, List.getElem?_eq_none (by omega)]; with_unfolding_all rfl
theorem atI_nn {α : Type} {xs : List α} {i : Int} (h : 0 ≤ i) : atI xs i = xs[i.toNat]? := by
  obtain ⟨n, rfl⟩ := Int.eq_ofNat_of_zero_le h
  exact atI_nat
theorem atI_neg {α : Type} {xs : List α} {i : Int} (h : i < 0) (h2 : -(xs.length : Int) ≤ i) : atI xs i = xs[(i + xs.length).toNat]? := by
  unfold atI ixN
  rw [if_neg (by omega), if_pos h2]; with_unfolding_all rfl
theorem atI_last {α : Type} {xs : List α} {x : α} : atI (xs ++ [x]) (-1) = some x := by
  rw [atI_neg (by omega) (by simp; omega), show (-1 + ((xs ++ [x]).length : Int)).toNat = xs.length by simp; omega]
  simp

@[simp ↓] theorem OptP_ty_int_int : OptP (isTy "int" (.int a)) P = P (.bool true) := by
  rw [show isTy "int" (.int a) = some (.bool true) by unfold isTy tyNm; rfl]; with_unfolding_all rfl
@[simp ↓] theorem OptP_ty_int_bool : OptP (isTy "int" (.bool k)) P = P (.bool true) := by
  rw [show isTy "int" (.bool k) = some (.bool true) by unfold isTy tyNm; rfl]; with_unfolding_all rfl
@[simp ↓] theorem OptP_ty_int_tuple : OptP (isTy "int" (.tuple xs)) P = P (.bool false) := by
  rw [show isTy "int" (.tuple xs) = some (.bool false) by unfold isTy tyNm; rfl]; with_unfolding_all rfl
@[simp ↓] theorem OptP_ty_int_list : OptP (isTy "int" (.list xs)) P = P (.bool false) := by
  rw [show isTy "int" (.list xs) = some (.bool false) by unfold isTy tyNm; rfl]; with_unfolding_all rfl
@[simp ↓] theorem OptP_ty_int_none : OptP (isTy "int" (.none)) P = P (.bool false) := by
  rw [show isTy "int" (.none) = some (.bool false) by unfold isTy tyNm; rfl]; with_unfolding_all rfl
@[simp ↓] theorem OptP_ty_bool_int : OptP (isTy "bool" (.int a)) P = P (.bool false) := by
  rw [show isTy "bool" (.int a) = some (.bool false) by unfold isTy tyNm; rfl]; with_unfolding_all rfl
@[simp ↓] theorem OptP_ty_bool_bool : OptP (isTy "bool" (.bool k)) P = P (.bool true) := by
  rw [show isTy "bool" (.bool k) = some (.bool true) by unfold isTy tyNm; rfl]; with_unfolding_all rfl
@[simp ↓] theorem OptP_ty_bool_tuple : OptP (isTy "bool" (.tuple xs)) P = P (.bool false) := by
  rw [show isTy "bool" (.tuple xs) = some (.bool false) by unfold isTy tyNm; rfl]; with_unfolding_all rfl
@[simp ↓] theorem OptP_ty_bool_list : OptP (isTy "bool" (.list xs)) P = P (.bool false) := by
  rw [show isTy "bool" (.list xs) = some (.bool false) by unfold isTy tyNm; rfl]; with_unfolding_all rfl
@[simp ↓] theorem OptP_ty_bool_none : OptP (isTy "bool" (.none)) P = P (.bool false) := by
  rw [show isTy "bool" (.none) = some (.bool false) by unfold isTy tyNm; rfl]; with_unfolding_all rfl
@[simp ↓] theorem OptP_ty_tuple_int : OptP (isTy "tuple" (.int a)) P = P (.bool false) := by
  rw [show isTy "tuple" (.int a) = some (.bool false) by unfold isTy tyNm; rfl]; with_unfolding_all rfl
@[simp ↓] theorem OptP_ty_tuple_bool : OptP (isTy "tuple" (.bool k)) P = P (.bool false) := by
  rw [show isTy "tuple" (.bool k) = some (.bool false) by unfold isTy tyNm; rfl]; with_unfolding_all rfl
@[simp ↓] theorem OptP_ty_tuple_tuple : OptP (isTy "tuple" (.tuple xs)) P = P (.bool true) := by
  rw [show isTy "tuple" (.tuple xs) = some (.bool true) by unfold isTy tyNm; rfl]; with_unfolding_all rfl
@[simp ↓] theorem OptP_ty_tuple_list : OptP (isTy "tuple" (.list xs)) P = P (.bool false) := by
  rw [show isTy "tuple" (.list xs) = some (.bool false) by unfold isTy tyNm; rfl]; with_unfolding_all rfl
@[simp ↓] theorem OptP_ty_tuple_none : OptP (isTy "tuple" (.none)) P = P (.bool false) := by
  rw [show isTy "tuple" (.none) = some (.bool false) by unfold isTy tyNm; rfl]; with_unfolding_all rfl
@[simp ↓] theorem OptP_ty_list_int : OptP (isTy "list" (.int a)) P = P (.bool false) := by
  rw [show isTy "list" (.int a) = some (.bool false) by unfold isTy tyNm; rfl]; with_unfolding_all rfl
@[simp ↓] theorem OptP_ty_list_bool : OptP (isTy "list" (.bool k)) P = P (.bool false) := by
  rw [show isTy "list" (.bool k) = some (.bool false) by unfold isTy tyNm; rfl]; with_unfolding_all rfl
@[simp ↓] theorem OptP_ty_list_tuple : OptP (isTy "list" (.tuple xs)) P = P (.bool false) := by
  rw [show isTy "list" (.tuple xs) = some (.bool false) by unfold isTy tyNm; rfl]; with_unfolding_all rfl
@[simp ↓] theorem OptP_ty_list_list : OptP (isTy "list" (.list xs)) P = P (.bool true) := by
  rw [show isTy "list" (.list xs) = some (.bool true) by unfold isTy tyNm; rfl]; with_unfolding_all rfl
@[simp ↓] theorem OptP_ty_list_none : OptP (isTy "list" (.none)) P = P (.bool false) := by
  rw [show isTy "list" (.none) = some (.bool false) by unfold isTy tyNm; rfl]; with_unfolding_all rfl
@[simp ↓] theorem OptP_ty_str_int : OptP (isTy "str" (.int a)) P = P (.bool false) := by
  rw [show isTy "str" (.int a) = some (.bool false) by unfold isTy tyNm; rfl]; with_unfolding_all rfl
@[simp ↓] theorem OptP_ty_str_bool : OptP (isTy "str" (.bool k)) P = P (.bool false) := by
  rw [show isTy "str" (.bool k) = some (.bool false) by unfold isTy tyNm; rfl]; with_unfolding_all rfl
@[simp ↓] theorem OptP_ty_str_tuple : OptP (isTy "str" (.tuple xs)) P = P (.bool false) := by
  rw [show isTy "str" (.tuple xs) = some (.bool false) by unfold isTy tyNm; rfl]; with_unfolding_all rfl
@[simp ↓] theorem OptP_ty_str_list : OptP (isTy "str" (.list xs)) P = P (.bool false) := by
  rw [show isTy "str" (.list xs) = some (.bool false) by unfold isTy tyNm; rfl]; with_unfolding_all rfl
@[simp ↓] theorem OptP_ty_str_none : OptP (isTy "str" (.none)) P = P (.bool false) := by
  rw [show isTy "str" (.none) = some (.bool false) by unfold isTy tyNm; rfl]; with_unfolding_all rfl
@[simp ↓] theorem OptP_at0 {α : Type} {P : α → Prop} {x0 : α} {rr : List α} : OptP (atI (x0 :: rr) 0) P = P x0 := by
  rw [show atI (x0 :: rr) (0 : Int) = some x0 from (atI_nat (n := 0)).trans (by simp)]; with_unfolding_all rfl
@[simp ↓] theorem OptP_at1 {α : Type} {P : α → Prop} {x0 x1 : α} {rr : List α} : OptP (atI (x0 :: x1 :: rr) 1) P = P x1 := by
  rw [show atI (x0 :: x1 :: rr) (1 : Int) = some x1 from (atI_nat (n := 1)).trans (by simp)]; with_unfolding_all rfl
@[simp ↓] theorem OptP_at2 {α : Type} {P : α → Prop} {x0 x1 x2 : α} {rr : List α} : OptP (atI (x0 :: x1 :: x2 :: rr) 2) P = P x2 := by
  rw [show atI (x0 :: x1 :: x2 :: rr) (2 : Int) = some x2 from (atI_nat (n := 2)).trans (by simp)]; with_unfolding_all rfl
@[simp ↓] theorem OptP_at3 {α : Type} {P : α → Prop} {x0 x1 x2 x3 : α} {rr : List α} : OptP (atI (x0 :: x1 :: x2 :: x3 :: rr) 3) P = P x3 := by
  rw [show atI (x0 :: x1 :: x2 :: x3 :: rr) (3 : Int) = some x3 from (atI_nat (n := 3)).trans (by simp)]; with_unfolding_all rfl
@[simp ↓] theorem OptP_at4 {α : Type} {P : α → Prop} {x0 x1 x2 x3 x4 : α} {rr : List α} : OptP (atI (x0 :: x1 :: x2 :: x3 :: x4 :: rr) 4) P = P x4 := by
  rw [show atI (x0 :: x1 :: x2 :: x3 :: x4 :: rr) (4 : Int) = some x4 from (atI_nat (n := 4)).trans (by simp)]; with_unfolding_all rfl
@[simp ↓] theorem OptP_at5 {α : Type} {P : α → Prop} {x0 x1 x2 x3 x4 x5 : α} {rr : List α} : OptP (atI (x0 :: x1 :: x2 :: x3 :: x4 :: x5 :: rr) 5) P = P x5 := by
  rw [show atI (x0 :: x1 :: x2 :: x3 :: x4 :: x5 :: rr) (5 : Int) = some x5 from (atI_nat (n := 5)).trans (by simp)]; with_unfolding_all rfl
@[simp ↓] theorem OptP_at6 {α : Type} {P : α → Prop} {x0 x1 x2 x3 x4 x5 x6 : α} {rr : List α} : OptP (atI (x0 :: x1 :: x2 :: x3 :: x4 :: x5 :: x6 :: rr) 6) P = P x6 := by
  rw [show atI (x0 :: x1 :: x2 :: x3 :: x4 :: x5 :: x6 :: rr) (6 : Int) = some x6 from (atI_nat (n := 6)).trans (by simp)]; with_unfolding_all rfl
@[simp ↓] theorem OptP_at7 {α : Type} {P : α → Prop} {x0 x1 x2 x3 x4 x5 x6 x7 : α} {rr : List α} : OptP (atI (x0 :: x1 :: x2 :: x3 :: x4 :: x5 :: x6 :: x7 :: rr) 7) P = P x7 := by
  rw [show atI (x0 :: x1 :: x2 :: x3 :: x4 :: x5 :: x6 :: x7 :: rr) (7 : Int) = some x7 from (atI_nat (n := 7)).trans (by simp)]; with_unfolding_all rfl
@[simp ↓] theorem OptP_ixN0 {α : Type} {P : Nat → Prop} {x0 : α} {rr : List α} : OptP (ixN (x0 :: rr).length 0) P = P 0 := by
  rw [show ixN (x0 :: rr).length (0 : Int) = some 0 by unfold ixN; rw [if_pos (by omega), if_pos (by simp <;> omega)]; rfl]; with_unfolding_all rfl
@[simp ↓] theorem OptP_ixN1 {α : Type} {P : Nat → Prop} {x0 x1 : α} {rr : List α} : OptP (ixN (x0 :: x1 :: rr).length 1) P = P 1 := by
  rw [show ixN (x0 :: x1 :: rr).length (1 : Int) = some 1 by unfold ixN; rw [if_pos (by omega), if_pos (by simp <;> omega)]; rfl]; with_unfolding_all rfl
@[simp ↓] theorem OptP_ixN2 {α : Type} {P : Nat → Prop} {x0 x1 x2 : α} {rr : List α} : OptP (ixN (x0 :: x1 :: x2 :: rr).length 2) P = P 2 := by
  rw [show ixN (x0 :: x1 :: x2 :: rr).length (2 : Int) = some 2 by unfold ixN; rw [if_pos (by omega), if_pos (by simp <;> omega)]; rfl]; with_unfolding_all rfl
end
/-! ### defs -/
def RetP (o : Out) (P : D → Prop) : Prop := match o with
  | .nx => P .none
  | .ret d => P d
  | _ => False
def RetO (o : Out) (P : List D → Prop) : Prop := match o with
  | .rto es => P es
  | _ => False
def RetM (o : Out) (ρ : Rho) (P : D × List D → Prop) : Prop := match o with
  | .nx => MuP ρ 0 fun cs => P (.none, cs)
  | .ret d => MuP ρ 0 fun cs => P (d, cs)
  | _ => False
section
variable {S : M Out} {m : Nat} {ds es : List D} {P : D → Prop} {Pl : List D → Prop} {Pm : D × List D → Prop} {E : Ex → Prop} {ρ : Rho} {d : D}
@[simp ↓] theorem RetP_nx : RetP .nx P = P .none := nr (by with_unfolding_all rfl)
@[simp ↓] theorem RetP_ret : RetP (.ret d) P = P d := nr (by with_unfolding_all rfl)
@[simp ↓] theorem RetO_rto : RetO (.rto es) Pl = Pl es := nr (by with_unfolding_all rfl)
@[simp ↓] theorem RetM_nx : RetM .nx ρ Pm = MuP ρ 0 fun cs => Pm (.none, cs) := nr (by with_unfolding_all rfl)
@[simp ↓] theorem RetM_ret : RetM (.ret d) ρ Pm = MuP ρ 0 fun cs => Pm (d, cs) := nr (by with_unfolding_all rfl)
theorem lift_runP (h : rho0 m ds = ρ) : LiftP (runP S m ds) P E = wp S ρ (fun o _ => RetP o P) E := by
  subst h
  unfold runP wp
  cases S (rho0 m ds) with
  | stuck => with_unfolding_all rfl
  | err _ => with_unfolding_all rfl
  | ok z =>
    obtain ⟨o, ρ1⟩ := z
    cases o <;> with_unfolding_all rfl
theorem lift_runO (h : rho0 m ds = ρ) : LiftP (runO S m ds) Pl E = wp S ρ (fun o _ => RetO o Pl) E := by
  subst h
  unfold runO wp
  cases S (rho0 m ds) with
  | stuck => with_unfolding_all rfl
  | err _ => with_unfolding_all rfl
  | ok z =>
    obtain ⟨o, ρ1⟩ := z
    cases o <;> with_unfolding_all rfl
theorem lift_runM (h : rhoM m es ds = ρ) : LiftP (runM S m es ds) Pm E = wp S ρ (fun o ρ1 => RetM o ρ1 Pm) E := by
  subst h
  unfold runM wp
  cases S (rhoM m es ds) with
  | stuck => with_unfolding_all rfl
  | err _ => with_unfolding_all rfl
  | ok z =>
    obtain ⟨o, ρ1⟩ := z
    cases o with
    | nx =>
      show _ = MuP ρ1 0 _
      unfold MuP
      dsimp only
      cases ρ1[0]? with
      | none => with_unfolding_all rfl
      | some sl => cases sl <;> with_unfolding_all rfl
    | ret d =>
      show _ = MuP ρ1 0 _
      unfold MuP
      dsimp only
      cases ρ1[0]? with
      | none => with_unfolding_all rfl
      | some sl => cases sl <;> with_unfolding_all rfl
    | bk => with_unfolding_all rfl
    | ct => with_unfolding_all rfl
    | rto _ => with_unfolding_all rfl
end
theorem ok_of {α : Type} {r : R α} {v : α} (h : LiftP r (fun z => z = v) fun _ => False) : r = .ok v := by
  unfold LiftP at h
  cases r with
  | ok x => exact congrArg R.ok h
  | err x => exact h.elim
  | stuck => exact h.elim
theorem err_of {α : Type} {r : R α} {x : Ex} (h : LiftP r (fun _ => False) fun y => y = x) : r = .err x := by
  unfold LiftP at h
  cases r with
  | ok x => exact h.elim
  | err x => exact congrArg R.err h
  | stuck => exact h.elim
theorem ex_of {α : Type} {r : R α} {P : α → Prop} (h : LiftP r P fun _ => False) : ∃ v, r = .ok v ∧ P v := by
  unfold LiftP at h
  cases r with
  | ok x => exact ⟨x, rfl, h⟩
  | err x => exact h.elim
  | stuck => exact h.elim
theorem lift_ex {α : Type} {r : R α} {P Q : α → Prop} {E : Ex → Prop} (h : ∃ v, r = .ok v ∧ P v) (hq : ∀ v, P v → Q v) : LiftP r Q E := by
  obtain ⟨v, rfl, hp⟩ := h
  unfold LiftP
  exact hq v hp

/-! ### loops -/
def NextP {β : Type} (st : β → Rho) (I : β → Prop) (ρ : Rho) : Prop := ∃ y, ρ = st y ∧ I y
theorem nxq {β : Type} {st : β → Rho} {I : β → Prop} {ρ : Rho} (y : β) (h : ρ = st y) (h2 : I y) : NextP st I ρ := ⟨y, h, h2⟩
section
variable {α β : Type} {g : D → M Unit} {S : M Out} {t : M Bool} {Q : Out → Rho → Prop} {E : Ex → Prop}
/-- a loop over typed items: st y the slots at the turn's begin, I what holds with the items that are left -/
theorem wp_loop (enc : α → D) (st : β → Rho) (I : List α → β → Prop) (hend : ∀ y, I [] y → Q .nx (st y))
    (step : ∀ x xs y, I (x :: xs) y → wp (g (enc x)) (st y) (fun _ ρ1 => wp S ρ1 (fun o ρ2 => TurnP o ρ2 (NextP st (I xs)) Q) E) E) :
    ∀ (xs : List α) (y : β), I xs y → wp (loopS g S (xs.map enc)) (st y) Q E
  | [], y, h => by
    rw [List.map_nil, wp_loop0]
    exact hend y h
  | x :: xs, y, h => by
    rw [List.map_cons, wp_loop1]
    refine wp_mono (step x xs y h) (fun _ ρ1 h1 => wp_mono h1 (fun o ρ2 h2 => ?_) fun _ z => z) fun _ z => z
    cases o with
    | nx =>
      obtain ⟨y', rfl, h3⟩ := h2
      exact wp_loop enc st I hend step xs y' h3
    | ct =>
      obtain ⟨y', rfl, h3⟩ := h2
      exact wp_loop enc st I hend step xs y' h3
    | bk => exact h2
    | ret d => exact h2
    | rto ds => exact h2
/-- a cut between two statements -/
theorem wp_cut {S1 S2 : M Out} {ρ : Rho} (st : β → Rho) (I : β → Prop) (h1 : wp S1 ρ (fun o ρ1 => NxP o ρ1 (NextP st I ρ1) Q) E) (h2 : ∀ y, I y → wp S2 (st y) Q E) : wp (seqS S1 S2) ρ Q E := by
  rw [wp_seqS]
  refine wp_mono h1 (fun o ρ1 z => ?_) fun _ z => z
  cases o with
  | nx =>
    obtain ⟨y, rfl, h⟩ := z
    exact h2 y h
  | ct => exact z
  | bk => exact z
  | ret d => exact z
  | rto ds => exact z
/-- a loop by its turns' numbers -/
theorem wp_count (f : Nat → D) (n : Nat) (st : β → Rho) (I : Nat → β → Prop) (hend : ∀ y, I n y → Q .nx (st y))
    (step : ∀ k y, k < n → I k y → wp (g (f k)) (st y) (fun _ ρ1 => wp S ρ1 (fun o ρ2 => TurnP o ρ2 (NextP st (I (k + 1))) Q) E) E)
    (y : β) (h : I 0 y) : wp (loopS g S ((List.range n).map f)) (st y) Q E := by
  refine wp_loop f st (fun xs y => ∃ k, xs = List.range' k xs.length ∧ k + xs.length = n ∧ I k y) ?_ ?_ (List.range n) y ⟨0, by rw [List.length_range, List.range_eq_range'], by simp, h⟩
  · intro y ⟨k, _, h2, h3⟩
    have e : k = n := by simpa using h2
    subst e
    exact hend y h3
  · intro x xs y ⟨k, h1, h2, h3⟩
    rw [List.length_cons, List.range'_succ] at h1
    obtain ⟨rfl, h1⟩ := List.cons.inj h1
    refine wp_mono (step x y (by simp at h2; omega) h3) (fun _ ρ1 q => wp_mono q (fun o ρ2 q => ?_) fun _ z => z) fun _ z => z
    have go : NextP st (I (x + 1)) ρ2 → NextP st (fun y => ∃ k, xs = List.range' k xs.length ∧ k + xs.length = n ∧ I k y) ρ2 := fun ⟨y', e, h⟩ => ⟨y', e, x + 1, h1, by simp at h2; omega, h⟩
    cases o with
    | nx => exact go q
    | ct => exact go q
    | bk => exact q
    | ret d => exact q
    | rto ds => exact q
theorem wp_whileF (st : β → Rho) (I : β → Prop) (μ : β → Nat)
    (step : ∀ y, I y → wp t (st y) (fun k ρ1 => BoolP k (wp S ρ1 (fun o ρ2 => TurnP o ρ2 (NextP st fun y' => I y' ∧ μ y' < μ y) Q) E) (Q .nx ρ1)) E) :
    ∀ (n : Nat) (y : β), I y → μ y < n → wp (whileF t S n) (st y) Q E
  | 0, _, _, h => absurd h (Nat.not_lt_zero _)
  | n + 1, y, hI, h => by
    rw [wp_while1]
    refine wp_mono (step y hI) (fun k ρ1 h1 => ?_) fun _ z => z
    cases k with
    | false =>
      rw [BoolP_false] at h1 ⊢
      exact h1
    | true =>
      rw [BoolP_true] at h1 ⊢
      refine wp_mono h1 (fun o ρ2 h2 => ?_) fun _ z => z
      cases o with
      | nx =>
        obtain ⟨y', rfl, h3, h4⟩ := h2
        exact wp_whileF st I μ step n y' h3 (by omega)
      | ct =>
        obtain ⟨y', rfl, h3, h4⟩ := h2
        exact wp_whileF st I μ step n y' h3 (by omega)
      | bk => exact h2
      | ret d => exact h2
      | rto ds => exact h2
theorem wp_while (st : β → Rho) (I : β → Prop) (μ : β → Nat) (y : β) (h0 : I y) (hm : μ y < 10 ^ 40)
    (step : ∀ y, I y → wp t (st y) (fun k ρ1 => BoolP k (wp S ρ1 (fun o ρ2 => TurnP o ρ2 (NextP st fun y' => I y' ∧ μ y' < μ y) Q) E) (Q .nx ρ1)) E) :
    wp (whileS t S) (st y) Q E := by
  unfold whileS
  exact wp_whileF st I μ step fuel y h0 (by unfold fuel; exact hm)
end
/-! ### comprehensions -/
@[irreducible] def CompP (g : D → M Unit) (c : M Bool) (e : M D) (vs : List Nat) (ds : List D) (ρ : Rho) (Q : D → Rho → Prop) : Prop := wp (compM (M.pure ds) g c e vs) ρ Q fun _ => False
section
variable {α : Type} {it : M (List D)} {g : D → M Unit} {c : M Bool} {e : M D} {vs : List Nat} {ρ ρw : Rho} {Q : D → Rho → Prop} {E : Ex → Prop}
theorem compM_noerr {ds : List D} {x : Ex} : compM (M.pure ds) g c e vs ρ ≠ .err x := by
  unfold compM M.bind M.pure
  dsimp only
  split
  · split <;> exact fun z => by cases z
  · exact fun z => by cases z
@[simp ↓] theorem wp_compM : wp (compM it g c e vs) ρ Q E = wp it ρ (fun ds ρ1 => CompP g c e vs ds ρ1 Q) E := by
  refine wpb fun ds ρ1 => ?_
  have n : ∀ x, compM (M.pure ds) g c e vs ρ1 ≠ .err x := fun x => compM_noerr
  unfold CompP
  refine (show _ = wp (compM (M.pure ds) g c e vs) ρ1 Q E from by with_unfolding_all rfl).trans ?_
  unfold wp
  cases q : compM (M.pure ds) g c e vs ρ1 with
  | stuck => with_unfolding_all rfl
  | ok z => with_unfolding_all rfl
  | err x => exact absurd q (n x)
theorem wipeM_ok {ρ : Rho} (h1 : noMu ρ vs = true) (h2 : wipeR ρ vs = ρw) : wipeM vs ρ = .ok ((), ρw) := by
  unfold wipeM
  rw [if_pos h1, h2]
theorem compL_enc (enc : α → D) (p : α → Bool) (h : α → D) : ∀ xs : List α, (∀ x ∈ xs, wp (g (enc x)) ρw (fun _ ρ1 => wp c ρ1 (fun k ρ2 => k = p x ∧ BoolP k (wp e ρ2 (fun z ρ3 => z = h x ∧ noMu ρ3 vs = true ∧ wipeR ρ3 vs = ρw) fun _ => False) (noMu ρ2 vs = true ∧ wipeR ρ2 vs = ρw)) fun _ => False) fun _ => False) →
    compL g c e vs (xs.map enc) ρw = .ok ((xs.filter p).map h, ρw)
  | [], _ => rfl
  | x :: xs, H => by
    have ih := compL_enc enc p h xs fun y hy => H y (List.mem_cons_of_mem _ hy)
    have hx := H x (List.mem_cons_self ..)
    rw [List.map_cons]
    show M.bind (g (enc x)) (fun _ => M.bind c fun k => if k = true then M.bind e fun z => M.bind (wipeM vs) fun _ => M.bind (compL g c e vs (xs.map enc)) fun zs => M.pure (z :: zs) else M.bind (wipeM vs) fun _ => compL g c e vs (xs.map enc)) ρw = _
    unfold wp at hx
    unfold M.bind
    cases q1 : g (enc x) ρw with
    | stuck => rw [q1] at hx; exact hx.elim
    | err _ => rw [q1] at hx; exact hx.elim
    | ok z1 =>
      obtain ⟨_, ρ1⟩ := z1
      rw [q1] at hx
      dsimp only at hx ⊢
      cases q2 : c ρ1 with
      | stuck => rw [q2] at hx; exact hx.elim
      | err _ => rw [q2] at hx; exact hx.elim
      | ok z2 =>
        obtain ⟨k, ρ2⟩ := z2
        rw [q2] at hx
        dsimp only at hx ⊢
        obtain ⟨hk, hx⟩ := hx
        cases k with
        | false =>
          rw [BoolP_false] at hx
          show M.bind (wipeM vs) (fun _ => compL g c e vs (xs.map enc)) ρ2 = _
          unfold M.bind
          rw [wipeM_ok hx.1 hx.2]
          dsimp only
          rw [ih, List.filter_cons, ← hk]
          with_unfolding_all rfl
        | true =>
          rw [BoolP_true] at hx
          show M.bind e (fun z => M.bind (wipeM vs) fun _ => M.bind (compL g c e vs (xs.map enc)) fun zs => M.pure (z :: zs)) ρ2 = _
          unfold M.bind
          cases q3 : e ρ2 with
          | stuck => rw [q3] at hx; exact hx.elim
          | err _ => rw [q3] at hx; exact hx.elim
          | ok z3 =>
            obtain ⟨z, ρ3⟩ := z3
            rw [q3] at hx
            dsimp only at hx ⊢
            rw [wipeM_ok hx.2.1 hx.2.2]
            dsimp only
            rw [ih, List.filter_cons, ← hk, hx.1]
            with_unfolding_all rfl
theorem comp_flt (enc : α → D) (p : α → Bool) (h : α → D) (xs : List α) (ρw : Rho) (hw : wipeR ρ vs = ρw) (hr : restR ρ ρw vs = ρ) (hm : noMu ρ vs = true) (hl : xs.length ≤ sizeLine)
    (H : ∀ x ∈ xs, wp (g (enc x)) ρw (fun _ ρ1 => wp c ρ1 (fun k ρ2 => k = p x ∧ BoolP k (wp e ρ2 (fun z ρ3 => z = h x ∧ noMu ρ3 vs = true ∧ wipeR ρ3 vs = ρw) fun _ => False) (noMu ρ2 vs = true ∧ wipeR ρ2 vs = ρw)) fun _ => False) fun _ => False)
    (hq : Q (.list ((xs.filter p).map h)) ρ) : CompP g c e vs (xs.map enc) ρ Q := by
  unfold CompP wp compM M.bind M.pure
  dsimp only
  rw [if_pos ⟨hm, by rw [List.length_map]; exact hl⟩, hw, compL_enc enc p h xs H]
  dsimp only
  rw [hr]
  exact hq
/-- without a condition -/
theorem comp_all (enc : α → D) (h : α → D) (xs : List α) (ρw : Rho) (hw : wipeR ρ vs = ρw) (hr : restR ρ ρw vs = ρ) (hm : noMu ρ vs = true) (hl : xs.length ≤ sizeLine)
    (H : ∀ x ∈ xs, wp (g (enc x)) ρw (fun _ ρ1 => wp e ρ1 (fun z ρ3 => z = h x ∧ noMu ρ3 vs = true ∧ wipeR ρ3 vs = ρw) fun _ => False) fun _ => False)
    (hq : Q (.list (xs.map h)) ρ) : CompP g (M.pure true) e vs (xs.map enc) ρ Q := by
  refine comp_flt enc (fun _ => true) h xs ρw hw hr hm hl (fun x hx => ?_) (by rw [List.filter_eq_self.mpr (fun _ _ => rfl)]; exact hq)
  exact wp_mono (H x hx) (fun _ ρ1 z => by rw [wp_pure]; exact ⟨rfl, by rw [BoolP_true]; exact z⟩) fun _ z => z
end
theorem len_1 {ρ : Rho} (h : ρ.length = 1) : ∃ a0, ρ = [a0] := by
  match ρ, h with
  | [a0], _ => exact ⟨a0, rfl⟩
theorem len_2 {ρ : Rho} (h : ρ.length = 2) : ∃ a0 a1, ρ = [a0, a1] := by
  match ρ, h with
  | [a0, a1], _ => exact ⟨a0, a1, rfl⟩
theorem len_3 {ρ : Rho} (h : ρ.length = 3) : ∃ a0 a1 a2, ρ = [a0, a1, a2] := by
  match ρ, h with
  | [a0, a1, a2], _ => exact ⟨a0, a1, a2, rfl⟩
theorem len_4 {ρ : Rho} (h : ρ.length = 4) : ∃ a0 a1 a2 a3, ρ = [a0, a1, a2, a3] := by
  match ρ, h with
  | [a0, a1, a2, a3], _ => exact ⟨a0, a1, a2, a3, rfl⟩
theorem len_5 {ρ : Rho} (h : ρ.length = 5) : ∃ a0 a1 a2 a3 a4, ρ = [a0, a1, a2, a3, a4] := by
  match ρ, h with
  | [a0, a1, a2, a3, a4], _ => exact ⟨a0, a1, a2, a3, a4, rfl⟩
theorem len_6 {ρ : Rho} (h : ρ.length = 6) : ∃ a0 a1 a2 a3 a4 a5, ρ = [a0, a1, a2, a3, a4, a5] := by
  match ρ, h with
  | [a0, a1, a2, a3, a4, a5], _ => exact ⟨a0, a1, a2, a3, a4, a5, rfl⟩
theorem len_7 {ρ : Rho} (h : ρ.length = 7) : ∃ a0 a1 a2 a3 a4 a5 a6, ρ = [a0, a1, a2, a3, a4, a5, a6] := by
  match ρ, h with
  | [a0, a1, a2, a3, a4, a5, a6], _ => exact ⟨a0, a1, a2, a3, a4, a5, a6, rfl⟩
theorem len_8 {ρ : Rho} (h : ρ.length = 8) : ∃ a0 a1 a2 a3 a4 a5 a6 a7, ρ = [a0, a1, a2, a3, a4, a5, a6, a7] := by
  match ρ, h with
  | [a0, a1, a2, a3, a4, a5, a6, a7], _ => exact ⟨a0, a1, a2, a3, a4, a5, a6, a7, rfl⟩
theorem len_9 {ρ : Rho} (h : ρ.length = 9) : ∃ a0 a1 a2 a3 a4 a5 a6 a7 a8, ρ = [a0, a1, a2, a3, a4, a5, a6, a7, a8] := by
  match ρ, h with
  | [a0, a1, a2, a3, a4, a5, a6, a7, a8], _ => exact ⟨a0, a1, a2, a3, a4, a5, a6, a7, a8, rfl⟩
theorem len_10 {ρ : Rho} (h : ρ.length = 10) : ∃ a0 a1 a2 a3 a4 a5 a6 a7 a8 a9, ρ = [a0, a1, a2, a3, a4, a5, a6, a7, a8, a9] := by
  match ρ, h with
  | [a0, a1, a2, a3, a4, a5, a6, a7, a8, a9], _ => exact ⟨a0, a1, a2, a3, a4, a5, a6, a7, a8, a9, rfl⟩
theorem len_11 {ρ : Rho} (h : ρ.length = 11) : ∃ a0 a1 a2 a3 a4 a5 a6 a7 a8 a9 a10, ρ = [a0, a1, a2, a3, a4, a5, a6, a7, a8, a9, a10] := by
  match ρ, h with
  | [a0, a1, a2, a3, a4, a5, a6, a7, a8, a9, a10], _ => exact ⟨a0, a1, a2, a3, a4, a5, a6, a7, a8, a9, a10, rfl⟩
theorem len_12 {ρ : Rho} (h : ρ.length = 12) : ∃ a0 a1 a2 a3 a4 a5 a6 a7 a8 a9 a10 a11, ρ = [a0, a1, a2, a3, a4, a5, a6, a7, a8, a9, a10, a11] := by
  match ρ, h with
  | [a0, a1, a2, a3, a4, a5, a6, a7, a8, a9, a10, a11], _ => exact ⟨a0, a1, a2, a3, a4, a5, a6, a7, a8, a9, a10, a11, rfl⟩
theorem len_13 {ρ : Rho} (h : ρ.length = 13) : ∃ a0 a1 a2 a3 a4 a5 a6 a7 a8 a9 a10 a11 a12, ρ = [a0, a1, a2, a3, a4, a5, a6, a7, a8, a9, a10, a11, a12] := by
  match ρ, h with
  | [a0, a1, a2, a3, a4, a5, a6, a7, a8, a9, a10, a11, a12], _ => exact ⟨a0, a1, a2, a3, a4, a5, a6, a7, a8, a9, a10, a11, a12, rfl⟩
theorem len_14 {ρ : Rho} (h : ρ.length = 14) : ∃ a0 a1 a2 a3 a4 a5 a6 a7 a8 a9 a10 a11 a12 a13, ρ = [a0, a1, a2, a3, a4, a5, a6, a7, a8, a9, a10, a11, a12, a13] := by
  match ρ, h with
  | [a0, a1, a2, a3, a4, a5, a6, a7, a8, a9, a10, a11, a12, a13], _ => exact ⟨a0, a1, a2, a3, a4, a5, a6, a7, a8, a9, a10, a11, a12, a13, rfl⟩
theorem len_15 {ρ : Rho} (h : ρ.length = 15) : ∃ a0 a1 a2 a3 a4 a5 a6 a7 a8 a9 a10 a11 a12 a13 a14, ρ = [a0, a1, a2, a3, a4, a5, a6, a7, a8, a9, a10, a11, a12, a13, a14] := by
  match ρ, h with
  | [a0, a1, a2, a3, a4, a5, a6, a7, a8, a9, a10, a11, a12, a13, a14], _ => exact ⟨a0, a1, a2, a3, a4, a5, a6, a7, a8, a9, a10, a11, a12, a13, a14, rfl⟩
theorem len_16 {ρ : Rho} (h : ρ.length = 16) : ∃ a0 a1 a2 a3 a4 a5 a6 a7 a8 a9 a10 a11 a12 a13 a14 a15, ρ = [a0, a1, a2, a3, a4, a5, a6, a7, a8, a9, a10, a11, a12, a13, a14, a15] := by
  match ρ, h with
  | [a0, a1, a2, a3, a4, a5, a6, a7, a8, a9, a10, a11, a12, a13, a14, a15], _ => exact ⟨a0, a1, a2, a3, a4, a5, a6, a7, a8, a9, a10, a11, a12, a13, a14, a15, rfl⟩
theorem len_17 {ρ : Rho} (h : ρ.length = 17) : ∃ a0 a1 a2 a3 a4 a5 a6 a7 a8 a9 a10 a11 a12 a13 a14 a15 a16, ρ = [a0, a1, a2, a3, a4, a5, a6, a7, a8, a9, a10, a11, a12, a13, a14, a15, a16] := by
  match ρ, h with
  | [a0, a1, a2, a3, a4, a5, a6, a7, a8, a9, a10, a11, a12, a13, a14, a15, a16], _ => exact ⟨a0, a1, a2, a3, a4, a5, a6, a7, a8, a9, a10, a11, a12, a13, a14, a15, a16, rfl⟩
theorem len_18 {ρ : Rho} (h : ρ.length = 18) : ∃ a0 a1 a2 a3 a4 a5 a6 a7 a8 a9 a10 a11 a12 a13 a14 a15 a16 a17, ρ = [a0, a1, a2, a3, a4, a5, a6, a7, a8, a9, a10, a11, a12, a13, a14, a15, a16, a17] := by
  match ρ, h with
  | [a0, a1, a2, a3, a4, a5, a6, a7, a8, a9, a10, a11, a12, a13, a14, a15, a16, a17], _ => exact ⟨a0, a1, a2, a3, a4, a5, a6, a7, a8, a9, a10, a11, a12, a13, a14, a15, a16, a17, rfl⟩
theorem len_19 {ρ : Rho} (h : ρ.length = 19) : ∃ a0 a1 a2 a3 a4 a5 a6 a7 a8 a9 a10 a11 a12 a13 a14 a15 a16 a17 a18, ρ = [a0, a1, a2, a3, a4, a5, a6, a7, a8, a9, a10, a11, a12, a13, a14, a15, a16, a17, a18] := by
  match ρ, h with
  | [a0, a1, a2, a3, a4, a5, a6, a7, a8, a9, a10, a11, a12, a13, a14, a15, a16, a17, a18], _ => exact ⟨a0, a1, a2, a3, a4, a5, a6, a7, a8, a9, a10, a11, a12, a13, a14, a15, a16, a17, a18, rfl⟩
theorem len_20 {ρ : Rho} (h : ρ.length = 20) : ∃ a0 a1 a2 a3 a4 a5 a6 a7 a8 a9 a10 a11 a12 a13 a14 a15 a16 a17 a18 a19, ρ = [a0, a1, a2, a3, a4, a5, a6, a7, a8, a9, a10, a11, a12, a13, a14, a15, a16, a17, a18, a19] := by
  match ρ, h with
  | [a0, a1, a2, a3, a4, a5, a6, a7, a8, a9, a10, a11, a12, a13, a14, a15, a16, a17, a18, a19], _ => exact ⟨a0, a1, a2, a3, a4, a5, a6, a7, a8, a9, a10, a11, a12, a13, a14, a15, a16, a17, a18, a19, rfl⟩
theorem len_21 {ρ : Rho} (h : ρ.length = 21) : ∃ a0 a1 a2 a3 a4 a5 a6 a7 a8 a9 a10 a11 a12 a13 a14 a15 a16 a17 a18 a19 a20, ρ = [a0, a1, a2, a3, a4, a5, a6, a7, a8, a9, a10, a11, a12, a13, a14, a15, a16, a17, a18, a19, a20] := by
  match ρ, h with
  | [a0, a1, a2, a3, a4, a5, a6, a7, a8, a9, a10, a11, a12, a13, a14, a15, a16, a17, a18, a19, a20], _ => exact ⟨a0, a1, a2, a3, a4, a5, a6, a7, a8, a9, a10, a11, a12, a13, a14, a15, a16, a17, a18, a19, a20, rfl⟩
theorem len_22 {ρ : Rho} (h : ρ.length = 22) : ∃ a0 a1 a2 a3 a4 a5 a6 a7 a8 a9 a10 a11 a12 a13 a14 a15 a16 a17 a18 a19 a20 a21, ρ = [a0, a1, a2, a3, a4, a5, a6, a7, a8, a9, a10, a11, a12, a13, a14, a15, a16, a17, a18, a19, a20, a21] := by
  match ρ, h with
  | [a0, a1, a2, a3, a4, a5, a6, a7, a8, a9, a10, a11, a12, a13, a14, a15, a16, a17, a18, a19, a20, a21], _ => exact ⟨a0, a1, a2, a3, a4, a5, a6, a7, a8, a9, a10, a11, a12, a13, a14, a15, a16, a17, a18, a19, a20, a21, rfl⟩
theorem len_23 {ρ : Rho} (h : ρ.length = 23) : ∃ a0 a1 a2 a3 a4 a5 a6 a7 a8 a9 a10 a11 a12 a13 a14 a15 a16 a17 a18 a19 a20 a21 a22, ρ = [a0, a1, a2, a3, a4, a5, a6, a7, a8, a9, a10, a11, a12, a13, a14, a15, a16, a17, a18, a19, a20, a21, a22] := by
  match ρ, h with
  | [a0, a1, a2, a3, a4, a5, a6, a7, a8, a9, a10, a11, a12, a13, a14, a15, a16, a17, a18, a19, a20, a21, a22], _ => exact ⟨a0, a1, a2, a3, a4, a5, a6, a7, a8, a9, a10, a11, a12, a13, a14, a15, a16, a17, a18, a19, a20, a21, a22, rfl⟩
theorem len_24 {ρ : Rho} (h : ρ.length = 24) : ∃ a0 a1 a2 a3 a4 a5 a6 a7 a8 a9 a10 a11 a12 a13 a14 a15 a16 a17 a18 a19 a20 a21 a22 a23, ρ = [a0, a1, a2, a3, a4, a5, a6, a7, a8, a9, a10, a11, a12, a13, a14, a15, a16, a17, a18, a19, a20, a21, a22, a23] := by
  match ρ, h with
  | [a0, a1, a2, a3, a4, a5, a6, a7, a8, a9, a10, a11, a12, a13, a14, a15, a16, a17, a18, a19, a20, a21, a22, a23], _ => exact ⟨a0, a1, a2, a3, a4, a5, a6, a7, a8, a9, a10, a11, a12, a13, a14, a15, a16, a17, a18, a19, a20, a21, a22, a23, rfl⟩
theorem len_25 {ρ : Rho} (h : ρ.length = 25) : ∃ a0 a1 a2 a3 a4 a5 a6 a7 a8 a9 a10 a11 a12 a13 a14 a15 a16 a17 a18 a19 a20 a21 a22 a23 a24, ρ = [a0, a1, a2, a3, a4, a5, a6, a7, a8, a9, a10, a11, a12, a13, a14, a15, a16, a17, a18, a19, a20, a21, a22, a23, a24] := by
  match ρ, h with
  | [a0, a1, a2, a3, a4, a5, a6, a7, a8, a9, a10, a11, a12, a13, a14, a15, a16, a17, a18, a19, a20, a21, a22, a23, a24], _ => exact ⟨a0, a1, a2, a3, a4, a5, a6, a7, a8, a9, a10, a11, a12, a13, a14, a15, a16, a17, a18, a19, a20, a21, a22, a23, a24, rfl⟩
theorem len_26 {ρ : Rho} (h : ρ.length = 26) : ∃ a0 a1 a2 a3 a4 a5 a6 a7 a8 a9 a10 a11 a12 a13 a14 a15 a16 a17 a18 a19 a20 a21 a22 a23 a24 a25, ρ = [a0, a1, a2, a3, a4, a5, a6, a7, a8, a9, a10, a11, a12, a13, a14, a15, a16, a17, a18, a19, a20, a21, a22, a23, a24, a25] := by
  match ρ, h with
  | [a0, a1, a2, a3, a4, a5, a6, a7, a8, a9, a10, a11, a12, a13, a14, a15, a16, a17, a18, a19, a20, a21, a22, a23, a24, a25], _ => exact ⟨a0, a1, a2, a3, a4, a5, a6, a7, a8, a9, a10, a11, a12, a13, a14, a15, a16, a17, a18, a19, a20, a21, a22, a23, a24, a25, rfl⟩
end QL
set_option Elab.async false
set_option linter.all false
set_option maxRecDepth 100000
set_option maxHeartbeats 2000000
/-! Q17: a lambda handed to a def that tells whether it raised. -/
namespace QL
open PySem PySem.Spec PyProof.Rows L2
variable [LawTabs]
/-- own lists are told no more -/
def noOwn (ρ : Rho) : Rho := ρ.map fun s => match s with
  | .mu _ => .no
  | s => s
section
variable {K : PySem.W.Frag} {O : Addr → Prop} {ρ : Rho} {σ : Sg} {H : Hp}
theorem noOwn_get {i : Nat} {d : D} (h : (noOwn ρ)[i]? = some (.im d)) : ρ[i]? = some (.im d) := by
  unfold noOwn at h
  rw [List.getElem?_map] at h
  cases q : ρ[i]? with
  | none => rw [q] at h; cases h
  | some s =>
    rw [q] at h
    cases s with
    | no => cases h
    | im e => cases h; rfl
    | mu es => cases h
theorem noOwn_mu {i : Nat} {es : List D} : (noOwn ρ)[i]? ≠ some (.mu es) := fun h => by
  unfold noOwn at h
  rw [List.getElem?_map] at h
  cases q : ρ[i]? with
  | none => rw [q] at h; cases h
  | some s =>
    rw [q] at h
    cases s <;> cases h
theorem noOwn_own {b : Addr} : ¬ Own (noOwn ρ) σ b := fun ⟨_, _, h, _⟩ => noOwn_mu h
theorem Rep.noOwn (r : Rep K O ρ σ H) : Rep K (hd O ρ σ) (noOwn ρ) σ H := by
  have e : ∀ b, hd (hd O ρ σ) (QL.noOwn ρ) σ b → hd O ρ σ b := fun b z => z.elim (fun z => absurd z noOwn_own) id
  have sm : Same (hid H (hd O ρ σ)) (hid H (hd (hd O ρ σ) (QL.noOwn ρ) σ)) := hid_anti .refl fun b _ z => e b z
  refine ⟨by unfold QL.noOwn; rw [List.length_map]; exact r.len, fun i d h => ?_, fun i es h => absurd h noOwn_mu, fun i j a b l h _ _ _ => absurd h noOwn_mu, fun b h => absurd h noOwn_own, r.trk, r.tb⟩
  obtain ⟨v, h1, h2⟩ := r.im i d (noOwn_get h)
  exact ⟨v, h1, Dp.same sm _ _ h2⟩
end
/-- what the def makes of the lambda: a text that tells the exception's name, the empty one where there is none -/
def lamErr (nm : Ex → Option Str) (f : M D) : M D := fun ρ => match f (noOwn ρ) with
  | .stuck => .stuck
  | .ok _ => .ok (.str "", ρ)
  | .err x => match nm x with
    | some z => .ok (.str z, ρ)
    | none => .stuck
def TErr (K : PySem.W.Frag) (nm : Ex → Option Str) : (XK → Hp → VK → Prop) → Hp → VK → Prop := fun tl H Q =>
  tl (fun cls d H' => ∃ (x : Ex) (z : Str), ErrAt K cls d H' x ∧ nm x = some z ∧ TabL K H' ∧ ∀ H'', SameT H' H'' → Q (.str z) H'') H fun _ H' => Q (.str "") H'
section
variable {X : Cx} {W : XK}
/-- the context of the lambda's body; what it lets out bears no context -/
abbrev lamN (X : Cx) (A : Around) (outer : List Env) (s : Shared) (H : Hp) (E : XK) (scope : Scope) (f c' : Addr) : Cx :=
  { LamX.lamCx X A outer s H E scope f c' with xe := fun u z => wpAny (model X.prog X.w) (A.deeper (LamX.lamEnv X scope s.heap.objs.size f c')) (leaving (LamX.lamEnv X scope s.heap.objs.size f c') u) (fun _ y => L2N.CX X.prog X.w outer H s E u y) (fun u' y => L2N.CX X.prog X.w outer H s E u' y) z }
/-- the lambda is called by the def that has it -/
theorem lam_act {pins : List (Addr × Obj)} {σ : Sg} {H : Hp} {s : Shared} {CXg : CXT} {Eg : XK} {Ng : List Str} {qg : Str} {sg : Scope} {g f c' : Addr} {cdg pm ctv : Value} {params : Arguments} {body : Expr} {scope : Scope} {k i : Nat} {a : Str} {pn : List (Addr × Obj)}
    {xe : Value → Shared → Prop} {V' : WX} {E : XK} {tb : TE} {p1 p2 : Pos} (J0 : Inv X pins σ H s) (L : LamX.LamS X.env.scope scope)
    (at_ : s.heap.get? f = some (PySem.W.kla_obj "<lambda>" (X.env.qual ++ "<lambda>") params body scope (cloFrom X.env.cells scope.names []) pm c' ctv)) (fN : H f = none) (fF : f ∉ frs X.stack)
    (hbind : bindArgs (PySem.W.kla_fn "<lambda>" (X.env.qual ++ "<lambda>") params body scope (cloFrom X.env.cells scope.names []) pm (.ref c') ctv) ⟨[], []⟩ = pure [])
    (tk : L2N.Takes ((cxOf CXg X.prog X.w X.K X.mg X.base Ng qg sg g cdg X.A X.stack s H Eg).tr pn xe) V') (hV : ∀ cls d σ' H', E cls d H' → V' cls d σ' H') (hr : Room (k + 1) (X.A.deeper (envOfC qg sg s.heap.objs.size g cdg)))
    (hbody : ∀ (A : Around) (outer : List Env) (s : Shared) (H : Hp), Room k (A.deeper (LamX.lamEnv X scope s.heap.objs.size f c')) → PE (lamN X A outer s H E scope f c') body tb)
    (hN : Ng[i]? = some a) (hv : Vis sg a) (hd' : (a == ("__debug__" : Str)) = false := by decide) (hcd : (a == ("__classdict__" : Str)) = false := by decide) :
    PE ((cxOf CXg X.prog X.w X.K X.mg X.base Ng qg sg g cdg X.A X.stack s H Eg).tr pn xe) (.Call (.Name a p1) [] [] p2)
      (fun τ G Q => τ[i]? = some (some (.ref f)) ∧ G c' = some (LamX.CodeO c' (X.env.qual ++ "<lambda>")) ∧ tb σ G Q) := by
  constructor
  rintro pinsG t τ G Q IG ⟨ht, hcode, hbd⟩
  have rd := (pe_var (pos := p1) (i := i) hN hv hd' hcd).run pinsG t τ G (fun v G1 => v = .ref f ∧ G1 = G) IG ⟨.ref f, ht, rfl, rfl⟩
  refine wpAny_Call_Name_kw (thn rd fun u t1 hu => ?_)
  obtain ⟨v, G1, I1, rv, rfl, rfl⟩ := hu
  obtain rfl : u = Value.ref f := rv
  have there : t1.heap.get? f = some (PySem.W.kla_obj "<lambda>" (X.env.qual ++ "<lambda>") params body scope (cloFrom X.env.cells scope.names []) pm c' ctv) :=
    I1.base.keep f _ at_ fN fF fun z => nomatch (show f ∈ ([] : List Addr) from z)
  refine PySem.W.callWith_F0 ⟨_, _, _, _, there⟩ (wpAny_call ?_)
  have ends : codeAny (model X.prog X.w) (X.A.deeper (envOfC qg sg s.heap.objs.size g cdg)) (.call (.ref f) ⟨[], []⟩) (CR (L2N.CX X.prog X.w) (envOfC qg sg s.heap.objs.size g cdg :: X.stack) X.prog X.w G1 t1 Q E) t1 := by
    obtain ⟨⟨oc, cs, tx, e1, e2, e3⟩, _, _⟩ := I1.hok c' _ hcode
    refine PySem.W.kla_callFunE hr.depth there rfl L.co L.gen rfl ⟨c', oc, cs, tx, rfl, e1, e2, e3⟩ ?_
    rw [hbind]
    refine wpAny_pure (wpAny_newFunctionEnv (fun y hy => (L.own y hy).2) (fun y hy => absurd hy (by simp)) (fun hp ns sb => ⟨I1.nolimit.fresh _ sb, ?_⟩) L.kind)
    show codeAny _ _ (.expr body (LamX.lamEnv X scope t1.heap.objs.size f c')) _ _
    have keeps : ∀ b o, t1.heap.get? b = some o → hp.get? b = some o := fun b o e =>
      sb.extBut b o (Nat.ne_of_lt (Heap.lt_size e)) (Heap.get?_push_of_some _ e)
    have J1 : Inv (LamX.lamCx X (X.A.deeper (envOfC qg sg s.heap.objs.size g cdg)) (envOfC qg sg s.heap.objs.size g cdg :: X.stack) t1 G1 E scope f c') [] σ G1 { t1 with heap := hp, toks := t1.toks + ([] : List (Str × Value)).length } :=
      LamX.lam_start2 J0 L I1.env0 hr.hd I1.base ns keeps
    have J2 : Inv (lamN X (X.A.deeper (envOfC qg sg s.heap.objs.size g cdg)) (envOfC qg sg s.heap.objs.size g cdg :: X.stack) t1 G1 E scope f c') [] σ G1 { t1 with heap := hp, toks := t1.toks + ([] : List (Str × Value)).length } := J1.wish _
    have run := (hbody _ _ t1 G1 (hr.deeper _)).run [] _ _ G1 Q J2 hbd
    refine PySem.W.kla_codeExpr (wpAny_mono run (fun v z hz => ?_) fun _ _ hz => hz)
    obtain ⟨y, G2, J3, ry, q⟩ := hz
    exact ⟨y, G2, J3.os, J3.bare, J3.base, J3.hok, ry, q⟩
  have out : Passes (L2N.CX X.prog X.w) ((cxOf CXg X.prog X.w X.K X.mg X.base Ng qg sg g cdg X.A X.stack s H Eg).tr pn xe) E := L2N.passes_call tk hV
  refine codeAny_mono ends fun r z hz => ?_
  cases r with
  | error u => exact out pinsG τ G1 t1 u z I1 hz
  | ok fl =>
    cases fl with
    | ret u => exact I1.after hz
    | next => exact False.elim hz
    | brk => exact False.elim hz
    | cont => exact False.elim hz
/-- a def that calls what it got -/
def Gives (X : Cx) (Ng : List Str) (x : Str) (sg : Scope) (g : Addr) (cdg : Value) (bg : List Stmt) (a : Str) (q : Str) (TT : (XK → Hp → VK → Prop) → Hp → VK → Prop) : Prop :=
  ∀ (f c' : Addr) (s : Shared) (H : Hp) (Q : VK) (tl : XK → Hp → VK → Prop), Room 1 (X.A.deeper (envOfC x sg s.heap.objs.size g cdg)) →
    (∀ (V' : WX) (pn : List (Addr × Obj)) (xe : Value → Shared → Prop) (E : XK) (p1 p2 : Pos), L2N.Takes ((cxOf (L2N.CX X.prog X.w) X.prog X.w X.K X.mg X.base Ng x sg g cdg X.A X.stack s H W0).tr pn xe) V' → (∀ cls d σ' H', E cls d H' → V' cls d σ' H') →
      PE ((cxOf (L2N.CX X.prog X.w) X.prog X.w X.K X.mg X.base Ng x sg g cdg X.A X.stack s H W0).tr pn xe) (.Call (.Name a p1) [] [] p2) (fun τ G Q => τ[0]? = some (some (.ref f)) ∧ G c' = some (LamX.CodeO c' q) ∧ tl E G Q)) →
    H c' = some (LamX.CodeO c' q) → TT tl H Q →
    ∃ t, PSs (cxOf (L2N.CX X.prog X.w) X.prog X.w X.K X.mg X.base Ng x sg g cdg X.A X.stack s H W0) bg t ∧ t { nx := fun _ H' => Q .non H', rt := Q } (L2.start Ng [.ref f]) H
theorem q_lamcall {nm : Ex → Option Str} {F : M D} {x a : Str} {g c P : Addr} {k : Nat} {pg : Arguments} {bg : List Stmt} {sg : Scope} {dV kV doc pm cdv ct oc : Value} {an od : Option Addr} {osl : Array (Option Value)} {Ng : List Str}
    {params : Arguments} {body : Expr} {scope : Scope} {p lpos pos : Pos} (hg : Gl X x) (hm : X.mg x = some (.ref g)) (hk : PySem.W.keepIn X.K (.ref g) = true)
    (lk : X.K.lookup g = some ⟨oc, od, .func (PySem.W.fnOf x x pg bg sg dV kV doc pm an cdv ct), osl⟩) (hcg : PySem.W.codeIn X.K cdv x = true) (hb : L2.Binds X.K (PySem.W.fnOf x x pg bg sg dV kV doc pm an cdv ct) [a] []) (Sg : FnScope Ng [a] sg) (hNg : Ng[0]? = some a) (hva : Vis sg a)
    (hG : Gives X Ng x sg g cdv bg a (X.env.qual ++ "<lambda>") (TErr X.K nm))
    (TB : LamX.TabB X.base X.mg c P) (hcode : X.env.code = .ref c) (hmT : (P, X.env.qual ++ "<lambda>") ∈ LawTabs.tabs) (hu : ∀ p ∈ LawTabs.tabs, p.1 = P → p.2 = X.env.qual ++ "<lambda>") (hr : Room (k + 2) X.A) (L : LamX.LamS X.env.scope scope) (hdef : defaultsOf params X.env = ([], []))
    (hbind : ∀ (q : Str) (cl : List (Str × Addr)) (pm cv ctv : Value), bindArgs (PySem.W.kla_fn "<lambda>" q params body scope cl pm cv ctv) ⟨[], []⟩ = pure [])
    (hbody : ∀ (A : Around) (outer : List Env) (s : Shared) (H : Hp) (E : XK) (f c' : Addr), Room k (A.deeper (LamX.lamEnv X scope s.heap.objs.size f c')) → QE (lamN X A outer s H E scope f c') E body F)
    (hdb : (x == ("__debug__" : Str)) = false := by decide) (hd' : (a == ("__debug__" : Str)) = false := by decide) (hcd : (a == ("__classdict__" : Str)) = false := by decide) :
    QE X W (.Call (.Name x p) [.Lambda params body scope lpos] [] pos) (lamErr nm F) := fun O => by
  refine ⟨fun pins s σ H Q I ⟨ρ, r, h⟩ => ?_⟩
  have tabs : LamX.Tabs LawTabs.tabs H := r.tb
  refine wpAny_Call_Name_kw (ld_glob I hg hm ?_ hdb)
  refine PySem.W.callWith_K (h₀ := X.base) I.ok.mod.kin hk ?_ (by rfl) (by rfl)
  show wpAny _ _ (spliced ((false, eval (.Lambda params body scope lpos) X.env) :: backTo pos (starEach [] X.env))) _ _ s
  refine Calls.spliced_cons (LamX.lam_make2 I TB hcode hmT hu tabs hdef (L.has I.ok) fun f c' pm' ctv H1 s' I1 eN T1 hf hfn hfr hco => Calls.spliced_nil ⟨I1.kIn, ?_⟩)
  have told : TErr X.K nm (fun E G Q' => tE X.K (hd O ρ σ) E F σ G Q') H1 Q := ?told
  · have run : codeAny (model X.prog X.w) X.A (.call (.ref g) ⟨[.ref f], []⟩) (CR (L2N.CX X.prog X.w) X.stack X.prog X.w H1 s' Q W0) s' := by
      refine LamX.run_ofS (N := Ng) (ps := [a]) (us := [.ref f]) (vs := [.ref f]) lk hcg Sg hr I1.env0 (hb s' [.ref f] I1.kIn rfl) (.cons rfl .nil) rfl fun hr' => ?_
      exact hG f c' s' H1 Q (fun E G Q' => tE X.K (hd O ρ σ) E F σ G Q') (hr'.mono (by omega)) (fun V' pn xe E p1 p2 tk hV => lam_act (i := 0) (E := E) (tb := tE X.K (hd O ρ σ) E F) I1 L hf hfn hfr (hbind _ _ _ _ _) tk hV hr' (fun A outer s H hr2 => hbody A outer s H E f c' hr2 (hd O ρ σ)) hNg hva hd' hcd) hco told
    refine wpAny_call (codeAny_mono run fun y z hz => ?_)
    cases y with
    | error u =>
      obtain ⟨_, _, _, _, _, _, _, _, _, _, _, _, no⟩ := (show L2N.CX X.prog X.w X.stack H1 s' W0 u z from hz)
      exact no.elim
    | ok fl =>
      cases fl with
      | ret u => exact I1.after hz
      | next => exact False.elim hz
      | brk => exact False.elim hz
      | cont => exact False.elim hz
  have s1 : SameT H H1 := ⟨fun b o _ nt h => eN b o h nt, fun b ⟨o, h, nt⟩ => ⟨o, eN b o h nt, nt⟩, fun _ => T1⟩
  refine ⟨noOwn ρ, r.noOwn.same s1, ?_⟩
  unfold lamErr at h
  cases q : F (noOwn ρ) with
  | stuck => rw [q] at h; exact h.elim
  | ok z =>
    rw [q] at h
    have h' : ∀ v H', Rep X.K O ρ σ H' → Ext [] ρ σ H ρ σ H' → Dp X.K (hid H' (hd O ρ σ)) v (.str "") → Q v H' := h
    exact fun v H2 _ e2 _ => by
      have s2 : SameT H H2 := s1.trans (e2.sx.le fun b z => absurd z noOwn_own)
      exact h' _ _ (r.same s2) (Ext.of_same s2) (.str _)
  | err y =>
    rw [q] at h
    cases e : nm y with
    | none => simp only [e] at h; exact h.elim
    | some z =>
      simp only [e] at h
      have h' : ∀ v H', Rep X.K O ρ σ H' → Ext [] ρ σ H ρ σ H' → Dp X.K (hid H' (hd O ρ σ)) v (.str z) → Q v H' := h
      exact fun cls od H2 he sx => ⟨y, z, he, e, (s1.trans (sx.le fun b z => absurd z noOwn_own)).tabL (K := X.K) r.tb, fun H3 s3 => by
        have s2 : SameT H H3 := s1.trans ((sx.le fun b z => absurd z noOwn_own).trans s3)
        exact h' _ _ (r.same s2) (Ext.of_same s2) (.str _)⟩
/-- exceptions of callees go out of a lambda's body as they are -/
theorem passes_lam {A : Around} {outer : List Env} {s : Shared} {H : Hp} {E : XK} {scope : Scope} {f c' : Addr} : Passes (L2N.CX X.prog X.w) (lamN X A outer s H E scope f c') E :=
  L2N.passes_call (L2N.takes_of rfl rfl rfl rfl) fun _ _ _ _ h => h
end
end QL
set_option Elab.async false
set_option linter.all false
set_option maxRecDepth 100000
set_option maxHeartbeats 2000000
/-! Q18: the def that tells whether a call raised. -/
namespace QL
open PySem PySem.Spec PyProof.Rows L2
variable [LawTabs]
theorem takesN0 {X : Cx} : L2N.Takes X (fun _ _ _ _ => False) := fun _ _ x => by
  obtain ⟨_, _, _, _, _, _, _, _, _, _, _, _, _, _, _, _, z⟩ := x
  exact z.elim
theorem gives_err {X : Cx} {nm : Ex → Option Str} {Ng : List Str} {x a e q lp nf : Str} {sg : Scope} {g CS : Addr} {cdg : Value} {j : Nat} {p1 p2 p3 p4 p5 p6 p7 p8 p9 p10 p11 p12 : Pos}
    (hge : sg.names.lookup lp = some .globalImplicit) (hme : X.mg lp = some (.ref CS)) (hde : (lp == ("__debug__" : Str)) = false) (hN : Ng.Nodup) (hi : Ng[1]? = some e) (hl : sg.names.lookup e = some .local) (h0 : ∀ f : Addr, (L2.start Ng [V.ref f])[0]? = some (some (V.ref f))) (hlen : 1 < Ng.length)
    (hcatch : ∀ cls d H y z, ErrAt X.K cls d H y → nm y = some z → PySem.W.exmOne X.K cls (.ref CS) = some true)
    (hname : ∀ (s : Shared) (H : Hp) (b : Addr) (oe : Obj) (cls : Value) (d : Option Addr) (pn : List (Addr × Obj)), Room 1 (X.A.deeper (envOfC x sg s.heap.objs.size g cdg)) → L2N.Zn cls d oe → (∃ vs, oe.data = .fields vs) →
      PE ((cxOf (L2N.CX X.prog X.w) X.prog X.w X.K X.mg X.base Ng x sg g cdg X.A X.stack s H W0).suite b ((b, oe) :: pn)) (.Call (.Name nf p5) [.Name e p6] [] p7) fun τ G Q => τ[1]? = some (some (.ref b)) ∧ G b = none ∧ ∃ y z, ErrAt X.K cls d G y ∧ nm y = some z ∧ TabL X.K G ∧ ∀ G', SameT G G' → Q (.str z) G') :
    Gives X Ng x sg g cdg [.Try [.Expr (.Call (.Name a p1) [] [] p2) p3] [.ExceptHandler (some (.Name lp p4)) (some e) [.Return (some (.Call (.Name nf p5) [.Name e p6] [] p7)) p8] p9] [] [] p10, .Return (some (.Constant (.str "") j p11)) p12] a q (TErr X.K nm) := by
  intro f c' s H Q tl hr act hc hT
  have suite : ∀ (b : Addr) (oe : Obj) (cls : Value) (d : Option Addr) (pn : List (Addr × Obj)), L2N.Zn cls d oe → (∃ vs, oe.data = .fields vs) →
      PSs ((cxOf (L2N.CX X.prog X.w) X.prog X.w X.K X.mg X.base Ng x sg g cdg X.A X.stack s H W0).suite b ((b, oe) :: pn)) [.Return (some (.Call (.Name nf p5) [.Name e p6] [] p7)) p8]
        (fun D τ G => (∃ σ' : Sg, τ = σ'.set 1 (some (.ref b))) ∧ G b = none ∧ ∃ y z, ErrAt X.K cls d G y ∧ nm y = some z ∧ TabL X.K G ∧ ∀ G', SameT G G' → D.rt (.str z) G') := by
    intro b oe cls d pn hz hf
    refine ⟨fun pins t τ G D I ⟨⟨σ', es⟩, nb, y, z, h1, h2, h3⟩ => ?_⟩
    have hτ : τ[1]? = some (some (.ref b)) := by
      have hl2 : τ.length = Ng.length := I.len
      rw [es] at hl2 ⊢
      rw [List.length_set] at hl2
      exact List.getElem?_set_self (by omega)
    exact (pss_one (ps_ret (pos := p8) (hname s H b oe cls d pn hr hz hf))).run pins t τ G D I ⟨hτ, nb, y, z, h1, h2, h3⟩
  refine ⟨_, pss_cons (L2N.ps_try_as (X := cxOf (L2N.CX X.prog X.w) X.prog X.w X.K X.mg X.base Ng x sg g cdg X.A X.stack s H W0) (i := 1) (c := .ref CS) (Wout := fun _ _ _ _ => False)
    (tb := fun V' D τ G => ∃ Ech : XK, (∀ cls d σ' H', Ech cls d H' → V' cls d σ' H') ∧ τ[0]? = some (some (.ref f)) ∧ G c' = some (LamX.CodeO c' q) ∧ tl Ech G fun _ G' => D.nx τ G')
    rfl rfl hN hi hl ⟨hge, hde, .inl hme⟩ takesN0 (fun V' pn xe tk _ => ?_) suite) (pss_one (ps_ret (pos := p12) pe_str)), ?_⟩
  · refine ⟨fun pins t τ G D I ⟨Ech, hV, h1, h2, h3⟩ => ?_⟩
    exact (pss_one (ps_expr (pos := p3) (act V' pn xe Ech p1 p2 tk hV))).run pins t τ G D I ⟨h1, h2, h3⟩
  · refine ⟨fun cls d H' => ∃ (y : Ex) (z : Str), ErrAt X.K cls d H' y ∧ nm y = some z ∧ TabL X.K H' ∧ ∀ H'', SameT H' H'' → Q (.str z) H'', fun cls d σ' H' ⟨y, z, e1, e2, e3⟩ => ?_, h0 f, hc, ?_⟩
    · exact ⟨true, hcatch cls d H' y z e1 e2, fun _ b nb => ⟨⟨σ', rfl⟩, nb, y, z, e1, e2, e3⟩, fun z => nomatch z⟩
    · exact hT
end QL
set_option Elab.async false
set_option linter.all false
set_option maxRecDepth 100000
set_option maxHeartbeats 2000000
/-! Q19: the end of a zip of two lists while an exception is handled. -/
namespace QH
open PySem PySem.Spec PyProof.Rows L2 HotX
section
variable {prog : Program} {w : World} {A : Around} {E : Value → Shared → Prop} {s : Shared}
/-- a list's iterator at its end -/
theorem list_end {it l x1 : Addr} {i : Nat} {items : Array Value} {Q : Value → Shared → Prop} (hot : HotAt A x1 s.heap) (nx : x1 ≠ it) (hit : s.heap.IsListIter it l i) (hl : s.heap.IsList l items) (hx : items[i]? = none)
    (hE : ∀ g e, Heap.ExtBut it s.heap g → (∃ o, g.get? e = some o ∧ o.cls = .type "StopIteration") → E (.ref e) { s with heap := g }) : wpAny (model prog w) A (Builtin.SmallTypes.nextOf (.ref it)) Q E s := by
  obtain ⟨hh, o1, vs1, g1, d1, c1⟩ := hot
  obtain ⟨oi, hoi, hci, hdi⟩ := id hit; obtain ⟨ol, hol, _, nl, hdl⟩ := hl
  unfold Builtin.SmallTypes.nextOf
  refine wpAny_bind (wpAny_callSpecial?_slot (name := Str.ofString "__next__") hit.typeIs slot_listiter_next (wpAny_call_entry slot_listiter_next hit.typeIs entry_listiter_next ?_ (args_listiter_next _)))
  show wpAny _ _ (field (.ref it) 0 >>= _) _ _ s; refine wpAny_bind (wpAny_field hoi hdi (x := .ref l) rfl ?_)
  show wpAny _ _ (if (Value.ref l == Value.none) = true then _ else _) _ _ s; rw [if_neg (show ¬ ((Value.ref l == Value.none) = true) from Bool.false_ne_true)]
  show wpAny _ _ (field (.ref it) 1 >>= _) _ _ s; refine wpAny_bind (wpAny_field hoi hdi (x := .int i 0) rfl ?_)
  show wpAny _ _ (seqItems? (.ref l) >>= _) _ _ s; refine wpAny_bind (wpAny_seqItems hol hdl ?_); simp only [Int.toNat_natCast, hx]
  refine wpAny_bind (wpAny_rule (wpAny_bind (wpAny_setField hoi hdi (by simp) ?_)))
  have sb : Heap.SameBut it s.heap (s.heap.update it (Obj.mapFields (·.setIfInBounds 0 Value.none))) := Heap.SameBut.update ..
  generalize hg : s.heap.update it (Obj.mapFields (·.setIfInBounds 0 Value.none)) = g at sb ⊢
  have gx : g.get? x1 = some o1 := (sb.2 _ nx).trans g1
  show wpAny _ _ (newExc (.type "StopIteration") [] >>= _) _ _ _; refine wpAny_bind ?_; simp only [newExc, newTuple]
  refine wpAny_bind (wpAny_newObj_type ?_ (by size_fits)); refine wpAny_bind (m := firstArgMember _ _) (wpAny_of_eq (a := Value.none) (by first | rfl | (simp only [firstArgMember]; rfl)) (wpAny_newObj_type ?_ (by size_fits)))
  refine raiseNew_hot (A := A.in1) ⟨hh, o1, vs1, Heap.get?_push_of_some _ (Heap.get?_push_of_some _ gx), d1, c1⟩ (Nat.ne_of_lt (Heap.lt_size (Heap.get?_push_of_some _ gx))) (Heap.get?_push_size _ rfl) rfl (by first | (simp; done) | (simp; omega) | (simp only [Array.size_append]; simp; omega)) ?_
  refine hE _ _ (fun b o nb e => ?_) ⟨_, Heap.get?_update_self _ (Heap.get?_push_size _ rfl) rfl, rfl⟩
  have e2 := (sb.2 b nb).trans e
  rw [Heap.get?_update_other _ _ (Nat.ne_of_gt (Heap.lt_size (Heap.get?_push_of_some _ e2)))]; exact Heap.get?_push_of_some _ (Heap.get?_push_of_some _ e2)
/-- zip at the first list's end -/
theorem zip_end {z TI TO i1 i2 l1 l2 x1 : Addr} {k1 : Nat} {xs : Array Value} {a b : Value} {Q : Fin → Shared → Prop} (hot : HotAt A x1 s.heap) (n1 : x1 ≠ z) (n2 : x1 ≠ i1) (D : ZipApart z TI TO i1 i2 l1 l2) (hz : IsZip s.heap z TI TO .none) (hTI : IsPair s.heap TI (.ref i1) (.ref i2)) (hTO : IsPair s.heap TO a b)
    (h1 : s.heap.IsListIter i1 l1 k1) (hl1 : s.heap.IsList l1 xs) (hx : xs[k1]? = none)
    (hE : ∀ g e, (∀ c o, c ≠ z → c ≠ TO → c ≠ i1 → c ≠ i2 → s.heap.get? c = some o → g.get? c = some o) → (∃ o, g.get? e = some o ∧ o.cls = .type "StopIteration") → E (.ref e) { s with heap := g }) : wpAny (model prog w) A (Builtin.«zip.__next__» ⟨[.ref z], []⟩) Q E s := by
  show wpAny _ _ (field (.ref z) 2 >>= _) _ _ _; refine wpAny_bind (wpAny_field hz rfl (x := .bool false) rfl ?_)
  show wpAny _ _ (field (.ref z) 3 >>= _) _ _ _; refine wpAny_bind (wpAny_field hz rfl (x := .ref TI) rfl ?_); refine wpAny_bind (wpAny_seqItems hTI rfl ?_)
  show wpAny _ _ (Builtin.SmallTypes.ownedTupleIsFree (.ref z) >>= _) _ _ _; refine wpAny_bind ?_; unfold Builtin.SmallTypes.ownedTupleIsFree
  refine wpAny_bind (wpAny_field hz rfl (x := .none) rfl (wpAny_pure ?_)); simp only [if_true]; refine wpAny_bind (wpAny_rule ?_); refine wpAny_bind (wpAny_field hz rfl (x := .ref TO) rfl ?_)
  refine wpAny_bind (wpAny_setField_rec hz (by simp) fun g hg sg => ?_); replace hg : IsZip g z TI TO .ellipsis := hg; refine wpAny_bind ?_
  simp only [List.zipIdx_cons, List.zipIdx_nil, List.forIn_cons, List.forIn_nil]; refine wpAny_bind (wpAny_bind (wpAny_onRaise ?_))
  show wpAny _ _ (Builtin.SmallTypes.nextOf (.ref i1) >>= _) _ _ _
  have hotg : HotAt A x1 g := by obtain ⟨hh, o1, vs1, e1, r⟩ := hot; exact ⟨hh, o1, vs1, (sg.2 _ n1).trans e1, r⟩
  refine wpAny_bind (list_end hotg n2 (h1.extBut sg.extBut D.i1z) (hl1.extBut sg.extBut D.l1z) hx fun g2 e k he => ?_)
  obtain ⟨oe, he1, he2⟩ := he
  have hz2 : IsZip g2 z TI TO .ellipsis := k _ _ D.i1z.symm hg
  have ne : e ≠ z := fun q => by subst q; rw [hz2] at he1; cases he1; simp at he2
  exact wpAny_setField_rec hz2 (by simp) fun g3 _ s3 => hE g3 e (fun c o c1 _ c3 _ q => s3.extBut _ _ c1 (k _ _ c3 (sg.extBut _ _ c1 q))) ⟨oe, s3.extBut _ _ ne he1, he2⟩
theorem next_zip_end {z TI TO i1 i2 l1 l2 x1 : Addr} {k1 : Nat} {xs : Array Value} {a b : Value} {Q : Option Value → Shared → Prop} (hot : HotAt A x1 s.heap) (n1 : x1 ≠ z) (n2 : x1 ≠ i1) (D : ZipApart z TI TO i1 i2 l1 l2) (hz : IsZip s.heap z TI TO .none) (hTI : IsPair s.heap TI (.ref i1) (.ref i2)) (hTO : IsPair s.heap TO a b)
    (h1 : s.heap.IsListIter i1 l1 k1) (hl1 : s.heap.IsList l1 xs) (hx : xs[k1]? = none)
    (hQ : ∀ g, (∀ c o, c ≠ z → c ≠ TO → c ≠ i1 → c ≠ i2 → s.heap.get? c = some o → g.get? c = some o) → Q none { s with heap := g }) : wpAny (model prog w) A (pyNext (.ref z)) Q E s := by
  have hT : s.TypeIs (.ref z) "zip" := ⟨_, hz, rfl⟩; unfold pyNext
  refine wpAny_bind (wpAny_attempt (wpAny_callSpecial?_slot (name := Str.ofString "__next__") hT F.slot_zip_next (wpAny_call_entry F.slot_zip_next hT F.entry_zip_next (zip_end hot n1 n2 D hz hTI hTO h1 hl1 hx fun g e k he => ?_) (F.args_zip_next_1 _))))
  obtain ⟨o, ho, hc⟩ := he
  exact wpAny_bind (wpAny_isInstance (T := "StopIteration") (b := true) ⟨o, ho, hc⟩ isSubtype_stop (wpAny_pure (hQ _ k)))
end
end QH
set_option Elab.async false
set_option linter.all false
set_option maxRecDepth 100000
set_option maxHeartbeats 2000000
/-! Q20: a def called in an except suite, the handled exception known. -/
namespace QH
open PySem PySem.Spec PyProof.Rows L2 HotX
abbrev RoomH := L2H.RoomH
abbrev Hot1 := L2H.Hot1
abbrev PinOk := L2H.PinOk
section
variable {CX : CXT} {P : Program} {w : World} {K : PySem.W.Frag} {mg : Str → Option Value} {base : Heap} {k : Nat} {f : Addr} {name qual : Str} {params : Arguments} {body : List Stmt} {scope : Scope} {dV kV doc pm cdv ct oc : Value} {an od : Option Addr} {osl : Array (Option Value)} {N ps : List Str}
/-- the body of a def that is called while p's exception is handled -/
theorem run_hot (lk : K.lookup f = some ⟨oc, od, .func (PySem.W.fnOf name qual params body scope dV kV doc pm an cdv ct), osl⟩) (hcd : PySem.W.codeIn K cdv qual = true) (S : FnScope N ps scope) {A : Around} {outer : List Env} {s : Shared} {H : Hp} {args : Args} {us : List Value} {vs : List V} {Q : VK} {E : XK} {p : Addr × Obj}
    (hr : RoomH (k + 1) A) (hot : Hot1 A p) (pin : PinOk outer H s p) (e0 : Env0 P w K mg base A outer s H) (hb : BindsTo s (PySem.W.fnOf name qual params body scope dV kV doc pm an cdv ct) args (ps.zip us)) (r : Vals vs us) (hl : vs.length = ps.length)
    (hbody : RoomH k (A.deeper (envOfC qual scope s.heap.objs.size f cdv)) → ∃ t, PSs (L2H.cxH CX P w K mg base N qual scope f cdv A outer s H E p) body t ∧ t { nx := fun _ H' => Q .non H', rt := Q } (L2.start N vs) H) :
    codeAny (model P w) A (.call (.ref f) args) (CR CX outer P w H s Q E) s := by
  have inH : K.In s.heap := e0.mod.kin.keeps fun b o e => (e0.bs b o e).1
  have nolim : s.heap.NoLimit := e0.mod.nolimit.keeps fun b o e => (e0.bs b o e).1
  have kinds : ∀ y ∈ ps.zip us, scope.names.lookup y.1 = some .local ∨ (scope.names.lookup y.1 = some .cell ∧ ((cellsFrom (s.heap.objs.size + 1) scope.names []).lookup y.1).isSome = true) := by
    rintro ⟨y, v⟩ hy
    rcases S.par y (List.of_mem_zip hy).1 with loc | cel
    · exact .inl loc
    · exact .inr ⟨cel, PySem.W.cellsFrom_some _ _ _ (.inl cel)⟩
  refine codeAny_call_function hr.depth (inH _ _ lk) rfl S.co S.gen rfl (PySem.W.codeRec_of inH hcd) (hb _ _ _ _ (wpAny_newFunctionEnv_cells S.kind kinds fun env he z x => ?_))
  subst he
  refine ⟨nolim.keeps x.toInCall.keep, codeAny_func ?_⟩
  obtain ⟨t, ht, hq⟩ := hbody (hr.deeper _)
  have J : Inv (L2H.cxH CX P w K mg base N qual scope f cdv A outer s H E p) [] (L2.start N vs) H z := L2H.inv_startH S pin e0 hl r x
  refine wpAny_mono (ht.run [] z (L2.start N vs) H _ J hq) (fun fl y hs => ?_) fun _ _ hs => hs
  cases fl with
  | ret u => obtain ⟨v, σ', H', J', rv, q⟩ := hs; exact ⟨v, H', J'.os, J'.bare, J'.base, J'.hok, rv, q⟩
  | next => obtain ⟨σ', H', J', q⟩ := hs; exact ⟨V.non, H', J'.os, J'.bare, J'.base, J'.hok, rfl, q⟩
  | brk => obtain ⟨_, _, _, q⟩ := hs; exact q.elim
  | cont => obtain ⟨_, _, _, q⟩ := hs; exact q.elim
end
/-- f(e), the handled exception handed on -/
theorem pe_hot {X : Cx} {k : Nat} {f : Addr} {name qual x y pr : Str} {params : Arguments} {body : List Stmt} {scope : Scope} {dV kV doc pm cdv ct oc : Value} {an od : Option Addr} {osl : Array (Option Value)} {N : List Str} {q pos p1 : Pos} {i : Nat} {b : Addr} {oe : Obj} {pn : List (Addr × Obj)} {SP0 : Hp → VK → Prop}
    (lk : X.K.lookup f = some ⟨oc, od, .func (PySem.W.fnOf name qual params body scope dV kV doc pm an cdv ct), osl⟩) (hcd : PySem.W.codeIn X.K cdv qual = true) (S : FnScope N [pr] scope) (hr : RoomH (k + 1) X.A) (hf : ∃ vs : Array Value, oe.data = .fields vs ∧ vs[2]? = some .none)
    (hg : Gl X x) (hm : X.mg x = some (.ref f)) (hk : PySem.W.keepIn X.K (.ref f) = true) (hb : Binds X.K (PySem.W.fnOf name qual params body scope dV kV doc pm an cdv ct) [pr] []) (hN : X.N[i]? = some y) (hv : Vis X.env.scope y)
    (hbody : ∀ (A : Around) (outer : List Env) (s : Shared) (H : Hp) (Q : VK), A.handled = some (.ref b) → RoomH k (A.deeper (envOfC qual scope s.heap.objs.size f cdv)) → SP0 H Q → ∃ t, PSs (L2H.cxH (L2N.CX X.prog X.w) X.prog X.w X.K X.mg X.base N qual scope f cdv A outer s H (fun _ _ _ => False) (b, oe)) body t ∧ t { nx := fun _ H' => Q .non H', rt := Q } (L2.start N [.ref b]) H)
    (hdb : (x == ("__debug__" : Str)) = false := by decide) (hd' : (y == ("__debug__" : Str)) = false := by decide) (hcd' : (y == ("__classdict__" : Str)) = false := by decide) :
    PE (X.suite b ((b, oe) :: pn)) (.Call (.Name x q) [.Name y p1] [] pos) fun τ G Q => τ[i]? = some (some (.ref b)) ∧ SP0 G Q := by
  refine ⟨fun pins s τ G Q I ⟨hτ, h⟩ => ?_⟩
  refine wpAny_Call_Name_kw (ld_glob I hg hm ?_ hdb)
  have ha : PA (X.suite b ((b, oe) :: pn)) [.Name y p1] _ := pa_cons (pe_var (i := i) hN hv hd' hcd') pa_nil
  refine PySem.W.callWith_K (h₀ := X.base) I.ok.mod.kin hk (thn (ha.run pos pins s τ G (fun vs G1 => vs = [V.ref b] ∧ G = G1) I ⟨_, hτ, rfl, rfl⟩) fun us s1 hu => ?_) (by rfl) (by rfl)
  obtain ⟨vs, G1, I1, rv, rfl, rfl⟩ := hu
  refine ⟨I1.kIn, ?_⟩
  have P1 := I1.pin (b, oe) (List.mem_append_left _ List.mem_cons_self)
  have pin : PinOk X.stack G s1 (b, oe) := ⟨P1.1, P1.2.1, fun hm => (List.mem_cons.mp (I1.stkSub b hm)).elim P1.2.2.1 P1.2.2.2.1, P1.2.2.2.2⟩
  have bd := hb s1 us I1.kIn (by rw [List.append_nil, ← rv.length]; rfl)
  rw [List.append_nil] at bd
  have hr2 : RoomH (k + 1) (X.A.mark (some (.ref b))) := ⟨hr.dp, hr.un⟩
  have run := run_hot (CX := L2N.CX X.prog X.w) (E := fun _ _ _ => False) lk hcd S hr2 ⟨rfl, hf⟩ pin I1.env0 bd rv rfl fun hr' => hbody (X.A.mark (some (.ref b))) X.stack s1 G Q rfl hr' h
  refine wpAny_call (codeAny_mono run fun res z hz => ?_)
  cases res with
  | error u =>
    obtain ⟨_, _, _, _, _, _, _, _, _, _, _, _, no⟩ := (show L2N.CX X.prog X.w X.stack G s1 (fun _ _ _ => False) u z from hz)
    exact no.elim
  | ok fl =>
    cases fl with
    | ret u => exact I1.after hz
    | next => exact False.elim hz
    | brk => exact False.elim hz
    | cont => exact False.elim hz
end QH
set_option Elab.async false
set_option linter.all false
set_option maxRecDepth 100000
set_option maxHeartbeats 2000000
/-! Q21: isinstance of the handled exception. -/
namespace QH
open PySem PySem.Spec PyProof.Rows L2 HotX QL
variable [LawTabs]
section
variable {X : Cx} {b D : Addr} {oe : Obj}
/-- isinstance(e, c), e's slot known to hold the exception -/
theorem pe_isE {i : Nat} {y x : Str} {cv : V} {cu : Value} {bb : Bool} {p p1 p2 pos : Pos} (C : ExcC X.K D) (hz : Zc (.ref D) none oe) (hf : ∃ vs, oe.data = .fields vs) (hmem : (b, oe) ∈ X.pn) (hg : Gl X "isinstance") (hm : X.mg "isinstance" = none)
    (hN : X.N[i]? = some y) (hv : Vis X.env.scope y) (hd' : (y == ("__debug__" : Str)) = false) (hcd : (y == ("__classdict__" : Str)) = false) (hc : PE X (.Name x p2) (tC cv)) (hcu : ∀ u, RelV cv u → u = cu) (hk : PySem.W.kitOne X.K (.ref D) cu = some bb)
    (hs : starEach [.Name y p1, .Name x p2] X.env = (false, eval (.Name y p1) X.env) :: starEach [.Name x p2] X.env := by rfl) (hs2 : starEach [.Name x p2] X.env = (false, eval (.Name x p2) X.env) :: starEach [] X.env := by rfl) (hpl : (backTo pos (starEach [.Name x p2] X.env)).any (·.1) = false := by rfl) :
    PE X (.Call (.Name "isinstance" p) [.Name y p1, .Name x p2] [] pos) fun σ H Q => σ[i]? = some (some (.ref b)) ∧ Q (.bl bb) H := by
  refine ⟨fun pins s σ H Q I ⟨hσ, hq⟩ => ?_⟩
  refine wpAny_Call_Name_kw (ld_blt I hg hm (by decide +kernel : bootBuiltins "isinstance" = some (.builtin "isinstance")) ?_)
  refine PyProof.Rows.callWith_builtin1 (thn ((pa_cons (pe_var (i := i) hN hv hd' hcd) (pa_cons hc pa_nil hs2) hs).run pos pins s σ H (fun vs H1 => vs = [V.ref b, cv] ∧ H1 = H) I ⟨_, hσ, rfl, rfl⟩) fun us s1 ⟨vs, H1, I1, r1, e1, e2⟩ => ?_) hs hpl
  subst e1 e2
  obtain ⟨u, w', rfl, r2, r3⟩ := vals2 r1
  cases r2
  have eu := hcu _ r3
  subst eu
  obtain ⟨hget, _⟩ := I1.pin (b, oe) (List.mem_append_left _ hmem)
  obtain ⟨vs, hvs⟩ := hf
  have J : PySem.W.InstAt s1.heap b oe D none := by
    obtain ⟨oc, od, oda, osl⟩ := oe
    obtain ⟨h1, h2⟩ := hz
    dsimp only at h1 h2 hvs
    subst h1 h2 hvs
    exact ⟨hget, rfl, rfl, trivial⟩
  exact PySem.W.kia_one (PySem.W.handS_kitx_exc C.hg C.hk C.hs C.hd C.ha C.hn C.ht C.hm) I1.kIn J hk (fun z => nomatch z) fun tk => ⟨.bl bb, H1, I1.kept (t' := tk) fun _ _ z => z, rfl, hq⟩
/-! ### expressions that may look at that slot -/
def QE0 (X : Cx) (i : Nat) (b : Addr) (W : XK) (e : Expr) (f : M QL.D) : Prop := ∀ O, PE X e fun σ H Q => σ[i]? = some (some (.ref b)) ∧ tE X.K O W f σ H Q
def QA0 (X : Cx) (i : Nat) (b : Addr) (W : XK) (es : List Expr) (f : M (List QL.D)) : Prop := ∀ O, PA X es fun σ H Q => σ[i]? = some (some (.ref b)) ∧ tA X.K O W f σ H Q
section
variable {i : Nat} {W : XK} {e a c : Expr} {es : List Expr} {f f1 f2 : M QL.D} {fs : M (List QL.D)} {pos : Pos}
theorem QE0.of (h : QE X W e f) : QE0 X i b W e f := fun O => (h O).weak fun _ _ _ z => z.2
theorem q0_isE {y x : Str} {cv : V} {cu : Value} {bb : Bool} {p p1 p2 : Pos} (C : ExcC X.K D) (hz : Zc (.ref D) none oe) (hf : ∃ vs, oe.data = .fields vs) (hmem : (b, oe) ∈ X.pn) (hg : Gl X "isinstance") (hm : X.mg "isinstance" = none)
    (hN : X.N[i]? = some y) (hv : Vis X.env.scope y) (hd' : (y == ("__debug__" : Str)) = false) (hcd : (y == ("__classdict__" : Str)) = false) (hc : PE X (.Name x p2) (tC cv)) (hcu : ∀ u, RelV cv u → u = cu) (hk : PySem.W.kitOne X.K (.ref D) cu = some bb)
    (hs : starEach [.Name y p1, .Name x p2] X.env = (false, eval (.Name y p1) X.env) :: starEach [.Name x p2] X.env := by rfl) (hs2 : starEach [.Name x p2] X.env = (false, eval (.Name x p2) X.env) :: starEach [] X.env := by rfl) (hpl : (backTo pos (starEach [.Name x p2] X.env)).any (·.1) = false := by rfl) :
    QE0 X i b W (.Call (.Name "isinstance" p) [.Name y p1, .Name x p2] [] pos) (cst (.bool bb)) := fun O =>
  (pe_isE C hz hf hmem hg hm hN hv hd' hcd hc hcu hk hs hs2 hpl).weak fun σ H Q ⟨h1, ρ, r, h2⟩ => ⟨h1, (show ∀ v H', Rep X.K O ρ σ H' → Ext [] ρ σ H ρ σ H' → Dp X.K (hid H' (hd O ρ σ)) v (.bool bb) → Q v H' from h2) _ _ r Ext.refl (.bl bb)⟩
theorem qa0_nil : QA0 X i b W [] args0 := fun O => pa_nil.weak fun σ H Q ⟨_, ρ, r, h⟩ => h [] H r Ext.refl .nil
theorem qa0_cons (ha : QE0 X i b W e f) (hr : QA0 X i b W es fs) (hs : starEach (e :: es) X.env = (false, eval e X.env) :: starEach es X.env := by rfl) : QA0 X i b W (e :: es) (argsC f fs) := fun O => (pa_cons (ha O) (hr O) hs).weak fun σ H Q ⟨g, ρ, r, h⟩ =>
  ⟨g, tE.mono (tE.app r h) fun v H1 ⟨d, ρ1, rep1, e1, dp1, q1⟩ => ⟨g, tA.mono (tA.app rep1 q1) fun vs H2 ⟨ds, ρ2, rep2, e2, dp2, q2⟩ => q2 (v :: vs) H2 rep2 (e1.trans e2) (.cons (Dp.same e2.same _ _ dp1) dp2)⟩⟩
theorem q0_lst (h : QA0 X i b W es fs) : QE0 X i b W (.List es pos) (lstM fs) := fun O => (pe_lst (h O)).weak fun σ H Q ⟨g, ρ, r, h⟩ => ⟨g, by
  refine tA.mono (tA.app r h) fun vs H1 ⟨ds, ρ1, rep1, e1, dp1, q1⟩ => ?_
  obtain ⟨z, hz, q⟩ := RP.opt q1
  by_cases hl : ds.length ≤ sizeLine
  · rw [if_pos hl] at hz
    cases hz
    exact ⟨by rw [dp1.length]; exact hl, fun p hp => q _ _ (rep1.same (.of (same_new hp))) (e1.trans (Ext.of_same (.of (same_new hp)))) (Dp.newL rep1.trk hp dp1)⟩
  · rw [if_neg hl] at hz
    cases hz⟩
theorem q0_op2 {op : Operator} {g : QL.D → QL.D → Option QL.D} (ho : ∀ O, OpR X (binaryOp op) (rD X.K O g)) (ha : QE0 X i b W a f1) (hb : QE0 X i b W c f2) : QE0 X i b W (.BinOp a op c pos) (op2 g f1 f2) := fun O => by
  refine ⟨fun pins s σ H Q I ⟨hg, ρ, r, h⟩ => wpAny_BinOp (thn ((ha O).run pins s σ H _ I ⟨hg, tE.app r h⟩) fun v s1 ⟨x, H1, I1, r1, d, ρ1, rep1, e1, dp1, q1⟩ => ?_)⟩
  refine thn ((hb O).run pins s1 σ H1 _ I1 ⟨hg, tE.app rep1 q1⟩) fun u s2 ⟨y, H2, I2, r2, d2, ρ2, rep2, e2, dp2, q2⟩ => ?_
  obtain ⟨z, hz, q⟩ := RP.opt q2
  exact ho (hd O ρ2 σ) pins s2 σ H2 x y v u Q I2 r1 r2 ⟨d, d2, z, Dp.same e2.same _ _ dp1, dp2, rep2.trk, hz, hasV_end rep2 (e1.trans e2) q⟩
/-! ### statements that may look at that slot -/
def QS0 (X : Cx) (i : Nat) (b : Addr) (P : List Nat) (W : XK) (st : Stmt) (S : M Out) : Prop := ∀ O, PS X st fun E σ H => σ[i]? = some (some (.ref b)) ∧ tS X.K O P W S E σ H
def QSs0 (X : Cx) (i : Nat) (b : Addr) (P : List Nat) (W : XK) (sts : List Stmt) (S : M Out) : Prop := ∀ O, PSs X sts fun E σ H => σ[i]? = some (some (.ref b)) ∧ tS X.K O P W S E σ H
section
variable {i j : Nat} {P : List Nat} {W : XK} {st : Stmt} {sts : List Stmt} {e : Expr} {S S1 S2 : M Out} {f : M QL.D} {pos pos' : Pos}
theorem QS0.of (h : QS X P W st S) : QS0 X i b P W st S := fun O => (h O).weak fun _ _ _ z => z.2
theorem QSs0.of (h : QSs X P W sts S) : QSs0 X i b P W sts S := fun O => (h O).weak fun _ _ _ z => z.2
theorem tS_par {K : PySem.W.Frag} {O : Addr → Prop} {E : Ends} {σ : Sg} {H : Hp} (hi : i ∈ P) (h : tS K O P W S E σ H) : tS K O P W S { E with nx := fun σ' H' => σ'[i]? = σ[i]? ∧ E.nx σ' H' } σ H := by
  obtain ⟨ρ, r, h⟩ := h
  refine ⟨ρ, r, RP.mono h (fun o ρ1 z => ?_) fun _ z => z⟩
  cases o with
  | nx => exact fun σ' H' r' x => ⟨x.par i hi, z σ' H' r' x⟩
  | bk => exact z
  | ct => exact z
  | ret _ => exact z
  | rto _ => exact z
theorem qss0_one (h : QS0 X i b P W st S) : QSs0 X i b P W [st] S := fun O => (pss_one (h O))
theorem qss0_cons (hi : i ∈ P) (h1 : QS0 X i b P W st S1) (h2 : QSs0 X i b P W sts S2) : QSs0 X i b P W (st :: sts) (seqS S1 S2) := fun O => (pss_cons (h1 O) (h2 O)).weak fun E σ H ⟨g, h⟩ => by
  refine ⟨g, ?_⟩
  obtain ⟨ρ, r, z⟩ := tS_par hi (tS.seq h)
  exact ⟨ρ, r, RP.mono z (fun o ρ1 q => by
    cases o with
    | nx => exact fun σ' H' r' x => ⟨(q σ' H' r' x).1.trans g, (q σ' H' r' x).2⟩
    | bk => exact q
    | ct => exact q
    | ret _ => exact q
    | rto _ => exact q) fun _ q => q⟩
theorem qs0_set {x : Str} (hN : X.N.Nodup) (hj : X.N[j]? = some x) (hx : Loc X.env.scope x) (he : QE0 X i b W e f) (hP : j ∉ P := by decide) (hs : swapsWith e (some (.Name x pos')) pos.line X.env = pure false := by rfl) (hf : X.fn x = true ∨ X.env.scope.names.lookup x = some .local := by first | exact .inl rfl | exact .inr rfl | assumption) :
    QS0 X i b P W (.Assign [.Name x pos'] e pos) (setS j f) := fun O => (ps_set hN hj hx (he O) hs hf).weak fun E σ H ⟨g, ρ, r, h⟩ =>
  ⟨g, tE.mono (tE.app r h) fun v H1 ⟨d, ρ1, rep1, e1, dp1, q1⟩ => q1 _ _ (rep1.setIm dp1) (e1.toP.trans (Ext.setIm hP))⟩
end
end
end
end QH
set_option Elab.async false
set_option linter.all false
set_option maxRecDepth 100000
set_option maxHeartbeats 2000000
/-! Q22: a list comprehension over a zip of two lists while an exception is handled. -/
namespace QH
open PySem PySem.Spec PyProof.Rows L2 HotX
/-- the five objects of a zip -/
abbrev zfp (n : Addr) : List Addr := [n + 4, n + 2, n + 3, n, n + 1]
theorem zfp_cases {n c : Addr} (h : c ∈ zfp n) : c = n + 4 ∨ c = n + 2 ∨ c = n + 3 ∨ c = n ∨ c = n + 1 := by simpa using h
theorem zfp_rng {n c : Addr} (h : c ∈ zfp n) : n ≤ c ∧ c < n + 5 := by
  have key : ∀ (m d : Nat), d = m + 4 ∨ d = m + 2 ∨ d = m + 3 ∨ d = m ∨ d = m + 1 → m ≤ d ∧ d < m + 5 := fun m d hd => by omega
  exact key n c (zfp_cases h)
/-- the zip that stands at n, i items drawn -/
def ZAt (n a b : Addr) (i : Nat) (h : Heap) : Prop := IsZip h (n + 4) (n + 2) (n + 3) .none ∧ IsPair h (n + 2) (.ref n) (.ref (n + 1)) ∧ (∃ x y, IsPair h (n + 3) x y) ∧ h.IsListIter n a i ∧ h.IsListIter (n + 1) b i
theorem ZAt.obj {n a b : Addr} {i : Nat} {h : Heap} (z : ZAt n a b i h) : ∀ c ∈ zfp n, ∃ o, h.get? c = some o ∧ ∀ v, o.data ≠ .cell v := fun c hc => by
  obtain ⟨z1, z2, ⟨x, y, z3⟩, ⟨o4, e4, _, d4⟩, ⟨o5, e5, _, d5⟩⟩ := z
  rcases zfp_cases hc with q | q | q | q | q <;> subst q
  · exact ⟨_, z1, fun _ e => nomatch e⟩
  · exact ⟨_, z2, fun _ e => nomatch e⟩
  · exact ⟨_, z3, fun _ e => nomatch e⟩
  · exact ⟨_, e4, fun _ e => by rw [d4] at e; cases e⟩
  · exact ⟨_, e5, fun _ e => by rw [d5] at e; cases e⟩
theorem ZAt.keep {n a b : Addr} {i : Nat} {h g : Heap} (z : ZAt n a b i h) (k : ∀ c ∈ zfp n, ∀ o, h.get? c = some o → g.get? c = some o) : ZAt n a b i g := by
  obtain ⟨z1, z2, ⟨x, y, z3⟩, z4, z5⟩ := z
  exact ⟨k _ (by simp) _ z1, k _ (by simp) _ z2, ⟨x, y, k _ (by simp) _ z3⟩, z4.at fun o e => k _ (by simp) o e, z5.at fun o e => k _ (by simp) o e⟩
section
variable {X : Cx} {pins : List (Addr × Obj)} {σ : L2.St} {H : Hp} {s : Shared} {n a b : Addr} {i : Nat} {xs ys : List V} {E : Value → Shared → Prop}
/-- one more pair -/
theorem zip_step {elts : List Expr} {kk : Nat} {tp : Pos} {x y : V} {Q : Option Value → Shared → Prop} (I : Inv X pins σ H s) (D : ZipApart (n + 4) (n + 2) (n + 3) n (n + 1) a b) (hf : ∀ c ∈ zfp n, FpOk X pins H c) (z : ZAt n a b i s.heap) (qa : SqL X.K H a xs) (qb : SqL X.K H b ys) (hx : xs[i]? = some x) (hy : ys[i]? = some y)
    (hQ : ∀ T s1, wpAny (model X.prog X.w) X.A (letOwnedTupleGo (.Tuple elts kk tp) (.ref (n + 4)) (.ref T)) (fun _ s2 => H T = none ∧ Inv X pins σ (upd H T (.tup [x, y])) s2 ∧ ZAt n a b (i + 1) s2.heap ∧ ∀ c ∈ zfp n, (upd H T (.tup [x, y])) c = none) (fun _ _ => False) s1 → Q (some (.ref T)) s1) :
    wpAny (model X.prog X.w) X.A (pyNext (.ref (n + 4))) Q E s := by
  obtain ⟨us, ru, pa, _⟩ := I.list qa
  obtain ⟨vs, rv, pb, _⟩ := I.list qb
  obtain ⟨u, hu, r1⟩ := ru.get hx
  obtain ⟨v, hv, r2⟩ := rv.get hy
  have z' := z
  obtain ⟨z1, z2, ⟨p, q, z3⟩, z4, z5⟩ := z'
  have lt : ∀ c ∈ zfp n, c < s.heap.objs.size := fun c hc => by obtain ⟨o, e, _⟩ := z.obj c hc; exact Heap.lt_size e
  refine wpAny_pyNext_zip_item D z1 z2 z3 z4 z5 pa.isList pb.isList (x := u) (y := v) (by simpa using hu) (by simpa using hv) fun g g1 g2 g3 g4 g5 _ kp => hQ _ _ ?_
  refine wpAny_letOwnedTupleGo_zip (s := { s with heap := g }) g1 fun g' k1 sb => ?_
  have hT : g'.get? s.heap.objs.size = some { cls := .type "tuple", data := .seq #[u, v] } := (sb.2 _ (Nat.ne_of_gt (lt _ (by simp)))).trans g5
  have tot : ∀ c o, c ∉ zfp n → s.heap.get? c = some o → g'.get? c = some o := fun c o hc e => by
    have hc : ¬ (c = n + 4 ∨ c = n + 2 ∨ c = n + 3 ∨ c = n ∨ c = n + 1) := fun w => hc (by simpa using w)
    simp only [not_or] at hc
    exact (sb.2 c hc.1).trans (kp c o hc.1 hc.2.2.1 hc.2.2.2.1 hc.2.2.2.2 e)
  refine ⟨I.hok.fresh (Nat.le_refl _), I.turnedNew (t' := s.toks) (ch := zfp n) tot hf (Nat.le_refl _) ⟨by show 2 ≤ sizeLine; decide, [u, v], .cons r1 (.cons r2 .nil), ⟨_, hT, rfl, _, rfl⟩⟩, ⟨k1, ?_, ⟨u, v, (sb.2 _ D.TOz).trans g2⟩, g3.at fun o e => (sb.2 _ D.i1z).trans e, g4.at fun o e => (sb.2 _ D.i2z).trans e⟩, fun c hc => ?_⟩
  · exact (sb.2 _ D.TIz).trans (kp _ _ D.TIz D.TITO D.TIi1 D.TIi2 z2)
  · rw [upd_ne (Nat.ne_of_lt (lt c hc))]
    exact (hf c hc).1
/-- .. and the end -/
theorem zip_stop {x1 : Addr} {oe : Obj} {Q : Option Value → Shared → Prop} (I : Inv X pins σ H s) (hA : X.A.handled = some (.ref x1)) (hoe : ∃ vs : Array Value, oe.data = .fields vs ∧ vs[2]? = some .none) (hp : (x1, oe) ∈ X.pn ++ pins) (D : ZipApart (n + 4) (n + 2) (n + 3) n (n + 1) a b) (hf : ∀ c ∈ zfp n, FpOk X pins H c) (z : ZAt n a b i s.heap) (qa : SqL X.K H a xs) (hx : xs.length ≤ i)
    (hQ : ∀ s1, Inv X pins σ H s1 → Q none s1) : wpAny (model X.prog X.w) X.A (pyNext (.ref (n + 4))) Q E s := by
  obtain ⟨us, ru, pa, _⟩ := I.list qa
  have z' := z
  obtain ⟨z1, z2, ⟨p, q, z3⟩, z4, z5⟩ := z'
  obtain ⟨vs, d, c2⟩ := hoe
  have hot : HotAt X.A x1 s.heap := ⟨hA, oe, vs, (I.pin _ hp).1, d, c2⟩
  have ne : ∀ c ∈ zfp n, x1 ≠ c := fun c hc => (hf c hc).2.2.2.2.2 _ hp
  have hl := ru.length
  refine next_zip_end hot (ne _ (by simp)) (ne _ (by simp)) D z1 z2 z3 z4 pa.isList (by simp; omega) fun g kp => hQ _ (I.turnedL (t' := s.toks) (ch := zfp n) (fun c o hc e => ?_) hf)
  have hc : ¬ (c = n + 4 ∨ c = n + 2 ∨ c = n + 3 ∨ c = n ∨ c = n + 1) := fun w => hc (by simpa using w)
  simp only [not_or] at hc
  exact kp c o hc.1 hc.2.2.1 hc.2.2.2.1 hc.2.2.2.2 e
end
end QH
set_option Elab.async false
set_option linter.all false
set_option maxRecDepth 100000
set_option maxHeartbeats 2000000
/-! Q23: a tuple taken apart while an exception is handled. -/
namespace QH
open PySem PySem.Spec PyProof.Rows L2 HotX
section
variable {prog : Program} {w : World} {A : Around} {E : Value → Shared → Prop} {s : Shared}
theorem tup_end {it t x1 : Addr} {i : Nat} {items : Array Value} {Q : Option Value → Shared → Prop} (hot : HotAt A x1 s.heap) (nx : x1 ≠ it) (hit : IsTupIter s.heap it t i) (ht : IsTup s.heap t items) (hx : items[i]? = none)
    (hQ : ∀ g, Heap.ExtBut it s.heap g → Q none { s with heap := g }) : wpAny (model prog w) A (pyNext (.ref it)) Q E s := by
  obtain ⟨hh, o1, vs1, g1, d1, c1⟩ := hot
  obtain ⟨oi, hoi, hci, hdi⟩ := id hit; obtain ⟨ol, hol, _, nl, hdl⟩ := ht
  unfold pyNext
  refine wpAny_bind (wpAny_attempt (wpAny_callSpecial?_slot (name := Str.ofString "__next__") hit.typeIs slot_tupleiter_next (wpAny_call_entry slot_tupleiter_next hit.typeIs entry_tupleiter_next ?_ (args_tupleiter_next _))))
  show wpAny _ _ (field (.ref it) 0 >>= _) _ _ s; refine wpAny_bind (wpAny_field hoi hdi (x := .ref t) rfl ?_)
  show wpAny _ _ (if (Value.ref t == Value.none) = true then _ else _) _ _ s; rw [if_neg (show ¬ ((Value.ref t == Value.none) = true) from Bool.false_ne_true)]
  show wpAny _ _ (field (.ref it) 1 >>= _) _ _ s; refine wpAny_bind (wpAny_field hoi hdi (x := .int i 0) rfl ?_)
  show wpAny _ _ (seqItems? (.ref t) >>= _) _ _ s; refine wpAny_bind (wpAny_seqItems hol hdl ?_); simp only [Int.toNat_natCast, hx]
  refine wpAny_bind (wpAny_rule (wpAny_bind (wpAny_setField hoi hdi (by simp) ?_)))
  have sb : Heap.SameBut it s.heap (s.heap.update it (Obj.mapFields (·.setIfInBounds 0 Value.none))) := Heap.SameBut.update ..
  generalize hg : s.heap.update it (Obj.mapFields (·.setIfInBounds 0 Value.none)) = g at sb ⊢
  have gx : g.get? x1 = some o1 := (sb.2 _ nx).trans g1
  show wpAny _ _ (newExc (.type "StopIteration") [] >>= _) _ _ _; refine wpAny_bind ?_; simp only [newExc, newTuple]
  refine wpAny_bind (wpAny_newObj_type ?_ (by size_fits)); refine wpAny_bind (m := firstArgMember _ _) (wpAny_of_eq (a := Value.none) (by first | rfl | (simp only [firstArgMember]; rfl)) (wpAny_newObj_type ?_ (by size_fits)))
  refine raiseNew_hot (A := A.in1) ⟨hh, o1, vs1, Heap.get?_push_of_some _ (Heap.get?_push_of_some _ gx), d1, c1⟩ (Nat.ne_of_lt (Heap.lt_size (Heap.get?_push_of_some _ gx))) (Heap.get?_push_size _ rfl) rfl (by first | (simp; done) | (simp; omega) | (simp only [Array.size_append]; simp; omega)) ?_
  refine wpAny_bind (wpAny_isInstance (T := "StopIteration") (b := true) ⟨_, Heap.get?_update_self _ (Heap.get?_push_size _ rfl) rfl, rfl⟩ isSubtype_stop (wpAny_pure (hQ _ fun b o nb e => ?_)))
  have e2 := (sb.2 b nb).trans e
  rw [Heap.get?_update_other _ _ (Nat.ne_of_gt (Heap.lt_size (Heap.get?_push_of_some _ e2)))]; exact Heap.get?_push_of_some _ (Heap.get?_push_of_some _ e2)
theorem items_hot {t x1 : Addr} {items : Array Value} {Q : List Value → Shared → Prop} (hot : HotAt A x1 s.heap) (ht : IsTup s.heap t items) (hQ : ∀ g, Heap.ExtBut s.heap.objs.size s.heap g → Q items.toList { s with heap := g }) : wpAny (model prog w) A (unpackItems (.ref t) items.size none) Q E s := by
  have tn : t ≠ s.heap.objs.size := by obtain ⟨o, ho, _⟩ := ht; exact Nat.ne_of_lt (Heap.lt_size ho)
  obtain ⟨hh, o1, vs1, e1, r1⟩ := hot
  have xn : x1 ≠ s.heap.objs.size := Nat.ne_of_lt (Heap.lt_size e1)
  unfold unpackItems
  refine wpAny_bind ?_
  unfold notIterableAtAll
  refine wpAny_bind (wpAny_specialOf ht.typeIs slot_tuple_iter.lookup (wpAny_pure ?_))
  simp only [Bool.false_eq_true, if_false]
  refine wpAny_bind (wpAny_holding (iter_tuple ht (wpAny_bind (wpAny_holding (draw_tuple tn items.size 0 _ _ ⟨_, Heap.get?_push_size _ rfl, rfl, rfl⟩ (ht.push _) (by omega) fun g hit sb => ?_)))))
  rw [List.drop_zero, List.take_of_length_le (by simp), if_neg (by simp)]
  have hot2 : HotAt A x1 g := ⟨hh, o1, vs1, (sb.2 _ xn).trans (Heap.get?_push_of_some _ e1), r1⟩
  refine wpAny_bind (wpAny_holding (tup_end hot2 xn hit ((ht.push _).extBut sb.extBut tn) (by simp) fun g2 k2 => ?_))
  simp only [Option.isSome_none, Bool.false_eq_true, if_false]
  exact wpAny_pure (hQ g2 fun b o hb e => k2 b o hb (sb.extBut b o hb (Heap.get?_push_of_some _ e)))
end
/-- (a, b, ..) = a tuple of that length, the exception at x1 handled and pinned -/
theorem pg_tupH {X : Cx} {es : List Expr} {k : Nat} {pos : Pos} {t : TGs} {n : Nat} (h : PGs X es t) {x1 : Addr} {oe : Obj} (hA : X.A.handled = some (.ref x1)) (hoe : ∃ vs : Array Value, oe.data = .fields vs ∧ vs[2]? = some .none) (hn : (assignEach es X.env).length = n := by rfl) (hst : (assignEach es X.env).findIdx? (·.1) = none := by rfl) :
    ∀ (pins : List (Addr × Obj)) (s : Shared) (σ : L2.St) (H : Hp) (v : V) (u : Value) (Q : L2.St → Hp → Prop), (x1, oe) ∈ X.pn ++ pins → Inv X pins σ H s → RelV v u → gTup X.K n t v σ H Q →
    wpAny (model X.prog X.w) X.A (assign (.Tuple es k pos) X.env u) (fun _ s' => ∃ σ' H', Inv X pins σ' H' s' ∧ Q σ' H') X.xe s := by
  intro pins s σ H v u Q hp I r ⟨a, xs, e, hq, hl, hw⟩
  subst e; cases r
  obtain ⟨us, rv, ht, _⟩ := I.tuple hq
  obtain ⟨vs, d, c2⟩ := hoe
  rw [assign_Tuple]
  refine wpAny_bind (wpAny_standAt ?_)
  unfold unpack
  rw [show (assignEach es X.env).length = us.toArray.size by simp [hn, ← hl, rv.length], hst]
  refine wpAny_bind (wpAny_holding (items_hot ⟨hA, oe, vs, (I.pin _ hp).1, d, c2⟩ ht fun g k2 => ?_))
  exact h.run pins _ σ H xs _ Q (I.kept (t' := s.toks) fun b o e => k2 b o (Nat.ne_of_lt (Heap.lt_size e)) e) (by simpa using rv) hw
end QH
set_option Elab.async false
set_option linter.all false
set_option maxRecDepth 100000
set_option maxHeartbeats 2000000
/-! Q24: the comprehension itself. -/
namespace QH
open PySem PySem.Spec PyProof.Rows L2 HotX
/-- a store that needs p among the pins -/
def PGp (X : Cx) (p : Addr × Obj) (tg : Expr) (t : TG) : Prop := ∀ (pins : List (Addr × Obj)) (s : Shared) (σ : L2.St) (H : Hp) (v : V) (u : Value) (Q : L2.St → Hp → Prop), p ∈ X.pn ++ pins → Inv X pins σ H s → RelV v u → t v σ H Q →
  wpAny (model X.prog X.w) X.A (assign tg X.env u) (fun _ s' => ∃ σ' H', Inv X pins σ' H' s' ∧ Q σ' H') X.xe s
/-- a zip whose first list is not the longer one -/
def Itz1 (K : PySem.W.Frag) (a b : Addr) : It :=
  ⟨fun i H => ∃ (xs ys : List V) (x y : V), SqL K H a xs ∧ SqL K H b ys ∧ xs[i]? = some x ∧ ys[i]? = some y, fun i H v G => ∃ T x y, v = .ref T ∧ H T = none ∧ G = upd H T (.tup [x, y]) ∧ (∀ xs, SqL K H a xs → xs[i]? = some x) ∧ ∀ ys, SqL K H b ys → ys[i]? = some y, fun i H => ∃ xs : List V, SqL K H a xs ∧ xs.length ≤ i⟩
def iZip1 (K : PySem.W.Frag) (ta : TA) : TI := fun σ H R => ta σ H fun vs G => ∃ a b xs ys, vs = [.ref a, .ref b] ∧ SqL K G a xs ∧ SqL K G b ys ∧ R (Itz1 K a b) G
section
variable {X : Cx}
theorem repin {pins pins' : List (Addr × Obj)} {σ : L2.St} {H : Hp} {s : Shared} (I : Inv X pins σ H s) (h : ∀ p ∈ pins', p ∈ X.pn ++ pins) : Inv X pins' σ H s := I.pins_of fun p hp => I.pin p (h p hp)
/-- y = [elt for .. in zip(ea, eb) if ..], y a local, the exception at x1 handled -/
theorem ps_hotLc {i : Nat} {y : Str} {py p pz tp : Pos} {elt ea eb : Expr} {elts ifs : List Expr} {kk : Nat} {scope : Scope} {own : List (Str × Nat)} {pos spos : Pos} {ta : TA} {g : TG} {tt : TT} {te : TE} {x1 : Addr} {oe : Obj}
    (hA : X.A.handled = some (.ref x1)) (hoe : ∃ vs : Array Value, oe.data = .fields vs ∧ vs[2]? = some .none) (hp : (x1, oe) ∈ X.pn) (hN : X.N.Nodup) (hy : X.N[i]? = some y) (hyl : X.env.scope.names.lookup y = some .local)
    (hsw : swapsWith (.ListComp elt [⟨.Tuple elts kk tp, .Call (.Name "zip" p) [ea, eb] [] pz, ifs, 0⟩] scope pos) (some (.Name y py)) spos.line X.env = pure true) (hgl : Gl X "zip") (hm : X.mg "zip" = none) (ha : PA X [ea, eb] ta) (ok : BlkOk X.N X.env.scope scope own)
    (hg : ∀ (s : Shared) (H : Hp) (C : Addr) (cl : List (Str × Addr)) (fp : List Addr), PGp (X.blk s H scope (compEnvC scope cl C X.env) fp) (x1, oe) (.Tuple elts kk tp) g) (ht : ∀ (s : Shared) (H : Hp) (C : Addr) (cl : List (Str × Addr)) (fp : List Addr), PTs (X.blk s H scope (compEnvC scope cl C X.env) fp) ifs tt)
    (he : ∀ (s : Shared) (H : Hp) (C : Addr) (cl : List (Str × Addr)) (fp : List Addr), PE (X.blk s H scope (compEnvC scope cl C X.env) fp) elt te)
    (hs1 : starEach [ea, eb] X.env = (false, eval ea X.env) :: starEach [eb] X.env := by rfl) (hs2 : (backTo pz (starEach [eb] X.env)).any (·.1) = false := by rfl) :
    PS X (.Assign [.Name y py] (.ListComp elt [⟨.Tuple elts kk tp, .Call (.Name "zip" p) [ea, eb] [] pz, ifs, 0⟩] scope pos) spos) (tAsg (tLc (iZip1 X.K ta) g tt te (own.map (·.2))) (gName i)) := by
  refine ⟨fun pins s σ H D0 I h => ?_⟩
  rw [exec_Assign_Name_used _ _ _ _ hsw]
  refine wpAny_bind (wpAny_standAt (wpAny_bind ?_))
  show wpAny _ X.A (do let _ ← comprehension _ scope X.env (firstIterPos [⟨.Tuple elts kk tp, .Call (.Name "zip" p) [ea, eb] [] pz, ifs, 0⟩] pos) (newList []) false (eval (.Call (.Name "zip" p) [ea, eb] [] pz) X.env) (some (assign (.Name y py) X.env))) _ _ s
  have h : tLc (iZip1 X.K ta) g tt te (own.map (·.2)) σ H (fun x H1 => gName i x σ H1 D0.nx) := h
  refine wpAny_bind (thn (Q := fun _ s' => SP X pins D0 .next s') ?_ fun _ s' hq => wpAny_pure (wpAny_pure hq))
  have hfree : ∀ y ∈ scope.names, y.2 = .free → ∃ c, X.env.cells.lookup y.1 = some c := fun y hy e => I.ok.has _ ((ok.free y hy e).imp id id)
  refine wpAny_comprehension_free rfl (fun _ => rfl) (closure_ok hfree) ok.kind (fun y hy e => by rw [ok.uniq y hy, e]) ?_
  refine Call_ (ld_blt I hgl hm PyProof.Rows.boot_zip (PyProof.Rows.callWith_type1 (thn (ha.run pz pins s σ H _ I h) fun us s1 ⟨vs, H1, I1, r1, a, b, xs, ys, ex, qa, qb, q⟩ => ?_) hs1 hs2))
  subst ex
  obtain ⟨u1, u2, rfl, ra, rb⟩ := vals2 r1
  cases ra; cases rb
  obtain ⟨_, _, pa, _⟩ := I1.list qa
  obtain ⟨_, _, pb, _⟩ := I1.list qb
  have la := pa.lt
  have lb := pb.lt
  refine call_zip_2 pa.isList pb.isList fun h1 z1 z2 z3 z4 z5 hsz hk => wpAny_pyIter_zip z1 ?_
  have I2 : Inv X pins σ H1 { s1 with heap := h1 } := I1.kept (t' := s1.toks) hk
  have Z2 : ZAt s1.heap.objs.size a b 0 h1 := ⟨z1, z2, ⟨_, _, z3⟩, z4, z5⟩
  have AP := PySem.W.ktu_apart s1.heap.objs.size a b la lb
  have f2 : ∀ c ∈ zfp s1.heap.objs.size, FpOk X pins H1 c := fun c hc => by
    have hle : s1.heap.objs.size ≤ c := (zfp_rng hc).1
    exact I1.fpOk hle (I1.hok.fresh hle)
  have lt2 : ∀ c ∈ zfp s1.heap.objs.size, c < h1.objs.size := fun c hc => by rw [hsz]; exact (zfp_rng hc).2
  generalize s1.heap.objs.size = n at *
  generalize hs2e : ({ s1 with heap := h1 } : Shared) = s2 at I2 ⊢
  have e2 : s2.heap = h1 := by rw [← hs2e]
  refine wpAny_newObj_type (newEnv_comp ?_) (by show 0 ≤ sizeLine; decide)
  have hD0 : H1 s2.heap.objs.size = none := I2.hok.fresh (Nat.le_refl _)
  obtain ⟨W, ⟨m0, w0⟩, turn⟩ := q _ hD0
  have hDf : ∀ c ∈ zfp n, c ≠ s2.heap.objs.size := fun c hc => Nat.ne_of_lt (by rw [e2]; exact lt2 c hc)
  generalize hD : s2.heap.objs.size = D at *
  generalize hs3 : ({ s2 with heap := s2.heap.push { cls := .type "list", data := .seq ([] : List Value).toArray } } : Shared) = s3
  have h3 : s3.heap = s2.heap.push { cls := .type "list", data := .seq ([] : List Value).toArray } := by rw [← hs3]
  have k3 : ∀ c o, s2.heap.get? c = some o → s3.heap.get? c = some o := fun c o e => by rw [h3]; exact Heap.get?_push_of_some _ e
  have I3 : Inv X pins σ (upd H1 D (.lst [])) s3 := by
    rw [← hs3]
    exact I2.laid (t' := s2.toks) (fun c o e => Heap.get?_push_of_some _ e) (Nat.le_of_eq hD) ⟨Nat.zero_le _, [], 0, .nil, by rw [← hD]; exact Heap.get?_push_size _ rfl⟩
  generalize hH3 : upd H1 D (.lst []) = H3 at *
  have f3 : ∀ c ∈ zfp n, FpOk X pins H3 c ∧ c < s3.heap.objs.size := fun c hc => ⟨⟨by rw [← hH3, upd_ne (hDf c hc)]; exact (f2 c hc).1, (f2 c hc).2⟩, by rw [h3, Heap.size_push, e2]; exact Nat.lt_succ_of_lt (lt2 c hc)⟩
  have Z3 : ZAt n a b 0 s3.heap := Z2.keep fun c _ o e => k3 c o (by rw [e2]; exact e)
  have I4 := block_start I3 ok hN f3
  have pg := hg s3 H3 s3.heap.objs.size (cellsFrom (s3.heap.objs.size + 1) scope.names (cloFrom X.env.cells scope.names [])) (zfp n)
  have pt := ht s3 H3 s3.heap.objs.size (cellsFrom (s3.heap.objs.size + 1) scope.names (cloFrom X.env.cells scope.names [])) (zfp n)
  have pe := he s3 H3 s3.heap.objs.size (cellsFrom (s3.heap.objs.size + 1) scope.names (cloFrom X.env.cells scope.names [])) (zfp n)
  show codeAny _ _ (.compStart (.ListComp elt [⟨.Tuple elts kk tp, .Call (.Name "zip" p) [ea, eb] [] pz, ifs, 0⟩] scope pos) 0 (.ref (n + 4)) (.ref D) (compEnvC scope (cellsFrom (s3.heap.objs.size + 1) scope.names (cloFrom X.env.cells scope.names [])) s3.heap.objs.size X.env))
    (compPost (model X.prog X.w) X.A X.xe (some (assign (.Name y py) X.env)) (fun _ s' => SP X pins D0 .next s') (.ref D) s3.heap.objs.size) { s3 with heap := pushCells (s3.heap.push { cls := .type "dict", data := .dict #[] }) scope.names }
  generalize hce : compEnvC scope (cellsFrom (s3.heap.objs.size + 1) scope.names (cloFrom X.env.cells scope.names [])) s3.heap.objs.size X.env = ce at I4 pg pt pe ⊢
  have cL : ce.locals = s3.heap.objs.size := by rw [← hce]; rfl
  have kp4 : ∀ c o, s3.heap.get? c = some o → (pushCells (s3.heap.push { cls := .type "dict", data := .dict #[] }) scope.names).get? c = some o := fun c o e => pushCells_keeps _ _ _ _ (Heap.get?_push_of_some _ e)
  have P3 := I3.pin (x1, oe) (List.mem_append_left _ hp)
  have I5 : Inv (X.blk s3 H3 scope ce (zfp n)) [(x1, oe)] (wipe σ (own.map (·.2))) H3 { s3 with heap := pushCells (s3.heap.push { cls := .type "dict", data := .dict #[] }) scope.names } := I4.pins_of fun q hq => by
    have hq : q = (x1, oe) := by simpa using hq
    subst hq
    exact ⟨kp4 _ _ P3.1, P3.2.1, fun e => Nat.ne_of_lt (Heap.lt_size P3.1) (e.trans cL), fun hm => (List.mem_cons.mp (I3.stkSub x1 hm)).elim P3.2.2.1 P3.2.2.2.1, P3.2.2.2.2⟩
  have stat : ∀ {σ' : L2.St} {G : Hp} {s' : Shared}, Inv (X.blk s3 H3 scope ce (zfp n)) [(x1, oe)] σ' G s' → (∀ c ∈ zfp n, G c = none) → ∀ c ∈ zfp n, FpOk (X.blk s3 H3 scope ce (zfp n)) [(x1, oe)] G c := fun {σ' G s'} I' hn c hc => by
    refine ⟨hn c hc, (I'.ok.exf c hc).1, I'.ok.exfs c hc, .inl hc, fun x d e => (I'.ok.exf c hc).2 x d e, fun q hq => ?_⟩
    have hq : q = (x1, oe) := by simpa using hq
    subst hq
    exact (f3 c hc).1.2.2.2.2.2 _ (List.mem_append_left _ hp)
  have Z5 : ZAt n a b 0 (pushCells (s3.heap.push { cls := .type "dict", data := .dict #[] }) scope.names) := Z3.keep fun c _ o e => kp4 c o e
  have loop : codeAny (model X.prog X.w) X.A (.compLoop (.ListComp elt [⟨.Tuple elts kk tp, .Call (.Name "zip" p) [ea, eb] [] pz, ifs, 0⟩] scope pos) 0 (.ref (n + 4)) (.ref D) ce) (compPost (model X.prog X.w) X.A X.xe (some (assign (.Name y py) X.env)) (fun _ s' => SP X pins D0 .next s') (.ref D) s3.heap.objs.size) { s3 with heap := pushCells (s3.heap.push { cls := .type "dict", data := .dict #[] }) scope.names } := by
    refine compLoop_any (fun m s' => ∃ i G, Inv (X.blk s3 H3 scope ce (zfp n)) [(x1, oe)] (wipe σ (own.map (·.2))) G s' ∧ ZAt n a b i s'.heap ∧ (∀ c ∈ zfp n, G c = none) ∧ W i m G) ?_ m0 ⟨0, H3, I5, Z5, fun c hc => (f3 c hc).1.1, w0⟩
    rintro m s5 ⟨j, G5, J5, Z6, n5, w5⟩
    rcases turn j m G5 w5 with ⟨⟨xs', qx, lx⟩, qq⟩ | ⟨⟨xs', ys', x, y', qx, qy, hx, hy'⟩, Nx, hNx, step⟩
    · refine zip_stop (X := X.blk s3 H3 scope ce (zfp n)) J5 hA hoe (List.mem_append_right _ List.mem_cons_self) AP (stat J5 n5) Z6 qx lx fun s6 J6 => ?_
      have I7 : Inv X pins σ G5 s6 := I3.call' (ch := zfp n) J6.os J6.base J6.hok J6.bare fun c hc => ⟨(f3 c hc).1.2.2.2.1, (f3 c hc).1.2.1, (f3 c hc).1.2.2.2.2.1, (f3 c hc).1.2.2.2.2.2⟩
      have nC : G5 s3.heap.objs.size = none := cL ▸ (show G5 ce.locals = none from J6.free)
      obtain ⟨mm, hn, _⟩ := J6.loc
      have hn : s6.heap.Ns s3.heap.objs.size mm := cL ▸ (show s6.heap.Ns ce.locals mm from hn)
      obtain ⟨f0, f1, fs, f3', f4, f5⟩ := I3.fpOk (Nat.le_refl _) nC
      show wpAny _ _ (assign (.Name y py) X.env (.ref D)) _ _ _
      refine wpAny_assign_Name (store_ok2 (v := V.ref D) I7 hN hy (.inl hyl) rfl (fun s8 I8 ⟨ad, sb, had⟩ => ?_) (.inr hyl))
      have hCa : s3.heap.objs.size ≠ ad := had.elim (fun e => by rw [e]; exact f1) fun e => fun e' => f4 y ad e e'.symm
      exact ⟨mm, hn.sameBut sb hCa, fun h9 sb9 => ⟨_, G5, I8.turned (t' := s8.toks) (fun c o hc e => (sb9.2 c hc).trans e) f0 f1 f3' f4 f5, qq⟩⟩
    · refine zip_step (X := X.blk s3 H3 scope ce (zfp n)) (elts := elts) (kk := kk) (tp := tp) J5 AP (stat J5 n5) Z6 qx qy hx hy' fun T s6 h6 => ?_
      refine thnF h6 fun _ s7 ⟨hT, J7, Z7, n7⟩ => ?_
      have J7' := J7.pinned (stat J7 n7) Z7.obj
      refine thnF (pg _ s7 _ _ (.ref T) (.ref T) _ (List.mem_append_right _ (List.mem_append_left _ List.mem_cons_self)) J7' rfl (step (.ref T) _ ⟨T, x, y', rfl, hT, rfl, fun l hl => by rw [J5.list_inj hl qx]; exact hx, fun l hl => by rw [J5.list_inj hl qy]; exact hy'⟩)) fun _ s8 ⟨σ8, G8, J8, hw8, q8⟩ => ?_
      refine thnF (pt.run _ s8 σ8 G8 _ J8 q8) fun bb s9 ⟨G9, J9, q9⟩ => ?_
      have fin : ∀ {s' : Shared} {G : Hp}, Inv (X.blk s3 H3 scope ce (zfp n)) ([(x1, oe)] ++ pinsAt (zfp n) s7.heap) σ8 G s' → Nx G → ∃ m', m' < m ∧ ∃ i G, Inv (X.blk s3 H3 scope ce (zfp n)) [(x1, oe)] (wipe σ (own.map (·.2))) G s' ∧ ZAt n a b i s'.heap ∧ (∀ c ∈ zfp n, G c = none) ∧ W i m' G := fun {s' G} J' nx => by
        obtain ⟨m', hm', w'⟩ := hNx G nx
        have st : ∀ c ∈ zfp n, ∀ o, s7.heap.get? c = some o → s'.heap.get? c = some o ∧ G c = none := fun c hc o e => ⟨(J'.pin (c, o) (List.mem_append_right _ (List.mem_append_right _ (mem_pinsAt hc e)))).1, (J'.pin (c, o) (List.mem_append_right _ (List.mem_append_right _ (mem_pinsAt hc e)))).2.1⟩
        refine ⟨m', hm', j + 1, G, (J'.unpinned (pins := [(x1, oe)])).weak (by rw [← hw8, wipe_length]) (fun k v e => ?_), Z7.keep fun c hc o e => (st c hc o e).1, fun c hc => ?_, w'⟩
        · rw [← hw8] at e
          exact (wipe_some e).1
        · obtain ⟨o, e, _⟩ := Z7.obj c hc
          exact (st c hc o e).2
      cases bb with
      | false => exact fin J9 (by simpa using q9)
      | true =>
        simp only [if_true] at q9 ⊢
        refine thnF (pe.run _ s9 σ8 G9 _ J9 q9) fun v s10 ⟨yv, G10, J10, r10, acc, hD10, hz10, nx⟩ => ?_
        exact app_ok (X := X.blk s3 H3 scope ce (zfp n)) J10 hD10 hz10 r10 fun s11 J11 => fin J11 nx
  exact codeAny_compStart_list loop (wpAny_pyIter_zip Z5.1 loop)
end
end QH
set_option Elab.async false
set_option linter.all false
set_option maxRecDepth 100000
set_option maxHeartbeats 2000000
/-! Q25: the comprehension over a zip in a handler, on data; split. -/
namespace QL
open PySem PySem.Spec PyProof.Rows L2
variable [LawTabs]
/-- a.split(b) -/
def splitD : D → List D → Option D
  | .str a, [.str b] => if (b.length == 0) = false ∧ a.length + 2 ≤ sizeLine then some (.list ((Txt.split a b).map .str)) else none
  | _, _ => none
theorem dpAll_strs {K : PySem.W.Frag} {H : Hp} : ∀ (ys : List Str), DpAll K H (ys.map V.str) (ys.map PyData.str)
  | [] => .nil
  | y :: ys => .cons (.str y) (dpAll_strs ys)
theorem m_split {X : Cx} {O : Addr → Prop} : MtR X "str.split" (rM X.K O splitD) := by
  intro pins s σ H x xs v us Q I rx rs ⟨d, ds, z, hd, hds, hO, hg, hq⟩
  unfold splitD at hg
  split at hg
  · split at hg
    · rename_i hz
      cases hg
      obtain ⟨w, rfl, h⟩ := DpAll.one hds
      obtain rfl := Dp.str_of h
      obtain rfl := Dp.str_of hd
      exact mt_split pins s σ H _ _ v us Q I rx rs ⟨_, _, rfl, rfl, hz.1, hz.2, fun p hp => hq _ _ (.of (same_new hp)) (Dp.newL hO hp (dpAll_strs _))⟩
    · cases hg
  · cases hg
/-- zip of two lists, the first not longer than the second -/
def zip1D : List D → Option (List D)
  | [.list ds, .list es] => if ds.length ≤ es.length then some (zipL ds es) else none
  | _ => none
end QL
namespace QH
open PySem PySem.Spec PyProof.Rows L2 HotX QL
variable [LawTabs]
section
variable {K : PySem.W.Frag} {H0 : Hp} {own : Addr → Prop}
theorem walkD_zip1 {a b : Addr} {xs ys : List V} {ds es : List QL.D} (h : SqL K (hid H0 own) a xs) (d : DpAll K (hid H0 own) xs ds) (h' : SqL K (hid H0 own) b ys) (d' : DpAll K (hid H0 own) ys es) (hl : ds.length ≤ es.length) : WalkD K own (Itz1 K a b) (zipL ds es) H0 := by
  refine ⟨fun i H hi k => ?_, fun H k => ?_, fun i H x H' e he k y => ?_⟩
  · rw [zipL_length] at hi
    obtain ⟨v, hv, _⟩ := d.get (List.getElem?_eq_getElem (show i < ds.length by omega))
    obtain ⟨w, hw, _⟩ := d'.get (List.getElem?_eq_getElem (show i < es.length by omega))
    exact ⟨xs, ys, v, w, kept_seqL k h, kept_seqL k h', hv, hw⟩
  · rw [zipL_length]
    exact ⟨xs, kept_seqL k h, by rw [d.length]; omega⟩
  · obtain ⟨d1, d2, h1, h2, h3⟩ := zipL_get he
    obtain ⟨v, hv, dv⟩ := d.get h1
    obtain ⟨w, hw, dw⟩ := d'.get h2
    obtain ⟨T, z, z2, ex, hT, eH, y1, y2⟩ := y
    have e1 := y1 xs (kept_seqL k h)
    have e2 := y2 ys (kept_seqL k h')
    rw [hv] at e1
    rw [hw] at e2
    cases e1
    cases e2
    subst ex h3
    exact ⟨by rw [eH]; exact SameX.of (same_new hT), fun own' g1 g2 => new_pair hT eH g1 (Dp.same (k.same g2) _ _ dv) (Dp.same (k.same g2) _ _ dw)⟩
end
theorem ti_zip1 {K : PySem.W.Frag} {O : Addr → Prop} {W : XK} {fs : M (List QL.D)} {σ : L2.St} {H : Hp} {R : It → Hp → Prop} (h : tI K O W (rangeM zip1D fs) σ H R) :
    tA K O W fs σ H fun vs G => ∃ a b xs ys, vs = [.ref a, .ref b] ∧ SqL K G a xs ∧ SqL K G b ys ∧ R (Itz1 K a b) G := by
  obtain ⟨ρ, r, h⟩ := h
  refine tA.mono (tA.app r h) fun vs H1 ⟨ds, ρ1, rep1, e1, dp1, q1⟩ => ?_
  obtain ⟨z, hz, q⟩ := RP.opt q1
  unfold zip1D at hz
  split at hz
  · split at hz
    · rename_i hle
      cases hz
      obtain ⟨v, w, rfl, h, h'⟩ := DpAll.two dp1
      obtain ⟨a, xs, rfl, h1, h2⟩ := Dp.list_of h
      obtain ⟨b, ys, rfl, h3, h4⟩ := Dp.list_of h'
      exact ⟨a, b, xs, ys, rfl, hid_le.seq h1, hid_le.seq h3, tI_end rep1 e1 (walkD_zip1 h1 h2 h3 h4 hle) q⟩
    · cases hz
  · cases hz
theorem pgp_tup {X : Cx} {O : Addr → Prop} {P : List Nat} {W : XK} {es : List Expr} {gs : List (QL.D → M Unit)} {pos : Pos} {k n : Nat} {x1 : Addr} {oe : Obj} (h : QGs X P W es (gTs gs)) (hA : X.A.handled = some (.ref x1)) (hoe : ∃ vs : Array Value, oe.data = .fields vs ∧ vs[2]? = some .none) (hl : gs.length = n) (hn : (assignEach es X.env).length = n := by rfl) (hst : (assignEach es X.env).findIdx? (·.1) = none := by rfl) :
    PGp X (x1, oe) (.Tuple es k pos) (tG X.K O P W (gT gs)) := by
  intro pins s σ H v u Q hp I r ht
  refine pg_tupH (h O) hA hoe hn hst pins s σ H v u Q hp I r ?_
  obtain ⟨ρ, d, rp, dp, h⟩ := ht
  cases dp with
  | @tup a xs ds h1 h2 =>
    by_cases hq : ds.length = gs.length
    · have h' : RP (gTs gs ds ρ) (fun _ ρ' => ∀ σ' H', Rep X.K O ρ' σ' H' → Ext P ρ σ H ρ' σ' H' → Q σ' H') (ErrK X.K W ρ σ H) := by
        have z : gT gs (.tuple ds) = gTs gs ds := if_pos hq
        rw [z] at h
        exact h
      exact ⟨a, xs, rfl, seqT_same hid_le h1, by rw [h2.length, hq]; exact hl, ρ, ds, rp, h2, h'⟩
    · have z : gT gs (.tuple ds) = M.stuck := if_neg hq
      rw [z] at h
      exact h.elim
  | _ => exact h.elim
section
variable {X : Cx} {i j : Nat} {b : Addr} {oe : Obj} {P : List Nat} {W : XK}
/-- y = [elt for (..) in zip(ea, eb) if ..], the exception at b handled -/
theorem qs0_hotComp {y : Str} {py p pz tp : Pos} {elt ea eb : Expr} {elts ifs : List Expr} {kk : Nat} {scope : Scope} {own : List (Str × Nat)} {pos spos : Pos} {fs : M (List QL.D)} {gs : List (QL.D → M Unit)} {c : M Bool} {e : M QL.D} {Pv vs : List Nat}
    (hA : X.A.handled = some (.ref b)) (hoe : ∃ vs : Array Value, oe.data = .fields vs ∧ vs[2]? = some .none) (hp : (b, oe) ∈ X.pn) (hN : X.N.Nodup) (hy : X.N[j]? = some y) (hyl : X.env.scope.names.lookup y = some .local)
    (hsw : swapsWith (.ListComp elt [⟨.Tuple elts kk tp, .Call (.Name "zip" p) [ea, eb] [] pz, ifs, 0⟩] scope pos) (some (.Name y py)) spos.line X.env = pure true) (hgl : Gl X "zip") (hm : X.mg "zip" = none) (ha : QA0 X i b W [ea, eb] fs) (ok : BlkOk X.N X.env.scope scope own)
    (hg : ∀ (s : Shared) (H : Hp) (C : Addr) (cl : List (Str × Addr)) (fp : List Addr), QGs (X.blk s H scope (compEnvC scope cl C X.env) fp) Pv W0 elts (gTs gs)) (ht : ∀ (s : Shared) (H : Hp) (C : Addr) (cl : List (Str × Addr)) (fp : List Addr), QTs (X.blk s H scope (compEnvC scope cl C X.env) fp) W0 ifs c)
    (he : ∀ (s : Shared) (H : Hp) (C : Addr) (cl : List (Str × Addr)) (fp : List Addr), QE (X.blk s H scope (compEnvC scope cl C X.env) fp) W0 elt e) (hP : j ∉ P := by decide) (hvs : own.map (·.2) = vs := by rfl) (hcov : covered X.N.length vs Pv = true := by rfl)
    (hl : gs.length = elts.length := by rfl) (hn : ∀ env, (assignEach elts env).length = elts.length := by intro _; rfl) (hst : ∀ env, (assignEach elts env).findIdx? (·.1) = none := by intro _; rfl)
    (hs1 : starEach [ea, eb] X.env = (false, eval ea X.env) :: starEach [eb] X.env := by rfl) (hs2 : (backTo pz (starEach [eb] X.env)).any (·.1) = false := by rfl) :
    QS0 X i b P W (.Assign [.Name y py] (.ListComp elt [⟨.Tuple elts kk tp, .Call (.Name "zip" p) [ea, eb] [] pz, ifs, 0⟩] scope pos) spos) (setS j (compM (rangeM zip1D fs) (gT gs) c e vs)) := fun O => by
  refine ⟨fun pins s σ H E I ⟨h0, ρ, r, h⟩ => ?_⟩
  have hσ : σ.length = X.N.length := I.len
  refine (ps_hotLc (g := tGx X.K Pv W0 (gT gs)) (tt := tTx X.K W0 c) (te := tEx X.K W0 e) hA hoe hp hN hy hyl hsw hgl hm (ha O) ok
    (fun s H C cl fp => fun pins s' σ H v u Q hp I r ⟨O, h⟩ => pgp_tup (hg s _ C cl fp) hA hoe hl (hn _) (hst _) pins s' σ H v u Q hp I r h)
    (fun s H C cl fp => ⟨fun pins s' σ H Q I ⟨O, h⟩ => (ht s _ C cl fp O).run pins s' σ H Q I h⟩)
    (fun s H C cl fp => ⟨fun pins s' σ H Q I ⟨O, h⟩ => (he s _ C cl fp O).run pins s' σ H Q I h⟩) hs1 hs2).run pins s σ H E I ?_
  rw [hvs]
  have key := comp_read (Q := fun x H1 => gName j x σ H1 E.nx) hσ (covered_all hcov) (tE.mono (tE.app r h) fun v H1 ⟨d, ρ1, rep1, e1, dp1, q1⟩ => q1 _ _ (rep1.setIm dp1) (e1.toP.trans (Ext.setIm hP)))
  exact ⟨h0, ti_zip1 key⟩
end
end QH
set_option Elab.async false
set_option linter.all false
set_option maxRecDepth 100000
set_option maxHeartbeats 2000000
/-! Q26: the def that tells an exception's name, called in the except suite. -/
namespace QH
open PySem PySem.Spec PyProof.Rows L2 HotX QL
/-- what isinstance wants of an exception class -/
def excCB (K : PySem.W.Frag) (D : Addr) : Bool :=
  decide (PySem.W.findIn K (.ref D) "__getattribute__" = some (some (.builtin "BaseException.__getattribute__"))) && (decide (PySem.W.findIn K (.ref D) "__getattr__" = some none) && (decide (PySem.W.subIn K (.ref D) (.type "BaseException") = some true) && (PySem.W.hasDictIn K D && (decide (PySem.W.findIn K (.ref D) "__class__" = some (some (.builtin "object.__class__")))
    && (decide (PySem.W.specialIn K (.builtin "object.__class__") "__get__" = some (some (.builtin "getset_descriptor.__get__"))) && (decide (PySem.W.takesIn K (.builtin "object.__class__") = some true) && decide (PySem.W.mroIn K D (.type "object") = some true)))))))
theorem excCB_ok {K : PySem.W.Frag} {D : Addr} (h : excCB K D = true) : ExcC K D := by
  unfold excCB at h
  simp only [Bool.and_eq_true, decide_eq_true_eq] at h
  obtain ⟨h1, h2, h3, h4, h5, h6, h7, h8⟩ := h
  exact ⟨h1, h2, h3, h4, h5, h6, h7, h8⟩
/-- the classes that are asked for -/
def excNames : List Str := ["InvalidRule", "InvalidYear", "InvalidFlag", "InvalidIndex", "InvalidFraction", "InvalidDays", "InvalidChain", "InvalidNumber", "InvalidDay", "InvalidSeen", "InvalidText", "NotThere", "TooMany", "NothingToUndo", "LeapError"]
def isSub (c C : Str) : Bool := decide (c = C) || decide (C = "LeapError")
/-- what is told of the classes cs -/
def exB (cs : List Str) (K : PySem.W.Frag) : Bool := cs.all fun c => excCB K (He.ga K c) && (decide (PySem.W.kitOne K (.ref (He.ga K c)) (.type "ValueError") = some true) && (decide (PySem.W.exmOne K (.ref (He.ga K c)) (.ref (He.ga K "LeapError")) = some true)
  && excNames.all fun C => decide (PySem.W.kitOne K (.ref (He.ga K c)) (.ref (He.ga K C)) = some (isSub c C))))
structure ExOk (K : PySem.W.Frag) (c : Str) : Prop where
  C : ExcC K (He.ga K c)
  base : PySem.W.kitOne K (.ref (He.ga K c)) (.type "ValueError") = some true
  exm : PySem.W.exmOne K (.ref (He.ga K c)) (.ref (He.ga K "LeapError")) = some true
  sub : ∀ C ∈ excNames, PySem.W.kitOne K (.ref (He.ga K c)) (.ref (He.ga K C)) = some (isSub c C)
theorem exB_ok {cs : List Str} {K : PySem.W.Frag} (h : exB cs K = true) {c : Str} (hc : c ∈ cs) : ExOk K c := by
  have h := List.all_eq_true.mp h c hc
  simp only [Bool.and_eq_true, decide_eq_true_eq] at h
  exact ⟨excCB_ok h.1, h.2.1, h.2.2.1, fun C hC => of_decide_eq_true (List.all_eq_true.mp h.2.2.2 C hC)⟩
variable [LawTabs]
theorem q0_isC {X : Cx} {b D A : Addr} {oe : Obj} {i : Nat} {W : XK} {y x : Str} {bb : Bool} {p p1 p2 pos : Pos} (C : ExcC X.K D) (hz : Zc (.ref D) none oe) (hf : ∃ vs, oe.data = .fields vs) (hmem : (b, oe) ∈ X.pn) (hm : X.mg "isinstance" = none) (hN : X.N[i]? = some y) (hm2 : X.mg x = some (.ref A)) (hk : PySem.W.kitOne X.K (.ref D) (.ref A) = some bb)
    (hg : Gl X "isinstance" := by exact rfl) (hv : Vis X.env.scope y := by exact .inl rfl) (hg2 : Gl X x := by exact rfl) (hd' : (y == ("__debug__" : Str)) = false := by decide) (hcd : (y == ("__classdict__" : Str)) = false := by decide) (hd2 : (x == ("__debug__" : Str)) = false := by decide)
    (hs : starEach [.Name y p1, .Name x p2] X.env = (false, eval (.Name y p1) X.env) :: starEach [.Name x p2] X.env := by rfl) (hs2 : starEach [.Name x p2] X.env = (false, eval (.Name x p2) X.env) :: starEach [] X.env := by rfl) (hpl : (backTo pos (starEach [.Name x p2] X.env)).any (·.1) = false := by rfl) :
    QE0 X i b W (.Call (.Name "isinstance" p) [.Name y p1, .Name x p2] [] pos) (cst (.bool bb)) :=
  q0_isE (cv := .ref A) (cu := .ref A) C hz hf hmem hg hm hN hv hd' hcd (pe_glob hg2 hm2 rfl hd2) (fun _ h => h) hk hs hs2 hpl
theorem q0_isT {X : Cx} {b D : Addr} {oe : Obj} {i : Nat} {W : XK} {y x : Str} {T : String} {bb : Bool} {p p1 p2 pos : Pos} (C : ExcC X.K D) (hz : Zc (.ref D) none oe) (hf : ∃ vs, oe.data = .fields vs) (hmem : (b, oe) ∈ X.pn) (hm : X.mg "isinstance" = none) (hN : X.N[i]? = some y) (hm2 : X.mg x = none) (hb : bootBuiltins x = some (.type T)) (hk : PySem.W.kitOne X.K (.ref D) (.type T) = some bb)
    (hg : Gl X "isinstance" := by exact rfl) (hv : Vis X.env.scope y := by exact .inl rfl) (hg2 : Gl X x := by exact rfl) (hd' : (y == ("__debug__" : Str)) = false := by decide) (hcd : (y == ("__classdict__" : Str)) = false := by decide) (hn : x ≠ "__name__" := by decide) (hd2 : (x == ("__debug__" : Str)) = false := by decide)
    (hs : starEach [.Name y p1, .Name x p2] X.env = (false, eval (.Name y p1) X.env) :: starEach [.Name x p2] X.env := by rfl) (hs2 : starEach [.Name x p2] X.env = (false, eval (.Name x p2) X.env) :: starEach [] X.env := by rfl) (hpl : (backTo pos (starEach [.Name x p2] X.env)).any (·.1) = false := by rfl) :
    QE0 X i b W (.Call (.Name "isinstance" p) [.Name y p1, .Name x p2] [] pos) (cst (.bool bb)) :=
  q0_isE (cv := .ty T) (cu := .type T) C hz hf hmem hg hm hN hv hd' hcd (pe_bltn hg2 hm2 hb rfl hn hd2) (fun _ h => h) hk hs hs2 hpl
theorem rep_no {K : PySem.W.Frag} {O : Addr → Prop} {n : Nat} {σ : Sg} {H : Hp} (hl : σ.length = n) (hO : ∀ b, O b → Trk H b) (tb : TabL K H) : Rep K O (List.replicate n .no) σ H ∧ ∀ b, ¬ Own (List.replicate n .no) σ b := by
  have get : ∀ {i : Nat} {s : Sl}, (List.replicate n Sl.no)[i]? = some s → s = .no := fun {i s} h => by
    rw [List.getElem?_replicate] at h
    split at h
    · cases h; rfl
    · cases h
  have no : ∀ b, ¬ Own (List.replicate n .no) σ b := fun b ⟨i, ds, h, _⟩ => (by cases get h)
  exact ⟨⟨by rw [List.length_replicate, hl], fun i d h => (by cases get h), fun i d h => (by cases get h), fun i j a b l h _ _ _ => (by cases get h), fun b h => absurd h (no b), hO, tb⟩, no⟩
/-- nf(e) in the except suite of the def g -/
theorem name_call {X : Cx} {nm : Ex → Option Str} {cs Ng N : List Str} {x e nf pr : Str} {sg : Scope} {g : Addr} {cdg : Value} {st : Stmt} {S : Str → M Out} {p5 p6 p7 : Pos}
    (hg : sg.names.lookup nf = some .globalImplicit) (hdb : (nf == ("__debug__" : Str)) = false) (hi : Ng[1]? = some e) (hl : sg.names.lookup e = some .local) (hde : (e == ("__debug__" : Str)) = false) (hdc : (e == ("__classdict__" : Str)) = false)
    (D : DefAt X.K X.mg nf st) (Sc : FnScope N [pr] (defScope st)) (hb : BindsH nf st [pr])
    (hnm : ∀ y z, nm y = some z → y.c ∈ cs ∧ y.lim = none)
    (hbody : ∀ (A : Around) (outer : List Env) (s : Shared) (H : Hp) (cdv : Value) (b : Addr) (oe : Obj) (c : Str), c ∈ cs → A.handled = some (.ref b) → (∃ vs : Array Value, oe.data = .fields vs ∧ vs[2]? = some .none) → Zc (.ref (He.ga X.K c)) none oe → RoomH 0 (A.deeper (envOfC nf (defScope st) s.heap.objs.size (He.ga X.K nf) cdv)) →
      QSs0 (L2H.cxH (L2N.CX X.prog X.w) X.prog X.w X.K X.mg X.base N nf (defScope st) (He.ga X.K nf) cdv A outer s H (fun _ _ _ => False) (b, oe)) 0 b [0] W0 (defBody st) (S c))
    (hS : ∀ c ∈ cs, ∃ z ρ', nm ⟨c, none⟩ = some z ∧ S c (List.replicate N.length .no) = .ok (.ret (.str z), ρ'))
    (s : Shared) (H : Hp) (b : Addr) (oe : Obj) (cls : Value) (d : Option Addr) (pn : List (Addr × Obj)) (hr : Room 1 (X.A.deeper (envOfC x sg s.heap.objs.size g cdg))) (hz : L2N.Zn cls d oe) (hf : ∃ vs, oe.data = .fields vs) :
    PE ((cxOf (L2N.CX X.prog X.w) X.prog X.w X.K X.mg X.base Ng x sg g cdg X.A X.stack s H W0).suite b ((b, oe) :: pn)) (.Call (.Name nf p5) [.Name e p6] [] p7) fun τ G Q => τ[1]? = some (some (.ref b)) ∧ G b = none ∧ ∃ y z, ErrAt X.K cls d G y ∧ nm y = some z ∧ TabL X.K G ∧ ∀ G', SameT G G' → Q (.str z) G' := by
  refine ⟨fun pins t τ G Q I ⟨hτ, nb, y, z, e1, e2, tb, h3⟩ => ?_⟩
  obtain ⟨hc, hlim⟩ := hnm y z e2
  obtain ⟨yc, yl⟩ := y
  dsimp only at hc hlim
  subst hlim
  obtain ⟨ecls, ed⟩ := e1
  dsimp only at ecls ed
  subst ecls ed
  obtain ⟨fd, F, gm⟩ := D
  have kp := F.kp
  have bd := binds_of F hb
  obtain ⟨oc, od, dV, kV, doc, pm, an, cdv, ct, osl, e, lk, hcd, hD, hK⟩ := F.ex
  subst e
  obtain ⟨vs, hvs⟩ := hf
  have hoe : ∃ vs : Array Value, oe.data = .fields vs ∧ vs[2]? = some .none := ⟨vs, hvs, hz.2.2 vs hvs⟩
  refine (pe_hot (X := cxOf (L2N.CX X.prog X.w) X.prog X.w X.K X.mg X.base Ng x sg g cdg X.A X.stack s H W0) (i := 1) (oe := oe) (pn := pn) (SP0 := fun H Q => TabL X.K H ∧ ∃ z, nm ⟨yc, none⟩ = some z ∧ ∀ G', SameT H G' → Q (.str z) G') lk hcd Sc (k := 0) ⟨hr.dp, hr.un⟩ hoe hg gm kp bd hi (.inl hl) (fun A outer s H Q hA hr' ⟨tb, z, e2, h3⟩ => ?_) hdb hde hdc).run pins t τ G Q I ⟨hτ, tb, z, e2, h3⟩
  refine ⟨_, hbody A outer s H cdv b oe yc hc hA hoe hz.zc hr' (fun _ => False), ?_⟩
  obtain ⟨z', ρ', e3, e4⟩ := hS yc hc
  have ez : z' = z := Option.some.inj (e3.symm.trans e2)
  subst ez
  have hpl : 1 ≤ N.length := by have := congrArg List.length Sc.pre; rw [List.length_take] at this; simp at this; omega
  have hlen : (L2.start N [V.ref b]).length = N.length := by unfold L2.start; simp; omega
  obtain ⟨r, no⟩ := rep_no (K := X.K) (O := fun _ => False) (H := H) hlen (fun b z => z.elim) tb
  refine ⟨start_get rfl, List.replicate N.length .no, r, ?_⟩
  rw [e4]
  show OutK X.K (fun _ => False) [0] _ _ _ _ (.ret (.str z')) ρ'
  exact fun v σ' H' r' x dp => by
    cases dp
    exact h3 H' (x.sx.le no)
end QH
set_option Elab.async false
set_option linter.all false
set_option maxRecDepth 100000
set_option maxHeartbeats 2000000
/-! Q27: defs that make lambdas; a lambda handed to the def that tells errors. -/
namespace QL
open PySem PySem.Spec PyProof.Rows L2
theorem hu_roomH {k : Nat} {A : Around} (h : L2H.RoomH k A) : A.units + 65 < cLine := by have := h.un; omega
/-- what is known of a def x whose body makes lambdas -/
structure LamOk [LawTabs] (X : Cx) (x : Str) : Prop where
  TB : LamX.TabB X.base X.mg (He.cT X.K (x, none)).1 (He.cT X.K (x, none)).2
  code : X.env.code = .ref (He.cT X.K (x, none)).1
  mem : ((He.cT X.K (x, none)).2, X.env.qual ++ "<lambda>") ∈ LawTabs.tabs
  uni : ∀ p ∈ LawTabs.tabs, p.1 = (He.cT X.K (x, none)).2 → p.2 = X.env.qual ++ "<lambda>"
/-- what the defs that make lambdas need, T them and their lambdas' names -/
structure LamAll [LawTabs] (T : List (Str × Str)) (K : PySem.W.Frag) (mg : Str → Option Value) (base : Heap) : Prop where
  TB : ∀ p ∈ T, LamX.TabB base mg (He.cT K (p.1, none)).1 (He.cT K (p.1, none)).2
  mem : ∀ p ∈ T, ((He.cT K (p.1, none)).2, p.2) ∈ LawTabs.tabs
  uni : ∀ p ∈ T, ∀ q ∈ LawTabs.tabs, q.1 = (He.cT K (p.1, none)).2 → q.2 = p.2
theorem lamOk_of [LawTabs] {X : Cx} {T : List (Str × Str)} {x q : Str} (LA : LamAll T X.K X.mg X.base) (hp : (x, q) ∈ T) (eq : X.env.qual ++ "<lambda>" = q) (ec : X.env.code = .ref (He.codeOf X.K (x, none))) : LamOk X x :=
  ⟨LA.TB _ hp, ec, by rw [eq]; exact LA.mem _ hp, by rw [eq]; exact LA.uni _ hp⟩
theorem tabs_uni {K : PySem.W.Frag} : ∀ {T : List (Str × Str)}, (T.map fun p => (He.cT K (p.1, none)).2).Nodup → ∀ p ∈ T, ∀ q ∈ T, (He.cT K (q.1, none)).2 = (He.cT K (p.1, none)).2 → q.2 = p.2
  | [], _, p, hp, _, _, _ => nomatch hp
  | a :: T, hd, p, hp, q, hq, e => by
    rw [List.map_cons, List.nodup_cons] at hd
    obtain ⟨h1, h2⟩ := hd
    rcases List.mem_cons.mp hp with e1 | hp' <;> rcases List.mem_cons.mp hq with e2 | hq'
    · rw [e1, e2]
    · exact absurd (List.mem_map.mpr ⟨q, hq', by rw [← e1]; exact e⟩) h1
    · exact absurd (List.mem_map.mpr ⟨p, hp', by rw [← e2]; exact e.symm⟩) h1
    · exact tabs_uni h2 p hp' q hq' e
theorem lamAll_of [LawTabs] {T : List (Str × Str)} {K : PySem.W.Frag} {mg : Str → Option Value} {base : Heap} (hT : LawTabs.tabs = T.map fun p => ((He.cT K (p.1, none)).2, p.2)) (hd : (T.map fun p => (He.cT K (p.1, none)).2).Nodup)
    (ht : ∀ p ∈ (T.map fun p => ((p.1, none) : He.Defn)).map (He.cT K), LamX.TabB base mg p.1 p.2) : LamAll T K mg base := by
  refine ⟨fun p hp => ht (He.cT K (p.1, none)) (List.mem_map.mpr ⟨(p.1, none), List.mem_map.mpr ⟨p, hp, rfl⟩, rfl⟩), fun p hp => ?_, fun p hp q hq e => ?_⟩
  · rw [hT]
    exact List.mem_map.mpr ⟨p, hp, rfl⟩
  · rw [hT] at hq
    obtain ⟨r, hr, rfl⟩ := List.mem_map.mp hq
    exact tabs_uni hd p hp r hr e
variable [LawTabs]
section
variable {P : Program} {w : World} {K : PySem.W.Frag} {mg : Str → Option Value} {base : Heap} {x : Str} {st : Stmt} {N ps : List Str} {k n : Nat} {S : M Out}
theorem def_PC (D : DefAt K mg x st) (Sc : FnScope N ps (defScope st)) (hn : n = ps.length) (hb : BindsH x st ps) (h : BodyC P w K mg base N x st k [] S) : DefOk P w K mg base x (k + 1) ps (spP K n (runP S N.length)) := by
  obtain ⟨fd, F, g⟩ := D
  exact ⟨fd, fn_PC F Sc hn h, g, F.kp, binds_of F hb⟩
end
/-- f(lambda: e), f the def that tells the name of the error -/
theorem q_err {X : Cx} {W : XK} {nm : Ex → Option Str} {F : M D} {x y a : Str} {st : Stmt} {Ng : List Str} {k : Nat} {params : Arguments} {body : Expr} {scope : Scope} {p lpos pos : Pos}
    (De : DefAt X.K X.mg y st) (Se : FnScope Ng [a] (defScope st)) (hb : BindsH y st [a]) (hNg : Ng[0]? = some a) (hva : Vis (defScope st) a)
    (hG : ∀ cdv q, Gives X Ng y (defScope st) (He.ga X.K y) cdv (defBody st) a q (TErr X.K nm))
    (L : LamOk X x) (hr : Room (k + 2) X.A) (Lm : LamX.LamS X.env.scope scope) (hdef : defaultsOf params X.env = ([], []))
    (hbind : ∀ (q : Str) (cl : List (Str × Addr)) (pm cv ctv : Value), bindArgs (PySem.W.kla_fn "<lambda>" q params body scope cl pm cv ctv) ⟨[], []⟩ = pure [])
    (hbody : ∀ (A : Around) (outer : List Env) (s : Shared) (H : Hp) (E : XK) (f c' : Addr), Room k (A.deeper (LamX.lamEnv X scope s.heap.objs.size f c')) → Passes (L2N.CX X.prog X.w) (lamN X A outer s H E scope f c') E → QE (lamN X A outer s H E scope f c') E body F)
    (hg : Gl X y := by exact rfl) (hdb : (y == ("__debug__" : Str)) = false := by decide) (hd' : (a == ("__debug__" : Str)) = false := by decide) (hcd : (a == ("__classdict__" : Str)) = false := by decide) :
    QE X W (.Call (.Name y p) [.Lambda params body scope lpos] [] pos) (lamErr nm F) := by
  obtain ⟨fd, Fd, gm⟩ := De
  have kp := Fd.kp
  have bd := binds_of Fd hb
  obtain ⟨oc, od, dV, kV, doc, pm, an, cdv, ct, osl, e, lk, hcd', hD, hK⟩ := Fd.ex
  subst e
  exact q_lamcall hg gm kp lk hcd' bd Se hNg hva (hG _ _) L.TB L.code L.mem L.uni hr Lm hdef hbind (fun A outer s H E f c' hr => hbody A outer s H E f c' hr passes_lam) hdb hd' hcd
end QL
namespace QL
open PySem PySem.Spec PyProof.Rows L2
/-- .. and whose head tells more -/
theorem walk_QX {l : PySem.W.OpenLaw} {n k : Nat} {q : Program} {loose : List Str} {XP : (Str → Option Value) → Heap → Prop} {fa : List He.Fa} {fn : List He.DefD} {tf : List (Str × Str)} {ex : PySem.W.Frag → Bool} {d : DefRec} {x : Str} {F : List D → R D}
    (hn : l.most = some n) (hn2 : n ≤ sizeLine) (hdf : d.params.defaults = []) (hr : Room k callerA)
    (hw : ∀ (w : World) (K : PySem.W.Frag) (mg : Str → Option Value) (h : Heap), K.In h → h.Ns mainGlobals mg → He.SaysD fa fn K → ex K = true → @LawOkT l.prog w K mg ((tf.map fun p => ((p.1, none) : He.Defn)).map (He.cT K)) d.name k x (@spP (tabsOf tf K) K 1 F))
    (hF : ∀ ns : List Int, ns.length ≤ n → (∀ z ∈ ns, Builtin.Int.intBits z ≤ 1048576) → F [.list (ns.map .int)] = .ok (.bool true)) :
    PySem.W.WalkO q loose XP (He.hookX 4 fa fn [] (tf.map fun p => ((p.1, none) : He.Defn)) ex).says l.row.toRowW d [] (fun f vs => PySem.call f vs) := by
  refine Att.attach_callB hn hdf fun w s₀ s₁ mg mb fa o pm cd doc a vs ns G Y ho hd hcd hmg hobj hints hlen hbits hg => ?_
  obtain ⟨K, KX, c⟩ := Y
  obtain ⟨fd, gm, hb, hf⟩ := hw w K mg _ KX G.T.g c.t.d c.more
  have e := hmg.symm.trans gm
  cases e
  have at_ : ∀ p ∈ (tf.map fun p => ((p.1, none) : He.Defn)).map (He.cT K), ∃ z ∈ tf.map fun p => ((p.1, none) : He.Defn), p = He.cT K z := fun p hp => by
    obtain ⟨z, hz, e⟩ := List.mem_map.mp hp
    exact ⟨z, hz, e.symm⟩
  refine LamX.law_callTs (cs := (tf.map fun p => ((p.1, none) : He.Defn)).map (He.cT K)) (CX := L2N.CX l.prog w) KX G.T.g G.T.b G.T.builtins G.T.nolimit hg (fun p hp => ?_) (fun p hp => ?_) (fun p hp => ?_) G.T.bmain hobj hints (Nat.le_trans hlen hn2) hr hf hb (fun H hT hS => ?_) fun H e s' z => ?_
  · obtain ⟨z, hz, rfl⟩ := at_ p hp
    exact c.empty z hz
  · obtain ⟨z, hz, rfl⟩ := at_ p hp
    exact c.out z hz
  · obtain ⟨z, hz, rfl⟩ := at_ p hp
    exact PySem.W.codeHd_of_K KX (c.hd z hz)
  · letI := tabsOf tf K
    refine ⟨fun _ => False, [.list (ns.map .int)], rfl, ?_, fun b z => z.elim, show LamX.Tabs (tabsOf tf K).tabs H from fun p hp => ?_, ?_⟩
    · exact .cons (.lst (seqL_hid hS id) (DpAll.ofInts ns)) .nil
    · obtain ⟨z, hz, rfl⟩ := List.mem_map.mp hp
      exact LamX.TabS.nil (hT (He.cT K (z.1, none)) (List.mem_map.mpr ⟨(z.1, none), List.mem_map.mpr ⟨z, hz, rfl⟩, rfl⟩))
    · rw [hF ns hlen hbits]
      show @HasV (tabsOf tf K) K (fun _ => False) (.bool true) H fun v _ => v = .bl true
      exact fun v H' _ hv => by
        cases hv
        rfl
  · obtain ⟨_, _, _, _, _, _, _, _, _, _, _, _, z⟩ := z
    exact z
end QL
set_option Elab.async false
set_option linter.all false
set_option maxRecDepth 100000
set_option maxHeartbeats 2000000
/-! Q28: what lambdas and errors want of what follows. -/
namespace QL
open PySem PySem.Spec PyProof.Rows L2
/-- a slot that tells no own list -/
@[irreducible] def noOwn1 (s : Sl) : Sl := match s with | .mu _ => .no | s => s
@[simp ↓ low] theorem noOwn_cons {s : Sl} {r : Rho} : noOwn (s :: r) = noOwn1 s :: noOwn r := by unfold noOwn1; rfl
@[simp ↓] theorem noOwn_nil : noOwn [] = [] := rfl
@[simp ↓] theorem noOwn_im {d : D} {r : Rho} : noOwn (.im d :: r) = .im d :: noOwn r := nr rfl
@[simp ↓] theorem noOwn_mu' {ds : List D} {r : Rho} : noOwn (.mu ds :: r) = .no :: noOwn r := nr rfl
@[simp ↓] theorem noOwn_no {r : Rho} : noOwn (.no :: r) = .no :: noOwn r := nr rfl
@[simp ↓] theorem wp_lamErr {nm : Ex → Option Str} {f : M D} {ρ : Rho} {Q : D → Rho → Prop} {E : Ex → Prop} : wp (lamErr nm f) ρ Q E = wp f (noOwn ρ) (fun _ _ => Q (.str "") ρ) (fun x => OptP (nm x) fun z => Q (.str z) ρ) := by
  unfold wp lamErr
  cases f (noOwn ρ) with
  | stuck => with_unfolding_all rfl
  | ok z => with_unfolding_all rfl
  | err x =>
    dsimp only
    cases nm x with
    | none => with_unfolding_all rfl
    | some z => with_unfolding_all rfl
section
variable {x : Str} {kv : List (D × D)} {P : D → Prop}
theorem ty_any (T : String) {d : D} {k : Bool} (h : isTy T d = some (.bool k)) : OptP (isTy T d) P = P (.bool k) := opt_of h
@[simp ↓] theorem OptP_ty_int_dict : OptP (isTy "int" (.dict kv)) P = P (.bool false) := ty_any _ (by unfold isTy tyNm; rfl)
@[simp ↓] theorem OptP_ty_bool_dict : OptP (isTy "bool" (.dict kv)) P = P (.bool false) := ty_any _ (by unfold isTy tyNm; rfl)
@[simp ↓] theorem OptP_ty_tuple_dict : OptP (isTy "tuple" (.dict kv)) P = P (.bool false) := ty_any _ (by unfold isTy tyNm; rfl)
@[simp ↓] theorem OptP_ty_list_dict : OptP (isTy "list" (.dict kv)) P = P (.bool false) := ty_any _ (by unfold isTy tyNm; rfl)
@[simp ↓] theorem OptP_ty_str_dict : OptP (isTy "str" (.dict kv)) P = P (.bool false) := ty_any _ (by unfold isTy tyNm; rfl)
@[simp ↓] theorem OptP_ty_int_str : OptP (isTy "int" (.str x)) P = P (.bool false) := ty_any _ (by unfold isTy tyNm; rfl)
@[simp ↓] theorem OptP_ty_bool_str : OptP (isTy "bool" (.str x)) P = P (.bool false) := ty_any _ (by unfold isTy tyNm; rfl)
@[simp ↓] theorem OptP_ty_tuple_str : OptP (isTy "tuple" (.str x)) P = P (.bool false) := ty_any _ (by unfold isTy tyNm; rfl)
@[simp ↓] theorem OptP_ty_list_str : OptP (isTy "list" (.str x)) P = P (.bool false) := ty_any _ (by unfold isTy tyNm; rfl)
@[simp ↓] theorem OptP_ty_str_str : OptP (isTy "str" (.str x)) P = P (.bool true) := ty_any _ (by unfold isTy tyNm; rfl)
end
/-! ### a, b = a tuple or a list -/
def gTA (gs : List (D → M Unit)) : D → M Unit := fun d => match d with
  | .tuple ds => if ds.length = gs.length then gTs gs ds else M.stuck
  | .list ds => if ds.length = gs.length then gTs gs ds else M.stuck
  | _ => M.stuck
theorem qg_tupA [LawTabs] {X : Cx} {P : List Nat} {W : XK} {es : List Expr} {gs : List (D → M Unit)} {pos : Pos} {k n : Nat} (hc : X.calm = true) (h : QGs X P W es (gTs gs)) (hl : gs.length = n) (hn : (assignEach es X.env).length = n := by rfl) (hst : (assignEach es X.env).findIdx? (·.1) = none := by rfl) : QG X P W (.Tuple es k pos) (gTA gs) := fun O => by
  refine ⟨fun pins s σ H v u Q I r ⟨ρ, d, rp, dp, h'⟩ => ?_⟩
  cases dp with
  | @tup a xs ds h1 h2 =>
    by_cases hq : ds.length = gs.length
    · have z : gTA gs (.tuple ds) = gTs gs ds := if_pos hq
      rw [z] at h'
      exact (pg_tup hc (h O) hn hst).run pins s σ H _ u Q I r ⟨a, xs, rfl, seqT_same hid_le h1, by rw [h2.length, hq]; exact hl, ρ, ds, rp, h2, h'⟩
    · have z : gTA gs (.tuple ds) = M.stuck := if_neg hq
      rw [z] at h'
      exact h'.elim
  | @lst a xs ds h1 h2 =>
    by_cases hq : ds.length = gs.length
    · have z : gTA gs (.list ds) = gTs gs ds := if_pos hq
      rw [z] at h'
      exact (pg_lst hc (h O) hn hst).run pins s σ H _ u Q I r ⟨a, xs, rfl, hid_le.seq h1, by rw [h2.length, hq]; exact hl, ρ, ds, rp, h2, h'⟩
    · have z : gTA gs (.list ds) = M.stuck := if_neg hq
      rw [z] at h'
      exact h'.elim
  | _ => exact h'.elim
section
variable {ρ : Rho} {Qu : Unit → Rho → Prop} {E : Ex → Prop} {g1 g2 g3 : D → M Unit} {x y z : D} {gs : List (D → M Unit)} {ds : List D}
@[simp ↓] theorem wp_gTA {ds : List D} : wp (gTA gs (.tuple ds)) ρ Qu E = if ds.length = gs.length then wp (gTs gs ds) ρ Qu E else False := by unfold gTA; simp only [wp_if, wp_stuck]
@[simp ↓] theorem wp_gTA_L {ds : List D} : wp (gTA gs (.list ds)) ρ Qu E = if ds.length = gs.length then wp (gTs gs ds) ρ Qu E else False := by unfold gTA; simp only [wp_if, wp_stuck]
@[simp ↓] theorem wp_gTA2 : wp (gTA [g1, g2] (.tuple [x, y])) ρ Qu E = wp (g1 x) ρ (fun _ ρ1 => wp (g2 y) ρ1 Qu E) E := by rw [wp_gTA, if_pos (by rfl)]; simp only [wp_gTs1, wp_gTs0]
@[simp ↓] theorem wp_gTA3 : wp (gTA [g1, g2, g3] (.tuple [x, y, z])) ρ Qu E = wp (g1 x) ρ (fun _ ρ1 => wp (g2 y) ρ1 (fun _ ρ2 => wp (g3 z) ρ2 Qu E) E) E := by rw [wp_gTA, if_pos (by rfl)]; simp only [wp_gTs1, wp_gTs0]
@[simp ↓] theorem wp_gTA2_L : wp (gTA [g1, g2] (.list [x, y])) ρ Qu E = wp (g1 x) ρ (fun _ ρ1 => wp (g2 y) ρ1 Qu E) E := by rw [wp_gTA_L, if_pos (by rfl)]; simp only [wp_gTs1, wp_gTs0]
@[simp ↓] theorem wp_gTA3_L : wp (gTA [g1, g2, g3] (.list [x, y, z])) ρ Qu E = wp (g1 x) ρ (fun _ ρ1 => wp (g2 y) ρ1 (fun _ ρ2 => wp (g3 z) ρ2 Qu E) E) E := by rw [wp_gTA_L, if_pos (by rfl)]; simp only [wp_gTs1, wp_gTs0]
end
/-- an int, no bool -/
def isIntB : D → Bool
  | .int _ => true
  | _ => false
/-- an int within bounds -/
def isBtw (d : D) (lo hi : Int) : Bool := match d with
  | .int v => decide (lo ≤ v ∧ v ≤ hi)
  | _ => false
def isBoolB : D → Bool
  | .bool _ => true
  | _ => false
/-- no dict within sight -/
def isDictB : D → Bool
  | .dict _ => true
  | _ => false
@[simp] theorem tyNm_list {xs : List D} : tyNm (.list xs) = "list" := rfl
@[simp] theorem tyNm_str {x : Str} : tyNm (.str x) = "str" := rfl
theorem eqD_ss {a b : Str} (ha : PyData.strOk a = true) (hb : PyData.strOk b = true) : eqD (.str a) (.str b) = some (decide (a = b)) := by
  rw [eqD_of (n := 0) (by simp [lay, ha]) (by simp [lay, hb]) (by omega)]
  simp only [PyData.eqv, beq_dec]
theorem neD_ss {a b : Str} (ha : PyData.strOk a = true) (hb : PyData.strOk b = true) : neD (.str a) (.str b) = some (!decide (a = b)) := by
  rw [neD_of (n := 0) (by simp [lay, ha]) (by simp [lay, hb]) (by omega)]
  simp only [PyData.eqv, beq_dec]
theorem OptP_ne_self {d : D} {P : Bool → Prop} (h : lay 60 d = true) : OptP (neD d d) P = P false := by rw [neD_self h (by omega), OptP_some]
theorem OptP_eq_self {d : D} {P : Bool → Prop} (h : lay 60 d = true) : OptP (eqD d d) P = P true := by rw [eqD_self h (by omega), OptP_some]
theorem OptP_ne_s {a : Str} {P : Bool → Prop} (ha : PyData.strOk a = true) : OptP (neD (.str a) (.str a)) P = P false := by
  rw [neD_ss ha ha]; simp
/-! ### one statement after another -/
section
variable {S1 S2 : M Out} {ρ ρ' : Rho} {c : M Bool} {Q : Out → Rho → Prop} {E : Ex → Prop}
theorem wp_then (h1 : wp S1 ρ (fun o ρ1 => o = .nx ∧ ρ1 = ρ') E) (h2 : wp S2 ρ' Q E) : wp (seqS S1 S2) ρ Q E := by
  rw [wp_seqS]
  exact wp_mono h1 (fun o ρ1 ⟨a, b⟩ => by subst a b; rw [NxP_nx]; exact h2) fun _ z => z
/-- a check that is passed -/
theorem wp_pass {d : D} (h1 : wp c ρ (fun k ρ1 => k = false ∧ ρ1 = ρ) E) (h2 : Q .nx ρ) : wp (iteM c (retS (cst d)) nxS) ρ Q E := by
  rw [wp_iteM]
  exact wp_mono h1 (fun k ρ1 ⟨a, b⟩ => by subst a b; rw [BoolP_false, wp_nxS]; exact h2) fun _ z => z
theorem wp_check {d : D} (h1 : wp c ρ (fun k ρ1 => k = false ∧ ρ1 = ρ) E) (h2 : wp S2 ρ Q E) : wp (seqS (iteM c (retS (cst d)) nxS) S2) ρ Q E := by
  rw [wp_seqS]
  refine wp_pass h1 ?_
  rw [NxP_nx]; exact h2
/-- a loop in the midst -/
theorem wp_mid {β : Type} (st : β → Rho) (I : β → Prop) (h1 : wp S1 ρ (fun o ρ1 => NxP o ρ1 (NextP st I ρ1) Q) E) (h2 : ∀ y, I y → wp S2 (st y) Q E) : wp (seqS S1 S2) ρ Q E := wp_cut st I h1 h2
end
end QL
set_option Elab.async false
set_option linter.all false
set_option maxRecDepth 100000
set_option maxHeartbeats 4000000
/-! Q29: plain mathematics that all laws share. -/
namespace LK
open PySem PySem.Spec PyProof.Rows L2 QL
/-! ### numbers -/
abbrev Step := Int × Int × Bool
def stepD (s : Step) : D := .tuple [.int s.1, .int s.2.1, .bool s.2.2]
def ruleD (r : List Step) : D := .tuple (r.map stepD)
theorem gcd_step {x y : Int} (hx : 0 ≤ x) (hy : 0 < y) : Int.gcd y (x % y) = Int.gcd x y := by
  obtain ⟨m, rfl⟩ := Int.eq_ofNat_of_zero_le hx
  obtain ⟨n, rfl⟩ := Int.eq_ofNat_of_zero_le (Int.le_of_lt hy)
  rw [← Int.natCast_emod, Int.gcd_natCast_natCast, Int.gcd_natCast_natCast, Nat.gcd_comm m n, Nat.gcd_rec n m, Nat.gcd_comm]
def lcmN (ns : List Int) : Nat := ns.foldl (fun a n => Nat.lcm a n.toNat) 1
theorem lcm_quot {a : Nat} {n : Int} (ha : 0 < a) (hn : 0 < n) : pdiv ((a : Int) * n) ((Int.gcd a n : Nat) : Int) = ((Nat.lcm a n.toNat : Nat) : Int) := by
  obtain ⟨m, rfl⟩ := Int.eq_ofNat_of_zero_le (Int.le_of_lt hn)
  have hg : 0 < Nat.gcd a m := Nat.gcd_pos_of_pos_left _ ha
  rw [Int.gcd_natCast_natCast, pdiv_pos (by omega), ← Int.natCast_mul, ← Int.natCast_ediv, Int.toNat_natCast]
  rfl
theorem asBools_map : ∀ xs : List Bool, asBools (xs.map .bool) = some xs
  | [] => rfl
  | x :: xs => by rw [List.map_cons]; unfold asBools; rw [asBools_map xs]; rfl
theorem asInts_map : ∀ xs : List Int, asInts (xs.map .int) = some xs
  | [] => rfl
  | x :: xs => by rw [List.map_cons]; unfold asInts; rw [asInts_map xs]; rfl
theorem OptP_all {xs : List Bool} {P : D → Prop} : OptP (allD [.list (xs.map .bool)]) P = P (.bool (xs.all id)) := by
  show OptP ((asBools (xs.map .bool)).map _) P = _
  rw [asBools_map]; with_unfolding_all rfl
theorem OptP_sum {xs : List Int} {P : D → Prop} : OptP (sumD [.list (xs.map .int)]) P = P (.int xs.sum) := by
  show OptP ((asInts (xs.map .int)).map _) P = _
  rw [asInts_map]; with_unfolding_all rfl
theorem range_enc {lo : Int} {n : Nat} : rangeL lo n = (List.range n).map (fun i => .int (lo + (i : Nat))) := rfl
def redD (a b : Int) : D := .tuple [.int (a / (Int.gcd a b : Nat)), .int (b / (Int.gcd a b : Nat))]
theorem gcd_abs {a b : Int} : Int.gcd (if a < 0 then -a else a) b = Int.gcd a b := by
  by_cases h : a < 0
  · rw [if_pos h, Int.neg_gcd]
  · rw [if_neg h]
theorem cut_from {α : Type} {xs : List α} {k : Nat} : cutL xs (some (k : Int)) none = xs.drop k := by
  unfold cutL
  rw [HT.sIx_nat, HT.sIx_none]
  by_cases h : k ≤ xs.length
  · rw [Nat.min_eq_left h]; exact List.take_of_length_le (by simp)
  · rw [Nat.min_eq_right (by omega), List.drop_of_length_le (Nat.le_refl _), List.drop_of_length_le (by omega)]; simp
theorem cut_to {α : Type} {xs : List α} {k : Nat} : cutL xs none (some (k : Int)) = xs.take k := by
  unfold cutL
  rw [HT.sIx_nat, HT.sIx_none]
  by_cases h : k ≤ xs.length
  · rw [Nat.min_eq_left h]; simp
  · rw [Nat.min_eq_right (by omega)]; simp [List.take_of_length_le (show xs.length ≤ k by omega)]
/-! ### rules -/
/-- the last step that fits -/
def leapAt (r : List Step) (y : Int) : Bool := r.foldl (fun f s => if y % s.1 = s.2.1 then s.2.2 else f) false
def leapRev : List Step → Int → Bool
  | [], _ => false
  | s :: r, y => if y % s.1 = s.2.1 then s.2.2 else leapRev r y
theorem leapRev_eq (y : Int) : ∀ r : List Step, leapRev r y = r.foldr (fun s f => if y % s.1 = s.2.1 then s.2.2 else f) false
  | [] => rfl
  | s :: r => by unfold leapRev; rw [leapRev_eq y r]; rfl
theorem leapAt_rev (r : List Step) (y : Int) : leapAt r y = leapRev r.reverse y := by
  rw [leapRev_eq, List.foldr_reverse]; rfl
def lcmS (r : List Step) : Nat := lcmN (r.map (·.1))
def StepOk (s : Step) : Prop := 1 ≤ s.1 ∧ s.1 ≤ 10000 ∧ 0 ≤ s.2.1 ∧ s.2.1 ≤ s.1 - 1
structure RuleOk (r : List Step) : Prop where
  steps : ∀ s ∈ r, StepOk s
  len : r.length ≤ 6
  lcm : lcmS r ≤ 10000
theorem foldl_lcm_pos : ∀ (ns : List Int) (a : Nat), 0 < a → (∀ n ∈ ns, 1 ≤ n) → 0 < ns.foldl (fun a n => Nat.lcm a n.toNat) a
  | [], a, h, _ => h
  | n :: ns, a, h, hn => foldl_lcm_pos ns _ (Nat.lcm_pos h (by have := hn n (List.mem_cons_self ..); omega)) fun m hm => hn m (List.mem_cons_of_mem _ hm)
theorem lcmN_pos {ns : List Int} (h : ∀ n ∈ ns, 1 ≤ n) : 0 < lcmN ns := foldl_lcm_pos ns 1 (by omega) h
theorem lcmS_pos {r : List Step} (h : ∀ s ∈ r, StepOk s) : 0 < lcmS r := lcmN_pos fun n hn => by
  obtain ⟨s, hs, rfl⟩ := List.mem_map.mp hn
  exact (h s hs).1
/-- the years of a round -/
def leapsL (r : List Step) (n : Nat) : List Bool := (List.range n).map fun i => leapAt r (1 + (i : Nat))
theorem leapsL_length (r : List Step) (n : Nat) : (leapsL r n).length = n := by simp [leapsL]
/-- the slots that a loop leaves as they are at its begin -/
def slMu (s : Sl) : Bool := isMu [s] 0
/-- a part of a round after which the years go on as before -/
def turnsAt (row : List Bool) (k : Nat) : Bool := decide (row.drop k ++ row.take k = row)
/-- the least part of n that turns the row into itself; n where there is none -/
def leastTurn (row : List Bool) (n : Nat) : Nat := (((List.range n).find? fun i => decide (n % (i + 1) = 0) && turnsAt row (i + 1)).map (· + 1)).getD n
/-- how many leap years among the first k -/
def countL' (r : List Step) (k : Nat) : Nat := (leapsL r k).count true
theorem countL_succ (r : List Step) (k : Nat) : countL' r (k + 1) = countL' r k + (if leapAt r (1 + (k : Int)) = true then 1 else 0) := by
  unfold countL' leapsL
  rw [List.range_succ, List.map_append, List.count_append]
  simp [List.count_singleton]
def sumsL (r : List Step) (n : Nat) : List Int := (List.range (n + 1)).map fun k => (countL' r k : Nat)
theorem sumsL_succ (r : List Step) (n : Nat) : sumsL r (n + 1) = sumsL r n ++ [((countL' r (n + 1) : Nat) : Int)] := by
  unfold sumsL
  rw [List.range_succ, List.map_append]; rfl
theorem sumsL_length (r : List Step) (n : Nat) : (sumsL r n).length = n + 1 := by simp [sumsL]
theorem sumsL_last (r : List Step) (n : Nat) : atI ((sumsL r n).map PyData.int) (-1) = some (.int (countL' r n : Nat)) := by
  unfold sumsL
  rw [List.range_succ, List.map_append, List.map_append]
  exact atI_last
theorem sumsL_at (r : List Step) {n k : Nat} (h : k ≤ n) : (sumsL r n)[k]? = some ((countL' r k : Nat) : Int) := by
  unfold sumsL
  rw [List.getElem?_map, List.getElem?_range (by omega)]; rfl
/-- the frame of a law at a turn's begin: its script, and no own list in the slots vs -/
def J (sc : D) (n : Nat) (vs : List Nat) (ρ : Rho) : Prop := ρ.length = n ∧ ρ[0]? = some (.im sc) ∧ noMu ρ vs = true
theorem noMu_one {ρ : Rho} {v : Nat} (h : isMu ρ v = false) : noMu ρ [v] = true := by simp [noMu, h]
theorem foldl_lcm_dvd (m : Nat) : ∀ (ns : List Int) (a : Nat), ns.foldl (fun a n => Nat.lcm a n.toNat) a ∣ m ↔ a ∣ m ∧ ∀ n ∈ ns, n.toNat ∣ m
  | [], a => by simp
  | n :: ns, a => by
    rw [List.foldl_cons, foldl_lcm_dvd m ns, Nat.lcm_dvd_iff]
    simp [and_assoc]
theorem lcmN_dvd {ns : List Int} {m : Nat} : lcmN ns ∣ m ↔ ∀ n ∈ ns, n.toNat ∣ m := by
  unfold lcmN
  rw [foldl_lcm_dvd]
  simp
theorem lcmS_dvd {r : List Step} {m : Nat} : lcmS r ∣ m ↔ ∀ s ∈ r, s.1.toNat ∣ m := by
  unfold lcmS
  rw [lcmN_dvd]
  constructor
  · exact fun h s hs => h s.1 (List.mem_map.mpr ⟨s, hs, rfl⟩)
  · intro h n hn
    obtain ⟨s, hs, rfl⟩ := List.mem_map.mp hn
    exact h s hs
theorem lcmS_reverse (r : List Step) : lcmS r.reverse = lcmS r :=
  Nat.dvd_antisymm (lcmS_dvd.mpr fun s hs => lcmS_dvd.mp (Nat.dvd_refl _) s (List.mem_reverse.mp hs)) (lcmS_dvd.mpr fun s hs => lcmS_dvd.mp (Nat.dvd_refl _) s (List.mem_reverse.mpr hs))
theorem RuleOk.reverse {r : List Step} (h : RuleOk r) : RuleOk r.reverse := ⟨fun s hs => h.steps s (List.mem_reverse.mp hs), by rw [List.length_reverse]; exact h.len, by rw [lcmS_reverse]; exact h.lcm⟩
theorem RuleOk.one {r : List Step} (h : RuleOk r) : ∀ s ∈ r, 1 ≤ s.1 := fun s hs => (h.steps s hs).1
theorem revD_rule (r : List Step) : revD (ruleD r) = some (ruleD r.reverse) := by
  show some (PyData.tuple (r.map stepD).reverse) = _
  rw [← List.map_reverse]; rfl
theorem noMu_nil {ρ : Rho} : noMu ρ [] = true := rfl
theorem noMu_cons {ρ : Rho} {v : Nat} {vs : List Nat} (h : isMu ρ v = false) (h2 : noMu ρ vs = true) : noMu ρ (v :: vs) = true := by
  unfold noMu at h2 ⊢
  rw [List.all_cons, h, h2]; rfl
theorem redD_lay (a b : Int) : lay 1 (redD a b) = true := by simp [redD, lay, layAll]
@[simp] theorem redD_lay_s {n : Nat} {a b : Int} : lay (n + 1) (redD a b) = true := by simp [redD, lay, layAll]
/-! ### rows of years -/
def cnt (f : Nat → Bool) (k : Nat) : Nat := ((List.range k).map f).count true
theorem cnt_zero (f : Nat → Bool) : cnt f 0 = 0 := rfl
theorem cnt_succ (f : Nat → Bool) (k : Nat) : cnt f (k + 1) = cnt f k + (if f k = true then 1 else 0) := by
  unfold cnt
  rw [List.range_succ, List.map_append, List.count_append]
  cases h : f k <;> simp [h]
theorem cnt_le (f : Nat → Bool) : ∀ k, cnt f k ≤ k
  | 0 => Nat.le_refl _
  | k + 1 => by rw [cnt_succ]; have := cnt_le f k; split <;> omega
theorem cnt_mono (f : Nat → Bool) {a b : Nat} (h : a ≤ b) : cnt f a ≤ cnt f b := by
  induction b with
  | zero => rw [Nat.le_zero.mp h]; exact Nat.le_refl _
  | succ b ih =>
    by_cases e : a = b + 1
    · rw [e]; exact Nat.le_refl _
    · rw [cnt_succ]; exact Nat.le_trans (ih (by omega)) (Nat.le_add_right _ _)
def Per (f : Nat → Bool) (p : Nat) : Prop := ∀ i, f (i + p) = f i
theorem Per.mul {f : Nat → Bool} {p : Nat} (h : Per f p) : ∀ m i, f (i + m * p) = f i
  | 0, i => by simp
  | m + 1, i => by rw [Nat.add_mul, Nat.one_mul, ← Nat.add_assoc, h, Per.mul h m]
theorem Per.of_dvd {f : Nat → Bool} {p m : Nat} (h : Per f p) (d : p ∣ m) : Per f m := fun i => by
  obtain ⟨c, rfl⟩ := d
  rw [Nat.mul_comm]
  exact h.mul c i
theorem Per.mod {f : Nat → Bool} {p : Nat} (h : Per f p) (i : Nat) : f (i % p) = f i := by
  have := h.mul (i / p) (i % p)
  rw [Nat.mul_comm, Nat.mod_add_div] at this
  exact this.symm
theorem cnt_add {f : Nat → Bool} {p : Nat} (h : Per f p) : ∀ k, cnt f (k + p) = cnt f k + cnt f p
  | 0 => by simp [cnt_zero]
  | k + 1 => by rw [show k + 1 + p = (k + p) + 1 by omega, cnt_succ, cnt_add h k, cnt_succ, h k]; omega
theorem cnt_mul {f : Nat → Bool} {p : Nat} (h : Per f p) : ∀ m k, cnt f (k + m * p) = cnt f k + m * cnt f p
  | 0, k => by simp
  | m + 1, k => by rw [Nat.add_mul, Nat.one_mul, ← Nat.add_assoc, cnt_add h, cnt_mul h m, Nat.add_mul, Nat.one_mul]; omega
theorem cnt_div {f : Nat → Bool} {p : Nat} (h : Per f p) (k : Nat) : cnt f k = k / p * cnt f p + cnt f (k % p) := by
  have := cnt_mul h (k / p) (k % p)
  rw [Nat.mul_comm (k / p) p, Nat.mod_add_div] at this
  omega
/-- the first k that reaches a count -/
theorem cnt_reach (f : Nat → Bool) (v : Nat) (hv : 0 < v) : ∀ n, v ≤ cnt f n → ∃ k, k < n ∧ f k = true ∧ cnt f (k + 1) = v ∧ ∀ j, j < k + 1 → cnt f j ≠ v
  | 0, h => by rw [cnt_zero] at h; omega
  | n + 1, h => by
    by_cases e : v ≤ cnt f n
    · obtain ⟨k, h1, h2⟩ := cnt_reach f v hv n e
      exact ⟨k, by omega, h2⟩
    · rw [cnt_succ] at h
      have hf : f n = true := by
        cases q : f n with
        | true => rfl
        | false => rw [q] at h; simp at h; omega
      rw [hf] at h
      simp at h
      refine ⟨n, by omega, hf, by rw [cnt_succ, hf]; simp; omega, fun j hj z => ?_⟩
      have := cnt_mono f (show j ≤ n by omega)
      omega
/-- a leap year is told by how many there are to it -/
theorem cnt_inj {f : Nat → Bool} {a b : Nat} (ha : f a = true) (hb : f b = true) (h : cnt f (a + 1) = cnt f (b + 1)) : a = b := by
  have key : ∀ {a b : Nat}, f b = true → a < b → cnt f (a + 1) < cnt f (b + 1) := fun {a b} hb hl => by
    have := cnt_mono f (show a + 1 ≤ b by omega)
    rw [cnt_succ f b, hb]; simp; omega
  rcases Nat.lt_trichotomy a b with l | e | l
  · have := key hb l; omega
  · exact e
  · have := key ha l; omega
theorem turns_iff {f : Nat → Bool} {n k : Nat} (hk : k ≤ n) (hn : 0 < n) (hp : Per f n) : turnsAt ((List.range n).map f) k = true ↔ Per f k := by
  unfold turnsAt
  rw [decide_eq_true_eq]
  have hl : (((List.range n).map f).drop k ++ ((List.range n).map f).take k).length = n := by simp; omega
  have get : ∀ i, i < n → (((List.range n).map f).drop k ++ ((List.range n).map f).take k)[i]? = some (f (i + k)) := by
    intro i hi
    by_cases h : i + k < n
    · rw [List.getElem?_append_left (by simp; omega), List.getElem?_drop, List.getElem?_map, List.getElem?_range (by omega)]
      simp [Nat.add_comm]
    · rw [List.getElem?_append_right (by simp; omega)]
      have e : i - (((List.range n).map f).drop k).length = i + k - n := by simp; omega
      rw [e, List.getElem?_take_of_lt (by omega), List.getElem?_map, List.getElem?_range (by omega)]
      have := hp (i + k - n)
      rw [show i + k - n + n = i + k by omega] at this
      simp [this]
  constructor
  · intro h i
    have h1 := get (i % n) (Nat.mod_lt _ hn)
    rw [h, List.getElem?_map, List.getElem?_range (Nat.mod_lt _ hn)] at h1
    simp at h1
    rw [hp.mod i] at h1
    have h2 : f (i % n + k) = f (i + k) := by
      have := hp.mul (i / n) (i % n + k)
      rw [show i % n + k + i / n * n = i + k by have := Nat.mod_add_div i n; rw [Nat.mul_comm] at this; omega] at this
      exact this.symm
    rw [← h2, h1]
  · intro h
    apply List.ext_getElem?
    intro i
    by_cases hi : i < n
    · rw [get i hi, h i, List.getElem?_map, List.getElem?_range hi]; rfl
    · rw [List.getElem?_eq_none (by omega), List.getElem?_eq_none (by simp; omega)]
structure LeastPer (f : Nat → Bool) (n p : Nat) : Prop where
  pos : 0 < p
  dvd : p ∣ n
  per : Per f p
  least : ∀ q, 0 < q → q < p → q ∣ n → ¬ Per f q
theorem leastTurn_spec {f : Nat → Bool} {n : Nat} (hn : 0 < n) (hp : Per f n) : LeastPer f n (leastTurn ((List.range n).map f) n) := by
  unfold leastTurn
  cases q : (List.range n).find? fun i => decide (n % (i + 1) = 0) && turnsAt ((List.range n).map f) (i + 1) with
  | none =>
    have := List.find?_eq_none.mp q (n - 1) (List.mem_range.mpr (by omega))
    rw [show n - 1 + 1 = n by omega, (turns_iff (Nat.le_refl n) hn hp).mpr hp] at this
    simp at this
  | some k =>
    have h1 := List.find?_some q
    have hk : k < n := List.mem_range.mp (List.mem_of_find?_eq_some q)
    simp only [Bool.and_eq_true, decide_eq_true_eq] at h1
    show LeastPer f n (k + 1)
    refine ⟨by omega, Nat.dvd_of_mod_eq_zero h1.1, (turns_iff (by omega) hn hp).mp h1.2, fun j hj hj2 hd hper => ?_⟩
    have h2 := (List.find?_range_eq_some.mp q).2.2 (j - 1) (by omega)
    rw [show j - 1 + 1 = j by omega, (turns_iff (by omega) hn hp).mpr hper, Nat.mod_eq_zero_of_dvd hd] at h2
    simp at h2
theorem LeastPer.unique {f g : Nat → Bool} {n p q : Nat} (hf : LeastPer f n p) (hg : LeastPer g n q) (h : ∀ k, Per f k ↔ Per g k) : p = q := by
  rcases Nat.lt_trichotomy p q with l | e | l
  · exact absurd ((h p).mp hf.per) (hg.least p hf.pos l hf.dvd)
  · exact e
  · exact absurd ((h q).mpr hg.per) (hf.least q hg.pos l hg.dvd)
/-! ### the years of a rule -/
def leapF (r : List Step) (i : Nat) : Bool := leapAt r (1 + (i : Int))
theorem leapsL_eq (r : List Step) (n : Nat) : leapsL r n = (List.range n).map (leapF r) := rfl
theorem countL_eq (r : List Step) (k : Nat) : countL' r k = cnt (leapF r) k := rfl
theorem leapAt_add {r : List Step} {m : Nat} (h : ∀ s ∈ r, 1 ≤ s.1) (hd : lcmS r ∣ m) (y : Int) : leapAt r (y + m) = leapAt r y := by
  have hs : ∀ s ∈ r, (y + (m : Int)) % s.1 = y % s.1 := fun s hs => by
    obtain ⟨c, hc⟩ := Nat.dvd_trans (lcmS_dvd.mp (Nat.dvd_refl (lcmS r)) s hs) hd
    have h1 := h s hs
    have e : (m : Int) = s.1 * (c : Int) := by
      rw [hc, Int.natCast_mul]
      congr 1
      omega
    rw [e, Int.add_mul_emod_self_left]
  unfold leapAt
  have key : ∀ (l : List Step) (f : Bool), (∀ s ∈ l, (y + (m : Int)) % s.1 = y % s.1) → l.foldl (fun f s => if (y + (m : Int)) % s.1 = s.2.1 then s.2.2 else f) f = l.foldl (fun f s => if y % s.1 = s.2.1 then s.2.2 else f) f := by
    intro l
    induction l with
    | nil => intro f _; rfl
    | cons s l ih =>
      intro f hl
      rw [List.foldl_cons, List.foldl_cons, hl s (List.mem_cons_self ..)]
      exact ih _ fun t ht => hl t (List.mem_cons_of_mem _ ht)
  exact key r false hs
theorem leapF_per {r : List Step} (h : ∀ s ∈ r, 1 ≤ s.1) : Per (leapF r) (lcmS r) := fun i => by
  unfold leapF
  rw [show (1 + ((i + lcmS r : Nat) : Int)) = (1 + (i : Int)) + (lcmS r : Nat) by omega]
  exact leapAt_add h (Nat.dvd_refl _) _
/-- the least period of a rule -/
def perS (r : List Step) : Nat := leastTurn (leapsL r (lcmS r)) (lcmS r)
theorem perS_spec {r : List Step} (h : RuleOk r) : LeastPer (leapF r) (lcmS r) (perS r) := leastTurn_spec (lcmS_pos h.steps) (leapF_per h.one)
theorem Per.of_window {f : Nat → Bool} {p q : Nat} (hp : 0 < p) (h : Per f p) (hw : ∀ i, i < p → f (i + q) = f i) : Per f q := fun i => by
  have h1 := hw (i % p) (Nat.mod_lt _ hp)
  have h2 : f (i % p + q) = f (i + q) := by
    have := h.mul (i / p) (i % p + q)
    rw [show i % p + q + i / p * p = i + q by have := Nat.mod_add_div i p; rw [Nat.mul_comm] at this; omega] at this
    exact this.symm
  rw [← h2, h1, h.mod i]
/-- a mean is the same by any of its periods -/
theorem redD_per {f : Nat → Bool} {n p : Nat} (hp0 : 0 < p) (hp : Per f p) (hd : p ∣ n) (hn : 0 < n) : redD (cnt f n : Nat) (n : Nat) = redD (cnt f p : Nat) (p : Nat) := by
  obtain ⟨m, rfl⟩ := hd
  have hm : 0 < m := Nat.pos_of_mul_pos_left hn |> fun _ => by
    rcases Nat.eq_zero_or_pos m with e | e
    · subst e; simp at hn
    · exact e
  have hc : cnt f (p * m) = m * cnt f p := by
    have := cnt_mul hp m 0
    rw [Nat.zero_add, Nat.mul_comm m p, cnt_zero, Nat.zero_add] at this
    exact this
  unfold redD
  rw [hc, Int.gcd_natCast_natCast, Int.gcd_natCast_natCast, Nat.mul_comm p m, Nat.gcd_mul_left]
  congr 2
  · rw [← Int.natCast_ediv, ← Int.natCast_ediv, Nat.mul_div_mul_left _ _ hm]
  · rw [← Int.natCast_ediv, ← Int.natCast_ediv, Nat.mul_div_mul_left _ _ hm]
/-! ### more on data -/
theorem enumL_map {α : Type} (h : α → D) : ∀ (xs : List α) (n : Nat), enumL n (xs.map h) = (xs.zipIdx n).map fun p => .tuple [.int (p.2 : Nat), h p.1]
  | [], _ => rfl
  | x :: xs, n => by
    rw [List.map_cons, List.zipIdx_cons, List.map_cons, ← enumL_map h xs (n + 1)]; rfl
theorem enum_range (h : Nat → D) (n : Nat) : enumL 0 ((List.range n).map h) = (List.range n).map fun i => .tuple [.int (i : Nat), h i] := by
  rw [enumL_map]
  apply List.ext_getElem?
  intro i
  rw [List.getElem?_map, List.getElem?_map, List.getElem?_zipIdx]
  by_cases hi : i < n
  · rw [List.getElem?_range hi]; simp
  · rw [List.getElem?_eq_none (by simp; omega)]; rfl
theorem EncOk.any {α : Type} [DecidableEq α] {f : α → D} (h : EncOk f) (a : α) (xs : List α) : ((xs.map f).any fun z => PyData.eqv z (f a)) = decide (a ∈ xs) := by
  rw [Bool.eq_iff_iff, List.any_eq_true, decide_eq_true_eq]
  constructor
  · rintro ⟨z, hz, e⟩
    obtain ⟨b, hb, rfl⟩ := List.mem_map.mp hz
    rw [h.eqv, decide_eq_true_eq] at e
    rw [← e]; exact hb
  · intro ha
    exact ⟨f a, List.mem_map.mpr ⟨a, ha, rfl⟩, by rw [h.eqv]; simp⟩
theorem EncOk.inL {α : Type} [DecidableEq α] {f : α → D} (h : EncOk f) (a : α) (xs : List α) : QL.inL (f a) (.list (xs.map f)) = some (decide (a ∈ xs)) := by
  show (if _ then _ else none) = _
  rw [if_pos ⟨shaped_of (n := 8) (h.lay a) (by omega), shaped_of (n := 9) (by simp only [lay]; exact layAll_map h.lay xs) (by omega)⟩, LK.EncOk.any h]
theorem EncOk.ninL {α : Type} [DecidableEq α] {f : α → D} (h : EncOk f) (a : α) (xs : List α) : QL.ninL (f a) (.list (xs.map f)) = some (!decide (a ∈ xs)) := by
  show (if _ then _ else none) = _
  rw [if_pos ⟨shaped_of (n := 8) (h.lay a) (by omega), shaped_of (n := 9) (by simp only [lay]; exact layAll_map h.lay xs) (by omega)⟩, LK.EncOk.any h]
/-! ### a year, or none -/
def optY : Option Nat → D
  | some z => .int (z : Nat)
  | none => .none
theorem isNone_optY (s : Option Nat) : isNone (optY s) = s.isNone := by cases s <;> rfl
theorem countL_mono {r : List Step} {a b : Nat} (h : a ≤ b) : countL' r a ≤ countL' r b := by rw [countL_eq, countL_eq]; exact cnt_mono _ h
theorem countL_pred {r : List Step} {y : Nat} (h : 1 ≤ y) : countL' r y = countL' r (y - 1) + (if leapAt r (y : Int) = true then 1 else 0) := by
  have := countL_succ r (y - 1)
  rw [show y - 1 + 1 = y by omega, show 1 + ((y - 1 : Nat) : Int) = (y : Int) by omega] at this
  exact this
/-- the place of the first that is v -/
theorem idxOf_first {v : Int} : ∀ {xs : List Int} {k : Nat}, xs[k]? = some v → (∀ j, j < k → xs[j]? ≠ some v) → idxOf (.int v) (xs.map .int) = some k
  | [], k, h, _ => by simp at h
  | x :: xs, 0, h, _ => by
    simp at h
    rw [List.map_cons]
    unfold idxOf
    rw [h, if_pos (by simp [PyData.eqv])]
  | x :: xs, k + 1, h, hj => by
    have h0 := hj 0 (by omega)
    simp at h h0
    rw [List.map_cons]
    unfold idxOf
    rw [if_neg (by simp [PyData.eqv]; exact h0), idxOf_first h (fun j hj' => by have := hj (j + 1) (by omega); simpa using this)]
    rfl
theorem index_ints {v : Int} {xs : List Int} {k : Nat} (h : xs[k]? = some v) (hj : ∀ j, j < k → xs[j]? ≠ some v) : indexD (.list (xs.map .int)) [.int v] = some (.int k) := by
  show (if _ then _ else none) = _
  rw [if_pos ⟨shaped_of (n := 0) (by simp [lay]) (by omega), shaped_of (n := 1) (by simp only [lay]; exact layAll_map (fun a => by simp [lay]) xs) (by omega)⟩, idxOf_first h hj]
  rfl
/-- what leap_at and its like give: the leap year with so many before it -/
def YearIs (r : List Step) (m : Nat) (y : Nat) : Prop := 1 ≤ y ∧ leapAt r (y : Int) = true ∧ countL' r y = m + 1
theorem YearIs.unique {r : List Step} {m y z : Nat} (h : YearIs r m y) (h2 : YearIs r m z) : y = z := by
  obtain ⟨a, rfl⟩ : ∃ a, y = a + 1 := ⟨y - 1, by have := h.1; omega⟩
  obtain ⟨b, rfl⟩ : ∃ b, z = b + 1 := ⟨z - 1, by have := h2.1; omega⟩
  have h1 : leapF r a = true := by have := h.2.1; unfold leapF; rw [show 1 + (a : Int) = ((a + 1 : Nat) : Int) by omega]; exact this
  have h3 : leapF r b = true := by have := h2.2.1; unfold leapF; rw [show 1 + (b : Int) = ((b + 1 : Nat) : Int) by omega]; exact this
  have := cnt_inj h1 h3 (by rw [← countL_eq, ← countL_eq, h.2.2, h2.2.2])
  omega
/-- the place of the first of some ints that is v -/
def firstIx (v : Int) (xs : List Int) : Nat := xs.findIdx fun x => decide (x = v)
theorem idxOf_ix {v : Int} : ∀ {xs : List Int}, v ∈ xs → idxOf (.int v) (xs.map .int) = some (firstIx v xs)
  | x :: xs, h => by
    rw [List.map_cons]
    unfold idxOf firstIx
    rw [List.findIdx_cons]
    by_cases e : x = v
    · rw [if_pos (by simp [PyData.eqv, e]), decide_eq_true e]; rfl
    · rw [if_neg (by simp [PyData.eqv]; exact e), decide_eq_false e, idxOf_ix (xs := xs) ((List.mem_cons.mp h).resolve_left fun z => e z.symm)]; rfl
theorem index_ix {v : Int} {xs : List Int} (h : v ∈ xs) : indexD (.list (xs.map .int)) [.int v] = some (.int (firstIx v xs : Nat)) := by
  show (if _ then _ else none) = _
  rw [if_pos ⟨shaped_of (n := 0) (by simp [lay]) (by omega), shaped_of (n := 1) (by simp only [lay]; exact layAll_map (fun a => by simp [lay]) xs) (by omega)⟩, idxOf_ix h]
  rfl
theorem firstIx_lt {v : Int} {xs : List Int} (h : v ∈ xs) : firstIx v xs < xs.length := List.findIdx_lt_length.mpr ⟨v, h, by simp⟩
theorem firstIx_get {v : Int} {xs : List Int} (h : v ∈ xs) : xs[firstIx v xs]? = some v := by
  have hl := firstIx_lt h
  rw [List.getElem?_eq_getElem hl]
  exact congrArg some (of_decide_eq_true (List.findIdx_getElem (w := hl)))
/-! ### the greatest and the least of some ints -/
def maxI (xs : List Int) : Int := (maxL xs).getD 0
def minI (xs : List Int) : Int := (minL xs).getD 0
theorem maxL_of {xs : List Int} (h : xs ≠ []) : maxL xs = some (maxI xs) := by
  cases xs with
  | nil => exact absurd rfl h
  | cons x r => rfl
theorem minL_of {xs : List Int} (h : xs ≠ []) : minL xs = some (minI xs) := by
  cases xs with
  | nil => exact absurd rfl h
  | cons x r => rfl
theorem maxI_mem {xs : List Int} (h : xs ≠ []) : maxI xs ∈ xs := (@maxL_some ⟨[]⟩ _ _ (maxL_of h)).1
theorem minI_mem {xs : List Int} (h : xs ≠ []) : minI xs ∈ xs := (@minL_some ⟨[]⟩ _ _ (minL_of h)).1
theorem le_maxI {xs : List Int} {y : Int} (h : y ∈ xs) : y ≤ maxI xs := (@maxL_some ⟨[]⟩ _ _ (maxL_of (List.ne_nil_of_mem h))).2 y h
theorem minI_le {xs : List Int} {y : Int} (h : y ∈ xs) : minI xs ≤ y := (@minL_some ⟨[]⟩ _ _ (minL_of (List.ne_nil_of_mem h))).2 y h
theorem OptP_maxL {xs : List Int} {P : D → Prop} (h : xs ≠ []) : OptP (maxD [.list (xs.map .int)]) P = P (.int (maxI xs)) := by
  show OptP (((asInts (xs.map .int)).bind maxL).map .int) P = _
  rw [LK.asInts_map]
  show OptP ((maxL xs).map .int) P = _
  rw [maxL_of h]; with_unfolding_all rfl
theorem OptP_minL {xs : List Int} {P : D → Prop} (h : xs ≠ []) : OptP (minD [.list (xs.map .int)]) P = P (.int (minI xs)) := by
  show OptP (((asInts (xs.map .int)).bind minL).map .int) P = _
  rw [LK.asInts_map]
  show OptP ((minL xs).map .int) P = _
  rw [minL_of h]; with_unfolding_all rfl
/-! ### fractions -/
structure ExtraOk (t b : Int) : Prop where
  t0 : 0 ≤ t
  tb : t ≤ b
  b1 : 1 ≤ b
  b2 : b ≤ 1000000
  red : Int.gcd t b = 1
def extD (t b : Int) : D := .tuple [.int t, .int b]
theorem redD_ext (a b : Int) : redD a b = extD (a / (Int.gcd a b : Nat)) (b / (Int.gcd a b : Nat)) := rfl
theorem gcd_pos' {a b : Int} (hb : 0 < b) : 0 < Int.gcd a b := Int.gcd_pos_of_ne_zero_right _ (by omega)
theorem red_l (a b : Int) : a / (Int.gcd a b : Nat) * (Int.gcd a b : Nat) = a := Int.ediv_mul_cancel (Int.gcd_dvd_left ..)
theorem red_r (a b : Int) : b / (Int.gcd a b : Nat) * (Int.gcd a b : Nat) = b := Int.ediv_mul_cancel (Int.gcd_dvd_right ..)
theorem red_pos {a b : Int} (hb : 0 < b) : 0 < b / (Int.gcd a b : Nat) := by
  have hg := gcd_pos' (a := a) hb
  have h := red_r a b
  have : 0 < (b / (Int.gcd a b : Nat)) * (Int.gcd a b : Nat) := by rw [h]; exact hb
  exact Int.pos_of_mul_pos_left this (by omega) |> fun z => z
/-- a reduced fraction of a part of a day -/
theorem red_extra {a b : Int} (ha : 0 ≤ a) (hab : a ≤ b) (hb : 1 ≤ b) (hb2 : b ≤ 1000000) : ExtraOk (a / (Int.gcd a b : Nat)) (b / (Int.gcd a b : Nat)) := by
  have hg := gcd_pos' (a := a) (b := b) (by omega)
  refine ⟨Int.ediv_nonneg ha (by omega), Int.ediv_le_ediv (by omega) hab, red_pos (by omega), Int.le_trans (Int.ediv_le_self _ (by omega)) hb2, ?_⟩
  exact Int.gcd_ediv_gcd_ediv_gcd (by omega)
theorem ExtraOk.self {t b : Int} (h : ExtraOk t b) : redD t b = extD t b := by
  rw [redD_ext, h.red]; simp
/-- reduced fractions cross-multiplied -/
theorem red_le {a b c d : Int} (hb : 0 < b) (hd : 0 < d) (h : a * d ≤ c * b) : a / (Int.gcd a b : Nat) * (d / (Int.gcd c d : Nat)) ≤ c / (Int.gcd c d : Nat) * (b / (Int.gcd a b : Nat)) := by
  have hg := gcd_pos' (a := a) hb
  have hk := gcd_pos' (a := c) hd
  have e1 := red_l a b
  have e2 := red_r a b
  have e3 := red_l c d
  have e4 := red_r c d
  generalize a / (Int.gcd a b : Nat) = a' at *
  generalize b / (Int.gcd a b : Nat) = b' at *
  generalize c / (Int.gcd c d : Nat) = c' at *
  generalize d / (Int.gcd c d : Nat) = d' at *
  have hg' : (0 : Int) < (Int.gcd a b : Nat) := by omega
  have hk' : (0 : Int) < (Int.gcd c d : Nat) := by omega
  generalize ((Int.gcd a b : Nat) : Int) = g at *
  generalize ((Int.gcd c d : Nat) : Int) = k at *
  subst e1 e2 e3 e4
  rw [show a' * g * (d' * k) = a' * d' * (g * k) by ac_rfl, show c' * k * (b' * g) = c' * b' * (g * k) by ac_rfl] at h
  exact Int.le_of_mul_le_mul_right h (Int.mul_pos hg' hk')
/-! ### drifts -/
/-- the drift at the end of a year, times the bottom of the part -/
def driftN (r : List Step) (t b : Int) (y : Nat) : Int := (countL' r y : Nat) * b - t * (y : Nat)
def rowL (r : List Step) (n : Nat) (t b : Int) : List Int := (List.range n).map fun i => driftN r t b (i + 1)
theorem rowL_length (r : List Step) (n : Nat) (t b : Int) : (rowL r n t b).length = n := by simp [rowL]
theorem red_abs (a b : Int) : (a / (Int.gcd a b : Nat)).natAbs ≤ a.natAbs := by
  have h := congrArg Int.natAbs (red_l a b)
  rw [Int.natAbs_mul] at h
  by_cases z : Int.gcd a b = 0
  · rw [z]; simp
  · rw [← h]
    exact Nat.le_mul_of_pos_right _ (by rw [Int.natAbs_natCast]; exact Nat.pos_of_ne_zero z)
theorem red_abs_r (a b : Int) : (b / (Int.gcd a b : Nat)).natAbs ≤ b.natAbs := by
  rw [Int.gcd_comm]; exact red_abs b a
theorem driftN_mul {r : List Step} {n : Nat} (hp : Per (leapF r) n) (t b : Int) (q y : Nat) : driftN r t b (y + q * n) = driftN r t b y + (q : Int) * driftN r t b n := by
  unfold driftN
  rw [countL_eq, cnt_mul hp, ← countL_eq, ← countL_eq]
  generalize countL' r y = c
  generalize countL' r n = d
  simp only [Int.natCast_add, Int.natCast_mul, Int.mul_add, Int.add_mul, Int.mul_sub, Int.mul_assoc]
  rw [show t * ((q : Int) * (n : Int)) = (q : Int) * (t * (n : Int)) by ac_rfl]
  omega
theorem driftN_zero (r : List Step) (t b : Int) : driftN r t b 0 = 0 := by
  unfold driftN
  rw [show countL' r 0 = 0 from rfl]; simp
/-- by the own mean a round brings nothing -/
theorem driftN_own (r : List Step) (n : Nat) : driftN r (countL' r n : Nat) (n : Nat) n = 0 := by unfold driftN; omega
theorem mem_rowL {r : List Step} {n : Nat} {t b : Int} {y : Nat} (h1 : 1 ≤ y) (h2 : y ≤ n) : driftN r t b y ∈ rowL r n t b := List.mem_map.mpr ⟨y - 1, List.mem_range.mpr (by omega), by rw [show y - 1 + 1 = y by omega]⟩
theorem own_mem {r : List Step} {n : Nat} (hn : 0 < n) (hp : Per (leapF r) n) (y : Nat) : driftN r (countL' r n : Nat) (n : Nat) y ∈ rowL r n (countL' r n : Nat) (n : Nat) := by
  have h := driftN_mul hp (countL' r n : Nat) (n : Nat) (y / n) (y % n)
  rw [Nat.mul_comm, Nat.mod_add_div, driftN_own, Int.mul_zero, Int.add_zero] at h
  rw [h]
  have hm := Nat.mod_lt y hn
  by_cases z : y % n = 0
  · rw [z, driftN_zero, ← driftN_own r n]
    exact mem_rowL hn (Nat.le_refl _)
  · exact mem_rowL (by omega) (by omega)
theorem driftN_abs {r : List Step} {t b : Int} {y : Nat} (h1 : t.natAbs ≤ 1000000) (h2 : b.natAbs ≤ 1000000) : (driftN r t b y).natAbs ≤ 2000000 * y := by
  have hc : countL' r y ≤ y := by rw [countL_eq]; exact cnt_le _ _
  unfold driftN
  have a1 : ((countL' r y : Int) * b).natAbs ≤ y * 1000000 := by
    rw [Int.natAbs_mul]; exact Nat.mul_le_mul (by simpa using hc) h2
  have a2 : (t * (y : Int)).natAbs ≤ 1000000 * y := by
    rw [Int.natAbs_mul]; exact Nat.mul_le_mul h1 (by simp)
  omega
theorem redD_val {a b : Int} (x y : Int) (h : a / (Int.gcd a b : Nat) = x ∧ b / (Int.gcd a b : Nat) = y) : redD a b = .tuple [.int x, .int y] := by
  unfold redD; rw [h.1, h.2]
theorem OptP_atI {α : Type} {xs : List α} {i : Int} {P : α → Prop} (h0 : 0 ≤ i) (h1 : i < xs.length) (h : ∀ x ∈ xs, P x) : OptP (atI xs i) P := by
  rw [atI_nn h0, List.getElem?_eq_getElem (show i.toNat < xs.length by omega), OptP_some]
  exact h _ (List.getElem_mem _)
/-! ### the first year of a kind from a year on -/
def NextIs (p : Nat → Bool) (y0 : Nat) (o : Option Nat) : Prop := match o with
  | none => ∀ y, y0 ≤ y → p y = false
  | some y => y0 ≤ y ∧ p y = true ∧ ∀ z, y0 ≤ z → z < y → p z = false
theorem NextIs.unique {p : Nat → Bool} {y0 : Nat} {o o' : Option Nat} (h : NextIs p y0 o) (h' : NextIs p y0 o') : o = o' := by
  cases o with
  | none =>
    cases o' with
    | none => rfl
    | some y => have := h y h'.1; rw [h'.2.1] at this; cases this
  | some x =>
    cases o' with
    | none => have := h' x h.1; rw [h.2.1] at this; cases this
    | some y =>
      congr 1
      rcases Nat.lt_trichotomy x y with l | e | l
      · have := h'.2.2 x h.1 l; rw [h.2.1] at this; cases this
      · exact e
      · have := h.2.2 y h'.1 l; rw [h'.2.1] at this; cases this
/-- beyond a limit, on either side -/
def beyB (L x : Int) : Bool := decide (L < x ∨ x < -L)
/-- a row that comes again with more -/
def vF (f : Nat → Int) (n : Nat) (g : Int) (y : Nat) : Int := f ((y - 1) % n) + ((y - 1) / n : Nat) * g
theorem vF_at {f : Nat → Int} {n : Nat} {g : Int} {i q : Nat} (hi : i < n) : vF f n g (q * n + i + 1) = f i + (q : Nat) * g := by
  unfold vF
  rw [show q * n + i + 1 - 1 = i + n * q by rw [Nat.mul_comm]; omega, Nat.add_mul_mod_self_left, Nat.mod_eq_of_lt hi, Nat.add_mul_div_left _ _ (by omega), Nat.div_eq_of_lt hi, Nat.zero_add]
theorem ediv_abs {x g : Int} (hg : 1 ≤ g) : (x / g).natAbs ≤ x.natAbs := by
  rcases Int.lt_or_le x 0 with h | h
  · have h1 : x ≤ x / g := by
      refine Int.le_ediv_of_mul_le (by omega) ?_
      have h0 := Int.mul_nonneg (show 0 ≤ -x by omega) (show 0 ≤ g - 1 by omega)
      rw [Int.mul_sub, Int.neg_mul, Int.mul_one] at h0
      omega
    have h2 : x / g < 0 := Int.ediv_neg_of_neg_of_pos h (by omega)
    omega
  · have h1 := Int.ediv_le_self g h
    have h2 := Int.ediv_nonneg h (show 0 ≤ g by omega)
    omega
theorem cnt_filter (f : Nat → Bool) : ∀ k, cnt f k = ((List.range k).filter f).length
  | 0 => rfl
  | k + 1 => by
    rw [cnt_succ, cnt_filter f k, List.range_succ, List.filter_append, List.length_append]
    cases h : f k <;> simp [h]
theorem filt_nil {q : Nat → Bool} {n : Nat} (h : (List.range n).filter q = []) : ∀ i, i < n → q i = false := fun i hi => by
  have := List.filter_eq_nil_iff.mp h i (List.mem_range.mpr hi)
  simpa using this
theorem filt_cons {q : Nat → Bool} {n i : Nat} {l : List Nat} (h : (List.range n).filter q = i :: l) : i < n ∧ q i = true ∧ ∀ j, j < i → q j = false := by
  have h1 : ((List.range n).filter q).head? = some i := by rw [h]; rfl
  rw [List.head?_filter] at h1
  have h2 := List.find?_range_eq_some.mp h1
  exact ⟨by simpa using h2.2.1, h2.1, fun j hj => by have := h2.2.2 j hj; simpa using this⟩
theorem filt_upto (f : Nat → Bool) {k n : Nat} (h : k ≤ n) : ((List.range n).filter fun i => decide (i < k) && f i).length = cnt f k := by
  obtain ⟨m, rfl⟩ : ∃ m, n = k + m := ⟨n - k, by omega⟩
  rw [cnt_filter, List.range_add, List.filter_append, List.length_append]
  have e1 : (List.range k).filter (fun i => decide (i < k) && f i) = (List.range k).filter f := by
    apply List.filter_congr
    intro i hi
    simp [List.mem_range.mp hi]
  have e2 : ((List.range m).map (k + ·)).filter (fun i => decide (i < k) && f i) = [] := by
    apply List.filter_eq_nil_iff.mpr
    intro i hi
    obtain ⟨j, _, rfl⟩ := List.mem_map.mp hi
    simp
    intro z
    omega
  rw [e1, e2]; rfl
/-- sums -/
def tot (h : Nat → Nat) : Nat → Nat
  | 0 => 0
  | k + 1 => tot h k + h k
theorem tot_one {h h' : Nat → Nat} {i0 a : Nat} (e : ∀ i, h' i = h i + (if i = i0 then a else 0)) : ∀ n, tot h' n = tot h n + (if i0 < n then a else 0)
  | 0 => by simp [tot]
  | n + 1 => by
    rw [tot, tot, tot_one e n, e n]
    by_cases c : n = i0
    · subst c; simp; omega
    · rw [if_neg c]
      by_cases d : i0 < n
      · rw [if_pos d, if_pos (by omega)]; omega
      · rw [if_neg d, if_neg (by omega)]; omega
theorem tot_congr {h h' : Nat → Nat} : ∀ n, (∀ i, i < n → h i = h' i) → tot h n = tot h' n
  | 0, _ => rfl
  | n + 1, e => by rw [tot, tot, tot_congr n fun i hi => e i (by omega), e n (by omega)]
/-! ### days -/
/-- how many days there are ahead of a year -/
def aheadN (r : List Step) (y : Nat) : Nat := (y - 1) * 365 + countL' r (y - 1)
/-- the days of a year -/
def lenN (r : List Step) (y : Nat) : Nat := 365 + (if leapAt r (y : Int) = true then 1 else 0)
theorem ahead_succ {r : List Step} {y : Nat} (h : 1 ≤ y) : aheadN r (y + 1) = aheadN r y + lenN r y := by
  unfold aheadN lenN
  rw [show y + 1 - 1 = y by omega, countL_pred h]
  have : y * 365 = (y - 1) * 365 + 365 := by omega
  omega
theorem ahead_mono {r : List Step} {a b : Nat} (h : a ≤ b) : aheadN r a ≤ aheadN r b := by
  unfold aheadN
  have := countL_mono (r := r) (show a - 1 ≤ b - 1 by omega)
  omega
/-- a number of days tells its year and day -/
theorem ahead_unique {r : List Step} {y d z e : Nat} (hy : 1 ≤ y) (hz : 1 ≤ z) (hd : d < lenN r y) (he : e < lenN r z) (h : aheadN r y + d = aheadN r z + e) : y = z ∧ d = e := by
  have h1 := ahead_succ (r := r) hy
  have h2 := ahead_succ (r := r) hz
  rcases Nat.lt_trichotomy y z with l | rfl | l
  · have := ahead_mono (r := r) (show y + 1 ≤ z by omega); omega
  · exact ⟨rfl, by omega⟩
  · have := ahead_mono (r := r) (show z + 1 ≤ y by omega); omega
theorem countL_le (r : List Step) (k : Nat) : countL' r k ≤ k := by rw [countL_eq]; exact cnt_le _ _
theorem layO (o : Option Nat) : lay 60 (optY o) = true := by cases o <;> simp [optY, lay]
/-! ### rows turned about -/
theorem rot_map {α : Type} {f : Nat → α} {n k : Nat} (hp : ∀ i, f (i + n) = f i) (hk : k ≤ n) : ((List.range n).map f).drop k ++ ((List.range n).map f).take k = (List.range n).map fun i => f (i + k) := by
  apply List.ext_getElem?
  intro i
  by_cases hi : i < n
  · rw [List.getElem?_map, List.getElem?_range hi]
    by_cases h : i + k < n
    · rw [List.getElem?_append_left (by simp; omega), List.getElem?_drop, List.getElem?_map, List.getElem?_range (by omega)]
      simp [Nat.add_comm]
    · rw [List.getElem?_append_right (by simp; omega)]
      have e : i - (((List.range n).map f).drop k).length = i + k - n := by simp; omega
      rw [e, List.getElem?_take_of_lt (by omega), List.getElem?_map, List.getElem?_range (by omega)]
      have := hp (i + k - n)
      rw [show i + k - n + n = i + k by omega] at this
      simp [this]
  · rw [List.getElem?_eq_none (by simp; omega), List.getElem?_eq_none (by simp; omega)]
theorem per_mul {α : Type} {f : Nat → α} {p : Nat} (h : ∀ i, f (i + p) = f i) : ∀ m i, f (i + m * p) = f i
  | 0, i => by simp
  | m + 1, i => by rw [Nat.add_mul, Nat.one_mul, ← Nat.add_assoc, h, per_mul h m]
theorem per_mod {α : Type} {f : Nat → α} {p : Nat} (h : ∀ i, f (i + p) = f i) (i : Nat) : f (i % p) = f i := by
  have := per_mul h (i / p) (i % p)
  rw [Nat.mul_comm, Nat.mod_add_div] at this
  exact this.symm
theorem EncOk.idx {α : Type} [DecidableEq α] {f : α → D} (h : EncOk f) {a : α} : ∀ {xs : List α}, a ∈ xs → idxOf (f a) (xs.map f) = some (xs.findIdx fun x => decide (x = a))
  | x :: xs, hm => by
    rw [List.map_cons]
    unfold idxOf
    rw [List.findIdx_cons, h.eqv]
    by_cases e : x = a
    · rw [decide_eq_true e]; rfl
    · rw [decide_eq_false e, if_neg (by simp), EncOk.idx h (xs := xs) ((List.mem_cons.mp hm).resolve_left fun z => e z.symm)]; rfl
theorem EncOk.index {α : Type} [DecidableEq α] {f : α → D} (h : EncOk f) {a : α} {xs : List α} (hm : a ∈ xs) : indexD (.list (xs.map f)) [f a] = some (.int (xs.findIdx fun x => decide (x = a) : Nat)) := by
  show (if _ then _ else none) = _
  rw [if_pos ⟨shaped_of (n := 8) (h.lay a) (by omega), shaped_of (n := 9) (by simp only [lay]; exact layAll_map h.lay xs) (by omega)⟩, EncOk.idx h hm]
  rfl
theorem findIdx_range {α : Type} [DecidableEq α] {f : Nat → α} {n : Nat} {a : α} (hm : a ∈ (List.range n).map f) : ∃ j, ((List.range n).map f).findIdx (fun x => decide (x = a)) = j ∧ j < n ∧ f j = a ∧ ∀ i, i < j → f i ≠ a := by
  have hl : ((List.range n).map f).findIdx (fun x => decide (x = a)) < ((List.range n).map f).length := List.findIdx_lt_length.mpr ⟨a, hm, by simp⟩
  refine ⟨_, rfl, by simpa using hl, ?_, fun i hi => ?_⟩
  · have := of_decide_eq_true (List.findIdx_getElem (w := hl))
    simpa using this
  · have := List.not_of_lt_findIdx hi
    simp at this
    exact this
/-! ### weekdays and lengths of years -/
/-- the first weekday of the year i + 1, and whether it is a leap year -/
def kindK (r : List Step) (i : Nat) : Nat × Bool := ((i * 365 + countL' r i) % 7, leapF r i)
def kindD (k : Nat × Bool) : D := .tuple [.int (k.1 : Nat), .bool k.2]
theorem encKind : EncOk kindD := ⟨fun a => by simp [kindD, lay, layAll], fun a b => by
  obtain ⟨a1, a2⟩ := a
  obtain ⟨b1, b2⟩ := b
  simp only [kindD, PyData.eqv, PyData.eqvAll, Bool.and_true, beq_dec, ← Bool.decide_and]
  exact decide_eq_decide.mpr (by rw [Prod.mk.injEq]; constructor <;> exact fun h => ⟨by have := h.1; omega, h.2⟩)⟩
theorem lay_kind (k : Nat × Bool) : lay 60 (kindD k) = true := by simp [kindD, lay, layAll]
/-- behind how many years all comes again -/
def kindsN (r : List Step) : Nat := lcmS r * (if (lcmS r * 365 + countL' r (lcmS r)) % 7 = 0 then 1 else 7)
theorem kind_mul {r : List Step} (h : RuleOk r) {m : Nat} (hm : (m * (lcmS r * 365 + countL' r (lcmS r))) % 7 = 0) (i : Nat) : kindK r (i + m * lcmS r) = kindK r i := by
  unfold kindK
  have hp := leapF_per h.one
  rw [hp.mul m i, countL_eq, cnt_mul hp m i, ← countL_eq, ← countL_eq]
  congr 1
  have e : (i + m * lcmS r) * 365 + (countL' r i + m * countL' r (lcmS r)) = i * 365 + countL' r i + m * (lcmS r * 365 + countL' r (lcmS r)) := by
    rw [Nat.add_mul, Nat.mul_add, Nat.mul_assoc]; omega
  rw [e]
  omega
theorem kind_per {r : List Step} (h : RuleOk r) (i : Nat) : kindK r (i + kindsN r) = kindK r i := by
  unfold kindsN
  rw [Nat.mul_comm]
  refine kind_mul h ?_ i
  split <;> omega
theorem kind_per7 {r : List Step} (h : RuleOk r) (i : Nat) : kindK r (i + 7 * lcmS r) = kindK r i := kind_mul h (by omega) i
theorem kindsN_pos {r : List Step} (h : RuleOk r) : 0 < kindsN r := Nat.mul_pos (lcmS_pos h.steps) (by split <;> omega)
theorem kindsN_le {r : List Step} (h : RuleOk r) : kindsN r ≤ 70000 := by
  unfold kindsN
  have := h.lcm
  split <;> omega
theorem kind_year {r : List Step} {y : Nat} (h : 1 ≤ y) : kindK r (y - 1) = (aheadN r y % 7, leapAt r (y : Int)) := by
  unfold kindK aheadN leapF
  rw [show 1 + ((y - 1 : Nat) : Int) = (y : Int) by omega]
/-- a first year by computing -/
theorem NextIs_of {p : Nat → Bool} {y0 y : Nat} (h : (decide (y0 ≤ y) && (p y && (List.range (y - y0)).all fun i => !p (y0 + i))) = true) : NextIs p y0 (some y) := by
  simp only [Bool.and_eq_true, decide_eq_true_eq, List.all_eq_true, List.mem_range, Bool.not_eq_true'] at h
  refine ⟨h.1, h.2.1, fun z h1 h2 => ?_⟩
  have := h.2.2 (z - y0) (by omega)
  rw [show y0 + (z - y0) = z by omega] at this
  exact this
end LK
set_option Elab.async false
set_option linter.all false
set_option maxRecDepth 100000
set_option maxHeartbeats 2000000
/-! Q30: a list many times, sorted, list(range(..)). -/
namespace QL
open PySem PySem.Spec PyProof.Rows L2
variable [LawTabs] in
theorem dpAll_flat {K : PySem.W.Frag} {H : Hp} {vs : List V} {ds : List D} (h : DpAll K H vs ds) : ∀ n, DpAll K H (List.replicate n vs).flatten (List.replicate n ds).flatten
  | 0 => .nil
  | n + 1 => by
    rw [List.replicate_succ, List.replicate_succ, List.flatten_cons, List.flatten_cons]
    exact h.append (dpAll_flat h n)
/-- [..] * e -/
def repD (ds : List D) : D → Option D
  | .int k => if -(2 ^ 63) ≤ k ∧ k < 2 ^ 63 ∧ ds.length * k.toNat ≤ sizeLine then some (.list (List.replicate k.toNat ds).flatten) else none
  | _ => none
def repM (fs : M (List D)) (f : M D) : M D := M.bind fs fun ds => if ds.length ≤ sizeLine then M.bind f fun y => M.opt (repD ds y) else M.stuck
variable [LawTabs] in
theorem q_repL {X : Cx} {W : XK} {es : List Expr} {e : Expr} {fs : M (List D)} {f : M D} {p2 pos : Pos} (ha : QA X W es fs) (hb : QE X W e f) : QE X W (.BinOp (.List es p2) .Mult e pos) (repM fs f) := fun O => by
  refine ⟨fun pins s σ H Q I ⟨ρ, r, h⟩ => wpAny_BinOp (thn ((pe_lst (ha O)).run pins s σ H (fun x H' => ∃ (p : Addr) (vs : List V) (ds : List D) (ρ1 : Rho) (H1 : Hp), x = .ref p ∧ H1 p = none ∧ H' = upd H1 p (.lst vs) ∧ Rep X.K O ρ1 σ H1 ∧ Ext [] ρ σ H ρ1 σ H1 ∧ DpAll X.K (hid H1 (hd O ρ1 σ)) vs ds ∧ RP (M.bind f (fun y => M.opt (repD ds y)) ρ1) (fun d ρ' => ∀ v H', Rep X.K O ρ' σ H' → Ext [] ρ σ H ρ' σ H' → Dp X.K (hid H' (hd O ρ' σ)) v d → Q v H') (ErrK X.K W ρ1 σ H1)) I ?_) fun v s1 ⟨x, H1', I1, r1, p, vs, ds, ρ1, H1, ex, hp, eH, rep1, e1, dp1, q1⟩ => ?_)⟩
  · refine tA.mono (tA.app r h) fun vs H1 ⟨ds, ρ1, rep1, e1, dp1, q1⟩ => ?_
    by_cases hl : ds.length ≤ sizeLine
    · simp only [if_pos hl] at q1
      exact ⟨by rw [dp1.length]; exact hl, fun p hp => ⟨p, vs, ds, ρ1, H1, rfl, hp, rfl, rep1, e1, dp1, q1⟩⟩
    · simp only [if_neg hl] at q1
      exact q1.elim
  · subst ex eH
    have sm : SameT H1 (upd H1 p (.lst vs)) := .of (same_new (o := .lst vs) hp)
    have r2 : Rep X.K (fun b => O b ∨ b = p) ρ1 σ (upd H1 p (.lst vs)) := rep1.hide hp
    have e2 : Ext [] ρ1 σ H1 ρ1 σ (upd H1 p (.lst vs)) := Ext.of_same sm
    have dd : DpAll X.K (hid (upd H1 p (.lst vs)) (hd (fun b => O b ∨ b = p) ρ1 σ)) vs ds := DpAll.same (hid_anti sm fun b hb z => by
      rcases z with z | z | z
      · exact .inl z
      · exact .inr z
      · exact absurd hp (z ▸ hb.ne)) _ _ dp1
    have q2 : RP (M.bind f (fun y => M.opt (repD ds y)) ρ1) (fun d ρ' => ∀ v H', Rep X.K O ρ' σ H' → Ext [] ρ σ H ρ' σ H' → Dp X.K (hid H' (hd O ρ' σ)) v d → Q v H') (ErrK X.K W ρ1 σ (upd H1 p (.lst vs))) := RP.mono q1 (fun _ _ z => z) fun x q => ErrK.back q e2
    refine thn ((hb (fun b => O b ∨ b = p)).run pins s1 σ (upd H1 p (.lst vs)) _ I1 (tE.app r2 q2)) fun u s2 ⟨y, H2, I2, ry, d, ρ2, rep2, e3, dp2, q3⟩ => ?_
    obtain ⟨z, hz, q⟩ := RP.opt q3
    have nOwn : ¬ Own ρ1 σ p := fun z => (rep1.trk p (.inl z)).ne hp
    have hl2 : H2 p = some (.lst vs) := e3.keep p _ nOwn nt_lst upd_same
    have r4 : Rep X.K O ρ2 σ H2 := rep2.unhide
    have d2 : DpAll X.K (hid H2 (hd O ρ2 σ)) vs ds := DpAll.same (hid_anti .refl fun b _ z => by
      rcases z with z | z
      · exact .inl z
      · exact .inr (.inl z)) _ _ (DpAll.same e3.same _ _ dd)
    unfold repD at hz
    split at hz
    · rename_i k
      split at hz
      · rename_i hk
        cases hz
        obtain rfl := Dp.int_of dp2
        have hq : HasV X.K (hd O ρ2 σ) (.list (List.replicate k.toNat ds).flatten) H2 Q := hasV_end r4 (e1.trans (e2.trans e3)) q
        exact op_rep pins s2 σ H2 _ _ v u Q I2 r1 ry ⟨p, k, vs, rfl, rfl, hl2, hk.1, hk.2.1, by rw [d2.length]; exact hk.2.2, hq.newL r4.trk (dpAll_flat d2 _)⟩
      · cases hz
    · cases hz
/-! ### sorted -/
def sortL (ns : List Int) : List Int := ns.mergeSort fun a b => decide (a ≤ b)
theorem sortL_perm (ns : List Int) : (sortL ns).Perm ns := List.mergeSort_perm ..
theorem sortL_sorted (ns : List Int) : (sortL ns).Pairwise (· ≤ ·) := by
  have := List.pairwise_mergeSort (le := fun a b : Int => decide (a ≤ b)) (fun a b c h1 h2 => by simp at *; omega) (fun a b => by simp; omega) ns
  exact this.imp fun h => of_decide_eq_true h
theorem sorted_unique : ∀ {xs ys : List Int}, xs.Perm ys → xs.Pairwise (· ≤ ·) → ys.Pairwise (· ≤ ·) → xs = ys := fun hp h1 h2 => hp.eq_of_pairwise (fun a b _ _ h3 h4 => Int.le_antisymm h3 h4) h1 h2
def sortedD : List D → Option D
  | [.list ds] => (asInts ds).map fun ns => .list ((sortL ns).map .int)
  | _ => none
variable [LawTabs] in
theorem c_sorted {X : Cx} {O : Addr → Prop} : CallR X (.builtin "sorted") (rC X.K O sortedD) := by
  intro pins s σ H xs us Q I r ⟨ds, z, hd, hO, hg, hq⟩
  unfold sortedD at hg
  split at hg
  · rename_i es
    cases e1 : asInts es with
    | none => rw [e1] at hg; cases hg
    | some ns =>
      rw [e1] at hg
      cases hg
      have e4 := asInts_some e1
      subst e4
      obtain ⟨v, rfl, h⟩ := DpAll.one hd
      obtain ⟨a, ys, rfl, h1, h2⟩ := Dp.list_of h
      obtain rfl := DpAll.ints h2
      refine cr_sortedI pins s σ H _ us Q I r ⟨a, ns, rfl, hid_le.seq h1, fun ns' p hp hs hn => ?_⟩
      have e5 : ns' = sortL ns := sorted_unique (hp.trans (sortL_perm ns).symm) hs (sortL_sorted ns)
      rw [e5]
      exact hq.newL hO (DpAll.ofInts _) p hn
  · cases hg
/-! ### list(range(..)) -/
variable [LawTabs] in
theorem rgV_D {K : PySem.W.Frag} {H : Hp} (a : Int) (n : Nat) : DpAll K H ((List.range n).map fun i => V.int (a + (i : Nat))) (rangeL a n) := by
  have e1 : (List.range n).map (fun i => V.int (a + (i : Nat))) = ((List.range n).map fun (i : Nat) => a + (i : Int)).map V.int := by rw [List.map_map]; rfl
  have e2 : rangeL a n = ((List.range n).map fun (i : Nat) => a + (i : Int)).map PyData.int := by unfold rangeL; rw [List.map_map]; rfl
  rw [e1, e2]
  exact DpAll.ofInts _
def lr1D : D → Option D
  | .int n => if -(2 ^ 62) ≤ n ∧ n < 2 ^ 62 ∧ n.toNat ≤ 2 ^ 24 then some (.list (rangeL 0 n.toNat)) else none
  | _ => none
def lr2D : D → D → Option D
  | .int i, .int j => if (-(2 ^ 62) ≤ i ∧ i < 2 ^ 62) ∧ (-(2 ^ 62) ≤ j ∧ j < 2 ^ 62) ∧ (j - i).toNat ≤ 2 ^ 24 then some (.list (rangeL i (j - i).toNat)) else none
  | _, _ => none
section
variable {X : Cx} {W : XK} {e e2 : Expr} {f f2 : M D} {p p1 p2 pos : Pos}
variable [LawTabs] in
theorem q_listRg1 (hc : X.calm = true) (hml : X.mg "list" = none) (hmr : X.mg "range" = none) (he : QE X W e f) (hgl : Gl X "list" := by exact rfl) (hgr : Gl X "range" := by exact rfl) (na : starEach [e] X.env = (false, eval e X.env) :: starEach [] X.env := by rfl)
    (nb : starEach [.Call (.Name "range" p1) [e] [] p2] X.env = (false, eval (.Call (.Name "range" p1) [e] [] p2) X.env) :: starEach [] X.env := by rfl) : QE X W (.Call (.Name "list" p) [.Call (.Name "range" p1) [e] [] p2] [] pos) (op1 lr1D f) := fun O => (pe_listRg hc hgl hml (prg_1 hgr hmr (he O) na) nb).weak fun σ H Q ⟨ρ, r, h⟩ => by
  refine tE.mono (tE.app r h) fun v H1 ⟨d, ρ1, rep1, e1, dp1, q1⟩ => ?_
  obtain ⟨z, hz, q⟩ := RP.opt q1
  unfold lr1D at hz
  split at hz
  · rename_i n
    split at hz
    · rename_i hb
      cases hz
      obtain rfl := Dp.int_of dp1
      have hq : HasV X.K (hd O ρ1 σ) (.list (rangeL 0 n.toNat)) H1 Q := hasV_end rep1 e1 q
      exact ⟨n, rfl, ⟨by omega, by omega, hb.1, hb.2.1, by rw [Int.sub_zero]; exact hb.2.2⟩, hq.newL rep1.trk (by unfold rgV; rw [Int.sub_zero]; exact rgV_D 0 _)⟩
    · cases hz
  · cases hz
variable [LawTabs] in
theorem q_listRg2 (hc : X.calm = true) (hml : X.mg "list" = none) (hmr : X.mg "range" = none) (he : QE X W e f) (he2 : QE X W e2 f2) (hgl : Gl X "list" := by exact rfl) (hgr : Gl X "range" := by exact rfl) (na : starEach [e, e2] X.env = (false, eval e X.env) :: starEach [e2] X.env := by rfl) (nc : starEach [e2] X.env = (false, eval e2 X.env) :: starEach [] X.env := by rfl) (hp : (backTo p2 (starEach [e2] X.env)).any (·.1) = false := by rfl)
    (nb : starEach [.Call (.Name "range" p1) [e, e2] [] p2] X.env = (false, eval (.Call (.Name "range" p1) [e, e2] [] p2) X.env) :: starEach [] X.env := by rfl) : QE X W (.Call (.Name "list" p) [.Call (.Name "range" p1) [e, e2] [] p2] [] pos) (op2 lr2D f f2) := fun O => (pe_listRg hc hgl hml (prg_2 hgr hmr (he O) (he2 O) na nc hp) nb).weak fun σ H Q ⟨ρ, r, h⟩ => by
  refine tE.mono (tE.app r h) fun v H1 ⟨d, ρ1, rep1, e1, dp1, q1⟩ => tE.mono (tE.app rep1 q1) fun u H2 ⟨d2, ρ2, rep2, e2, dp2, q2⟩ => ?_
  obtain ⟨z, hz, q⟩ := RP.opt q2
  cases d with
  | int i =>
    cases d2 with
    | int j =>
      simp only [lr2D] at hz
      split at hz
      · rename_i hb
        cases hz
        obtain rfl := Dp.int_of dp1
        obtain rfl := Dp.int_of dp2
        have hq : HasV X.K (hd O ρ2 σ) (.list (rangeL i (j - i).toNat)) H2 Q := hasV_end rep2 (e1.trans e2) q
        exact ⟨i, j, rfl, rfl, ⟨hb.1.1, hb.1.2, hb.2.1.1, hb.2.1.2, hb.2.2⟩, hq.newL rep2.trk (rgV_D i _)⟩
      · cases hz
    | _ => simp [lr2D] at hz
  | _ => simp [lr2D] at hz
end
/-! ### a tuple of ints of the module -/
variable [LawTabs] in
theorem q_globT {X : Cx} {W : XK} {x : Str} {pos : Pos} {a : Addr} {ns : List Int} {d : D} (hg : Gl X x) (hm : X.mg x = some (.ref a) ∧ ∀ H, SqT X.K H a (ns.map V.int)) (e : d = .tuple (ns.map .int)) (hd : (x == ("__debug__" : Str)) = false := by decide) : QE X W (.Name x pos) (cst d) := fun O => (pe_glob hg hm.1 (v := .ref a) rfl hd).weak fun σ H Q ⟨ρ, r, h⟩ => h (.ref a) H r Ext.refl (e ▸ .tup (hm.2 _) (DpAll.ofInts _))
/-! ### what they want of what follows -/
section
variable {ρ : Rho} {Q : D → Rho → Prop} {E : Ex → Prop} {fs : M (List D)} {f : M D} {ds : List D} {i j : Int} {P : D → Prop}
@[simp ↓] theorem wp_repM : wp (repM fs f) ρ Q E = wp fs ρ (fun ds ρ1 => LineP ds (wp f ρ1 (fun y ρ2 => OptP (repD ds y) fun z => Q z ρ2) E)) E := by
  refine wpb fun ds ρ1 => ?_
  rw [wp_if]
  unfold LineP
  rw [wp_bind]
  simp only [wp_opt, wp_stuck]
@[simp ↓] theorem OptP_rep : OptP (repD ds (.int i)) P = ((-(2 ^ 63) ≤ i ∧ i < 2 ^ 63 ∧ ds.length * i.toNat ≤ sizeLine) ∧ P (.list (List.replicate i.toNat ds).flatten)) := OptP_ite
@[simp ↓] theorem OptP_lr1 : OptP (lr1D (.int i)) P = ((-(2 ^ 62) ≤ i ∧ i < 2 ^ 62 ∧ i.toNat ≤ 2 ^ 24) ∧ P (.list (rangeL 0 i.toNat))) := OptP_ite
@[simp ↓] theorem OptP_lr2 : OptP (lr2D (.int i) (.int j)) P = (((-(2 ^ 62) ≤ i ∧ i < 2 ^ 62) ∧ (-(2 ^ 62) ≤ j ∧ j < 2 ^ 62) ∧ (j - i).toNat ≤ 2 ^ 24) ∧ P (.list (rangeL i (j - i).toNat))) := OptP_ite
theorem asInts_ofMap : ∀ xs : List Int, asInts (xs.map .int) = some xs
  | [] => rfl
  | x :: xs => by rw [List.map_cons]; unfold asInts; rw [asInts_ofMap xs]; rfl
theorem OptP_sorted {ns : List Int} {P : D → Prop} : OptP (sortedD [.list (ns.map .int)]) P = P (.list ((sortL ns).map .int)) := by
  show OptP ((asInts (ns.map .int)).map _) P = _
  rw [asInts_ofMap]
  with_unfolding_all rfl
end
end QL
set_option Elab.async false
set_option linter.all false
set_option maxRecDepth 100000
set_option maxHeartbeats 2000000
/-! Q31: enumerate of a tuple. -/
namespace QL
open PySem PySem.Spec PyProof.Rows L2
open PySem.Sem (wp)
open AutoSeq1 (wpAny_loadPart')
theorem drawsT {prog : Program} {w : World} {A : Around} {it a : Addr} {items : Array Value} (hh : A.handled = none) (hne : a ≠ it) :
    Draws prog w A it [it, a] items.size (fun i x => items[i]? = some x) (fun i h => h.IsTupleIter it a i ∧ h.IsTuple a items) where
  live := fun i h ⟨⟨o, ho, _⟩, _⟩ => ⟨o, ho⟩
  frame := fun i h h' ⟨h1, h2⟩ k => ⟨h1.at fun o e => k it (by simp) o e, h2.at fun o e => k a (by simp) o e⟩
  item := fun i s Q E hi ⟨h1, h2⟩ hQ => RZ.nextOf_tuple_item h1 h2 (x := items[i]) (by simp [hi]) fun h' st sb => hQ items[i] h' s.toks (by simp [hi]) ⟨st, h2.at fun o e => (sb.2 a hne).trans e⟩ sb
  done := fun s Q E ⟨h1, h2⟩ hE => RZ.nextOf_tuple_end hh h1 h2 (by simp) hE
theorem meets_enumerate_newT (l : Addr) (items : Array Value) (n : Nat) (dct : Option Addr) (sl : Array (Option Value)) :
    Meets (Builtin.«enumerate.__new__» ⟨[.type "enumerate", .ref l], []⟩) (fun _ R s => s.heap.get? l = some { cls := .type "tuple", dict := dct, data := .seq items n, slots := sl } ∧
      R (.ok (.ret (.ref (s.heap.push { cls := .type "tuple_iterator", data := .fields #[.ref l, .int 0 0] }).objs.size)))
        { s with heap := (s.heap.push { cls := .type "tuple_iterator", data := .fields #[.ref l, .int 0 0] }).push { cls := .type "enumerate", data := .fields #[.none, .bool false, .ref s.heap.objs.size, rawInt 0, .none, .none] } }) :=
  .of_wp fun prog w A R s h => by
    obtain ⟨hp, g, d, tk, os⟩ := s; obtain ⟨hl, h⟩ := h
    have hsub := sub_enumerate
    have hL : Heap.IsTuple (Shared.heap ⟨hp, g, d, tk, os⟩) l items := ⟨_, hl, rfl, n, rfl⟩
    wp_walk using wpAny_loadPart' hl
    refine wpAny_stack_any fun st => wpAny_pure ?_
    split
    · rename_i c _ _ _ _ _
      cases (c == Value.type "enumerate")
      · wp_walk using wpAny_loadPart' hl, wpAny_pyIter_tuple hL
        exact ⟨_, rfl, h⟩
      · wp_walk using wpAny_loadPart' hl, wpAny_pyIter_tuple hL
        exact ⟨_, rfl, h⟩
    · wp_walk using wpAny_loadPart' hl, wpAny_pyIter_tuple hL
      exact ⟨_, rfl, h⟩
theorem call_enumerate_tuple {prog : Program} {w : World} {A : Around} {E : Value → Shared → Prop} {s : Shared} {l : Addr} {items : Array Value} {Q : Value → Shared → Prop} (hL : s.heap.IsTuple l items)
    (h : ∀ h', IsEnum h' (s.heap.objs.size + 1) s.heap.objs.size 0 .none → h'.IsTupleIter s.heap.objs.size l 0 → h'.objs.size = s.heap.objs.size + 2 →
      (∀ b o, s.heap.get? b = some o → h'.get? b = some o) → Q (.ref (s.heap.objs.size + 1)) { s with heap := h' }) :
    wpAny (model prog w) A (call (.type "enumerate") [.ref l]) Q E s := by
  obtain ⟨⟨c, dct, dt, sl⟩, hl, hc, n, hd⟩ := hL
  replace hc : c = .type "tuple" := hc
  replace hd : dt = .seq items n := hd
  subst hc hd
  refine callType_new F.called_enumerate (by decide) (F.typeCall_enumerate_1 _) (F.newCall_enumerate_1 _) (fun obj => F.args_object_init_2 obj _) F.entry_enumerate_new
    (meets_enumerate_newT l items n dct sl) ⟨hl, ?_⟩
  have hz := Heap.size_push s.heap { cls := .type "tuple_iterator", data := .fields #[.ref l, .int 0 0] }
  show _ ∧ _
  have he := Heap.get?_push_size (s.heap.push { cls := .type "tuple_iterator", data := .fields #[.ref l, .int 0 0] }) (o := { cls := .type "enumerate", data := .fields #[.none, .bool false, .ref s.heap.objs.size, rawInt 0, .none, .none] }) rfl
  rw [hz] at he ⊢
  exact ⟨⟨_, he, rfl⟩, h _ he ⟨_, Heap.get?_push_of_some _ (Heap.get?_push_size _ rfl), rfl, rfl⟩ (by rw [Heap.size_push, hz]) fun b o x => Heap.get?_push_of_some _ (Heap.get?_push_of_some _ x)⟩
/-- the tuple at a at each turn, each item in a new pair -/
def IteT (K : PySem.W.Frag) (a : Addr) : It :=
  ⟨fun i H => ∃ (xs : List V) (x : V), SqT K H a xs ∧ xs[i]? = some x, fun i H v H' => ∃ T x, v = .ref T ∧ H T = none ∧ H' = upd H T (.tup [.int (i : Nat), x]) ∧ ∀ xs, SqT K H a xs → xs[i]? = some x, fun i H => ∃ xs : List V, SqT K H a xs ∧ xs.length ≤ i⟩
theorem wpAny_pyNext_enum_endT {prog : Program} {w : World} {A : Around} {E : Value → Shared → Prop} {s : Shared} {e it l : Addr} {i : Nat} {items : Array Value} {old : Value} {Q : Option Value → Shared → Prop} (hh : A.handled = none)
    (he : IsEnum s.heap e it i old) (hit : s.heap.IsTupleIter it l i) (hl : s.heap.IsTuple l items) (hx : items[i]? = none)
    (hQ : ∀ h', Heap.ExtBut it s.heap h' → Q none { s with heap := h' }) : wpAny (model prog w) A (pyNext (.ref e)) Q E s := by
  have D : Draws prog w A.in1 it [it, l] i (fun _ _ => False) (fun j h => j = i ∧ h.IsTupleIter it l i ∧ h.IsTuple l items) := {
    live := fun j h ⟨_, ⟨o, ho, _⟩, _⟩ => ⟨o, ho⟩
    frame := fun j h h' ⟨e, h1, h2⟩ k => ⟨e, h1.at fun o q => k it (by simp) o q, h2.at fun o q => k l (by simp) o q⟩
    item := fun j s Q E hi ⟨e, _⟩ _ => absurd hi (by omega)
    done := fun s Q E ⟨_, h1, h2⟩ hE => RZ.nextOf_tuple_end hh h1 h2 hx hE }
  exact wpAny_pyNext_enum_endD D he ⟨rfl, hit, hl⟩ hQ
theorem turn_enumT {P : Program} {w : World} {K : PySem.W.Frag} {elts : List Expr} {kk : Nat} {tpos : Pos} (a e it : Addr) :
    Turn P w K (.Tuple elts kk tpos) (IteT K a) [e, it] e (fun i h => (∃ old, IsEnum h e it ((i : Nat) : Int) old) ∧ h.IsTupleIter it a i ∧ e ≠ it) where
  mem := by simp
  obj := fun i h st b hb => by
    obtain ⟨⟨old, he⟩, ⟨o, ho, hc, hd⟩, _⟩ := st
    have e' : b = e ∨ b = it := by simpa using hb
    rcases e' with z | z
    · rw [z]; exact ⟨_, he, fun v q => nomatch q⟩
    · rw [z]; exact ⟨o, ho, fun v q => by rw [hd] at q; cases q⟩
  keep := fun i h h' st k => let ⟨⟨old, he⟩, hi, hne⟩ := st; ⟨⟨old, k e (by simp) _ he⟩, hi.at fun o q => k it (by simp) o q, hne⟩
  item := by
    intro X hP hw hK hc i pins s σ H E I hf st hg
    subst hP hw hK
    obtain ⟨⟨old, he⟩, hit, hne⟩ := st
    obtain ⟨xs, x, hq, hx⟩ := hg
    obtain ⟨its, rv, p, hz⟩ := I.tuple hq
    have hp : s.heap.IsTuple a its.toArray := p
    obtain ⟨u, hu, ru⟩ := rv.get hx
    have hel : e < s.heap.objs.size := Heap.lt_size he
    have hil : it < s.heap.objs.size := by obtain ⟨_, q, _⟩ := hit; exact Heap.lt_size q
    have hai : a ≠ it := fun z => by
      obtain ⟨o1, q1, c1, _⟩ := hit
      obtain ⟨o2, q2, c2, _⟩ := hp
      rw [z, q1] at q2
      cases q2
      rw [c1] at c2
      exact absurd (Value.type.inj c2) (by decide)
    have hea : e ≠ a := fun z => by
      obtain ⟨o2, q2, c2, _⟩ := hp
      have he' : s.heap.get? e = some _ := he
      rw [z, q2] at he'
      cases he'
      exact absurd (Value.type.inj c2) (by decide)
    have hsz : i < its.toArray.size := by
      rcases Nat.lt_or_ge i its.length with l | l
      · simpa using l
      · rw [List.getElem?_eq_none l] at hu; cases hu
    refine wpAny_pyNext_enum_itemD (drawsT (I.ok.hd hc) hai) he ⟨hit, hp⟩ hsz hne (by simp [hne, hea]) fun x2 h' tk hx2 ho hit' hT hsz' hk => ?_
    have ex : x2 = u := by
      have h2 : its.toArray[i]? = some u := by simpa using hu
      rw [h2] at hx2
      exact (Option.some.inj hx2).symm
    subst ex
    refine ⟨_, rfl, wpAny_letOwnedTupleGo_enum (s := { s with heap := h', toks := tk + 1 }) ho fun h'' he' sb => ?_⟩
    have hT2 : h''.get? s.heap.objs.size = some { cls := .type "tuple", data := .seq #[.int i tk, x2] } := (sb.2 _ (Nat.ne_of_gt hel)).trans hT
    have new : ObjOk X.prog X.w (upd H s.heap.objs.size (.tup [.int (i : Nat), x])) h'' s.heap.objs.size (.tup [.int (i : Nat), x]) :=
      ⟨by show 2 ≤ sizeLine; decide, [.int i tk, x2], .cons ⟨_, rfl⟩ (.cons ru .nil), ⟨_, hT2, rfl, _, rfl⟩⟩
    have I1 : Inv X pins σ (upd H s.heap.objs.size (.tup [.int (i : Nat), x])) { s with heap := h'', toks := tk + 1 } :=
      I.turnedNew (ch := [e, it]) (fun b ob hb q => (sb.2 b (fun z => hb (by simp [z]))).trans (hk b ob (fun z => hb (by simp [z])) (fun z => hb (by simp [z])) q)) hf (Nat.le_refl _) new
    refine ⟨.ref s.heap.objs.size, _, I1, rfl, ⟨_, x, rfl, I.hok.fresh (Nat.le_refl _), rfl, fun ys hy => by rw [I.tuple_inj hy hq]; exact hx⟩, ⟨⟨x2, ?_⟩, hit'.1.at fun o q => (sb.2 it (Ne.symm hne)).trans q, hne⟩, fun b hb => ?_⟩
    · have e1 : ((i + 1 : Nat) : Int) = (i : Int) + 1 := by omega
      rw [e1]; exact he'
    · have hb' : b < s.heap.objs.size := by
        have e' : b = e ∨ b = it := by simpa using hb
        rcases e' with z | z
        · rw [z]; exact hel
        · rw [z]; exact hil
      rw [upd_ne (Nat.ne_of_lt hb')]
      exact (hf b hb).1
  done := by
    intro X hP hw hK hc i pins s σ H E I hf st hg
    subst hP hw hK
    obtain ⟨⟨old, he⟩, hit, hne⟩ := st
    obtain ⟨xs, hq, hx⟩ := hg
    obtain ⟨its, rv, p, hz⟩ := I.tuple hq
    have hp : s.heap.IsTuple a its.toArray := p
    obtain ⟨f0, f1, f2, f3, f4, f5⟩ := hf it (by simp)
    have hl := rv.length
    have hT : s.TypeIs (.ref e) "enumerate" := ⟨_, he, rfl⟩
    refine wpAny_pyNext_enum_endT (I.ok.hd hc) he hit hp (by simp; omega) fun h' eb => ⟨rfl, I.turned (t' := s.toks) (fun b o hb q => eb b o hb q) f0 f1 f3 f4 f5⟩
  self := fun A i s Q E st h => let ⟨⟨_, he⟩, _⟩ := st; wpAny_pyIter_enum he h
def iEnumA (K : PySem.W.Frag) (ta : TA) : TI := fun σ H R => ta σ H fun vs H1 => ∃ a xs, vs = [.ref a] ∧ ((SqL K H1 a xs ∧ R (Ite K a) H1) ∨ (SqT K H1 a xs ∧ R (IteT K a) H1))
theorem pi_enumA {X : Cx} {e : Expr} {ta : TA} {p pos tpos : Pos} {elts : List Expr} {kk : Nat} (hg : Gl X "enumerate") (hm : X.mg "enumerate" = none) (ha : PA X [e] ta) (hs : starEach [e] X.env = [(false, eval e X.env)] := by rfl) :
    PI X (.Tuple elts kk tpos) (.Call (.Name "enumerate" p) [e] [] pos) (iEnumA X.K ta) := by
  refine ⟨fun pins s σ H R I h => ?_⟩
  refine Call_ (ld_blt I hg hm boot_enumerate (PyProof.Rows.callWith_type1 (thn (ha.run pos pins s σ H _ I h) fun us s1 ⟨vs, H1, I1, r1, q1⟩ => ?_) hs rfl))
  obtain ⟨a, xs, ex, hq⟩ := q1
  subst ex
  cases r1 with
  | cons r rr =>
    cases rr
    cases r
    have fp : ∀ b ∈ [s1.heap.objs.size + 1, s1.heap.objs.size], FpOk X pins H1 b := fun b hb => by
      have e' : b = s1.heap.objs.size + 1 ∨ b = s1.heap.objs.size := by simpa using hb
      have hle : s1.heap.objs.size ≤ b := by
        rcases e' with z | z
        · rw [z]; exact Nat.le_add_right _ _
        · rw [z]; exact Nat.le_refl _
      exact I1.fpOk hle (I1.hok.fresh hle)
    rcases hq with ⟨hq, q⟩ | ⟨hq, q⟩
    · obtain ⟨its, rv, p', hz⟩ := I1.list hq
      refine call_enumerate_list p'.isList fun h' he hit hsz hk => wpAny_pyIter_enum he ?_
      have I2 : Inv X pins σ H1 { s1 with heap := h' } := I1.kept (t' := s1.toks) hk
      exact ⟨s1.heap.objs.size + 1, [s1.heap.objs.size + 1, s1.heap.objs.size], _, _, H1, rfl, I2, turn_enum a (s1.heap.objs.size + 1) s1.heap.objs.size, ⟨⟨.none, he⟩, hit, Nat.succ_ne_self _⟩, fp, q⟩
    · obtain ⟨its, rv, p', hz⟩ := I1.tuple hq
      have hp : s1.heap.IsTuple a its.toArray := p'
      refine call_enumerate_tuple hp fun h' he hit hsz hk => wpAny_pyIter_enum he ?_
      have I2 : Inv X pins σ H1 { s1 with heap := h' } := I1.kept (t' := s1.toks) hk
      exact ⟨s1.heap.objs.size + 1, [s1.heap.objs.size + 1, s1.heap.objs.size], _, _, H1, rfl, I2, turn_enumT a (s1.heap.objs.size + 1) s1.heap.objs.size, ⟨⟨.none, he⟩, hit, Nat.succ_ne_self _⟩, fp, q⟩
variable [LawTabs] in
theorem walkD_enumT {K : PySem.W.Frag} {own : Addr → Prop} {H0 : Hp} {a : Addr} {xs : List V} {ds : List D} (h : SqT K (hid H0 own) a xs) (d : DpAll K (hid H0 own) xs ds) : WalkD K own (IteT K a) (enumL 0 ds) H0 := by
  refine ⟨fun i H hi k => ?_, fun H k => ?_, fun i H x H' e he k y => ?_⟩
  · rw [enumL_length] at hi
    obtain ⟨v, hv, _⟩ := d.get (List.getElem?_eq_getElem hi)
    exact ⟨xs, v, kept_seqT k h, hv⟩
  · rw [enumL_length]
    exact ⟨xs, kept_seqT k h, by rw [d.length]; exact Nat.le_refl _⟩
  · obtain ⟨d', h1, h2⟩ := enumL_get he
    obtain ⟨v, hv, dv⟩ := d.get h1
    obtain ⟨T, z, ex, hT, eH, y⟩ := y
    have ez := y xs (kept_seqT k h)
    rw [hv] at ez
    cases ez
    subst ex h2
    refine ⟨by rw [eH]; exact SameX.of (same_new hT), fun own' g1 g2 => new_pair hT eH g1 ?_ (Dp.same (k.same g2) _ _ dv)⟩
    rw [Nat.zero_add]
    exact .int _
def enumAD : List D → Option (List D)
  | [.list ds] => some (enumL 0 ds)
  | [.tuple ds] => some (enumL 0 ds)
  | _ => none
variable [LawTabs] in
theorem qi_enumA {X : Cx} {W : XK} {e : Expr} {fs : M (List D)} {p pos tpos : Pos} {elts : List Expr} {kk : Nat} (hg : Gl X "enumerate") (hm : X.mg "enumerate" = none) (ha : QA X W [e] fs) (hs : starEach [e] X.env = [(false, eval e X.env)] := by rfl) : QI X W (.Tuple elts kk tpos) (.Call (.Name "enumerate" p) [e] [] pos) (rangeM enumAD fs) := fun O => (pi_enumA hg hm (ha O) hs).weak fun σ H R ⟨ρ, r, h⟩ => by
  refine tA.mono (tA.app r h) fun vs H1 ⟨ds, ρ1, rep1, e1, dp1, q1⟩ => ?_
  obtain ⟨z, hz, q⟩ := RP.opt q1
  unfold enumAD at hz
  split at hz
  · cases hz
    obtain ⟨v, rfl, h⟩ := DpAll.one dp1
    obtain ⟨a, xs, rfl, h1, h2⟩ := Dp.list_of h
    exact ⟨a, xs, rfl, .inl ⟨hid_le.seq h1, tI_end rep1 e1 (walkD_enumL h1 h2) q⟩⟩
  · cases hz
    obtain ⟨v, rfl, h⟩ := DpAll.one dp1
    obtain ⟨a, xs, rfl, h1, h2⟩ := Dp.tuple_of h
    exact ⟨a, xs, rfl, .inr ⟨seqT_same hid_le h1, tI_end rep1 e1 (walkD_enumT h1 h2) q⟩⟩
  · cases hz
@[simp ↓] theorem OptP_enumA {xs : List D} {P : List D → Prop} : OptP (enumAD [.list xs]) P = P (enumL 0 xs) := by with_unfolding_all rfl
@[simp ↓] theorem OptP_enumT {xs : List D} {P : List D → Prop} : OptP (enumAD [.tuple xs]) P = P (enumL 0 xs) := by with_unfolding_all rfl
end QL
set_option Elab.async false
set_option linter.all false
set_option maxRecDepth 100000
set_option maxHeartbeats 4000000
/-! Q32: chains of divisors, rules with the same leap years; plain mathematics. -/
namespace LK
open PySem PySem.Spec PyProof.Rows L2 QL
theorem encNat : EncOk fun n : Nat => PyData.int (n : Nat) := ⟨fun a => by simp [lay], fun a b => by
  simp only [PyData.eqv, beq_dec]
  apply decide_eq_decide.mpr; omega⟩
theorem encStep : EncOk stepD := ⟨fun a => by simp [stepD, lay, layAll], fun a b => by
  obtain ⟨a1, a2, a3⟩ := a
  obtain ⟨b1, b2, b3⟩ := b
  simp only [stepD, PyData.eqv, PyData.eqvAll, Bool.and_true, beq_dec, ← Bool.decide_and]
  apply decide_eq_decide.mpr
  simp⟩
theorem lay_rule (r : List Step) : lay 60 (ruleD r) = true := by
  have h := layAll_map (n := 59) (f := stepD) (fun s => by simp [stepD, lay, layAll]) r
  simp [ruleD, lay, h]
def linkD (L : List Nat) : D := .tuple (L.map fun n => .int (n : Nat))
theorem lay_link (L : List Nat) : lay 60 (linkD L) = true := by
  have h := layAll_map (n := 59) (f := fun n : Nat => PyData.int (n : Nat)) (fun s => by simp [lay]) L
  simp [linkD, lay, h]
/-- a chain's rule -/
def linkR (L : List Nat) : List Step := L.zipIdx.map fun p => ((p.1 : Int), 0, decide (p.2 % 2 = 0))
theorem linkR_D (L : List Nat) : ruleD (linkR L) = .tuple (L.zipIdx.map fun p => .tuple [.int (p.1 : Nat), .int 0, .bool (decide (p.2 % 2 = 0))]) := by
  unfold ruleD linkR
  rw [List.map_map]; rfl
/-! ### chains of divisors -/
structure ChainOk (L : List Nat) : Prop where
  len : L.length ≤ 6
  bnd : ∀ l ∈ L, 1 ≤ l ∧ l ≤ 10000
  pw : L.Pairwise fun a b => a < b ∧ a ∣ b
/-- how many links divide a year -/
def cntL (L : List Nat) (y : Nat) : Nat := L.countP fun l => decide (l ∣ y)
theorem linkR_snoc (L : List Nat) (l : Nat) : linkR (L ++ [l]) = linkR L ++ [((l : Int), 0, decide (L.length % 2 = 0))] := by
  simp [linkR, List.zipIdx_append]
theorem leapAt_snoc (r : List Step) (s : Step) (y : Int) : leapAt (r ++ [s]) y = if y % s.1 = s.2.1 then s.2.2 else leapAt r y := by
  simp [leapAt, List.foldl_append]
theorem ChainOk.snoc {L : List Nat} {l : Nat} (h : ChainOk (L ++ [l])) : ChainOk L ∧ (∀ a ∈ L, a < l ∧ a ∣ l) := by
  obtain ⟨h1, h2, h3⟩ := h
  rw [List.pairwise_append] at h3
  exact ⟨⟨by simp at h1; omega, fun a ha => h2 a (List.mem_append_left _ ha), h3.1⟩, fun a ha => h3.2.2 a ha l (by simp)⟩
theorem snoc_ind {P : List Nat → Prop} (h0 : P []) (h1 : ∀ L l, P L → P (L ++ [l])) (L : List Nat) : P L := by
  have : ∀ R : List Nat, P R.reverse := fun R => by
    induction R with
    | nil => exact h0
    | cons a R ih => rw [List.reverse_cons]; exact h1 _ _ ih
  have := this L.reverse
  rwa [List.reverse_reverse] at this
theorem cntL_snoc (L : List Nat) (l y : Nat) : cntL (L ++ [l]) y = cntL L y + (if l ∣ y then 1 else 0) := by
  unfold cntL
  rw [List.countP_append]
  simp [List.countP_cons, List.countP_nil]
theorem cntL_all {L : List Nat} {y : Nat} (h : ∀ l ∈ L, l ∣ y) : cntL L y = L.length := by
  unfold cntL
  exact List.countP_eq_length.mpr fun l hl => decide_eq_true (h l hl)
theorem cntL_none {L : List Nat} {y : Nat} (h : ∀ l ∈ L, ¬ l ∣ y) : cntL L y = 0 := by
  unfold cntL
  exact List.countP_eq_zero.mpr fun l hl => by simp [h l hl]
theorem cntL_append (A B : List Nat) (y : Nat) : cntL (A ++ B) y = cntL A y + cntL B y := List.countP_append ..
theorem cntL_cons (a : Nat) (B : List Nat) (y : Nat) : cntL (a :: B) y = cntL B y + (if a ∣ y then 1 else 0) := by
  unfold cntL
  rw [List.countP_cons]
  simp
/-- a chain's leap years -/
theorem leap_link (L : List Nat) : ChainOk L → ∀ y : Nat, leapAt (linkR L) (y : Int) = decide (cntL L y % 2 = 1) := by
  induction L using snoc_ind with
  | h0 => intro _ y; simp [linkR, leapAt, cntL]
  | h1 L l ih =>
    intro h y
    obtain ⟨h1, h2⟩ := h.snoc
    rw [linkR_snoc, leapAt_snoc, cntL_snoc]
    dsimp only
    by_cases e : l ∣ y
    · have e1 : (y : Int) % (l : Int) = 0 := by have := Nat.mod_eq_zero_of_dvd e; omega
      rw [if_pos e1, if_pos e, cntL_all fun a ha => Nat.dvd_trans (h2 a ha).2 e]
      apply decide_eq_decide.mpr; omega
    · have e1 : ¬ (y : Int) % (l : Int) = 0 := fun z => e (Nat.dvd_of_mod_eq_zero (by omega))
      rw [if_neg e1, if_neg e, ih h1 y]; rfl
theorem leapF_link {L : List Nat} (h : ChainOk L) (i : Nat) : leapF (linkR L) i = decide (cntL L (i + 1) % 2 = 1) := by
  unfold leapF
  rw [show (1 + (i : Int)) = ((i + 1 : Nat) : Int) by omega]
  exact leap_link L h (i + 1)
theorem linkR_length (L : List Nat) : (linkR L).length = L.length := by simp [linkR]
theorem linkR_mem {L : List Nat} {s : Step} (h : s ∈ linkR L) : ∃ l ∈ L, s.1 = (l : Int) ∧ s.2.1 = 0 := by
  unfold linkR at h
  obtain ⟨p, hp, rfl⟩ := List.mem_map.mp h
  have := List.mem_zipIdx hp
  exact ⟨p.1, by rw [this.2.2]; exact List.getElem_mem _, rfl, rfl⟩
theorem mem_linkR {L : List Nat} {l : Nat} (h : l ∈ L) : ∃ s ∈ linkR L, s.1 = (l : Int) := by
  obtain ⟨i, hi, e⟩ := List.getElem_of_mem h
  refine ⟨((l : Int), 0, decide (i % 2 = 0)), List.mem_map.mpr ⟨(l, i), ?_, rfl⟩, rfl⟩
  rw [List.mem_zipIdx_iff_getElem?]
  simp [hi, e]
theorem lcm_link_dvd {L : List Nat} {m : Nat} : lcmS (linkR L) ∣ m ↔ ∀ l ∈ L, l ∣ m := by
  rw [lcmS_dvd]
  constructor
  · intro h l hl
    obtain ⟨s, hs, e⟩ := mem_linkR hl
    have := h s hs
    rw [e] at this
    exact this
  · intro h s hs
    obtain ⟨l, hl, e, _⟩ := linkR_mem hs
    rw [e]
    exact h l hl
/-- the last link, or 1 -/
def lastL (L : List Nat) : Nat := L.getLast?.getD 1
theorem lastL_snoc (L : List Nat) (l : Nat) : lastL (L ++ [l]) = l := by simp [lastL]
theorem lastL_dvd {L : List Nat} (h : ChainOk L) : ∀ a ∈ L, a ∣ lastL L := by
  induction L using snoc_ind with
  | h0 => intro a ha; cases ha
  | h1 L l ih =>
    rw [lastL_snoc]
    intro a ha
    rcases List.mem_append.mp ha with ha | ha
    · exact (h.snoc.2 a ha).2
    · rw [List.mem_singleton.mp ha]; exact Nat.dvd_refl _
theorem lastL_mem {L : List Nat} (h : L ≠ []) : lastL L ∈ L := by
  unfold lastL
  rw [List.getLast?_eq_some_getLast h]
  exact List.getLast_mem h
theorem lcm_link {L : List Nat} (h : ChainOk L) : lcmS (linkR L) = lastL L := by
  by_cases e : L = []
  · subst e; rfl
  · exact Nat.dvd_antisymm (lcm_link_dvd.mpr (lastL_dvd h)) (lcm_link_dvd.mp (Nat.dvd_refl _) _ (lastL_mem e))
theorem lastL_pos {L : List Nat} (h : ChainOk L) : 1 ≤ lastL L ∧ lastL L ≤ 10000 := by
  by_cases e : L = []
  · subst e; exact ⟨Nat.le_refl _, by decide⟩
  · exact h.bnd _ (lastL_mem e)
theorem ChainOk.rule {L : List Nat} (h : ChainOk L) : RuleOk (linkR L) := by
  refine ⟨fun s hs => ?_, by rw [linkR_length]; exact h.len, by rw [lcm_link h]; exact (lastL_pos h).2⟩
  obtain ⟨l, hl, e1, e2⟩ := linkR_mem hs
  have := h.bnd l hl
  exact ⟨by omega, by omega, by omega, by omega⟩
/-- whatever the leap years come again behind, each link divides -/
theorem link_per {L : List Nat} (h : ChainOk L) {p : Nat} (hp : Per (leapF (linkR L)) p) : ∀ l ∈ L, l ∣ p := by
  have key : ∀ B A : List Nat, L = A ++ B → (∀ a ∈ A, a ∣ p) → ∀ b ∈ B, b ∣ p := by
    intro B
    induction B with
    | nil => intro _ _ _ b hb; cases hb
    | cons b B ih =>
      intro A e ha
      have hb : b ∣ p := by
        apply Decidable.byContradiction
        intro hn
        have hpw := h.pw
        rw [e, List.pairwise_append, List.pairwise_cons] at hpw
        have b1 := (h.bnd b (by rw [e]; simp)).1
        have e1 : cntL L b = A.length + 1 := by
          rw [e, cntL_append, cntL_cons, cntL_all fun a ha => (hpw.2.2 a ha b (by simp)).2, cntL_none fun c hc hd => ?_]
          · simp
          · have := (hpw.2.1.1 c hc).1
            have := Nat.le_of_dvd (by omega) hd
            omega
        have e2 : cntL L (b + p) = A.length := by
          have hnb : ¬ b ∣ b + p := fun z => hn ((Nat.dvd_add_right (Nat.dvd_refl b)).mp z)
          rw [e, cntL_append, cntL_cons, cntL_all fun a ha' => Nat.dvd_add (hpw.2.2 a ha' b (by simp)).2 (ha a ha'), cntL_none fun c hc hd => hnb (Nat.dvd_trans (hpw.2.1.1 c hc).2 hd)]
          simp [hnb]
        have hq := hp (b - 1)
        rw [leapF_link h, leapF_link h, show b - 1 + p + 1 = b + p by omega, show b - 1 + 1 = b by omega, e1, e2] at hq
        have := decide_eq_decide.mp hq
        omega
      intro c hc
      rcases List.mem_cons.mp hc with rfl | hc
      · exact hb
      · exact ih (A ++ [b]) (by rw [e]; simp) (fun a ha' => by
          rcases List.mem_append.mp ha' with q | q
          · exact ha a q
          · rw [List.mem_singleton.mp q]; exact hb) c hc
  exact key L [] rfl fun a ha => by cases ha
/-- years that m years divided by all links make up are both leap years, or both common -/
theorem link_mirror {L : List Nat} (h : ChainOk L) {m y : Nat} (hm : ∀ l ∈ L, l ∣ m) (hy : y ≤ m) : leapAt (linkR L) (y : Int) = leapAt (linkR L) ((m - y : Nat) : Int) := by
  rw [leap_link L h, leap_link L h]
  have : cntL L y = cntL L (m - y) := by
    unfold cntL
    apply List.countP_congr
    intro l hl
    simp only [decide_eq_true_eq]
    have := hm l hl
    constructor
    · exact fun z => Nat.dvd_sub this z
    · intro z
      have := Nat.dvd_sub this z
      rwa [show m - (m - y) = y by omega] at this
  rw [this]
/-- the number of a chain's leap years up to a year -/
def altS : List Nat → Nat → Int
  | [], _ => 0
  | l :: L, m => ((m / l : Nat) : Int) - altS L m
theorem cnt_dvd {l : Nat} (hl : 1 ≤ l) : ∀ m, cnt (fun i => decide (l ∣ i + 1)) m = m / l
  | 0 => by simp [cnt_zero]
  | m + 1 => by
    rw [cnt_succ, cnt_dvd hl m, Nat.succ_div]
    simp
theorem altS_snoc (l : Nat) (m : Nat) : ∀ L : List Nat, altS (L ++ [l]) m = altS L m + (if L.length % 2 = 0 then ((m / l : Nat) : Int) else -((m / l : Nat) : Int))
  | [] => by simp [altS]
  | a :: L => by
    rw [List.cons_append]
    unfold altS
    rw [altS_snoc l m L, List.length_cons]
    split <;> split <;> omega
theorem cnt_link (L : List Nat) : ChainOk L → ∀ m, (cnt (leapF (linkR L)) m : Int) = altS L m := by
  induction L using snoc_ind with
  | h0 => 
    intro _ m
    induction m with
    | zero => rfl
    | succ m ih => rw [cnt_succ, Int.natCast_add, ih]; simp [leapF, leapAt, linkR, altS]
  | h1 L l ih =>
    intro h m
    obtain ⟨h1, h2⟩ := h.snoc
    have hl := (h.bnd l (by simp)).1
    rw [altS_snoc, ← ih h1 m, ← cnt_dvd hl m]
    induction m with
    | zero => simp [cnt_zero]
    | succ m im =>
      rw [cnt_succ, cnt_succ, cnt_succ, leapF_link h, leapF_link h1, cntL_snoc]
      by_cases e : l ∣ m + 1
      · have e2 := cntL_all fun a ha => Nat.dvd_trans (h2 a ha).2 e
        rw [e2]
        simp only [e, if_true, decide_eq_true_eq]
        split at im <;> split <;> split <;> omega
      · simp only [e, if_false, decide_eq_true_eq, Nat.add_zero]
        split at im <;> split <;> omega
/-- two chains with the same leap years are the same -/
theorem cntL_small {L : List Nat} {y : Nat} (hy : 1 ≤ y) : cntL L y = cntL (L.filter fun l => decide (l ≤ y)) y := by
  unfold cntL
  rw [List.countP_filter]
  apply List.countP_congr
  intro l hl
  simp only [Bool.and_eq_true, decide_eq_true_eq]
  exact ⟨fun z => ⟨z, Nat.le_of_dvd hy z⟩, fun z => z.1⟩
theorem filter_succ {L : List Nat} (h : L.Pairwise fun a b => a < b ∧ a ∣ b) (y : Nat) : (L.filter fun l => decide (l < y + 1)) = (L.filter fun l => decide (l < y)) ++ (if y ∈ L then [y] else []) := by
  induction L with
  | nil => simp
  | cons a L ih =>
    rw [List.pairwise_cons] at h
    have ih := ih h.2
    rw [List.filter_cons, List.filter_cons]
    by_cases e1 : a < y
    · rw [if_pos (decide_eq_true (by omega)), if_pos (decide_eq_true e1), ih]
      have : y ∈ a :: L ↔ y ∈ L := by simp; omega
      simp [this]
    · by_cases e2 : a = y
      · subst e2
        have hn : ∀ b ∈ L, ¬ b < a + 1 := fun b hb => by have := (h.1 b hb).1; omega
        have hn2 : ∀ b ∈ L, ¬ b < a := fun b hb => by have := (h.1 b hb).1; omega
        have f1 : (L.filter fun l => decide (l < a + 1)) = [] := List.filter_eq_nil_iff.mpr fun b hb => by simp [hn b hb]
        have f2 : (L.filter fun l => decide (l < a)) = [] := List.filter_eq_nil_iff.mpr fun b hb => by simp; have := hn2 b hb; omega
        rw [f1, f2]
        simp
      · have f1 : (L.filter fun l => decide (l < y + 1)) = [] := List.filter_eq_nil_iff.mpr fun b hb => by simp; have := (h.1 b hb).1; omega
        have f2 : (L.filter fun l => decide (l < y)) = [] := List.filter_eq_nil_iff.mpr fun b hb => by simp; have := (h.1 b hb).1; omega
        have f3 : ¬ y ∈ a :: L := by
          simp
          refine ⟨fun z => e2 z.symm, fun z => ?_⟩
          have := (h.1 y z).1
          omega
        rw [f1, f2, if_neg f3, if_neg (by simp; omega), if_neg (by simp; omega)]
        rfl
theorem Per.gcd {f : Nat → Bool} (p q : Nat) : Per f p → Per f q → Per f (Nat.gcd p q) := by
  induction p, q using Nat.gcd.induction with
  | H0 n => intro _ h; simpa using h
  | H1 m n hm ih =>
    intro h1 h2
    rw [Nat.gcd_rec]
    refine ih (fun i => ?_) h1
    have e := h1.mul (n / m) (i + n % m)
    rw [← e, ← h2 i]
    congr 1
    have := Nat.mod_add_div n m
    rw [Nat.mul_comm] at this
    omega
theorem LeastPer.same {f : Nat → Bool} {n m p q : Nat} (h1 : LeastPer f n p) (h2 : LeastPer f m q) : p = q := by
  have hg := Per.gcd p q h1.per h2.per
  have g1 : Nat.gcd p q ∣ p := Nat.gcd_dvd_left ..
  have g2 : Nat.gcd p q ∣ q := Nat.gcd_dvd_right ..
  have g0 : 0 < Nat.gcd p q := Nat.gcd_pos_of_pos_left _ h1.pos
  have e1 : Nat.gcd p q = p := by
    rcases Nat.lt_or_ge (Nat.gcd p q) p with l | l
    · exact absurd hg (h1.least _ g0 l (Nat.dvd_trans g1 h1.dvd))
    · exact Nat.le_antisymm (Nat.le_of_dvd h1.pos g1) l
  have e2 : Nat.gcd p q = q := by
    rcases Nat.lt_or_ge (Nat.gcd p q) q with l | l
    · exact absurd hg (h2.least _ g0 l (Nat.dvd_trans g2 h2.dvd))
    · exact Nat.le_antisymm (Nat.le_of_dvd h2.pos g2) l
  exact e1.symm.trans e2
/-- the same leap years, by one least round -/
def alikeB (r q : List Step) : Bool := decide (perS r = perS q) && decide (leapsL r (perS r) = leapsL q (perS r))
theorem alikeB_iff {r q : List Step} (h : RuleOk r) (h2 : RuleOk q) : alikeB r q = true ↔ ∀ i, leapF r i = leapF q i := by
  have s1 := perS_spec h
  have s2 := perS_spec h2
  unfold alikeB
  rw [Bool.and_eq_true, decide_eq_true_eq, decide_eq_true_eq]
  constructor
  · intro ⟨e1, e2⟩ i
    rw [← s1.per.mod i, ← s2.per.mod i, ← e1]
    rw [leapsL_eq, leapsL_eq] at e2
    exact (List.map_inj_left.mp e2) _ (List.mem_range.mpr (Nat.mod_lt _ s1.pos))
  · intro e
    have ef : leapF r = leapF q := funext e
    refine ⟨?_, by rw [leapsL_eq, leapsL_eq, ef]⟩
    rw [ef] at s1
    exact s1.same s2

/-- turn y of the way to a chain that has these leap years -/
theorem link_turn {L : List Nat} (h : ChainOk L) {y : Nat} (hy : 1 ≤ y) : leapAt (linkR L) (y : Int) = decide ((cntL (L.filter fun l => decide (l < y)) y + (if y ∈ L then 1 else 0)) % 2 = 1) := by
  rw [leap_link L h, cntL_small hy]
  have e : (L.filter fun l => decide (l ≤ y)) = L.filter fun l => decide (l < y + 1) := by
    congr 1; funext l; apply decide_eq_decide.mpr; omega
  rw [e, filter_succ h.pw, cntL_append]
  by_cases m : y ∈ L
  · simp [m, cntL]
  · simp [m, cntL]
theorem link_here {L : List Nat} (h : ChainOk L) {y : Nat} (m : y ∈ L) : (∀ c ∈ L.filter (fun l => decide (l < y)), c < y ∧ c ∣ y) ∧ (L.filter fun l => decide (l < y)).length < 6 := by
  have e := filter_succ h.pw y
  rw [if_pos m] at e
  have hs : (L.filter fun l => decide (l < y + 1)).Sublist L := List.filter_sublist
  have hp := h.pw.sublist hs
  have hl := hs.length_le
  rw [e] at hp hl
  rw [List.pairwise_append] at hp
  have := h.len
  rw [List.length_append] at hl
  simp at hl
  exact ⟨fun c hc => hp.2.2 c hc y (by simp), by omega⟩
def optL : Option (List Nat) → D
  | none => .none
  | some L => linkD L
theorem isNone_optL (s : Option (List Nat)) : isNone (optL s) = s.isNone := by cases s <;> rfl
theorem lay_optL (s : Option (List Nat)) : lay 60 (optL s) = true := by
  cases s with
  | none => rfl
  | some L => exact lay_link L
/-- two rows that are the same for as many years as both turns have together are the same -/
theorem same_window {f g : Nat → Bool} {p q : Nat} (hp : 0 < p) (hq : 0 < q) (h1 : Per f p) (h2 : Per g q) (hw : ∀ i, i < p + q → f i = g i) : ∀ i, f i = g i := by
  have h3 : Per f q := Per.of_window hp h1 fun i hi => by
    rw [hw (i + q) (by omega), h2 i, hw i (by omega)]
  intro i
  rw [← h3.mod i, ← h2.mod i]
  exact hw _ (by have := Nat.mod_lt i hq; omega)
end LK
set_option Elab.async false
set_option linter.all false
set_option maxRecDepth 100000
set_option maxHeartbeats 4000000
/-! Q33: slices of a list with a step ahead; range with a step. -/
namespace QL
open PySem PySem.Spec PyProof.Rows L2
theorem vals_pick {xs : List V} {us : List Value} (h : Vals xs us) : ∀ is : List Nat, Vals (is.filterMap (xs[·]?)) (is.filterMap (us[·]?))
  | [] => .nil
  | i :: is => by
    have ih := vals_pick h is
    rw [List.filterMap_cons, List.filterMap_cons]
    cases e : xs[i]? with
    | none => rw [h.none_of e]; exact ih
    | some x =>
      obtain ⟨u, e2, r⟩ := h.get e
      rw [e2]
      exact .cons r ih
theorem dpAll_pick [LawTabs] {K : PySem.W.Frag} {H : Hp} {vs : List V} {ds : List D} (h : DpAll K H vs ds) : ∀ is : List Nat, DpAll K H (is.filterMap (vs[·]?)) (is.filterMap (ds[·]?))
  | [] => .nil
  | i :: is => by
    have ih := dpAll_pick h is
    rw [List.filterMap_cons, List.filterMap_cons]
    cases e : ds[i]? with
    | none =>
      have : vs[i]? = none := by
        rw [List.getElem?_eq_none_iff] at e ⊢
        rw [h.length]; exact e
      rw [this]; exact ih
    | some x =>
      obtain ⟨u, e2, r⟩ := h.get e
      rw [e2]
      exact .cons r ih
theorem vals_slice {xs : List V} {us : List Value} (h : Vals xs us) (lo hi st : Option Int) : Vals (pickL xs lo hi st) (slicePick us.toArray lo hi st).toList := by
  unfold pickL slicePick
  dsimp only
  rw [List.size_toArray, h.length]
  have e : (fun x : Nat => us.toArray[x]?) = fun x : Nat => us[x]? := by funext i; simp
  rw [e]
  exact vals_pick h _
theorem dpAll_slice [LawTabs] {K : PySem.W.Frag} {H : Hp} {vs : List V} {ds : List D} (h : DpAll K H vs ds) (lo hi st : Option Int) : DpAll K H (pickL vs lo hi st) (pickL ds lo hi st) := by
  unfold pickL
  dsimp only
  rw [h.length]
  exact dpAll_pick h _
/-- xs[lo::c] of a list -/
def slcD (lo : Option Int) (c : Int) : D → Option D
  | .list ds => some (.list (pickL ds lo none (some c)))
  | _ => none
section
variable [LawTabs] {X : Cx} {W : XK} {e : Expr} {f : M D}
theorem q_stepL {l : Option Expr} {lo : Option Int} {tl : TO} {c : Int} {k : Nat} {p1 p3 pos : Pos} (hl : PO X l tl) (hl2 : ∀ σ H Q, Q lo H → tl σ H Q) (hc : c ≠ 0) (he : QE X W e f) : QE X W (.Subscript e (.Slice l none (some (.Constant (.int c) k p1)) p3) pos) (op1 (slcD lo c) f) := fun O => by
  refine ⟨fun pins s σ H Q I ⟨ρ, r, h⟩ => ?_⟩
  refine Subscript_ (thn ((he O).run pins s σ H _ I (tE.app r h)) fun v s1 ⟨x, H1, I1, r1, d, ρ1, rep1, e1, dp1, q1⟩ => ?_)
  obtain ⟨z, hz, q⟩ := RP.opt q1
  have hst : PO X (some (.Constant (.int c) k p1)) (tPart (tC (.int c))) := po_some pe_int
  refine wpAny_Slice (thn (hl.run pins s1 σ H1 (fun o H2 => o = lo ∧ H2 = H1) I1 (hl2 _ _ _ ⟨rfl, rfl⟩)) fun vl s2 ⟨l, H2, I2, pl, el, e2⟩ => ?_)
  subst el e2
  refine thn (po_none.run pins s2 σ _ (fun o H3 => o = none ∧ H3 = H2) I2 ⟨rfl, rfl⟩) fun vu s3 ⟨u, H3, I3, pu, eu, e3⟩ => ?_
  subst eu e3
  refine thn (hst.run pins s3 σ _ (fun o H4 => o = some c ∧ H4 = H3) I3 ⟨c, rfl, rfl, rfl⟩) fun vs s4 ⟨o, H4, I4, ps, eo, e4⟩ => ?_
  subst eo e4
  have I5 : Inv X pins σ H4 { s4 with heap := s4.heap.push { cls := .type "slice", data := .fields #[vl, vu, vs] } } := I4.kept (t' := s4.toks) fun b ob q => Heap.get?_push_of_some _ q
  unfold slcD at hz
  split at hz
  · cases hz
    obtain ⟨a, xs, rfl, h1, h2⟩ := Dp.list_of dp1
    cases r1
    obtain ⟨its, r, ht, hz⟩ := I5.list (hid_le.seq h1)
    have hlen := r.length
    show wpAny (model X.prog X.w) X.A (subscriptTail e _ (.ref a) (.ref s4.heap.objs.size)) (EP X pins σ Q) X.xe { s4 with heap := s4.heap.push { cls := .type "slice", data := .fields #[vl, vu, vs] } }
    refine tail_any (ops := [.ref a, .ref s4.heap.objs.size]) ht.isList.typeIs (PySem.slot_list_getitem.lookup) ?_ (by with_unfolding_all rfl)
    refine wpAny_getItem_list_slice ht.isList (Heap.IsSliceOf.new _ vl vu vs) pl pu ps (fun z => hc (Option.some.inj z)) ?_ (by rw [List.size_toArray]; omega)
    have hp := I5.hok.fresh (Nat.le_refl _)
    have hv := vals_slice r l none (some c)
    have hsz : (slicePick its.toArray l none (some c)).size ≤ its.length := slicePick_size_le its.toArray l none (some c)
    refine ⟨.ref _, _, I5.laid (t' := s4.toks) (o := .lst (pickL xs l none (some c))) (fun b ob q => Heap.get?_push_of_some _ q) (Nat.le_refl _) ?_, rfl, hasV_end rep1 e1 q _ _ (.of (same_new hp)) (Dp.newL rep1.trk hp (dpAll_slice h2 l none (some c)))⟩
    have hvl : (pickL xs l none (some c)).length = (slicePick its.toArray l none (some c)).size := by rw [hv.length, Array.length_toList]
    refine ⟨by omega, _, 0, hv, Heap.get?_push_size _ ?_⟩
    rfl
  · cases hz
theorem q_step0 {c : Int} {k : Nat} {p1 p3 pos : Pos} (hc : c ≠ 0) (he : QE X W e f) : QE X W (.Subscript e (.Slice none none (some (.Constant (.int c) k p1)) p3) pos) (op1 (slcD none c) f) :=
  q_stepL po_none (fun _ _ _ q => q) hc he
theorem q_step1 {c i : Int} {k k2 : Nat} {p1 p2 p3 pos : Pos} (hc : c ≠ 0) (he : QE X W e f) : QE X W (.Subscript e (.Slice (some (.Constant (.int i) k2 p2)) none (some (.Constant (.int c) k p1)) p3) pos) (op1 (slcD (some i) c) f) :=
  q_stepL (lo := some i) (po_some pe_int) (fun _ _ _ q => ⟨i, rfl, q⟩) hc he
end
def evens {α : Type} : List α → List α
  | [] => []
  | [a] => [a]
  | a :: _ :: t => a :: evens t
def odds {α : Type} : List α → List α
  | [] => []
  | [_] => []
  | _ :: b :: t => b :: odds t
theorem evens_eq {α : Type} : ∀ xs : List α, (List.range ((xs.length + 1) / 2)).filterMap (fun k => xs[2 * k]?) = evens xs
  | [] => by simp [evens]
  | [a] => by simp [evens, List.range_succ]
  | a :: b :: t => by
    rw [show ((a :: b :: t).length + 1) / 2 = (t.length + 1) / 2 + 1 by simp only [List.length_cons]; omega, List.range_succ_eq_map, List.filterMap_cons, List.filterMap_map]
    show a :: List.filterMap (fun k => (a :: b :: t)[2 * (k + 1)]?) _ = a :: evens t
    rw [← evens_eq t]
    congr 1
theorem odds_eq {α : Type} : ∀ xs : List α, (List.range (xs.length / 2)).filterMap (fun k => xs[2 * k + 1]?) = odds xs
  | [] => by simp [odds]
  | [a] => by simp [odds]
  | a :: b :: t => by
    rw [show (a :: b :: t).length / 2 = t.length / 2 + 1 by simp only [List.length_cons]; omega, List.range_succ_eq_map, List.filterMap_cons, List.filterMap_map]
    show b :: List.filterMap (fun k => (a :: b :: t)[2 * (k + 1) + 1]?) _ = b :: odds t
    rw [← odds_eq t]
    congr 1
theorem pick_even {α : Type} (xs : List α) : pickL xs none none (some 2) = evens xs := by
  rw [← evens_eq]
  unfold pickL
  show (sliceRange 0 (xs.length : Int) 2).filterMap (xs[·]?) = _
  unfold sliceRange
  rw [List.filterMap_map]
  simp only [show ((2 : Int) > 0) from by decide, if_true]
  have e : (if (0 : Int) < (xs.length : Int) then ((xs.length : Int) - 0 + 2 - 1) / 2 else 0).toNat = (xs.length + 1) / 2 := by split <;> omega
  rw [e]
  congr 1
  funext k
  show xs[(0 + 2 * (k : Int)).toNat]? = _
  congr 1; omega
theorem pick_odd {α : Type} (xs : List α) : pickL xs (some 1) none (some 2) = odds xs := by
  rw [← odds_eq]
  unfold pickL
  show (sliceRange (max 0 (min 1 (xs.length : Int))) (xs.length : Int) 2).filterMap (xs[·]?) = _
  unfold sliceRange
  rw [List.filterMap_map]
  simp only [show ((2 : Int) > 0) from by decide, if_true]
  have e : (if max 0 (min 1 (xs.length : Int)) < (xs.length : Int) then ((xs.length : Int) - max 0 (min 1 (xs.length : Int)) + 2 - 1) / 2 else 0).toNat = xs.length / 2 := by split <;> omega
  rw [e]
  by_cases h : xs = []
  · subst h; rfl
  · have hl : 0 < xs.length := List.length_pos_iff.mpr h
    congr 1
    funext k
    show xs[(max 0 (min 1 (xs.length : Int)) + 2 * (k : Int)).toNat]? = _
    congr 1; omega
@[simp ↓] theorem OptP_slc {xs : List D} {lo : Option Int} {c : Int} {P : D → Prop} : OptP (slcD lo c (.list xs)) P = P (.list (pickL xs lo none (some c))) := nr (by with_unfolding_all rfl)
theorem fits_of {i : Int} (h1 : -9223372036854775808 ≤ i) (h2 : i < 9223372036854775808) : Builtin.Range.rangeFitsLong i = true := by
  unfold Builtin.Range.rangeFitsLong
  simp
  omega
theorem OptP_range3 {a b c : Int} {P : List D → Prop} (hc : 0 < c) (hc2 : c < 1000000000) (ha : -1000000000 ≤ a) (ha2 : a < 1000000000) (hb : -1000000000 ≤ b) (hb2 : b < 1000000000) :
    OptP (range3D [.int a, .int b, .int c]) P = P ((List.range (if a < b then (b - a - 1) / c + 1 else 0).toNat).map fun i => .int (a + (i : Nat) * c)) := by
  have hz : Builtin.Range.rangeSize a b c = if a < b then (b - a - 1) / c + 1 else 0 := by
    unfold Builtin.Range.rangeSize
    rw [if_pos (show c > 0 from hc)]
  have hq : 0 ≤ Builtin.Range.rangeSize a b c ∧ Builtin.Range.rangeSize a b c ≤ 4000000000 := by
    rw [hz]
    split
    · have h1 : 0 ≤ (b - a - 1) / c := Int.ediv_nonneg (by omega) (by omega)
      have h2 : (b - a - 1) / c ≤ b - a - 1 := Int.ediv_le_self _ (by omega)
      omega
    · omega
  have hs : Builtin.Range.small a b c = true := by
    unfold Builtin.Range.small
    rw [fits_of (by omega) (by omega), fits_of (by omega) (by omega), fits_of (by omega) (by omega), fits_of (by omega) (by omega), if_pos hc, fits_of (by omega) (by omega)]
    simp
  have e : range3D [.int a, .int b, .int c] = some (rangeC a c (range3N a b c)) := if_pos ⟨by omega, by omega, hs⟩
  rw [opt_of e]
  unfold rangeC range3N
  rw [hz]
theorem rangeSize_nn (a b c : Int) : 0 ≤ Builtin.Range.rangeSize a b c := by
  unfold Builtin.Range.rangeSize
  split
  · split
    · have := Int.ediv_nonneg (a := b - a - 1) (b := c) (by omega) (by omega)
      omega
    · omega
  · split
    · have := Int.ediv_nonneg (a := a - b - 1) (b := -c) (by omega) (by omega)
      omega
    · omega
theorem qi_range3 [LawTabs] {X : Cx} {W : XK} {tg e e2 e3 : Expr} {fs : M (List D)} {pos p : Pos} (hg : Gl X "range") (hm : X.mg "range" = none) (ha : QA X W [e, e2, e3] fs) (hs : starEach [e, e2, e3] X.env = (false, eval e X.env) :: starEach [e2, e3] X.env := by rfl) (hpl : (backTo pos (starEach [e2, e3] X.env)).any (·.1) = false := by rfl) : QI X W tg (.Call (.Name "range" p) [e, e2, e3] [] pos) (rangeM range3D fs) := fun O => (pi_range3 hg hm (ha O) hs hpl).weak fun σ H R ⟨ρ, r, h⟩ => by
  refine tA.mono (tA.app r h) fun vs H1 ⟨ds, ρ1, rep1, e1, dp1, q1⟩ => ?_
  obtain ⟨z, hz, q⟩ := RP.opt q1
  unfold range3D at hz
  split at hz
  · split at hz
    · rename_i hsm
      cases hz
      cases dp1 with
      | cons h1 dp1 =>
        cases dp1 with
        | cons h2 dp1 =>
          cases dp1 with
          | cons h3 dp1 =>
            cases dp1
            obtain rfl := Dp.int_of h1
            obtain rfl := Dp.int_of h2
            obtain rfl := Dp.int_of h3
            exact ⟨_, _, _, _, rfl, ⟨hsm.1, hsm.2.1, hsm.2.2, (Int.toNat_of_nonneg (rangeSize_nn ..)).symm⟩, tI_end rep1 e1 walkD_rangeC q⟩
    · cases hz
  · cases hz
section
variable {a : Int} {k : Bool} {P : Bool → Prop}
@[simp ↓] theorem OptP_isIB : OptP (isD (.int a) (.bool k)) P = P false := nr (by with_unfolding_all rfl)
@[simp ↓] theorem OptP_isnIB : OptP (isnD (.int a) (.bool k)) P = P true := nr (by with_unfolding_all rfl)
@[simp ↓] theorem OptP_isNB : OptP (isD .none (.bool k)) P = P false := nr (by with_unfolding_all rfl)
@[simp ↓] theorem OptP_isnNB : OptP (isnD .none (.bool k)) P = P true := nr (by with_unfolding_all rfl)
end
end QL
set_option Elab.async false
set_option linter.all false
set_option maxRecDepth 100000
set_option maxHeartbeats 4000000
/-! Q34: all chains of some divisors, in order; means of chains; plain mathematics. -/
namespace LK
open PySem PySem.Spec PyProof.Rows L2 QL
/-! ### all chains, in order -/
/-- the parts that may follow a chain -/
def nextP (m : Nat) (c : List Nat) : List Nat := if c = [] then (List.range m).map (1 + ·) else (List.range (m / lastL c - 1)).map fun k => 2 * lastL c + k * lastL c
def growC (m : Nat) (c : List Nat) : List (List Nat) := (nextP m c).map fun p => c ++ [p]
def chainsN (m : Nat) : Nat → List (List Nat)
  | 0 => [[]]
  | n + 1 => (chainsN m n).flatMap (growC m)
def chainsTo (m : Nat) : Nat → List (List Nat)
  | 0 => []
  | n + 1 => chainsTo m n ++ chainsN m n
theorem mem_nextP {m p : Nat} {c : List Nat} (hc : ChainOk c) : p ∈ nextP m c ↔ (1 ≤ p ∧ p ≤ m) ∧ ∀ l ∈ c, l < p ∧ l ∣ p := by
  unfold nextP
  by_cases e : c = []
  · subst e
    simp
    constructor
    · rintro ⟨a, h1, rfl⟩; omega
    · rintro ⟨h1, h2⟩; exact ⟨p - 1, by omega, by omega⟩
  · rw [if_neg e]
    have hl := (lastL_pos hc).1
    generalize hL : lastL c = l at *
    simp only [List.mem_map, List.mem_range]
    constructor
    · rintro ⟨k, hk, rfl⟩
      have h1 : (k + 2) * l ≤ m := by
        have : k + 2 ≤ m / l := by omega
        exact (Nat.le_div_iff_mul_le (by omega)).mp this
      rw [Nat.add_mul] at h1
      refine ⟨⟨by omega, by omega⟩, fun a ha => ?_⟩
      have hd : a ∣ l := by rw [← hL]; exact lastL_dvd hc a ha
      have := Nat.le_of_dvd (by omega) hd
      exact ⟨by omega, Nat.dvd_trans hd ⟨2 + k, by rw [Nat.mul_add, Nat.mul_comm l 2, Nat.mul_comm l k]⟩⟩
    · rintro ⟨⟨h1, h2⟩, h3⟩
      obtain ⟨h4, q, rfl⟩ := h3 l (by rw [← hL]; exact lastL_mem e)
      have hq : 2 ≤ q := by
        rcases Nat.lt_or_ge q 2 with z | z
        · have : q = 0 ∨ q = 1 := by omega
          rcases this with rfl | rfl <;> omega
        · exact z
      have : q ≤ m / l := (Nat.le_div_iff_mul_le (by omega)).mpr (by rw [Nat.mul_comm]; exact h2)
      exact ⟨q - 2, by omega, by rw [← Nat.add_mul, Nat.mul_comm l]; congr 1; omega⟩
theorem ChainOk.push {c : List Nat} {p m : Nat} (hc : ChainOk c) (hl : c.length < 6) (hm : m ≤ 10000) (hp : p ∈ nextP m c) : ChainOk (c ++ [p]) := by
  obtain ⟨h1, h2⟩ := (mem_nextP hc).mp hp
  refine ⟨by simp; omega, fun l hl => ?_, ?_⟩
  · rcases List.mem_append.mp hl with q | q
    · exact hc.bnd l q
    · rw [List.mem_singleton.mp q]; omega
  · rw [List.pairwise_append]
    refine ⟨hc.pw, List.pairwise_singleton .., fun a ha b hb => ?_⟩
    rw [List.mem_singleton.mp hb]
    exact h2 a ha
theorem chainsN_ok {m : Nat} (hm : m ≤ 10000) : ∀ {n : Nat}, n ≤ 6 → ∀ c ∈ chainsN m n, ChainOk c ∧ c.length = n ∧ ∀ l ∈ c, l ≤ m
  | 0, _, c, h => by
    rw [List.mem_singleton.mp h]
    exact ⟨⟨by simp, by simp, List.Pairwise.nil⟩, rfl, by simp⟩
  | n + 1, hn, c, h => by
    obtain ⟨d, hd, h2⟩ := List.mem_flatMap.mp h
    obtain ⟨p, hp, rfl⟩ := List.mem_map.mp h2
    obtain ⟨h3, h4, h5⟩ := chainsN_ok hm (by omega) d hd
    refine ⟨h3.push (by omega) hm hp, by simp [h4], fun l hl => ?_⟩
    rcases List.mem_append.mp hl with q | q
    · exact h5 l q
    · rw [List.mem_singleton.mp q]; exact ((mem_nextP h3).mp hp).1.2
theorem mem_chainsN {m : Nat} {c : List Nat} : ChainOk c → (∀ l ∈ c, l ≤ m) → c ∈ chainsN m c.length := by
  induction c using snoc_ind with
  | h0 => intro _ _; exact List.mem_singleton.mpr rfl
  | h1 L l ih =>
    intro h hb
    have hs := h.snoc
    rw [List.length_append]
    refine List.mem_flatMap.mpr ⟨L, ih hs.1 fun a ha => hb a (List.mem_append_left _ ha), List.mem_map.mpr ⟨l, (mem_nextP hs.1).mpr ⟨⟨(h.bnd l (by simp)).1, hb l (by simp)⟩, hs.2⟩, rfl⟩⟩
theorem growC_length (m : Nat) (c : List Nat) : (growC m c).length = (nextP m c).length := by simp [growC]
theorem nextP_length {m : Nat} {c : List Nat} (e : c ≠ []) : (nextP m c).length = m / lastL c - 1 := by simp [nextP, e]
/-- their numbers -/
def harm (m : Nat) : Nat → Nat
  | 0 => 0
  | k + 1 => harm m k + m / (k + 1)
theorem harm_mono {m m' : Nat} (h : m ≤ m') : ∀ k, harm m k ≤ harm m' k
  | 0 => Nat.le_refl _
  | k + 1 => Nat.add_le_add (harm_mono h k) (Nat.div_le_div_right h)
theorem harm_le {m k k' : Nat} (h : k ≤ k') : harm m k ≤ harm m k' := by
  induction h with
  | refl => exact Nat.le_refl _
  | step _ ih => exact Nat.le_trans ih (Nat.le_add_right _ _)
theorem flat_le {α β : Type} {f : α → List β} {b : Nat} : ∀ {xs : List α}, (∀ x ∈ xs, (f x).length ≤ b) → (xs.flatMap f).length ≤ xs.length * b
  | [], _ => by simp
  | x :: xs, h => by
    have h1 := h x (by simp)
    have h2 := flat_le fun y hy => h y (List.mem_cons_of_mem _ hy)
    rw [List.flatMap_cons, List.length_append, List.length_cons, Nat.add_mul]
    omega
theorem chainsN_one (m : Nat) : chainsN m 1 = (List.range m).map fun i => [1 + i] := by
  simp [chainsN, growC, nextP]
theorem len_two {m : Nat} : (chainsN m 2).length ≤ harm m m := by
  have : ∀ k, (((List.range k).map fun i => [1 + i]).flatMap (growC m)).length ≤ harm m k := by
    intro k
    induction k with
    | zero => simp
    | succ k ih =>
      rw [List.range_succ, List.map_append, List.flatMap_append, List.length_append]
      simp only [List.map_cons, List.map_nil, List.flatMap_cons, List.flatMap_nil, List.append_nil]
      rw [growC_length, nextP_length (by simp)]
      show _ + (m / (1 + k) - 1) ≤ harm m k + m / (k + 1)
      rw [Nat.add_comm 1 k]
      generalize m / (k + 1) = q
      omega
  show ((chainsN m 1).flatMap (growC m)).length ≤ _
  rw [chainsN_one]
  exact this m
theorem len_chains {m n : Nat} (hm : m ≤ 1000) (hn : n ≤ 3) : (chainsN m n).length ≤ 4000000 := by
  have h2 : (chainsN m 2).length ≤ 7100 := by
    have e : harm 1000 1000 ≤ 7100 := by decide +kernel
    have := @len_two m
    have := harm_mono hm m
    have := harm_le (m := 1000) hm
    omega
  have hc : n = 0 ∨ n = 1 ∨ n = 2 ∨ n = 3 := by omega
  rcases hc with rfl | rfl | rfl | rfl
  · simp [chainsN]
  · rw [chainsN_one]; simp; omega
  · omega
  · have : (chainsN m 3).length ≤ (chainsN m 2).length * 500 := by
      refine flat_le fun c hc => ?_
      obtain ⟨h3, h4, _⟩ := chainsN_ok (n := 2) (by omega) (by omega) c hc
      have e : c ≠ [] := fun z => by rw [z] at h4; cases h4
      rw [growC_length, nextP_length e]
      have : 2 ≤ lastL c := by
        match c, h4 with
        | [a, b], _ =>
          have := (List.pairwise_cons.mp h3.pw).1 b (by simp)
          have := h3.bnd a (by simp)
          show 2 ≤ b
          omega
      have h7 : m / lastL c ≤ m / 2 := Nat.div_le_div_left this (by omega)
      omega
    omega
theorem mem_chainsTo {m : Nat} {c : List Nat} : ∀ {n : Nat}, c ∈ chainsTo m n ↔ ∃ k, k < n ∧ c ∈ chainsN m k
  | 0 => by simp [chainsTo]
  | n + 1 => by
    unfold chainsTo
    rw [List.mem_append, mem_chainsTo]
    constructor
    · rintro (⟨k, h1, h2⟩ | h)
      · exact ⟨k, by omega, h2⟩
      · exact ⟨n, by omega, h⟩
    · rintro ⟨k, h1, h2⟩
      rcases Nat.lt_or_ge k n with z | z
      · exact .inl ⟨k, z, h2⟩
      · have : k = n := by omega
        subst this
        exact .inr h2
theorem chainsTo_le (m : Nat) {a b : Nat} (h : a ≤ b) : ∃ r, chainsTo m b = chainsTo m a ++ r := by
  induction h with
  | refl => exact ⟨[], by simp⟩
  | @step b _ ih =>
    obtain ⟨r, e⟩ := ih
    exact ⟨r ++ chainsN m b, by rw [← List.append_assoc, ← e]; rfl⟩
/-- the first chain that fits is none of the longer ones -/
theorem find_short {m n N : Nat} {p : List Nat → Bool} {c : List Nat} (hn : n < N) (hN : N ≤ 6) (hm : m ≤ 10000) (h : c ∈ chainsN m n) (hp : p c = true) : ∃ d, (chainsTo m N).find? p = some d ∧ p d = true ∧ d ∈ chainsTo m N ∧ d.length ≤ n := by
  obtain ⟨r, e⟩ := chainsTo_le m (show n + 1 ≤ N by omega)
  cases q : (chainsTo m (n + 1)).find? p with
  | none =>
    have := List.find?_eq_none.mp q c (mem_chainsTo.mpr ⟨n, by omega, h⟩)
    exact absurd hp this
  | some d =>
    have hd := List.mem_of_find?_eq_some q
    obtain ⟨k, k1, k2⟩ := mem_chainsTo.mp hd
    have := (chainsN_ok hm (by omega) d k2).2.1
    exact ⟨d, by rw [e, List.find?_append, q]; rfl, List.find?_some q, by rw [e]; exact List.mem_append_left _ hd, by omega⟩
/-- the mean of a chain is a fraction -/
def meanB (t b : Int) (c : List Nat) : Bool := decide (altS c (lastL c) * b = t * (lastL c : Nat))
theorem ChainOk.take {c : List Nat} (h : ChainOk c) (n : Nat) : ChainOk (c.take n) := ⟨by have := h.len; rw [List.length_take]; omega, fun l hl => h.bnd l (List.mem_of_mem_take hl), h.pw.sublist (List.take_sublist ..)⟩
theorem altS_snoc' (l : Nat) (m : Nat) (L : List Nat) : altS (L ++ [l]) m = altS L m + (if (L.length : Int) % 2 = 0 then ((m / l : Nat) : Int) else 0 - ((m / l : Nat) : Int)) := by
  rw [altS_snoc]
  split <;> split <;> omega
theorem altS_abs (m : Nat) : ∀ L : List Nat, (altS L m).natAbs ≤ L.length * m
  | [] => by simp [altS]
  | l :: L => by
    have h1 := altS_abs m L
    have h2 := Nat.div_le_self m l
    unfold altS
    rw [List.length_cons, Nat.add_mul]
    generalize altS L m = x at *
    generalize m / l = q at *
    generalize L.length * m = u at *
    omega
/-- the mean of a chain's rule -/
theorem mean_link {L : List Nat} (h : ChainOk L) : redD ((leapsL (linkR L) (lcmS (linkR L))).count true : Nat) (lcmS (linkR L) : Nat) = redD (altS L (lastL L)) (lastL L : Nat) := by
  have e := cnt_link L h (lastL L)
  rw [← countL_eq] at e
  unfold countL' at e
  rw [lcm_link h, e]

def pairI (p : Int × Int) : D := .tuple [.int p.1, .int p.2]
theorem encPairI : EncOk pairI := ⟨fun a => by simp [pairI, lay, layAll], fun a b => by
  obtain ⟨a1, a2⟩ := a
  obtain ⟨b1, b2⟩ := b
  simp only [pairI, PyData.eqv, PyData.eqvAll, Bool.and_true, beq_dec, ← Bool.decide_and]
  apply decide_eq_decide.mpr
  simp⟩
theorem eqD_pair (a b c d : Int) : eqD (extD a b) (extD c d) = some (decide (a = c ∧ b = d)) := by
  have h := eqD_of (n := 1) (d := extD a b) (e := extD c d) (by simp [extD, lay, layAll]) (by simp [extD, lay, layAll]) (by omega)
  rw [h]
  have := encPairI.2 (a, b) (c, d)
  unfold pairI at this
  unfold extD
  rw [this]
  congr 1
  apply decide_eq_decide.mpr
  simp
theorem cop_dvd {y x b : Int} (h : y ∣ x * b) (hc : Int.gcd y x = 1) : y ∣ b := by
  have h2 := Int.natAbs_dvd_natAbs.mpr h
  rw [Int.natAbs_mul] at h2
  exact Int.natAbs_dvd_natAbs.mp ((show Nat.Coprime y.natAbs x.natAbs from hc).dvd_of_dvd_mul_left h2)
/-- a fraction in lowest terms is told by its value -/
theorem red_unique {a n t b : Int} (hn : 0 < n) (h : ExtraOk t b) : (a / (Int.gcd a n : Nat) = t ∧ n / (Int.gcd a n : Nat) = b) ↔ a * b = t * n := by
  have hg : 0 < Int.gcd a n := gcd_pos' hn
  have e1 := red_l a n
  have e2 := red_r a n
  have hp := red_pos (a := a) hn
  have hc : Int.gcd (a / (Int.gcd a n : Nat)) (n / (Int.gcd a n : Nat)) = 1 := Int.gcd_ediv_gcd_ediv_gcd hg
  generalize hG : Int.gcd a n = G at *
  generalize a / (G : Int) = x at *
  generalize n / (G : Int) = y at *
  have hb := h.b1
  constructor
  · rintro ⟨rfl, rfl⟩
    rw [← e1, ← e2, Int.mul_assoc, Int.mul_comm (G : Int)]
  · intro e
    have e3 : x * b = t * y := by
      have : x * b * G = t * y * G := by
        rw [Int.mul_assoc, Int.mul_comm b, ← Int.mul_assoc, e1, Int.mul_assoc t, e2, e]
      exact Int.eq_of_mul_eq_mul_right (by omega) this
    have d1 : y ∣ b := by
      have : y ∣ x * b := ⟨t, by rw [e3, Int.mul_comm]⟩
      exact cop_dvd this (by rw [Int.gcd_comm]; exact hc)
    have d2 : b ∣ y := by
      have : b ∣ t * y := ⟨x, by rw [← e3, Int.mul_comm]⟩
      exact cop_dvd this (by rw [Int.gcd_comm]; exact h.red)
    have e4 : y = b := Int.dvd_antisymm (by omega) (by omega) d1 d2
    subst e4
    exact ⟨Int.eq_of_mul_eq_mul_right (by omega) e3, rfl⟩
theorem eqD_mean {a n t b : Int} (hn : 0 < n) (h : ExtraOk t b) : eqD (redD a n) (extD t b) = some (decide (a * b = t * n)) := by
  rw [redD_ext, eqD_pair]
  congr 1
  exact decide_eq_decide.mpr (red_unique hn h)
theorem altS_0 {L : List Nat} (h : ChainOk L) : 0 ≤ altS L (lastL L) ∧ altS L (lastL L) ≤ (lastL L : Nat) := by
  have e := cnt_link L h (lastL L)
  have := cnt_le (leapF (linkR L)) (lastL L)
  omega
theorem mean_extra {L : List Nat} (h : ChainOk L) : ExtraOk (altS L (lastL L) / (Int.gcd (altS L (lastL L)) (lastL L : Nat) : Nat)) ((lastL L : Nat) / (Int.gcd (altS L (lastL L)) (lastL L : Nat) : Nat)) := by
  have := altS_0 h
  have := lastL_pos h
  exact red_extra (by omega) (by omega) (by omega) (by omega)
theorem evens_odds (L : List Nat) (m : Nat) : (evens (L.map fun l => ((m / l : Nat) : Int))).sum - (odds (L.map fun l => ((m / l : Nat) : Int))).sum = altS L m := by
  match L with
  | [] => rfl
  | [a] => simp [evens, odds, altS]
  | a :: b :: t =>
    have ih := evens_odds t m
    simp only [List.map_cons, evens, odds, List.sum_cons, altS]
    omega
theorem evens_map {α β : Type} (f : α → β) (xs : List α) : evens (xs.map f) = (evens xs).map f := by
  match xs with
  | [] => rfl
  | [a] => rfl
  | a :: b :: t =>
    have ih := evens_map f t
    simp only [List.map_cons, evens, ih]
theorem odds_map {α β : Type} (f : α → β) (xs : List α) : odds (xs.map f) = (odds xs).map f := by
  match xs with
  | [] => rfl
  | [a] => rfl
  | a :: b :: t =>
    have ih := odds_map f t
    simp only [List.map_cons, odds, ih]
/-- range(2 * l, m + 1, l) -/
theorem range_part {m l : Nat} (hl : 1 ≤ l) (hl2 : l ≤ 10000) (hm : m ≤ 10000) {P : List D → Prop} : OptP (range3D [.int (2 * (l : Int)), .int ((m : Int) + 1), .int (l : Nat)]) P = P ((List.range (m / l - 1)).map fun k => .int ((2 * l + k * l : Nat) : Nat)) := by
  rw [OptP_range3 (by omega) (by omega) (by omega) (by omega) (by omega) (by omega)]
  have e : (if 2 * (l : Int) < (m : Int) + 1 then ((m : Int) + 1 - 2 * (l : Int) - 1) / (l : Int) + 1 else 0).toNat = m / l - 1 := by
    by_cases h : 2 * l ≤ m
    · rw [if_pos (by omega)]
      have e1 : ((m : Int) + 1 - 2 * (l : Int) - 1) = ((m - 2 * l : Nat) : Int) := by omega
      rw [e1, ← Int.natCast_ediv]
      have e2 : m / l = (m - 2 * l) / l + 2 := by
        rw [← Nat.add_mul_div_right _ _ (show 0 < l by omega)]
        congr 1; omega
      omega
    · rw [if_neg (by omega)]
      have : m / l < 2 := (Nat.div_lt_iff_lt_mul (by omega)).mpr (by omega)
      omega
  rw [e]
  congr 1
/-- how far a chain's mean is from a fraction, as two integers -/
def farT (t b : Int) (c : List Nat) : Int := if altS c (lastL c) * b - t * (lastL c : Nat) < 0 then -(altS c (lastL c) * b - t * (lastL c : Nat)) else altS c (lastL c) * b - t * (lastL c : Nat)
def farB (b : Int) (c : List Nat) : Int := (lastL c : Nat) * b
/-- the nearer one, the first one of two that are as near -/
def stepN (t b : Int) (best c : List Nat) : List Nat := if farT t b c * farB b best < farT t b best * farB b c then c else best
def nearF (t b : Int) (cs : List (List Nat)) : List Nat := cs.foldl (stepN t b) []
theorem far_bound {t b : Int} (he : ExtraOk t b) {c : List Nat} (hc : ChainOk c) : 0 ≤ farT t b c ∧ farT t b c ≤ 10000000000 ∧ 1 ≤ farB b c ∧ farB b c ≤ 10000000000 := by
  have hl := lastL_pos hc
  have ha := altS_0 hc
  have t0 := he.t0
  have tb := he.tb
  have b1 := he.b1
  have b2 := he.b2
  have e1 : 0 ≤ altS c (lastL c) * b := Int.mul_nonneg ha.1 (by omega)
  have e2 : altS c (lastL c) * b ≤ 10000 * 1000000 := Int.mul_le_mul (by omega) b2 (by omega) (by omega)
  have e3 : 0 ≤ t * (lastL c : Nat) := Int.mul_nonneg t0 (by omega)
  have e4 : t * (lastL c : Nat) ≤ 1000000 * 10000 := Int.mul_le_mul (by omega) (by omega) (by omega) (by omega)
  have e5 : 1 ≤ ((lastL c : Nat) : Int) * b := Int.mul_pos (by omega) (by omega)
  have e6 : ((lastL c : Nat) : Int) * b ≤ 10000 * 1000000 := Int.mul_le_mul (by omega) b2 (by omega) (by omega)
  unfold farT farB
  refine ⟨?_, ?_, e5, by omega⟩
  · split <;> omega
  · split <;> omega
theorem stepN_ok {t b : Int} {x y : List Nat} (hx : ChainOk x) (hy : ChainOk y) : ChainOk (stepN t b x y) := by
  unfold stepN; split <;> assumption
theorem foldN_ok {t b : Int} : ∀ {cs : List (List Nat)} {x : List Nat}, ChainOk x → (∀ c ∈ cs, ChainOk c) → ChainOk (cs.foldl (stepN t b) x)
  | [], _, hx, _ => hx
  | c :: cs, x, hx, h => by
    rw [List.foldl_cons]
    exact foldN_ok (cs := cs) (stepN_ok hx (h c (by simp))) fun d hd => h d (List.mem_cons_of_mem _ hd)
theorem chain_nil : ChainOk [] := ⟨by simp, by simp, List.Pairwise.nil⟩
theorem chainsTo_ok {m n : Nat} (hm : m ≤ 10000) (hn : n ≤ 6) : ∀ c ∈ chainsTo m n, ChainOk c := fun c hc => by
  obtain ⟨j, j1, j2⟩ := mem_chainsTo.mp hc
  exact (chainsN_ok hm (by omega) c j2).1
theorem nearF_ok {t b : Int} {m n : Nat} (hm : m ≤ 10000) (hn : n ≤ 6) : ChainOk (nearF t b (chainsTo m n)) := foldN_ok chain_nil (chainsTo_ok hm hn)
/-- at least as near -/
def nearLe (t b : Int) (x y : List Nat) : Prop := farT t b x * farB b y ≤ farT t b y * farB b x
theorem nearLe_refl {t b : Int} {x : List Nat} : nearLe t b x x := Int.le_refl _
theorem nearLe_trans {t b : Int} (he : ExtraOk t b) {x y z : List Nat} (hx : ChainOk x) (hy : ChainOk y) (hz : ChainOk z) (h1 : nearLe t b x y) (h2 : nearLe t b y z) : nearLe t b x z := by
  unfold nearLe at *
  have px := (far_bound he hx).2.2.1
  have py := (far_bound he hy).2.2.1
  have pz := (far_bound he hz).2.2.1
  generalize farT t b x = a at *
  generalize farT t b y = c at *
  generalize farT t b z = e at *
  generalize farB b x = p at *
  generalize farB b y = q at *
  generalize farB b z = s at *
  have e1 : a * q * s ≤ c * p * s := Int.mul_le_mul_of_nonneg_right h1 (by omega)
  have e2 : c * s * p ≤ e * q * p := Int.mul_le_mul_of_nonneg_right h2 (by omega)
  have e3 : a * s * q ≤ e * p * q := by
    rw [show a * s * q = a * q * s by rw [Int.mul_assoc, Int.mul_comm s, ← Int.mul_assoc], show e * p * q = e * q * p by rw [Int.mul_assoc, Int.mul_comm p, ← Int.mul_assoc]]
    refine Int.le_trans e1 ?_
    rw [show c * p * s = c * s * p by rw [Int.mul_assoc, Int.mul_comm p, ← Int.mul_assoc]]
    exact e2
  exact Int.le_of_mul_le_mul_right e3 (by omega)
theorem stepN_le {t b : Int} (x y : List Nat) : nearLe t b (stepN t b x y) x := by
  unfold stepN
  split
  · exact Int.le_of_lt (by assumption)
  · exact nearLe_refl
theorem foldN_le {t b : Int} (he : ExtraOk t b) : ∀ {cs : List (List Nat)} {x : List Nat}, ChainOk x → (∀ c ∈ cs, ChainOk c) → nearLe t b (cs.foldl (stepN t b) x) x
  | [], _, _, _ => nearLe_refl
  | c :: cs, x, hx, h => by
    have hs := stepN_ok (t := t) (b := b) hx (h c (by simp))
    have hall : ∀ d ∈ cs, ChainOk d := fun d hd => h d (List.mem_cons_of_mem _ hd)
    rw [List.foldl_cons]
    exact nearLe_trans he (foldN_ok hs hall) hs hx (foldN_le he hs hall) (stepN_le x c)
theorem nearF_le {t b : Int} (he : ExtraOk t b) {m k n : Nat} (hm : m ≤ 10000) (hk : k ≤ n) (hn : n ≤ 6) : nearLe t b (nearF t b (chainsTo m n)) (nearF t b (chainsTo m k)) := by
  obtain ⟨r, e⟩ := chainsTo_le m hk
  have h := chainsTo_ok hm hn
  unfold nearF
  rw [e] at h ⊢
  rw [List.foldl_append]
  exact foldN_le he (foldN_ok chain_nil fun c hc => h c (List.mem_append_left _ hc)) fun c hc => h c (List.mem_append_right _ hc)
theorem nearF_succ (t b : Int) (m n : Nat) : nearF t b (chainsTo m (n + 1)) = (chainsN m n).foldl (stepN t b) (nearF t b (chainsTo m n)) := by
  show nearF t b (chainsTo m n ++ chainsN m n) = _
  unfold nearF
  rw [List.foldl_append]
theorem nearF_one (t b : Int) (m : Nat) : nearF t b (chainsTo m 1) = [] := by
  show stepN t b [] [] = []
  unfold stepN
  split <;> rfl
/-- a chain with just this mean is the nearest one -/
theorem far_zero {t b : Int} {c : List Nat} : farT t b c = 0 ↔ meanB t b c = true := by
  unfold farT meanB
  rw [decide_eq_true_eq]
  split <;> omega
theorem foldN_zero {t b : Int} (he : ExtraOk t b) : ∀ {cs : List (List Nat)} {x : List Nat}, ChainOk x → (∀ c ∈ cs, ChainOk c) → farT t b x = 0 → cs.foldl (stepN t b) x = x
  | [], _, _, _, _ => rfl
  | c :: cs, x, hx, h, h0 => by
    have hc := far_bound he (h c (by simp))
    have hb := (far_bound he hx).2.2.1
    have e : stepN t b x c = x := by
      unfold stepN
      rw [if_neg]
      rw [h0, Int.zero_mul]
      have := Int.mul_nonneg hc.1 (show 0 ≤ farB b x by omega)
      omega
    rw [List.foldl_cons, e]
    exact foldN_zero he hx (fun d hd => h d (List.mem_cons_of_mem _ hd)) h0
theorem foldN_find {t b : Int} (he : ExtraOk t b) : ∀ {cs : List (List Nat)} {x d : List Nat}, ChainOk x → (∀ c ∈ cs, ChainOk c) → farT t b x ≠ 0 → cs.find? (meanB t b) = some d → cs.foldl (stepN t b) x = d
  | [], _, _, _, _, _, h => by cases h
  | c :: cs, x, d, hx, h, h0, hf => by
    have hc := h c (by simp)
    have bc := far_bound he hc
    have bx := far_bound he hx
    have hall : ∀ d ∈ cs, ChainOk d := fun d hd => h d (List.mem_cons_of_mem _ hd)
    rw [List.find?_cons] at hf
    rw [List.foldl_cons]
    cases hm : meanB t b c with
    | true =>
      rw [hm] at hf
      cases hf
      have z := far_zero.mpr hm
      have e : stepN t b x c = c := by
        unfold stepN
        rw [if_pos]
        rw [z, Int.zero_mul]
        exact Int.mul_pos (by omega) (by omega)
      rw [e]
      exact foldN_zero he hc hall z
    | false =>
      rw [hm] at hf
      have hn : farT t b c ≠ 0 := fun z => by rw [far_zero.mp z] at hm; cases hm
      refine foldN_find he (stepN_ok hx hc) hall ?_ hf
      unfold stepN
      split <;> assumption
theorem nearF_find {t b : Int} (he : ExtraOk t b) {m n : Nat} (hm : m ≤ 10000) (h1 : 1 ≤ n) (hn : n ≤ 6) {d : List Nat} (hf : (chainsTo m n).find? (meanB t b) = some d) : nearF t b (chainsTo m n) = d := by
  have h := chainsTo_ok hm hn
  obtain ⟨r, e⟩ := chainsTo_le m h1
  have e' : chainsTo m n = [] :: r := e
  by_cases h0 : farT t b [] = 0
  · have : meanB t b [] = true := far_zero.mp h0
    rw [e', List.find?_cons, this] at hf
    cases hf
    exact foldN_zero he chain_nil h h0
  · exact foldN_find he chain_nil h h0 hf
theorem red_scale {a n g : Int} (hg : 0 < g) (hn : 0 < n) : redD (a * g) (n * g) = redD a n := by
  have e : (Int.gcd (a * g) (n * g) : Int) = (Int.gcd a n : Int) * g := by
    rw [Int.gcd_mul_right, Int.natCast_mul]
    congr 1
    omega
  have hp : 0 < (Int.gcd a n : Int) := by
    have := gcd_pos' (a := a) hn
    omega
  unfold redD
  rw [e, Int.mul_ediv_mul_of_pos_left _ _ hg, Int.mul_ediv_mul_of_pos_left _ _ hg]
/-- a chain's distance by its mean in lowest terms -/
theorem far_red {t b : Int} (he : ExtraOk t b) {c : List Nat} (hc : ChainOk c) {u v : Int} (hu : altS c (lastL c) / (Int.gcd (altS c (lastL c)) (lastL c : Nat) : Nat) = u) (hv : ((lastL c : Nat) : Int) / (Int.gcd (altS c (lastL c)) (lastL c : Nat) : Nat) = v) : ∃ g : Int, 0 < g ∧ (if u * b - t * v < 0 then -(u * b - t * v) else u * b - t * v) * g = farT t b c ∧ v * b * g = farB b c := by
  have hl := lastL_pos hc
  have e1 := red_l (altS c (lastL c)) (lastL c : Nat)
  have e2 := red_r (altS c (lastL c)) (lastL c : Nat)
  have hg : 0 < Int.gcd (altS c (lastL c)) (lastL c : Nat) := gcd_pos' (by omega)
  rw [hu] at e1
  rw [hv] at e2
  generalize Int.gcd (altS c (lastL c)) (lastL c : Nat) = g at *
  refine ⟨g, by omega, ?_, ?_⟩
  · unfold farT
    have e3 : altS c (lastL c) * b - t * (lastL c : Nat) = (u * b - t * v) * g := by
      rw [← e1, ← e2, Int.sub_mul, Int.mul_assoc u, Int.mul_comm (g : Int) b, ← Int.mul_assoc u, Int.mul_assoc t]
    rw [e3]
    generalize u * b - t * v = w
    have hg' : 0 < (g : Int) := by omega
    by_cases hw : w < 0
    · rw [if_pos hw, if_pos (Int.mul_neg_of_neg_of_pos hw hg'), Int.neg_mul]
    · rw [if_neg hw, if_neg (by have := Int.mul_nonneg (show 0 ≤ w by omega) (show 0 ≤ (g : Int) by omega); omega)]
  · unfold farB
    rw [← e2, Int.mul_assoc, Int.mul_comm b, ← Int.mul_assoc]
theorem unscale {x g B : Int} (hg : 0 < g) (h0 : 0 ≤ x * g) (h1 : x * g ≤ B) : 0 ≤ x ∧ x ≤ B := by
  have a : 0 ≤ x := by
    rcases Int.lt_or_le x 0 with z | z
    · have := Int.mul_neg_of_neg_of_pos z hg
      omega
    · exact z
  have b : x * 1 ≤ x * g := Int.mul_le_mul_of_nonneg_left (by omega) a
  omega
theorem scale_lt {x y x' y' g h : Int} (hg : 0 < g) (hh : 0 < h) : (x * g) * (y' * h) < (x' * h) * (y * g) ↔ x * y' < x' * y := by
  have e1 : (x * g) * (y' * h) = (x * y') * (g * h) := by
    rw [Int.mul_assoc, ← Int.mul_assoc g, Int.mul_comm g y', Int.mul_assoc y', ← Int.mul_assoc x]
  have e2 : (x' * h) * (y * g) = (x' * y) * (g * h) := by
    rw [Int.mul_assoc, ← Int.mul_assoc h, Int.mul_comm h y, Int.mul_assoc y, ← Int.mul_assoc x', Int.mul_comm h g]
  rw [e1, e2]
  have hp : 0 < g * h := Int.mul_pos hg hh
  exact ⟨fun z => Int.lt_of_mul_lt_mul_right z (by omega), fun z => Int.mul_lt_mul_of_pos_right z hp⟩
theorem zipL_maps {α β : Type} (f : α → D) (g : β → D) : ∀ (xs : List α) (ys : List β), zipL (xs.map f) (ys.map g) = (xs.zip ys).map fun p => .tuple [f p.1, g p.2]
  | [], _ => by simp [zipL]
  | _ :: _, [] => by simp [zipL]
  | x :: xs, y :: ys => by
    rw [List.map_cons, List.map_cons, List.zip_cons_cons, List.map_cons, ← zipL_maps f g xs ys]; rfl
/-- whether a year is wrong -/
def wrongB (r : List Step) (t b d : Int) (y : Nat) : Bool := beyB (d * b) (driftN r t b y)
theorem wrong_vF {r : List Step} {n : Nat} (hn : 0 < n) (hp : Per (leapF r) n) (t b : Int) {y : Nat} (hy : 1 ≤ y) : vF (fun i => driftN r t b (i + 1)) n (driftN r t b n) y = driftN r t b y := by
  unfold vF
  have h := driftN_mul hp t b ((y - 1) / n) ((y - 1) % n + 1)
  have hd := Nat.mod_add_div (y - 1) n
  rw [Nat.mul_comm] at hd
  rw [show (y - 1) % n + 1 + (y - 1) / n * n = y by omega] at h
  rw [h]
theorem rowL_map (r : List Step) (n : Nat) (t b : Int) : (rowL r n t b).map PyData.int = (List.range n).map fun i => .int (driftN r t b (i + 1)) := by simp [rowL]
theorem wrong_bounds {r : List Step} (h : RuleOk r) {t b : Int} (he : ExtraOk t b) : (∀ i, i < lcmS r → (driftN r t b (i + 1)).natAbs ≤ 100000000000000000000) ∧ (driftN r t b (lcmS r)).natAbs ≤ 100000000000000000000 := by
  have := h.lcm
  have := he.t0
  have := he.tb
  have := he.b1
  have := he.b2
  refine ⟨fun i hi => ?_, ?_⟩
  · have := driftN_abs (r := r) (t := t) (b := b) (y := i + 1) (by omega) (by omega); omega
  · have := driftN_abs (r := r) (t := t) (b := b) (y := lcmS r) (by omega) (by omega); omega
theorem NextIs.congr {p q : Nat → Bool} {y0 : Nat} {o : Option Nat} (h : NextIs p y0 o) (e : ∀ y, y0 ≤ y → p y = q y) : NextIs q y0 o := by
  cases o with
  | none => exact fun y hy => by rw [← e y hy]; exact h y hy
  | some y => exact ⟨h.1, by rw [← e y h.1]; exact h.2.1, fun z h1 h2 => by rw [← e z h1]; exact h.2.2 z h1 h2⟩
theorem cnt_congr {p q : Nat → Bool} : ∀ k, (∀ i, i < k → p i = q i) → cnt p k = cnt q k
  | 0, _ => rfl
  | k + 1, e => by rw [cnt_succ, cnt_succ, cnt_congr k fun i hi => e i (by omega), e k (by omega)]
theorem drift_abs {r : List Step} {t b : Int} (he : ExtraOk t b) (y : Nat) : (driftN r t b y).natAbs ≤ 1000000 * y := by
  have t0 := he.t0
  have tb := he.tb
  have b1 := he.b1
  have b2 := he.b2
  have hc := countL_le r y
  unfold driftN
  have a1 : (countL' r y : Int) * b ≤ (y : Int) * 1000000 := Int.mul_le_mul (by omega) b2 (by omega) (by omega)
  have a2 : 0 ≤ (countL' r y : Int) * b := Int.mul_nonneg (by omega) (by omega)
  have a3 : t * (y : Int) ≤ 1000000 * (y : Int) := Int.mul_le_mul_of_nonneg_right (by omega) (by omega)
  have a4 : 0 ≤ t * (y : Int) := Int.mul_nonneg t0 (by omega)
  omega
theorem drift_abs' {t b : Int} (he : ExtraOk t b) (r : List Step) (y : Nat) : (driftN r t b y).natAbs ≤ 1000000 * y := drift_abs he y
end LK
set_option Elab.async false
set_option linter.all false
set_option maxRecDepth 100000
set_option maxHeartbeats 4000000
/-! Q35: comprehensions that change the state. -/
namespace QL
open PySem PySem.Spec PyProof.Rows L2
section
variable {α β : Type} {g : D → M Unit} {c : M Bool} {e : M D} {vs : List Nat} {ρ : Rho} {Q : D → Rho → Prop}
theorem compL_st (enc : α → D) (st : β → Rho) (I : List α → List D → β → Prop)
    (H : ∀ x xs zs y, I (x :: xs) zs y → wp (g (enc x)) (st y) (fun _ ρ1 => wp c ρ1 (fun k ρ2 => BoolP k (wp e ρ2 (fun z ρ3 => noMu ρ3 vs = true ∧ ∃ y', wipeR ρ3 vs = st y' ∧ I xs (zs ++ [z]) y') fun _ => False) (noMu ρ2 vs = true ∧ ∃ y', wipeR ρ2 vs = st y' ∧ I xs zs y')) fun _ => False) fun _ => False) :
    ∀ (xs : List α) (zs : List D) (y : β), I xs zs y → ∃ ws y', compL g c e vs (xs.map enc) (st y) = .ok (ws, st y') ∧ I [] (zs ++ ws) y'
  | [], zs, y, h => ⟨[], y, rfl, by rw [List.append_nil]; exact h⟩
  | x :: xs, zs, y, h => by
    have hx := H x xs zs y h
    rw [List.map_cons]
    show ∃ ws y', M.bind (g (enc x)) (fun _ => M.bind c fun k => if k = true then M.bind e fun z => M.bind (wipeM vs) fun _ => M.bind (compL g c e vs (xs.map enc)) fun zs => M.pure (z :: zs) else M.bind (wipeM vs) fun _ => compL g c e vs (xs.map enc)) (st y) = .ok (ws, st y') ∧ _
    unfold wp at hx
    unfold M.bind
    cases q1 : g (enc x) (st y) with
    | stuck => rw [q1] at hx; exact hx.elim
    | err _ => rw [q1] at hx; exact hx.elim
    | ok z1 =>
      obtain ⟨_, ρ1⟩ := z1
      rw [q1] at hx
      dsimp only at hx ⊢
      cases q2 : c ρ1 with
      | stuck => rw [q2] at hx; exact hx.elim
      | err _ => rw [q2] at hx; exact hx.elim
      | ok z2 =>
        obtain ⟨k, ρ2⟩ := z2
        rw [q2] at hx
        dsimp only at hx ⊢
        cases k with
        | false =>
          rw [BoolP_false] at hx
          obtain ⟨h1, y', h2, h3⟩ := hx
          obtain ⟨ws, y2, e1, e2⟩ := compL_st enc st I H xs zs y' h3
          refine ⟨ws, y2, ?_, e2⟩
          show M.bind (wipeM vs) (fun _ => compL g c e vs (xs.map enc)) ρ2 = _
          unfold M.bind
          rw [wipeM_ok h1 h2]
          exact e1
        | true =>
          rw [BoolP_true] at hx
          cases q3 : e ρ2 with
          | stuck => rw [q3] at hx; exact hx.elim
          | err _ => rw [q3] at hx; exact hx.elim
          | ok z3 =>
            obtain ⟨z, ρ3⟩ := z3
            rw [q3] at hx
            dsimp only at hx
            obtain ⟨h1, y', h2, h3⟩ := hx
            obtain ⟨ws, y2, e1, e2⟩ := compL_st enc st I H xs (zs ++ [z]) y' h3
            refine ⟨z :: ws, y2, ?_, by rw [List.append_assoc] at e2; exact e2⟩
            show M.bind e (fun z => M.bind (wipeM vs) fun _ => M.bind (compL g c e vs (xs.map enc)) fun zs => M.pure (z :: zs)) ρ2 = _
            unfold M.bind
            rw [q3]
            dsimp only
            rw [wipeM_ok h1 h2]
            dsimp only
            rw [e1]
            rfl
/-- a comprehension whose items change the state -/
theorem comp_st (enc : α → D) (st : β → Rho) (I : List α → List D → β → Prop) (xs : List α) (y : β) (hw : wipeR ρ vs = st y) (hm : noMu ρ vs = true) (hl : xs.length ≤ sizeLine) (h0 : I xs [] y)
    (H : ∀ x xs zs y, I (x :: xs) zs y → wp (g (enc x)) (st y) (fun _ ρ1 => wp c ρ1 (fun k ρ2 => BoolP k (wp e ρ2 (fun z ρ3 => noMu ρ3 vs = true ∧ ∃ y', wipeR ρ3 vs = st y' ∧ I xs (zs ++ [z]) y') fun _ => False) (noMu ρ2 vs = true ∧ ∃ y', wipeR ρ2 vs = st y' ∧ I xs zs y')) fun _ => False) fun _ => False)
    (hq : ∀ zs y', I [] zs y' → Q (.list zs) (restR ρ (st y') vs)) : CompP g c e vs (xs.map enc) ρ Q := by
  obtain ⟨ws, y', e1, e2⟩ := compL_st (g := g) (c := c) (e := e) (vs := vs) enc st I H xs [] y h0
  unfold CompP wp compM M.bind M.pure
  dsimp only
  rw [if_pos ⟨hm, by rw [List.length_map]; exact hl⟩, hw, e1]
  exact hq _ _ e2
end
end QL
set_option Elab.async false
set_option linter.all false
set_option maxRecDepth 100000
set_option maxHeartbeats 4000000
/-! Q36: a, b = e, [..] where b takes a new list of the frame's own. -/
namespace QL
open PySem PySem.Spec PyProof.Rows L2
def parVN (i j : Nat) (f : M D) (fs : M (List D)) : M Out := M.bind f fun y => M.bind fs fun ds ρ => if ds.length ≤ sizeLine then .ok (.nx, (ρ.set i (.im y)).set j (.mu ds)) else .stuck
theorem qs_parVN [LawTabs] {X : Cx} {W : XK} {P : List Nat} {e : Expr} {es : List Expr} {f : M D} {fs : M (List D)} {pos : Pos} {i j : Nat} {x y : Str} {px py pt pl : Pos} {kt k2 pt2} (hc : X.calm = true) (hN : X.N.Nodup) (hi : X.N[i]? = some x) (hj : X.N[j]? = some y) (hij : i ≠ j)
    (hx : X.env.scope.names.lookup x = some .local) (hy : X.env.scope.names.lookup y = some .local) (hb : QE X W e f) (ha : QA X W es fs) (hPi : i ∉ P := by decide) (hPj : j ∉ P := by decide)
    (hw : swappedStores [.Tuple [.Name x px, .Name y py] kt pt] (.Tuple [e, .List es pl] k2 pt2) X.env = pure (some [x, y]) := by rfl)
    (hs : swapsWithSole [.Tuple [.Name x px, .Name y py] kt pt] (.Tuple [e, .List es pl] k2 pt2) pos.line X.env = pure false := by rfl)
    (h1 : starEach [e, .List es pl] X.env = (false, eval e X.env) :: starEach [.List es pl] X.env := by rfl) (h2 : starEach [.List es pl] X.env = (false, eval (.List es pl) X.env) :: starEach [] X.env := by rfl) :
    QS X P W (.Assign [.Tuple [.Name x px, .Name y py] kt pt] (.Tuple [e, .List es pl] k2 pt2) pos) (parVN i j f fs) := fun O => by
  refine (ps_par hc hN hi hj hij hx hy (pa_cons (hb O) (pa_cons (pe_lst (ha O)) pa_nil h2) h1) hw hs).weak fun E σ H ⟨ρ, r, h⟩ => ?_
  refine tE.mono (tE.app r h) fun v H1 ⟨d, ρ1, rep1, e1, dp1, q1⟩ => ?_
  refine tA.mono (tA.app rep1 q1) fun vs H2 ⟨ds, ρ2, rep2, e2, dp2, q2⟩ => ?_
  by_cases hl : ds.length ≤ sizeLine
  · simp only [if_pos hl] at q2
    refine ⟨by rw [dp2.length]; exact hl, fun p hp => ?_⟩
    have dv := Dp.same e2.same _ _ dp1
    have ra := rep2.setIm (i := i) dv
    have ea : Ext P ρ2 σ H2 (ρ2.set i (.im d)) (σ.set i (some v)) H2 := Ext.setIm hPi
    have sm : SameT H2 (upd H2 p (.lst vs)) := .of (same_new (o := .lst vs) hp)
    have dd : DpAll X.K (hid (upd H2 p (.lst vs)) fun b => hd O (ρ2.set i (.im d)) (σ.set i (some v)) b ∨ b = p) vs ds := DpAll.same (hid_anti sm fun b hb z => by
      rcases z with (z | z) | z
      · exact .inl (own_set_im (fun ds z => by cases z) z)
      · exact .inr z
      · exact absurd hp (z ▸ hb.ne)) _ _ dp2
    have rb := ra.setMu (i := j) (p := p) (fun t => t.ne hp) sm upd_same dd
    exact ⟨v, .ref p, rfl, q2 _ _ rb ((e1.trans e2).toP.trans (ea.trans (Ext.setMu (fun t => t.ne hp) sm hPj)))⟩
  · simp only [if_neg hl] at q2
    exact q2.elim
section
variable {i j : Nat} {f : M D} {fs : M (List D)} {ρ : Rho} {Qo : Out → Rho → Prop} {E : Ex → Prop}
@[simp ↓] theorem wp_parVN : wp (parVN i j f fs) ρ Qo E = wp f ρ (fun y ρ1 => wp fs ρ1 (fun ds ρ2 => LineP ds (SetP i (.im y) ρ2 fun ρ3 => SetP j (.mu ds) ρ3 (Qo .nx))) E) E := by
  refine wpb fun y ρ1 => wpb fun ds ρ2 => ?_
  unfold wp LineP
  dsimp only
  by_cases hq : ds.length ≤ sizeLine
  · rw [if_pos hq, if_pos hq]
    with_unfolding_all rfl
  · rw [if_neg hq, if_neg hq]
end
end QL
set_option Elab.async false
set_option linter.all false
set_option maxRecDepth 100000
set_option maxHeartbeats 2000000
/-! Q37: a tuple many times. -/
namespace QL
open PySem PySem.Spec PyProof.Rows L2
/-- (..) * e -/
def repTD : D → D → Option D
  | .tuple ds, .int k => if ds ≠ [] ∧ 2 ≤ k ∧ k ≤ 1000 ∧ ds.length ≤ 1000 then some (.tuple (List.replicate k.toNat ds).flatten) else none
  | _, _ => none
theorem op_repTD [LawTabs] {X : Cx} {O : Addr → Prop} : OpR X (binaryOp .Mult) (rD X.K O repTD) := by
  intro pins s σ H x y v u Q I rx ry ⟨d, e, z, hd, he, hO, hg, hq⟩
  unfold repTD at hg
  split at hg
  · rename_i ds k
    split at hg
    · rename_i hz
      cases hg
      obtain ⟨h0, k1, k2, hl⟩ := hz
      obtain ⟨a, xs, rfl, h1, h2⟩ := Dp.tuple_of hd
      obtain rfl := Dp.int_of he
      refine op_repT pins s σ H _ _ v u Q I rx ry ⟨a, k, xs, rfl, rfl, seqT_same hid_le h1, fun e => ?_, k1, k2, by rw [h2.length]; exact hl, fun p hp => hq.newT hO (dpAll_flat h2 _) p hp⟩
      subst e
      cases h2
      exact h0 rfl
    · cases hg
  · cases hg
@[simp ↓] theorem OptP_repT {ds : List D} {k : Int} {P : D → Prop} : OptP (repTD (.tuple ds) (.int k)) P = ((ds ≠ [] ∧ 2 ≤ k ∧ k ≤ 1000 ∧ ds.length ≤ 1000) ∧ P (.tuple (List.replicate k.toNat ds).flatten)) := by
  unfold repTD
  exact OptP_ite
end QL
set_option Elab.async false
set_option linter.all false
set_option maxRecDepth 100000
set_option maxHeartbeats 4000000
/-! Q38: sorted(set(..)) of a list of ints. -/
namespace QL
open PySem PySem.Spec PyProof.Rows L2
section
variable {P : Program} {w : World} {A : Around} {E : Value → Shared → Prop} {s : Shared}
set_option maxRecDepth 100000 in
set_option maxHeartbeats 3200000 in
/-- set(l), l a list of ints: as for a tuple, by a list's walk -/
theorem call_set_lstI {l : Addr} {items : Array Value} (ns : List Int) {Q : Value → Shared → Prop} (hh : A.handled = none) (hl : s.heap.IsList l items) (hit : IntsAre items.toList ns) (hb : ns.length + 1 < scanBound)
    (h : ∀ (h' : Heap) (tk c : Nat), SetR w h' s.heap.objs.size (fun j => decide (j ∈ ns)) c → c ≤ ns.length → (∀ b o, s.heap.get? b = some o → h'.get? b = some o) → Q (.ref s.heap.objs.size) { s with heap := h', toks := tk }) :
    wpAny (model P w) A (call (.type "set") [.ref l]) Q E s := by
  have hisz : items.size = ns.length := by
    have q := IntsAre.length hit
    rw [Array.length_toList] at q
    exact q
  obtain ⟨c, tl, hmro⟩ := F.called_set.mro
  have hmade := F.called_set.made
  have hsub := F.called_set.sub
  refine wpAny_call (codeAny_of_tree ?_)
  show wpAny _ _ (callAny (.type "set") _) _ _ _
  refine wpAny_pure ⟨Code.quiet_builtin _ (by decide +kernel), codeAny_builtin F.entry_type_call ?_⟩
  rw [Around.under_plain (weight_type_call_type "set" [.ref l] []) rfl]
  have h1 := F.called_set.notType
  have h2 := F.called_set.canCreate
  have hct := F.typeCall_set_1 (.ref l)
  repeat (any_goals (first | assumption | wp_step))
  -- the new set
  generalize hnew : ({ cls := .type "set", dict := none, data := .set #[] 0 (.fresh 0 0 (!w.params.followText "set-order")) } : Obj) = ob
  have hobc : ob.cls = .type "set" := by rw [← hnew]
  refine codeAny_mono (code_set_led1 (.ref l) (E := E) (Q₁ := fun obj s₁ => obj = .ref s.heap.objs.size ∧ s₁ = { s with heap := s.heap.push ob }) ⟨rfl, by rw [hnew]⟩) fun r s₁ hr => ?_
  cases r with
  | error e => exact hr
  | ok fl =>
    cases fl with
    | ret obj =>
      obtain ⟨rfl, rfl⟩ := hr
      have hS : (s.heap.push ob).get? s.heap.objs.size = some ob := Heap.get?_push_size _ (by rw [← hnew]; rfl)
      have hT : Shared.TypeIs { s with heap := s.heap.push ob } (.ref s.heap.objs.size) "set" := ⟨_, hS, hobc⟩
      have hli := F.called_set.init.lookup
      have hbi := F.called_set.init.bind (.ref s.heap.objs.size)
      repeat (any_goals (first | assumption | wp_step))
      refine codeAny_mono (codeAny_call_builtin (R := wants (fun r s₂ => r = .none ∧ ∃ h' tk c, s₂ = { s with heap := h', toks := tk } ∧ SetR w h' s.heap.objs.size (fun j => decide (j ∈ ns)) c ∧ c ≤ ns.length ∧
          (∀ b o, s.heap.get? b = some o → h'.get? b = some o)) E) F.called_set.init.plain F.entry_set_init (check_set_init_1 hT ?_)) fun r₂ s₂ hr₂ => ?_
      · obtain ⟨ol, hol, hcl, nl, hdl⟩ := hl
        obtain ⟨ocls, odict, odata, oslots⟩ := ol
        simp only at hcl hdl
        subst hcl; subst hdl
        subst hnew
        have hol' : (s.heap.push { cls := .type "set", dict := none, data := .set #[] 0 (.fresh 0 0 (!w.params.followText "set-order")) }).get? l = some { cls := .type "list", dict := odict, data := .seq items nl, slots := oslots } := Heap.get?_push_of_some _ hol
        have hsls := F.sub_list_set
        have hslf := F.sub_list_frozenset
        have hne : (Value.type "list" == Value.type "dict") = false := by decide
        have hl1 : (s.heap.push { cls := .type "set", dict := none, data := .set #[] 0 (.fresh 0 0 (!w.params.followText "set-order")) }).IsList l items := ⟨_, hol', rfl, nl, rfl⟩
        unfold Builtin.«set.__init__» noKeywords Builtin.Frozenset.updateFrom
        generalize hPI : pyIter = PI
        wp_walk
        subst hPI
        refine wpAny_pyIter_list hl1 ?_
        refine wpAny_bind (wpAny_runValue ?_)
        have hlS : l < s.heap.objs.size := Heap.lt_size hol
        have hh3 : A.in1.in1.in1.handled = none := by simp [hh]
        have hz1 : (s.heap.push { cls := .type "set", dict := none, data := .set #[] 0 (.fresh 0 0 (!w.params.followText "set-order")) }).objs.size = s.heap.objs.size + 1 := Heap.size_push ..
        have hneI : l ≠ (s.heap.push { cls := .type "set", dict := none, data := .set #[] 0 (.fresh 0 0 (!w.params.followText "set-order")) }).objs.size := by rw [hz1]; exact Nat.ne_of_lt (Nat.lt_succ_of_lt hlS)
        have hSf : s.heap.objs.size ∉ [(s.heap.push { cls := .type "set", dict := none, data := .set #[] 0 (.fresh 0 0 (!w.params.followText "set-order")) }).objs.size, l] := by
          rw [hz1]
          simp only [List.mem_cons, List.not_mem_nil, or_false, not_or]
          exact ⟨Nat.ne_of_lt (Nat.lt_succ_self _), Nat.ne_of_gt hlS⟩
        have hval : ∀ (i : Nat) (v : Value), items[i]? = some v → ∃ k t, ns[i]? = some k ∧ v = .int k t := fun i v hv => by
          have hi : i < ns.length := by rw [← hisz]; exact (Array.getElem?_eq_some_iff.mp hv).1
          obtain ⟨t, e⟩ := PyProof.Rows.IntsAre.int_at hit i v (by rw [Array.getElem?_toList]; exact hv)
          refine ⟨ns[i], t, List.getElem?_eq_getElem hi, ?_⟩
          rw [e, List.getD_eq_getElem?_getD, List.getElem?_eq_getElem hi] <;> rfl
        refine set_update_ints ((Walks.list hh3 _ l hneI items).toS) s.heap.objs.size hSf ns hisz hb hval (items.size - 0) 0 _ (by omega) (Nat.zero_le _) ⟨⟨_, Heap.get?_push_size _ rfl, rfl, rfl⟩, (hl1.push _)⟩ ?hS0 ?hR
        case hS0 =>
          have hget := Heap.get?_push_of_some { cls := .type "list_iterator", data := .fields #[.ref l, .int 0 0] } hS
          exact ⟨0, Nat.le_refl 0, setR_new_at hget⟩
        case hR =>
          intro s' c' hm hc' hS'
          obtain ⟨h', g2, d', tk', os'⟩ := s'
          have eg : g2 = s.gens := hm.gens
          have ed : d' = s.drawn := hm.drawn
          have eo : os' = s.os := hm.os
          subst eg; subst ed; subst eo
          show wpAny _ _ _ _ _ _
          refine wpAny_pure ?_
          show wpAny _ _ (ret Value.none) _ _ _
          rw [hisz] at hc'
          refine wpAny_pure ⟨rfl, h', tk', c', rfl, hS', hc', fun b o e => ?_⟩
          have hb0 : b < s.heap.objs.size := Heap.lt_size e
          have hb2 : b ≠ (s.heap.push { cls := .type "set", dict := none, data := .set #[] 0 (.fresh 0 0 (!w.params.followText "set-order")) }).objs.size := by rw [hz1]; exact Nat.ne_of_lt (Nat.lt_succ_of_lt hb0)
          exact hm.heap b o (by simp only [List.mem_cons, List.not_mem_nil, or_false, not_or]; exact ⟨Nat.ne_of_lt hb0, hb2⟩) (Heap.get?_push_of_some _ (Heap.get?_push_of_some _ e))
      · cases r₂ with
        | error e => exact hr₂
        | ok fl₂ =>
          cases fl₂ with
          | ret r =>
            obtain ⟨rfl, h', tk, c', rfl, hS', hc', hk'⟩ := hr₂
            repeat (any_goals (first | assumption | wp_step))
            exact h _ _ _ hS' hc' hk'
          | _ => exact hr₂.elim
    | _ => exact hr.elim
end
/-! ### the two calls -/
def SetI0 (w : World) (h : Heap) (a : Addr) (ns : List Int) : Prop := ∃ c, c ≤ ns.length ∧ SetR w h a (fun j => decide (j ∈ ns)) c
def SetIO (w : World) (a : Addr) (ns : List Int) : HO := .ext fun h => SetI0 w h a ns
theorem setIO_new {P : Program} {w : World} {H : Hp} {h : Heap} {a : Addr} {ns : List Int} (R : SetI0 w h a ns) : ObjOk P w H h a (SetIO w a ns) := by
  have ⟨c, hc, o, es, ep, t, ho, r⟩ := R
  refine ⟨R, ⟨o, ho⟩, fun h1 h2 p k => ?_⟩
  obtain ⟨c', hc', R'⟩ := p
  exact ⟨c', hc', R'.at k⟩
section
variable {X : Cx}
def rSetOfI (K : PySem.W.Frag) (w : World) : List V → Hp → VK → Prop := fun xs H Q => ∃ (l : Addr) (ns : List Int), xs = [V.ref l] ∧ SqL K H l (ns.map V.int) ∧ ns.length < 64 ∧ ∀ a, H a = none → Q (.ref a) (upd H a (SetIO w a ns))
theorem cr_setOfI (hc : X.calm = true) : CallR X (.type "set") (rSetOfI X.K X.w) := by
  intro pins s σ H xs us Q I r h
  obtain ⟨l, ns, rfl, hl, hf, q⟩ := h
  rw [Vals.ref1 r]
  obtain ⟨its, rv, pl, hz⟩ := I.list hl
  have hn : H s.heap.objs.size = none := I.hok.fresh (Nat.le_refl _)
  refine call_set_lstI (P := X.prog) (w := X.w) ns (I.ok.hd hc) pl.isList (ints_of_vals rv) (by unfold scanBound; omega) fun h' tk c R g k => ?_
  exact ⟨.ref s.heap.objs.size, upd H s.heap.objs.size (SetIO X.w s.heap.objs.size ns), I.laid (t' := tk) k (Nat.le_refl _) (setIO_new ⟨c, g, R⟩), rfl, q _ hn⟩
def rSortSetI (w : World) : List V → Hp → VK → Prop := fun vs H Q => ∃ (a : Addr) (ns : List Int), vs = [V.ref a] ∧ H a = some (SetIO w a ns) ∧ ns.length < 64 ∧ ∀ (ks : List Int) (p : Addr), ks.Pairwise (· < ·) → (∀ k, k ∈ ks ↔ k ∈ ns) → H p = none → Q (.ref p) (upd H p (.lst (ks.map V.int)))
theorem cr_sortSetI (hc : X.calm = true) : CallR X (.builtin "sorted") (rSortSetI X.w) := by
  intro pins s σ H vs us Q I r h
  obtain ⟨a, ns, rfl, ha, hf, q⟩ := h
  obtain ⟨c, hcn, R⟩ := (I.hok a _ ha).1
  rw [Vals.ref1 r]
  refine sorted_set R (I.ok.hd hc) (by omega) fun s' p out d ks k g o hp hg hout pw mem hlen => ?_
  have hn : H p = none := I.hok.fresh hp
  have hv : Vals (ks.map V.int) out.toList := vals_of_ints hout
  have J : Inv X pins σ (upd H p (.lst (ks.map V.int))) { s with heap := s'.heap, gens := s'.gens, drawn := s'.drawn, toks := s'.toks } :=
    I.call (ch := []) (Un.laid k hp hn) (I.hok.laid k hp ⟨by rw [List.length_map, sizeLine_eq]; omega, out.toList, d, hv, hg⟩) (by rw [g]; exact I.bare) (fun _ z => nomatch z)
  have e : s' = { s with heap := s'.heap, gens := s'.gens, drawn := s'.drawn, toks := s'.toks } := by
    cases s'
    cases s
    cases o
    rfl
  rw [e]
  exact ⟨.ref p, _, J, rfl, q ks p pw (fun j => by rw [mem j, decide_eq_true_eq]) hn⟩
end
/-! ### as values -/
def insS (k : Int) : List Int → List Int
  | [] => [k]
  | x :: xs => if k < x then k :: x :: xs else if k = x then x :: xs else x :: insS k xs
theorem mem_insS {k a : Int} : ∀ {xs : List Int}, a ∈ insS k xs ↔ a = k ∨ a ∈ xs
  | [] => by simp [insS]
  | x :: xs => by
    unfold insS
    split
    · simp
    · split
      · rename_i h
        subst h
        simp
      · rw [List.mem_cons, mem_insS, List.mem_cons]
        constructor
        · rintro (h | h | h)
          · exact .inr (.inl h)
          · exact .inl h
          · exact .inr (.inr h)
        · rintro (h | h | h)
          · exact .inr (.inl h)
          · exact .inl h
          · exact .inr (.inr h)
theorem insS_lt {k : Int} : ∀ {xs : List Int}, xs.Pairwise (· < ·) → (insS k xs).Pairwise (· < ·)
  | [], _ => by simp [insS]
  | x :: xs, h => by
    obtain ⟨h1, h2⟩ := List.pairwise_cons.mp h
    unfold insS
    split
    · rename_i hk
      exact List.pairwise_cons.mpr ⟨fun y hy => (List.mem_cons.mp hy).elim (fun e => e ▸ hk) fun e => Int.lt_trans hk (h1 y e), h⟩
    · split
      · exact h
      · exact List.pairwise_cons.mpr ⟨fun y hy => (mem_insS.mp hy).elim (fun e => by omega) (h1 y), insS_lt h2⟩
/-- the members of a list, each once, rising -/
def setL (ns : List Int) : List Int := ns.foldr insS []
theorem mem_setL {a : Int} : ∀ {ns : List Int}, a ∈ setL ns ↔ a ∈ ns
  | [] => by simp [setL]
  | n :: ns => by
    show a ∈ insS n (setL ns) ↔ _
    rw [mem_insS, mem_setL, List.mem_cons]
theorem setL_lt : ∀ ns : List Int, (setL ns).Pairwise (· < ·)
  | [] => List.Pairwise.nil
  | n :: ns => insS_lt (setL_lt ns)
theorem rising_unique : ∀ {xs ys : List Int}, xs.Pairwise (· < ·) → ys.Pairwise (· < ·) → (∀ k, k ∈ xs ↔ k ∈ ys) → xs = ys
  | [], [], _, _, _ => rfl
  | [], y :: ys, _, _, h => by have := (h y).mpr (List.mem_cons_self ..); cases this
  | x :: xs, [], _, _, h => by have := (h x).mp (List.mem_cons_self ..); cases this
  | x :: xs, y :: ys, h1, h2, h => by
    obtain ⟨a1, a2⟩ := List.pairwise_cons.mp h1
    obtain ⟨b1, b2⟩ := List.pairwise_cons.mp h2
    have e : x = y := by
      rcases List.mem_cons.mp ((h x).mp (List.mem_cons_self ..)) with e | e
      · exact e
      · rcases List.mem_cons.mp ((h y).mpr (List.mem_cons_self ..)) with e2 | e2
        · exact e2.symm
        · have := b1 x e
          have := a1 y e2
          omega
    subst e
    congr 1
    refine rising_unique a2 b2 fun k => ?_
    constructor
    · intro hk
      rcases List.mem_cons.mp ((h k).mp (List.mem_cons_of_mem _ hk)) with e | e
      · have := a1 k hk; omega
      · exact e
    · intro hk
      rcases List.mem_cons.mp ((h k).mpr (List.mem_cons_of_mem _ hk)) with e | e
      · have := b1 k hk; omega
      · exact e
def sortSetD : D → Option D
  | .list ds => (asInts ds).bind fun ns => if ns.length < 64 then some (.list ((setL ns).map .int)) else none
  | _ => none
section
variable {X : Cx} {W : XK} {e : Expr} {f : M D} {p p1 p2 pos : Pos}
theorem q_sortSet [LawTabs] (hc : X.calm = true) (hms : X.mg "sorted" = none) (hmt : X.mg "set" = none) (he : QE X W e f) (hgs : Gl X "sorted" := by exact rfl) (hgt : Gl X "set" := by exact rfl) (na : starEach [e] X.env = (false, eval e X.env) :: starEach [] X.env := by rfl)
    (nb : starEach [.Call (.Name "set" p1) [e] [] p2] X.env = (false, eval (.Call (.Name "set" p1) [e] [] p2) X.env) :: starEach [] X.env := by rfl) : QE X W (.Call (.Name "sorted" p) [.Call (.Name "set" p1) [e] [] p2] [] pos) (op1 sortSetD f) := fun O =>
  (pe_callB (pos := pos) (p := p) (cr_sortSetI hc) hgs hms PyProof.Rows.boot_sorted (pa_cons (pe_callTy (pos := p2) (p := p1) (cr_setOfI hc) hgt hmt PyProof.Rows.boot_set (pa_cons (he O) pa_nil na) (he := na)) pa_nil nb) (he := nb)).weak fun σ H Q ⟨ρ, r, h⟩ => by
  refine tE.mono (tE.app r h) fun v H1 ⟨d, ρ1, rep1, e1, dp1, q1⟩ => ?_
  obtain ⟨z, hz, q⟩ := RP.opt q1
  unfold sortSetD at hz
  split at hz
  · rename_i ds
    cases e2 : asInts ds with
    | none => rw [e2] at hz; cases hz
    | some ns =>
      rw [e2, Option.bind_some] at hz
      split at hz
      · rename_i hl
        cases hz
        have e4 := asInts_some e2
        subst e4
        obtain ⟨a, ys, rfl, h1, h2⟩ := Dp.list_of dp1
        obtain rfl := DpAll.ints h2
        have hq : HasV X.K (hd O ρ1 σ) (.list ((setL ns).map .int)) H1 Q := hasV_end rep1 e1 q
        refine ⟨a, ns, rfl, hid_le.seq h1, hl, fun b hb => ⟨b, ns, rfl, upd_same, hl, fun ks p hk hm hp => ?_⟩⟩
        have ek : ks = setL ns := rising_unique hk (setL_lt ns) fun k => by rw [hm k, mem_setL]
        rw [ek]
        have sm : SameT H1 (upd H1 b (SetIO X.w b ns)) := .of (same_new (o := SetIO X.w b ns) hb)
        have hq2 : HasV X.K (hd O ρ1 σ) (.list ((setL ns).map .int)) (upd H1 b (SetIO X.w b ns)) Q := fun v H' sm2 dp => hq v H' (sm.trans sm2) dp
        exact hq2.newL (fun b hb => sm.trk b (rep1.trk b hb)) (DpAll.ofInts _) p hp
      · cases hz
  · cases hz
end
@[simp ↓] theorem OptP_sortSet {ns : List Int} {P : D → Prop} : OptP (sortSetD (.list (ns.map .int))) P = (ns.length < 64 ∧ P (.list ((setL ns).map .int))) := by
  show OptP ((asInts (ns.map .int)).bind _) P = _
  rw [asInts_ofMap, Option.bind_some]
  exact OptP_ite
end QL
set_option Elab.async false
set_option linter.all false
set_option maxRecDepth 100000
set_option maxHeartbeats 2000000
/-! Q39: a statement that is not reached. -/
namespace QL
open PySem PySem.Spec PyProof.Rows L2
/-- a statement of which nothing is told: where it is reached, nothing is proved -/
def stuckS : M Out := M.stuck
theorem qs_stuck [LawTabs] {X : Cx} {P : List Nat} {W : XK} {st : Stmt} : QS X P W st stuckS := fun O => ⟨fun pins s σ H E I h => by
  obtain ⟨ρ, r, h⟩ := h
  exact h.elim⟩
@[simp ↓] theorem wp_stuckS {ρ : Rho} {Q : Out → Rho → Prop} {E : Ex → Prop} : wp stuckS ρ Q E = False := by
  unfold stuckS
  exact wp_stuck
end QL
set_option Elab.async false
set_option linter.all false
set_option maxRecDepth 100000
set_option maxHeartbeats 2000000
/-! Q40: the years up to a year by their places in a round; how far first days are apart. -/
namespace LK
open PySem PySem.Spec PyProof.Rows L2 QL
/-- how many rounds of a place there are up to a year -/
def upTo (n i y : Nat) : Nat := (y + (n - 1 - i)) / n
theorem upTo_succ {n i y : Nat} (hi : i < n) : upTo n i (y + 1) = upTo n i y + (if i = y % n then 1 else 0) := by
  unfold upTo
  have hn : 0 < n := by omega
  have hd := Nat.div_add_mod y n
  have hm := Nat.mod_lt y hn
  generalize y / n = q at *
  generalize y % n = w at *
  subst hd
  have e : ∀ a, (n * q + a) / n = q + a / n := fun a => by rw [Nat.mul_add_div hn]
  rw [show n * q + w + 1 + (n - 1 - i) = n * q + (w + 1 + (n - 1 - i)) by omega, show n * q + w + (n - 1 - i) = n * q + (w + (n - 1 - i)) by omega, e, e]
  by_cases c : i = w
  · rw [if_pos c, show w + 1 + (n - 1 - i) = n by omega, Nat.div_self hn, Nat.div_eq_of_lt (by omega)]
  · rw [if_neg c]
    by_cases d : w < i
    · rw [Nat.div_eq_of_lt (by omega), Nat.div_eq_of_lt (by omega)]
    · rw [Nat.div_eq_of_lt_le (k := 1) (by omega) (by omega), Nat.div_eq_of_lt_le (k := 1) (by omega) (by omega)]
/-- the years up to a year by their places -/
theorem tot_cnt (p : Nat → Bool) {n : Nat} (hn : 0 < n) : ∀ y, tot (fun i => cnt (fun q => p (q * n + i + 1)) (upTo n i y)) n = cnt (fun i => p (i + 1)) y
  | 0 => by
    have : ∀ m, m ≤ n → tot (fun i => cnt (fun q => p (q * n + i + 1)) (upTo n i 0)) m = 0 := by
      intro m
      induction m with
      | zero => intro _; rfl
      | succ m ih =>
        intro h
        rw [tot, ih (by omega)]
        have : upTo n m 0 = 0 := by unfold upTo; exact Nat.div_eq_of_lt (by omega)
        rw [this]; rfl
    rw [this n (Nat.le_refl _)]; rfl
  | y + 1 => by
    have hm := Nat.mod_lt y hn
    have hu : upTo n (y % n) y = y / n := by
      unfold upTo
      have hd := Nat.div_add_mod y n
      generalize y / n = q at *
      generalize y % n = w at *
      subst hd
      rw [show n * q + w + (n - 1 - w) = n * q + (n - 1) by omega, Nat.mul_add_div hn, Nat.div_eq_of_lt (by omega)]; rfl
    have e := tot_one (h := fun i => cnt (fun q => p (q * n + i + 1)) (upTo n i y)) (h' := fun i => if i < n then cnt (fun q => p (q * n + i + 1)) (upTo n i (y + 1)) else cnt (fun q => p (q * n + i + 1)) (upTo n i y)) (i0 := y % n) (a := if p (y + 1) = true then 1 else 0) (fun i => by
      by_cases c : i < n
      · simp only [if_pos c]
        rw [upTo_succ c]
        by_cases d : i = y % n
        · subst d
          rw [if_pos rfl, if_pos rfl, cnt_succ, hu, show y / n * n + y % n + 1 = y + 1 by have := Nat.div_add_mod y n; rw [Nat.mul_comm] at this; omega]
        · rw [if_neg d, if_neg d]; rfl
      · simp only [if_neg c]
        rw [if_neg (by omega)]; rfl) n
    rw [if_pos hm, tot_cnt p hn y] at e
    rw [cnt_succ, ← e]
    exact tot_congr n fun i hi => by simp only [if_pos hi]

theorem tot_tail {f : Nat → Nat} {m : Nat} : ∀ {n : Nat}, m ≤ n → (∀ i, m ≤ i → i < n → f i = 0) → tot f n = tot f m
  | 0, h, _ => by rw [Nat.le_zero.mp h]
  | n + 1, h, hz => by
    by_cases c : m = n + 1
    · rw [c]
    · rw [tot, hz n (by omega) (by omega), Nat.add_zero, tot_tail (by omega) fun i h1 h2 => hz i h1 (by omega)]
/-! ### first days apart -/
def apN (r q : List Step) (m : Nat) : Int := (countL' r m : Nat) - (countL' q m : Nat)
def comN (r q : List Step) : Nat := lcmS (r ++ q)
theorem com_pos {r q : List Step} (h : RuleOk r) (h2 : RuleOk q) : 0 < comN r q := lcmS_pos fun s hs => (List.mem_append.mp hs).elim (h.steps s) (h2.steps s)
theorem com_l (r q : List Step) : lcmS r ∣ comN r q := lcmS_dvd.mpr fun s hs => lcmS_dvd.mp (Nat.dvd_refl (comN r q)) s (List.mem_append_left _ hs)
theorem com_r (r q : List Step) : lcmS q ∣ comN r q := lcmS_dvd.mpr fun s hs => lcmS_dvd.mp (Nat.dvd_refl (comN r q)) s (List.mem_append_right _ hs)
theorem apN_mul {r q : List Step} {n : Nat} (hr : Per (leapF r) n) (hq : Per (leapF q) n) (i k : Nat) : apN r q (i + k * n) = apN r q i + (k : Int) * apN r q n := by
  unfold apN
  rw [countL_eq, countL_eq, countL_eq, countL_eq, countL_eq, countL_eq, cnt_mul hr, cnt_mul hq]
  generalize cnt (leapF r) i = a
  generalize cnt (leapF q) i = b
  generalize cnt (leapF r) n = c
  generalize cnt (leapF q) n = d
  simp only [Int.natCast_add, Int.natCast_mul, Int.mul_sub]
  omega
theorem com_per {r q : List Step} (h : RuleOk r) (h2 : RuleOk q) : Per (leapF r) (comN r q) ∧ Per (leapF q) (comN r q) := ⟨(leapF_per h.one).of_dvd (com_l r q), (leapF_per h2.one).of_dvd (com_r r q)⟩
theorem ap_vF {r q : List Step} (h : RuleOk r) (h2 : RuleOk q) {y : Nat} : vF (apN r q) (comN r q) (apN r q (comN r q)) y = apN r q (y - 1) := by
  unfold vF
  obtain ⟨p1, p2⟩ := com_per h h2
  rw [← apN_mul p1 p2, Nat.mul_comm, Nat.mod_add_div]
theorem apN_abs (r q : List Step) (m : Nat) : (apN r q m).natAbs ≤ m := by
  unfold apN
  have h1 := cnt_le (leapF r) m
  have h2 := cnt_le (leapF q) m
  rw [countL_eq, countL_eq]
  omega
theorem apN_zero (r q : List Step) : apN r q 0 = 0 := rfl
theorem apN_neg (r q : List Step) (m : Nat) : apN q r m = -apN r q m := by unfold apN; omega
theorem apN_add (r q p : List Step) (m : Nat) : apN r p m = apN r q m + apN q p m := by unfold apN; omega
theorem apN_self (r : List Step) (m : Nat) : apN r r m = 0 := by unfold apN; omega
def apRow (r q : List Step) : List Int := (List.range (comN r q)).map (apN r q)
end LK
set_option Elab.async false
set_option linter.all false
set_option maxRecDepth 100000
set_option maxHeartbeats 8000000
namespace LK
open PySem PySem.Spec PyProof.Rows L2 QL
def topS (i : Nat) : Stmt := PySem.Challenge.pw_leapchains_k23_whole_three_calendars.main.body.getD i (.Pass ⟨0, 0, 0, 0⟩)
def dd_is_integer : He.DefD := ⟨("is_integer", none), "is_integer", "is_integer", defArgs (topS 10), defBody (topS 10), defScope (topS 10), [], []⟩
def dd_is_between : He.DefD := ⟨("is_between", none), "is_between", "is_between", defArgs (topS 11), defBody (topS 11), defScope (topS 11), [], []⟩
def dd_divisor_of : He.DefD := ⟨("divisor_of", none), "divisor_of", "divisor_of", defArgs (topS 12), defBody (topS 12), defScope (topS 12), [], []⟩
def dd_multiple_of : He.DefD := ⟨("multiple_of", none), "multiple_of", "multiple_of", defArgs (topS 13), defBody (topS 13), defScope (topS 13), [], []⟩
def dd_is_step : He.DefD := ⟨("is_step", none), "is_step", "is_step", defArgs (topS 14), defBody (topS 14), defScope (topS 14), [], []⟩
def dd_a_rule : He.DefD := ⟨("a_rule", none), "a_rule", "a_rule", defArgs (topS 15), defBody (topS 15), defScope (topS 15), [], []⟩
def dd_need_rule : He.DefD := ⟨("need_rule", none), "need_rule", "need_rule", defArgs (topS 16), defBody (topS 16), defScope (topS 16), [], []⟩
def dd_need_year : He.DefD := ⟨("need_year", none), "need_year", "need_year", defArgs (topS 17), defBody (topS 17), defScope (topS 17), [], []⟩
def dd_need_days : He.DefD := ⟨("need_days", none), "need_days", "need_days", defArgs (topS 18), defBody (topS 18), defScope (topS 18), [], []⟩
def dd_leap_in : He.DefD := ⟨("leap_in", none), "leap_in", "leap_in", defArgs (topS 20), defBody (topS 20), defScope (topS 20), [], []⟩
def dd_whole_round : He.DefD := ⟨("whole_round", none), "whole_round", "whole_round", defArgs (topS 21), defBody (topS 21), defScope (topS 21), [], []⟩
def dd_leaps_of : He.DefD := ⟨("leaps_of", none), "leaps_of", "leaps_of", defArgs (topS 22), defBody (topS 22), defScope (topS 22), [], []⟩
def dd_sums_of : He.DefD := ⟨("sums_of", none), "sums_of", "sums_of", defArgs (topS 23), defBody (topS 23), defScope (topS 23), [], []⟩
def dd_count_to : He.DefD := ⟨("count_to", none), "count_to", "count_to", defArgs (topS 25), defBody (topS 25), defScope (topS 25), [], []⟩
def dd_round_sums : He.DefD := ⟨("round_sums", none), "round_sums", "round_sums", defArgs (topS 26), defBody (topS 26), defScope (topS 26), [], []⟩
def dd_leaps_to : He.DefD := ⟨("leaps_to", none), "leaps_to", "leaps_to", defArgs (topS 27), defBody (topS 27), defScope (topS 27), [], []⟩
def dd_bounds_of : He.DefD := ⟨("bounds_of", none), "bounds_of", "bounds_of", defArgs (topS 29), defBody (topS 29), defScope (topS 29), [], []⟩
def dd_first_round : He.DefD := ⟨("first_round", none), "first_round", "first_round", defArgs (topS 30), defBody (topS 30), defScope (topS 30), [], []⟩
def dd_next_beyond : He.DefD := ⟨("next_beyond", none), "next_beyond", "next_beyond", defArgs (topS 31), defBody (topS 31), defScope (topS 31), [], []⟩
def dd_apart_row : He.DefD := ⟨("apart_row", none), "apart_row", "apart_row", defArgs (topS 33), defBody (topS 33), defScope (topS 33), [], []⟩
def dd_apart : He.DefD := ⟨("apart", none), "apart", "apart", defArgs (topS 34), defBody (topS 34), defScope (topS 34), [], []⟩
def dd_first_apart : He.DefD := ⟨("first_apart", none), "first_apart", "first_apart", defArgs (topS 35), defBody (topS 35), defScope (topS 35), [], []⟩
def dd_farthest_apart : He.DefD := ⟨("farthest_apart", none), "farthest_apart", "farthest_apart", defArgs (topS 36), defBody (topS 36), defScope (topS 36), [], []⟩
def dd_meeting_round : He.DefD := ⟨("meeting_round", none), "meeting_round", "meeting_round", defArgs (topS 37), defBody (topS 37), defScope (topS 37), [], []⟩
def dd_next_together : He.DefD := ⟨("next_together", none), "next_together", "next_together", defArgs (topS 38), defBody (topS 38), defScope (topS 38), [], []⟩
def dd_count_together : He.DefD := ⟨("count_together", none), "count_together", "count_together", defArgs (topS 39), defBody (topS 39), defScope (topS 39), [], []⟩
def dd__law_source : He.DefD := ⟨("_law_source", none), "_law_source", "_law_source", defArgs (topS 41), defBody (topS 41), defScope (topS 41), [], []⟩
def dd__law_pick : He.DefD := ⟨("_law_pick", none), "_law_pick", "_law_pick", defArgs (topS 42), defBody (topS 42), defScope (topS 42), [], []⟩
def dd__law_chosen : He.DefD := ⟨("_law_chosen", none), "_law_chosen", "_law_chosen", defArgs (topS 43), defBody (topS 43), defScope (topS 43), [], []⟩
def dd__law_common : He.DefD := ⟨("_law_common", none), "_law_common", "_law_common", defArgs (topS 44), defBody (topS 44), defScope (topS 44), [], []⟩
def dd__law_multiple : He.DefD := ⟨("_law_multiple", none), "_law_multiple", "_law_multiple", defArgs (topS 45), defBody (topS 45), defScope (topS 45), [], []⟩
def dd__law_known : He.DefD := ⟨("_law_known", none), "_law_known", "_law_known", defArgs (topS 46), defBody (topS 46), defScope (topS 46), [], []⟩
def dd__law_rule : He.DefD := ⟨("_law_rule", none), "_law_rule", "_law_rule", defArgs (topS 47), defBody (topS 47), defScope (topS 47), [], []⟩
def dd__law_near : He.DefD := ⟨("_law_near", none), "_law_near", "_law_near", defArgs (topS 48), defBody (topS 48), defScope (topS 48), [], []⟩
def dd__law_year : He.DefD := ⟨("_law_year", none), "_law_year", "_law_year", defArgs (topS 49), defBody (topS 49), defScope (topS 49), [], []⟩
def dd__law_pair : He.DefD := ⟨("_law_pair", none), "_law_pair", "_law_pair", defArgs (topS 50), defBody (topS 50), defScope (topS 50), [], []⟩
def dd_law : He.DefD := ⟨("law", none), "law", "law", defArgs (topS 51), defBody (topS 51), defScope (topS 51), [], []⟩
def fn : List He.DefD := [dd_is_integer, dd_is_between, dd_divisor_of, dd_multiple_of, dd_is_step, dd_a_rule, dd_need_rule, dd_need_year, dd_need_days, dd_leap_in, dd_whole_round, dd_leaps_of, dd_sums_of, dd_count_to, dd_round_sums, dd_leaps_to, dd_bounds_of, dd_first_round, dd_next_beyond, dd_apart_row, dd_apart, dd_first_apart, dd_farthest_apart, dd_meeting_round, dd_next_together, dd_count_together, dd__law_source, dd__law_pick, dd__law_chosen, dd__law_common, dd__law_multiple, dd__law_known, dd__law_rule, dd__law_near, dd__law_year, dd__law_pair, dd_law]
def fa : List He.Fa := [.glo "is_integer", .glo "is_between", .glo "divisor_of", .glo "multiple_of", .glo "is_step", .glo "a_rule", .glo "need_rule", .glo "need_year", .glo "need_days", .glo "leap_in", .glo "whole_round", .glo "leaps_of", .glo "sums_of", .glo "count_to", .glo "round_sums", .glo "leaps_to", .glo "bounds_of", .glo "first_round", .glo "next_beyond", .glo "apart_row", .glo "apart", .glo "first_apart", .glo "farthest_apart", .glo "meeting_round", .glo "next_together", .glo "count_together", .glo "_law_source", .glo "_law_pick", .glo "_law_chosen", .glo "_law_common", .glo "_law_multiple", .glo "_law_known", .glo "_law_rule", .glo "_law_near", .glo "_law_year", .glo "_law_pair", .glo "law", .free "abs", .free "all", .free "bool", .free "enumerate", .free "int", .free "isinstance", .free "len", .free "max", .free "min", .free "range", .free "tuple", .free "zip", .int "LATEST" 1000000000000000, .int "MOST" 6, .int "WIDEST" 10000, .glo "InvalidDays", .exc "InvalidDays", .glo "InvalidRule", .exc "InvalidRule", .glo "InvalidYear", .exc "InvalidYear"]
structure Facts (K : PySem.W.Frag) (mg : Str → Option Value) : Prop where
  def_is_integer : DefAt K mg "is_integer" (topS 10)
  def_is_between : DefAt K mg "is_between" (topS 11)
  def_divisor_of : DefAt K mg "divisor_of" (topS 12)
  def_multiple_of : DefAt K mg "multiple_of" (topS 13)
  def_is_step : DefAt K mg "is_step" (topS 14)
  def_a_rule : DefAt K mg "a_rule" (topS 15)
  def_need_rule : DefAt K mg "need_rule" (topS 16)
  def_need_year : DefAt K mg "need_year" (topS 17)
  def_need_days : DefAt K mg "need_days" (topS 18)
  def_leap_in : DefAt K mg "leap_in" (topS 20)
  def_whole_round : DefAt K mg "whole_round" (topS 21)
  def_leaps_of : DefAt K mg "leaps_of" (topS 22)
  def_sums_of : DefAt K mg "sums_of" (topS 23)
  def_count_to : DefAt K mg "count_to" (topS 25)
  def_round_sums : DefAt K mg "round_sums" (topS 26)
  def_leaps_to : DefAt K mg "leaps_to" (topS 27)
  def_bounds_of : DefAt K mg "bounds_of" (topS 29)
  def_first_round : DefAt K mg "first_round" (topS 30)
  def_next_beyond : DefAt K mg "next_beyond" (topS 31)
  def_apart_row : DefAt K mg "apart_row" (topS 33)
  def_apart : DefAt K mg "apart" (topS 34)
  def_first_apart : DefAt K mg "first_apart" (topS 35)
  def_farthest_apart : DefAt K mg "farthest_apart" (topS 36)
  def_meeting_round : DefAt K mg "meeting_round" (topS 37)
  def_next_together : DefAt K mg "next_together" (topS 38)
  def_count_together : DefAt K mg "count_together" (topS 39)
  def__law_source : DefAt K mg "_law_source" (topS 41)
  def__law_pick : DefAt K mg "_law_pick" (topS 42)
  def__law_chosen : DefAt K mg "_law_chosen" (topS 43)
  def__law_common : DefAt K mg "_law_common" (topS 44)
  def__law_multiple : DefAt K mg "_law_multiple" (topS 45)
  def__law_known : DefAt K mg "_law_known" (topS 46)
  def__law_rule : DefAt K mg "_law_rule" (topS 47)
  def__law_near : DefAt K mg "_law_near" (topS 48)
  def__law_year : DefAt K mg "_law_year" (topS 49)
  def__law_pair : DefAt K mg "_law_pair" (topS 50)
  def_law : DefAt K mg "law" (topS 51)
  free_abs : mg "abs" = none
  free_all : mg "all" = none
  free_bool : mg "bool" = none
  free_enumerate : mg "enumerate" = none
  free_int : mg "int" = none
  free_isinstance : mg "isinstance" = none
  free_len : mg "len" = none
  free_max : mg "max" = none
  free_min : mg "min" = none
  free_range : mg "range" = none
  free_tuple : mg "tuple" = none
  free_zip : mg "zip" = none
  int_LATEST : ∃ t, mg "LATEST" = some (.int 1000000000000000 t)
  int_MOST : ∃ t, mg "MOST" = some (.int 6 t)
  int_WIDEST : ∃ t, mg "WIDEST" = some (.int 10000 t)
  exc_InvalidDays : ExcAt K mg "InvalidDays"
  exc_InvalidRule : ExcAt K mg "InvalidRule"
  exc_InvalidYear : ExcAt K mg "InvalidYear"
theorem facts_of {K : PySem.W.Frag} {mg : Str → Option Value} {h : Heap} (X0 : K.In h) (G0 : h.Ns mainGlobals mg) (c : He.SaysD fa fn K) : Facts K mg where
  def_is_integer := by
    obtain ⟨fd, F⟩ := c.def_ 0 (d := dd_is_integer) rfl
    exact ⟨fd, F, He.glo_ok X0 G0 (c.fact 0 (f := .glo "is_integer") rfl)⟩
  def_is_between := by
    obtain ⟨fd, F⟩ := c.def_ 1 (d := dd_is_between) rfl
    exact ⟨fd, F, He.glo_ok X0 G0 (c.fact 1 (f := .glo "is_between") rfl)⟩
  def_divisor_of := by
    obtain ⟨fd, F⟩ := c.def_ 2 (d := dd_divisor_of) rfl
    exact ⟨fd, F, He.glo_ok X0 G0 (c.fact 2 (f := .glo "divisor_of") rfl)⟩
  def_multiple_of := by
    obtain ⟨fd, F⟩ := c.def_ 3 (d := dd_multiple_of) rfl
    exact ⟨fd, F, He.glo_ok X0 G0 (c.fact 3 (f := .glo "multiple_of") rfl)⟩
  def_is_step := by
    obtain ⟨fd, F⟩ := c.def_ 4 (d := dd_is_step) rfl
    exact ⟨fd, F, He.glo_ok X0 G0 (c.fact 4 (f := .glo "is_step") rfl)⟩
  def_a_rule := by
    obtain ⟨fd, F⟩ := c.def_ 5 (d := dd_a_rule) rfl
    exact ⟨fd, F, He.glo_ok X0 G0 (c.fact 5 (f := .glo "a_rule") rfl)⟩
  def_need_rule := by
    obtain ⟨fd, F⟩ := c.def_ 6 (d := dd_need_rule) rfl
    exact ⟨fd, F, He.glo_ok X0 G0 (c.fact 6 (f := .glo "need_rule") rfl)⟩
  def_need_year := by
    obtain ⟨fd, F⟩ := c.def_ 7 (d := dd_need_year) rfl
    exact ⟨fd, F, He.glo_ok X0 G0 (c.fact 7 (f := .glo "need_year") rfl)⟩
  def_need_days := by
    obtain ⟨fd, F⟩ := c.def_ 8 (d := dd_need_days) rfl
    exact ⟨fd, F, He.glo_ok X0 G0 (c.fact 8 (f := .glo "need_days") rfl)⟩
  def_leap_in := by
    obtain ⟨fd, F⟩ := c.def_ 9 (d := dd_leap_in) rfl
    exact ⟨fd, F, He.glo_ok X0 G0 (c.fact 9 (f := .glo "leap_in") rfl)⟩
  def_whole_round := by
    obtain ⟨fd, F⟩ := c.def_ 10 (d := dd_whole_round) rfl
    exact ⟨fd, F, He.glo_ok X0 G0 (c.fact 10 (f := .glo "whole_round") rfl)⟩
  def_leaps_of := by
    obtain ⟨fd, F⟩ := c.def_ 11 (d := dd_leaps_of) rfl
    exact ⟨fd, F, He.glo_ok X0 G0 (c.fact 11 (f := .glo "leaps_of") rfl)⟩
  def_sums_of := by
    obtain ⟨fd, F⟩ := c.def_ 12 (d := dd_sums_of) rfl
    exact ⟨fd, F, He.glo_ok X0 G0 (c.fact 12 (f := .glo "sums_of") rfl)⟩
  def_count_to := by
    obtain ⟨fd, F⟩ := c.def_ 13 (d := dd_count_to) rfl
    exact ⟨fd, F, He.glo_ok X0 G0 (c.fact 13 (f := .glo "count_to") rfl)⟩
  def_round_sums := by
    obtain ⟨fd, F⟩ := c.def_ 14 (d := dd_round_sums) rfl
    exact ⟨fd, F, He.glo_ok X0 G0 (c.fact 14 (f := .glo "round_sums") rfl)⟩
  def_leaps_to := by
    obtain ⟨fd, F⟩ := c.def_ 15 (d := dd_leaps_to) rfl
    exact ⟨fd, F, He.glo_ok X0 G0 (c.fact 15 (f := .glo "leaps_to") rfl)⟩
  def_bounds_of := by
    obtain ⟨fd, F⟩ := c.def_ 16 (d := dd_bounds_of) rfl
    exact ⟨fd, F, He.glo_ok X0 G0 (c.fact 16 (f := .glo "bounds_of") rfl)⟩
  def_first_round := by
    obtain ⟨fd, F⟩ := c.def_ 17 (d := dd_first_round) rfl
    exact ⟨fd, F, He.glo_ok X0 G0 (c.fact 17 (f := .glo "first_round") rfl)⟩
  def_next_beyond := by
    obtain ⟨fd, F⟩ := c.def_ 18 (d := dd_next_beyond) rfl
    exact ⟨fd, F, He.glo_ok X0 G0 (c.fact 18 (f := .glo "next_beyond") rfl)⟩
  def_apart_row := by
    obtain ⟨fd, F⟩ := c.def_ 19 (d := dd_apart_row) rfl
    exact ⟨fd, F, He.glo_ok X0 G0 (c.fact 19 (f := .glo "apart_row") rfl)⟩
  def_apart := by
    obtain ⟨fd, F⟩ := c.def_ 20 (d := dd_apart) rfl
    exact ⟨fd, F, He.glo_ok X0 G0 (c.fact 20 (f := .glo "apart") rfl)⟩
  def_first_apart := by
    obtain ⟨fd, F⟩ := c.def_ 21 (d := dd_first_apart) rfl
    exact ⟨fd, F, He.glo_ok X0 G0 (c.fact 21 (f := .glo "first_apart") rfl)⟩
  def_farthest_apart := by
    obtain ⟨fd, F⟩ := c.def_ 22 (d := dd_farthest_apart) rfl
    exact ⟨fd, F, He.glo_ok X0 G0 (c.fact 22 (f := .glo "farthest_apart") rfl)⟩
  def_meeting_round := by
    obtain ⟨fd, F⟩ := c.def_ 23 (d := dd_meeting_round) rfl
    exact ⟨fd, F, He.glo_ok X0 G0 (c.fact 23 (f := .glo "meeting_round") rfl)⟩
  def_next_together := by
    obtain ⟨fd, F⟩ := c.def_ 24 (d := dd_next_together) rfl
    exact ⟨fd, F, He.glo_ok X0 G0 (c.fact 24 (f := .glo "next_together") rfl)⟩
  def_count_together := by
    obtain ⟨fd, F⟩ := c.def_ 25 (d := dd_count_together) rfl
    exact ⟨fd, F, He.glo_ok X0 G0 (c.fact 25 (f := .glo "count_together") rfl)⟩
  def__law_source := by
    obtain ⟨fd, F⟩ := c.def_ 26 (d := dd__law_source) rfl
    exact ⟨fd, F, He.glo_ok X0 G0 (c.fact 26 (f := .glo "_law_source") rfl)⟩
  def__law_pick := by
    obtain ⟨fd, F⟩ := c.def_ 27 (d := dd__law_pick) rfl
    exact ⟨fd, F, He.glo_ok X0 G0 (c.fact 27 (f := .glo "_law_pick") rfl)⟩
  def__law_chosen := by
    obtain ⟨fd, F⟩ := c.def_ 28 (d := dd__law_chosen) rfl
    exact ⟨fd, F, He.glo_ok X0 G0 (c.fact 28 (f := .glo "_law_chosen") rfl)⟩
  def__law_common := by
    obtain ⟨fd, F⟩ := c.def_ 29 (d := dd__law_common) rfl
    exact ⟨fd, F, He.glo_ok X0 G0 (c.fact 29 (f := .glo "_law_common") rfl)⟩
  def__law_multiple := by
    obtain ⟨fd, F⟩ := c.def_ 30 (d := dd__law_multiple) rfl
    exact ⟨fd, F, He.glo_ok X0 G0 (c.fact 30 (f := .glo "_law_multiple") rfl)⟩
  def__law_known := by
    obtain ⟨fd, F⟩ := c.def_ 31 (d := dd__law_known) rfl
    exact ⟨fd, F, He.glo_ok X0 G0 (c.fact 31 (f := .glo "_law_known") rfl)⟩
  def__law_rule := by
    obtain ⟨fd, F⟩ := c.def_ 32 (d := dd__law_rule) rfl
    exact ⟨fd, F, He.glo_ok X0 G0 (c.fact 32 (f := .glo "_law_rule") rfl)⟩
  def__law_near := by
    obtain ⟨fd, F⟩ := c.def_ 33 (d := dd__law_near) rfl
    exact ⟨fd, F, He.glo_ok X0 G0 (c.fact 33 (f := .glo "_law_near") rfl)⟩
  def__law_year := by
    obtain ⟨fd, F⟩ := c.def_ 34 (d := dd__law_year) rfl
    exact ⟨fd, F, He.glo_ok X0 G0 (c.fact 34 (f := .glo "_law_year") rfl)⟩
  def__law_pair := by
    obtain ⟨fd, F⟩ := c.def_ 35 (d := dd__law_pair) rfl
    exact ⟨fd, F, He.glo_ok X0 G0 (c.fact 35 (f := .glo "_law_pair") rfl)⟩
  def_law := by
    obtain ⟨fd, F⟩ := c.def_ 36 (d := dd_law) rfl
    exact ⟨fd, F, He.glo_ok X0 G0 (c.fact 36 (f := .glo "law") rfl)⟩
  free_abs := He.free_ok X0 G0 (c.fact 37 (f := .free "abs") rfl)
  free_all := He.free_ok X0 G0 (c.fact 38 (f := .free "all") rfl)
  free_bool := He.free_ok X0 G0 (c.fact 39 (f := .free "bool") rfl)
  free_enumerate := He.free_ok X0 G0 (c.fact 40 (f := .free "enumerate") rfl)
  free_int := He.free_ok X0 G0 (c.fact 41 (f := .free "int") rfl)
  free_isinstance := He.free_ok X0 G0 (c.fact 42 (f := .free "isinstance") rfl)
  free_len := He.free_ok X0 G0 (c.fact 43 (f := .free "len") rfl)
  free_max := He.free_ok X0 G0 (c.fact 44 (f := .free "max") rfl)
  free_min := He.free_ok X0 G0 (c.fact 45 (f := .free "min") rfl)
  free_range := He.free_ok X0 G0 (c.fact 46 (f := .free "range") rfl)
  free_tuple := He.free_ok X0 G0 (c.fact 47 (f := .free "tuple") rfl)
  free_zip := He.free_ok X0 G0 (c.fact 48 (f := .free "zip") rfl)
  int_LATEST := He.int_ok X0 G0 (c.fact 49 (f := .int "LATEST" 1000000000000000) rfl)
  int_MOST := He.int_ok X0 G0 (c.fact 50 (f := .int "MOST" 6) rfl)
  int_WIDEST := He.int_ok X0 G0 (c.fact 51 (f := .int "WIDEST" 10000) rfl)
  exc_InvalidDays := ⟨He.glo_ok X0 G0 (c.fact 52 (f := .glo "InvalidDays") rfl), (He.exc_ok (c.fact 53 (f := .exc "InvalidDays") rfl))⟩
  exc_InvalidRule := ⟨He.glo_ok X0 G0 (c.fact 54 (f := .glo "InvalidRule") rfl), (He.exc_ok (c.fact 55 (f := .exc "InvalidRule") rfl))⟩
  exc_InvalidYear := ⟨He.glo_ok X0 G0 (c.fact 56 (f := .glo "InvalidYear") rfl), (He.exc_ok (c.fact 57 (f := .exc "InvalidYear") rfl))⟩

def S_is_integer : M Out := (retS (andV (op1 (isTy "int") (var 0)) (notV (op1 (isTy "bool") (var 0)))))
def F_is_integer : List D → R D := runP S_is_integer 1
theorem run_is_integer {x0 : D} {P : D → Prop} {E : Ex → Prop} : LiftP (F_is_integer [x0]) P E = wp S_is_integer [.im x0] (fun o _ => RetP o P) E := lift_runP rfl
def S_is_between : M Out := (retS (andV (callF 1 F_is_integer (argsC (var 0) args0)) (bv (chain2 leD leD (var 1) (var 0) (var 2)))))
def F_is_between : List D → R D := runP S_is_between 3
theorem run_is_between {x0 x1 x2 : D} {P : D → Prop} {E : Ex → Prop} : LiftP (F_is_between [x0, x1, x2]) P E = wp S_is_between [.im x0, .im x1, .im x2] (fun o _ => RetP o P) E := lift_runP rfl
def S_divisor_of : M Out := (seqS (whileS (cmp neD (var 1) (cst (.int 0))) (parS 0 1 (var 1) (op2 (int2 modI) (var 0) (var 1))))
    (retS (var 0)))
def F_divisor_of : List D → R D := runP S_divisor_of 2
theorem run_divisor_of {x0 x1 : D} {P : D → Prop} {E : Ex → Prop} : LiftP (F_divisor_of [x0, x1]) P E = wp S_divisor_of [.im x0, .im x1] (fun o _ => RetP o P) E := lift_runP rfl
def S_multiple_of : M Out := (seqS (setS 1 (cst (.int 1)))
    (seqS (forS (itemsM (var 0)) (gN 2) (setS 1 (op2 (int2 fdivI) (op2 mulD (var 1) (var 2)) (callF 2 F_divisor_of (argsC (var 1) (argsC (var 2) args0))))))
    (retS (var 1))))
def F_multiple_of : List D → R D := runP S_multiple_of 3
theorem run_multiple_of {x0 : D} {P : D → Prop} {E : Ex → Prop} : LiftP (F_multiple_of [x0]) P E = wp S_multiple_of [.im x0, .no, .no] (fun o _ => RetP o P) E := lift_runP rfl
def S_is_step : M Out := (seqS (iteM (orM (notM (tru (op1 (isTy "tuple") (var 0)))) (orM (cmp neD (callB lenD (argsC (var 0) args0)) (cst (.int 3))) (notM (tru (callF 3 F_is_between (argsC (op2 ixD (var 0) (cst (.int 0))) (argsC (cst (.int 1)) (argsC (cst (.int 10000)) args0)))))))) (retS (cst (.bool false))) nxS)
    (retS (andV (callF 3 F_is_between (argsC (op2 ixD (var 0) (cst (.int 1))) (argsC (cst (.int 0)) (argsC (op2 (int2 subI) (op2 ixD (var 0) (cst (.int 0))) (cst (.int 1))) args0)))) (op1 (isTy "bool") (op2 ixD (var 0) (cst (.int 2)))))))
def F_is_step : List D → R D := runP S_is_step 1
theorem run_is_step {x0 : D} {P : D → Prop} {E : Ex → Prop} : LiftP (F_is_step [x0]) P E = wp S_is_step [.im x0] (fun o _ => RetP o P) E := lift_runP rfl
def S_a_rule : M Out := (seqS (iteM (orM (notM (tru (op1 (isTy "tuple") (var 0)))) (orM (cmp gtD (callB lenD (argsC (var 0) args0)) (cst (.int 6))) (notM (tru (callB allD (argsC (compM (itemsM (var 0)) (gN 1) (M.pure true) (callF 1 F_is_step (argsC (var 1) args0)) [1]) args0)))))) (retS (cst (.bool false))) nxS)
    (retS (bv (cmp leD (callF 1 F_multiple_of (argsC (compM (itemsM (var 0)) (gN 1) (M.pure true) (op2 ixD (var 1) (cst (.int 0))) [1]) args0)) (cst (.int 10000))))))
def F_a_rule : List D → R D := runP S_a_rule 2
theorem run_a_rule {x0 : D} {P : D → Prop} {E : Ex → Prop} : LiftP (F_a_rule [x0]) P E = wp S_a_rule [.im x0, .no] (fun o _ => RetP o P) E := lift_runP rfl
def S_need_rule : M Out := (iteM (notM (tru (callF 1 F_a_rule (argsC (var 0) args0)))) (raiseS "InvalidRule") nxS)
def F_need_rule : List D → R D := runP S_need_rule 1
theorem run_need_rule {x0 : D} {P : D → Prop} {E : Ex → Prop} : LiftP (F_need_rule [x0]) P E = wp S_need_rule [.im x0] (fun o _ => RetP o P) E := lift_runP rfl
def S_need_year : M Out := (iteM (notM (tru (callF 3 F_is_between (argsC (var 0) (argsC (cst (.int 1)) (argsC (cst (.int 1000000000000000)) args0)))))) (raiseS "InvalidYear") nxS)
def F_need_year : List D → R D := runP S_need_year 1
theorem run_need_year {x0 : D} {P : D → Prop} {E : Ex → Prop} : LiftP (F_need_year [x0]) P E = wp S_need_year [.im x0] (fun o _ => RetP o P) E := lift_runP rfl
def S_need_days : M Out := (iteM (notM (tru (callF 3 F_is_between (argsC (var 0) (argsC (cst (.int 0)) (argsC (cst (.int 1000)) args0)))))) (raiseS "InvalidDays") nxS)
def F_need_days : List D → R D := runP S_need_days 1
theorem run_need_days {x0 : D} {P : D → Prop} {E : Ex → Prop} : LiftP (F_need_days [x0]) P E = wp S_need_days [.im x0] (fun o _ => RetP o P) E := lift_runP rfl
def S_leap_in : M Out := (seqS (forS (itemsM (op1 revD (var 0))) (gT [(gN 2), (gN 3), (gN 4)]) (iteM (cmp eqD (op2 (int2 modI) (var 1) (var 2)) (var 3)) (retS (var 4)) nxS))
    (retS (cst (.bool false))))
def F_leap_in : List D → R D := runP S_leap_in 5
theorem run_leap_in {x0 x1 : D} {P : D → Prop} {E : Ex → Prop} : LiftP (F_leap_in [x0, x1]) P E = wp S_leap_in [.im x0, .im x1, .no, .no, .no] (fun o _ => RetP o P) E := lift_runP rfl
def S_whole_round : M Out := (retS (callF 1 F_multiple_of (argsC (compM (itemsM (var 0)) (gN 1) (M.pure true) (op2 ixD (var 1) (cst (.int 0))) [1]) args0)))
def F_whole_round : List D → R D := runP S_whole_round 2
theorem run_whole_round {x0 : D} {P : D → Prop} {E : Ex → Prop} : LiftP (F_whole_round [x0]) P E = wp S_whole_round [.im x0, .no] (fun o _ => RetP o P) E := lift_runP rfl
def S_leaps_of : M Out := (retS (compM (rangeM range2D (argsC (cst (.int 1)) (argsC (op2 addD (var 1) (cst (.int 1))) args0))) (gN 2) (M.pure true) (callF 2 F_leap_in (argsC (var 0) (argsC (var 2) args0))) [2]))
def F_leaps_of : List D → R D := runP S_leaps_of 3
theorem run_leaps_of {x0 x1 : D} {P : D → Prop} {E : Ex → Prop} : LiftP (F_leaps_of [x0, x1]) P E = wp S_leaps_of [.im x0, .im x1, .no] (fun o _ => RetP o P) E := lift_runP rfl
def S_sums_of : M Out := (seqS (parNS 2 3 (argsC (cst (.int 0)) args0) (cst (.int 0)))
    (seqS (forS (itemsM (callF 2 F_leaps_of (argsC (var 0) (argsC (var 1) args0)))) (gN 4) (seqS (setS 3 (op2 addD (var 3) (callB intD (argsC (var 4) args0))))
    (appS 2 (var 3))))
    (frz 2 (retS (var 2)))))
def F_sums_of : List D → R D := runP S_sums_of 5
theorem run_sums_of {x0 x1 : D} {P : D → Prop} {E : Ex → Prop} : LiftP (F_sums_of [x0, x1]) P E = wp S_sums_of [.im x0, .im x1, .no, .no, .no] (fun o _ => RetP o P) E := lift_runP rfl
def S_count_to : M Out := (seqS (setS 2 (op2 (int2 subI) (callB lenD (argsC (var 0) args0)) (cst (.int 1))))
    (retS (op2 addD (op2 mulD (op2 (int2 fdivI) (var 1) (var 2)) (op2 ixD (var 0) (op1 negD (cst (.int 1))))) (op2 ixD (var 0) (op2 (int2 modI) (var 1) (var 2))))))
def F_count_to : List D → R D := runP S_count_to 3
theorem run_count_to {x0 x1 : D} {P : D → Prop} {E : Ex → Prop} : LiftP (F_count_to [x0, x1]) P E = wp S_count_to [.im x0, .im x1, .no] (fun o _ => RetP o P) E := lift_runP rfl
def S_round_sums : M Out := (retS (callF 2 F_sums_of (argsC (var 0) (argsC (callF 1 F_whole_round (argsC (var 0) args0)) args0))))
def F_round_sums : List D → R D := runP S_round_sums 1
theorem run_round_sums {x0 : D} {P : D → Prop} {E : Ex → Prop} : LiftP (F_round_sums [x0]) P E = wp S_round_sums [.im x0] (fun o _ => RetP o P) E := lift_runP rfl
def S_leaps_to : M Out := (seqS (exprS (callF 1 F_need_rule (argsC (var 0) args0)))
    (seqS (exprS (callF 1 F_need_year (argsC (var 1) args0)))
    (retS (callF 2 F_count_to (argsC (callF 1 F_round_sums (argsC (var 0) args0)) (argsC (var 1) args0))))))
def F_leaps_to : List D → R D := runP S_leaps_to 2
theorem run_leaps_to {x0 x1 : D} {P : D → Prop} {E : Ex → Prop} : LiftP (F_leaps_to [x0, x1]) P E = wp S_leaps_to [.im x0, .im x1] (fun o _ => RetP o P) E := lift_runP rfl
def S_bounds_of : M Out := (seqS (iteM (cmp ltD (var 1) (cst (.int 0))) (parS 0 1 (op2 (int2 subI) (cst (.int 0)) (var 0)) (op2 (int2 subI) (cst (.int 0)) (var 1))) nxS)
    (seqS (iteM (cmp eqD (var 1) (cst (.int 0))) (retS (iteM (cmp gtD (callB absD (argsC (var 0) args0)) (var 2)) (tupM (argsC (cst .none) (argsC (cst (.int 0)) args0))) (tupM (argsC (op1 negD (cst (.int 1))) (argsC (cst .none) args0))))) nxS)
    (retS (tupM (argsC (op2 (int2 subI) (op2 (int2 fdivI) (op2 (int2 subI) (op2 addD (op2 (int2 subI) (op2 (int2 subI) (cst (.int 0)) (var 2)) (var 0)) (var 1)) (cst (.int 1))) (var 1)) (cst (.int 1))) (argsC (op2 addD (op2 (int2 fdivI) (op2 (int2 subI) (var 2) (var 0)) (var 1)) (cst (.int 1))) args0))))))
def F_bounds_of : List D → R D := runP S_bounds_of 3
theorem run_bounds_of {x0 x1 x2 : D} {P : D → Prop} {E : Ex → Prop} : LiftP (F_bounds_of [x0, x1, x2]) P E = wp S_bounds_of [.im x0, .im x1, .im x2] (fun o _ => RetP o P) E := lift_runP rfl
def S_first_round : M Out := (seqS (asgS (var 0) (gTA [(gN 2), (gN 3)]))
    (seqS (iteM (orM (cmp isD (var 2) (cst .none)) (cmp leD (var 1) (var 2))) (retS (var 1)) nxS)
    (retS (iteM (cmp isD (var 3) (cst .none)) (cst .none) (callB maxD (argsC (var 1) (argsC (var 3) args0)))))))
def F_first_round : List D → R D := runP S_first_round 4
theorem run_first_round {x0 x1 : D} {P : D → Prop} {E : Ex → Prop} : LiftP (F_first_round [x0, x1]) P E = wp S_first_round [.im x0, .im x1, .no, .no] (fun o _ => RetP o P) E := lift_runP rfl
def S_next_beyond : M Out := (seqS (parNS 4 5 args0 (callB lenD (argsC (var 0) args0)))
    (seqS (forS (rangeM enumAD (argsC (var 0) args0)) (gT [(gN 6), (gN 7)]) (seqS (setS 8 (callB maxD (argsC (cst (.int 0)) (argsC (op2 (int2 fdivI) (op2 (int2 subI) (op2 addD (op2 (int2 subI) (op2 (int2 subI) (var 3) (var 6)) (cst (.int 1))) (var 5)) (cst (.int 1))) (var 5)) args0))))
    (seqS (setS 9 (callF 2 F_first_round (argsC (callF 3 F_bounds_of (argsC (var 7) (argsC (var 1) (argsC (var 2) args0)))) (argsC (var 8) args0))))
    (iteM (cmp isnD (var 9) (cst .none)) (appS 4 (op2 addD (op2 addD (op2 mulD (var 9) (var 5)) (var 6)) (cst (.int 1)))) nxS))))
    (frz 4 (retS (iteM (cmp neD (var 4) (lstM args0)) (callB minD (argsC (var 4) args0)) (cst .none))))))
def F_next_beyond : List D → R D := runP S_next_beyond 10
theorem run_next_beyond {x0 x1 x2 x3 : D} {P : D → Prop} {E : Ex → Prop} : LiftP (F_next_beyond [x0, x1, x2, x3]) P E = wp S_next_beyond [.im x0, .im x1, .im x2, .im x3, .no, .no, .no, .no, .no, .no] (fun o _ => RetP o P) E := lift_runP rfl
def S_apart_row : M Out := (seqS (setS 2 (callF 1 F_multiple_of (argsC (compM (itemsM (op2 addD (var 0) (var 1))) (gN 6) (M.pure true) (op2 ixD (var 6) (cst (.int 0))) [6]) args0)))
    (seqS (iteM (cmp gtD (var 2) (cst (.int 10000))) stuckS nxS)
    (seqS (parS 3 4 (callF 2 F_sums_of (argsC (var 0) (argsC (var 2) args0))) (callF 2 F_sums_of (argsC (var 1) (argsC (var 2) args0))))
    (seqS (setS 5 (compM (rangeM zipD (argsC (var 3) (argsC (var 4) args0))) (gT [(gN 7), (gN 8)]) (M.pure true) (op2 (int2 subI) (var 7) (var 8)) [7, 8]))
    (retS (tupM (argsC (slM (var 5) noPart (somePart (op1 negD (cst (.int 1))))) (argsC (op2 ixD (var 5) (op1 negD (cst (.int 1)))) args0))))))))
def F_apart_row : List D → R D := runP S_apart_row 9
theorem run_apart_row {x0 x1 : D} {P : D → Prop} {E : Ex → Prop} : LiftP (F_apart_row [x0, x1]) P E = wp S_apart_row [.im x0, .im x1, .no, .no, .no, .no, .no, .no, .no] (fun o _ => RetP o P) E := lift_runP rfl
def S_apart : M Out := (seqS (exprS (callF 1 F_need_rule (argsC (var 0) args0)))
    (seqS (exprS (callF 1 F_need_rule (argsC (var 1) args0)))
    (seqS (exprS (callF 1 F_need_year (argsC (var 2) args0)))
    (retS (op2 (int2 subI) (callF 2 F_count_to (argsC (callF 1 F_round_sums (argsC (var 0) args0)) (argsC (op2 (int2 subI) (var 2) (cst (.int 1))) args0))) (callF 2 F_count_to (argsC (callF 1 F_round_sums (argsC (var 1) args0)) (argsC (op2 (int2 subI) (var 2) (cst (.int 1))) args0))))))))
def F_apart : List D → R D := runP S_apart 3
theorem run_apart {x0 x1 x2 : D} {P : D → Prop} {E : Ex → Prop} : LiftP (F_apart [x0, x1, x2]) P E = wp S_apart [.im x0, .im x1, .im x2] (fun o _ => RetP o P) E := lift_runP rfl
def S_first_apart : M Out := (seqS (exprS (callF 1 F_need_rule (argsC (var 0) args0)))
    (seqS (exprS (callF 1 F_need_rule (argsC (var 1) args0)))
    (seqS (exprS (callF 1 F_need_days (argsC (var 2) args0)))
    (seqS (asgS (callF 2 F_apart_row (argsC (var 0) (argsC (var 1) args0))) (gTA [(gN 3), (gN 4)]))
    (retS (callF 4 F_next_beyond (argsC (var 3) (argsC (var 4) (argsC (var 2) (argsC (cst (.int 1)) args0))))))))))
def F_first_apart : List D → R D := runP S_first_apart 5
theorem run_first_apart {x0 x1 x2 : D} {P : D → Prop} {E : Ex → Prop} : LiftP (F_first_apart [x0, x1, x2]) P E = wp S_first_apart [.im x0, .im x1, .im x2, .no, .no] (fun o _ => RetP o P) E := lift_runP rfl
def S_farthest_apart : M Out := (seqS (exprS (callF 1 F_need_rule (argsC (var 0) args0)))
    (seqS (exprS (callF 1 F_need_rule (argsC (var 1) args0)))
    (seqS (asgS (callF 2 F_apart_row (argsC (var 0) (argsC (var 1) args0))) (gTA [(gN 2), (gN 3)]))
    (seqS (iteM (cmp neD (var 3) (cst (.int 0))) (retS (cst .none)) nxS)
    (retS (tupM (argsC (tupM (argsC (callB maxD (argsC (var 2) args0)) (argsC (op2 addD (methB "list" indexD (var 2) (argsC (callB maxD (argsC (var 2) args0)) args0)) (cst (.int 1))) args0))) (argsC (tupM (argsC (callB minD (argsC (var 2) args0)) (argsC (op2 addD (methB "list" indexD (var 2) (argsC (callB minD (argsC (var 2) args0)) args0)) (cst (.int 1))) args0))) args0))))))))
def F_farthest_apart : List D → R D := runP S_farthest_apart 4
theorem run_farthest_apart {x0 x1 : D} {P : D → Prop} {E : Ex → Prop} : LiftP (F_farthest_apart [x0, x1]) P E = wp S_farthest_apart [.im x0, .im x1, .no, .no] (fun o _ => RetP o P) E := lift_runP rfl
def S_meeting_round : M Out := (seqS (iteM (cmp eqD (var 1) (cst (.int 0))) (retS (iteM (cmp eqD (var 0) (cst (.int 0))) (var 2) (cst .none))) nxS)
    (seqS (setS 3 (op2 (int2 fdivI) (op2 (int2 subI) (cst (.int 0)) (var 0)) (var 1)))
    (retS (iteM (andM (cmp eqD (op2 addD (op2 mulD (var 3) (var 1)) (var 0)) (cst (.int 0))) (cmp geD (var 3) (var 2))) (var 3) (cst .none)))))
def F_meeting_round : List D → R D := runP S_meeting_round 4
theorem run_meeting_round {x0 x1 x2 : D} {P : D → Prop} {E : Ex → Prop} : LiftP (F_meeting_round [x0, x1, x2]) P E = wp S_meeting_round [.im x0, .im x1, .im x2, .no] (fun o _ => RetP o P) E := lift_runP rfl
def S_next_together : M Out := (seqS (exprS (callF 1 F_need_rule (argsC (var 0) args0)))
    (seqS (exprS (callF 1 F_need_rule (argsC (var 1) args0)))
    (seqS (exprS (callF 1 F_need_year (argsC (var 2) args0)))
    (seqS (asgS (callF 2 F_apart_row (argsC (var 0) (argsC (var 1) args0))) (gTA [(gN 3), (gN 4)]))
    (seqS (parNS 5 6 args0 (callB lenD (argsC (var 3) args0)))
    (seqS (forS (rangeM enumAD (argsC (var 3) args0)) (gT [(gN 7), (gN 8)]) (seqS (setS 9 (callF 3 F_meeting_round (argsC (var 8) (argsC (var 4) (argsC (callB maxD (argsC (cst (.int 0)) (argsC (op2 (int2 fdivI) (op2 (int2 subI) (op2 addD (op2 (int2 subI) (op2 (int2 subI) (var 2) (var 7)) (cst (.int 1))) (var 6)) (cst (.int 1))) (var 6)) args0))) args0)))))
    (iteM (cmp isnD (var 9) (cst .none)) (appS 5 (op2 addD (op2 addD (op2 mulD (var 9) (var 6)) (var 7)) (cst (.int 1)))) nxS)))
    (frz 5 (retS (iteM (cmp neD (var 5) (lstM args0)) (callB minD (argsC (var 5) args0)) (cst .none))))))))))
def F_next_together : List D → R D := runP S_next_together 10
theorem run_next_together {x0 x1 x2 : D} {P : D → Prop} {E : Ex → Prop} : LiftP (F_next_together [x0, x1, x2]) P E = wp S_next_together [.im x0, .im x1, .im x2, .no, .no, .no, .no, .no, .no, .no] (fun o _ => RetP o P) E := lift_runP rfl
def S_count_together : M Out := (seqS (exprS (callF 1 F_need_rule (argsC (var 0) args0)))
    (seqS (exprS (callF 1 F_need_rule (argsC (var 1) args0)))
    (seqS (exprS (callF 1 F_need_year (argsC (var 2) args0)))
    (seqS (asgS (callF 2 F_apart_row (argsC (var 0) (argsC (var 1) args0))) (gTA [(gN 3), (gN 4)]))
    (seqS (parS 5 6 (cst (.int 0)) (callB lenD (argsC (var 3) args0)))
    (seqS (forS (rangeM enumAD (argsC (slM (var 3) noPart (somePart (var 2))) args0)) (gT [(gN 7), (gN 8)]) (seqS (setS 9 (op2 (int2 fdivI) (op2 (int2 subI) (op2 (int2 subI) (var 2) (var 7)) (cst (.int 1))) (var 6)))
    (iteM (cmp eqD (var 4) (cst (.int 0))) (augS iaddD 5 (iteM (cmp eqD (var 8) (cst (.int 0))) (op2 addD (var 9) (cst (.int 1))) (cst (.int 0)))) (seqS (setS 10 (callF 3 F_meeting_round (argsC (var 8) (argsC (var 4) (argsC (cst (.int 0)) args0)))))
    (augS iaddD 5 (callB intD (argsC (andV (bv (cmp isnD (var 10) (cst .none))) (bv (cmp leD (var 10) (var 9)))) args0)))))))
    (retS (var 5))))))))
def F_count_together : List D → R D := runP S_count_together 11
theorem run_count_together {x0 x1 x2 : D} {P : D → Prop} {E : Ex → Prop} : LiftP (F_count_together [x0, x1, x2]) P E = wp S_count_together [.im x0, .im x1, .im x2, .no, .no, .no, .no, .no, .no, .no, .no] (fun o _ => RetP o P) E := lift_runP rfl
def S__law_source : M Out := (seqS (setS 2 (op2 addD (op2 mulD (cst (.int 7919)) (var 1)) (cst (.int 101))))
    (seqS (iteM (cmp ltD (var 1) (callB lenD (argsC (var 0) args0))) (setS 2 (op2 ixD (var 0) (var 1))) nxS)
    (seqS (setS 3 (tupM (argsC (cst (.int 2147483647)) (argsC (cst (.int 2147483629)) (argsC (cst (.int 2147483587)) (argsC (cst (.int 2147483579)) (argsC (cst (.int 2147483563)) (argsC (cst (.int 2147483549)) (argsC (cst (.int 2147483543)) (argsC (cst (.int 2147483497)) args0))))))))))
    (seqS (setS 4 (op2 ixD (var 3) (op2 (int2 modI) (callB intD (argsC (var 1) args0)) (cst (.int 8)))))
    (seqS (setS 5 (op2 (int2 modI) (callB intD (argsC (op2 addD (op2 mulD (op2 (int2 modI) (callB intD (argsC (var 2) args0)) (var 4)) (cst (.int 48271))) (op2 mulD (cst (.int 104729)) (op2 addD (var 1) (cst (.int 1))))) args0)) (var 4)))
    (seqS (iteM (cmp geD (var 2) (op2 (int2 powI) (cst (.int 10)) (cst (.int 18)))) (rtoS (argsC (callB intD (argsC (var 2) args0)) (argsC (var 5) (argsC (var 4) args0)))) nxS)
    (rtoS (argsC (cst (.int 0)) (argsC (var 5) (argsC (var 4) args0))))))))))
def F__law_source : List D → R (List D) := runO S__law_source 6
theorem run__law_source {x0 x1 : D} {P : List D → Prop} {E : Ex → Prop} : LiftP (F__law_source [x0, x1]) P E = wp S__law_source [.im x0, .im x1, .no, .no, .no, .no] (fun o _ => RetO o P) E := lift_runO rfl
def S__law_pick : M Out := (seqS (iteM (cmp gtD (ownIx 0 0) (cst (.int 0))) (seqS (setS 2 (op2 (int2 modI) (callB intD (argsC (ownIx 0 0) args0)) (var 1)))
    (seqS (putIx 0 0 (op2 (int2 fdivI) (ownIx 0 0) (var 1)))
    (retS (var 2)))) nxS)
    (seqS (putIx 0 1 (op2 (int2 modI) (callB intD (argsC (op2 addD (op2 mulD (ownIx 0 1) (cst (.int 48271))) (cst (.int 11))) args0)) (ownIx 0 2)))
    (retS (op2 (int2 modI) (callB intD (argsC (op2 (int2 fdivI) (op2 (int2 modI) (callB intD (argsC (op2 mulD (ownIx 0 1) (ownIx 0 1)) args0)) (cst (.int 2147483423))) (cst (.int 7))) args0)) (var 1)))))
def F__law_pick : List D → List D → R (D × List D) := runM S__law_pick 3
theorem run__law_pick {es : List D} {x0 : D} {P : D × List D → Prop} {E : Ex → Prop} : LiftP (F__law_pick es [x0]) P E = wp S__law_pick [.mu es, .im x0, .no] (fun o ρ => RetM o ρ P) E := lift_runM rfl
def S__law_chosen : M Out := (retS (op2 ixD (var 1) (callMF 0 1 F__law_pick (argsC (callB lenD (argsC (var 1) args0)) args0))))
def F__law_chosen : List D → List D → R (D × List D) := runM S__law_chosen 2
theorem run__law_chosen {es : List D} {x0 : D} {P : D × List D → Prop} {E : Ex → Prop} : LiftP (F__law_chosen es [x0]) P E = wp S__law_chosen [.mu es, .im x0] (fun o ρ => RetM o ρ P) E := lift_runM rfl
def S__law_common : M Out := (seqS (whileS (cmp neD (var 1) (cst (.int 0))) (parS 0 1 (var 1) (op2 (int2 modI) (callB intD (argsC (var 0) args0)) (var 1))))
    (retS (var 0)))
def F__law_common : List D → R D := runP S__law_common 2
theorem run__law_common {x0 x1 : D} {P : D → Prop} {E : Ex → Prop} : LiftP (F__law_common [x0, x1]) P E = wp S__law_common [.im x0, .im x1] (fun o _ => RetP o P) E := lift_runP rfl
def S__law_multiple : M Out := (seqS (setS 1 (cst (.int 1)))
    (seqS (forS (itemsM (var 0)) (gT [(gN 2), (gN 3), (gN 4)]) (setS 1 (op2 (int2 fdivI) (op2 mulD (var 1) (var 2)) (callF 2 F__law_common (argsC (var 1) (argsC (var 2) args0))))))
    (retS (var 1))))
def F__law_multiple : List D → R D := runP S__law_multiple 5
theorem run__law_multiple {x0 : D} {P : D → Prop} {E : Ex → Prop} : LiftP (F__law_multiple [x0]) P E = wp S__law_multiple [.im x0, .no, .no, .no, .no] (fun o _ => RetP o P) E := lift_runP rfl
def S__law_known : M Out := (seqS (setS 0 (tupM (argsC (tupM (argsC (cst (.int 4)) (argsC (cst (.int 0)) (argsC (cst (.bool true)) args0)))) (argsC (tupM (argsC (cst (.int 100)) (argsC (cst (.int 0)) (argsC (cst (.bool false)) args0)))) (argsC (tupM (argsC (cst (.int 400)) (argsC (cst (.int 0)) (argsC (cst (.bool true)) args0)))) args0)))))
    (seqS (setS 1 (tupM (argsC (tupM (argsC (cst (.int 4)) (argsC (cst (.int 0)) (argsC (cst (.bool true)) args0)))) (argsC (tupM (argsC (cst (.int 100)) (argsC (cst (.int 0)) (argsC (cst (.bool false)) args0)))) (argsC (tupM (argsC (cst (.int 900)) (argsC (cst (.int 200)) (argsC (cst (.bool true)) args0)))) (argsC (tupM (argsC (cst (.int 900)) (argsC (cst (.int 600)) (argsC (cst (.bool true)) args0)))) args0))))))
    (retS (lstM (argsC (tupM (argsC (tupM (argsC (cst (.int 4)) (argsC (cst (.int 0)) (argsC (cst (.bool true)) args0)))) args0)) (argsC (var 0) (argsC (var 1) (argsC (tupM args0) (argsC (tupM (argsC (tupM (argsC (cst (.int 4)) (argsC (cst (.int 0)) (argsC (cst (.bool true)) args0)))) (argsC (tupM (argsC (cst (.int 8)) (argsC (cst (.int 4)) (argsC (cst (.bool true)) args0)))) (argsC (tupM (argsC (cst (.int 8)) (argsC (cst (.int 0)) (argsC (cst (.bool true)) args0)))) args0)))) (argsC (tupM (argsC (tupM (argsC (cst (.int 1)) (argsC (cst (.int 0)) (argsC (cst (.bool true)) args0)))) args0)) args0))))))))))
def F__law_known : List D → R D := runP S__law_known 2
theorem run__law_known {P : D → Prop} {E : Ex → Prop} : LiftP (F__law_known []) P E = wp S__law_known [.no, .no] (fun o _ => RetP o P) E := lift_runP rfl
def S__law_rule : M Out := (seqS (setS 2 (callMF 0 1 F__law_pick (argsC (cst (.int 6)) args0)))
    (seqS (iteM (cmp eqD (var 2) (cst (.int 0))) (seqS (setS 3 (callMF 0 1 F__law_chosen (argsC (callF 0 F__law_known args0) args0)))
    (retS (iteM (cmp leD (callF 1 F__law_multiple (argsC (var 3) args0)) (var 1)) (var 3) (slM (var 3) noPart (somePart (cst (.int 1))))))) nxS)
    (seqS (parS 3 4 (tupM args0) (callMF 0 1 F__law_chosen (argsC (lstM (argsC (cst (.int 12)) (argsC (cst (.int 20)) (argsC (cst (.int 36)) (argsC (cst (.int 60)) (argsC (cst (.int 7)) (argsC (cst (.int 30)) (argsC (cst (.int 33)) (argsC (cst (.int 100)) (argsC (cst (.int 128)) (argsC (cst (.int 400)) args0))))))))))) args0)))
    (seqS (forS (rangeM range1D (argsC (callMF 0 1 F__law_pick (argsC (cst (.int 6)) args0)) args0)) (gN 5) (seqS (setS 6 (callMF 0 1 F__law_chosen (argsC (lstM (argsC (op2 addD (cst (.int 1)) (callMF 0 1 F__law_pick (argsC (cst (.int 12)) args0))) (argsC (var 4) (argsC (op2 (int2 fdivI) (var 4) (cst (.int 2))) (argsC (op2 (int2 fdivI) (var 4) (cst (.int 3))) (argsC (op2 mulD (cst (.int 2)) (var 4)) (argsC (cst (.int 4)) args0))))))) args0)))
    (seqS (setS 6 (callB maxD (argsC (cst (.int 1)) (argsC (var 6) args0))))
    (seqS (setS 7 (tupM (argsC (var 6) (argsC (callMF 0 1 F__law_pick (argsC (var 6) args0)) (argsC (bv (cmp gtD (callMF 0 1 F__law_pick (argsC (cst (.int 3)) args0)) (cst (.int 0)))) args0)))))
    (iteM (cmp leD (callF 1 F__law_multiple (argsC (op2 addD (var 3) (tupM (argsC (var 7) args0))) args0)) (var 1)) (setS 3 (op2 addD (var 3) (tupM (argsC (var 7) args0)))) nxS)))))
    (retS (var 3))))))
def F__law_rule : List D → List D → R (D × List D) := runM S__law_rule 8
theorem run__law_rule {es : List D} {x0 : D} {P : D × List D → Prop} {E : Ex → Prop} : LiftP (F__law_rule es [x0]) P E = wp S__law_rule [.mu es, .im x0, .no, .no, .no, .no, .no, .no] (fun o ρ => RetM o ρ P) E := lift_runM rfl
def S__law_near : M Out := (seqS (setS 2 (callMF 0 1 F__law_pick (argsC (cst (.int 4)) args0)))
    (seqS (iteM (orM (cmp eqD (var 1) (tupM args0)) (cmp eqD (var 2) (cst (.int 0)))) (seqS (setS 3 (callMF 0 1 F__law_chosen (argsC (lstM (argsC (cst (.int 2)) (argsC (cst (.int 3)) (argsC (cst (.int 4)) (argsC (cst (.int 6)) (argsC (cst (.int 12)) args0)))))) args0)))
    (seqS (setS 4 (op2 addD (slM (var 1) noPart (somePart (cst (.int 5)))) (tupM (argsC (tupM (argsC (var 3) (argsC (callMF 0 1 F__law_pick (argsC (var 3) args0)) (argsC (bv (cmp eqD (callMF 0 1 F__law_pick (argsC (cst (.int 2)) args0)) (cst (.int 0)))) args0)))) args0))))
    (retS (iteM (cmp leD (callF 1 F__law_multiple (argsC (var 4) args0)) (cst (.int 2000))) (var 4) (var 1))))) nxS)
    (seqS (setS 5 (callMF 0 1 F__law_pick (argsC (callB lenD (argsC (var 1) args0)) args0)))
    (seqS (iteM (cmp eqD (var 2) (cst (.int 1))) (retS (op2 addD (slM (var 1) noPart (somePart (var 5))) (slM (var 1) (somePart (op2 addD (var 5) (cst (.int 1)))) noPart))) nxS)
    (seqS (asgS (op2 ixD (var 1) (var 5)) (gTA [(gN 3), (gN 6), (gN 7)]))
    (seqS (setS 8 (iteM (cmp eqD (var 2) (cst (.int 2))) (tupM (argsC (var 3) (argsC (var 6) (argsC (notV (var 7)) args0)))) (tupM (argsC (var 3) (argsC (callMF 0 1 F__law_pick (argsC (var 3) args0)) (argsC (var 7) args0))))))
    (retS (op2 addD (op2 addD (slM (var 1) noPart (somePart (var 5))) (tupM (argsC (var 8) args0))) (slM (var 1) (somePart (op2 addD (var 5) (cst (.int 1)))) noPart)))))))))
def F__law_near : List D → List D → R (D × List D) := runM S__law_near 9
theorem run__law_near {es : List D} {x0 : D} {P : D × List D → Prop} {E : Ex → Prop} : LiftP (F__law_near es [x0]) P E = wp S__law_near [.mu es, .im x0, .no, .no, .no, .no, .no, .no, .no] (fun o ρ => RetM o ρ P) E := lift_runM rfl
def S__law_year : M Out := (retS (op2 addD (cst (.int 1)) (callMF 0 1 F__law_pick (argsC (callMF 0 1 F__law_chosen (argsC (lstM (argsC (cst (.int 30)) (argsC (cst (.int 1000)) (argsC (cst (.int 5000)) (argsC (op2 (int2 powI) (cst (.int 10)) (cst (.int 6))) (argsC (op2 (int2 powI) (cst (.int 10)) (cst (.int 15))) args0)))))) args0)) args0))))
def F__law_year : List D → List D → R (D × List D) := runM S__law_year 1
theorem run__law_year {es : List D} {P : D × List D → Prop} {E : Ex → Prop} : LiftP (F__law_year es []) P E = wp S__law_year [.mu es] (fun o ρ => RetM o ρ P) E := lift_runM rfl
def S__law_pair : M Out := (seqS (setS 2 (callMF 0 1 F__law_rule (argsC (var 1) args0)))
    (seqS (setS 3 (callMF 0 1 F__law_near (argsC (var 2) args0)))
    (seqS (forS (rangeM range1D (argsC (callMF 0 1 F__law_pick (argsC (cst (.int 3)) args0)) args0)) (gN 4) (setS 3 (callMF 0 1 F__law_near (argsC (var 3) args0))))
    (seqS (setS 5 (callMF 0 1 F__law_rule (argsC (var 1) args0)))
    (seqS (setS 3 (iteM (cmp eqD (callMF 0 1 F__law_pick (argsC (cst (.int 3)) args0)) (cst (.int 0))) (var 5) (var 3)))
    (retS (iteM (cmp leD (callF 1 F__law_multiple (argsC (op2 addD (var 2) (var 3)) args0)) (op2 mulD (cst (.int 2)) (var 1))) (tupM (argsC (var 2) (argsC (var 3) args0))) (tupM (argsC (var 2) (argsC (op1 revD (var 2)) args0))))))))))
def F__law_pair : List D → List D → R (D × List D) := runM S__law_pair 6
theorem run__law_pair {es : List D} {x0 : D} {P : D × List D → Prop} {E : Ex → Prop} : LiftP (F__law_pair es [x0]) P E = wp S__law_pair [.mu es, .im x0, .no, .no, .no, .no] (fun o ρ => RetM o ρ P) E := lift_runM rfl
def S_law : M Out := (seqS (forS (rangeM range1D (argsC (cst (.int 6)) args0)) (gN 1) (seqS (newCallS 2 2 F__law_source (argsC (var 0) (argsC (var 1) args0)))
    (seqS (asgS (callMF 2 1 F__law_pair (argsC (cst (.int 100)) args0)) (gTA [(gN 3), (gN 4)]))
    (seqS (setS 5 (callMF 2 1 F__law_near (argsC (var 4) args0)))
    (seqS (setS 5 (iteM (cmp leD (callF 1 F__law_multiple (argsC (op2 addD (op2 addD (var 3) (var 4)) (var 5)) args0)) (cst (.int 400))) (var 5) (var 3)))
    (seqS (forS (rangeM range1D (argsC (cst (.int 5)) args0)) (gN 6) (seqS (setS 7 (op2 addD (cst (.int 1)) (op2 (int2 fdivI) (callMF 2 0 F__law_year args0) (cst (.int 2)))))
    (seqS (parS 8 9 (callF 3 F_apart (argsC (var 3) (argsC (var 4) (argsC (var 7) args0)))) (callF 3 F_apart (argsC (var 4) (argsC (var 5) (argsC (var 7) args0)))))
    (seqS (iteM (orM (cmp neD (callF 3 F_apart (argsC (var 3) (argsC (var 5) (argsC (var 7) args0)))) (op2 addD (var 8) (var 9))) (cmp neD (callF 3 F_apart (argsC (var 4) (argsC (var 3) (argsC (var 7) args0)))) (op2 (int2 subI) (cst (.int 0)) (var 8)))) (retS (cst (.bool false))) nxS)
    (iteM (cmp neD (callF 3 F_apart (argsC (var 3) (argsC (var 4) (argsC (op2 addD (var 7) (cst (.int 1))) args0)))) (op2 (int2 subI) (callF 2 F_leaps_to (argsC (var 3) (argsC (var 7) args0))) (callF 2 F_leaps_to (argsC (var 4) (argsC (var 7) args0))))) (retS (cst (.bool false))) nxS)))))
    (seqS (iteM (orM (cmp neD (callF 3 F_apart (argsC (var 3) (argsC (var 4) (argsC (cst (.int 1)) args0)))) (cst (.int 0))) (cmp isnD (callF 3 F_first_apart (argsC (var 3) (argsC (var 3) (argsC (cst (.int 0)) args0)))) (cst .none))) (retS (cst (.bool false))) nxS)
    (seqS (setS 10 (lstM (argsC (callF 2 F_farthest_apart (argsC (var 3) (argsC (var 4) args0))) (argsC (callF 2 F_farthest_apart (argsC (var 4) (argsC (var 5) args0))) (argsC (callF 2 F_farthest_apart (argsC (var 3) (argsC (var 5) args0))) args0)))))
    (seqS (iteM (andM (cmp isnD (op2 ixD (var 10) (cst (.int 0))) (cst .none)) (cmp isnD (op2 ixD (var 10) (cst (.int 1))) (cst .none))) (iteM (orM (cmp isD (op2 ixD (var 10) (cst (.int 2))) (cst .none)) (cmp gtD (op2 ixD (op2 ixD (op2 ixD (var 10) (cst (.int 2))) (cst (.int 0))) (cst (.int 0))) (op2 addD (op2 ixD (op2 ixD (op2 ixD (var 10) (cst (.int 0))) (cst (.int 0))) (cst (.int 0))) (op2 ixD (op2 ixD (op2 ixD (var 10) (cst (.int 1))) (cst (.int 0))) (cst (.int 0)))))) (retS (cst (.bool false))) nxS) nxS)
    (seqS (iteM (cmp isnD (op2 ixD (var 10) (cst (.int 0))) (cst .none)) (seqS (setS 11 (callF 2 F_farthest_apart (argsC (var 4) (argsC (var 3) args0))))
    (seqS (iteM (cmp neD (tupM (argsC (op2 ixD (op2 ixD (var 11) (cst (.int 0))) (cst (.int 0))) (argsC (op2 ixD (op2 ixD (var 11) (cst (.int 1))) (cst (.int 0))) args0))) (tupM (argsC (op2 (int2 subI) (cst (.int 0)) (op2 ixD (op2 ixD (op2 ixD (var 10) (cst (.int 0))) (cst (.int 1))) (cst (.int 0)))) (argsC (op2 (int2 subI) (cst (.int 0)) (op2 ixD (op2 ixD (op2 ixD (var 10) (cst (.int 0))) (cst (.int 0))) (cst (.int 0)))) args0)))) (retS (cst (.bool false))) nxS)
    (seqS (setS 12 (callB maxD (argsC (op2 ixD (op2 ixD (op2 ixD (var 10) (cst (.int 0))) (cst (.int 0))) (cst (.int 0))) (argsC (op2 (int2 subI) (cst (.int 0)) (op2 ixD (op2 ixD (op2 ixD (var 10) (cst (.int 0))) (cst (.int 1))) (cst (.int 0)))) args0))))
    (iteM (orM (cmp isnD (callF 3 F_first_apart (argsC (var 3) (argsC (var 4) (argsC (var 12) args0)))) (cst .none)) (andM (cmp gtD (var 12) (cst (.int 0))) (cmp isD (callF 3 F_first_apart (argsC (var 3) (argsC (var 4) (argsC (op2 (int2 subI) (var 12) (cst (.int 1))) args0)))) (cst .none)))) (retS (cst (.bool false))) nxS)))) nxS)
    (seqS (setS 7 (op2 addD (cst (.int 1)) (callMF 2 1 F__law_pick (argsC (cst (.int 5000)) args0))))
    (seqS (setS 13 (callF 3 F_next_together (argsC (var 3) (argsC (var 4) (argsC (var 7) args0)))))
    (seqS (iteM (cmp isnD (var 13) (cst .none)) (seqS (setS 14 (iteM (cmp gtD (var 7) (cst (.int 1))) (callF 3 F_count_together (argsC (var 3) (argsC (var 4) (argsC (op2 (int2 subI) (var 7) (cst (.int 1))) args0)))) (cst (.int 0))))
    (iteM (orM (cmp neD (callF 3 F_apart (argsC (var 3) (argsC (var 4) (argsC (var 13) args0)))) (cst (.int 0))) (cmp neD (callF 3 F_count_together (argsC (var 3) (argsC (var 4) (argsC (var 13) args0)))) (op2 addD (var 14) (cst (.int 1))))) (retS (cst (.bool false))) nxS)) nxS)
    (iteM (cmp neD (callF 3 F_count_together (argsC (var 3) (argsC (var 3) (argsC (var 7) args0)))) (var 7)) (retS (cst (.bool false))) nxS))))))))))))))
    (retS (cst (.bool true))))
def F_law : List D → R D := runP S_law 15
theorem run_law {x0 : D} {P : D → Prop} {E : Ex → Prop} : LiftP (F_law [x0]) P E = wp S_law [.im x0, .no, .no, .no, .no, .no, .no, .no, .no, .no, .no, .no, .no, .no, .no] (fun o _ => RetP o P) E := lift_runP rfl
section
variable [LawTabs]
abbrev st_is_integer : Stmt := topS 10
abbrev N_is_integer : List Str := ["value"]
theorem sc_is_integer : FnScope N_is_integer ["value"] (defScope st_is_integer) := ⟨rfl, rfl, rfl, by decide +kernel, rfl, by decide +kernel, by decide +kernel⟩
theorem ok_is_integer {P : Program} {w : World} {K : PySem.W.Frag} {mg : Str → Option Value} {base h : Heap} (X0 : K.In h) (G0 : h.Ns mainGlobals mg) (c : He.SaysD fa fn K) : DefOk P w K mg base "is_integer" 1 ["value"] (spP K 1 F_is_integer) := by
  have T := facts_of X0 G0 c
  refine def_P (N := N_is_integer) (st := st_is_integer) (T.def_is_integer) sc_is_integer rfl (fun _ _ _ _ _ _ _ us hl => match us, hl with | [_], _ => rfl) (fun cdv A outer s H E hr => ?_)
  have hu := hu_room hr
  exact (qss_one (qs_ret (q_andV (q_isi rfl T.free_isinstance (q_var 0) rfl T.free_int (by decide +kernel)) (q_oneV (q_notV (q_isi rfl T.free_isinstance (q_var 0) rfl T.free_bool (by decide +kernel)))))))

abbrev st_is_between : Stmt := topS 11
abbrev N_is_between : List Str := ["value", "low", "high"]
theorem sc_is_between : FnScope N_is_between ["value", "low", "high"] (defScope st_is_between) := ⟨rfl, rfl, rfl, by decide +kernel, rfl, by decide +kernel, by decide +kernel⟩
theorem ok_is_between {P : Program} {w : World} {K : PySem.W.Frag} {mg : Str → Option Value} {base h : Heap} (X0 : K.In h) (G0 : h.Ns mainGlobals mg) (c : He.SaysD fa fn K) : DefOk P w K mg base "is_between" 2 ["value", "low", "high"] (spP K 3 F_is_between) := by
  have T := facts_of X0 G0 c
  refine def_P (N := N_is_between) (st := st_is_between) (T.def_is_between) sc_is_between rfl (fun _ _ _ _ _ _ _ us hl => match us, hl with | [_, _, _], _ => rfl) (fun cdv A outer s H E hr => ?_)
  have hu := hu_room hr
  exact (qss_one (qs_ret (q_andV (q_def (ok_is_integer X0 G0 c) (hr.mono (by decide)) passes_body (qa_cons (q_var 0) qa_nil)) (q_oneV (q_chainV (fun _ => op_leD) (fun _ => op_leD) (q_var 1) (q_var 0) (q_var 2))))))

abbrev st_divisor_of : Stmt := topS 12
abbrev N_divisor_of : List Str := ["one", "other"]
theorem sc_divisor_of : FnScope N_divisor_of ["one", "other"] (defScope st_divisor_of) := ⟨rfl, rfl, rfl, by decide +kernel, rfl, by decide +kernel, by decide +kernel⟩
theorem ok_divisor_of {P : Program} {w : World} {K : PySem.W.Frag} {mg : Str → Option Value} {base h : Heap} (X0 : K.In h) (G0 : h.Ns mainGlobals mg) (c : He.SaysD fa fn K) : DefOk P w K mg base "divisor_of" 1 ["one", "other"] (spP K 2 F_divisor_of) := by
  have T := facts_of X0 G0 c
  refine def_P (N := N_divisor_of) (st := st_divisor_of) (T.def_divisor_of) sc_divisor_of rfl (fun _ _ _ _ _ _ _ us hl => match us, hl with | [_, _], _ => rfl) (fun cdv A outer s H E hr => ?_)
  have hu := hu_room hr
  exact (qss_cons (qs_while own_body (q_cmp (fun _ => op_neQ hu) (q_var 1) q_int (nomark _)) (qss_one (qs_par rfl sc_divisor_of.nd (i := 0) (j := 1) rfl rfl (by decide) rfl rfl (q_var 1) (q_op2 (fun _ => op_modD) (q_var 0) (q_var 1)))))
    (qss_one (qs_ret (q_var 0))))

abbrev st_multiple_of : Stmt := topS 13
abbrev N_multiple_of : List Str := ["numbers", "found", "number"]
theorem sc_multiple_of : FnScope N_multiple_of ["numbers"] (defScope st_multiple_of) := ⟨rfl, rfl, rfl, by decide +kernel, rfl, by decide +kernel, by decide +kernel⟩
theorem ok_multiple_of {P : Program} {w : World} {K : PySem.W.Frag} {mg : Str → Option Value} {base h : Heap} (X0 : K.In h) (G0 : h.Ns mainGlobals mg) (c : He.SaysD fa fn K) : DefOk P w K mg base "multiple_of" 2 ["numbers"] (spP K 1 F_multiple_of) := by
  have T := facts_of X0 G0 c
  refine def_P (N := N_multiple_of) (st := st_multiple_of) (T.def_multiple_of) sc_multiple_of rfl (fun _ _ _ _ _ _ _ us hl => match us, hl with | [_], _ => rfl) (fun cdv A outer s H E hr => ?_)
  have hu := hu_room hr
  exact (qss_cons (qs_set sc_multiple_of.nd (i := 1) rfl (.inl rfl) q_int)
    (qss_cons (qs_for own_body rfl (qi_seq (q_var 0)) (qg_name (i := 2) sc_multiple_of.nd rfl (.inl rfl)) (qss_one (qs_set sc_multiple_of.nd (i := 1) rfl (.inl rfl) (q_op2 (fun _ => op_fdivD) (q_op2 (fun _ => op_mulD) (q_var 1) (q_var 2)) (q_def (ok_divisor_of X0 G0 c) (hr.mono (by decide)) passes_body (qa_cons (q_var 1) (qa_cons (q_var 2) qa_nil)))))))
    (qss_one (qs_ret (q_var 1)))))

abbrev st_is_step : Stmt := topS 14
abbrev N_is_step : List Str := ["value"]
theorem sc_is_step : FnScope N_is_step ["value"] (defScope st_is_step) := ⟨rfl, rfl, rfl, by decide +kernel, rfl, by decide +kernel, by decide +kernel⟩
theorem ok_is_step {P : Program} {w : World} {K : PySem.W.Frag} {mg : Str → Option Value} {base h : Heap} (X0 : K.In h) (G0 : h.Ns mainGlobals mg) (c : He.SaysD fa fn K) : DefOk P w K mg base "is_step" 3 ["value"] (spP K 1 F_is_step) := by
  have T := facts_of X0 G0 c
  refine def_P (N := N_is_step) (st := st_is_step) (T.def_is_step) sc_is_step rfl (fun _ _ _ _ _ _ _ us hl => match us, hl with | [_], _ => rfl) (fun cdv A outer s H E hr => ?_)
  have hu := hu_room hr
  exact (qss_cons (qs_if (QW.qt (q_or (q_not (q_tru (q_isi rfl T.free_isinstance (q_var 0) rfl T.free_tuple (by decide +kernel)))) (q_or (q_cmp (fun _ => op_neQ hu) (q_callB (fun _ => c_len) rfl T.free_len (by decide +kernel) (qa_cons (q_var 0) qa_nil)) q_int (nomark _)) (q_or1 (q_not (q_tru (q_def (ok_is_between X0 G0 c) (hr.mono (by decide)) passes_body (qa_cons (q_ix (fun _ => ix_D) (q_var 0) q_int) (qa_cons q_int (qa_cons (q_globI rfl T.int_WIDEST) qa_nil)))))))))) (qss_one (qs_ret q_bl)) qss_nil)
    (qss_one (qs_ret (q_andV (q_def (ok_is_between X0 G0 c) (hr.mono (by decide)) passes_body (qa_cons (q_ix (fun _ => ix_D) (q_var 0) q_int) (qa_cons q_int (qa_cons (q_op2 (fun _ => op_subD) (q_ix (fun _ => ix_D) (q_var 0) q_int) q_int) qa_nil)))) (q_oneV (q_isi rfl T.free_isinstance (q_ix (fun _ => ix_D) (q_var 0) q_int) rfl T.free_bool (by decide +kernel)))))))

abbrev st_a_rule : Stmt := topS 15
abbrev N_a_rule : List Str := ["value", "step"]
theorem sc_a_rule : FnScope N_a_rule ["value"] (defScope st_a_rule) := ⟨rfl, rfl, rfl, by decide +kernel, rfl, by decide +kernel, by decide +kernel⟩
theorem ok_a_rule {P : Program} {w : World} {K : PySem.W.Frag} {mg : Str → Option Value} {base h : Heap} (X0 : K.In h) (G0 : h.Ns mainGlobals mg) (c : He.SaysD fa fn K) : DefOk P w K mg base "a_rule" 4 ["value"] (spP K 1 F_a_rule) := by
  have T := facts_of X0 G0 c
  refine def_P (N := N_a_rule) (st := st_a_rule) (T.def_a_rule) sc_a_rule rfl (fun _ _ _ _ _ _ _ us hl => match us, hl with | [_], _ => rfl) (fun cdv A outer s H E hr => ?_)
  have hu := hu_room hr
  exact (qss_cons (qs_if (QW.qt (q_or (q_not (q_tru (q_isi rfl T.free_isinstance (q_var 0) rfl T.free_tuple (by decide +kernel)))) (q_or (q_cmp (fun _ => op_gtD) (q_callB (fun _ => c_len) rfl T.free_len (by decide +kernel) (qa_cons (q_var 0) qa_nil)) (q_globI rfl T.int_MOST) (nomark _)) (q_or1 (q_not (q_tru (q_callB (fun _ => c_all rfl) rfl T.free_all (by decide +kernel) (qa_cons (q_comp (own := [("step", 1)]) (Pv := [0]) rfl sc_a_rule.nd (qi_seq (q_var 0)) (blkOk_by (N := N_a_rule) (sc := defScope st_a_rule) (by decide +kernel)) (fun _ _ _ _ _ => (qg_name (i := 1) sc_a_rule.nd rfl (.inl rfl))) (fun _ _ _ _ _ => qts_nil) (fun _ _ _ _ _ => (q_def (ok_is_step X0 G0 c) (hr.mono (by decide)) passN (qa_cons (q_var 1) qa_nil)))) qa_nil)))))))) (qss_one (qs_ret q_bl)) qss_nil)
    (qss_one (qs_ret (q_cmpV (fun _ => op_leD) (q_def (ok_multiple_of X0 G0 c) (hr.mono (by decide)) passes_body (qa_cons (q_comp (own := [("step", 1)]) (Pv := [0]) rfl sc_a_rule.nd (qi_seq (q_var 0)) (blkOk_by (N := N_a_rule) (sc := defScope st_a_rule) (by decide +kernel)) (fun _ _ _ _ _ => (qg_name (i := 1) sc_a_rule.nd rfl (.inl rfl))) (fun _ _ _ _ _ => qts_nil) (fun _ _ _ _ _ => (q_ix (fun _ => ix_D) (q_var 1) q_int))) qa_nil)) (q_globI rfl T.int_WIDEST) (nomark _)))))

abbrev st_need_rule : Stmt := topS 16
abbrev N_need_rule : List Str := ["value"]
theorem sc_need_rule : FnScope N_need_rule ["value"] (defScope st_need_rule) := ⟨rfl, rfl, rfl, by decide +kernel, rfl, by decide +kernel, by decide +kernel⟩
theorem ok_need_rule {P : Program} {w : World} {K : PySem.W.Frag} {mg : Str → Option Value} {base h : Heap} (X0 : K.In h) (G0 : h.Ns mainGlobals mg) (c : He.SaysD fa fn K) : DefOk P w K mg base "need_rule" 5 ["value"] (spP K 1 F_need_rule) := by
  have T := facts_of X0 G0 c
  refine def_P (N := N_need_rule) (st := st_need_rule) (T.def_need_rule) sc_need_rule rfl (fun _ _ _ _ _ _ _ us hl => match us, hl with | [_], _ => rfl) (fun cdv A outer s H E hr => ?_)
  have hu := hu_room hr
  exact (qss_one (qs_if (q_not (q_tru (q_def (ok_a_rule X0 G0 c) (hr.mono (by decide)) passes_body (qa_cons (q_var 0) qa_nil)))) (qss_one (qs_raiseA takes_body T.exc_InvalidRule)) qss_nil))

abbrev st_need_year : Stmt := topS 17
abbrev N_need_year : List Str := ["value"]
theorem sc_need_year : FnScope N_need_year ["value"] (defScope st_need_year) := ⟨rfl, rfl, rfl, by decide +kernel, rfl, by decide +kernel, by decide +kernel⟩
theorem ok_need_year {P : Program} {w : World} {K : PySem.W.Frag} {mg : Str → Option Value} {base h : Heap} (X0 : K.In h) (G0 : h.Ns mainGlobals mg) (c : He.SaysD fa fn K) : DefOk P w K mg base "need_year" 3 ["value"] (spP K 1 F_need_year) := by
  have T := facts_of X0 G0 c
  refine def_P (N := N_need_year) (st := st_need_year) (T.def_need_year) sc_need_year rfl (fun _ _ _ _ _ _ _ us hl => match us, hl with | [_], _ => rfl) (fun cdv A outer s H E hr => ?_)
  have hu := hu_room hr
  exact (qss_one (qs_if (q_not (q_tru (q_def (ok_is_between X0 G0 c) (hr.mono (by decide)) passes_body (qa_cons (q_var 0) (qa_cons q_int (qa_cons (q_globI rfl T.int_LATEST) qa_nil)))))) (qss_one (qs_raiseA takes_body T.exc_InvalidYear)) qss_nil))

abbrev st_need_days : Stmt := topS 18
abbrev N_need_days : List Str := ["value"]
theorem sc_need_days : FnScope N_need_days ["value"] (defScope st_need_days) := ⟨rfl, rfl, rfl, by decide +kernel, rfl, by decide +kernel, by decide +kernel⟩
theorem ok_need_days {P : Program} {w : World} {K : PySem.W.Frag} {mg : Str → Option Value} {base h : Heap} (X0 : K.In h) (G0 : h.Ns mainGlobals mg) (c : He.SaysD fa fn K) : DefOk P w K mg base "need_days" 3 ["value"] (spP K 1 F_need_days) := by
  have T := facts_of X0 G0 c
  refine def_P (N := N_need_days) (st := st_need_days) (T.def_need_days) sc_need_days rfl (fun _ _ _ _ _ _ _ us hl => match us, hl with | [_], _ => rfl) (fun cdv A outer s H E hr => ?_)
  have hu := hu_room hr
  exact (qss_one (qs_if (q_not (q_tru (q_def (ok_is_between X0 G0 c) (hr.mono (by decide)) passes_body (qa_cons (q_var 0) (qa_cons q_int (qa_cons q_int qa_nil)))))) (qss_one (qs_raiseA takes_body T.exc_InvalidDays)) qss_nil))

abbrev st_leap_in : Stmt := topS 20
abbrev N_leap_in : List Str := ["rule", "year", "every", "rest", "leap"]
theorem sc_leap_in : FnScope N_leap_in ["rule", "year"] (defScope st_leap_in) := ⟨rfl, rfl, rfl, by decide +kernel, rfl, by decide +kernel, by decide +kernel⟩
theorem ok_leap_in {P : Program} {w : World} {K : PySem.W.Frag} {mg : Str → Option Value} {base h : Heap} (X0 : K.In h) (G0 : h.Ns mainGlobals mg) (c : He.SaysD fa fn K) : DefOk P w K mg base "leap_in" 1 ["rule", "year"] (spP K 2 F_leap_in) := by
  have T := facts_of X0 G0 c
  refine def_P (N := N_leap_in) (st := st_leap_in) (T.def_leap_in) sc_leap_in rfl (fun _ _ _ _ _ _ _ us hl => match us, hl with | [_, _], _ => rfl) (fun cdv A outer s H E hr => ?_)
  have hu := hu_room hr
  exact (qss_cons (qs_for own_body rfl (qi_seq (q_rev (q_var 0))) (qg_tup rfl (qgs_cons (qg_name (i := 2) sc_leap_in.nd rfl (.inl rfl)) (qgs_cons (qg_name (i := 3) sc_leap_in.nd rfl (.inl rfl)) (qgs_cons (qg_name (i := 4) sc_leap_in.nd rfl (.inl rfl)) qgs_nil))) rfl) (qss_one (qs_if (q_cmp (fun _ => op_eqQ hu) (q_op2 (fun _ => op_modD) (q_var 1) (q_var 2)) (q_var 3) (nomark _)) (qss_one (qs_ret (q_var 4))) qss_nil)))
    (qss_one (qs_ret q_bl)))

abbrev st_whole_round : Stmt := topS 21
abbrev N_whole_round : List Str := ["rule", "step"]
theorem sc_whole_round : FnScope N_whole_round ["rule"] (defScope st_whole_round) := ⟨rfl, rfl, rfl, by decide +kernel, rfl, by decide +kernel, by decide +kernel⟩
theorem ok_whole_round {P : Program} {w : World} {K : PySem.W.Frag} {mg : Str → Option Value} {base h : Heap} (X0 : K.In h) (G0 : h.Ns mainGlobals mg) (c : He.SaysD fa fn K) : DefOk P w K mg base "whole_round" 3 ["rule"] (spP K 1 F_whole_round) := by
  have T := facts_of X0 G0 c
  refine def_P (N := N_whole_round) (st := st_whole_round) (T.def_whole_round) sc_whole_round rfl (fun _ _ _ _ _ _ _ us hl => match us, hl with | [_], _ => rfl) (fun cdv A outer s H E hr => ?_)
  have hu := hu_room hr
  exact (qss_one (qs_ret (q_def (ok_multiple_of X0 G0 c) (hr.mono (by decide)) passes_body (qa_cons (q_comp (own := [("step", 1)]) (Pv := [0]) rfl sc_whole_round.nd (qi_seq (q_var 0)) (blkOk_by (N := N_whole_round) (sc := defScope st_whole_round) (by decide +kernel)) (fun _ _ _ _ _ => (qg_name (i := 1) sc_whole_round.nd rfl (.inl rfl))) (fun _ _ _ _ _ => qts_nil) (fun _ _ _ _ _ => (q_ix (fun _ => ix_D) (q_var 1) q_int))) qa_nil))))

abbrev st_leaps_of : Stmt := topS 22
abbrev N_leaps_of : List Str := ["rule", "size", "year"]
theorem sc_leaps_of : FnScope N_leaps_of ["rule", "size"] (defScope st_leaps_of) := ⟨rfl, rfl, rfl, by decide +kernel, rfl, by decide +kernel, by decide +kernel⟩
theorem ok_leaps_of {P : Program} {w : World} {K : PySem.W.Frag} {mg : Str → Option Value} {base h : Heap} (X0 : K.In h) (G0 : h.Ns mainGlobals mg) (c : He.SaysD fa fn K) : DefOk P w K mg base "leaps_of" 2 ["rule", "size"] (spP K 2 F_leaps_of) := by
  have T := facts_of X0 G0 c
  refine def_P (N := N_leaps_of) (st := st_leaps_of) (T.def_leaps_of) sc_leaps_of rfl (fun _ _ _ _ _ _ _ us hl => match us, hl with | [_, _], _ => rfl) (fun cdv A outer s H E hr => ?_)
  have hu := hu_room hr
  exact (qss_one (qs_ret (q_comp (own := [("year", 2)]) (Pv := [0, 1]) rfl sc_leaps_of.nd (qi_range2 rfl T.free_range (qa_cons q_int (qa_cons (q_op2 (fun _ => op_addD) (q_var 1) q_int) qa_nil))) (blkOk_by (N := N_leaps_of) (sc := defScope st_leaps_of) (by decide +kernel)) (fun _ _ _ _ _ => (qg_name (i := 2) sc_leaps_of.nd rfl (.inl rfl))) (fun _ _ _ _ _ => qts_nil) (fun _ _ _ _ _ => (q_def (ok_leap_in X0 G0 c) (hr.mono (by decide)) passN (qa_cons (q_var 0) (qa_cons (q_var 2) qa_nil)))))))

abbrev st_sums_of : Stmt := topS 23
abbrev N_sums_of : List Str := ["rule", "size", "found", "many", "leap"]
theorem sc_sums_of : FnScope N_sums_of ["rule", "size"] (defScope st_sums_of) := ⟨rfl, rfl, rfl, by decide +kernel, rfl, by decide +kernel, by decide +kernel⟩
theorem ok_sums_of {P : Program} {w : World} {K : PySem.W.Frag} {mg : Str → Option Value} {base h : Heap} (X0 : K.In h) (G0 : h.Ns mainGlobals mg) (c : He.SaysD fa fn K) : DefOk P w K mg base "sums_of" 3 ["rule", "size"] (spP K 2 F_sums_of) := by
  have T := facts_of X0 G0 c
  refine def_P (N := N_sums_of) (st := st_sums_of) (T.def_sums_of) sc_sums_of rfl (fun _ _ _ _ _ _ _ us hl => match us, hl with | [_, _], _ => rfl) (fun cdv A outer s H E hr => ?_)
  have hu := hu_room hr
  exact (qss_cons (qs_parN rfl sc_sums_of.nd (i := 2) (j := 3) rfl rfl (by decide) rfl rfl (qa_cons q_int qa_nil) q_int)
    (qss_cons (qs_for own_body rfl (qi_seq (q_def (ok_leaps_of X0 G0 c) (hr.mono (by decide)) passes_body (qa_cons (q_var 0) (qa_cons (q_var 1) qa_nil)))) (qg_name (i := 4) sc_sums_of.nd rfl (.inl rfl)) (qss_cons (qs_set sc_sums_of.nd (i := 3) rfl (.inl rfl) (q_op2 (fun _ => op_addD) (q_var 3) (q_callT (fun _ => c_int) rfl T.free_int (by decide +kernel) (qa_cons (q_var 4) qa_nil))))
    (qss_one (qs_append (i := 2) rfl (.inl rfl) (q_var 3)))))
    (qss_frz 2 (qss_one (qs_ret (q_var 2))))))

abbrev st_count_to : Stmt := topS 25
abbrev N_count_to : List Str := ["sums", "year", "size"]
theorem sc_count_to : FnScope N_count_to ["sums", "year"] (defScope st_count_to) := ⟨rfl, rfl, rfl, by decide +kernel, rfl, by decide +kernel, by decide +kernel⟩
theorem ok_count_to {P : Program} {w : World} {K : PySem.W.Frag} {mg : Str → Option Value} {base h : Heap} (X0 : K.In h) (G0 : h.Ns mainGlobals mg) (c : He.SaysD fa fn K) : DefOk P w K mg base "count_to" 1 ["sums", "year"] (spP K 2 F_count_to) := by
  have T := facts_of X0 G0 c
  refine def_P (N := N_count_to) (st := st_count_to) (T.def_count_to) sc_count_to rfl (fun _ _ _ _ _ _ _ us hl => match us, hl with | [_, _], _ => rfl) (fun cdv A outer s H E hr => ?_)
  have hu := hu_room hr
  exact (qss_cons (qs_set sc_count_to.nd (i := 2) rfl (.inl rfl) (q_op2 (fun _ => op_subD) (q_callB (fun _ => c_len) rfl T.free_len (by decide +kernel) (qa_cons (q_var 0) qa_nil)) q_int))
    (qss_one (qs_ret (q_op2 (fun _ => op_addD) (q_op2 (fun _ => op_mulD) (q_op2 (fun _ => op_fdivD) (q_var 1) (q_var 2)) (q_ix (fun _ => ix_D) (q_var 0) (q_op1 (fun _ => un_negD) q_int))) (q_ix (fun _ => ix_D) (q_var 0) (q_op2 (fun _ => op_modD) (q_var 1) (q_var 2)))))))

abbrev st_round_sums : Stmt := topS 26
abbrev N_round_sums : List Str := ["rule"]
theorem sc_round_sums : FnScope N_round_sums ["rule"] (defScope st_round_sums) := ⟨rfl, rfl, rfl, by decide +kernel, rfl, by decide +kernel, by decide +kernel⟩
theorem ok_round_sums {P : Program} {w : World} {K : PySem.W.Frag} {mg : Str → Option Value} {base h : Heap} (X0 : K.In h) (G0 : h.Ns mainGlobals mg) (c : He.SaysD fa fn K) : DefOk P w K mg base "round_sums" 4 ["rule"] (spP K 1 F_round_sums) := by
  have T := facts_of X0 G0 c
  refine def_P (N := N_round_sums) (st := st_round_sums) (T.def_round_sums) sc_round_sums rfl (fun _ _ _ _ _ _ _ us hl => match us, hl with | [_], _ => rfl) (fun cdv A outer s H E hr => ?_)
  have hu := hu_room hr
  exact (qss_one (qs_ret (q_def (ok_sums_of X0 G0 c) (hr.mono (by decide)) passes_body (qa_cons (q_var 0) (qa_cons (q_def (ok_whole_round X0 G0 c) (hr.mono (by decide)) passes_body (qa_cons (q_var 0) qa_nil)) qa_nil)))))

abbrev st_leaps_to : Stmt := topS 27
abbrev N_leaps_to : List Str := ["rule", "year"]
theorem sc_leaps_to : FnScope N_leaps_to ["rule", "year"] (defScope st_leaps_to) := ⟨rfl, rfl, rfl, by decide +kernel, rfl, by decide +kernel, by decide +kernel⟩
theorem ok_leaps_to {P : Program} {w : World} {K : PySem.W.Frag} {mg : Str → Option Value} {base h : Heap} (X0 : K.In h) (G0 : h.Ns mainGlobals mg) (c : He.SaysD fa fn K) : DefOk P w K mg base "leaps_to" 6 ["rule", "year"] (spP K 2 F_leaps_to) := by
  have T := facts_of X0 G0 c
  refine def_P (N := N_leaps_to) (st := st_leaps_to) (T.def_leaps_to) sc_leaps_to rfl (fun _ _ _ _ _ _ _ us hl => match us, hl with | [_, _], _ => rfl) (fun cdv A outer s H E hr => ?_)
  have hu := hu_room hr
  exact (qss_cons (qs_expr (q_def (ok_need_rule X0 G0 c) (hr.mono (by decide)) passes_body (qa_cons (q_var 0) qa_nil)))
    (qss_cons (qs_expr (q_def (ok_need_year X0 G0 c) (hr.mono (by decide)) passes_body (qa_cons (q_var 1) qa_nil)))
    (qss_one (qs_ret (q_def (ok_count_to X0 G0 c) (hr.mono (by decide)) passes_body (qa_cons (q_def (ok_round_sums X0 G0 c) (hr.mono (by decide)) passes_body (qa_cons (q_var 0) qa_nil)) (qa_cons (q_var 1) qa_nil)))))))

abbrev st_bounds_of : Stmt := topS 29
abbrev N_bounds_of : List Str := ["begin", "grows", "limit"]
theorem sc_bounds_of : FnScope N_bounds_of ["begin", "grows", "limit"] (defScope st_bounds_of) := ⟨rfl, rfl, rfl, by decide +kernel, rfl, by decide +kernel, by decide +kernel⟩
theorem ok_bounds_of {P : Program} {w : World} {K : PySem.W.Frag} {mg : Str → Option Value} {base h : Heap} (X0 : K.In h) (G0 : h.Ns mainGlobals mg) (c : He.SaysD fa fn K) : DefOk P w K mg base "bounds_of" 1 ["begin", "grows", "limit"] (spP K 3 F_bounds_of) := by
  have T := facts_of X0 G0 c
  refine def_P (N := N_bounds_of) (st := st_bounds_of) (T.def_bounds_of) sc_bounds_of rfl (fun _ _ _ _ _ _ _ us hl => match us, hl with | [_, _, _], _ => rfl) (fun cdv A outer s H E hr => ?_)
  have hu := hu_room hr
  exact (qss_cons (qs_if (q_cmp (fun _ => op_ltD) (q_var 1) q_int (nomark _)) (qss_one (qs_par rfl sc_bounds_of.nd (i := 0) (j := 1) rfl rfl (by decide) rfl rfl (q_op2 (fun _ => op_subD) q_int (q_var 0)) (q_op2 (fun _ => op_subD) q_int (q_var 1)))) qss_nil)
    (qss_cons (qs_if (q_cmp (fun _ => op_eqQ hu) (q_var 1) q_int (nomark _)) (qss_one (qs_ret (q_ifE (q_cmp (fun _ => op_gtD) (q_callB (fun _ => c_abs) rfl T.free_abs (by decide +kernel) (qa_cons (q_var 0) qa_nil)) (q_var 2) (nomark _)) (q_tup (qa_cons q_non (qa_cons q_int qa_nil))) (q_tup (qa_cons (q_op1 (fun _ => un_negD) q_int) (qa_cons q_non qa_nil)))))) qss_nil)
    (qss_one (qs_ret (q_tup (qa_cons (q_op2 (fun _ => op_subD) (q_op2 (fun _ => op_fdivD) (q_op2 (fun _ => op_subD) (q_op2 (fun _ => op_addD) (q_op2 (fun _ => op_subD) (q_op2 (fun _ => op_subD) q_int (q_var 2)) (q_var 0)) (q_var 1)) q_int) (q_var 1)) q_int) (qa_cons (q_op2 (fun _ => op_addD) (q_op2 (fun _ => op_fdivD) (q_op2 (fun _ => op_subD) (q_var 2) (q_var 0)) (q_var 1)) q_int) qa_nil)))))))

abbrev st_first_round : Stmt := topS 30
abbrev N_first_round : List Str := ["bounds", "least", "up_to", "on"]
theorem sc_first_round : FnScope N_first_round ["bounds", "least"] (defScope st_first_round) := ⟨rfl, rfl, rfl, by decide +kernel, rfl, by decide +kernel, by decide +kernel⟩
theorem ok_first_round {P : Program} {w : World} {K : PySem.W.Frag} {mg : Str → Option Value} {base h : Heap} (X0 : K.In h) (G0 : h.Ns mainGlobals mg) (c : He.SaysD fa fn K) : DefOk P w K mg base "first_round" 1 ["bounds", "least"] (spP K 2 F_first_round) := by
  have T := facts_of X0 G0 c
  refine def_P (N := N_first_round) (st := st_first_round) (T.def_first_round) sc_first_round rfl (fun _ _ _ _ _ _ _ us hl => match us, hl with | [_, _], _ => rfl) (fun cdv A outer s H E hr => ?_)
  have hu := hu_room hr
  exact (qss_cons (qs_asg (q_var 0) (qg_tupA rfl (qgs_cons (qg_name (i := 2) sc_first_round.nd rfl (.inl rfl)) (qgs_cons (qg_name (i := 3) sc_first_round.nd rfl (.inl rfl)) qgs_nil)) rfl))
    (qss_cons (qs_if (QW.qt (q_or (q_cmp (fun _ => op_isQ) (q_var 2) q_non (nomark _)) (q_or1 (q_cmp (fun _ => op_leD) (q_var 1) (q_var 2) (nomark _))))) (qss_one (qs_ret (q_var 1))) qss_nil)
    (qss_one (qs_ret (q_ifE (q_cmp (fun _ => op_isQ) (q_var 3) q_non (nomark _)) q_non (q_callB (fun _ => c_max rfl) rfl T.free_max (by decide +kernel) (qa_cons (q_var 1) (qa_cons (q_var 3) qa_nil))))))))

abbrev st_next_beyond : Stmt := topS 31
abbrev N_next_beyond : List Str := ["row", "grows", "limit", "year", "found", "size", "place", "begin", "least", "turn"]
theorem sc_next_beyond : FnScope N_next_beyond ["row", "grows", "limit", "year"] (defScope st_next_beyond) := ⟨rfl, rfl, rfl, by decide +kernel, rfl, by decide +kernel, by decide +kernel⟩
theorem ok_next_beyond {P : Program} {w : World} {K : PySem.W.Frag} {mg : Str → Option Value} {base h : Heap} (X0 : K.In h) (G0 : h.Ns mainGlobals mg) (c : He.SaysD fa fn K) : DefOk P w K mg base "next_beyond" 2 ["row", "grows", "limit", "year"] (spP K 4 F_next_beyond) := by
  have T := facts_of X0 G0 c
  refine def_P (N := N_next_beyond) (st := st_next_beyond) (T.def_next_beyond) sc_next_beyond rfl (fun _ _ _ _ _ _ _ us hl => match us, hl with | [_, _, _, _], _ => rfl) (fun cdv A outer s H E hr => ?_)
  have hu := hu_room hr
  exact (qss_cons (qs_parN rfl sc_next_beyond.nd (i := 4) (j := 5) rfl rfl (by decide) rfl rfl qa_nil (q_callB (fun _ => c_len) rfl T.free_len (by decide +kernel) (qa_cons (q_var 0) qa_nil)))
    (qss_cons (qs_for own_body rfl (qi_enumA rfl T.free_enumerate (qa_cons (q_var 0) qa_nil)) (qg_tup rfl (qgs_cons (qg_name (i := 6) sc_next_beyond.nd rfl (.inl rfl)) (qgs_cons (qg_name (i := 7) sc_next_beyond.nd rfl (.inl rfl)) qgs_nil)) rfl) (qss_cons (qs_set sc_next_beyond.nd (i := 8) rfl (.inl rfl) (q_callB (fun _ => c_max rfl) rfl T.free_max (by decide +kernel) (qa_cons q_int (qa_cons (q_op2 (fun _ => op_fdivD) (q_op2 (fun _ => op_subD) (q_op2 (fun _ => op_addD) (q_op2 (fun _ => op_subD) (q_op2 (fun _ => op_subD) (q_var 3) (q_var 6)) q_int) (q_var 5)) q_int) (q_var 5)) qa_nil))))
    (qss_cons (qs_set sc_next_beyond.nd (i := 9) rfl (.inl rfl) (q_def (ok_first_round X0 G0 c) (hr.mono (by decide)) passes_body (qa_cons (q_def (ok_bounds_of X0 G0 c) (hr.mono (by decide)) passes_body (qa_cons (q_var 7) (qa_cons (q_var 1) (qa_cons (q_var 2) qa_nil)))) (qa_cons (q_var 8) qa_nil))))
    (qss_one (qs_if (q_cmp (fun _ => op_isnQ) (q_var 9) q_non (nomark _)) (qss_one (qs_append (i := 4) rfl (.inl rfl) (q_op2 (fun _ => op_addD) (q_op2 (fun _ => op_addD) (q_op2 (fun _ => op_mulD) (q_var 9) (q_var 5)) (q_var 6)) q_int))) qss_nil)))))
    (qss_frz 4 (qss_one (qs_ret (q_ifE (q_cmp (fun _ => op_neQ hu) (q_var 4) (q_lst qa_nil) (nomark _)) (q_callB (fun _ => c_min rfl) rfl T.free_min (by decide +kernel) (qa_cons (q_var 4) qa_nil)) q_non))))))

abbrev st_apart_row : Stmt := topS 33
abbrev N_apart_row : List Str := ["one", "other", "size", "first", "second", "row", "step", "many", "more"]
theorem sc_apart_row : FnScope N_apart_row ["one", "other"] (defScope st_apart_row) := ⟨rfl, rfl, rfl, by decide +kernel, rfl, by decide +kernel, by decide +kernel⟩
theorem ok_apart_row {P : Program} {w : World} {K : PySem.W.Frag} {mg : Str → Option Value} {base h : Heap} (X0 : K.In h) (G0 : h.Ns mainGlobals mg) (c : He.SaysD fa fn K) : DefOk P w K mg base "apart_row" 4 ["one", "other"] (spP K 2 F_apart_row) := by
  have T := facts_of X0 G0 c
  refine def_P (N := N_apart_row) (st := st_apart_row) (T.def_apart_row) sc_apart_row rfl (fun _ _ _ _ _ _ _ us hl => match us, hl with | [_, _], _ => rfl) (fun cdv A outer s H E hr => ?_)
  have hu := hu_room hr
  exact (qss_cons (qs_set sc_apart_row.nd (i := 2) rfl (.inl rfl) (q_def (ok_multiple_of X0 G0 c) (hr.mono (by decide)) passes_body (qa_cons (q_comp (own := [("step", 6)]) (Pv := [0, 1, 2, 3, 4, 5, 7, 8]) rfl sc_apart_row.nd (qi_seq (q_op2 (fun _ => op_addD) (q_var 0) (q_var 1))) (blkOk_by (N := N_apart_row) (sc := defScope st_apart_row) (by decide +kernel)) (fun _ _ _ _ _ => (qg_name (i := 6) sc_apart_row.nd rfl (.inl rfl))) (fun _ _ _ _ _ => qts_nil) (fun _ _ _ _ _ => (q_ix (fun _ => ix_D) (q_var 6) q_int))) qa_nil)))
    (qss_cons (qs_if (q_cmp (fun _ => op_gtD) (q_var 2) (q_globI rfl T.int_WIDEST) (nomark _)) (qss_one qs_stuck) qss_nil)
    (qss_cons (qs_par rfl sc_apart_row.nd (i := 3) (j := 4) rfl rfl (by decide) rfl rfl (q_def (ok_sums_of X0 G0 c) (hr.mono (by decide)) passes_body (qa_cons (q_var 0) (qa_cons (q_var 2) qa_nil))) (q_def (ok_sums_of X0 G0 c) (hr.mono (by decide)) passes_body (qa_cons (q_var 1) (qa_cons (q_var 2) qa_nil))))
    (qss_cons (qs_setComp (i := 5) (own := [("many", 7), ("more", 8)]) (Pv := [0, 1, 2, 3, 4, 5, 6]) rfl sc_apart_row.nd rfl rfl (sw_true rfl rfl rfl (by decide +kernel)) (qi_zip rfl T.free_zip (qa_cons (q_var 3) (qa_cons (q_var 4) qa_nil))) (blkOk_by (N := N_apart_row) (sc := defScope st_apart_row) (by decide +kernel)) (fun _ _ _ _ _ => (qg_tup rfl (qgs_cons (qg_name (i := 7) sc_apart_row.nd rfl (.inl rfl)) (qgs_cons (qg_name (i := 8) sc_apart_row.nd rfl (.inl rfl)) qgs_nil)) rfl)) (fun _ _ _ _ _ => qts_nil) (fun _ _ _ _ _ => (q_op2 (fun _ => op_subD) (q_var 7) (q_var 8))))
    (qss_one (qs_ret (q_tup (qa_cons (q_slice (q_var 5) qo_none (qo_some (q_op1 (fun _ => un_negD) q_int))) (qa_cons (q_ix (fun _ => ix_D) (q_var 5) (q_op1 (fun _ => un_negD) q_int)) qa_nil)))))))))

abbrev st_apart : Stmt := topS 34
abbrev N_apart : List Str := ["one", "other", "year"]
theorem sc_apart : FnScope N_apart ["one", "other", "year"] (defScope st_apart) := ⟨rfl, rfl, rfl, by decide +kernel, rfl, by decide +kernel, by decide +kernel⟩
theorem ok_apart {P : Program} {w : World} {K : PySem.W.Frag} {mg : Str → Option Value} {base h : Heap} (X0 : K.In h) (G0 : h.Ns mainGlobals mg) (c : He.SaysD fa fn K) : DefOk P w K mg base "apart" 6 ["one", "other", "year"] (spP K 3 F_apart) := by
  have T := facts_of X0 G0 c
  refine def_P (N := N_apart) (st := st_apart) (T.def_apart) sc_apart rfl (fun _ _ _ _ _ _ _ us hl => match us, hl with | [_, _, _], _ => rfl) (fun cdv A outer s H E hr => ?_)
  have hu := hu_room hr
  exact (qss_cons (qs_expr (q_def (ok_need_rule X0 G0 c) (hr.mono (by decide)) passes_body (qa_cons (q_var 0) qa_nil)))
    (qss_cons (qs_expr (q_def (ok_need_rule X0 G0 c) (hr.mono (by decide)) passes_body (qa_cons (q_var 1) qa_nil)))
    (qss_cons (qs_expr (q_def (ok_need_year X0 G0 c) (hr.mono (by decide)) passes_body (qa_cons (q_var 2) qa_nil)))
    (qss_one (qs_ret (q_op2 (fun _ => op_subD) (q_def (ok_count_to X0 G0 c) (hr.mono (by decide)) passes_body (qa_cons (q_def (ok_round_sums X0 G0 c) (hr.mono (by decide)) passes_body (qa_cons (q_var 0) qa_nil)) (qa_cons (q_op2 (fun _ => op_subD) (q_var 2) q_int) qa_nil))) (q_def (ok_count_to X0 G0 c) (hr.mono (by decide)) passes_body (qa_cons (q_def (ok_round_sums X0 G0 c) (hr.mono (by decide)) passes_body (qa_cons (q_var 1) qa_nil)) (qa_cons (q_op2 (fun _ => op_subD) (q_var 2) q_int) qa_nil)))))))))

abbrev st_first_apart : Stmt := topS 35
abbrev N_first_apart : List Str := ["one", "other", "days", "row", "grows"]
theorem sc_first_apart : FnScope N_first_apart ["one", "other", "days"] (defScope st_first_apart) := ⟨rfl, rfl, rfl, by decide +kernel, rfl, by decide +kernel, by decide +kernel⟩
theorem ok_first_apart {P : Program} {w : World} {K : PySem.W.Frag} {mg : Str → Option Value} {base h : Heap} (X0 : K.In h) (G0 : h.Ns mainGlobals mg) (c : He.SaysD fa fn K) : DefOk P w K mg base "first_apart" 6 ["one", "other", "days"] (spP K 3 F_first_apart) := by
  have T := facts_of X0 G0 c
  refine def_P (N := N_first_apart) (st := st_first_apart) (T.def_first_apart) sc_first_apart rfl (fun _ _ _ _ _ _ _ us hl => match us, hl with | [_, _, _], _ => rfl) (fun cdv A outer s H E hr => ?_)
  have hu := hu_room hr
  exact (qss_cons (qs_expr (q_def (ok_need_rule X0 G0 c) (hr.mono (by decide)) passes_body (qa_cons (q_var 0) qa_nil)))
    (qss_cons (qs_expr (q_def (ok_need_rule X0 G0 c) (hr.mono (by decide)) passes_body (qa_cons (q_var 1) qa_nil)))
    (qss_cons (qs_expr (q_def (ok_need_days X0 G0 c) (hr.mono (by decide)) passes_body (qa_cons (q_var 2) qa_nil)))
    (qss_cons (qs_asg (q_def (ok_apart_row X0 G0 c) (hr.mono (by decide)) passes_body (qa_cons (q_var 0) (qa_cons (q_var 1) qa_nil))) (qg_tupA rfl (qgs_cons (qg_name (i := 3) sc_first_apart.nd rfl (.inl rfl)) (qgs_cons (qg_name (i := 4) sc_first_apart.nd rfl (.inl rfl)) qgs_nil)) rfl))
    (qss_one (qs_ret (q_def (ok_next_beyond X0 G0 c) (hr.mono (by decide)) passes_body (qa_cons (q_var 3) (qa_cons (q_var 4) (qa_cons (q_var 2) (qa_cons q_int qa_nil)))))))))))

abbrev st_farthest_apart : Stmt := topS 36
abbrev N_farthest_apart : List Str := ["one", "other", "row", "grows"]
theorem sc_farthest_apart : FnScope N_farthest_apart ["one", "other"] (defScope st_farthest_apart) := ⟨rfl, rfl, rfl, by decide +kernel, rfl, by decide +kernel, by decide +kernel⟩
theorem ok_farthest_apart {P : Program} {w : World} {K : PySem.W.Frag} {mg : Str → Option Value} {base h : Heap} (X0 : K.In h) (G0 : h.Ns mainGlobals mg) (c : He.SaysD fa fn K) : DefOk P w K mg base "farthest_apart" 6 ["one", "other"] (spP K 2 F_farthest_apart) := by
  have T := facts_of X0 G0 c
  refine def_P (N := N_farthest_apart) (st := st_farthest_apart) (T.def_farthest_apart) sc_farthest_apart rfl (fun _ _ _ _ _ _ _ us hl => match us, hl with | [_, _], _ => rfl) (fun cdv A outer s H E hr => ?_)
  have hu := hu_room hr
  exact (qss_cons (qs_expr (q_def (ok_need_rule X0 G0 c) (hr.mono (by decide)) passes_body (qa_cons (q_var 0) qa_nil)))
    (qss_cons (qs_expr (q_def (ok_need_rule X0 G0 c) (hr.mono (by decide)) passes_body (qa_cons (q_var 1) qa_nil)))
    (qss_cons (qs_asg (q_def (ok_apart_row X0 G0 c) (hr.mono (by decide)) passes_body (qa_cons (q_var 0) (qa_cons (q_var 1) qa_nil))) (qg_tupA rfl (qgs_cons (qg_name (i := 2) sc_farthest_apart.nd rfl (.inl rfl)) (qgs_cons (qg_name (i := 3) sc_farthest_apart.nd rfl (.inl rfl)) qgs_nil)) rfl))
    (qss_cons (qs_if (q_cmp (fun _ => op_neQ hu) (q_var 3) q_int (nomark _)) (qss_one (qs_ret q_non)) qss_nil)
    (qss_one (qs_ret (q_tup (qa_cons (q_tup (qa_cons (q_callB (fun _ => c_max rfl) rfl T.free_max (by decide +kernel) (qa_cons (q_var 2) qa_nil)) (qa_cons (q_op2 (fun _ => op_addD) (q_meth PySem.F.plainAttrs_list PySem.F.slot_list_index PySem.F.type_list_index (fun _ => m_index hu) (.inl rfl) (q_var 2) (qa_cons (q_callB (fun _ => c_max rfl) rfl T.free_max (by decide +kernel) (qa_cons (q_var 2) qa_nil)) qa_nil)) q_int) qa_nil))) (qa_cons (q_tup (qa_cons (q_callB (fun _ => c_min rfl) rfl T.free_min (by decide +kernel) (qa_cons (q_var 2) qa_nil)) (qa_cons (q_op2 (fun _ => op_addD) (q_meth PySem.F.plainAttrs_list PySem.F.slot_list_index PySem.F.type_list_index (fun _ => m_index hu) (.inl rfl) (q_var 2) (qa_cons (q_callB (fun _ => c_min rfl) rfl T.free_min (by decide +kernel) (qa_cons (q_var 2) qa_nil)) qa_nil)) q_int) qa_nil))) qa_nil)))))))))

abbrev st_meeting_round : Stmt := topS 37
abbrev N_meeting_round : List Str := ["begin", "grows", "least", "turn"]
theorem sc_meeting_round : FnScope N_meeting_round ["begin", "grows", "least"] (defScope st_meeting_round) := ⟨rfl, rfl, rfl, by decide +kernel, rfl, by decide +kernel, by decide +kernel⟩
theorem ok_meeting_round {P : Program} {w : World} {K : PySem.W.Frag} {mg : Str → Option Value} {base h : Heap} (X0 : K.In h) (G0 : h.Ns mainGlobals mg) (c : He.SaysD fa fn K) : DefOk P w K mg base "meeting_round" 1 ["begin", "grows", "least"] (spP K 3 F_meeting_round) := by
  have T := facts_of X0 G0 c
  refine def_P (N := N_meeting_round) (st := st_meeting_round) (T.def_meeting_round) sc_meeting_round rfl (fun _ _ _ _ _ _ _ us hl => match us, hl with | [_, _, _], _ => rfl) (fun cdv A outer s H E hr => ?_)
  have hu := hu_room hr
  exact (qss_cons (qs_if (q_cmp (fun _ => op_eqQ hu) (q_var 1) q_int (nomark _)) (qss_one (qs_ret (q_ifE (q_cmp (fun _ => op_eqQ hu) (q_var 0) q_int (nomark _)) (q_var 2) q_non))) qss_nil)
    (qss_cons (qs_set sc_meeting_round.nd (i := 3) rfl (.inl rfl) (q_op2 (fun _ => op_fdivD) (q_op2 (fun _ => op_subD) q_int (q_var 0)) (q_var 1)))
    (qss_one (qs_ret (q_ifE (QW.qt (q_and (q_cmp (fun _ => op_eqQ hu) (q_op2 (fun _ => op_addD) (q_op2 (fun _ => op_mulD) (q_var 3) (q_var 1)) (q_var 0)) q_int (nomark _)) (q_and1 (q_cmp (fun _ => op_geD) (q_var 3) (q_var 2) (nomark _))))) (q_var 3) q_non)))))

abbrev st_next_together : Stmt := topS 38
abbrev N_next_together : List Str := ["one", "other", "year", "row", "grows", "found", "size", "place", "begin", "turn"]
theorem sc_next_together : FnScope N_next_together ["one", "other", "year"] (defScope st_next_together) := ⟨rfl, rfl, rfl, by decide +kernel, rfl, by decide +kernel, by decide +kernel⟩
theorem ok_next_together {P : Program} {w : World} {K : PySem.W.Frag} {mg : Str → Option Value} {base h : Heap} (X0 : K.In h) (G0 : h.Ns mainGlobals mg) (c : He.SaysD fa fn K) : DefOk P w K mg base "next_together" 6 ["one", "other", "year"] (spP K 3 F_next_together) := by
  have T := facts_of X0 G0 c
  refine def_P (N := N_next_together) (st := st_next_together) (T.def_next_together) sc_next_together rfl (fun _ _ _ _ _ _ _ us hl => match us, hl with | [_, _, _], _ => rfl) (fun cdv A outer s H E hr => ?_)
  have hu := hu_room hr
  exact (qss_cons (qs_expr (q_def (ok_need_rule X0 G0 c) (hr.mono (by decide)) passes_body (qa_cons (q_var 0) qa_nil)))
    (qss_cons (qs_expr (q_def (ok_need_rule X0 G0 c) (hr.mono (by decide)) passes_body (qa_cons (q_var 1) qa_nil)))
    (qss_cons (qs_expr (q_def (ok_need_year X0 G0 c) (hr.mono (by decide)) passes_body (qa_cons (q_var 2) qa_nil)))
    (qss_cons (qs_asg (q_def (ok_apart_row X0 G0 c) (hr.mono (by decide)) passes_body (qa_cons (q_var 0) (qa_cons (q_var 1) qa_nil))) (qg_tupA rfl (qgs_cons (qg_name (i := 3) sc_next_together.nd rfl (.inl rfl)) (qgs_cons (qg_name (i := 4) sc_next_together.nd rfl (.inl rfl)) qgs_nil)) rfl))
    (qss_cons (qs_parN rfl sc_next_together.nd (i := 5) (j := 6) rfl rfl (by decide) rfl rfl qa_nil (q_callB (fun _ => c_len) rfl T.free_len (by decide +kernel) (qa_cons (q_var 3) qa_nil)))
    (qss_cons (qs_for own_body rfl (qi_enumA rfl T.free_enumerate (qa_cons (q_var 3) qa_nil)) (qg_tup rfl (qgs_cons (qg_name (i := 7) sc_next_together.nd rfl (.inl rfl)) (qgs_cons (qg_name (i := 8) sc_next_together.nd rfl (.inl rfl)) qgs_nil)) rfl) (qss_cons (qs_set sc_next_together.nd (i := 9) rfl (.inl rfl) (q_def (ok_meeting_round X0 G0 c) (hr.mono (by decide)) passes_body (qa_cons (q_var 8) (qa_cons (q_var 4) (qa_cons (q_callB (fun _ => c_max rfl) rfl T.free_max (by decide +kernel) (qa_cons q_int (qa_cons (q_op2 (fun _ => op_fdivD) (q_op2 (fun _ => op_subD) (q_op2 (fun _ => op_addD) (q_op2 (fun _ => op_subD) (q_op2 (fun _ => op_subD) (q_var 2) (q_var 7)) q_int) (q_var 6)) q_int) (q_var 6)) qa_nil))) qa_nil)))))
    (qss_one (qs_if (q_cmp (fun _ => op_isnQ) (q_var 9) q_non (nomark _)) (qss_one (qs_append (i := 5) rfl (.inl rfl) (q_op2 (fun _ => op_addD) (q_op2 (fun _ => op_addD) (q_op2 (fun _ => op_mulD) (q_var 9) (q_var 6)) (q_var 7)) q_int))) qss_nil))))
    (qss_frz 5 (qss_one (qs_ret (q_ifE (q_cmp (fun _ => op_neQ hu) (q_var 5) (q_lst qa_nil) (nomark _)) (q_callB (fun _ => c_min rfl) rfl T.free_min (by decide +kernel) (qa_cons (q_var 5) qa_nil)) q_non))))))))))

abbrev st_count_together : Stmt := topS 39
abbrev N_count_together : List Str := ["one", "other", "year", "row", "grows", "found", "size", "place", "begin", "last", "turn"]
theorem sc_count_together : FnScope N_count_together ["one", "other", "year"] (defScope st_count_together) := ⟨rfl, rfl, rfl, by decide +kernel, rfl, by decide +kernel, by decide +kernel⟩
theorem ok_count_together {P : Program} {w : World} {K : PySem.W.Frag} {mg : Str → Option Value} {base h : Heap} (X0 : K.In h) (G0 : h.Ns mainGlobals mg) (c : He.SaysD fa fn K) : DefOk P w K mg base "count_together" 6 ["one", "other", "year"] (spP K 3 F_count_together) := by
  have T := facts_of X0 G0 c
  refine def_P (N := N_count_together) (st := st_count_together) (T.def_count_together) sc_count_together rfl (fun _ _ _ _ _ _ _ us hl => match us, hl with | [_, _, _], _ => rfl) (fun cdv A outer s H E hr => ?_)
  have hu := hu_room hr
  exact (qss_cons (qs_expr (q_def (ok_need_rule X0 G0 c) (hr.mono (by decide)) passes_body (qa_cons (q_var 0) qa_nil)))
    (qss_cons (qs_expr (q_def (ok_need_rule X0 G0 c) (hr.mono (by decide)) passes_body (qa_cons (q_var 1) qa_nil)))
    (qss_cons (qs_expr (q_def (ok_need_year X0 G0 c) (hr.mono (by decide)) passes_body (qa_cons (q_var 2) qa_nil)))
    (qss_cons (qs_asg (q_def (ok_apart_row X0 G0 c) (hr.mono (by decide)) passes_body (qa_cons (q_var 0) (qa_cons (q_var 1) qa_nil))) (qg_tupA rfl (qgs_cons (qg_name (i := 3) sc_count_together.nd rfl (.inl rfl)) (qgs_cons (qg_name (i := 4) sc_count_together.nd rfl (.inl rfl)) qgs_nil)) rfl))
    (qss_cons (qs_par rfl sc_count_together.nd (i := 5) (j := 6) rfl rfl (by decide) rfl rfl q_int (q_callB (fun _ => c_len) rfl T.free_len (by decide +kernel) (qa_cons (q_var 3) qa_nil)))
    (qss_cons (qs_for own_body rfl (qi_enumA rfl T.free_enumerate (qa_cons (q_slice (q_var 3) qo_none (qo_some (q_var 2))) qa_nil)) (qg_tup rfl (qgs_cons (qg_name (i := 7) sc_count_together.nd rfl (.inl rfl)) (qgs_cons (qg_name (i := 8) sc_count_together.nd rfl (.inl rfl)) qgs_nil)) rfl) (qss_cons (qs_set sc_count_together.nd (i := 9) rfl (.inl rfl) (q_op2 (fun _ => op_fdivD) (q_op2 (fun _ => op_subD) (q_op2 (fun _ => op_subD) (q_var 2) (q_var 7)) q_int) (q_var 6)))
    (qss_one (qs_if (q_cmp (fun _ => op_eqQ hu) (q_var 4) q_int (nomark _)) (qss_one (qs_aug sc_count_together.nd (i := 5) rfl (.inl rfl) (q_ifE (q_cmp (fun _ => op_eqQ hu) (q_var 8) q_int (nomark _)) (q_op2 (fun _ => op_addD) (q_var 9) q_int) q_int) ip_addQ)) (qss_cons (qs_set sc_count_together.nd (i := 10) rfl (.inl rfl) (q_def (ok_meeting_round X0 G0 c) (hr.mono (by decide)) passes_body (qa_cons (q_var 8) (qa_cons (q_var 4) (qa_cons q_int qa_nil)))))
    (qss_one (qs_aug sc_count_together.nd (i := 5) rfl (.inl rfl) (q_callT (fun _ => c_int) rfl T.free_int (by decide +kernel) (qa_cons (q_andV (q_cmpV (fun _ => op_isnQ) (q_var 10) q_non (nomark _)) (q_oneV (q_cmpV (fun _ => op_leD) (q_var 10) (q_var 9) (nomark _)))) qa_nil)) ip_addQ)))))))
    (qss_one (qs_ret (q_var 5)))))))))

abbrev st__law_source : Stmt := topS 41
abbrev N__law_source : List Str := ["script", "index", "cell_so", "primes", "prime", "mixed"]
theorem sc__law_source : FnScope N__law_source ["script", "index"] (defScope st__law_source) := ⟨rfl, rfl, rfl, by decide +kernel, rfl, by decide +kernel, by decide +kernel⟩
theorem ok__law_source {P : Program} {w : World} {K : PySem.W.Frag} {mg : Str → Option Value} {base h : Heap} (X0 : K.In h) (G0 : h.Ns mainGlobals mg) (c : He.SaysD fa fn K) : DefOk P w K mg base "_law_source" 1 ["script", "index"] (spO K 2 F__law_source) := by
  have T := facts_of X0 G0 c
  refine def_O (N := N__law_source) (st := st__law_source) (T.def__law_source) sc__law_source rfl (fun _ _ _ _ _ _ _ us hl => match us, hl with | [_, _], _ => rfl) (fun cdv A outer s H E hr => ?_)
  have hu := hu_room hr
  exact (qss_cons (qs_set sc__law_source.nd (i := 2) rfl (.inl rfl) (q_op2 (fun _ => op_addD) (q_op2 (fun _ => op_mulD) q_int (q_var 1)) q_int))
    (qss_cons (qs_if (q_cmp (fun _ => op_ltD) (q_var 1) (q_callB (fun _ => c_len) rfl T.free_len (by decide +kernel) (qa_cons (q_var 0) qa_nil)) (nomark _)) (qss_one (qs_set sc__law_source.nd (i := 2) rfl (.inl rfl) (q_ix (fun _ => ix_D) (q_var 0) (q_var 1)))) qss_nil)
    (qss_cons (qs_set sc__law_source.nd (i := 3) rfl (.inl rfl) (q_tup (qa_cons q_int (qa_cons q_int (qa_cons q_int (qa_cons q_int (qa_cons q_int (qa_cons q_int (qa_cons q_int (qa_cons q_int qa_nil))))))))))
    (qss_cons (qs_set sc__law_source.nd (i := 4) rfl (.inl rfl) (q_ix (fun _ => ix_D) (q_var 3) (q_op2 (fun _ => op_modD) (q_callT (fun _ => c_int) rfl T.free_int (by decide +kernel) (qa_cons (q_var 1) qa_nil)) q_int)))
    (qss_cons (qs_set sc__law_source.nd (i := 5) rfl (.inl rfl) (q_op2 (fun _ => op_modD) (q_callT (fun _ => c_int) rfl T.free_int (by decide +kernel) (qa_cons (q_op2 (fun _ => op_addD) (q_op2 (fun _ => op_mulD) (q_op2 (fun _ => op_modD) (q_callT (fun _ => c_int) rfl T.free_int (by decide +kernel) (qa_cons (q_var 2) qa_nil)) (q_var 4)) q_int) (q_op2 (fun _ => op_mulD) q_int (q_op2 (fun _ => op_addD) (q_var 1) q_int))) qa_nil)) (q_var 4)))
    (qss_cons (qs_if (q_cmp (fun _ => op_geD) (q_var 2) (q_op2 (fun _ => op_powD) q_int q_int) (nomark _)) (qss_one (qs_rto (qa_cons (q_callT (fun _ => c_int) rfl T.free_int (by decide +kernel) (qa_cons (q_var 2) qa_nil)) (qa_cons (q_var 5) (qa_cons (q_var 4) qa_nil))))) qss_nil)
    (qss_one (qs_rto (qa_cons q_int (qa_cons (q_var 5) (qa_cons (q_var 4) qa_nil)))))))))))

abbrev st__law_pick : Stmt := topS 42
abbrev N__law_pick : List Str := ["source_so", "many", "drawn"]
theorem sc__law_pick : FnScope N__law_pick ["source_so", "many"] (defScope st__law_pick) := ⟨rfl, rfl, rfl, by decide +kernel, rfl, by decide +kernel, by decide +kernel⟩
theorem ok__law_pick {P : Program} {w : World} {K : PySem.W.Frag} {mg : Str → Option Value} {base h : Heap} (X0 : K.In h) (G0 : h.Ns mainGlobals mg) (c : He.SaysD fa fn K) : DefOk P w K mg base "_law_pick" 1 ["source_so", "many"] (spM K 1 F__law_pick) := by
  have T := facts_of X0 G0 c
  refine def_M (N := N__law_pick) (st := st__law_pick) (T.def__law_pick) sc__law_pick rfl (fun _ _ _ _ _ _ _ us hl => match us, hl with | [_, _], _ => rfl) (fun cdv A outer s H E hr => ?_)
  have hu := hu_room hr
  exact (qss_cons (qs_if (q_cmp (fun _ => op_gtD) (q_ownIx (i := 0) rfl (.inl rfl) pe_int) q_int (nomark _)) (qss_cons (qs_set sc__law_pick.nd (i := 2) rfl (.inl rfl) (q_op2 (fun _ => op_modD) (q_callT (fun _ => c_int) rfl T.free_int (by decide +kernel) (qa_cons (q_ownIx (i := 0) rfl (.inl rfl) pe_int) qa_nil)) (q_var 1)))
    (qss_cons (qs_putIx (i := 0) rfl (.inl rfl) pe_int (q_op2 (fun _ => op_fdivD) (q_ownIx (i := 0) rfl (.inl rfl) pe_int) (q_var 1)))
    (qss_one (qs_ret (q_var 2))))) qss_nil)
    (qss_cons (qs_putIx (i := 0) rfl (.inl rfl) pe_int (q_op2 (fun _ => op_modD) (q_callT (fun _ => c_int) rfl T.free_int (by decide +kernel) (qa_cons (q_op2 (fun _ => op_addD) (q_op2 (fun _ => op_mulD) (q_ownIx (i := 0) rfl (.inl rfl) pe_int) q_int) q_int) qa_nil)) (q_ownIx (i := 0) rfl (.inl rfl) pe_int)))
    (qss_one (qs_ret (q_op2 (fun _ => op_modD) (q_callT (fun _ => c_int) rfl T.free_int (by decide +kernel) (qa_cons (q_op2 (fun _ => op_fdivD) (q_op2 (fun _ => op_modD) (q_callT (fun _ => c_int) rfl T.free_int (by decide +kernel) (qa_cons (q_op2 (fun _ => op_mulD) (q_ownIx (i := 0) rfl (.inl rfl) pe_int) (q_ownIx (i := 0) rfl (.inl rfl) pe_int)) qa_nil)) q_int) q_int) qa_nil)) (q_var 1))))))

abbrev st__law_chosen : Stmt := topS 43
abbrev N__law_chosen : List Str := ["source_so", "some"]
theorem sc__law_chosen : FnScope N__law_chosen ["source_so", "some"] (defScope st__law_chosen) := ⟨rfl, rfl, rfl, by decide +kernel, rfl, by decide +kernel, by decide +kernel⟩
theorem ok__law_chosen {P : Program} {w : World} {K : PySem.W.Frag} {mg : Str → Option Value} {base h : Heap} (X0 : K.In h) (G0 : h.Ns mainGlobals mg) (c : He.SaysD fa fn K) : DefOk P w K mg base "_law_chosen" 2 ["source_so", "some"] (spM K 1 F__law_chosen) := by
  have T := facts_of X0 G0 c
  refine def_M (N := N__law_chosen) (st := st__law_chosen) (T.def__law_chosen) sc__law_chosen rfl (fun _ _ _ _ _ _ _ us hl => match us, hl with | [_, _], _ => rfl) (fun cdv A outer s H E hr => ?_)
  have hu := hu_room hr
  exact (qss_one (qs_ret (q_ix (fun _ => ix_D) (q_var 1) (q_defM (ok__law_pick X0 G0 c) (hr.mono (by decide)) passes_body 0 (qa_cons (q_callB (fun _ => c_len) rfl T.free_len (by decide +kernel) (qa_cons (q_var 1) qa_nil)) qa_nil)))))

abbrev st__law_common : Stmt := topS 44
abbrev N__law_common : List Str := ["one", "other"]
theorem sc__law_common : FnScope N__law_common ["one", "other"] (defScope st__law_common) := ⟨rfl, rfl, rfl, by decide +kernel, rfl, by decide +kernel, by decide +kernel⟩
theorem ok__law_common {P : Program} {w : World} {K : PySem.W.Frag} {mg : Str → Option Value} {base h : Heap} (X0 : K.In h) (G0 : h.Ns mainGlobals mg) (c : He.SaysD fa fn K) : DefOk P w K mg base "_law_common" 1 ["one", "other"] (spP K 2 F__law_common) := by
  have T := facts_of X0 G0 c
  refine def_P (N := N__law_common) (st := st__law_common) (T.def__law_common) sc__law_common rfl (fun _ _ _ _ _ _ _ us hl => match us, hl with | [_, _], _ => rfl) (fun cdv A outer s H E hr => ?_)
  have hu := hu_room hr
  exact (qss_cons (qs_while own_body (q_cmp (fun _ => op_neQ hu) (q_var 1) q_int (nomark _)) (qss_one (qs_par rfl sc__law_common.nd (i := 0) (j := 1) rfl rfl (by decide) rfl rfl (q_var 1) (q_op2 (fun _ => op_modD) (q_callT (fun _ => c_int) rfl T.free_int (by decide +kernel) (qa_cons (q_var 0) qa_nil)) (q_var 1)))))
    (qss_one (qs_ret (q_var 0))))

abbrev st__law_multiple : Stmt := topS 45
abbrev N__law_multiple : List Str := ["rule_so", "found", "every_so", "rest_so", "leap_so"]
theorem sc__law_multiple : FnScope N__law_multiple ["rule_so"] (defScope st__law_multiple) := ⟨rfl, rfl, rfl, by decide +kernel, rfl, by decide +kernel, by decide +kernel⟩
theorem ok__law_multiple {P : Program} {w : World} {K : PySem.W.Frag} {mg : Str → Option Value} {base h : Heap} (X0 : K.In h) (G0 : h.Ns mainGlobals mg) (c : He.SaysD fa fn K) : DefOk P w K mg base "_law_multiple" 2 ["rule_so"] (spP K 1 F__law_multiple) := by
  have T := facts_of X0 G0 c
  refine def_P (N := N__law_multiple) (st := st__law_multiple) (T.def__law_multiple) sc__law_multiple rfl (fun _ _ _ _ _ _ _ us hl => match us, hl with | [_], _ => rfl) (fun cdv A outer s H E hr => ?_)
  have hu := hu_room hr
  exact (qss_cons (qs_set sc__law_multiple.nd (i := 1) rfl (.inl rfl) q_int)
    (qss_cons (qs_for own_body rfl (qi_seq (q_var 0)) (qg_tup rfl (qgs_cons (qg_name (i := 2) sc__law_multiple.nd rfl (.inl rfl)) (qgs_cons (qg_name (i := 3) sc__law_multiple.nd rfl (.inl rfl)) (qgs_cons (qg_name (i := 4) sc__law_multiple.nd rfl (.inl rfl)) qgs_nil))) rfl) (qss_one (qs_set sc__law_multiple.nd (i := 1) rfl (.inl rfl) (q_op2 (fun _ => op_fdivD) (q_op2 (fun _ => op_mulD) (q_var 1) (q_var 2)) (q_def (ok__law_common X0 G0 c) (hr.mono (by decide)) passes_body (qa_cons (q_var 1) (qa_cons (q_var 2) qa_nil)))))))
    (qss_one (qs_ret (q_var 1)))))

abbrev st__law_known : Stmt := topS 46
abbrev N__law_known : List Str := ["one", "two"]
theorem sc__law_known : FnScope N__law_known [] (defScope st__law_known) := ⟨rfl, rfl, rfl, by decide +kernel, rfl, by decide +kernel, by decide +kernel⟩
theorem ok__law_known {P : Program} {w : World} {K : PySem.W.Frag} {mg : Str → Option Value} {base h : Heap} (X0 : K.In h) (G0 : h.Ns mainGlobals mg) (c : He.SaysD fa fn K) : DefOk P w K mg base "_law_known" 1 [] (spP K 0 F__law_known) := by
  have T := facts_of X0 G0 c
  refine def_P (N := N__law_known) (st := st__law_known) (T.def__law_known) sc__law_known rfl (fun _ _ _ _ _ _ _ us hl => match us, hl with | [], _ => rfl) (fun cdv A outer s H E hr => ?_)
  have hu := hu_room hr
  exact (qss_cons (qs_set sc__law_known.nd (i := 0) rfl (.inl rfl) (q_tup (qa_cons (q_tup (qa_cons q_int (qa_cons q_int (qa_cons q_bl qa_nil)))) (qa_cons (q_tup (qa_cons q_int (qa_cons q_int (qa_cons q_bl qa_nil)))) (qa_cons (q_tup (qa_cons q_int (qa_cons q_int (qa_cons q_bl qa_nil)))) qa_nil)))))
    (qss_cons (qs_set sc__law_known.nd (i := 1) rfl (.inl rfl) (q_tup (qa_cons (q_tup (qa_cons q_int (qa_cons q_int (qa_cons q_bl qa_nil)))) (qa_cons (q_tup (qa_cons q_int (qa_cons q_int (qa_cons q_bl qa_nil)))) (qa_cons (q_tup (qa_cons q_int (qa_cons q_int (qa_cons q_bl qa_nil)))) (qa_cons (q_tup (qa_cons q_int (qa_cons q_int (qa_cons q_bl qa_nil)))) qa_nil))))))
    (qss_one (qs_ret (q_lst (qa_cons (q_tup (qa_cons (q_tup (qa_cons q_int (qa_cons q_int (qa_cons q_bl qa_nil)))) qa_nil)) (qa_cons (q_var 0) (qa_cons (q_var 1) (qa_cons (q_tup qa_nil) (qa_cons (q_tup (qa_cons (q_tup (qa_cons q_int (qa_cons q_int (qa_cons q_bl qa_nil)))) (qa_cons (q_tup (qa_cons q_int (qa_cons q_int (qa_cons q_bl qa_nil)))) (qa_cons (q_tup (qa_cons q_int (qa_cons q_int (qa_cons q_bl qa_nil)))) qa_nil)))) (qa_cons (q_tup (qa_cons (q_tup (qa_cons q_int (qa_cons q_int (qa_cons q_bl qa_nil)))) qa_nil)) qa_nil)))))))))))

abbrev st__law_rule : Stmt := topS 47
abbrev N__law_rule : List Str := ["source_so", "widest_so", "way", "found", "base", "turn_so", "every_so", "step_so"]
theorem sc__law_rule : FnScope N__law_rule ["source_so", "widest_so"] (defScope st__law_rule) := ⟨rfl, rfl, rfl, by decide +kernel, rfl, by decide +kernel, by decide +kernel⟩
theorem ok__law_rule {P : Program} {w : World} {K : PySem.W.Frag} {mg : Str → Option Value} {base h : Heap} (X0 : K.In h) (G0 : h.Ns mainGlobals mg) (c : He.SaysD fa fn K) : DefOk P w K mg base "_law_rule" 3 ["source_so", "widest_so"] (spM K 1 F__law_rule) := by
  have T := facts_of X0 G0 c
  refine def_M (N := N__law_rule) (st := st__law_rule) (T.def__law_rule) sc__law_rule rfl (fun _ _ _ _ _ _ _ us hl => match us, hl with | [_, _], _ => rfl) (fun cdv A outer s H E hr => ?_)
  have hu := hu_room hr
  exact (qss_cons (qs_set sc__law_rule.nd (i := 2) rfl (.inl rfl) (q_defM (ok__law_pick X0 G0 c) (hr.mono (by decide)) passes_body 0 (qa_cons q_int qa_nil)))
    (qss_cons (qs_if (q_cmp (fun _ => op_eqQ hu) (q_var 2) q_int (nomark _)) (qss_cons (qs_set sc__law_rule.nd (i := 3) rfl (.inl rfl) (q_defM (ok__law_chosen X0 G0 c) (hr.mono (by decide)) passes_body 0 (qa_cons (q_def0 (ok__law_known X0 G0 c) (hr.mono (by decide)) passes_body) qa_nil)))
    (qss_one (qs_ret (q_ifE (q_cmp (fun _ => op_leD) (q_def (ok__law_multiple X0 G0 c) (hr.mono (by decide)) passes_body (qa_cons (q_var 3) qa_nil)) (q_var 1) (nomark _)) (q_var 3) (q_slice (q_var 3) qo_none (qo_some q_int)))))) qss_nil)
    (qss_cons (qs_par rfl sc__law_rule.nd (i := 3) (j := 4) rfl rfl (by decide) rfl rfl (q_tup qa_nil) (q_defM (ok__law_chosen X0 G0 c) (hr.mono (by decide)) passes_body 0 (qa_cons (q_lst (qa_cons q_int (qa_cons q_int (qa_cons q_int (qa_cons q_int (qa_cons q_int (qa_cons q_int (qa_cons q_int (qa_cons q_int (qa_cons q_int (qa_cons q_int qa_nil))))))))))) qa_nil)))
    (qss_cons (qs_for own_body rfl (qi_range1 rfl T.free_range (qa_cons (q_defM (ok__law_pick X0 G0 c) (hr.mono (by decide)) passes_body 0 (qa_cons q_int qa_nil)) qa_nil)) (qg_name (i := 5) sc__law_rule.nd rfl (.inl rfl)) (qss_cons (qs_set sc__law_rule.nd (i := 6) rfl (.inl rfl) (q_defM (ok__law_chosen X0 G0 c) (hr.mono (by decide)) passes_body 0 (qa_cons (q_lst (qa_cons (q_op2 (fun _ => op_addD) q_int (q_defM (ok__law_pick X0 G0 c) (hr.mono (by decide)) passes_body 0 (qa_cons q_int qa_nil))) (qa_cons (q_var 4) (qa_cons (q_op2 (fun _ => op_fdivD) (q_var 4) q_int) (qa_cons (q_op2 (fun _ => op_fdivD) (q_var 4) q_int) (qa_cons (q_op2 (fun _ => op_mulD) q_int (q_var 4)) (qa_cons q_int qa_nil))))))) qa_nil)))
    (qss_cons (qs_set sc__law_rule.nd (i := 6) rfl (.inl rfl) (q_callB (fun _ => c_max rfl) rfl T.free_max (by decide +kernel) (qa_cons q_int (qa_cons (q_var 6) qa_nil))))
    (qss_cons (qs_set sc__law_rule.nd (i := 7) rfl (.inl rfl) (q_tup (qa_cons (q_var 6) (qa_cons (q_defM (ok__law_pick X0 G0 c) (hr.mono (by decide)) passes_body 0 (qa_cons (q_var 6) qa_nil)) (qa_cons (q_cmpV (fun _ => op_gtD) (q_defM (ok__law_pick X0 G0 c) (hr.mono (by decide)) passes_body 0 (qa_cons q_int qa_nil)) q_int (nomark _)) qa_nil)))))
    (qss_one (qs_if (q_cmp (fun _ => op_leD) (q_def (ok__law_multiple X0 G0 c) (hr.mono (by decide)) passes_body (qa_cons (q_op2 (fun _ => op_addD) (q_var 3) (q_tup (qa_cons (q_var 7) qa_nil))) qa_nil)) (q_var 1) (nomark _)) (qss_one (qs_set sc__law_rule.nd (i := 3) rfl (.inl rfl) (q_op2 (fun _ => op_addD) (q_var 3) (q_tup (qa_cons (q_var 7) qa_nil))))) qss_nil))))))
    (qss_one (qs_ret (q_var 3)))))))

abbrev st__law_near : Stmt := topS 48
abbrev N__law_near : List Str := ["source_so", "rule_so", "way", "every_so", "more", "place_so", "rest_so", "leap_so", "new"]
theorem sc__law_near : FnScope N__law_near ["source_so", "rule_so"] (defScope st__law_near) := ⟨rfl, rfl, rfl, by decide +kernel, rfl, by decide +kernel, by decide +kernel⟩
theorem ok__law_near {P : Program} {w : World} {K : PySem.W.Frag} {mg : Str → Option Value} {base h : Heap} (X0 : K.In h) (G0 : h.Ns mainGlobals mg) (c : He.SaysD fa fn K) : DefOk P w K mg base "_law_near" 3 ["source_so", "rule_so"] (spM K 1 F__law_near) := by
  have T := facts_of X0 G0 c
  refine def_M (N := N__law_near) (st := st__law_near) (T.def__law_near) sc__law_near rfl (fun _ _ _ _ _ _ _ us hl => match us, hl with | [_, _], _ => rfl) (fun cdv A outer s H E hr => ?_)
  have hu := hu_room hr
  exact (qss_cons (qs_set sc__law_near.nd (i := 2) rfl (.inl rfl) (q_defM (ok__law_pick X0 G0 c) (hr.mono (by decide)) passes_body 0 (qa_cons q_int qa_nil)))
    (qss_cons (qs_if (QW.qt (q_or (q_cmp (fun _ => op_eqQ hu) (q_var 1) (q_tup qa_nil) (nomark _)) (q_or1 (q_cmp (fun _ => op_eqQ hu) (q_var 2) q_int (nomark _))))) (qss_cons (qs_set sc__law_near.nd (i := 3) rfl (.inl rfl) (q_defM (ok__law_chosen X0 G0 c) (hr.mono (by decide)) passes_body 0 (qa_cons (q_lst (qa_cons q_int (qa_cons q_int (qa_cons q_int (qa_cons q_int (qa_cons q_int qa_nil)))))) qa_nil)))
    (qss_cons (qs_set sc__law_near.nd (i := 4) rfl (.inl rfl) (q_op2 (fun _ => op_addD) (q_slice (q_var 1) qo_none (qo_some q_int)) (q_tup (qa_cons (q_tup (qa_cons (q_var 3) (qa_cons (q_defM (ok__law_pick X0 G0 c) (hr.mono (by decide)) passes_body 0 (qa_cons (q_var 3) qa_nil)) (qa_cons (q_cmpV (fun _ => op_eqQ hu) (q_defM (ok__law_pick X0 G0 c) (hr.mono (by decide)) passes_body 0 (qa_cons q_int qa_nil)) q_int (nomark _)) qa_nil)))) qa_nil))))
    (qss_one (qs_ret (q_ifE (q_cmp (fun _ => op_leD) (q_def (ok__law_multiple X0 G0 c) (hr.mono (by decide)) passes_body (qa_cons (q_var 4) qa_nil)) q_int (nomark _)) (q_var 4) (q_var 1)))))) qss_nil)
    (qss_cons (qs_set sc__law_near.nd (i := 5) rfl (.inl rfl) (q_defM (ok__law_pick X0 G0 c) (hr.mono (by decide)) passes_body 0 (qa_cons (q_callB (fun _ => c_len) rfl T.free_len (by decide +kernel) (qa_cons (q_var 1) qa_nil)) qa_nil)))
    (qss_cons (qs_if (q_cmp (fun _ => op_eqQ hu) (q_var 2) q_int (nomark _)) (qss_one (qs_ret (q_op2 (fun _ => op_addD) (q_slice (q_var 1) qo_none (qo_some (q_var 5))) (q_slice (q_var 1) (qo_some (q_op2 (fun _ => op_addD) (q_var 5) q_int)) qo_none)))) qss_nil)
    (qss_cons (qs_asg (q_ix (fun _ => ix_D) (q_var 1) (q_var 5)) (qg_tupA rfl (qgs_cons (qg_name (i := 3) sc__law_near.nd rfl (.inl rfl)) (qgs_cons (qg_name (i := 6) sc__law_near.nd rfl (.inl rfl)) (qgs_cons (qg_name (i := 7) sc__law_near.nd rfl (.inl rfl)) qgs_nil))) rfl))
    (qss_cons (qs_set sc__law_near.nd (i := 8) rfl (.inl rfl) (q_ifE (q_cmp (fun _ => op_eqQ hu) (q_var 2) q_int (nomark _)) (q_tup (qa_cons (q_var 3) (qa_cons (q_var 6) (qa_cons (q_notV (q_var 7)) qa_nil)))) (q_tup (qa_cons (q_var 3) (qa_cons (q_defM (ok__law_pick X0 G0 c) (hr.mono (by decide)) passes_body 0 (qa_cons (q_var 3) qa_nil)) (qa_cons (q_var 7) qa_nil))))))
    (qss_one (qs_ret (q_op2 (fun _ => op_addD) (q_op2 (fun _ => op_addD) (q_slice (q_var 1) qo_none (qo_some (q_var 5))) (q_tup (qa_cons (q_var 8) qa_nil))) (q_slice (q_var 1) (qo_some (q_op2 (fun _ => op_addD) (q_var 5) q_int)) qo_none))))))))))

abbrev st__law_year : Stmt := topS 49
abbrev N__law_year : List Str := ["source_so"]
theorem sc__law_year : FnScope N__law_year ["source_so"] (defScope st__law_year) := ⟨rfl, rfl, rfl, by decide +kernel, rfl, by decide +kernel, by decide +kernel⟩
theorem ok__law_year {P : Program} {w : World} {K : PySem.W.Frag} {mg : Str → Option Value} {base h : Heap} (X0 : K.In h) (G0 : h.Ns mainGlobals mg) (c : He.SaysD fa fn K) : DefOk P w K mg base "_law_year" 3 ["source_so"] (spM K 0 F__law_year) := by
  have T := facts_of X0 G0 c
  refine def_M (N := N__law_year) (st := st__law_year) (T.def__law_year) sc__law_year rfl (fun _ _ _ _ _ _ _ us hl => match us, hl with | [_], _ => rfl) (fun cdv A outer s H E hr => ?_)
  have hu := hu_room hr
  exact (qss_one (qs_ret (q_op2 (fun _ => op_addD) q_int (q_defM (ok__law_pick X0 G0 c) (hr.mono (by decide)) passes_body 0 (qa_cons (q_defM (ok__law_chosen X0 G0 c) (hr.mono (by decide)) passes_body 0 (qa_cons (q_lst (qa_cons q_int (qa_cons q_int (qa_cons q_int (qa_cons (q_op2 (fun _ => op_powD) q_int q_int) (qa_cons (q_op2 (fun _ => op_powD) q_int q_int) qa_nil)))))) qa_nil)) qa_nil)))))

abbrev st__law_pair : Stmt := topS 50
abbrev N__law_pair : List Str := ["source_so", "widest_so", "one", "two", "turn_so", "other"]
theorem sc__law_pair : FnScope N__law_pair ["source_so", "widest_so"] (defScope st__law_pair) := ⟨rfl, rfl, rfl, by decide +kernel, rfl, by decide +kernel, by decide +kernel⟩
theorem ok__law_pair {P : Program} {w : World} {K : PySem.W.Frag} {mg : Str → Option Value} {base h : Heap} (X0 : K.In h) (G0 : h.Ns mainGlobals mg) (c : He.SaysD fa fn K) : DefOk P w K mg base "_law_pair" 4 ["source_so", "widest_so"] (spM K 1 F__law_pair) := by
  have T := facts_of X0 G0 c
  refine def_M (N := N__law_pair) (st := st__law_pair) (T.def__law_pair) sc__law_pair rfl (fun _ _ _ _ _ _ _ us hl => match us, hl with | [_, _], _ => rfl) (fun cdv A outer s H E hr => ?_)
  have hu := hu_room hr
  exact (qss_cons (qs_set sc__law_pair.nd (i := 2) rfl (.inl rfl) (q_defM (ok__law_rule X0 G0 c) (hr.mono (by decide)) passes_body 0 (qa_cons (q_var 1) qa_nil)))
    (qss_cons (qs_set sc__law_pair.nd (i := 3) rfl (.inl rfl) (q_defM (ok__law_near X0 G0 c) (hr.mono (by decide)) passes_body 0 (qa_cons (q_var 2) qa_nil)))
    (qss_cons (qs_for own_body rfl (qi_range1 rfl T.free_range (qa_cons (q_defM (ok__law_pick X0 G0 c) (hr.mono (by decide)) passes_body 0 (qa_cons q_int qa_nil)) qa_nil)) (qg_name (i := 4) sc__law_pair.nd rfl (.inl rfl)) (qss_one (qs_set sc__law_pair.nd (i := 3) rfl (.inl rfl) (q_defM (ok__law_near X0 G0 c) (hr.mono (by decide)) passes_body 0 (qa_cons (q_var 3) qa_nil)))))
    (qss_cons (qs_set sc__law_pair.nd (i := 5) rfl (.inl rfl) (q_defM (ok__law_rule X0 G0 c) (hr.mono (by decide)) passes_body 0 (qa_cons (q_var 1) qa_nil)))
    (qss_cons (qs_set sc__law_pair.nd (i := 3) rfl (.inl rfl) (q_ifE (q_cmp (fun _ => op_eqQ hu) (q_defM (ok__law_pick X0 G0 c) (hr.mono (by decide)) passes_body 0 (qa_cons q_int qa_nil)) q_int (nomark _)) (q_var 5) (q_var 3)))
    (qss_one (qs_ret (q_ifE (q_cmp (fun _ => op_leD) (q_def (ok__law_multiple X0 G0 c) (hr.mono (by decide)) passes_body (qa_cons (q_op2 (fun _ => op_addD) (q_var 2) (q_var 3)) qa_nil)) (q_op2 (fun _ => op_mulD) q_int (q_var 1)) (nomark _)) (q_tup (qa_cons (q_var 2) (qa_cons (q_var 3) qa_nil))) (q_tup (qa_cons (q_var 2) (qa_cons (q_rev (q_var 2)) qa_nil)))))))))))

abbrev st_law : Stmt := topS 51
abbrev N_law : List Str := ["script", "k", "source_so", "one", "two", "three", "look", "year_so", "first", "second", "far", "back", "top", "found", "before"]
theorem sc_law : FnScope N_law ["script"] (defScope st_law) := ⟨rfl, rfl, rfl, by decide +kernel, rfl, by decide +kernel, by decide +kernel⟩
theorem ok_law {P : Program} {w : World} {K : PySem.W.Frag} {mg : Str → Option Value} {h : Heap} (X0 : K.In h) (G0 : h.Ns mainGlobals mg) (c : He.SaysD fa fn K) : LawOk P w K mg "law" 7 "script" (spP K 1 F_law) := by
  have T := facts_of X0 G0 c
  refine def_L (N := N_law) (st := st_law) (T.def_law) sc_law (fun _ _ _ _ _ _ _ us hl => match us, hl with | [_], _ => rfl) (fun base _ _ cdv A outer s H E hr => ?_)
  have hu := hu_room hr
  exact (qss_cons (qs_for own_body rfl (qi_range1 rfl T.free_range (qa_cons q_int qa_nil)) (qg_name (i := 1) sc_law.nd rfl (.inl rfl)) (qss_cons (qs_defO (ok__law_source X0 G0 c) (hr.mono (by decide)) passes_body 2 (qa_cons (q_var 0) (qa_cons (q_var 1) qa_nil)) sc_law.nd (.inl rfl))
    (qss_cons (qs_asg (q_defM (ok__law_pair X0 G0 c) (hr.mono (by decide)) passes_body 2 (qa_cons q_int qa_nil)) (qg_tupA rfl (qgs_cons (qg_name (i := 3) sc_law.nd rfl (.inl rfl)) (qgs_cons (qg_name (i := 4) sc_law.nd rfl (.inl rfl)) qgs_nil)) rfl))
    (qss_cons (qs_set sc_law.nd (i := 5) rfl (.inl rfl) (q_defM (ok__law_near X0 G0 c) (hr.mono (by decide)) passes_body 2 (qa_cons (q_var 4) qa_nil)))
    (qss_cons (qs_set sc_law.nd (i := 5) rfl (.inl rfl) (q_ifE (q_cmp (fun _ => op_leD) (q_def (ok__law_multiple X0 G0 c) (hr.mono (by decide)) passes_body (qa_cons (q_op2 (fun _ => op_addD) (q_op2 (fun _ => op_addD) (q_var 3) (q_var 4)) (q_var 5)) qa_nil)) q_int (nomark _)) (q_var 5) (q_var 3)))
    (qss_cons (qs_for own_body rfl (qi_range1 rfl T.free_range (qa_cons q_int qa_nil)) (qg_name (i := 6) sc_law.nd rfl (.inl rfl)) (qss_cons (qs_set sc_law.nd (i := 7) rfl (.inl rfl) (q_op2 (fun _ => op_addD) q_int (q_op2 (fun _ => op_fdivD) (q_defM (ok__law_year X0 G0 c) (hr.mono (by decide)) passes_body 2 qa_nil) q_int)))
    (qss_cons (qs_par rfl sc_law.nd (i := 8) (j := 9) rfl rfl (by decide) rfl rfl (q_def (ok_apart X0 G0 c) (hr.mono (by decide)) passes_body (qa_cons (q_var 3) (qa_cons (q_var 4) (qa_cons (q_var 7) qa_nil)))) (q_def (ok_apart X0 G0 c) (hr.mono (by decide)) passes_body (qa_cons (q_var 4) (qa_cons (q_var 5) (qa_cons (q_var 7) qa_nil)))))
    (qss_cons (qs_if (QW.qt (q_or (q_cmp (fun _ => op_neQ hu) (q_def (ok_apart X0 G0 c) (hr.mono (by decide)) passes_body (qa_cons (q_var 3) (qa_cons (q_var 5) (qa_cons (q_var 7) qa_nil)))) (q_op2 (fun _ => op_addD) (q_var 8) (q_var 9)) (nomark _)) (q_or1 (q_cmp (fun _ => op_neQ hu) (q_def (ok_apart X0 G0 c) (hr.mono (by decide)) passes_body (qa_cons (q_var 4) (qa_cons (q_var 3) (qa_cons (q_var 7) qa_nil)))) (q_op2 (fun _ => op_subD) q_int (q_var 8)) (nomark _))))) (qss_one (qs_ret q_bl)) qss_nil)
    (qss_one (qs_if (q_cmp (fun _ => op_neQ hu) (q_def (ok_apart X0 G0 c) (hr.mono (by decide)) passes_body (qa_cons (q_var 3) (qa_cons (q_var 4) (qa_cons (q_op2 (fun _ => op_addD) (q_var 7) q_int) qa_nil)))) (q_op2 (fun _ => op_subD) (q_def (ok_leaps_to X0 G0 c) (hr.mono (by decide)) passes_body (qa_cons (q_var 3) (qa_cons (q_var 7) qa_nil))) (q_def (ok_leaps_to X0 G0 c) (hr.mono (by decide)) passes_body (qa_cons (q_var 4) (qa_cons (q_var 7) qa_nil)))) (nomark _)) (qss_one (qs_ret q_bl)) qss_nil))))))
    (qss_cons (qs_if (QW.qt (q_or (q_cmp (fun _ => op_neQ hu) (q_def (ok_apart X0 G0 c) (hr.mono (by decide)) passes_body (qa_cons (q_var 3) (qa_cons (q_var 4) (qa_cons q_int qa_nil)))) q_int (nomark _)) (q_or1 (q_cmp (fun _ => op_isnQ) (q_def (ok_first_apart X0 G0 c) (hr.mono (by decide)) passes_body (qa_cons (q_var 3) (qa_cons (q_var 3) (qa_cons q_int qa_nil)))) q_non (nomark _))))) (qss_one (qs_ret q_bl)) qss_nil)
    (qss_cons (qs_set sc_law.nd (i := 10) rfl (.inl rfl) (q_lst (qa_cons (q_def (ok_farthest_apart X0 G0 c) (hr.mono (by decide)) passes_body (qa_cons (q_var 3) (qa_cons (q_var 4) qa_nil))) (qa_cons (q_def (ok_farthest_apart X0 G0 c) (hr.mono (by decide)) passes_body (qa_cons (q_var 4) (qa_cons (q_var 5) qa_nil))) (qa_cons (q_def (ok_farthest_apart X0 G0 c) (hr.mono (by decide)) passes_body (qa_cons (q_var 3) (qa_cons (q_var 5) qa_nil))) qa_nil)))))
    (qss_cons (qs_if (QW.qt (q_and (q_cmp (fun _ => op_isnQ) (q_ix (fun _ => ix_D) (q_var 10) q_int) q_non (nomark _)) (q_and1 (q_cmp (fun _ => op_isnQ) (q_ix (fun _ => ix_D) (q_var 10) q_int) q_non (nomark _))))) (qss_one (qs_if (QW.qt (q_or (q_cmp (fun _ => op_isQ) (q_ix (fun _ => ix_D) (q_var 10) q_int) q_non (nomark _)) (q_or1 (q_cmp (fun _ => op_gtD) (q_ix (fun _ => ix_D) (q_ix (fun _ => ix_D) (q_ix (fun _ => ix_D) (q_var 10) q_int) q_int) q_int) (q_op2 (fun _ => op_addD) (q_ix (fun _ => ix_D) (q_ix (fun _ => ix_D) (q_ix (fun _ => ix_D) (q_var 10) q_int) q_int) q_int) (q_ix (fun _ => ix_D) (q_ix (fun _ => ix_D) (q_ix (fun _ => ix_D) (q_var 10) q_int) q_int) q_int)) (nomark _))))) (qss_one (qs_ret q_bl)) qss_nil)) qss_nil)
    (qss_cons (qs_if (q_cmp (fun _ => op_isnQ) (q_ix (fun _ => ix_D) (q_var 10) q_int) q_non (nomark _)) (qss_cons (qs_set sc_law.nd (i := 11) rfl (.inl rfl) (q_def (ok_farthest_apart X0 G0 c) (hr.mono (by decide)) passes_body (qa_cons (q_var 4) (qa_cons (q_var 3) qa_nil))))
    (qss_cons (qs_if (q_cmp (fun _ => op_neQ hu) (q_tup (qa_cons (q_ix (fun _ => ix_D) (q_ix (fun _ => ix_D) (q_var 11) q_int) q_int) (qa_cons (q_ix (fun _ => ix_D) (q_ix (fun _ => ix_D) (q_var 11) q_int) q_int) qa_nil))) (q_tup (qa_cons (q_op2 (fun _ => op_subD) q_int (q_ix (fun _ => ix_D) (q_ix (fun _ => ix_D) (q_ix (fun _ => ix_D) (q_var 10) q_int) q_int) q_int)) (qa_cons (q_op2 (fun _ => op_subD) q_int (q_ix (fun _ => ix_D) (q_ix (fun _ => ix_D) (q_ix (fun _ => ix_D) (q_var 10) q_int) q_int) q_int)) qa_nil))) (nomark _)) (qss_one (qs_ret q_bl)) qss_nil)
    (qss_cons (qs_set sc_law.nd (i := 12) rfl (.inl rfl) (q_callB (fun _ => c_max rfl) rfl T.free_max (by decide +kernel) (qa_cons (q_ix (fun _ => ix_D) (q_ix (fun _ => ix_D) (q_ix (fun _ => ix_D) (q_var 10) q_int) q_int) q_int) (qa_cons (q_op2 (fun _ => op_subD) q_int (q_ix (fun _ => ix_D) (q_ix (fun _ => ix_D) (q_ix (fun _ => ix_D) (q_var 10) q_int) q_int) q_int)) qa_nil))))
    (qss_one (qs_if (QW.qt (q_or (q_cmp (fun _ => op_isnQ) (q_def (ok_first_apart X0 G0 c) (hr.mono (by decide)) passes_body (qa_cons (q_var 3) (qa_cons (q_var 4) (qa_cons (q_var 12) qa_nil)))) q_non (nomark _)) (q_or1 (QW.qt (q_and (q_cmp (fun _ => op_gtD) (q_var 12) q_int (nomark _)) (q_and1 (q_cmp (fun _ => op_isQ) (q_def (ok_first_apart X0 G0 c) (hr.mono (by decide)) passes_body (qa_cons (q_var 3) (qa_cons (q_var 4) (qa_cons (q_op2 (fun _ => op_subD) (q_var 12) q_int) qa_nil)))) q_non (nomark _)))))))) (qss_one (qs_ret q_bl)) qss_nil))))) qss_nil)
    (qss_cons (qs_set sc_law.nd (i := 7) rfl (.inl rfl) (q_op2 (fun _ => op_addD) q_int (q_defM (ok__law_pick X0 G0 c) (hr.mono (by decide)) passes_body 2 (qa_cons q_int qa_nil))))
    (qss_cons (qs_set sc_law.nd (i := 13) rfl (.inl rfl) (q_def (ok_next_together X0 G0 c) (hr.mono (by decide)) passes_body (qa_cons (q_var 3) (qa_cons (q_var 4) (qa_cons (q_var 7) qa_nil)))))
    (qss_cons (qs_if (q_cmp (fun _ => op_isnQ) (q_var 13) q_non (nomark _)) (qss_cons (qs_set sc_law.nd (i := 14) rfl (.inl rfl) (q_ifE (q_cmp (fun _ => op_gtD) (q_var 7) q_int (nomark _)) (q_def (ok_count_together X0 G0 c) (hr.mono (by decide)) passes_body (qa_cons (q_var 3) (qa_cons (q_var 4) (qa_cons (q_op2 (fun _ => op_subD) (q_var 7) q_int) qa_nil)))) q_int))
    (qss_one (qs_if (QW.qt (q_or (q_cmp (fun _ => op_neQ hu) (q_def (ok_apart X0 G0 c) (hr.mono (by decide)) passes_body (qa_cons (q_var 3) (qa_cons (q_var 4) (qa_cons (q_var 13) qa_nil)))) q_int (nomark _)) (q_or1 (q_cmp (fun _ => op_neQ hu) (q_def (ok_count_together X0 G0 c) (hr.mono (by decide)) passes_body (qa_cons (q_var 3) (qa_cons (q_var 4) (qa_cons (q_var 13) qa_nil)))) (q_op2 (fun _ => op_addD) (q_var 14) q_int) (nomark _))))) (qss_one (qs_ret q_bl)) qss_nil))) qss_nil)
    (qss_one (qs_if (q_cmp (fun _ => op_neQ hu) (q_def (ok_count_together X0 G0 c) (hr.mono (by decide)) passes_body (qa_cons (q_var 3) (qa_cons (q_var 3) (qa_cons (q_var 7) qa_nil)))) (q_var 7) (nomark _)) (qss_one (qs_ret q_bl)) qss_nil)))))))))))))))
    (qss_one (qs_ret q_bl)))

end
end LK
set_option Elab.async false
set_option linter.all false
set_option maxRecDepth 100000
set_option maxHeartbeats 4000000
namespace LK
open PySem PySem.Spec PyProof.Rows L2 QL
theorem is_integer_any (d : D) : F_is_integer [d] = .ok (.bool (isIntB d)) := by
  apply ok_of; rw [run_is_integer]
  cases d <;> simp [S_is_integer, isIntB, tbD]
theorem is_integer_i {a : Int} : F_is_integer [.int a] = .ok (.bool true) := is_integer_any _

theorem is_between_any (d : D) {b c : Int} : F_is_between [d, .int b, .int c] = .ok (.bool (isBtw d b c)) := by
  apply ok_of; rw [run_is_between]; simp [S_is_between, ↓lift_of (is_integer_any d)]
  cases d with
  | int a => by_cases h : b ≤ a <;> simp [h, isBtw, isIntB, tbD]
  | _ => simp [isIntB, isBtw, tbD]
theorem is_between_i {a b c : Int} : F_is_between [.int a, .int b, .int c] = .ok (.bool (decide (b ≤ a ∧ a ≤ c))) := is_between_any _

theorem divisor_of_i {a b : Int} (ha : 0 ≤ a) (hb : 0 ≤ b) (hb2 : b < 10 ^ 40) : F_divisor_of [.int a, .int b] = .ok (.int (Int.gcd a b : Nat)) := by
  apply ok_of; rw [run_divisor_of]; simp [S_divisor_of]
  refine wp_while (fun p : Int × Int => [.im (.int p.1), .im (.int p.2)]) (fun p => 0 ≤ p.1 ∧ 0 ≤ p.2 ∧ Int.gcd p.1 p.2 = Int.gcd a b) (fun p => p.2.toNat) (a, b) ⟨ha, hb, rfl⟩ (by omega) ?_
  intro ⟨x, y⟩ ⟨hx, hy, hg⟩
  dsimp only at hx hy hg ⊢
  simp [BoolP_decide]
  refine ⟨fun e => ?_, fun e => ?_⟩
  · subst e
    rw [← hg, Int.gcd_zero]
    omega
  · have hp : 0 < y := by omega
    have := Int.emod_lt_of_pos x hp
    have h0 := Int.emod_nonneg x e
    exact ⟨hp, nxq (_, _) rfl ⟨⟨hy, h0, by rw [gcd_step hx hp, hg]⟩, by dsimp only; omega⟩⟩

theorem multiple_of_i {ns : List Int} (h : ∀ n ∈ ns, 1 ≤ n ∧ n ≤ 10000) (hl : ns.length ≤ 12) : F_multiple_of [.list (ns.map .int)] = .ok (.int (lcmN ns : Nat)) := by
  apply ok_of; rw [run_multiple_of]; simp [S_multiple_of]
  refine wp_loop PyData.int (fun p : Nat × Sl => [.im (.list (ns.map .int)), .im (.int (p.1 : Nat)), p.2]) (fun xs p => 0 < p.1 ∧ p.1 * 10000 ^ xs.length ≤ 10000 ^ 12 ∧ (∀ n ∈ xs, 1 ≤ n ∧ n ≤ 10000) ∧ xs.foldl (fun a n => Nat.lcm a n.toNat) p.1 = lcmN ns) ?_ ?_ ns (1, .no) ?_
  · intro ⟨a, s⟩ ⟨_, _, _, h4⟩
    dsimp only at h4 ⊢
    simp
    exact congrArg Int.ofNat h4
  · intro x xs ⟨a, s⟩ ⟨h1, h2, h3, h4⟩
    dsimp only at h1 h2 h3 h4 ⊢
    have hx := h3 x (List.mem_cons_self ..)
    have hb : a ≤ 10000 ^ 12 := Nat.le_trans (Nat.le_mul_of_pos_right a (Nat.pow_pos (by omega))) h2
    have hg : 0 < Int.gcd a x := Int.gcd_pos_of_ne_zero_right _ (by omega)
    have hg2 : (Int.gcd a x : Int) ≤ x := Int.gcd_le_right _ (by omega)
    simp [↓lift_of (divisor_of_i (a := (a : Int)) (b := x) (by omega) (by omega) (by omega)), lcm_quot h1 (show 0 < x by omega)]
    refine ⟨MulOk_of (by omega) (by omega) (by omega) (by omega), FdOk_of (by omega) (by omega), nxq (_, _) rfl ⟨Nat.lcm_pos h1 (by omega), ?_, fun n hn => h3 n (List.mem_cons_of_mem _ hn), h4⟩⟩
    refine Nat.le_trans (Nat.mul_le_mul_right _ (Nat.lcm_le_mul h1 (show 0 < x.toNat by omega))) ?_
    rw [List.length_cons, Nat.pow_succ] at h2
    refine Nat.le_trans ?_ h2
    rw [Nat.mul_assoc, Nat.mul_comm (10000 ^ _) 10000]
    exact Nat.mul_le_mul_left _ (Nat.mul_le_mul_right _ (by omega))
  · refine ⟨by omega, ?_, h, rfl⟩
    rw [Nat.one_mul]
    exact Nat.pow_le_pow_right (by omega) hl

theorem is_step_i {s : Step} (h : StepOk s) : F_is_step [stepD s] = .ok (.bool true) := by
  obtain ⟨h1, h2, h3, h4⟩ := h
  apply ok_of; rw [run_is_step]; simp [S_is_step, stepD, ↓lift_of is_between_i, h1, h2, h3, h4]

theorem a_rule_i {r : List Step} (h : RuleOk r) : F_a_rule [ruleD r] = .ok (.bool true) := by
  have hl := h.len
  apply ok_of; rw [run_a_rule]; simp [S_a_rule, ruleD]
  have e : decide (6 < (r.length : Int)) = false := by simp; omega
  simp [e]
  refine comp_all stepD (fun _ => .bool true) r [.im (ruleD r), .no] rfl rfl rfl (by simp [sizeLine]; omega) ?_ ?_
  · intro s hs
    simp [↓lift_of (is_step_i (h.steps s hs))]
    exact ⟨rfl, rfl⟩
  · rw [show (r.map fun _ => PyData.bool true) = (r.map fun _ => true).map .bool by simp, OptP_all]
    simp only [List.all_map, BoolP_decide, show (r.all (id ∘ fun _ => true)) = true by simp, BoolP_T]
    simp
    refine comp_all stepD (fun s => .int s.1) r [.im (ruleD r), .no] rfl rfl rfl (by simp [sizeLine]; omega) ?_ ?_
    · intro s hs
      simp [stepD]
      exact ⟨rfl, rfl⟩
    · rw [show (r.map fun s => PyData.int s.1) = (r.map (·.1)).map .int by simp]
      have hb : ∀ n ∈ r.map (·.1), 1 ≤ n ∧ n ≤ 10000 := fun n hn => by
        obtain ⟨s, hs, rfl⟩ := List.mem_map.mp hn
        exact ⟨(h.steps s hs).1, (h.steps s hs).2.1⟩
      simp only [LenP_1, lift_of (multiple_of_i hb (by simp; omega))]
      simp
      exact Int.ofNat_le.mpr h.lcm
def isTupB : D → Bool
  | .tuple _ => true
  | _ => false
theorem a_rule_no {d : D} (h : isTupB d = false) : F_a_rule [d] = .ok (.bool false) := by
  apply ok_of; rw [run_a_rule]
  cases d <;> simp [S_a_rule] <;> simp [isTupB] at h
theorem is_step_no {d : D} (h : isTupB d = false) : F_is_step [d] = .ok (.bool false) := by
  apply ok_of; rw [run_is_step]
  cases d <;> simp [S_is_step] <;> simp [isTupB] at h
/-- a tuple with what is no tuple -/
theorem a_rule_one {d : D} (h : isTupB d = false) : F_a_rule [.tuple [d]] = .ok (.bool false) := by
  apply ok_of; rw [run_a_rule]; simp [S_a_rule]
  refine comp_all (fun d : D => d) (fun _ => .bool false) [d] [.im (.tuple [d]), .no] rfl rfl rfl (by simp [sizeLine]) ?_ ?_
  · intro x hx
    rw [List.mem_singleton.mp hx]
    simp [↓lift_of (is_step_no h)]
    exact ⟨rfl, rfl⟩
  · rw [show ([d].map fun _ => PyData.bool false) = ([false]).map .bool from rfl, OptP_all]
    simp

theorem need_rule_i {r : List Step} (h : RuleOk r) : F_need_rule [ruleD r] = .ok .none := by
  apply ok_of; rw [run_need_rule]; simp [S_need_rule, ↓lift_of (a_rule_i h)]
theorem need_rule_err {d : D} (h : isTupB d = false) : F_need_rule [d] = .err ⟨"InvalidRule", none⟩ := by
  apply err_of; rw [run_need_rule]; simp [S_need_rule, ↓lift_of (a_rule_no h)]
theorem need_rule_one {d : D} (h : isTupB d = false) : F_need_rule [.tuple [d]] = .err ⟨"InvalidRule", none⟩ := by
  apply err_of; rw [run_need_rule]; simp [S_need_rule, ↓lift_of (a_rule_one h)]

theorem need_year_i {y : Int} (h : 1 ≤ y) (h2 : y ≤ 1000000000000000) : F_need_year [.int y] = .ok .none := by
  apply ok_of; rw [run_need_year]; simp [S_need_year, ↓lift_of is_between_i, h, h2]
theorem need_year_err {d : D} (h : isBtw d 1 1000000000000000 = false) : F_need_year [d] = .err ⟨"InvalidYear", none⟩ := by
  apply err_of; rw [run_need_year]; simp [S_need_year, ↓lift_of (is_between_any d), h]

theorem need_days_i {d : Int} (h : 0 ≤ d) (h2 : d ≤ 1000) : F_need_days [.int d] = .ok .none := by
  apply ok_of; rw [run_need_days]; simp [S_need_days, ↓lift_of is_between_i, h, h2]
theorem need_days_err {d : D} (h : isBtw d 0 1000 = false) : F_need_days [d] = .err ⟨"InvalidDays", none⟩ := by
  apply err_of; rw [run_need_days]; simp [S_need_days, ↓lift_of (is_between_any d), h]

theorem leap_in_i {r : List Step} (h : ∀ s ∈ r, 1 ≤ s.1) (y : Int) : F_leap_in [ruleD r, .int y] = .ok (.bool (leapAt r y)) := by
  apply ok_of; rw [run_leap_in]; simp [S_leap_in, ruleD]
  rw [← List.map_reverse, leapAt_rev]
  refine wp_loop stepD (fun p : Sl × Sl × Sl => [.im (.tuple (r.map stepD)), .im (.int y), p.1, p.2.1, p.2.2]) (fun xs p => (∀ s ∈ xs, 1 ≤ s.1) ∧ leapRev xs y = leapRev r.reverse y) ?_ ?_ r.reverse (.no, .no, .no) ⟨fun s hs => h s (List.mem_reverse.mp hs), rfl⟩
  · intro p ⟨_, hp⟩
    simp
    exact hp.symm
  · intro s xs ⟨a, b, c⟩ ⟨h1, h2⟩
    have hs := h1 s (List.mem_cons_self ..)
    simp [stepD, BoolP_decide, -Prod.forall]
    refine ⟨by omega, fun e => ?_, fun e => nxq (_, _, _) rfl ⟨fun s hs => h1 s (List.mem_cons_of_mem _ hs), ?_⟩⟩
    · rw [← h2]; unfold leapRev; rw [if_pos e]
    · rw [← h2]; conv => rhs; unfold leapRev
      rw [if_neg e]

theorem whole_round_i {r : List Step} (h : ∀ s ∈ r, StepOk s) (hl : r.length ≤ 12) : F_whole_round [ruleD r] = .ok (.int (lcmS r : Nat)) := by
  apply ok_of; rw [run_whole_round]; simp [S_whole_round, ruleD]
  refine comp_all stepD (fun s => .int s.1) r [.im (ruleD r), .no] rfl rfl rfl (by simp [sizeLine]; omega) ?_ ?_
  · intro s hs
    simp [stepD]
    exact ⟨rfl, rfl⟩
  · rw [show (r.map fun s => PyData.int s.1) = (r.map (·.1)).map .int by simp]
    have hb : ∀ n ∈ r.map (·.1), 1 ≤ n ∧ n ≤ 10000 := fun n hn => by
      obtain ⟨s, hs, rfl⟩ := List.mem_map.mp hn
      exact ⟨(h s hs).1, (h s hs).2.1⟩
    simp only [LenP_1, lift_of (multiple_of_i hb (by simp; omega))]
    simp
    rfl

theorem leaps_of_i {r : List Step} (h : ∀ s ∈ r, 1 ≤ s.1) {n : Nat} (hn : n ≤ 10000000) : F_leaps_of [ruleD r, .int (n : Nat)] = .ok (.list ((leapsL r n).map .bool)) := by
  apply ok_of; rw [run_leaps_of]; simp [S_leaps_of]
  refine ⟨⟨small62_of (by omega) (by omega), small62_of (by omega) (by omega)⟩, ?_⟩
  rw [range_enc]
  refine comp_all (fun i : Nat => .int (1 + (i : Nat))) (fun i => .bool (leapAt r (1 + (i : Nat)))) (List.range n) [.im (ruleD r), .im (.int n), .no] rfl rfl rfl (by simp [sizeLine]; omega) ?_ ?_
  · intro i hi
    simp [↓lift_of (leap_in_i h (1 + (i : Int)))]
    exact ⟨rfl, rfl⟩
  · simp [leapsL]

theorem sums_of_i {r : List Step} (h : ∀ s ∈ r, 1 ≤ s.1) {n : Nat} (hn : n ≤ 10000000) : F_sums_of [ruleD r, .int (n : Nat)] = .ok (.list ((sumsL r n).map .int)) := by
  apply ok_of; rw [run_sums_of]; simp [S_sums_of, ↓lift_of (leaps_of_i h hn), leapsL]
  refine wp_count (fun i : Nat => .bool (leapAt r (1 + (i : Nat)))) n (fun p : Nat × Sl => [.im (ruleD r), .im (.int n), .mu ((sumsL r p.1).map .int), .im (.int (countL' r p.1 : Nat)), p.2]) (fun k p => p.1 = k) ?_ ?_ (0, .no) rfl
  · intro ⟨k, s⟩ e
    dsimp only at e
    subst e
    simp
  · intro k ⟨k', s⟩ hk e
    dsimp only at e
    subst e
    simp [RoomP, sumsL_length]
    refine ⟨by simp [sizeLine]; omega, nxq (k' + 1, .im (.bool (leapAt r (1 + (k' : Nat))))) ?_ rfl⟩
    dsimp only
    rw [sumsL_succ, List.map_append, countL_succ]
    by_cases e : leapAt r (1 + (k' : Int)) = true <;> simp [e]

theorem count_to_i {r : List Step} {n : Nat} (hn : 0 < n) (hn2 : n ≤ 1000000) (hp : Per (leapF r) n) {y : Nat} (hy : y ≤ 10000000000000000) : F_count_to [.list ((sumsL r n).map .int), .int (y : Nat)] = .ok (.int (countL' r y : Nat)) := by
  have hm : y % n < n := Nat.mod_lt _ hn
  have hd : y / n ≤ y := Nat.div_le_self _ _
  have hc := cnt_le (leapF r) n
  have h0 : (0 : Int) ≤ (y : Int) / (n : Int) := Int.ediv_nonneg (by omega) (by omega)
  have e1 : atI ((sumsL r n).map PyData.int) ((y : Int) % (n : Int)) = some (.int (countL' r (y % n) : Nat)) := by
    rw [← Int.natCast_emod, QL.atI_nat, List.getElem?_map, sumsL_at r (by omega)]; rfl
  apply ok_of; rw [run_count_to]; simp [S_count_to, sumsL_length, ↓opt_of (sumsL_last r n), ↓opt_of e1]
  rw [pdiv_pos (by omega), ← Int.natCast_ediv]
  refine ⟨FdOk_of (by omega) (by omega), MulOk_of (by omega) (by omega) (by rw [countL_eq]; omega) (by rw [countL_eq]; omega), hn, ?_⟩
  simp only [countL_eq]
  rw [cnt_div hp y]
  omega

theorem round_sums_i {r : List Step} (h : RuleOk r) : F_round_sums [ruleD r] = .ok (.list ((sumsL r (lcmS r)).map .int)) := by
  apply ok_of; rw [run_round_sums]; simp [S_round_sums, ↓lift_of (whole_round_i h.steps (by have := h.len; omega)), ↓lift_of (sums_of_i h.one (n := lcmS r) (by have := h.lcm; omega))]

theorem leaps_to_i {r : List Step} (h : RuleOk r) {y : Nat} (h1 : 1 ≤ y) (h2 : y ≤ 1000000000000000) : F_leaps_to [ruleD r, .int (y : Nat)] = .ok (.int (countL' r y : Nat)) := by
  apply ok_of; rw [run_leaps_to]; simp [S_leaps_to, ↓lift_of (need_rule_i h), ↓lift_of (need_year_i (y := (y : Int)) (by omega) (by omega)), ↓lift_of (round_sums_i h), ↓lift_of (count_to_i (lcmS_pos h.steps) (by have := h.lcm; omega) (leapF_per h.one) (y := y) (by omega))]
theorem leaps_to_err {r : List Step} (h : RuleOk r) {d : D} (hb : isBtw d 1 1000000000000000 = false) : F_leaps_to [ruleD r, d] = .err ⟨"InvalidYear", none⟩ := by
  apply err_of; rw [run_leaps_to]; simp [S_leaps_to, ↓lift_of (need_rule_i h), ↓lift_err (need_year_err hb)]

/-- an int, or none -/
def optI : Option Int → D
  | some z => .int z
  | none => .none
theorem isNone_optI (s : Option Int) : isNone (optI s) = s.isNone := by cases s <;> rfl
/-- up to which round, and from which one on, a number is beyond a limit -/
def bnd (b g L : Int) : Option Int × Option Int :=
  if g = 0 then (if L < b.natAbs then (none, some 0) else (some (-1), none))
  else if g < 0 then (some ((0 - L - (0 - b) + (0 - g) - 1) / (0 - g) - 1), some ((L - (0 - b)) / (0 - g) + 1))
  else (some ((0 - L - b + g - 1) / g - 1), some ((L - b) / g + 1))
def bndD (p : Option Int × Option Int) : D := .tuple [optI p.1, optI p.2]
/-- whether a round is within these bounds -/
def inB (p : Option Int × Option Int) (q : Int) : Bool := (match p.1 with | none => true | some u => decide (q ≤ u)) || (match p.2 with | none => false | some o => decide (o ≤ q))
theorem bnd_pos {b g L q : Int} (hg : 1 ≤ g) : (q ≤ (0 - L - b + g - 1) / g - 1 ↔ b + q * g < -L) ∧ ((L - b) / g + 1 ≤ q ↔ L < b + q * g) := by
  have h1 : q + 1 ≤ (0 - L - b + g - 1) / g ↔ (q + 1) * g ≤ 0 - L - b + g - 1 := Int.le_ediv_iff_mul_le (by omega)
  have h2 : (L - b) / g < q ↔ L - b < q * g := Int.ediv_lt_iff_lt_mul (by omega)
  rw [Int.add_mul, Int.one_mul] at h1
  constructor
  · constructor
    · intro h; have := h1.mp (by omega); omega
    · intro h; have := h1.mpr (by omega); omega
  · constructor
    · intro h; have := h2.mp (by omega); omega
    · intro h; have := h2.mpr (by omega); omega
theorem bnd_spec {b g L : Int} (hL : 0 ≤ L) {q : Int} (hq : 0 ≤ q) : inB (bnd b g L) q = beyB L (b + q * g) := by
  unfold bnd beyB
  by_cases h0 : g = 0
  · subst h0
    rw [if_pos rfl, Int.mul_zero, Int.add_zero]
    by_cases h : L < b.natAbs
    · rw [if_pos h, decide_eq_true (show L < b ∨ b < -L by omega)]; rfl
    · rw [if_neg h, decide_eq_false (show ¬ (L < b ∨ b < -L) by omega)]
      simp [inB]; omega
  · rw [if_neg h0]
    by_cases h1 : g < 0
    · rw [if_pos h1]
      obtain ⟨e1, e2⟩ := bnd_pos (b := 0 - b) (g := 0 - g) (L := L) (q := q) (by omega)
      have e3 : q * (0 - g) = - (q * g) := by rw [Int.zero_sub, Int.mul_neg]
      rw [e3] at e1 e2
      simp only [inB]
      rw [Bool.eq_iff_iff, Bool.or_eq_true, decide_eq_true_eq, decide_eq_true_eq, decide_eq_true_eq, e1, e2]
      omega
    · rw [if_neg h1]
      obtain ⟨e1, e2⟩ := bnd_pos (b := b) (g := g) (L := L) (q := q) (by omega)
      simp only [inB]
      rw [Bool.eq_iff_iff, Bool.or_eq_true, decide_eq_true_eq, decide_eq_true_eq, decide_eq_true_eq, e1, e2]
      omega
/-- bounds are not far -/
theorem bnd_far {b g L : Int} (hL : 0 ≤ L) : (∀ u, (bnd b g L).1 = some u → u.natAbs ≤ L.natAbs + b.natAbs + g.natAbs + 3) ∧ ∀ o, (bnd b g L).2 = some o → o.natAbs ≤ L.natAbs + b.natAbs + 1 := by
  unfold bnd
  by_cases h0 : g = 0
  · rw [if_pos h0]
    split
    · exact ⟨fun u h => by simp at h, fun o h => by simp at h; omega⟩
    · exact ⟨fun u h => by simp at h; omega, fun o h => by simp at h⟩
  · rw [if_neg h0]
    by_cases h1 : g < 0
    · rw [if_pos h1]
      have a1 := ediv_abs (x := 0 - L - (0 - b) + (0 - g) - 1) (g := 0 - g) (by omega)
      have a2 := ediv_abs (x := L - (0 - b)) (g := 0 - g) (by omega)
      exact ⟨fun u h => by simp only [Option.some.injEq] at h; omega, fun o h => by simp only [Option.some.injEq] at h; omega⟩
    · rw [if_neg h1]
      have a1 := ediv_abs (x := 0 - L - b + g - 1) (g := g) (by omega)
      have a2 := ediv_abs (x := L - b) (g := g) (by omega)
      exact ⟨fun u h => by simp only [Option.some.injEq] at h; omega, fun o h => by simp only [Option.some.injEq] at h; omega⟩
theorem bounds_of_i {b g L : Int} (hg : g.natAbs ≤ 1000000000000000000000000000000) : F_bounds_of [.int b, .int g, .int L] = .ok (bndD (bnd b g L)) := by
  apply ok_of; rw [run_bounds_of]; unfold S_bounds_of
  refine wp_cut (fun p : Int × Int => [.im (.int p.1), .im (.int p.2), .im (.int L)]) (fun p => 0 ≤ p.2 ∧ p.2.natAbs = g.natAbs ∧ (g < 0 → p = (0 - b, 0 - g)) ∧ (0 ≤ g → p = (b, g))) ?_ ?_
  · simp [BoolP_decide]
    exact ⟨fun h => nxq (0 - b, 0 - g) (by simp) ⟨by dsimp only; omega, by dsimp only; omega, fun _ => by simp, fun z => by omega⟩, fun h => nxq (b, g) rfl ⟨h, rfl, fun z => by omega, fun _ => rfl⟩⟩
  · intro ⟨b', g'⟩ ⟨h1, h2, h3, h4⟩
    dsimp only at h1 h2 h3 h4 ⊢
    simp [BoolP_decide]
    have hb' : (if b' < 0 then -b' else b') = (b.natAbs : Int) := by
      rcases Int.lt_or_le g 0 with z | z
      · have := h3 z; simp at this; omega
      · have := h4 z; simp at this; omega
    rw [hb']
    refine ⟨fun z => ?_, fun z => ?_⟩
    · subst z
      have hg0 : g = 0 := by omega
      unfold bnd bndD
      rw [if_pos hg0]
      exact ⟨fun c => by rw [if_pos c]; rfl, fun c => by rw [if_neg (by omega)]; rfl⟩
    · refine ⟨FdOk_of (by omega) (by omega), ?_⟩
      rw [pdiv_pos (by omega), pdiv_pos (by omega)]
      unfold bnd bndD
      rw [if_neg (by omega)]
      by_cases c : g < 0
      · rw [if_pos c]
        have := h3 c
        simp only [Prod.mk.injEq] at this
        obtain ⟨rfl, rfl⟩ := this
        simp [optI]
      · rw [if_neg c]
        have := h4 (by omega)
        simp only [Prod.mk.injEq] at this
        obtain ⟨rfl, rfl⟩ := this
        simp [optI]

/-- the first round from m on within bounds -/
def frB (p : Option Int × Option Int) (m : Int) : Option Int := match p.1 with
  | none => some m
  | some u => if m ≤ u then some m else (match p.2 with | none => none | some o => some (max m o))
theorem first_round_i (p : Option Int × Option Int) (m : Int) : F_first_round [bndD p, .int m] = .ok (optI (frB p m)) := by
  obtain ⟨u, o⟩ := p
  apply ok_of; rw [run_first_round]
  cases u with
  | none => simp [S_first_round, bndD, optI, isNone, frB]
  | some u =>
    cases o with
    | none =>
      simp [S_first_round, bndD, optI, isNone, frB, BoolP_decide]
      refine ⟨fun h => ?_, fun h => ?_⟩
      · rw [if_pos h]
      · rw [if_neg (by omega)]
    | some o =>
      simp [S_first_round, bndD, optI, isNone, frB, BoolP_decide]
      refine ⟨fun h => ?_, fun h => ?_⟩
      · rw [if_pos h]
      · rw [if_neg (by omega)]
theorem frB_none {p : Option Int × Option Int} {m : Int} (h : frB p m = none) : ∀ q, m ≤ q → inB p q = false := by
  obtain ⟨u, o⟩ := p
  intro q hq
  cases u with
  | none => simp [frB] at h
  | some u =>
    simp only [frB] at h
    split at h
    · cases h
    · cases o with
      | none => simp [inB]; omega
      | some o => simp at h
theorem frB_some {p : Option Int × Option Int} {m q : Int} (h : frB p m = some q) : m ≤ q ∧ inB p q = true ∧ ∀ k, m ≤ k → k < q → inB p k = false := by
  obtain ⟨u, o⟩ := p
  cases u with
  | none => simp [frB] at h; subst h; exact ⟨Int.le_refl _, rfl, fun k h1 h2 => by omega⟩
  | some u =>
    simp only [frB] at h
    split at h
    · rename_i hm
      simp at h; subst h
      exact ⟨Int.le_refl _, by simp [inB, hm], fun k h1 h2 => by omega⟩
    · cases o with
      | none => simp at h
      | some o =>
        simp at h; subst h
        refine ⟨by omega, by simp [inB]; omega, fun k h1 h2 => ?_⟩
        simp [inB]; omega
theorem frB_far {p : Option Int × Option Int} {m q : Int} (h : frB p m = some q) : q = m ∨ ∃ o, p.2 = some o ∧ q = max m o := by
  obtain ⟨u, o⟩ := p
  cases u with
  | none => simp [frB] at h; exact .inl h.symm
  | some u =>
    simp only [frB] at h
    split at h
    · simp at h; exact .inl h.symm
    · cases o with
      | none => simp at h
      | some o => simp at h; exact .inr ⟨o, rfl, h.symm⟩

theorem min_mem {fs : List Nat} (h : fs ≠ []) : ∃ y, minL (fs.map fun (x : Nat) => (x : Int)) = some ((y : Nat) : Int) ∧ y ∈ fs ∧ ∀ z ∈ fs, y ≤ z := by
  have hne : (fs.map fun (x : Nat) => (x : Int)) ≠ [] := by simp [h]
  obtain ⟨y, hy, e⟩ := List.mem_map.mp (minI_mem hne)
  refine ⟨y, by rw [minL_of hne, ← e], hy, fun z hz => ?_⟩
  have := minI_le (List.mem_map.mpr ⟨z, hz, rfl⟩ : ((z : Nat) : Int) ∈ fs.map fun (x : Nat) => (x : Int))
  rw [← e] at this
  omega
theorem next_beyond_i (f : Nat → Int) {n : Nat} (hn : 0 < n) (hn2 : n ≤ 1000000) {g L : Int} (hf : ∀ i, i < n → (f i).natAbs ≤ 100000000000000000000) (hg : g.natAbs ≤ 100000000000000000000) (hL : 0 ≤ L) (hL2 : L ≤ 100000000000000000000) {y0 : Nat} (h1 : 1 ≤ y0) (h2 : y0 ≤ 10000000000000000) :
    ∃ o : Option Nat, F_next_beyond [.list ((List.range n).map fun i => .int (f i)), .int g, .int L, .int (y0 : Nat)] = .ok (optY o) ∧ NextIs (fun y => beyB L (vF f n g y)) y0 o := by
  obtain ⟨v, e, o, rfl, h⟩ : ∃ v, F_next_beyond [.list ((List.range n).map fun i => .int (f i)), .int g, .int L, .int (y0 : Nat)] = .ok v ∧ ∃ o : Option Nat, v = optY o ∧ NextIs (fun y => beyB L (vF f n g y)) y0 o := by
    apply ex_of
    rw [run_next_beyond]
    simp [S_next_beyond]
    rw [enum_range]
    refine wp_count (fun i : Nat => .tuple [.int (i : Nat), .int (f i)]) n (fun p : List Nat × Sl × Sl × Sl × Sl => [.im (.list ((List.range n).map fun i => PyData.int (f i))), .im (.int g), .im (.int L), .im (.int (y0 : Nat)), .mu ((p.1.map fun (x : Nat) => (x : Int)).map .int), .im (.int (n : Nat)), p.2.1, p.2.2.1, p.2.2.2.1, p.2.2.2.2])
      (fun k p => p.1.length ≤ k ∧ (∀ y ∈ p.1, y0 ≤ y ∧ beyB L (vF f n g y) = true) ∧ ∀ i, i < k → ∀ q : Nat, y0 ≤ q * n + i + 1 → beyB L (vF f n g (q * n + i + 1)) = true → ∃ y ∈ p.1, y ≤ q * n + i + 1) ?_ ?_ ([], .no, .no, .no, .no) ⟨by simp, by simp, fun i hi => by omega⟩
    · intro ⟨fs, s1, s2, s3, s4⟩ ⟨q1, q2, q3⟩
      dsimp only at q1 q2 q3 ⊢
      cases fs with
      | nil =>
        have hnil : neD (.list []) (.list []) = some false := neD_self (n := 1) (by simp [lay, layAll]) (by omega)
        simp only [List.map_nil]
        simp [↓opt_of hnil]
        refine ⟨none, rfl, fun y hy => ?_⟩
        cases q : beyB L (vF f n g y) with
        | false => exact q
        | true =>
          have hm := Nat.mod_lt (y - 1) hn
          have hd := Nat.mod_add_div (y - 1) n
          rw [Nat.mul_comm] at hd
          have e : (y - 1) / n * n + (y - 1) % n + 1 = y := by omega
          obtain ⟨z, hz, _⟩ := q3 ((y - 1) % n) hm ((y - 1) / n) (by omega) (by rw [e]; exact q)
          simp at hz
      | cons x xs =>
        obtain ⟨m, e1, e2, e3⟩ := min_mem (fs := x :: xs) (by simp)
        have hne : neD (.list (((x :: xs).map fun (x : Nat) => (x : Int)).map .int)) (.list []) = some true := by
          have := EncOk.neD_list encInt ((x :: xs).map fun (x : Nat) => (x : Int)) []
          simpa using this
        have hmin : minD [.list (((x :: xs).map fun (x : Nat) => (x : Int)).map .int)] = some (.int (m : Nat)) := by
          show ((asInts _).bind minL).map _ = _
          rw [LK.asInts_map]
          simp only [Option.bind_some]
          rw [e1]; rfl
        simp only [↓wp_frz, ↓FrzP_4, ↓wp_retS, ↓wp_iteM, ↓wp_cmp, ↓wp_var4, ↓wp_lstM, ↓wp_args0, ↓opt_of hne, ↓BoolP_true, ↓wp_callB, ↓wp_argsC, ↓opt_of hmin, ↓RetP_ret, ↓NxP_nx, ↓LineP_0]
        refine ⟨some m, rfl, (q2 m e2).1, (q2 m e2).2, fun z hz hlt => ?_⟩
        cases q : beyB L (vF f n g z) with
        | false => exact q
        | true =>
          have hm := Nat.mod_lt (z - 1) hn
          have hd := Nat.mod_add_div (z - 1) n
          rw [Nat.mul_comm] at hd
          have e : (z - 1) / n * n + (z - 1) % n + 1 = z := by omega
          obtain ⟨w, hw, hle⟩ := q3 ((z - 1) % n) hm ((z - 1) / n) (by omega) (by rw [e]; exact q)
          have := e3 w hw
          omega
    · intro k ⟨fs, s1, s2, s3, s4⟩ hk ⟨q1, q2, q3⟩
      dsimp only at q1 q2 q3 ⊢
      -- the first round that counts
      obtain ⟨m, hm⟩ : ∃ m : Nat, max 0 (((y0 : Int) - (k : Int) - 1 + (n : Int) - 1) / (n : Int)) = (m : Int) := ⟨(max 0 (((y0 : Int) - (k : Int) - 1 + (n : Int) - 1) / (n : Int))).toNat, by omega⟩
      have hround : ∀ q : Nat, y0 ≤ q * n + k + 1 ↔ m ≤ q := fun q => by
        have z1 : ((y0 : Int) - (k : Int) - 1 + (n : Int) - 1) / (n : Int) < (q : Int) + 1 ↔ (y0 : Int) - (k : Int) - 1 + (n : Int) - 1 < ((q : Int) + 1) * (n : Int) := Int.ediv_lt_iff_lt_mul (by omega)
        rw [Int.add_mul, Int.one_mul, ← Int.natCast_mul] at z1
        constructor
        · intro h; have := z1.mpr (by omega); omega
        · intro h; have := z1.mp (by omega); omega
      have hmb : m ≤ 10000000000000000 + 1000000 := by
        have := ediv_abs (x := (y0 : Int) - (k : Int) - 1 + (n : Int) - 1) (g := (n : Int)) (by omega)
        omega
      have hspec : ∀ q : Nat, inB (bnd (f k) g L) (q : Int) = beyB L (vF f n g (q * n + k + 1)) := fun q => by rw [bnd_spec hL (by omega), vF_at hk]
      have hfk := hf k hk
      simp [↓lift_of (bounds_of_i (b := f k) (g := g) (L := L) (by omega)), pdiv_pos (show (0 : Int) < (n : Int) by omega), hm, ↓lift_of (first_round_i (bnd (f k) g L) (m : Int)), isNone_optI]
      refine ⟨FdOk_of (by omega) (by omega), ?_⟩
      cases hfr : frB (bnd (f k) g L) (m : Int) with
      | none =>
        simp [optI]
        refine nxq (fs, _, _, _, _) rfl ⟨by dsimp only; omega, q2, fun i hi q hq hb => ?_⟩
        by_cases c : i = k
        · subst c
          have := frB_none hfr (q : Int) (by have := (hround q).mp hq; omega)
          rw [hspec q, hb] at this
          cases this
        · exact q3 i (by omega) q hq hb
      | some t =>
        obtain ⟨t1, t2, t3⟩ := frB_some hfr
        obtain ⟨t, rfl⟩ := Int.eq_ofNat_of_zero_le (show 0 ≤ t by omega)
        have htb : (t : Int) < 1606938044258990275541962092341162602522202993782792835301376 := by
          rcases frB_far hfr with e | ⟨o, eo, e⟩
          · omega
          · have := (bnd_far (b := f k) (g := g) hL).2 o eo
            omega
        simp [optI, RoomP]
        refine ⟨MulOk_of (by omega) (by omega) (by omega) (by omega), by simp [sizeLine]; omega, nxq (fs ++ [t * n + k + 1], .im (.int (k : Nat)), .im (.int (f k)), .im (.int (m : Nat)), .im (.int (t : Nat))) (by simp) ⟨by simp; omega, fun y hy => ?_, fun i hi q hq hb => ?_⟩⟩
        · rcases List.mem_append.mp hy with h | h
          · exact q2 y h
          · rw [List.mem_singleton] at h
            subst h
            exact ⟨(hround t).mpr (by omega), by rw [← hspec t]; exact t2⟩
        · by_cases c : i = k
          · subst c
            refine ⟨t * n + i + 1, by simp, ?_⟩
            have hmq := (hround q).mp hq
            rcases Nat.lt_or_ge q t with l | l
            · have := t3 (q : Int) (by omega) (by omega)
              rw [hspec q, hb] at this
              cases this
            · have := Nat.mul_le_mul_right n l
              omega
          · obtain ⟨y, hy, hle⟩ := q3 i (by omega) q hq hb
            exact ⟨y, List.mem_append_left _ hy, hle⟩
  exact ⟨o, e, h⟩

theorem cut_init {α : Type} {xs : List α} {x : α} : cutL (xs ++ [x]) none (some (-1)) = xs := by
  have e : HT.sIx (xs ++ [x]).length (xs ++ [x]).length (some (-1)) = xs.length := by
    show (if (-1 : Int) < 0 then ((-1 : Int) + ((xs ++ [x]).length : Int)).toNat else min (-1 : Int).toNat (xs ++ [x]).length) = xs.length
    rw [if_pos (by omega), List.length_append, List.length_singleton]
    omega
  unfold cutL
  rw [e, HT.sIx_none, Nat.sub_zero, List.drop_zero, List.take_left]
theorem apart_row_i {r q : List Step} (h : RuleOk r) (h2 : RuleOk q) (hc : comN r q ≤ 10000) : F_apart_row [ruleD r, ruleD q] = .ok (.tuple [.list ((List.range (comN r q)).map fun i => .int (apN r q i)), .int (apN r q (comN r q))]) := by
  have hl1 := h.len
  have hl2 := h2.len
  have hn := com_pos h h2
  have hone : ∀ s ∈ r ++ q, 1 ≤ s.1 ∧ s.1 ≤ 10000 := fun s hs => (List.mem_append.mp hs).elim (fun z => ⟨(h.steps s z).1, (h.steps s z).2.1⟩) fun z => ⟨(h2.steps s z).1, (h2.steps s z).2.1⟩
  have hm : F_multiple_of [.list (((r ++ q).map (·.1)).map .int)] = .ok (.int (comN r q : Nat)) := multiple_of_i (ns := (r ++ q).map (·.1)) (fun n hn => by
    obtain ⟨s, hs, rfl⟩ := List.mem_map.mp hn
    exact hone s hs) (by simp; omega)
  have hs1 := sums_of_i h.one (n := comN r q) (by omega)
  have hs2 := sums_of_i h2.one (n := comN r q) (by omega)
  have hz : (sumsL r (comN r q)).zip (sumsL q (comN r q)) = (List.range (comN r q + 1)).map fun i => (((countL' r i : Nat) : Int), ((countL' q i : Nat) : Int)) := by
    refine List.ext_getElem? fun i => ?_
    rcases Nat.lt_or_ge i (comN r q + 1) with z | z
    · have a1 := sumsL_at r (n := comN r q) (k := i) (by omega)
      have a2 := sumsL_at q (n := comN r q) (k := i) (by omega)
      rw [List.getElem?_map, List.getElem?_range z, List.getElem?_zip_eq_some.mpr (⟨a1, a2⟩ : _ = some ((((countL' r i : Nat) : Int), ((countL' q i : Nat) : Int)) : Int × Int).1 ∧ _ = some ((((countL' r i : Nat) : Int), ((countL' q i : Nat) : Int)) : Int × Int).2)]
      rfl
    · rw [List.getElem?_eq_none (by simp [sumsL_length]; omega), List.getElem?_eq_none (by simp; omega)]
  generalize hN : comN r q = n at *
  apply ok_of; rw [run_apart_row]; unfold S_apart_row
  refine wp_then (ρ' := [.im (ruleD r), .im (ruleD q), .im (.int (n : Nat)), .no, .no, .no, .no, .no, .no]) ?_ ?_
  · simp [ruleD]
    refine ⟨by simp [sizeLine]; omega, ?_⟩
    rw [← List.map_append]
    refine comp_all stepD (fun s => .int s.1) (r ++ q) [.im (.tuple (r.map stepD)), .im (.tuple (q.map stepD)), .no, .no, .no, .no, .no, .no, .no] rfl rfl rfl (by simp [sizeLine]; omega) ?_ ?_
    · intro s hs
      simp [stepD]
      exact ⟨rfl, rfl⟩
    · rw [show ((r ++ q).map fun s => PyData.int s.1) = ((r ++ q).map (·.1)).map .int by rw [List.map_map]; rfl]
      simp only [LenP_1, lift_of hm]
      simp
  refine wp_then (ρ' := [.im (ruleD r), .im (ruleD q), .im (.int (n : Nat)), .no, .no, .no, .no, .no, .no]) ?_ ?_
  · have e : decide ((10000 : Int) < (n : Int)) = false := decide_eq_false (by omega)
    simp [e]
  refine wp_then (ρ' := [.im (ruleD r), .im (ruleD q), .im (.int (n : Nat)), .im (.list ((sumsL r n).map .int)), .im (.list ((sumsL q n).map .int)), .no, .no, .no, .no]) (by simp [↓lift_of hs1, ↓lift_of hs2]) ?_
  refine wp_then (ρ' := [.im (ruleD r), .im (ruleD q), .im (.int (n : Nat)), .im (.list ((sumsL r n).map .int)), .im (.list ((sumsL q n).map .int)), .im (.list ((List.range (n + 1)).map fun i => .int (apN r q i))), .no, .no, .no]) ?_ ?_
  · simp
    rw [zipL_maps, hz, List.map_map]
    refine comp_all (fun i : Nat => .tuple [.int (countL' r i : Nat), .int (countL' q i : Nat)]) (fun i => .int (apN r q i)) (List.range (n + 1)) [.im (ruleD r), .im (ruleD q), .im (.int (n : Nat)), .im (.list ((sumsL r n).map .int)), .im (.list ((sumsL q n).map .int)), .no, .no, .no, .no] rfl rfl rfl (by simp [sizeLine]; omega) ?_ ?_
    · intro i _
      simp [apN]
      exact ⟨rfl, rfl⟩
    · simp
  have hlast : atI ((List.range (n + 1)).map fun i => PyData.int (apN r q i)) (-1) = some (.int (apN r q n)) := by
    rw [List.range_succ, List.map_append]
    exact atI_last
  have hcut : cutL ((List.range (n + 1)).map fun i => PyData.int (apN r q i)) none (some (-1)) = (List.range n).map fun i => .int (apN r q i) := by
    rw [List.range_succ, List.map_append]
    exact cut_init
  simp [↓opt_of hlast, hcut]

theorem apart_i {r q : List Step} (h : RuleOk r) (h2 : RuleOk q) {y : Nat} (h1 : 1 ≤ y) (hy : y ≤ 1000000000000000) : F_apart [ruleD r, ruleD q, .int (y : Nat)] = .ok (.int (apN r q (y - 1))) := by
  have c1 := h.lcm
  have c2 := h2.lcm
  have e1 := count_to_i (lcmS_pos h.steps) (by omega) (leapF_per h.one) (y := y - 1) (by omega)
  have e2 := count_to_i (lcmS_pos h2.steps) (by omega) (leapF_per h2.one) (y := y - 1) (by omega)
  rw [show ((y - 1 : Nat) : Int) = (y : Int) - 1 by omega] at e1 e2
  apply ok_of; rw [run_apart]; simp [S_apart, ↓lift_of (need_rule_i h), ↓lift_of (need_rule_i h2), ↓lift_of (need_year_i (y := (y : Int)) (by omega) (by omega)), ↓lift_of (round_sums_i h), ↓lift_of (round_sums_i h2), ↓lift_of e1, ↓lift_of e2]
  rfl

theorem first_apart_i {r q : List Step} (h : RuleOk r) (h2 : RuleOk q) (hc : comN r q ≤ 10000) {d : Int} (d1 : 0 ≤ d) (d2 : d ≤ 1000) : ∃ o : Option Nat, F_first_apart [ruleD r, ruleD q, .int d] = .ok (optY o) ∧ NextIs (fun y => beyB d (apN r q (y - 1))) 1 o := by
  have hn := com_pos h h2
  obtain ⟨o, e, ho⟩ := next_beyond_i (apN r q) hn (by omega) (g := apN r q (comN r q)) (L := d) (fun i hi => by have := apN_abs r q i; omega) (by have := apN_abs r q (comN r q); omega) d1 (by omega) (y0 := 1) (by omega) (by omega)
  refine ⟨o, ?_, ho.congr fun y hy => by rw [ap_vF h h2]⟩
  have e' : F_next_beyond [.list ((List.range (comN r q)).map fun i => .int (apN r q i)), .int (apN r q (comN r q)), .int d, .int 1] = .ok (optY o) := e
  apply ok_of; rw [run_first_apart]; simp [S_first_apart, ↓lift_of (need_rule_i h), ↓lift_of (need_rule_i h2), ↓lift_of (need_days_i d1 d2), ↓lift_of (apart_row_i h h2 hc), ↓lift_of e']

def apfD (xs : List Int) : D := .tuple [.tuple [.int (maxI xs), .int ((firstIx (maxI xs) xs : Nat) + 1)], .tuple [.int (minI xs), .int ((firstIx (minI xs) xs : Nat) + 1)]]
theorem farthest_apart_i {r q : List Step} (h : RuleOk r) (h2 : RuleOk q) (hc : comN r q ≤ 10000) : F_farthest_apart [ruleD r, ruleD q] = .ok (if apN r q (comN r q) = 0 then apfD (apRow r q) else .none) := by
  have hn := com_pos h h2
  have hne : apRow r q ≠ [] := by
    intro z
    have := congrArg List.length z
    simp [apRow] at this
    omega
  have hrow := apart_row_i h h2 hc
  rw [show ((List.range (comN r q)).map fun i => PyData.int (apN r q i)) = (apRow r q).map .int by unfold apRow; rw [List.map_map]; rfl] at hrow
  apply ok_of; rw [run_farthest_apart]
  by_cases c : apN r q (comN r q) = 0
  · simp [S_farthest_apart, ↓lift_of (need_rule_i h), ↓lift_of (need_rule_i h2), ↓lift_of hrow, c, ↓OptP_maxL hne, ↓OptP_minL hne, ↓opt_of (index_ix (maxI_mem hne)), ↓opt_of (index_ix (minI_mem hne))]
    rfl
  · simp [S_farthest_apart, ↓lift_of (need_rule_i h), ↓lift_of (need_rule_i h2), ↓lift_of hrow, c]

def qT (b g : Int) : Int := if 0 < g then -b / g else b / -g
theorem qT_pdiv {b g : Int} (hg : g ≠ 0) : pdiv (-b) g = qT b g := by
  unfold pdiv qT
  by_cases c : 0 < g
  · rw [if_pos c, if_pos c]
  · rw [if_neg c, if_neg c, ← Int.fdiv_eq_ediv_of_nonneg b (show 0 ≤ -g by omega), ← Int.neg_fdiv_neg (-b) g, Int.neg_neg]
theorem qT_abs {b g : Int} (hg : g ≠ 0) : (qT b g).natAbs ≤ b.natAbs := by
  unfold qT
  by_cases c : 0 < g
  · rw [if_pos c]
    have := ediv_abs (x := -b) (g := g) (by omega)
    omega
  · rw [if_neg c]
    exact ediv_abs (by omega)
theorem qT_eq {b g u : Int} (hg : g ≠ 0) (h : b + u * g = 0) : qT b g = u := by
  unfold qT
  by_cases c : 0 < g
  · rw [if_pos c, show -b = u * g by omega]
    exact Int.mul_ediv_cancel _ hg
  · rw [if_neg c, show b = u * -g by rw [Int.mul_neg]; omega]
    exact Int.mul_ediv_cancel _ (by omega)
/-- the first round, not before a number, at which b + t * g is 0 -/
def meetB (b g : Int) (m : Nat) : Option Nat := if g = 0 then (if b = 0 then some m else none) else if qT b g * g + b = 0 ∧ (m : Int) ≤ qT b g then some (qT b g).toNat else none
theorem meet_some {b g : Int} {m t : Nat} (h : meetB b g m = some t) : m ≤ t ∧ b + (t : Int) * g = 0 ∧ (∀ u : Nat, m ≤ u → b + (u : Int) * g = 0 → t ≤ u) ∧ t ≤ m + b.natAbs := by
  unfold meetB at h
  by_cases c : g = 0
  · rw [if_pos c] at h
    split at h
    · rename_i hb
      cases h
      subst c hb
      exact ⟨Nat.le_refl _, by omega, fun u hu _ => hu, by omega⟩
    · cases h
  · rw [if_neg c] at h
    split at h
    · rename_i hb
      obtain ⟨h1, h2⟩ := hb
      cases h
      have hb2 := qT_abs (b := b) c
      obtain ⟨t, ht⟩ : ∃ t : Nat, qT b g = (t : Int) := ⟨(qT b g).toNat, by omega⟩
      rw [ht] at h1 h2 hb2 ⊢
      rw [Int.toNat_natCast]
      refine ⟨by omega, by omega, fun u _ hu => ?_, by omega⟩
      have := qT_eq c hu
      omega
    · cases h
theorem meet_none {b g : Int} {m : Nat} (h : meetB b g m = none) (u : Nat) (hu : m ≤ u) : b + (u : Int) * g ≠ 0 := fun hz => by
  unfold meetB at h
  by_cases c : g = 0
  · rw [if_pos c] at h
    subst c
    rw [if_pos (by omega)] at h
    cases h
  · rw [if_neg c, qT_eq c hz, if_pos ⟨by omega, by omega⟩] at h
    cases h
theorem meeting_round_i {b g : Int} {m : Nat} (hb : b.natAbs ≤ 1000000) (hg : g.natAbs ≤ 1000000) : F_meeting_round [.int b, .int g, .int (m : Nat)] = .ok (optY (meetB b g m)) := by
  apply ok_of; rw [run_meeting_round]; unfold meetB
  by_cases c : g = 0
  · by_cases d : b = 0
    · simp [S_meeting_round, c, d, optY]
    · simp [S_meeting_round, c, d, optY]
  · have hq := qT_abs (b := b) c
    have hpd := qT_pdiv (b := b) c
    have hf : FdOk g := .inr ⟨c, by omega⟩
    have hmul : MulOk (qT b g) g := MulOk_of (by omega) (by omega) (by omega) (by omega)
    generalize hT : qT b g = T at *
    by_cases d : T * g + b = 0
    · by_cases e : (m : Int) ≤ T
      · obtain ⟨t, rfl⟩ := Int.eq_ofNat_of_zero_le (show 0 ≤ T by omega)
        simp [S_meeting_round, c, hpd, optY, d, hf, hmul]
        simp [show m ≤ t by omega, optY]
      · simp [S_meeting_round, c, hpd, optY, d, hf, hmul, e]
    · simp [S_meeting_round, c, hpd, optY, d, hf, hmul]

def zerB (r q : List Step) (y : Nat) : Bool := decide (apN r q (y - 1) = 0)
theorem next_together_i {r q : List Step} (h : RuleOk r) (h2 : RuleOk q) (hc : comN r q ≤ 10000) {y0 : Nat} (h1 : 1 ≤ y0) (hy0 : y0 ≤ 1000000000000000) : ∃ o : Option Nat, F_next_together [ruleD r, ruleD q, .int (y0 : Nat)] = .ok (optY o) ∧ NextIs (zerB r q) y0 o ∧ ∀ y, o = some y → y ≤ y0 + 200000000 := by
  have hn := com_pos h h2
  have hrow := apart_row_i h h2 hc
  obtain ⟨p1, p2⟩ := com_per h h2
  have hz : ∀ k t : Nat, zerB r q (t * comN r q + k + 1) = decide (apN r q k + (t : Int) * apN r q (comN r q) = 0) := fun k t => by
    unfold zerB
    rw [show t * comN r q + k + 1 - 1 = k + t * comN r q by omega, apN_mul p1 p2]
  have hgb := apN_abs r q (comN r q)
  have hfb := apN_abs r q
  generalize hN : comN r q = n at *
  generalize apN r q n = g at *
  generalize hf0 : apN r q = f at *
  obtain ⟨v, e, o, rfl, ho⟩ : ∃ v, F_next_together [ruleD r, ruleD q, .int (y0 : Nat)] = .ok v ∧ ∃ o : Option Nat, v = optY o ∧ NextIs (zerB r q) y0 o ∧ ∀ y, o = some y → y ≤ y0 + 200000000 := by
    apply ex_of
    rw [run_next_together]; unfold S_next_together
    refine wp_then (by simp [↓lift_of (need_rule_i h)]; rfl) ?_
    refine wp_then (by simp [↓lift_of (need_rule_i h2)]; rfl) ?_
    refine wp_then (by simp [↓lift_of (need_year_i (y := (y0 : Int)) (by omega) (by omega))]; rfl) ?_
    refine wp_then (ρ' := [.im (ruleD r), .im (ruleD q), .im (.int (y0 : Nat)), .im (.list ((List.range n).map fun i => .int (f i))), .im (.int g), .no, .no, .no, .no, .no]) (by simp [↓lift_of hrow]) ?_
    refine wp_then (ρ' := [.im (ruleD r), .im (ruleD q), .im (.int (y0 : Nat)), .im (.list ((List.range n).map fun i => .int (f i))), .im (.int g), .mu [], .im (.int (n : Nat)), .no, .no, .no]) (by simp [LineP, sizeLine]) ?_
    refine wp_cut (fun p : List Nat × Sl × Sl × Sl => [.im (ruleD r), .im (ruleD q), .im (.int (y0 : Nat)), .im (.list ((List.range n).map fun i => .int (f i))), .im (.int g), .mu ((p.1.map fun (x : Nat) => (x : Int)).map .int), .im (.int (n : Nat)), p.2.1, p.2.2.1, p.2.2.2]) (fun p => (∀ y ∈ p.1, (y0 ≤ y ∧ y ≤ y0 + 200000000) ∧ zerB r q y = true) ∧ ∀ i, i < n → ∀ t : Nat, y0 ≤ t * n + i + 1 → zerB r q (t * n + i + 1) = true → ∃ y ∈ p.1, y ≤ t * n + i + 1) ?_ fun ⟨fs, s7, s8, s9⟩ ⟨q2, q3⟩ => ?_
    · simp
      rw [enum_range]
      refine wp_count (fun i : Nat => .tuple [.int (i : Nat), .int (f i)]) n (fun p : List Nat × Sl × Sl × Sl => [.im (ruleD r), .im (ruleD q), .im (.int (y0 : Nat)), .im (.list ((List.range n).map fun i => .int (f i))), .im (.int g), .mu ((p.1.map fun (x : Nat) => (x : Int)).map .int), .im (.int (n : Nat)), p.2.1, p.2.2.1, p.2.2.2])
        (fun k p => p.1.length ≤ k ∧ (∀ y ∈ p.1, (y0 ≤ y ∧ y ≤ y0 + 200000000) ∧ zerB r q y = true) ∧ ∀ i, i < k → ∀ t : Nat, y0 ≤ t * n + i + 1 → zerB r q (t * n + i + 1) = true → ∃ y ∈ p.1, y ≤ t * n + i + 1) ?_ ?_ ([], .no, .no, .no) ⟨by simp, by simp, fun i hi => by omega⟩
      · intro p ⟨_, q2, q3⟩
        exact nxq p (by simp) ⟨q2, q3⟩
      · intro k ⟨fs, s7, s8, s9⟩ hk ⟨q1, q2, q3⟩
        dsimp only at q1 q2 q3 ⊢
        obtain ⟨m, hm⟩ : ∃ m : Nat, max 0 (((y0 : Int) - (k : Int) - 1 + (n : Int) - 1) / (n : Int)) = (m : Int) := ⟨(max 0 (((y0 : Int) - (k : Int) - 1 + (n : Int) - 1) / (n : Int))).toNat, by omega⟩
        have hround : ∀ t : Nat, y0 ≤ t * n + k + 1 ↔ m ≤ t := fun t => by
          have z1 : ((y0 : Int) - (k : Int) - 1 + (n : Int) - 1) / (n : Int) < (t : Int) + 1 ↔ (y0 : Int) - (k : Int) - 1 + (n : Int) - 1 < ((t : Int) + 1) * (n : Int) := Int.ediv_lt_iff_lt_mul (by omega)
          rw [Int.add_mul, Int.one_mul, ← Int.natCast_mul] at z1
          constructor
          · intro h; have := z1.mpr (by omega); omega
          · intro h; have := z1.mp (by omega); omega
        have hmn : m * n ≤ y0 + n := by
          cases m with
          | zero => omega
          | succ m' =>
            have := mt (hround m').mp (by omega)
            rw [Nat.add_mul, Nat.one_mul]
            omega
        have hmb : m ≤ 10000000000000000 + 1000000 := by
          have : m * 1 ≤ m * n := Nat.mul_le_mul_left m hn
          omega
        have hfk := hfb k
        simp [pdiv_pos (show (0 : Int) < (n : Int) by omega), hm, ↓lift_of (meeting_round_i (b := f k) (g := g) (m := m) (by omega) (by omega)), isNone_optY]
        refine ⟨FdOk_of (by omega) (by omega), ?_⟩
        cases hfr : meetB (f k) g m with
        | none =>
          simp [optY]
          refine nxq (fs, _, _, _) rfl ⟨by dsimp only; omega, q2, fun i hi t ht hb => ?_⟩
          by_cases c : i = k
          · subst c
            rw [hz i t] at hb
            exact absurd (of_decide_eq_true hb) (meet_none hfr t ((hround t).mp ht))
          · exact q3 i (by omega) t ht hb
        | some t =>
          obtain ⟨t1, t2, t3, t4⟩ := meet_some hfr
          have htn : t * n ≤ (m + n) * n := Nat.mul_le_mul_right n (by omega)
          rw [Nat.add_mul] at htn
          have hnn : n * n ≤ 10000 * 10000 := Nat.mul_le_mul hc hc
          simp [optY, RoomP]
          refine ⟨MulOk_of (by omega) (by omega) (by omega) (by omega), by simp [sizeLine]; omega, nxq (fs ++ [t * n + k + 1], .im (.int (k : Nat)), .im (.int (f k)), .im (.int (t : Nat))) (by simp) ⟨by simp; omega, fun y hy => ?_, fun i hi u hu hb => ?_⟩⟩
          · rcases List.mem_append.mp hy with w | w
            · exact q2 y w
            · rw [List.mem_singleton] at w
              subst w
              exact ⟨⟨(hround t).mpr t1, by omega⟩, by rw [hz k t]; exact decide_eq_true t2⟩
          · by_cases c : i = k
            · subst c
              refine ⟨t * n + i + 1, by simp, ?_⟩
              rw [hz i u] at hb
              have := Nat.mul_le_mul_right n (t3 u ((hround u).mp hu) (of_decide_eq_true hb))
              omega
            · obtain ⟨y, hy, hle⟩ := q3 i (by omega) u hu hb
              exact ⟨y, List.mem_append_left _ hy, hle⟩
    · dsimp only at q2 q3 ⊢
      cases fs with
      | nil =>
        have hnil : neD (.list []) (.list []) = some false := neD_self (n := 1) (by simp [lay, layAll]) (by omega)
        simp only [List.map_nil]
        simp [↓opt_of hnil]
        refine ⟨none, rfl, fun y hy => ?_, by simp⟩
        cases w : zerB r q y with
        | false => rfl
        | true =>
          have hm := Nat.mod_lt (y - 1) hn
          have hd := Nat.mod_add_div (y - 1) n
          rw [Nat.mul_comm] at hd
          have e : (y - 1) / n * n + (y - 1) % n + 1 = y := by omega
          obtain ⟨z, hz, _⟩ := q3 ((y - 1) % n) hm ((y - 1) / n) (by omega) (by rw [e]; exact w)
          simp at hz
      | cons x xs =>
        obtain ⟨m, e1, e2, e3⟩ := min_mem (fs := x :: xs) (by simp)
        have hne : neD (.list (((x :: xs).map fun (x : Nat) => (x : Int)).map .int)) (.list []) = some true := by
          have := EncOk.neD_list encInt ((x :: xs).map fun (x : Nat) => (x : Int)) []
          simpa using this
        have hmin : minD [.list (((x :: xs).map fun (x : Nat) => (x : Int)).map .int)] = some (.int (m : Nat)) := by
          show ((asInts _).bind minL).map _ = _
          rw [LK.asInts_map]
          simp only [Option.bind_some]
          rw [e1]; rfl
        simp only [↓wp_frz, ↓FrzP_5, ↓wp_retS, ↓wp_iteM, ↓wp_cmp, ↓wp_var5, ↓wp_lstM, ↓wp_args0, ↓opt_of hne, ↓BoolP_true, ↓wp_callB, ↓wp_argsC, ↓opt_of hmin, ↓RetP_ret, ↓NxP_nx, ↓LineP_0]
        refine ⟨some m, rfl, ⟨(q2 m e2).1.1, (q2 m e2).2, fun z hz hlt => ?_⟩, fun y hy => by cases hy; exact (q2 m e2).1.2⟩
        cases w : zerB r q z with
        | false => rfl
        | true =>
          have hm := Nat.mod_lt (z - 1) hn
          have hd := Nat.mod_add_div (z - 1) n
          rw [Nat.mul_comm] at hd
          have e : (z - 1) / n * n + (z - 1) % n + 1 = z := by omega
          obtain ⟨u, hu, hle⟩ := q3 ((z - 1) % n) hm ((z - 1) / n) (by omega) (by rw [e]; exact w)
          have := e3 u hu
          omega
  exact ⟨o, e, ho⟩

theorem cnt_one {p : Nat → Bool} {t : Nat} (ht : p t = true) (hu : ∀ u, p u = true → u = t) : ∀ k, cnt p k = if t < k then 1 else 0
  | 0 => by simp [cnt_zero]
  | k + 1 => by
    rw [cnt_succ, cnt_one ht hu k]
    by_cases c : t = k
    · subst c
      rw [if_neg (by omega), if_pos ht, if_pos (by omega)]
    · have : ¬ p k = true := fun z => c (hu k z).symm
      rw [if_neg this]
      by_cases d : t < k
      · rw [if_pos d, if_pos (by omega)]
      · rw [if_neg d, if_neg (by omega)]
theorem cnt_all {p : Nat → Bool} : ∀ k, (∀ i, i < k → p i = true) → cnt p k = k
  | 0, _ => rfl
  | k + 1, h => by rw [cnt_succ, cnt_all k fun i hi => h i (by omega), if_pos (h k (by omega))]
theorem cnt_non {p : Nat → Bool} : ∀ k, (∀ i, i < k → p i = false) → cnt p k = 0
  | 0, _ => rfl
  | k + 1, h => by rw [cnt_succ, cnt_non k fun i hi => h i (by omega), h k (by omega)]; rfl
theorem count_together_i {r q : List Step} (h : RuleOk r) (h2 : RuleOk q) (hc : comN r q ≤ 10000) {y0 : Nat} (h1 : 1 ≤ y0) (hy0 : y0 ≤ 1000000000000000) : F_count_together [ruleD r, ruleD q, .int (y0 : Nat)] = .ok (.int (cnt (fun i => zerB r q (i + 1)) y0 : Nat)) := by
  have hn := com_pos h h2
  have hrow := apart_row_i h h2 hc
  obtain ⟨p1, p2⟩ := com_per h h2
  have hz : ∀ k t : Nat, zerB r q (t * comN r q + k + 1) = decide (apN r q k + (t : Int) * apN r q (comN r q) = 0) := fun k t => by
    unfold zerB
    rw [show t * comN r q + k + 1 - 1 = k + t * comN r q by omega, apN_mul p1 p2]
  have hgb := apN_abs r q (comN r q)
  have hfb := apN_abs r q
  generalize hN : comN r q = n at *
  generalize apN r q n = g at *
  generalize hf0 : apN r q = f at *
  obtain ⟨w, hw⟩ : ∃ w, (fun i => cnt (fun t => zerB r q (t * n + i + 1)) (upTo n i y0)) = w := ⟨_, rfl⟩
  have htot : tot w (min y0 n) = cnt (fun i => zerB r q (i + 1)) y0 := by
    rw [← tot_cnt (fun y => zerB r q y) hn y0]
    show _ = tot (fun i => cnt (fun t => zerB r q (t * n + i + 1)) (upTo n i y0)) n
    rw [hw]
    refine (tot_tail (Nat.min_le_right _ _) fun i hi hin => ?_).symm
    rw [← hw]
    have : upTo n i y0 = 0 := by unfold upTo; exact Nat.div_eq_of_lt (by omega)
    dsimp only
    rw [this]; rfl
  have hcut : cutL ((List.range n).map fun i => PyData.int (f i)) none (some (y0 : Int)) = (List.range (min y0 n)).map fun i => .int (f i) := by
    rw [cut_to, ← List.map_take, List.take_range]
  apply ok_of
  rw [run_count_together]; unfold S_count_together
  refine wp_then (by simp [↓lift_of (need_rule_i h)]; rfl) ?_
  refine wp_then (by simp [↓lift_of (need_rule_i h2)]; rfl) ?_
  refine wp_then (by simp [↓lift_of (need_year_i (y := (y0 : Int)) (by omega) (by omega))]; rfl) ?_
  refine wp_then (ρ' := [.im (ruleD r), .im (ruleD q), .im (.int (y0 : Nat)), .im (.list ((List.range n).map fun i => .int (f i))), .im (.int g), .no, .no, .no, .no, .no, .no]) (by simp [↓lift_of hrow]) ?_
  refine wp_then (ρ' := [.im (ruleD r), .im (ruleD q), .im (.int (y0 : Nat)), .im (.list ((List.range n).map fun i => .int (f i))), .im (.int g), .im (.int (0 : Nat)), .im (.int (n : Nat)), .no, .no, .no, .no]) (by simp) ?_
  refine wp_cut (fun p : Nat × Sl × Sl × Sl × Sl => [.im (ruleD r), .im (ruleD q), .im (.int (y0 : Nat)), .im (.list ((List.range n).map fun i => .int (f i))), .im (.int g), .im (.int (p.1 : Nat)), .im (.int (n : Nat)), p.2.1, p.2.2.1, p.2.2.2.1, p.2.2.2.2]) (fun p => p.1 = tot w (min y0 n)) ?_ fun ⟨c, s7, s8, s9, s10⟩ e => ?_
  · simp only [↓wp_forS, ↓wp_rangeM, ↓wp_argsC, ↓wp_slM, ↓wp_var3, ↓wp_noPart, ↓wp_somePart, ↓wp_var2, ixO, ↓OptP_some, ↓OptP_slL, hcut, ↓wp_args0, ↓OptP_enumA]
    rw [enum_range]
    refine wp_count (fun i : Nat => .tuple [.int (i : Nat), .int (f i)]) (min y0 n) (fun p : Nat × Sl × Sl × Sl × Sl => [.im (ruleD r), .im (ruleD q), .im (.int (y0 : Nat)), .im (.list ((List.range n).map fun i => .int (f i))), .im (.int g), .im (.int (p.1 : Nat)), .im (.int (n : Nat)), p.2.1, p.2.2.1, p.2.2.2.1, p.2.2.2.2]) (fun k p => p.1 = tot w k) ?_ ?_ (0, .no, .no, .no, .no) rfl
    · intro p e
      exact nxq p rfl e
    · intro k ⟨c, s7, s8, s9, s10⟩ hk e
      dsimp only at e ⊢
      have ht : tot w (k + 1) = tot w k + w k := rfl
      obtain ⟨l, hl⟩ : ∃ l : Nat, ((y0 : Int) - (k : Int) - 1) / (n : Int) = (l : Int) := ⟨(((y0 : Int) - (k : Int) - 1) / (n : Int)).toNat, by have := Int.ediv_nonneg (show 0 ≤ (y0 : Int) - (k : Int) - 1 by omega) (show (0 : Int) ≤ (n : Int) by omega); omega⟩
      have hup : upTo n k y0 = l + 1 := by
        unfold upTo
        have e2 : ((y0 : Int) - (k : Int) - 1) / (n : Int) = (((y0 - k - 1) / n : Nat) : Int) := by rw [show (y0 : Int) - (k : Int) - 1 = ((y0 - k - 1 : Nat) : Int) by omega, Int.natCast_ediv]
        rw [e2] at hl
        have hl' : (y0 - k - 1) / n = l := by omega
        rw [show y0 + (n - 1 - k) = (y0 - k - 1) + n by omega, Nat.add_div_right _ hn, hl']
      have hwk : w k = cnt (fun t => decide (f k + ((t : Nat) : Int) * g = 0)) (l + 1) := by
        rw [← hw]
        dsimp only
        rw [hup]
        congr 1
        funext t
        exact hz k t
      have hfk := hfb k
      by_cases hg : g = 0
      · subst hg
        by_cases hb : f k = 0
        · have hv : w k = l + 1 := by rw [hwk]; exact cnt_all _ fun i _ => decide_eq_true (by rw [hb]; omega)
          simp [pdiv_pos (show (0 : Int) < (n : Int) by omega), hl, hb]
          exact ⟨FdOk_of (by omega) (by omega), nxq (c + (l + 1), _, _, _, s10) (by simp; exact ⟨rfl, rfl, rfl⟩) (by dsimp only; rw [ht, hv, e])⟩
        · have hv : w k = 0 := by rw [hwk]; exact cnt_non _ fun i _ => decide_eq_false (by omega)
          simp [pdiv_pos (show (0 : Int) < (n : Int) by omega), hl, hb]
          exact ⟨FdOk_of (by omega) (by omega), nxq (c, _, _, _, s10) rfl (by dsimp only; rw [ht, hv, e]; rfl)⟩
      · have hme := meeting_round_i (b := f k) (g := g) (m := 0) (by omega) (by omega)
        have hme' : F_meeting_round [.int (f k), .int g, .int 0] = .ok (optY (meetB (f k) g 0)) := hme
        cases hfr : meetB (f k) g 0 with
        | none =>
          have hv : w k = 0 := by rw [hwk]; exact cnt_non _ fun i _ => decide_eq_false (meet_none hfr i (by omega))
          rw [hfr] at hme'
          simp [pdiv_pos (show (0 : Int) < (n : Int) by omega), hl, hg, ↓lift_of hme', optY, isNone]
          exact ⟨FdOk_of (by omega) (by omega), nxq (c, _, _, _, _) rfl (by dsimp only; rw [ht, hv, e]; rfl)⟩
        | some t =>
          obtain ⟨t1, t2, t3, t4⟩ := meet_some hfr
          have hv : w k = if t < l + 1 then 1 else 0 := by
            rw [hwk]
            refine cnt_one (p := fun t => decide (f k + ((t : Nat) : Int) * g = 0)) (decide_eq_true t2) (fun u hu => ?_) _
            have hu := of_decide_eq_true hu
            have e3 : (u : Int) * g = (t : Int) * g := by omega
            have := Int.eq_of_mul_eq_mul_right hg e3
            omega
          rw [hfr] at hme'
          by_cases hle : t ≤ l
          · rw [if_pos (by omega)] at hv
            simp [pdiv_pos (show (0 : Int) < (n : Int) by omega), hl, hg, ↓lift_of hme', optY, isNone, hle]
            exact ⟨FdOk_of (by omega) (by omega), nxq (c + 1, _, _, _, _) (by simp; exact ⟨rfl, rfl, rfl, rfl⟩) (by dsimp only; rw [ht, hv, e])⟩
          · rw [if_neg (by omega)] at hv
            simp [pdiv_pos (show (0 : Int) < (n : Int) by omega), hl, hg, ↓lift_of hme', optY, isNone, hle]
            exact ⟨FdOk_of (by omega) (by omega), nxq (c, _, _, _, _) rfl (by dsimp only; rw [ht, hv, e]; rfl)⟩
  · dsimp only at e
    rw [← htot, ← e]
    simp

/-! ### the law's own draws -/
def SrcOk (es : List D) : Prop := ∃ a b p : Int, es = [.int a, .int b, .int p] ∧ 0 ≤ a ∧ 0 ≤ b ∧ b < p ∧ 2147483497 ≤ p ∧ p ≤ 2147483647
theorem law_source_i (ns : List Int) {k : Int} (hk : 0 ≤ k) (hk2 : k < 1000) : ∃ es, F__law_source [.list (ns.map .int), .int k] = .ok es ∧ SrcOk es := by
  apply ex_of
  rw [run__law_source]
  unfold S__law_source
  refine wp_cut (fun _ : Unit => [.im (.list (ns.map .int)), .im (.int k), .im (.int (7919 * k + 101)), .no, .no, .no]) (fun _ => True) ?_ fun _ _ => ?_
  · simp
    exact ⟨MulOk_of (by omega) (by omega) (by omega) (by omega), nxq () rfl trivial⟩
  refine wp_cut (fun c : Int => [.im (.list (ns.map .int)), .im (.int k), .im (.int c), .no, .no, .no]) (fun _ => True) ?_ fun c _ => ?_
  · simp [BoolP_decide]
    refine ⟨fun h => ?_, fun _ => nxq _ rfl trivial⟩
    rw [atI_nn hk, List.getElem?_map]
    have hl : k.toNat < ns.length := by omega
    rw [List.getElem?_eq_getElem hl]
    simp
    exact nxq _ rfl trivial
  have hp : ∃ p : Int, atI [PyData.int 2147483647, .int 2147483629, .int 2147483587, .int 2147483579, .int 2147483563, .int 2147483549, .int 2147483543, .int 2147483497] (k % 8) = some (.int p) ∧ 2147483497 ≤ p ∧ p ≤ 2147483647 := by
    have h0 := Int.emod_nonneg k (show (8 : Int) ≠ 0 by omega)
    have h1 := Int.emod_lt_of_pos k (show (0 : Int) < 8 by omega)
    have hc : k % 8 = 0 ∨ k % 8 = 1 ∨ k % 8 = 2 ∨ k % 8 = 3 ∨ k % 8 = 4 ∨ k % 8 = 5 ∨ k % 8 = 6 ∨ k % 8 = 7 := by omega
    rcases hc with h | h | h | h | h | h | h | h <;> rw [h] <;> exact ⟨_, rfl, by omega, by omega⟩
  obtain ⟨p, ep, hp1, hp2⟩ := hp
  have m1 := Int.emod_nonneg c (show p ≠ 0 by omega)
  have m2 := Int.emod_lt_of_pos c (show 0 < p by omega)
  have m3 := Int.emod_nonneg (c % p * 48271 + 104729 * (k + 1)) (show p ≠ 0 by omega)
  have m4 := Int.emod_lt_of_pos (c % p * 48271 + 104729 * (k + 1)) (show 0 < p by omega)
  simp [↓opt_of ep]
  refine ⟨by omega, MulOk_of (by omega) (by omega) (by omega) (by omega), MulOk_of (by omega) (by omega) (by omega) (by omega), by omega, by simp [PowOk], ?_⟩
  rw [BoolP_decide]
  exact ⟨fun h => ⟨_, _, _, rfl, by omega, m3, m4, hp1, hp2⟩, fun h => ⟨_, _, _, rfl, by omega, m3, m4, hp1, hp2⟩⟩

theorem law_pick_i {es : List D} (h : SrcOk es) {m : Int} (hm : 1 ≤ m) (hm2 : m ≤ 1000000000000000000) : ∃ z : D × List D, F__law_pick es [.int m] = .ok z ∧ ∃ d : Int, z.1 = .int d ∧ 0 ≤ d ∧ d < m ∧ SrcOk z.2 := by
  obtain ⟨a, b, p, rfl, ha, hb, hbp, hp1, hp2⟩ := h
  apply ex_of
  rw [run__law_pick]
  simp [S__law_pick, BoolP_decide]
  have hx : ∀ x : Int, 0 ≤ x % m ∧ x % m < m := fun x => ⟨Int.emod_nonneg x (by omega), Int.emod_lt_of_pos x (by omega)⟩
  refine ⟨fun h => ⟨by omega, FdOk_of (by omega) (by omega), (hx a).1, (hx a).2, _, _, _, rfl, ?_, hb, hbp, hp1, hp2⟩, fun h => ?_⟩
  · rw [pdiv_pos (by omega)]; exact Int.ediv_nonneg ha (by omega)
  · have m1 := Int.emod_nonneg (b * 48271 + 11) (show p ≠ 0 by omega)
    have m2 := Int.emod_lt_of_pos (b * 48271 + 11) (show 0 < p by omega)
    exact ⟨MulOk_of (by omega) (by omega) (by omega) (by omega), by omega, MulOk_of (by omega) (by omega) (by omega) (by omega), FdOk_of (by omega) (by omega), by omega, (hx _).1, (hx _).2, _, _, _, rfl, ha, m1, m2, hp1, hp2⟩

theorem law_chosen_i {es : List D} (h : SrcOk es) {ds : List D} (h1 : ds ≠ []) (h2 : ds.length ≤ 1000000) : ∃ z : D × List D, F__law_chosen es [.list ds] = .ok z ∧ z.1 ∈ ds ∧ SrcOk z.2 := by
  apply ex_of
  rw [run__law_chosen]
  have hl : 0 < ds.length := List.length_pos_iff.mpr h1
  simp [S__law_chosen]
  refine lift_ex (law_pick_i h (m := ds.length) (by omega) (by omega)) fun z ⟨d, e1, e2, e3, e4⟩ => ?_
  simp [e1, atI_nn e2]
  have hd : d.toNat < ds.length := by omega
  rw [List.getElem?_eq_getElem hd]
  simp
  exact e4

theorem law_common_i {a b : Int} (ha : 0 ≤ a) (hb : 0 ≤ b) (hb2 : b < 10 ^ 40) : F__law_common [.int a, .int b] = .ok (.int (Int.gcd a b : Nat)) := by
  apply ok_of; rw [run__law_common]; simp [S__law_common]
  refine wp_while (fun p : Int × Int => [.im (.int p.1), .im (.int p.2)]) (fun p => 0 ≤ p.1 ∧ 0 ≤ p.2 ∧ Int.gcd p.1 p.2 = Int.gcd a b) (fun p => p.2.toNat) (a, b) ⟨ha, hb, rfl⟩ (by omega) ?_
  intro ⟨x, y⟩ ⟨hx, hy, hg⟩
  dsimp only at hx hy hg ⊢
  simp [BoolP_decide]
  refine ⟨fun e => ?_, fun e => ?_⟩
  · subst e
    rw [← hg, Int.gcd_zero]
    omega
  · have hp : 0 < y := by omega
    have := Int.emod_lt_of_pos x hp
    have h0 := Int.emod_nonneg x e
    exact ⟨hp, nxq (_, _) rfl ⟨⟨hy, h0, by rw [gcd_step hx hp, hg]⟩, by dsimp only; omega⟩⟩

theorem law_multiple_i {r : List Step} (h : ∀ s ∈ r, 1 ≤ s.1 ∧ s.1 ≤ 10000) (hl : r.length ≤ 12) : F__law_multiple [ruleD r] = .ok (.int (lcmS r : Nat)) := by
  apply ok_of; rw [run__law_multiple]; simp [S__law_multiple, ruleD]
  refine wp_loop stepD (fun p : Nat × Sl × Sl × Sl => [.im (.tuple (r.map stepD)), .im (.int (p.1 : Nat)), p.2.1, p.2.2.1, p.2.2.2]) (fun xs p => 0 < p.1 ∧ p.1 * 10000 ^ xs.length ≤ 10000 ^ 12 ∧ (∀ s ∈ xs, 1 ≤ s.1 ∧ s.1 ≤ 10000) ∧ (xs.map (·.1)).foldl (fun a n => Nat.lcm a n.toNat) p.1 = lcmS r) ?_ ?_ r (1, .no, .no, .no) ?_
  · intro ⟨a, s, s1, s2⟩ ⟨_, _, _, h4⟩
    dsimp only at h4 ⊢
    simp
    exact congrArg Int.ofNat h4
  · intro x xs ⟨a, s, s1, s2⟩ ⟨h1, h2, h3, h4⟩
    dsimp only at h1 h2 h3 h4 ⊢
    have hx := h3 x (List.mem_cons_self ..)
    have hb : a ≤ 10000 ^ 12 := Nat.le_trans (Nat.le_mul_of_pos_right a (Nat.pow_pos (by omega))) h2
    have hg : 0 < Int.gcd a x.1 := Int.gcd_pos_of_ne_zero_right _ (by omega)
    have hg2 : (Int.gcd a x.1 : Int) ≤ x.1 := Int.gcd_le_right _ (by omega)
    simp [stepD, ↓lift_of (law_common_i (a := (a : Int)) (b := x.1) (by omega) (by omega) (by omega)), lcm_quot h1 (show 0 < x.1 by omega), -Prod.forall]
    refine ⟨MulOk_of (by omega) (by omega) (by omega) (by omega), FdOk_of (by omega) (by omega), nxq (_, _, _, _) rfl ⟨Nat.lcm_pos h1 (by omega), ?_, fun n hn => h3 n (List.mem_cons_of_mem _ hn), h4⟩⟩
    refine Nat.le_trans (Nat.mul_le_mul_right _ (Nat.lcm_le_mul h1 (show 0 < x.1.toNat by omega))) ?_
    rw [List.length_cons, Nat.pow_succ] at h2
    refine Nat.le_trans ?_ h2
    rw [Nat.mul_assoc, Nat.mul_comm (10000 ^ _) 10000]
    exact Nat.mul_le_mul_left _ (Nat.mul_le_mul_right _ (by omega))
  · refine ⟨by omega, ?_, h, rfl⟩
    rw [Nat.one_mul]
    exact Nat.pow_le_pow_right (by omega) hl

def knownL : List (List Step) := [[(4, 0, true)], [(4, 0, true), (100, 0, false), (400, 0, true)], [(4, 0, true), (100, 0, false), (900, 200, true), (900, 600, true)], [], [(4, 0, true), (8, 4, true), (8, 0, true)], [(1, 0, true)]]
theorem law_known_i : F__law_known [] = .ok (.list (knownL.map ruleD)) := by
  apply ok_of; rw [run__law_known]; simp [S__law_known]; rfl
theorem known_ok {r : List Step} (h : r ∈ knownL) : RuleOk r := by
  simp only [knownL, List.mem_cons, List.not_mem_nil, or_false] at h
  rcases h with rfl | rfl | rfl | rfl | rfl | rfl
  all_goals exact ⟨by simp [StepOk], by simp, by decide +kernel⟩

def StepsW (r : List Step) : Prop := ∀ s ∈ r, 1 ≤ s.1 ∧ s.1 ≤ 1000 ∧ 0 ≤ s.2.1 ∧ s.2.1 ≤ s.1 - 1
/-- what the law's draw of a rule gives -/
structure DrawOk (r : List Step) (w : Nat) : Prop where
  steps : ∀ s ∈ r, 1 ≤ s.1 ∧ s.1 ≤ 1000 ∧ 0 ≤ s.2.1 ∧ s.2.1 ≤ s.1 - 1
  len : r.length ≤ 5
  lcm : lcmS r ≤ w
theorem DrawOk.rule {r : List Step} {w : Nat} (h : DrawOk r w) (hw : w ≤ 10000) : RuleOk r := ⟨fun s hs => ⟨(h.steps s hs).1, by have := (h.steps s hs).2.1; omega, (h.steps s hs).2.2.1, (h.steps s hs).2.2.2⟩, by have := h.len; omega, by have := h.lcm; omega⟩
theorem known_draw {r : List Step} (h : r ∈ knownL) {w : Nat} (hw : 4 ≤ w) : if lcmS r ≤ w then DrawOk r w else DrawOk (r.take 1) w := by
  simp only [knownL, List.mem_cons, List.not_mem_nil, or_false] at h
  have base : ∀ r : List Step, (∀ s ∈ r, 1 ≤ s.1 ∧ s.1 ≤ 1000 ∧ 0 ≤ s.2.1 ∧ s.2.1 ≤ s.1 - 1) → r.length ≤ 5 → lcmS (r.take 1) ≤ 4 → if lcmS r ≤ w then DrawOk r w else DrawOk (r.take 1) w := by
    intro r h1 h2 h3
    split
    · exact ⟨h1, h2, by assumption⟩
    · exact ⟨fun s hs => h1 s (List.mem_of_mem_take hs), by rw [List.length_take]; omega, by omega⟩
  rcases h with rfl | rfl | rfl | rfl | rfl | rfl
  all_goals exact base _ (by simp) (by simp) (by decide +kernel)
theorem law_rule_i {es : List D} (h : SrcOk es) {w : Nat} (hw : 4 ≤ w) : ∃ z : D × List D, F__law_rule es [.int (w : Nat)] = .ok z ∧ ∃ r : List Step, z.1 = ruleD r ∧ DrawOk r w ∧ SrcOk z.2 := by
  apply ex_of
  rw [run__law_rule]
  unfold S__law_rule
  refine wp_cut (fun p : Int × List D => [.mu p.2, .im (.int w), .im (.int p.1), .no, .no, .no, .no, .no]) (fun p => SrcOk p.2) ?_ fun p hp => ?_
  · simp
    refine lift_ex (law_pick_i h (m := 6) (by omega) (by omega)) fun z ⟨d, e1, e2, e3, e4⟩ => ?_
    simp [e1]
    exact nxq (_, _) rfl e4
  obtain ⟨way, es⟩ := p
  dsimp only at hp ⊢
  refine wp_cut (fun _ : Unit => [.mu es, .im (.int w), .im (.int way), .no, .no, .no, .no, .no]) (fun _ => True) ?_ fun _ _ => ?_
  · simp [BoolP_decide, ↓lift_of law_known_i]
    refine ⟨fun _ => ?_, fun _ => nxq () rfl trivial⟩
    refine lift_ex (law_chosen_i hp (by simp [knownL]) (by simp [knownL])) fun z ⟨hm, hs⟩ => ?_
    obtain ⟨r, hr, e⟩ := List.mem_map.mp hm
    have hk := known_ok hr
    have hd := known_draw hr hw
    have hc : cutL (r.map stepD) none (some 1) = (r.take 1).map stepD := by rw [List.map_take]; exact cut_to (k := 1)
    simp [← e]
    simp [↓lift_of (law_multiple_i (r := r) (fun s hs => ⟨(hk.steps s hs).1, (hk.steps s hs).2.1⟩) (by have := hk.len; omega)), BoolP_decide]
    refine ⟨fun hle => ⟨r, rfl, ?_, hs⟩, fun hle => ?_⟩
    · rw [if_pos hle] at hd; exact hd
    · rw [if_neg (by omega)] at hd
      simp [ruleD, hc]
      exact ⟨r.take 1, by simp [List.map_take], hd, hs⟩
  refine wp_cut (fun p : Int × List D => [.mu p.2, .im (.int w), .im (.int way), .im (ruleD []), .im (.int p.1), .no, .no, .no]) (fun p => SrcOk p.2 ∧ 7 ≤ p.1 ∧ p.1 ≤ 400) ?_ fun p hp => ?_
  · simp
    refine lift_ex (law_chosen_i hp (by simp) (by simp)) fun z ⟨hm, hs⟩ => ?_
    have hz : ∃ m : Int, z.1 = .int m ∧ 7 ≤ m ∧ m ≤ 400 := by
      simp at hm
      rcases hm with e | e | e | e | e | e | e | e | e | e <;> rw [e] <;> exact ⟨_, rfl, by decide, by decide⟩
    obtain ⟨m, e, h1, h2⟩ := hz
    simp [e]
    exact nxq (_, _) rfl ⟨hs, h1, h2⟩
  obtain ⟨base, es⟩ := p
  obtain ⟨hs, hb1, hb2⟩ := hp
  dsimp only at hs hb1 hb2 ⊢
  simp
  refine lift_ex (law_pick_i hs (m := 6) (by omega) (by omega)) fun z ⟨d, e1, e2, e3, e4⟩ => ?_
  obtain ⟨z1, z2⟩ := z
  dsimp only at e1 e4 ⊢
  subst e1
  simp
  refine ⟨small62_of (by omega) (by omega), ?_⟩
  refine wp_count (fun i : Nat => .int (0 + (i : Nat))) d.toNat (fun p : List D × List Step × Sl × Sl × Sl => [.mu p.1, .im (.int w), .im (.int way), .im (ruleD p.2.1), .im (.int base), p.2.2.1, p.2.2.2.1, p.2.2.2.2]) (fun k p => SrcOk p.1 ∧ p.2.1.length ≤ k ∧ StepsW p.2.1 ∧ lcmS p.2.1 ≤ w) ?_ ?_ (z2, [], .no, .no, .no) ⟨e4, by simp, by simp [StepsW], by show lcmS [] ≤ w; exact Nat.le_trans (by decide) hw⟩
  · intro ⟨es, r, s1, s2, s3⟩ ⟨h1, h2, h3, h4⟩
    dsimp only at h1 h2 h3 h4 ⊢
    simp
    exact ⟨r, rfl, ⟨h3, by omega, h4⟩, h1⟩
  · intro k ⟨es, r, s1, s2, s3⟩ hk ⟨h1, h2, h3, h4⟩
    dsimp only at h1 h2 h3 h4 ⊢
    simp
    refine lift_ex (law_pick_i h1 (m := 12) (by omega) (by omega)) fun z ⟨p1, e1, e2, e3, e4⟩ => ?_
    obtain ⟨z1, z2⟩ := z
    dsimp only at e1 e4 ⊢
    subst e1
    simp
    refine ⟨FdOk_of (by omega) (by omega), FdOk_of (by omega) (by omega), MulOk_of (by omega) (by omega) (by omega) (by omega), ?_⟩
    refine lift_ex (law_chosen_i e4 (by simp) (by simp)) fun z ⟨hm, hs⟩ => ?_
    have hz : ∃ m : Int, z.1 = .int m ∧ m ≤ 1000 := by
      simp at hm
      rw [pdiv_pos (by omega), pdiv_pos (by omega)] at hm
      rcases hm with e | e | e | e | e | e <;> rw [e] <;> exact ⟨_, rfl, by omega⟩
    obtain ⟨m, e, hm2⟩ := hz
    obtain ⟨z1, z2⟩ := z
    dsimp only at e hs ⊢
    subst e
    simp
    refine lift_ex (law_pick_i hs (m := max 1 m) (by omega) (by omega)) fun z ⟨q, e1, e2, e3, e4⟩ => ?_
    obtain ⟨z1, z2⟩ := z
    dsimp only at e1 e4 ⊢
    subst e1
    refine lift_ex (law_pick_i e4 (m := 3) (by omega) (by omega)) fun z ⟨q', e1', e2', e3', e4'⟩ => ?_
    obtain ⟨z1, z2⟩ := z
    dsimp only at e1' e4' ⊢
    subst e1'
    have hst : StepsW (r ++ [((max 1 m, q, decide (0 < q')) : Step)]) := fun s hs => by
      rcases List.mem_append.mp hs with h | h
      · exact h3 s h
      · rw [List.mem_singleton] at h
        subst h
        exact ⟨by dsimp only; omega, by dsimp only; omega, e2, by dsimp only; omega⟩
    have e : addD (ruleD r) (.tuple [.tuple [.int (max 1 m), .int q, .bool (decide (0 < q'))]]) = some (ruleD (r ++ [(max 1 m, q, decide (0 < q'))])) := by
      show (if _ then some _ else none) = _
      rw [if_pos (by simp [sizeLine]; omega)]
      simp [ruleD, stepD]
    simp [↓opt_of e, ↓lift_of (law_multiple_i (r := r ++ [(max 1 m, q, decide (0 < q'))]) (fun s hs => ⟨(hst s hs).1, by have := (hst s hs).2.1; omega⟩) (by simp; omega)), BoolP_decide]
    exact ⟨fun hle => nxq (_, r ++ [(max 1 m, q, decide (0 < q'))], _, _, _) rfl ⟨e4', by simp; omega, hst, hle⟩, fun _ => nxq (_, r, _, _, _) rfl ⟨e4', by dsimp only; omega, h3, h4⟩⟩

/-- what is like a rule: its everys, or fewer -/
theorem RuleOk.sub {r q : List Step} (h : RuleOk r) (hl : q.length ≤ 6) (hs : ∀ s ∈ q, StepOk s) (hd : ∀ s ∈ q, ∃ t ∈ r, s.1 = t.1) : RuleOk q ∧ lcmS q ≤ lcmS r := by
  have hq : lcmS q ≤ lcmS r := by
    refine Nat.le_of_dvd (lcmS_pos h.steps) (lcmS_dvd.mpr fun s hq => ?_)
    obtain ⟨t, ht, e⟩ := hd s hq
    rw [e]
    exact lcmS_dvd.mp (Nat.dvd_refl _) t ht
  exact ⟨⟨hs, hl, Nat.le_trans hq h.lcm⟩, hq⟩
theorem law_near_i {es : List D} (h : SrcOk es) {r : List Step} (hR : RuleOk r) {w : Nat} (hw : lcmS r ≤ w) (hw2 : 2000 ≤ w) : ∃ z : D × List D, F__law_near es [ruleD r] = .ok z ∧ ∃ q : List Step, z.1 = ruleD q ∧ (RuleOk q ∧ lcmS q ≤ w) ∧ SrcOk z.2 := by
  apply ex_of
  rw [run__law_near]; unfold S__law_near
  refine wp_cut (fun p : Int × List D => [.mu p.2, .im (ruleD r), .im (.int p.1), .no, .no, .no, .no, .no, .no]) (fun p => SrcOk p.2) ?_ fun ⟨way, es⟩ hs => ?_
  · simp
    refine lift_ex (law_pick_i h (m := 4) (by omega) (by omega)) fun z ⟨d, e1, e2, e3, e4⟩ => ?_
    rw [e1]
    exact nxq (d, z.2) rfl e4
  dsimp only at hs ⊢
  have hlen := hR.len
  have en := encStep.eqD_tuple r []
  refine wp_cut (fun _ : Unit => [.mu es, .im (ruleD r), .im (.int way), .no, .no, .no, .no, .no, .no]) (fun _ => r ≠ []) ?_ fun _ hne => ?_
  · rw [wp_iteM]
    have hc : wp (orM (cmp eqD (var 1) (tupM args0)) (cmp eqD (var 2) (cst (.int 0)))) [.mu es, .im (ruleD r), .im (.int way), .no, .no, .no, .no, .no, .no] (fun k ρ => k = decide (r = [] ∨ way = 0) ∧ ρ = [.mu es, .im (ruleD r), .im (.int way), .no, .no, .no, .no, .no, .no]) fun _ => False := by
      simp only [↓wp_orM, ↓wp_cmp, ↓wp_var1, ↓wp_tupM, ↓wp_args0, LineP, List.length_nil]
      rw [if_pos (by simp [sizeLine]), show (ruleD r) = .tuple (r.map stepD) from rfl, show (PyData.tuple []) = .tuple (([] : List Step).map stepD) from rfl, opt_of en]
      by_cases c : r = []
      · simp [c, ruleD]
      · simp [c, ruleD]
    refine wp_mono hc (fun k ρ ⟨e1, e2⟩ => ?_) fun _ z => z.elim
    subst e1 e2
    by_cases c : r = [] ∨ way = 0
    · rw [decide_eq_true c, BoolP_true]
      refine wp_cut (fun p : Int × List D => [.mu p.2, .im (ruleD r), .im (.int way), .im (.int p.1), .no, .no, .no, .no, .no]) (fun p => (1 ≤ p.1 ∧ p.1 ≤ 12) ∧ SrcOk p.2) ?_ fun ⟨m, es⟩ ⟨hm, hs⟩ => ?_
      · simp
        refine lift_ex (law_chosen_i hs (by simp) (by simp)) fun z ⟨hm, hs⟩ => ?_
        have hz : ∃ m : Int, z.1 = .int m ∧ 1 ≤ m ∧ m ≤ 12 := by
          simp at hm
          rcases hm with e | e | e | e | e <;> rw [e] <;> exact ⟨_, rfl, by decide, by decide⟩
        obtain ⟨m, e, h1, h2⟩ := hz
        rw [e]
        exact nxq (m, z.2) rfl ⟨⟨h1, h2⟩, hs⟩
      dsimp only at hm hs ⊢
      have hcut : cutL (r.map stepD) none (some 5) = (r.take 5).map stepD := by rw [List.map_take]; exact cut_to (k := 5)
      refine wp_cut (fun p : List Step × List D => [.mu p.2, .im (ruleD r), .im (.int way), .im (.int m), .im (ruleD p.1), .no, .no, .no, .no]) (fun p => ((∀ s ∈ p.1, StepOk s) ∧ p.1.length ≤ 6) ∧ SrcOk p.2) ?_ fun ⟨q, es⟩ ⟨⟨hq1, hq2⟩, hs⟩ => ?_
      · simp [ruleD, hcut, -Prod.forall]
        refine lift_ex (law_pick_i hs (m := m) (by omega) (by omega)) fun z ⟨q, e1, q1, q2, e4⟩ => ?_
        obtain ⟨z1, z2⟩ := z
        dsimp only at e1 e4 ⊢
        subst e1
        refine lift_ex (law_pick_i e4 (m := 2) (by omega) (by omega)) fun z ⟨q', e1', _, _, e4'⟩ => ?_
        obtain ⟨z1, z2⟩ := z
        dsimp only at e1' e4' ⊢
        subst e1'
        simp [-Prod.forall]
        refine ⟨by simp [sizeLine]; omega, nxq (r.take 5 ++ [(m, q, decide (q' = 0))], z2) (by simp [stepD, ruleD]) ⟨⟨fun s hs => ?_, by simp; omega⟩, e4'⟩⟩
        rcases List.mem_append.mp hs with z | z
        · exact hR.steps s (List.mem_of_mem_take z)
        · rw [List.mem_singleton.mp z]
          exact ⟨by dsimp only; omega, by dsimp only; omega, q1, by dsimp only; omega⟩
      dsimp only at hq1 hq2 hs ⊢
      simp [↓lift_of (law_multiple_i (r := q) (fun s hs => ⟨(hq1 s hs).1, (hq1 s hs).2.1⟩) (by omega)), BoolP_decide]
      exact ⟨fun c => ⟨q, rfl, ⟨⟨hq1, hq2, by omega⟩, by omega⟩, hs⟩, fun c => ⟨r, rfl, ⟨hR, hw⟩, hs⟩⟩
    · rw [decide_eq_false c, BoolP_false, wp_nxS, NxP_nx]
      exact nxq () rfl fun z => c (.inl z)
  have hl0 : 0 < r.length := List.length_pos_iff.mpr hne
  refine wp_cut (fun p : Nat × List D => [.mu p.2, .im (ruleD r), .im (.int way), .no, .no, .im (.int (p.1 : Nat)), .no, .no, .no]) (fun p => p.1 < r.length ∧ SrcOk p.2) ?_ fun ⟨k, es⟩ ⟨hk, hs⟩ => ?_
  · simp [ruleD]
    refine lift_ex (law_pick_i hs (m := (r.length : Nat)) (by omega) (by omega)) fun z ⟨d, e1, e2, e3, e4⟩ => ?_
    obtain ⟨z1, z2⟩ := z
    dsimp only at e1 e4 ⊢
    subst e1
    obtain ⟨d, rfl⟩ := Int.eq_ofNat_of_zero_le e2
    exact nxq (d, z2) rfl ⟨by dsimp only; omega, e4⟩
  dsimp only at hk hs ⊢
  have hcut1 : cutL (r.map stepD) none (some (k : Int)) = (r.take k).map stepD := by rw [List.map_take]; exact cut_to
  have hcut2 : cutL (r.map stepD) (some ((k : Int) + 1)) none = (r.drop (k + 1)).map stepD := by rw [List.map_drop]; exact cut_from (k := k + 1)
  refine wp_cut (fun _ : Unit => [.mu es, .im (ruleD r), .im (.int way), .no, .no, .im (.int (k : Nat)), .no, .no, .no]) (fun _ => True) ?_ fun _ _ => ?_
  · simp [BoolP_decide, ruleD, hcut1, hcut2]
    refine ⟨fun _ => ⟨by simp [sizeLine]; omega, r.take k ++ r.drop (k + 1), by simp, ?_, hs⟩, fun _ => nxq () rfl trivial⟩
    have hsub : ∀ s ∈ r.take k ++ r.drop (k + 1), s ∈ r := fun s hs => by
      rcases List.mem_append.mp hs with z | z
      · exact List.mem_of_mem_take z
      · exact List.mem_of_mem_drop z
    have := hR.sub (q := r.take k ++ r.drop (k + 1)) (by simp; omega) (fun s hs => hR.steps s (hsub s hs)) fun s hs => ⟨s, hsub s hs, rfl⟩
    exact ⟨this.1, by omega⟩
  obtain ⟨⟨m, q, b⟩, hg⟩ : ∃ s, r[k]? = some s := ⟨r[k], List.getElem?_eq_getElem hk⟩
  have hst := hR.steps _ (List.mem_of_getElem? hg)
  have hat : atI (r.map stepD) (k : Int) = some (stepD (m, q, b)) := by rw [QL.atI_nat, List.getElem?_map, hg]; rfl
  obtain ⟨t1, t2, t3, t4⟩ := hst
  dsimp only at t1 t2 t3 t4
  refine wp_then (ρ' := [.mu es, .im (ruleD r), .im (.int way), .im (.int m), .no, .im (.int (k : Nat)), .im (.int q), .im (.bool b), .no]) (by simp [ruleD, ↓opt_of hat, stepD]) ?_
  refine wp_cut (fun p : Step × List D => [.mu p.2, .im (ruleD r), .im (.int way), .im (.int m), .no, .im (.int (k : Nat)), .im (.int q), .im (.bool b), .im (stepD p.1)]) (fun p => (StepOk p.1 ∧ p.1.1 = m) ∧ SrcOk p.2) ?_ fun ⟨s, es⟩ ⟨⟨h1, h2⟩, hs⟩ => ?_
  · simp [BoolP_decide, tbD]
    refine ⟨fun _ => nxq ((m, q, !b), es) (by simp [stepD]) ⟨⟨⟨t1, t2, t3, t4⟩, rfl⟩, hs⟩, fun _ => ?_⟩
    refine lift_ex (law_pick_i hs (m := m) (by omega) (by omega)) fun z ⟨d, e1, e2, e3, e4⟩ => ?_
    obtain ⟨z1, z2⟩ := z
    dsimp only at e1 e4 ⊢
    subst e1
    exact nxq ((m, d, b), z2) (by simp [stepD]) ⟨⟨⟨t1, t2, e2, by dsimp only; omega⟩, rfl⟩, e4⟩
  dsimp only at h1 h2 hs ⊢
  have hsub : ∀ x ∈ r.take k ++ ([s] ++ r.drop (k + 1)), x = s ∨ x ∈ r := fun x hx => by
    rcases List.mem_append.mp hx with z | z
    · exact .inr (List.mem_of_mem_take z)
    · rcases List.mem_append.mp z with z | z
      · exact .inl (List.mem_singleton.mp z)
      · exact .inr (List.mem_of_mem_drop z)
  have hfin := hR.sub (q := r.take k ++ ([s] ++ r.drop (k + 1))) (by simp; omega) (fun x hx => (hsub x hx).elim (fun e => e ▸ h1) (hR.steps x)) fun x hx => (hsub x hx).elim (fun e => ⟨(m, q, b), List.mem_of_getElem? hg, by rw [e, h2]⟩) fun e => ⟨x, e, rfl⟩
  simp [ruleD, hcut1, hcut2]
  exact ⟨by simp [sizeLine]; omega, by simp [sizeLine]; omega, r.take k ++ ([s] ++ r.drop (k + 1)), by simp, ⟨hfin.1, by omega⟩, hs⟩

theorem law_year_i {es : List D} (h : SrcOk es) : ∃ z : D × List D, F__law_year es [] = .ok z ∧ ∃ y : Int, z.1 = .int y ∧ 1 ≤ y ∧ y ≤ 1000000000000000 ∧ SrcOk z.2 := by
  apply ex_of
  rw [run__law_year]
  simp [S__law_year, PowOk]
  refine lift_ex (law_chosen_i h (by simp) (by simp)) fun z ⟨hm, hs⟩ => ?_
  have hz : ∃ m : Int, z.1 = .int m ∧ 1 ≤ m ∧ m ≤ 1000000000000000 := by
    simp at hm
    rcases hm with e | e | e | e | e <;> rw [e] <;> exact ⟨_, rfl, by decide, by decide⟩
  obtain ⟨m, e, h1, h2⟩ := hz
  simp [e]
  refine lift_ex (law_pick_i hs h1 (by omega)) fun z ⟨d, e1, e2, e3, e4⟩ => ?_
  simp [e1]
  exact ⟨by omega, by omega, e4⟩

/-- the multiple of many everys, where it is known to be small -/
theorem law_multiple_big {r : List Step} (h : ∀ s ∈ r, 1 ≤ s.1 ∧ s.1 ≤ 10000) (hb : lcmS r ≤ 1000000000000000000000000000000) : F__law_multiple [ruleD r] = .ok (.int (lcmS r : Nat)) := by
  have hpos : 0 < lcmS r := lcmN_pos fun n hn => by
    obtain ⟨s, hs, rfl⟩ := List.mem_map.mp hn
    exact (h s hs).1
  apply ok_of; rw [run__law_multiple]; simp [S__law_multiple, ruleD]
  refine wp_loop stepD (fun p : Nat × Sl × Sl × Sl => [.im (.tuple (r.map stepD)), .im (.int (p.1 : Nat)), p.2.1, p.2.2.1, p.2.2.2]) (fun xs p => 0 < p.1 ∧ (∀ s ∈ xs, 1 ≤ s.1 ∧ s.1 ≤ 10000) ∧ (xs.map (·.1)).foldl (fun a n => Nat.lcm a n.toNat) p.1 = lcmS r) ?_ ?_ r (1, .no, .no, .no) ⟨by omega, h, rfl⟩
  · intro ⟨a, s, s1, s2⟩ ⟨_, _, h4⟩
    dsimp only at h4 ⊢
    simp
    exact congrArg Int.ofNat h4
  · intro x xs ⟨a, s, s1, s2⟩ ⟨h1, h3, h4⟩
    dsimp only at h1 h3 h4 ⊢
    have hx := h3 x (List.mem_cons_self ..)
    have hd := (foldl_lcm_dvd (lcmS r) ((x :: xs).map (·.1)) a).mp (by rw [h4]; exact Nat.dvd_refl _)
    have hb2 : a ≤ 1000000000000000000000000000000 := Nat.le_trans (Nat.le_of_dvd hpos hd.1) hb
    have hg : 0 < Int.gcd a x.1 := Int.gcd_pos_of_ne_zero_right _ (by omega)
    have hg2 : (Int.gcd a x.1 : Int) ≤ x.1 := Int.gcd_le_right _ (by omega)
    simp [stepD, ↓lift_of (law_common_i (a := (a : Int)) (b := x.1) (by omega) (by omega) (by omega)), lcm_quot h1 (show 0 < x.1 by omega), -Prod.forall]
    exact ⟨MulOk_of (by omega) (by omega) (by omega) (by omega), FdOk_of (by omega) (by omega), nxq (_, _, _, _) rfl ⟨Nat.lcm_pos h1 (by omega), fun n hn => h3 n (List.mem_cons_of_mem _ hn), h4⟩⟩
theorem lcm_app (r q : List Step) : lcmS (r ++ q) ∣ lcmS r * lcmS q := lcmS_dvd.mpr fun s hs => (List.mem_append.mp hs).elim (fun z => Nat.dvd_trans (lcmS_dvd.mp (Nat.dvd_refl _) s z) (Nat.dvd_mul_right _ _)) fun z => Nat.dvd_trans (lcmS_dvd.mp (Nat.dvd_refl _) s z) (Nat.dvd_mul_left _ _)
theorem com_self (r : List Step) : comN r r ∣ lcmS r := lcmS_dvd.mpr fun s hs => lcmS_dvd.mp (Nat.dvd_refl _) s ((List.mem_append.mp hs).elim id id)
theorem lcm_rev (r : List Step) : lcmS r.reverse ∣ lcmS r := lcmS_dvd.mpr fun s hs => lcmS_dvd.mp (Nat.dvd_refl _) s (List.mem_reverse.mp hs)
theorem com_rev (r : List Step) : comN r r.reverse ∣ lcmS r := lcmS_dvd.mpr fun s hs => lcmS_dvd.mp (Nat.dvd_refl _) s ((List.mem_append.mp hs).elim id List.mem_reverse.mp)
theorem law_pair_i {es : List D} (h : SrcOk es) {w : Nat} (hw : 4 ≤ w) (hw2 : w ≤ 1000) : ∃ z : D × List D, F__law_pair es [.int (w : Nat)] = .ok z ∧ ∃ r q : List Step, z.1 = .tuple [ruleD r, ruleD q] ∧ (RuleOk r ∧ RuleOk q ∧ comN r q ≤ 2 * w ∧ lcmS r ≤ w ∧ lcmS q ≤ 2000) ∧ SrcOk z.2 := by
  apply ex_of
  rw [run__law_pair]; unfold S__law_pair
  refine wp_cut (fun p : List Step × List D => [.mu p.2, .im (.int (w : Nat)), .im (ruleD p.1), .no, .no, .no]) (fun p => DrawOk p.1 w ∧ SrcOk p.2) ?_ fun ⟨r, es⟩ ⟨hd, hs⟩ => ?_
  · simp
    refine lift_ex (law_rule_i h hw) fun z ⟨r, e1, e2, e3⟩ => ?_
    rw [e1]
    exact nxq (r, z.2) rfl ⟨e2, e3⟩
  dsimp only at hd hs ⊢
  have hR := hd.rule (by omega)
  have hl1 := hd.lcm
  have near : ∀ (es : List D) (q : List Step), SrcOk es → RuleOk q → lcmS q ≤ 2000 → ∃ z : D × List D, F__law_near es [ruleD q] = .ok z ∧ ∃ p : List Step, z.1 = ruleD p ∧ (RuleOk p ∧ lcmS p ≤ 2000) ∧ SrcOk z.2 := fun es q h1 h2 h3 => law_near_i h1 h2 h3 (Nat.le_refl _)
  refine wp_cut (fun p : List Step × List D => [.mu p.2, .im (.int (w : Nat)), .im (ruleD r), .im (ruleD p.1), .no, .no]) (fun p => (RuleOk p.1 ∧ lcmS p.1 ≤ 2000) ∧ SrcOk p.2) ?_ fun ⟨q, es⟩ ⟨⟨hq, hl2⟩, hs⟩ => ?_
  · simp
    refine lift_ex (near es r hs hR (by omega)) fun z ⟨q, e1, e2, e3⟩ => ?_
    rw [e1]
    exact nxq (q, z.2) rfl ⟨e2, e3⟩
  dsimp only at hq hl2 hs ⊢
  refine wp_cut (fun p : List Step × Sl × List D => [.mu p.2.2, .im (.int (w : Nat)), .im (ruleD r), .im (ruleD p.1), p.2.1, .no]) (fun p => (RuleOk p.1 ∧ lcmS p.1 ≤ 2000) ∧ SrcOk p.2.2) ?_ fun ⟨q, s4, es⟩ ⟨⟨hq, hl2⟩, hs⟩ => ?_
  · simp
    refine lift_ex (law_pick_i hs (m := 3) (by omega) (by omega)) fun z ⟨d, e1, e2, e3, e4⟩ => ?_
    obtain ⟨z1, z2⟩ := z
    dsimp only at e1 e4 ⊢
    subst e1
    simp
    refine ⟨small62_of (by omega) (by omega), ?_⟩
    rw [range_enc]
    refine wp_count (fun i : Nat => .int (0 + (i : Nat))) d.toNat (fun p : List Step × Sl × List D => [.mu p.2.2, .im (.int (w : Nat)), .im (ruleD r), .im (ruleD p.1), p.2.1, .no]) (fun _ p => (RuleOk p.1 ∧ lcmS p.1 ≤ 2000) ∧ SrcOk p.2.2) ?_ ?_ (q, .no, z2) ⟨⟨hq, hl2⟩, e4⟩
    · intro p h
      exact nxq p rfl h
    · intro i ⟨q, s4, es⟩ _ ⟨⟨hq, hl2⟩, hs⟩
      dsimp only at hq hl2 hs ⊢
      simp
      refine lift_ex (near es q hs hq hl2) fun z ⟨p, e1, e2, e3⟩ => ?_
      rw [e1]
      exact nxq (p, _, z.2) rfl ⟨e2, e3⟩
  dsimp only at hq hl2 hs ⊢
  refine wp_cut (fun p : List Step × List D => [.mu p.2, .im (.int (w : Nat)), .im (ruleD r), .im (ruleD q), s4, .im (ruleD p.1)]) (fun p => DrawOk p.1 w ∧ SrcOk p.2) ?_ fun ⟨o, es⟩ ⟨ho, hs⟩ => ?_
  · simp
    refine lift_ex (law_rule_i hs hw) fun z ⟨r, e1, e2, e3⟩ => ?_
    rw [e1]
    exact nxq (r, z.2) rfl ⟨e2, e3⟩
  dsimp only at ho hs ⊢
  have hO := ho.rule (by omega)
  have hl3 := ho.lcm
  refine wp_cut (fun p : List Step × List D => [.mu p.2, .im (.int (w : Nat)), .im (ruleD r), .im (ruleD p.1), s4, .im (ruleD o)]) (fun p => (RuleOk p.1 ∧ lcmS p.1 ≤ 2000) ∧ SrcOk p.2) ?_ fun ⟨q, es⟩ ⟨⟨hq, hl2⟩, hs⟩ => ?_
  · simp
    refine lift_ex (law_pick_i hs (m := 3) (by omega) (by omega)) fun z ⟨d, e1, e2, e3, e4⟩ => ?_
    obtain ⟨z1, z2⟩ := z
    dsimp only at e1 e4 ⊢
    subst e1
    simp [BoolP_decide]
    exact ⟨fun _ => nxq (o, z2) rfl ⟨⟨hO, by dsimp only; omega⟩, e4⟩, fun _ => nxq (q, z2) rfl ⟨⟨hq, hl2⟩, e4⟩⟩
  dsimp only at hq hl2 hs ⊢
  have k1 := hR.len
  have k2 := hq.len
  have hm : F__law_multiple [ruleD (r ++ q)] = .ok (.int (comN r q : Nat)) := law_multiple_i (fun s hs => (List.mem_append.mp hs).elim (fun z => ⟨(hR.steps s z).1, (hR.steps s z).2.1⟩) fun z => ⟨(hq.steps s z).1, (hq.steps s z).2.1⟩) (by simp; omega)
  have hadd : addD (ruleD r) (ruleD q) = some (ruleD (r ++ q)) := by
    show (if _ then some _ else none) = _
    rw [if_pos (by simp [sizeLine]; omega)]
    simp [ruleD]
  have hrv : revD (ruleD r) = some (ruleD r.reverse) := by
    show some (PyData.tuple (r.map stepD).reverse) = _
    rw [← List.map_reverse]; rfl
  have hRr : RuleOk r.reverse := ⟨fun s hs => hR.steps s (List.mem_reverse.mp hs), by simp; exact hR.len, Nat.le_trans (Nat.le_of_dvd (lcmS_pos hR.steps) (lcm_rev r)) hR.lcm⟩
  simp [↓opt_of hadd, ↓lift_of hm, BoolP_decide, ↓opt_of hrv]
  refine ⟨MulOk_of (by omega) (by omega) (by omega) (by omega), fun hle => ⟨r, q, ⟨rfl, rfl⟩, ⟨hR, hq, by omega, hl1, hl2⟩, hs⟩, fun hgt => ⟨r, r.reverse, ⟨rfl, rfl⟩, ⟨hR, hRr, ?_, hl1, ?_⟩, hs⟩⟩
  · have := Nat.le_of_dvd (lcmS_pos hR.steps) (com_rev r)
    omega
  · have := Nat.le_of_dvd (lcmS_pos hR.steps) (lcm_rev r)
    omega

theorem com_comm (r q : List Step) : comN r q = comN q r := Nat.dvd_antisymm (lcmS_dvd.mpr fun s hs => lcmS_dvd.mp (Nat.dvd_refl (comN q r)) s (List.mem_append.mpr (List.mem_append.mp hs).symm)) (lcmS_dvd.mpr fun s hs => lcmS_dvd.mp (Nat.dvd_refl (comN r q)) s (List.mem_append.mpr (List.mem_append.mp hs).symm))
theorem ap_mod {r q : List Step} (h : RuleOk r) (h2 : RuleOk q) (h0 : apN r q (comN r q) = 0) (k : Nat) : apN r q k = apN r q (k % comN r q) := by
  obtain ⟨p1, p2⟩ := com_per h h2
  have e := apN_mul p1 p2 (k % comN r q) (k / comN r q)
  rw [Nat.mul_comm, Nat.mod_add_div, h0, Int.mul_zero, Int.add_zero] at e
  exact e
theorem ap_mem {r q : List Step} (h : RuleOk r) (h2 : RuleOk q) (h0 : apN r q (comN r q) = 0) (k : Nat) : apN r q k ∈ apRow r q := by
  rw [ap_mod h h2 h0]
  exact List.mem_map.mpr ⟨_, List.mem_range.mpr (Nat.mod_lt _ (com_pos h h2)), rfl⟩
theorem ap_of {r q : List Step} {x : Int} (hx : x ∈ apRow r q) : ∃ i, i < comN r q ∧ apN r q i = x := by
  obtain ⟨i, hi, e⟩ := List.mem_map.mp hx
  exact ⟨i, List.mem_range.mp hi, e⟩
theorem apRow_ne {r q : List Step} (h : RuleOk r) (h2 : RuleOk q) : apRow r q ≠ [] := by
  intro z
  have := congrArg List.length z
  have := com_pos h h2
  simp [apRow] at *
  omega
theorem ap_third {r q p : List Step} (h : RuleOk r) (h2 : RuleOk q) (h3 : RuleOk p) (a : apN r q (comN r q) = 0) (b : apN q p (comN q p) = 0) : apN r p (comN r p) = 0 := by
  obtain ⟨p1, p2⟩ := com_per h h2
  obtain ⟨p3, p4⟩ := com_per h2 h3
  obtain ⟨p5, p6⟩ := com_per h h3
  have e1 := apN_mul p1 p2 0 (comN q p * comN r p)
  have e2 := apN_mul p3 p4 0 (comN r q * comN r p)
  have e3 := apN_mul p5 p6 0 (comN r q * comN q p)
  rw [a, Int.mul_zero, apN_zero, Nat.zero_add, Int.add_zero] at e1
  rw [b, Int.mul_zero, apN_zero, Nat.zero_add, Int.add_zero] at e2
  rw [apN_zero, Nat.zero_add, Int.zero_add, apN_add r q p] at e3
  rw [show comN r q * comN q p * comN r p = comN q p * comN r p * comN r q by ac_rfl, e1, show comN q p * comN r p * comN r q = comN r q * comN r p * comN q p by ac_rfl, e2] at e3
  have hp : (0 : Int) < ((comN r q * comN q p : Nat) : Int) := by
    have := Nat.mul_pos (com_pos h h2) (com_pos h2 h3)
    omega
  rcases Int.mul_eq_zero.mp (show ((comN r q * comN q p : Nat) : Int) * apN r p (comN r p) = 0 by omega) with z | z
  · omega
  · exact z
theorem max_third {r q p : List Step} (h : RuleOk r) (h2 : RuleOk q) (h3 : RuleOk p) (a : apN r q (comN r q) = 0) (b : apN q p (comN q p) = 0) : maxI (apRow r p) ≤ maxI (apRow r q) + maxI (apRow q p) := by
  obtain ⟨i, _, e⟩ := ap_of (maxI_mem (apRow_ne h h3))
  have h1 := le_maxI (ap_mem h h2 a i)
  have h2 := le_maxI (ap_mem h2 h3 b i)
  rw [← e, apN_add r q p]
  omega
theorem max_back {r q : List Step} (h : RuleOk r) (h2 : RuleOk q) (a : apN r q (comN r q) = 0) : maxI (apRow q r) = -minI (apRow r q) ∧ minI (apRow q r) = -maxI (apRow r q) := by
  have a' : apN q r (comN q r) = 0 := by rw [← com_comm, apN_neg, a]; rfl
  obtain ⟨i1, _, e1⟩ := ap_of (maxI_mem (apRow_ne h h2))
  obtain ⟨i2, _, e2⟩ := ap_of (minI_mem (apRow_ne h h2))
  obtain ⟨i3, _, e3⟩ := ap_of (maxI_mem (apRow_ne h2 h))
  obtain ⟨i4, _, e4⟩ := ap_of (minI_mem (apRow_ne h2 h))
  have b1 := minI_le (ap_mem h2 h a' i1)
  have b2 := le_maxI (ap_mem h2 h a' i2)
  have b3 := minI_le (ap_mem h h2 a i3)
  have b4 := le_maxI (ap_mem h h2 a i4)
  have n1 := apN_neg r q i1
  have n2 := apN_neg r q i2
  have n3 := apN_neg r q i3
  have n4 := apN_neg r q i4
  omega
/-- by no more than the farthest -/
theorem first_top {r q : List Step} (h : RuleOk r) (h2 : RuleOk q) (a : apN r q (comN r q) = 0) {o : Option Nat} (ho : NextIs (fun y => beyB (max (maxI (apRow r q)) (-minI (apRow r q))) (apN r q (y - 1))) 1 o) : o = none := by
  cases o with
  | none => rfl
  | some y =>
    have hb := ho.2.1
    unfold beyB at hb
    have hb := of_decide_eq_true hb
    have b1 := le_maxI (ap_mem h h2 a (y - 1))
    have b2 := minI_le (ap_mem h h2 a (y - 1))
    omega
theorem first_less {r q : List Step} (h : RuleOk r) (h2 : RuleOk q) {o : Option Nat} (ho : NextIs (fun y => beyB (max (maxI (apRow r q)) (-minI (apRow r q)) - 1) (apN r q (y - 1))) 1 o) (ht : 0 < max (maxI (apRow r q)) (-minI (apRow r q))) : o ≠ none := fun z => by
  subst z
  obtain ⟨i1, _, e1⟩ := ap_of (maxI_mem (apRow_ne h h2))
  obtain ⟨i2, _, e2⟩ := ap_of (minI_mem (apRow_ne h h2))
  have b1 := ho (i1 + 1) (by omega)
  have b2 := ho (i2 + 1) (by omega)
  unfold beyB at b1 b2
  have b1 := of_decide_eq_false b1
  have b2 := of_decide_eq_false b2
  rw [Nat.add_sub_cancel, e1] at b1
  rw [Nat.add_sub_cancel, e2] at b2
  omega
theorem top_bound {r q : List Step} (h : RuleOk r) (h2 : RuleOk q) (hc : comN r q ≤ 1000) (a : apN r q (comN r q) = 0) : 0 ≤ max (maxI (apRow r q)) (-minI (apRow r q)) ∧ max (maxI (apRow r q)) (-minI (apRow r q)) ≤ 1000 := by
  obtain ⟨i1, j1, e1⟩ := ap_of (maxI_mem (apRow_ne h h2))
  obtain ⟨i2, j2, e2⟩ := ap_of (minI_mem (apRow_ne h h2))
  have b0 := le_maxI (ap_mem h h2 a 0)
  rw [apN_zero] at b0
  have b1 := apN_abs r q i1
  have b2 := apN_abs r q i2
  omega
/-- up to the next year with the same first day one more -/
theorem cnt_next {p : Nat → Bool} {y0 y : Nat} (h1 : 1 ≤ y0) (hn : NextIs p y0 (some y)) : cnt (fun i => p (i + 1)) y = cnt (fun i => p (i + 1)) (y0 - 1) + 1 := by
  obtain ⟨a, b, c⟩ := hn
  obtain ⟨d, rfl⟩ := Nat.le.dest a
  have hz : ∀ e, e ≤ d → cnt (fun i => p (i + 1)) (y0 - 1 + e) = cnt (fun i => p (i + 1)) (y0 - 1) := by
    intro e
    induction e with
    | zero => intro _; rfl
    | succ e ih =>
      intro he
      rw [← Nat.add_assoc, cnt_succ, ih (by omega)]
      have := c (y0 + e) (by omega) (by omega)
      rw [show y0 - 1 + e + 1 = y0 + e by omega, this]
      rfl
  rw [show y0 + d = y0 - 1 + d + 1 by omega, cnt_succ, hz d (Nat.le_refl _), show y0 - 1 + d + 1 = y0 + d by omega, b]
  rfl
def FA (r q : List Step) : D := if apN r q (comN r q) = 0 then apfD (apRow r q) else .none
set_option maxRecDepth 1000 in
theorem law_ok (ns : List Int) : F_law [.list (ns.map .int)] = .ok (.bool true) := by
  apply ok_of; rw [run_law]; unfold S_law
  generalize hsc : PyData.list (ns.map .int) = sc
  refine wp_cut (fun ρ : Rho => ρ) (J sc 15 []) ?_ ?_
  · simp only [↓wp_forS, ↓wp_rangeM, ↓wp_argsC, ↓wp_cst, ↓wp_args0, ↓OptP_range1]
    refine ⟨small62_of (by omega) (by omega), ?_⟩
    refine wp_count (fun i : Nat => .int (0 + (i : Nat))) 6 (fun ρ : Rho => ρ) (fun _ ρ => J sc 15 [] ρ) ?_ ?_ _ ⟨rfl, rfl, rfl⟩
    · intro ρ h
      exact nxq _ rfl h
    intro k ρ hk ⟨hlen, h0, hm⟩
    obtain ⟨a0, a1, a2, a3, a4, a5, a6, a7, a8, a9, a10, a11, a12, a13, a14, rfl⟩ := len_15 hlen
    have e0 : a0 = .im sc := by simpa using h0
    subst e0
    simp only [↓wp_gN, ↓SetP_1]
    refine wp_cut (fun p : Sl × List D => [.im sc, p.1, .mu p.2, a3, a4, a5, a6, a7, a8, a9, a10, a11, a12, a13, a14]) (fun p => SrcOk p.2) ?_ fun ⟨s1, es⟩ hs => ?_
    · simp only [↓wp_newCallS, ↓wp_argsC, ↓wp_var0, ↓wp_var1, ↓wp_args0, ↓LenP_2, ← hsc]
      exact lift_ex (law_source_i ns (k := 0 + (k : Int)) (by omega) (by omega)) fun es h => nxq (_, es) rfl h
    dsimp only at hs ⊢
    refine wp_cut (fun p : List Step × List Step × List D => [.im sc, s1, .mu p.2.2, .im (ruleD p.1), .im (ruleD p.2.1), a5, a6, a7, a8, a9, a10, a11, a12, a13, a14]) (fun p => (RuleOk p.1 ∧ RuleOk p.2.1 ∧ comN p.1 p.2.1 ≤ 200 ∧ lcmS p.1 ≤ 100 ∧ lcmS p.2.1 ≤ 2000) ∧ SrcOk p.2.2) ?_ fun ⟨r, q, es⟩ ⟨⟨hr, hq, c12, l1, l2⟩, hs⟩ => ?_
    · simp
      refine lift_ex (law_pair_i hs (w := 100) (by omega) (by omega)) fun z ⟨r, q, e1, ⟨e2, e3, e4, e5, e6⟩, e7⟩ => ?_
      rw [e1]
      simp
      exact nxq (r, q, z.2) rfl ⟨⟨e2, e3, e4, e5, e6⟩, e7⟩
    dsimp only at hr hq c12 l1 l2 hs ⊢
    refine wp_cut (fun p : List Step × List D => [.im sc, s1, .mu p.2, .im (ruleD r), .im (ruleD q), .im (ruleD p.1), a6, a7, a8, a9, a10, a11, a12, a13, a14]) (fun p => (RuleOk p.1 ∧ lcmS p.1 ≤ 2000) ∧ SrcOk p.2) ?_ fun ⟨p0, es⟩ ⟨⟨hp0, l3⟩, hs⟩ => ?_
    · simp
      refine lift_ex (law_near_i hs hq (w := 2000) l2 (Nat.le_refl _)) fun z ⟨p, e1, e2, e3⟩ => ?_
      rw [e1]
      exact nxq (p, z.2) rfl ⟨e2, e3⟩
    dsimp only at hp0 l3 hs ⊢
    refine wp_cut (fun p : List Step => [.im sc, s1, .mu es, .im (ruleD r), .im (ruleD q), .im (ruleD p), a6, a7, a8, a9, a10, a11, a12, a13, a14]) (fun p => RuleOk p ∧ comN q p ≤ 400 ∧ comN r p ≤ 400) ?_ fun p ⟨hp, c23, c13⟩ => ?_
    · have k1 := hr.len
      have k2 := hq.len
      have k3 := hp0.len
      have hadd : addD (ruleD r) (ruleD q) = some (ruleD (r ++ q)) := by
        show (if _ then some _ else none) = _
        rw [if_pos (by simp [sizeLine]; omega)]
        simp [ruleD]
      have hadd2 : addD (ruleD (r ++ q)) (ruleD p0) = some (ruleD (r ++ q ++ p0)) := by
        show (if _ then some _ else none) = _
        rw [if_pos (by simp [sizeLine]; omega)]
        simp [ruleD]
      have hbig : lcmS (r ++ q ++ p0) ≤ 1000000000000000000000000000000 := by
        have d1 : lcmS (r ++ q ++ p0) ≤ lcmS (r ++ q) * lcmS p0 := Nat.le_of_dvd (Nat.mul_pos (com_pos hr hq) (lcmS_pos hp0.steps)) (lcm_app (r ++ q) p0)
        have d2 : lcmS (r ++ q) * lcmS p0 ≤ 200 * 2000 := Nat.mul_le_mul c12 l3
        omega
      have hst : ∀ s ∈ r ++ q ++ p0, 1 ≤ s.1 ∧ s.1 ≤ 10000 := fun s hs => by
        rcases List.mem_append.mp hs with z | z
        · rcases List.mem_append.mp z with z | z
          · exact ⟨(hr.steps s z).1, (hr.steps s z).2.1⟩
          · exact ⟨(hq.steps s z).1, (hq.steps s z).2.1⟩
        · exact ⟨(hp0.steps s z).1, (hp0.steps s z).2.1⟩
      have hpos : 0 < lcmS (r ++ q ++ p0) := lcmN_pos fun n hn => by
        obtain ⟨s, hs, rfl⟩ := List.mem_map.mp hn
        exact (hst s hs).1
      have hm := law_multiple_big hst hbig
      simp [↓opt_of hadd, ↓opt_of hadd2, ↓lift_of hm, BoolP_decide]
      refine ⟨fun hle => nxq p0 rfl ⟨hp0, ?_, ?_⟩, fun _ => nxq r rfl ⟨hr, ?_, ?_⟩⟩
      · refine Nat.le_trans (Nat.le_of_dvd hpos (lcmS_dvd.mpr fun s hs => lcmS_dvd.mp (Nat.dvd_refl _) s ?_)) (show lcmS (r ++ q ++ p0) ≤ 400 by rw [List.append_assoc]; omega)
        rcases List.mem_append.mp hs with z | z
        · exact List.mem_append_left _ (List.mem_append_right _ z)
        · exact List.mem_append_right _ z
      · refine Nat.le_trans (Nat.le_of_dvd hpos (lcmS_dvd.mpr fun s hs => lcmS_dvd.mp (Nat.dvd_refl _) s ?_)) (show lcmS (r ++ q ++ p0) ≤ 400 by rw [List.append_assoc]; omega)
        rcases List.mem_append.mp hs with z | z
        · exact List.mem_append_left _ (List.mem_append_left _ z)
        · exact List.mem_append_right _ z
      · rw [com_comm]; omega
      · have := Nat.le_of_dvd (lcmS_pos hr.steps) (com_self r); omega
    have c11 : comN r r ≤ 200 := by have := Nat.le_of_dvd (lcmS_pos hr.steps) (com_self r); omega
    have c21 : comN q r ≤ 200 := by rw [com_comm]; exact c12
    refine wp_cut (fun t : Sl × Sl × Sl × Sl × List D => [.im sc, s1, .mu t.2.2.2.2, .im (ruleD r), .im (ruleD q), .im (ruleD p), t.1, t.2.1, t.2.2.1, t.2.2.2.1, a10, a11, a12, a13, a14]) (fun t => SrcOk t.2.2.2.2) ?_ fun ⟨s6, s7, s8, s9, es⟩ hs => ?_
    · simp only [↓wp_forS, ↓wp_rangeM, ↓wp_argsC, ↓wp_cst, ↓wp_args0, ↓OptP_range1]
      refine ⟨small62_of (by omega) (by omega), ?_⟩
      refine wp_count (fun i : Nat => .int (0 + (i : Nat))) 5 (fun t : Sl × Sl × Sl × Sl × List D => [.im sc, s1, .mu t.2.2.2.2, .im (ruleD r), .im (ruleD q), .im (ruleD p), t.1, t.2.1, t.2.2.1, t.2.2.2.1, a10, a11, a12, a13, a14]) (fun _ t => SrcOk t.2.2.2.2) ?_ ?_ (a6, a7, a8, a9, es) hs
      · intro t h
        exact nxq t rfl h
      intro i ⟨s6, s7, s8, s9, es⟩ _ hs
      dsimp only at hs ⊢
      simp only [↓wp_gN, ↓SetP_6]
      obtain ⟨t6, ht6⟩ : ∃ t6 : Sl, Sl.im (.int (0 + (i : Int))) = t6 := ⟨_, rfl⟩
      rw [ht6]
      refine wp_cut (fun t : Nat × List D => [.im sc, s1, .mu t.2, .im (ruleD r), .im (ruleD q), .im (ruleD p), t6, .im (.int (t.1 : Nat)), s8, s9, a10, a11, a12, a13, a14]) (fun t => (1 ≤ t.1 ∧ t.1 ≤ 500000000000001) ∧ SrcOk t.2) ?_ fun ⟨y, es⟩ ⟨⟨y1, y2⟩, hs⟩ => ?_
      · simp
        refine lift_ex (law_year_i hs) fun z ⟨y, e1, y1, y2, e4⟩ => ?_
        obtain ⟨z1, z2⟩ := z
        dsimp only at e1 e4 ⊢
        subst e1
        obtain ⟨y, rfl⟩ := Int.eq_ofNat_of_zero_le (show 0 ≤ y by omega)
        simp [pdiv_pos (show (0 : Int) < 2 by omega)]
        refine ⟨FdOk_of (by omega) (by omega), nxq (1 + y / 2, z2) (by simp) ⟨⟨by dsimp only; omega, by dsimp only; omega⟩, e4⟩⟩
      dsimp only at y1 y2 hs ⊢
      have f12 := apart_i hr hq y1 (show y ≤ 1000000000000000 by omega)
      have f23 := apart_i hq hp y1 (show y ≤ 1000000000000000 by omega)
      have f13 := apart_i hr hp y1 (show y ≤ 1000000000000000 by omega)
      have f21 := apart_i hq hr y1 (show y ≤ 1000000000000000 by omega)
      have f12' := apart_i hr hq (y := y + 1) (by omega) (show y + 1 ≤ 1000000000000000 by omega)
      have g1 := leaps_to_i hr y1 (show y ≤ 1000000000000000 by omega)
      have g2 := leaps_to_i hq y1 (show y ≤ 1000000000000000 by omega)
      rw [apN_add r q p] at f13
      rw [apN_neg r q] at f21
      rw [Nat.add_sub_cancel, Int.natCast_add] at f12'
      have f12'' : F_apart [ruleD r, ruleD q, .int ((y : Int) + 1)] = .ok (.int (apN r q y)) := f12'
      have hap : apN r q y = (countL' r y : Nat) - (countL' q y : Nat) := rfl
      generalize apN r q (y - 1) = u at *
      generalize apN q p (y - 1) = w at *
      refine wp_then (ρ' := [.im sc, s1, .mu es, .im (ruleD r), .im (ruleD q), .im (ruleD p), t6, .im (.int (y : Nat)), .im (.int u), .im (.int w), a10, a11, a12, a13, a14]) (by simp [↓lift_of f12, ↓lift_of f23]) ?_
      refine wp_check (by simp [↓lift_of f13, ↓lift_of f21]) ?_
      refine wp_pass (by simp [↓lift_of f12'', ↓lift_of g1, ↓lift_of g2, hap]) ?_
      exact nxq (_, _, _, _, es) rfl hs
    dsimp only at hs ⊢
    have f1 : F_apart [ruleD r, ruleD q, .int 1] = .ok (.int 0) := apart_i hr hq (y := 1) (by omega) (by omega)
    have f0 : F_first_apart [ruleD r, ruleD r, .int 0] = .ok .none := by
      obtain ⟨o, e, ho⟩ := first_apart_i hr hr (by omega) (d := 0) (by omega) (by omega)
      have : o = none := by
        cases o with
        | none => rfl
        | some y =>
          have hb := ho.2.1
          unfold beyB at hb
          dsimp only at hb
          rw [apN_self] at hb
          exact absurd (of_decide_eq_true hb) (by omega)
      subst this
      exact e
    refine wp_check (by simp [↓lift_of f1, ↓lift_of f0, isNone]) ?_
    have g12 : F_farthest_apart [ruleD r, ruleD q] = .ok (FA r q) := farthest_apart_i hr hq (by omega)
    have g23 : F_farthest_apart [ruleD q, ruleD p] = .ok (FA q p) := farthest_apart_i hq hp (by omega)
    have g13 : F_farthest_apart [ruleD r, ruleD p] = .ok (FA r p) := farthest_apart_i hr hp (by omega)
    have g21 : F_farthest_apart [ruleD q, ruleD r] = .ok (FA q r) := farthest_apart_i hq hr (by omega)
    refine wp_then (ρ' := [.im sc, s1, .mu es, .im (ruleD r), .im (ruleD q), .im (ruleD p), s6, s7, s8, s9, .im (.list [FA r q, FA q p, FA r p]), a11, a12, a13, a14]) (by simp [↓lift_of g12, ↓lift_of g23, ↓lift_of g13, LineP, sizeLine]) ?_
    have x0 : ixD (.list [FA r q, FA q p, FA r p]) (.int 0) = some (FA r q) := rfl
    have x1 : ixD (.list [FA r q, FA q p, FA r p]) (.int 1) = some (FA q p) := rfl
    have x2 : ixD (.list [FA r q, FA q p, FA r p]) (.int 2) = some (FA r p) := rfl
    have FA0 : ∀ {a b : List Step}, apN a b (comN a b) = 0 → FA a b = apfD (apRow a b) := fun h => if_pos h
    have FAn : ∀ {a b : List Step}, apN a b (comN a b) ≠ 0 → FA a b = .none := fun h => if_neg h
    have nA : ∀ xs, isNone (apfD xs) = false := fun xs => rfl
    have i0 : ∀ xs, ixD (apfD xs) (.int 0) = some (.tuple [.int (maxI xs), .int ((firstIx (maxI xs) xs : Nat) + 1)]) := fun xs => rfl
    have i1 : ∀ xs, ixD (apfD xs) (.int 1) = some (.tuple [.int (minI xs), .int ((firstIx (minI xs) xs : Nat) + 1)]) := fun xs => rfl
    have j0 : ∀ (u : Int) (w : D), ixD (.tuple [.int u, w]) (.int 0) = some (.int u) := fun u w => rfl
    obtain ⟨far, hfar⟩ : ∃ far, PyData.list [FA r q, FA q p, FA r p] = far := ⟨_, rfl⟩
    rw [hfar] at x0 x1 x2 ⊢
    refine wp_cut (fun _ : Unit => [.im sc, s1, .mu es, .im (ruleD r), .im (ruleD q), .im (ruleD p), s6, s7, s8, s9, .im far, a11, a12, a13, a14]) (fun _ => True) ?_ fun _ _ => ?_
    · by_cases d1 : apN r q (comN r q) = 0
      · rw [FA0 d1] at x0
        by_cases d2 : apN q p (comN q p) = 0
        · rw [FA0 d2] at x1
          rw [FA0 (ap_third hr hq hp d1 d2)] at x2
          have hmx := max_third hr hq hp d1 d2
          generalize apRow r q = A at *
          generalize apRow q p = B at *
          generalize apRow r p = C at *
          have hd : decide (maxI A + maxI B < maxI C) = false := decide_eq_false (by omega)
          simp [↓opt_of x0, ↓opt_of x1, ↓opt_of x2, nA, ↓opt_of (i0 _), ↓opt_of (j0 _ _), hd]
          exact nxq () rfl trivial
        · rw [FAn d2] at x1
          simp [↓opt_of x0, ↓opt_of x1, nA, isNone]
          exact nxq () rfl trivial
      · rw [FAn d1] at x0
        simp [↓opt_of x0, isNone]
        exact nxq () rfl trivial
    refine wp_cut (fun t : Sl × Sl => [.im sc, s1, .mu es, .im (ruleD r), .im (ruleD q), .im (ruleD p), s6, s7, s8, s9, .im far, t.1, t.2, a13, a14]) (fun _ => True) ?_ fun ⟨s11, s12⟩ _ => ?_
    · by_cases d1 : apN r q (comN r q) = 0
      · rw [FA0 d1] at x0
        have d2 : apN q r (comN q r) = 0 := by rw [← com_comm, apN_neg, d1]; rfl
        rw [FA0 d2] at g21
        obtain ⟨mb1, mb2⟩ := max_back hr hq d1
        obtain ⟨tb1, tb2⟩ := top_bound hr hq (by omega) d1
        obtain ⟨o1, e1, ho1⟩ := first_apart_i hr hq (by omega) tb1 tb2
        have ho1 := first_top hr hq d1 ho1
        subst ho1
        have hless : 0 < max (maxI (apRow r q)) (-minI (apRow r q)) → ∃ o, F_first_apart [ruleD r, ruleD q, .int (max (maxI (apRow r q)) (-minI (apRow r q)) - 1)] = .ok (optY o) ∧ o ≠ none := fun ht => by
          obtain ⟨o, e, ho⟩ := first_apart_i hr hq (by omega) (d := max (maxI (apRow r q)) (-minI (apRow r q)) - 1) (by omega) (by omega)
          exact ⟨o, e, first_less hr hq ho ht⟩
        generalize apRow r q = A at *
        generalize apRow q r = B at *
        simp only [↓wp_iteM, ↓wp_cmp, ↓wp_op2, ↓wp_var10, ↓wp_cst, ↓opt_of x0, ↓OptP_isnN, nA, Bool.not_false, ↓BoolP_true]
        refine wp_then (ρ' := [.im sc, s1, .mu es, .im (ruleD r), .im (ruleD q), .im (ruleD p), s6, s7, s8, s9, .im far, .im (apfD B), a12, a13, a14]) (by simp [↓lift_of g21]) ?_
        have hlay : lay 60 (.tuple [.int (maxI B), .int (minI B)]) = true := by simp [lay, layAll]
        refine wp_check ?_ ?_
        · simp [↓opt_of x0, ↓opt_of (i0 _), ↓opt_of (i1 _), ↓opt_of (j0 _ _), ← mb1, ← mb2, LineP, sizeLine, ↓OptP_ne_self hlay]
        refine wp_then (ρ' := [.im sc, s1, .mu es, .im (ruleD r), .im (ruleD q), .im (ruleD p), s6, s7, s8, s9, .im far, .im (apfD B), .im (.int (max (maxI A) (-minI A))), a13, a14]) (by simp [↓opt_of x0, ↓opt_of (i0 _), ↓opt_of (i1 _), ↓opt_of (j0 _ _)]) ?_
        generalize max (maxI A) (-minI A) = T at *
        refine wp_pass ?_ ?_
        · by_cases ht : 0 < T
          · obtain ⟨o, e, ho⟩ := hless ht
            cases o with
            | none => exact absurd rfl ho
            | some y => simp [↓lift_of e1, optY, isNone, ht, ↓lift_of e]
          · simp [↓lift_of e1, optY, isNone, ht]
        · simp only [↓NxP_nx]
          exact nxq (_, _) rfl trivial
      · rw [FAn d1] at x0
        simp [↓opt_of x0, isNone]
        exact nxq (a11, a12) rfl trivial
    dsimp only
    refine wp_cut (fun t : Nat × List D => [.im sc, s1, .mu t.2, .im (ruleD r), .im (ruleD q), .im (ruleD p), s6, .im (.int (t.1 : Nat)), s8, s9, .im far, s11, s12, a13, a14]) (fun t => (1 ≤ t.1 ∧ t.1 ≤ 5000) ∧ SrcOk t.2) ?_ fun ⟨y, es⟩ ⟨⟨y1, y2⟩, hs⟩ => ?_
    · simp
      refine lift_ex (law_pick_i hs (m := 5000) (by omega) (by omega)) fun z ⟨d, e1, e2, e3, e4⟩ => ?_
      obtain ⟨z1, z2⟩ := z
      dsimp only at e1 e4 ⊢
      subst e1
      obtain ⟨d, rfl⟩ := Int.eq_ofNat_of_zero_le e2
      simp
      exact nxq (1 + d, z2) (by simp) ⟨⟨by dsimp only; omega, by dsimp only; omega⟩, e4⟩
    dsimp only at y1 y2 hs ⊢
    obtain ⟨o, e1, ho, hb⟩ := next_together_i hr hq (by omega) y1 (show y ≤ 1000000000000000 by omega)
    refine wp_then (ρ' := [.im sc, s1, .mu es, .im (ruleD r), .im (ruleD q), .im (ruleD p), s6, .im (.int (y : Nat)), s8, s9, .im far, s11, s12, .im (optY o), a14]) (by simp [↓lift_of e1]) ?_
    refine wp_cut (fun t : Sl => [.im sc, s1, .mu es, .im (ruleD r), .im (ruleD q), .im (ruleD p), s6, .im (.int (y : Nat)), s8, s9, .im far, s11, s12, .im (optY o), t]) (fun _ => True) ?_ fun s14 _ => ?_
    · cases o with
      | none =>
        simp [optY, isNone]
        exact nxq a14 rfl trivial
      | some f =>
        have hfb := hb f rfl
        have hf1 : y ≤ f := ho.1
        have hap := apart_i hr hq (y := f) (by omega) (by omega)
        have hz0 : apN r q (f - 1) = 0 := of_decide_eq_true ho.2.1
        rw [hz0] at hap
        have hcf := count_together_i hr hq (by omega) (y0 := f) (by omega) (by omega)
        rw [cnt_next y1 ho] at hcf
        simp only [↓wp_iteM, ↓wp_cmp, ↓wp_var13, ↓wp_cst, ↓OptP_isnN, optY, isNone, Bool.not_false, ↓BoolP_true]
        refine wp_then (ρ' := [.im sc, s1, .mu es, .im (ruleD r), .im (ruleD q), .im (ruleD p), s6, .im (.int (y : Nat)), s8, s9, .im far, s11, s12, .im (.int (f : Nat)), .im (.int (cnt (fun i => zerB r q (i + 1)) (y - 1) : Nat))]) ?_ ?_
        · by_cases c : 1 < y
          · have hcy := count_together_i hr hq (by omega) (y0 := y - 1) (by omega) (by omega)
            rw [show ((y - 1 : Nat) : Int) = (y : Int) - 1 by omega] at hcy
            have hd : decide ((1 : Int) < (y : Int)) = true := decide_eq_true (by omega)
            simp [hd, ↓lift_of hcy]
          · have : y - 1 = 0 := by omega
            rw [this]
            have hd : decide ((1 : Int) < (y : Int)) = false := decide_eq_false (by omega)
            simp [hd, cnt_zero]
        refine wp_pass (by simp [↓lift_of hap, ↓lift_of hcf]) ?_
        simp only [↓NxP_nx]
        exact nxq _ rfl trivial
    have hcs := count_together_i hr hr (by omega) (y0 := y) y1 (by omega)
    rw [cnt_all y fun i _ => by unfold zerB; rw [apN_self]; rfl] at hcs
    refine wp_pass (by simp [↓lift_of hcs]) ?_
    exact nxq _ rfl ⟨rfl, rfl, rfl⟩
  · intro ρ ⟨hlen, h0, hm⟩
    simp
theorem law_fin (ns : List Int) (_ : ns.length ≤ 63) (_ : ∀ z ∈ ns, Builtin.Int.intBits z ≤ 1048576) : F_law [.list (ns.map .int)] = .ok (.bool true) := law_ok ns

end LK
set_option Elab.async false
set_option linter.all false
set_option maxRecDepth 100000
set_option maxHeartbeats 0
namespace LK
open PySem PySem.Spec PyProof.Rows L2 QL
abbrev R : PySem.W.OpenRow := PySem.W.OpenLaw.row PySem.Challenge.rw_leapchains_k23_whole_three_calendars
abbrev hk : PySem.W.Hook := He.hookD 4 fa fn
def ob (s : PySem.W.SharedT) : He.AlD := He.obsDG 4 fa fn (HandSHeadRun.getT s)
theorem ob_eq (s : PySem.W.SharedT) : ob s = hk.obs s.abs := He.obsDG_eq (HandSHeadRun.getT_eq s)
def loose : List Str := (["LeapError", "InvalidRule", "InvalidYear", "InvalidDays", "TooMany", "WIDEST", "MOST", "LATEST", "is_integer", "is_between", "divisor_of", "multiple_of", "is_step", "a_rule", "need_rule", "need_year", "need_days", "leap_in", "whole_round", "leaps_of", "sums_of", "count_to", "round_sums", "leaps_to", "bounds_of", "first_round", "next_beyond", "apart_row", "apart", "first_apart"] : List Str) ++ (["farthest_apart", "meeting_round", "next_together", "count_together", "_law_source", "_law_pick", "_law_chosen", "_law_common", "_law_multiple", "_law_known", "_law_rule", "_law_near", "_law_year", "_law_pair"] : List Str)
theorem run (w : World) : HandSHeadRun.RunEq R (PySem.W.view R.prog [51]) hk ob 8000 loose w := by
  intro os
  kernel_rfl
end LK
open PySem PySem.W PySem.Calls PyProof.Rows
theorem LK.law_holds (hF : ∀ ns : List Int, ns.length ≤ 63 → (∀ z ∈ ns, Builtin.Int.intBits z ≤ 1048576) → LK.F_law [.list (ns.map .int)] = .ok (.bool true)) : PySem.Challenge.rw_leapchains_k23_whole_three_calendars.Holds := by
  w_on; o_law
  refine HandSHeadRun.head_any (r := OpenLaw.row PySem.Challenge.rw_leapchains_k23_whole_three_calendars) (q := view (OpenLaw.row PySem.Challenge.rw_leapchains_k23_whole_three_calendars).prog [51]) (H := LK.hk) (ob := LK.ob) (M := 8000) (loose := LK.loose) (d := HandSHeadRun.topDef (OpenLaw.row PySem.Challenge.rw_leapchains_k23_whole_three_calendars).prog 51) (kwd := []) LK.ob_eq
    (by kernel_rfl) (fun s => by kernel_rfl) LK.run (by kernel_rfl) (by kernel_rfl) (by kernel_rfl) (by rfl) (by first | assumption | decide +kernel) (by decide +kernel) ⟨rfl, rfl, rfl, rfl, rfl, by decide +kernel⟩ ?hw ?hc
  case hw => w_witness2
  case hc =>
    have e : (HandSHeadRun.topDef (OpenLaw.row PySem.Challenge.rw_leapchains_k23_whole_three_calendars).prog 51).name = ("law" : PySem.Str) := by kernel_rfl
    letI : QL.LawTabs := ⟨[]⟩
    refine QL.walk_QL rfl (l := PySem.Challenge.rw_leapchains_k23_whole_three_calendars) (n := 63) (k := 7) (x := "script") (fa := LK.fa) (fn := LK.fn) (F := LK.F_law) rfl (by decide) (by kernel_rfl) ⟨rfl, by decide, by decide⟩ (fun w K mg h X0 G0 c => ?_) hF
    rw [e]
    exact LK.ok_law X0 G0 c
theorem PySem.Challenge.cw_leapchains_k23_whole_three_calendars_holds : PySem.Challenge.rw_leapchains_k23_whole_three_calendars.Holds := by
  exact LK.law_holds LK.law_fin
