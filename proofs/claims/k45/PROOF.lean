import PyProof.Rows.All
import Wide.All
import OpenK.AllK
import Wide.FinOn
import KE.Datum
import HandS.ForMost
import HandS.ForExc
import HandS.Wide
import HandS.CallSlots
import HandS.ExcInit
import HandS.TryMany
import HandS.Style
import HandS.Deep
import HandS.SortInts
import HandS.TupAny
import KE.KSortedM
import KE.KExcSuper
import HandS.ExcField
import KE.KRevSl
import KE.RegKSuper
import HandS.IsInst
import PySem.Challenge.RW_formsoftwo_k45_whole_chains_of_wholes
set_option Elab.async false
set_option linter.all false
set_option maxRecDepth 100000
set_option maxHeartbeats 9000000
namespace DL
open PySem
open PySem.Spec
open PyProof.Rows
open L2
abbrev D := PyData
abbrev tokD : D := .dict [(.none, .none)]
abbrev G := Int × List Int
inductive SV where
  | un
  | d (x : D)
  | own (xs : List D)
  | ex (fs : List (Str × D))
abbrev RS := List SV
structure Ctx where
  K : PySem.W.Frag
  cl : Str → Option Addr
  sa : Addr
  sb : Addr
  F0 : Hp
  H0 : Hp
  ea : Addr
  ed : Addr
abbrev mkC (K : PySem.W.Frag) (cl : Str → Option Addr) (sa sb : Addr) (F0 H0 : Hp) : Ctx := { K := K, cl := cl, sa := sa, sb := sb, F0 := F0, H0 := H0, ea := 0, ed := 0 }
abbrev Ctx.at (c : Ctx) (a d : Addr) : Ctx := { c with ea := a, ed := d }
inductive Out (α : Type) where
  | ok (a : α) (g : G)
  | exc (n : Str) (fs : List (Str × D)) (g : G)
  | bad
inductive SO where
  | nx (ρ : RS) (g : G)
  | rt (d : D) (g : G)
  | bk (ρ : RS) (g : G)
  | ct (ρ : RS) (g : G)
  | exc (n : Str) (fs : List (Str × D)) (ρ : RS) (g : G)
  | bad
def Out.bind {α β : Type} : Out α → (α → G → Out β) → Out β
  | .ok a g, k => k a g
  | .exc n fs g, _ => .exc n fs g
  | .bad, _ => .bad
def Out.go {α : Type} : Out α → RS → (α → G → SO) → SO
  | .ok a g, _, k => k a g
  | .exc n fs g, ρ, _ => .exc n fs ρ g
  | .bad, _, _ => .bad
abbrev EF := RS → G → Out D
abbrev TF := RS → G → Out Bool
abbrev AF := RS → G → Out (List D)
abbrev SF := RS → G → SO
theorem seqT_mono {K : PySem.W.Frag} {F F' : Hp} {a : Addr} {xs : List V} (e : Same F F') (h : SqT K F a xs) : SqT K F' a xs := by
  rcases h with (h | ⟨o, h⟩) | h
  · exact .inl (.inl (e _ _ h))
  · exact .inl (.inr ⟨o, e _ _ h⟩)
  · exact .inr h
mutual
inductive Rq (K : PySem.W.Frag) (F : Hp) : V → D → Prop
  | non : Rq K F .non .none
  | bl (b : Bool) : Rq K F (.bl b) (.bool b)
  | int (i : Int) : Rq K F (.int i) (.int i)
  | str (x : Str) : Rq K F (.str x) (.str x)
  | lst {a : Addr} {xs : List V} {ds : List D} : F a = some (.lst xs) → RqAll K F xs ds → Rq K F (.ref a) (.list ds)
  | tup {a : Addr} {xs : List V} {ds : List D} : SqT K F a xs → RqAll K F xs ds → Rq K F (.ref a) (.tuple ds)
inductive RqAll (K : PySem.W.Frag) (F : Hp) : List V → List D → Prop
  | nil : RqAll K F [] []
  | cons {v : V} {vs : List V} {d : D} {ds : List D} : Rq K F v d → RqAll K F vs ds → RqAll K F (v :: vs) (d :: ds)
end
mutual
theorem Rq_mono {K : PySem.W.Frag} {F F' : Hp} (e : Same F F') : ∀ (d : D) (v : V), Rq K F v d → Rq K F' v d
  | .none, _, h => by cases h; exact .non
  | .bool _, _, h => by cases h; exact .bl _
  | .int _, _, h => by cases h; exact .int _
  | .str _, _, h => by cases h; exact .str _
  | .list ds, _, h => by
    cases h with
    | lst h1 h2 => exact .lst (e _ _ h1) (RqAll_mono e ds _ h2)
  | .tuple ds, _, h => by
    cases h with
    | tup h1 h2 => exact .tup (seqT_mono e h1) (RqAll_mono e ds _ h2)
  | .dict _, _, h => by cases h
theorem RqAll_mono {K : PySem.W.Frag} {F F' : Hp} (e : Same F F') : ∀ (ds : List D) (vs : List V), RqAll K F vs ds → RqAll K F' vs ds
  | [], _, h => by cases h; exact .nil
  | d :: ds, _, h => by
    cases h with
    | cons h1 h2 => exact .cons (Rq_mono e d _ h1) (RqAll_mono e ds _ h2)
end
mutual
theorem Rq_dp {K : PySem.W.Frag} {F : Hp} : ∀ (d : D) (v : V), Rq K F v d → Dp K F v d
  | .none, _, h => by cases h; exact .non
  | .bool _, _, h => by cases h; exact .bl _
  | .int _, _, h => by cases h; exact .int _
  | .str _, _, h => by cases h; exact .str _
  | .list ds, _, h => by
    cases h with
    | lst h1 h2 => exact .lst (SqL.of h1) (RqAll_dp ds _ h2)
  | .tuple ds, _, h => by
    cases h with
    | tup h1 h2 => exact .tup h1 (RqAll_dp ds _ h2)
  | .dict _, _, h => by cases h
theorem RqAll_dp {K : PySem.W.Frag} {F : Hp} : ∀ (ds : List D) (vs : List V), RqAll K F vs ds → DpAll K F vs ds
  | [], _, h => by cases h; exact .nil
  | d :: ds, _, h => by
    cases h with
    | cons h1 h2 => exact .cons (Rq_dp d _ h1) (RqAll_dp ds _ h2)
end
def Rep (c : Ctx) (F : Hp) (v : V) (d : D) : Prop := Rq c.K F v d ∨ (v = .ref c.sa ∧ d = tokD)
theorem Rep.mono {c : Ctx} {F F' : Hp} {v : V} {d : D} (e : Same F F') (h : Rep c F v d) : Rep c F' v d := h.imp (Rq_mono e d v) id
theorem Rep.rq {c : Ctx} {F : Hp} {v : V} {d : D} (h : Rep c F v d) (n : d ≠ tokD) : Rq c.K F v d := h.elim id fun x => absurd x.2 n
theorem Rep.int {c : Ctx} {F : Hp} {v : V} {i : Int} (h : Rep c F v (.int i)) : v = .int i := by
  rcases h with h | ⟨_, h⟩
  · cases h; rfl
  · cases h
theorem Rep.bl {c : Ctx} {F : Hp} {v : V} {b : Bool} (h : Rep c F v (.bool b)) : v = .bl b := by
  rcases h with h | ⟨_, h⟩
  · cases h; rfl
  · cases h
theorem Rep.non {c : Ctx} {F : Hp} {v : V} (h : Rep c F v .none) : v = .non := by
  rcases h with h | ⟨_, h⟩
  · cases h; rfl
  · cases h
theorem Rep.str {c : Ctx} {F : Hp} {v : V} {x : Str} (h : Rep c F v (.str x)) : v = .str x := by
  rcases h with h | ⟨_, h⟩
  · cases h; rfl
  · cases h
theorem Rep.list {c : Ctx} {F : Hp} {v : V} {ds : List D} (h : Rep c F v (.list ds)) : ∃ a vs, v = .ref a ∧ F a = some (.lst vs) ∧ RqAll c.K F vs ds := by
  rcases h with h | ⟨_, h⟩
  · cases h with
    | lst h1 h2 => exact ⟨_, _, rfl, h1, h2⟩
  · cases h
theorem Rep.tuple {c : Ctx} {F : Hp} {v : V} {ds : List D} (h : Rep c F v (.tuple ds)) : ∃ a vs, v = .ref a ∧ SqT c.K F a vs ∧ RqAll c.K F vs ds := by
  rcases h with h | ⟨_, h⟩
  · cases h with
    | tup h1 h2 => exact ⟨_, _, rfl, h1, h2⟩
  · cases h
theorem rInt {c : Ctx} {F : Hp} {i : Int} : Rep c F (.int i) (.int i) := .inl (.int i)
theorem rBl {c : Ctx} {F : Hp} {b : Bool} : Rep c F (.bl b) (.bool b) := .inl (.bl b)
theorem rNon {c : Ctx} {F : Hp} : Rep c F .non .none := .inl .non
theorem rStr {c : Ctx} {F : Hp} {x : Str} : Rep c F (.str x) (.str x) := .inl (.str x)
inductive RepAll (c : Ctx) (F : Hp) : List V → List D → Prop
  | nil : RepAll c F [] []
  | cons {v : V} {vs : List V} {d : D} {ds : List D} : Rep c F v d → RepAll c F vs ds → RepAll c F (v :: vs) (d :: ds)
theorem RepAll.mono {c : Ctx} {F F' : Hp} (e : Same F F') : ∀ {vs : List V} {ds : List D}, RepAll c F vs ds → RepAll c F' vs ds
  | _, _, .nil => .nil
  | _, _, .cons h t => .cons (h.mono e) (RepAll.mono e t)
theorem RepAll.length {c : Ctx} {F : Hp} : ∀ {vs : List V} {ds : List D}, RepAll c F vs ds → vs.length = ds.length
  | _, _, .nil => rfl
  | _, _, .cons _ t => by rw [List.length_cons, List.length_cons, RepAll.length t]
theorem RqAll.len {K : PySem.W.Frag} {F : Hp} : ∀ {vs : List V} {ds : List D}, RqAll K F vs ds → vs.length = ds.length
  | _, _, .nil => rfl
  | _, _, .cons _ t => by rw [List.length_cons, List.length_cons, RqAll.len t]
theorem RqAll.get {K : PySem.W.Frag} {F : Hp} : ∀ {vs : List V} {ds : List D} {i : Nat} {d : D}, RqAll K F vs ds → ds[i]? = some d → ∃ v, vs[i]? = some v ∧ Rq K F v d
  | _, _, _, _, .nil, h => by simp at h
  | _, _, 0, _, .cons h _, e => by
    simp at e
    exact ⟨_, rfl, by rw [← e]; exact h⟩
  | _, _, i + 1, d, .cons _ t, e => by
    obtain ⟨v, h1, h2⟩ := RqAll.get (i := i) (d := d) t (by simpa using e)
    exact ⟨v, by simpa using h1, h2⟩
theorem RqAll.append {K : PySem.W.Frag} {F : Hp} : ∀ {vs ws : List V} {ds es : List D}, RqAll K F vs ds → RqAll K F ws es → RqAll K F (vs ++ ws) (ds ++ es)
  | _, _, _, _, .nil, h => h
  | _, _, _, _, .cons h t, k => .cons h (RqAll.append t k)
theorem RqAll.drop {K : PySem.W.Frag} {F : Hp} : ∀ {vs : List V} {ds : List D} (n : Nat), RqAll K F vs ds → RqAll K F (vs.drop n) (ds.drop n)
  | _, _, 0, h => h
  | _, _, _ + 1, .nil => .nil
  | _, _, n + 1, .cons _ t => RqAll.drop n t
theorem RqAll.take {K : PySem.W.Frag} {F : Hp} : ∀ {vs : List V} {ds : List D} (n : Nat), RqAll K F vs ds → RqAll K F (vs.take n) (ds.take n)
  | _, _, 0, _ => .nil
  | _, _, _ + 1, .nil => .nil
  | _, _, n + 1, .cons h t => .cons h (RqAll.take n t)
theorem RqAll.ints {K : PySem.W.Frag} {F : Hp} : ∀ {vs : List V} {ns : List Int}, RqAll K F vs (ns.map PyData.int) → vs = ns.map V.int
  | _, [], h => by cases h; rfl
  | _, n :: ns, h => by
    cases h with
    | cons h t =>
      cases h
      rw [RqAll.ints t]
      rfl
theorem RqAll.bls {K : PySem.W.Frag} {F : Hp} : ∀ {vs : List V} {ns : List Bool}, RqAll K F vs (ns.map PyData.bool) → vs = ns.map V.bl
  | _, [], h => by cases h; rfl
  | _, n :: ns, h => by
    cases h with
    | cons h t =>
      cases h
      rw [RqAll.bls t]
      rfl
theorem dpInts {K : PySem.W.Frag} {F : Hp} : ∀ (ns : List Int), RqAll K F (ns.map V.int) (ns.map PyData.int)
  | [] => .nil
  | n :: ns => .cons (.int n) (dpInts ns)
theorem RqAll.set {K : PySem.W.Frag} {F : Hp} {v : V} {d : D} (h : Rq K F v d) : ∀ {vs : List V} {ds : List D} (i : Nat), RqAll K F vs ds → RqAll K F (vs.set i v) (ds.set i d)
  | _, _, _, .nil => .nil
  | _, _, 0, .cons _ t => .cons h t
  | _, _, i + 1, .cons q t => .cons q (RqAll.set h i t)
structure GOk (c : Ctx) (F H : Hp) (g : G) : Prop where
  ne : c.sa ≠ c.sb
  ha : H c.sa = some (.lst [.int g.1, .ref c.sb])
  hb : H c.sb = some (.lst (g.2.map V.int))
  fa : F c.sa = none
  fb : F c.sb = none
  wf : g.2 ≠ []
structure Ext (sa sb : Addr) (F H F' H' : Hp) : Prop where
  f : Same F F'
  fh : Same F' H'
  keep : ∀ p o, H p = some o → p ≠ sa → p ≠ sb → H' p = some o
  dom : ∀ p o, H p = some o → ∃ o', H' p = some o'
  ff : ∀ p o, H p = some o → F' p = F p
theorem Ext.refl {sa sb : Addr} {F H : Hp} (h : Same F H) : Ext sa sb F H F H := ⟨Same.refl F, h, fun _ _ h _ _ => h, fun _ o h => ⟨o, h⟩, fun _ _ _ => rfl⟩
theorem Ext.trans {sa sb : Addr} {F H F1 H1 F2 H2 : Hp} (a : Ext sa sb F H F1 H1) (b : Ext sa sb F1 H1 F2 H2) : Ext sa sb F H F2 H2 where
  f := a.f.trans b.f
  fh := b.fh
  keep := fun p o h n m => b.keep p o (a.keep p o h n m) n m
  dom := fun p o h => by
    obtain ⟨o', h'⟩ := a.dom p o h
    exact b.dom p o' h'
  ff := fun p o h => by
    obtain ⟨o', h'⟩ := a.dom p o h
    rw [b.ff p o' h', a.ff p o h]
def FldR (c : Ctx) (F : Hp) (vs : List (Str × V)) (fs : List (Str × D)) : Prop := Paired (fun (p : Str × V) (q : Str × D) => p.1 = q.1 ∧ Rq c.K F p.2 q.2) vs fs
theorem FldR.mono {c : Ctx} {F F' : Hp} (e : Same F F') : ∀ {vs : List (Str × V)} {fs : List (Str × D)}, FldR c F vs fs → FldR c F' vs fs
  | _, _, .nil => .nil
  | _, _, .cons h t => .cons ⟨h.1, Rq_mono e _ _ h.2⟩ (FldR.mono e t)
def SlotR (c : Ctx) (F H : Hp) (o : Option (Option V)) : SV → Prop
  | .un => True
  | .d x => ∃ v, o = some (some v) ∧ Rep c F v x
  | .own xs => ∃ a vs, o = some (some (.ref a)) ∧ H a = some (.lst vs) ∧ RqAll c.K F vs xs ∧ F a = none ∧ c.H0 a = none
  | .ex fs => ∃ vs, o = some (some (.ref c.ea)) ∧ H c.ed = some (.xd vs) ∧ FldR c F vs fs
structure SR (c : Ctx) (F H : Hp) (σ : L2.St) (ρ : RS) (g : G) : Prop where
  ext : Ext c.sa c.sb c.F0 c.H0 F H
  gok : GOk c F H g
  g0 : ∃ o o', c.H0 c.sa = some o ∧ c.H0 c.sb = some o'
  len : σ.length = ρ.length
  slots : ∀ (i : Nat) (x : SV), ρ[i]? = some x → SlotR c F H σ[i]? x
  sep : ∀ (i j : Nat) (xs ys : List D) (a : Addr), ρ[i]? = some (.own xs) → ρ[j]? = some (.own ys) → σ[i]? = some (some (.ref a)) → σ[j]? = some (some (.ref a)) → i = j
theorem SR.fh {c : Ctx} {F H : Hp} {σ : L2.St} {ρ : RS} {g : G} (s : SR c F H σ ρ g) : Same F H := s.ext.fh
theorem SR.ownNe {c : Ctx} {F H : Hp} {σ : L2.St} {ρ : RS} {g : G} (s : SR c F H σ ρ g) {a : Addr} (h : c.H0 a = none) : a ≠ c.sa ∧ a ≠ c.sb := by
  obtain ⟨o, o', h1, h2⟩ := s.g0
  exact ⟨fun e => (by rw [e, h1] at h; cases h), fun e => (by rw [e, h2] at h; cases h)⟩
theorem SR.ext' {c : Ctx} {F H F' H' : Hp} {σ : L2.St} {ρ : RS} {g g' : G} (s : SR c F H σ ρ g) (e : Ext c.sa c.sb F H F' H') (k : GOk c F' H' g') : SR c F' H' σ ρ g' where
  ext := s.ext.trans e
  gok := k
  g0 := s.g0
  len := s.len
  slots := fun i x h => by
    have q := s.slots i x h
    cases x with
    | un => trivial
    | d x =>
      obtain ⟨v, h1, h2⟩ := q
      exact ⟨v, h1, h2.mono e.f⟩
    | own xs =>
      obtain ⟨a, vs, h1, h2, h3, h4, h5⟩ := q
      obtain ⟨n1, n2⟩ := s.ownNe h5
      exact ⟨a, vs, h1, e.keep a _ h2 n1 n2, RqAll_mono e.f _ _ h3, by rw [e.ff a _ h2]; exact h4, h5⟩
    | ex fs =>
      obtain ⟨vs, h1, h2, h3⟩ := q
      refine ⟨vs, h1, e.keep _ _ h2 (fun z => ?_) (fun z => ?_), h3.mono e.f⟩
      · rw [z, s.gok.ha] at h2; cases h2
      · rw [z, s.gok.hb] at h2; cases h2
  sep := s.sep
theorem Ext.new {sa sb : Addr} {F H : Hp} (h : Same F H) {p : Addr} {o : HO} (n : H p = none) : Ext sa sb F H (upd F p o) (upd H p o) where
  f := fun b x e => by rw [upd_ne (ne_of_none e (by cases q : F p with | none => rfl | some y => rw [h _ _ q] at n; cases n))]; exact e
  fh := fun b x e => by
    by_cases hb : b = p
    · subst hb
      rw [upd_same] at e ⊢
      exact e
    · rw [upd_ne hb] at e ⊢
      exact h _ _ e
  keep := fun b x e _ _ => by rw [upd_ne (ne_of_none e n)]; exact e
  dom := fun b x e => ⟨x, by rw [upd_ne (ne_of_none e n)]; exact e⟩
  ff := fun b x e => by rw [upd_ne (ne_of_none e n)]
theorem Ext.newM {sa sb : Addr} {F H : Hp} (h : Same F H) {p : Addr} {o : HO} (n : H p = none) : Ext sa sb F H F (upd H p o) where
  f := Same.refl F
  fh := fun b x e => by
    have q := h _ _ e
    rw [upd_ne (ne_of_none q n)]
    exact q
  keep := fun b x e _ _ => by rw [upd_ne (ne_of_none e n)]; exact e
  dom := fun b x e => ⟨x, by rw [upd_ne (ne_of_none e n)]; exact e⟩
  ff := fun b x e => rfl
theorem GOk.ext {c : Ctx} {F H F' H' : Hp} {g : G} (k : GOk c F H g) (h1 : F' c.sa = F c.sa) (h2 : F' c.sb = F c.sb) (h3 : H' c.sa = H c.sa) (h4 : H' c.sb = H c.sb) : GOk c F' H' g :=
  ⟨k.ne, by rw [h3]; exact k.ha, by rw [h4]; exact k.hb, by rw [h1]; exact k.fa, by rw [h2]; exact k.fb, k.wf⟩
theorem GOk.new {c : Ctx} {F H : Hp} {g : G} (k : GOk c F H g) {p : Addr} {o : HO} (n : H p = none) : GOk c (upd F p o) (upd H p o) g := by
  have n1 : c.sa ≠ p := ne_of_none k.ha n
  have n2 : c.sb ≠ p := ne_of_none k.hb n
  exact k.ext (upd_ne n1) (upd_ne n2) (upd_ne n1) (upd_ne n2)
theorem GOk.newM {c : Ctx} {F H : Hp} {g : G} (k : GOk c F H g) {p : Addr} {o : HO} (n : H p = none) : GOk c F (upd H p o) g := by
  have n1 : c.sa ≠ p := ne_of_none k.ha n
  have n2 : c.sb ≠ p := ne_of_none k.hb n
  exact k.ext rfl rfl (upd_ne n1) (upd_ne n2)
theorem SR.new {c : Ctx} {F H : Hp} {σ : L2.St} {ρ : RS} {g : G} (s : SR c F H σ ρ g) {p : Addr} {o : HO} (n : H p = none) : SR c (upd F p o) (upd H p o) σ ρ g :=
  s.ext' (Ext.new s.fh n) (s.gok.new n)
theorem SR.newM {c : Ctx} {F H : Hp} {σ : L2.St} {ρ : RS} {g : G} (s : SR c F H σ ρ g) {p : Addr} {o : HO} (n : H p = none) : SR c F (upd H p o) σ ρ g :=
  s.ext' (Ext.newM s.fh n) (s.gok.newM n)
theorem SR.same {c : Ctx} {F H : Hp} {σ : L2.St} {ρ : RS} {g : G} (s : SR c F H σ ρ g) {p : Addr} {o : HO} (n : H p = none) : Same F (upd F p o) := (Ext.new (sa := c.sa) (sb := c.sb) s.fh n).f
theorem SR.fnone {c : Ctx} {F H : Hp} {σ : L2.St} {ρ : RS} {g : G} (s : SR c F H σ ρ g) {p : Addr} (n : H p = none) : F p = none := by
  cases q : F p with
  | none => rfl
  | some y => rw [s.fh _ _ q] at n; cases n
def PostG {α β : Type} (c : Ctx) (σ : L2.St) (R : Hp → β → α → Prop) (o : Out α) (F H : Hp) (W : WX) (Q : β → Hp → Prop) : Prop :=
  match o with
  | .ok a g => ∀ b F' H', Ext c.sa c.sb F H F' H' → GOk c F' H' g → R F' b a → Q b H'
  | .exc n fs g => ∀ C dx vs F' H', Ext c.sa c.sb F H F' H' → GOk c F' H' g → c.cl n = some C → H' dx = some (.xd vs) → FldR c F' vs fs → W (.ref C) (some dx) σ H'
  | .bad => False
theorem PostG.up {α β : Type} {c : Ctx} {σ : L2.St} {R : Hp → β → α → Prop} {o : Out α} {F H F' H' : Hp} {W : WX} {Q : β → Hp → Prop} (h : PostG c σ R o F H W Q) (e : Ext c.sa c.sb F H F' H') : PostG c σ R o F' H' W Q := by
  cases o with
  | ok a g => exact fun b F1 H1 s => h b F1 H1 (e.trans s)
  | exc n fs g => exact fun C dx vs F1 H1 s => h C dx vs F1 H1 (e.trans s)
  | bad => exact h
theorem PostG.bind {α β α' β' : Type} {c : Ctx} {σ : L2.St} {ρ : RS} {g0 : G} {R : Hp → β → α → Prop} {R' : Hp → β' → α' → Prop} {o : Out α} {k : α → G → Out α'} {F H : Hp} {W : WX} {Q : β → Hp → Prop} {Q' : β' → Hp → Prop}
    (s0 : SR c F H σ ρ g0) (h : PostG c σ R' (o.bind k) F H W Q') (q : ∀ a g b F1 H1, Ext c.sa c.sb F H F1 H1 → SR c F1 H1 σ ρ g → R F1 b a → PostG c σ R' (k a g) F1 H1 W Q' → Q b H1) : PostG c σ R o F H W Q := by
  cases o with
  | ok a g => exact fun b F1 H1 e gk r => q a g b F1 H1 e (s0.ext' e gk) r (PostG.up (show PostG c σ R' (k a g) F H W Q' from h) e)
  | exc n fs g => exact h
  | bad => exact h
def RB : Hp → Bool → Bool → Prop := fun _ a b => a = b
def tE (c : Ctx) (W : WX) (f : EF) : TE := fun σ H Q => ∃ F ρ g, SR c F H σ ρ g ∧ PostG c σ (Rep c) (f ρ g) F H W Q
def tT (c : Ctx) (W : WX) (f : TF) : TT := fun σ H Q => ∃ F ρ g, SR c F H σ ρ g ∧ PostG c σ RB (f ρ g) F H W Q
def tAr (c : Ctx) (W : WX) (f : AF) : TA := fun σ H Q => ∃ F ρ g, SR c F H σ ρ g ∧ PostG c σ (RepAll c) (f ρ g) F H W Q
abbrev DE (X : Cx) (c : Ctx) (W : WX) (e : Expr) (f : EF) : Prop := PE X e (tE c W f)
abbrev DT (X : Cx) (c : Ctx) (W : WX) (e : Expr) (f : TF) : Prop := PT X e (tT c W f)
abbrev DA (X : Cx) (c : Ctx) (W : WX) (es : List Expr) (f : AF) : Prop := PA X es (tAr c W f)
theorem PE.imp {X : Cx} {e : Expr} {t t' : TE} (h : PE X e t) (q : ∀ σ H Q, t' σ H Q → t σ H Q) : PE X e t' := ⟨fun pins s σ H Q I w => h.run pins s σ H Q I (q σ H Q w)⟩
theorem PT.imp {X : Cx} {e : Expr} {t t' : TT} (h : PT X e t) (q : ∀ σ H Q, t' σ H Q → t σ H Q) : PT X e t' := ⟨fun pins s σ H Q I w => h.run pins s σ H Q I (q σ H Q w)⟩
theorem PW.imp {X : Cx} {e : Expr} {t t' : TT} (h : PW X e t) (q : ∀ σ H Q, t' σ H Q → t σ H Q) : PW X e t' := ⟨fun wh pins s σ H Q I w => h.run wh pins s σ H Q I (q σ H Q w)⟩
theorem PA.imp {X : Cx} {e : List Expr} {t t' : TA} (h : PA X e t) (q : ∀ σ H Q, t' σ H Q → t σ H Q) : PA X e t' := ⟨fun pos pins s σ H Q I w => h.run pos pins s σ H Q I (q σ H Q w)⟩
theorem PS.imp {X : Cx} {e : Stmt} {t t' : TS} (h : PS X e t) (q : ∀ E σ H, t' E σ H → t E σ H) : PS X e t' := ⟨fun pins s σ H E I w => h.run pins s σ H E I (q E σ H w)⟩
theorem PSs.imp {X : Cx} {e : List Stmt} {t t' : TS} (h : PSs X e t) (q : ∀ E σ H, t' E σ H → t E σ H) : PSs X e t' := ⟨fun pins s σ H E I w => h.run pins s σ H E I (q E σ H w)⟩
theorem PostG.now {α β : Type} {c : Ctx} {σ : L2.St} {ρ : RS} {R : Hp → β → α → Prop} {a : α} {b : β} {g : G} {F H : Hp} {W : WX} {Q : β → Hp → Prop} (h : PostG c σ R (.ok a g) F H W Q) (s : SR c F H σ ρ g) (r : R F b a) : Q b H := h b F H (Ext.refl s.fh) s.gok r
theorem tE_ok {c : Ctx} {W : WX} {f : EF} {σ : L2.St} {H F : Hp} {ρ : RS} {g : G} {Q : VK} (s : SR c F H σ ρ g) (h : PostG c σ (Rep c) (f ρ g) F H W Q) : tE c W f σ H Q := ⟨F, ρ, g, s, h⟩
end DL
namespace DL
open PySem
open PySem.Spec
open PyProof.Rows
open L2
abbrev LIM : Nat := 1000000
theorem lim_ok {n : Nat} (h : n ≤ LIM) : n ≤ sizeLine := by rw [sizeLine_eq]; exact Nat.le_trans h (by decide)
theorem lim_lt {n : Nat} (h : n < LIM) : n < sizeLine := by rw [sizeLine_eq]; exact Nat.lt_trans h (by decide)
section
variable {X : Cx} {c : Ctx} {W : WX} {pos : Pos}
def eV (i : Nat) : EF := fun ρ g => match ρ[i]? with
  | some (.d x) => .ok x g
  | _ => .bad
def eC (d : D) : EF := fun _ g => .ok d g
theorem d_var {i : Nat} {x : Str} (h : PE X (.Name x pos) (tVar i)) : DE X c W (.Name x pos) (eV i) := PE.imp h fun σ H Q ⟨F, ρ, g, s, h⟩ => by
  unfold eV at h
  cases e : ρ[i]? with
  | none => rw [e] at h; exact h.elim
  | some y =>
    rw [e] at h
    cases y with
    | un => exact h.elim
    | own _ => exact h.elim
    | ex _ => exact h.elim
    | d y =>
      obtain ⟨v, h1, h2⟩ := s.slots i _ e
      exact ⟨v, h1, h.now s h2⟩
theorem d_const {e : Expr} {v : V} {d : D} (h : PE X e (tC v)) (r : ∀ F, Rq c.K F v d) : DE X c W e (eC d) := PE.imp h fun σ H Q ⟨F, ρ, g, s, h⟩ => h.now s (.inl (r F))
theorem d_int {i : Int} {j pos} : DE X c W (.Constant (.int i) j pos) (eC (.int i)) := d_const pe_int fun _ => .int i
theorem d_bl {b : Bool} {j pos} : DE X c W (.Constant (.bool b) j pos) (eC (.bool b)) := d_const pe_bl fun _ => .bl b
theorem d_non {j pos} : DE X c W (.Constant .none j pos) (eC .none) := d_const pe_non fun _ => .non
theorem d_str {x : Str} {j pos} : DE X c W (.Constant (.str x) j pos) (eC (.str x)) := d_const pe_str fun _ => .str x
variable {a b : Expr} {fa fb : EF} {op : Operator}
def eBin (φ : D → D → G → Out D) (fa fb : EF) : EF := fun ρ g => (fa ρ g).bind fun x g1 => (fb ρ g1).bind fun y g2 => φ x y g2
def Keeps2 (c : Ctx) (W : WX) (r : R2) (φ : D → D → G → Out D) : Prop := ∀ (σ : L2.St) (ρ : RS) (g : G) (F H : Hp) (x y : V) (dx dy : D) (Q : VK), SR c F H σ ρ g → Rep c F x dx → Rep c F y dy → PostG c σ (Rep c) (φ dx dy g) F H W Q → r x y H Q
theorem d_bin {r : R2} {φ : D → D → G → Out D} (ho : OpR X (binaryOp op) r) (hr : Keeps2 c W r φ) (ha : DE X c W a fa) (hb : DE X c W b fb) : DE X c W (.BinOp a op b pos) (eBin φ fa fb) :=
  PE.imp (pe_op ho ha hb) fun σ H Q ⟨F, ρ, g, s, h⟩ => ⟨F, ρ, g, s, PostG.bind s h fun x g1 v F1 H1 e1 s1 r1 h1 => ⟨F1, ρ, g1, s1, PostG.bind s1 (o := fb ρ g1) (k := fun y g2 => φ x y g2) h1 fun y g2 u F2 H2 e2 s2 r2 h2 => hr σ ρ g2 F2 H2 v u x y Q s2 (r1.mono e2.f) r2 h2⟩⟩
def opAdd (x y : D) (g : G) : Out D := match x, y with
  | .int i, .int j => .ok (.int (i + j)) g
  | .str i, .str j => if i.length + j.length ≤ LIM then .ok (.str (i ++ j)) g else .bad
  | .list i, .list j => if i.length + j.length ≤ LIM then .ok (.list (i ++ j)) g else .bad
  | .tuple i, .tuple j => if i.length + j.length ≤ LIM then .ok (.tuple (i ++ j)) g else .bad
  | _, _ => .bad
def opSub (x y : D) (g : G) : Out D := match x, y with
  | .int i, .int j => .ok (.int (i - j)) g
  | _, _ => .bad
def MulOk (i j : Int) : Prop := (-(2 ^ 64) < i ∧ i < 2 ^ 64) ∨ (-(2 ^ 64) < j ∧ j < 2 ^ 64) ∨ i.natAbs.log2 + j.natAbs.log2 < 1000000
instance {i j : Int} : Decidable (MulOk i j) := by unfold MulOk; infer_instance
def opMul (x y : D) (g : G) : Out D := match x, y with
  | .int i, .int j => if MulOk i j then .ok (.int (i * j)) g else .bad
  | .list xs, .int k => if k ≤ LIM ∧ -(2 ^ 62) ≤ k ∧ xs.length * k.toNat ≤ LIM then .ok (.list (List.replicate k.toNat xs).flatten) g else .bad
  | _, _ => .bad
def DivOk (j : Int) : Prop := (j ≠ 0 ∧ j.natAbs < 1073741824) ∨ (0 < j ∧ j.natAbs.log2 < 9000)
instance {j : Int} : Decidable (DivOk j) := by unfold DivOk; infer_instance
def opDiv (x y : D) (g : G) : Out D := match x, y with
  | .int i, .int j => if DivOk j then .ok (.int (i.fdiv j)) g else .bad
  | _, _ => .bad
def opMod (x y : D) (g : G) : Out D := match x, y with
  | .int i, .int j => if j ≠ 0 then .ok (.int (i.fmod j)) g else .bad
  | _, _ => .bad
def opPow (x y : D) (g : G) : Out D := match x, y with
  | .int i, .int j => if 0 ≤ j ∧ j ≤ 1000000 ∧ i.natAbs < 2 ^ 64 then .ok (.int (i ^ j.toNat)) g else .bad
  | _, _ => .bad
theorem DpAll_ne {K : PySem.W.Frag} {F : Hp} {xs : List V} {ds : List D} (h : RqAll K F xs ds) : xs = [] ↔ ds = [] := by
  cases h with
  | nil => exact ⟨fun _ => rfl, fun _ => rfl⟩
  | cons _ _ => exact ⟨fun e => (by cases e), fun e => (by cases e)⟩
theorem RqAll.rep {K : PySem.W.Frag} {F : Hp} {xs : List V} {ds : List D} (h : RqAll K F xs ds) : ∀ k : Nat, RqAll K F (List.replicate k xs).flatten (List.replicate k ds).flatten
  | 0 => .nil
  | k + 1 => by
    rw [List.replicate_succ, List.replicate_succ, List.flatten_cons, List.flatten_cons]
    exact h.append (RqAll.rep h k)
theorem SR.newRq {c : Ctx} {F H : Hp} {σ : L2.St} {ρ : RS} {g : G} (s : SR c F H σ ρ g) {p : Addr} {o : HO} (n : H p = none) {vs : List V} {ds : List D} (h : RqAll c.K F vs ds) : RqAll c.K (upd F p o) vs ds := RqAll_mono (s.same n) ds vs h
theorem SR.newList {c : Ctx} {F H : Hp} {σ : L2.St} {ρ : RS} {g : G} (s : SR c F H σ ρ g) {p : Addr} (n : H p = none) {vs : List V} {ds : List D} (h : RqAll c.K F vs ds) : Rep c (upd F p (.lst vs)) (.ref p) (.list ds) := .inl (.lst upd_same (s.newRq n h))
theorem SR.newTup {c : Ctx} {F H : Hp} {σ : L2.St} {ρ : RS} {g : G} (s : SR c F H σ ρ g) {p : Addr} (n : H p = none) {vs : List V} {ds : List D} (h : RqAll c.K F vs ds) : Rep c (upd F p (.tup vs)) (.ref p) (.tuple ds) := .inl (.tup (SqT.of upd_same) (s.newRq n h))
theorem PostG.newList {c : Ctx} {F H : Hp} {σ : L2.St} {ρ : RS} {g : G} {W : WX} {Q : VK} {ds : List D} (h : PostG c σ (Rep c) (.ok (.list ds) g) F H W Q) (s : SR c F H σ ρ g) {p : Addr} (n : H p = none) {vs : List V} (r : RqAll c.K F vs ds) : Q (.ref p) (upd H p (.lst vs)) :=
  h _ _ _ (Ext.new s.fh n) (s.gok.new n) (s.newList n r)
theorem PostG.newTup {c : Ctx} {F H : Hp} {σ : L2.St} {ρ : RS} {g : G} {W : WX} {Q : VK} {ds : List D} (h : PostG c σ (Rep c) (.ok (.tuple ds) g) F H W Q) (s : SR c F H σ ρ g) {p : Addr} (n : H p = none) {vs : List V} (r : RqAll c.K F vs ds) : Q (.ref p) (upd H p (.tup vs)) :=
  h _ _ _ (Ext.new s.fh n) (s.gok.new n) (s.newTup n r)
theorem PostG.ite {α β : Type} {c : Ctx} {σ : L2.St} {R : Hp → β → α → Prop} {p : Prop} [Decidable p] {o : Out α} {F H : Hp} {W : WX} {Q : β → Hp → Prop} (h : PostG c σ R (if p then o else .bad) F H W Q) : p ∧ PostG c σ R o F H W Q := by
  by_cases hp : p
  · rw [if_pos hp] at h; exact ⟨hp, h⟩
  · rw [if_neg hp] at h; exact h.elim
def rAddA (K : PySem.W.Frag) : R2 := fun x y H Q => (∃ i j, x = .int i ∧ y = .int j ∧ Q (.int (i + j)) H) ∨ (∃ i j, x = .str i ∧ y = .str j ∧ i.length + j.length ≤ sizeLine ∧ Q (.str (i ++ j)) H) ∨ rCat x y H Q ∨ rCatA K x y H Q
theorem op_addA : OpR X (binaryOp .Add) (rAddA X.K) := op_add.or (op_add_str.or (op_cat.or op_catA))
theorem k_add : Keeps2 c W (rAddA c.K) opAdd := by
  intro σ ρ g F H x y dx dy Q s rx ry h
  unfold opAdd at h
  split at h
  · cases rx.int; cases ry.int
    exact .inl ⟨_, _, rfl, rfl, h.now s rInt⟩
  · cases rx.str; cases ry.str
    obtain ⟨h1, h⟩ := h.ite
    exact .inr (.inl ⟨_, _, rfl, rfl, lim_ok h1, h.now s rStr⟩)
  · obtain ⟨a, vs, rfl, h1, h2⟩ := rx.list
    obtain ⟨b, ws, rfl, h3, h4⟩ := ry.list
    obtain ⟨hl, h⟩ := h.ite
    exact .inr (.inr (.inl ⟨a, b, vs, ws, rfl, rfl, s.fh _ _ h1, s.fh _ _ h3, lim_ok (by rw [h2.len, h4.len]; exact hl), fun p n => h.newList s n (h2.append h4)⟩))
  · obtain ⟨a, vs, rfl, h1, h2⟩ := rx.tuple
    obtain ⟨b, ws, rfl, h3, h4⟩ := ry.tuple
    obtain ⟨hl, h⟩ := h.ite
    refine .inr (.inr (.inr ⟨a, b, vs, ws, rfl, rfl, seqT_mono s.fh h1, seqT_mono s.fh h3, lim_ok (by rw [h2.len, h4.len]; exact hl), fun e => ?_, fun _ e => ?_, fun _ _ p n => h.newTup s n (h2.append h4)⟩))
    · rw [(DpAll_ne h2).mp e] at h
      exact h.now s ry
    · rw [(DpAll_ne h4).mp e, List.append_nil] at h
      exact h.now s rx
  · exact h.elim
theorem k_sub : Keeps2 c W (rI0 fun i j => .int (i - j)) opSub := by
  intro σ ρ g F H x y dx dy Q s rx ry h
  unfold opSub at h
  split at h
  · cases rx.int; cases ry.int
    exact ⟨_, _, rfl, rfl, h.now s rInt⟩
  · exact h.elim
def rMulA : R2 := fun x y H Q => rI CMul (fun i j => .int (i * j)) x y H Q ∨ rI CMulW (fun i j => .int (i * j)) x y H Q ∨ rRep x y H Q
theorem op_mulA : OpR X (binaryOp .Mult) rMulA := op_mul.or (op_mulW.or op_rep)
theorem k_mul : Keeps2 c W rMulA opMul := by
  intro σ ρ g F H x y dx dy Q s rx ry h
  unfold opMul at h
  split at h
  · cases rx.int; cases ry.int
    obtain ⟨h1, h⟩ := h.ite
    rcases h1 with h1 | h1 | h1
    · exact .inl ⟨_, _, rfl, rfl, .inl h1, h.now s rInt⟩
    · exact .inl ⟨_, _, rfl, rfl, .inr h1, h.now s rInt⟩
    · exact .inr (.inl ⟨_, _, rfl, rfl, h1, h.now s rInt⟩)
  · obtain ⟨a, vs, rfl, h1, h2⟩ := rx.list
    cases ry.int
    obtain ⟨⟨hl1, hl2, hl3⟩, h⟩ := h.ite
    have hl1' : _ ≤ (1000000 : Int) := hl1
    exact .inr (.inr ⟨a, _, vs, rfl, rfl, s.fh _ _ h1, by omega, by omega, lim_ok (by rw [h2.len]; exact hl3), fun p n => h.newList s n (h2.rep _)⟩)
  · exact h.elim
def rDivA : R2 := fun x y H Q => rI CDivN (fun i j => .int (i.fdiv j)) x y H Q ∨ rI CDivW (fun i j => .int (i / j)) x y H Q
theorem op_divA : OpR X (binaryOp .FloorDiv) rDivA := op_fdivN.or op_fdivW
theorem k_div : Keeps2 c W rDivA opDiv := by
  intro σ ρ g F H x y dx dy Q s rx ry h
  unfold opDiv at h
  split at h
  · cases rx.int; cases ry.int
    obtain ⟨h1, h⟩ := h.ite
    rcases h1 with h1 | h1
    · exact .inl ⟨_, _, rfl, rfl, h1, h.now s rInt⟩
    · refine .inr ⟨_, _, rfl, rfl, h1, ?_⟩
      rw [Int.fdiv_eq_ediv_of_nonneg _ (Int.le_of_lt h1.1)] at h
      exact h.now s rInt
  · exact h.elim
theorem k_mod : Keeps2 c W (rI (fun _ j => j ≠ 0) fun i j => .int (i.fmod j)) opMod := by
  intro σ ρ g F H x y dx dy Q s rx ry h
  unfold opMod at h
  split at h
  · cases rx.int; cases ry.int
    obtain ⟨h1, h⟩ := h.ite
    exact ⟨_, _, rfl, rfl, h1, h.now s rInt⟩
  · exact h.elim
theorem k_pow : Keeps2 c W (rI CPow fun i j => .int (i ^ j.toNat)) opPow := by
  intro σ ρ g F H x y dx dy Q s rx ry h
  unfold opPow at h
  split at h
  · cases rx.int; cases ry.int
    obtain ⟨h1, h⟩ := h.ite
    exact ⟨_, _, rfl, rfl, h1, h.now s rInt⟩
  · exact h.elim
theorem d_add (hK : c.K = X.K) (ha : DE X c W a fa) (hb : DE X c W b fb) : DE X c W (.BinOp a .Add b pos) (eBin opAdd fa fb) := d_bin op_addA (by rw [← hK]; exact k_add) ha hb
theorem d_sub (ha : DE X c W a fa) (hb : DE X c W b fb) : DE X c W (.BinOp a .Sub b pos) (eBin opSub fa fb) := d_bin op_sub k_sub ha hb
theorem d_mul (ha : DE X c W a fa) (hb : DE X c W b fb) : DE X c W (.BinOp a .Mult b pos) (eBin opMul fa fb) := d_bin op_mulA k_mul ha hb
theorem d_div (ha : DE X c W a fa) (hb : DE X c W b fb) : DE X c W (.BinOp a .FloorDiv b pos) (eBin opDiv fa fb) := d_bin op_divA k_div ha hb
theorem d_mod (ha : DE X c W a fa) (hb : DE X c W b fb) : DE X c W (.BinOp a .Mod b pos) (eBin opMod fa fb) := d_bin op_modN k_mod ha hb
theorem d_pow (ha : DE X c W a fa) (hb : DE X c W b fb) : DE X c W (.BinOp a .Pow b pos) (eBin opPow fa fb) := d_bin op_pow k_pow ha hb
def eNeg (fa : EF) : EF := fun ρ g => (fa ρ g).bind fun x g1 => match x with
  | .int i => .ok (.int (-i)) g1
  | _ => .bad
theorem d_neg (ha : DE X c W a fa) : DE X c W (.UnaryOp .USub a pos) (eNeg fa) :=
  PE.imp (pe_un un_neg ha) fun σ H Q ⟨F, ρ, g, s, h⟩ => ⟨F, ρ, g, s, PostG.bind s h fun x g1 v F1 H1 e1 s1 r1 h1 => by
    cases x with
    | int i => cases r1.int; exact ⟨i, rfl, h1.now s1 rInt⟩
    | _ => exact h1.elim⟩
def tVal (fa : EF) : TF := fun ρ g => (fa ρ g).bind fun x g1 => match x with
  | .bool k => .ok k g1
  | _ => .bad
abbrev DC (X : Cx) (c : Ctx) (W : WX) (e : Expr) (f : EF) : Prop := DE X c W e f ∧ DT X c W e (tVal f)
theorem dcE {e : Expr} {f : EF} (h : DC X c W e f) : DE X c W e f := h.1
theorem dcT {e : Expr} {f : EF} (h : DC X c W e f) : DT X c W e (tVal f) := h.2
theorem val_imp {f : EF} {σ : L2.St} {H : Hp} {Q : Bool → Hp → Prop} (w : tT c W (tVal f) σ H Q) : tE c W f σ H fun x H' => ∃ k, x = .bl k ∧ Q k H' := by
  obtain ⟨F, ρ, g, s, h⟩ := w
  exact ⟨F, ρ, g, s, PostG.bind s h fun x g1 v F1 H1 e1 s1 r1 h1 => by
    cases x with
    | bool k => cases r1.bl; exact ⟨k, rfl, h1.now s1 rfl⟩
    | _ => exact h1.elim⟩
variable {cop : CmpOp}
theorem bin_imp {r : R2} {φ : D → D → G → Out D} (hr : Keeps2 c W r φ) {σ : L2.St} {H : Hp} {Q : VK} (w : tE c W (eBin φ fa fb) σ H Q) : tOp r (tE c W fa) (tE c W fb) σ H Q := by
  obtain ⟨F, ρ, g, s, h⟩ := w
  exact ⟨F, ρ, g, s, PostG.bind s h fun x g1 v F1 H1 e1 s1 r1 h1 => ⟨F1, ρ, g1, s1, PostG.bind s1 (o := fb ρ g1) (k := fun y g2 => φ x y g2) h1 fun y g2 u F2 H2 e2 s2 r2 h2 => hr σ ρ g2 F2 H2 v u x y Q s2 (r1.mono e2.f) r2 h2⟩⟩
theorem d_cmp {r : R2} {φ : D → D → G → Out D} (ho : OpR X (compareOp cop) r) (hr : Keeps2 c W r φ) (ha : DE X c W a fa) (hb : DE X c W b fb) (hm : behindInMarks cop b = false) : DC X c W (.Compare a [cop] [b] pos) (eBin φ fa fb) :=
  ⟨PE.imp (pe_cmpR ho ha hb hm) fun σ H Q w => bin_imp hr w, PT.imp (pt_cmpR ho ha hb hm) fun σ H Q w => bin_imp hr (val_imp w)⟩
def opI (p : Int → Int → Bool) (x y : D) (g : G) : Out D := match x, y with
  | .int i, .int j => .ok (.bool (p i j)) g
  | _, _ => .bad
theorem k_opI (p : Int → Int → Bool) : Keeps2 c W (rI0 fun i j => .bl (p i j)) (opI p) := by
  intro σ ρ g F H x y dx dy Q s rx ry h
  unfold opI at h
  split at h
  · cases rx.int; cases ry.int
    exact ⟨_, _, rfl, rfl, h.now s rBl⟩
  · exact h.elim
abbrev opLt := opI fun i j => decide (i < j)
abbrev opLe := opI fun i j => decide (i ≤ j)
abbrev opGt := opI fun i j => decide (j < i)
abbrev opGe := opI fun i j => decide (j ≤ i)
theorem d_lt (ha : DE X c W a fa) (hb : DE X c W b fb) : DC X c W (.Compare a [.Lt] [b] pos) (eBin opLt fa fb) := d_cmp op_lt (k_opI _) ha hb (nomark _)
theorem d_le (ha : DE X c W a fa) (hb : DE X c W b fb) : DC X c W (.Compare a [.LtE] [b] pos) (eBin opLe fa fb) := d_cmp op_le (k_opI _) ha hb (nomark _)
theorem d_gt (ha : DE X c W a fa) (hb : DE X c W b fb) : DC X c W (.Compare a [.Gt] [b] pos) (eBin opGt fa fb) := d_cmp op_gt (k_opI _) ha hb (nomark _)
theorem d_ge (ha : DE X c W a fa) (hb : DE X c W b fb) : DC X c W (.Compare a [.GtE] [b] pos) (eBin opGe fa fb) := d_cmp op_ge (k_opI _) ha hb (nomark _)
def shp (d : D) : Bool := SeqAt.shaped d
def opEq (x y : D) (g : G) : Out D := if shp x = true ∧ shp y = true then .ok (.bool (PyData.eqv x y)) g else .bad
def opNe (x y : D) (g : G) : Out D := if shp x = true ∧ shp y = true then .ok (.bool (!PyData.eqv x y)) g else .bad
theorem shp_tok {d : D} (h : shp d = true) : d ≠ tokD := fun e => by rw [e] at h; cases h
theorem k_eq : Keeps2 c W (rEqD c.K) opEq := by
  intro σ ρ g F H x y dx dy Q s rx ry h
  obtain ⟨⟨h1, h2⟩, h⟩ := h.ite
  exact ⟨dx, dy, Rq_dp _ _ (Rq_mono s.fh _ _ (rx.rq (shp_tok h1))), Rq_dp _ _ (Rq_mono s.fh _ _ (ry.rq (shp_tok h2))), h1, h2, h.now s rBl⟩
theorem k_ne : Keeps2 c W (rNeD c.K) opNe := by
  intro σ ρ g F H x y dx dy Q s rx ry h
  obtain ⟨⟨h1, h2⟩, h⟩ := h.ite
  exact ⟨dx, dy, Rq_dp _ _ (Rq_mono s.fh _ _ (rx.rq (shp_tok h1))), Rq_dp _ _ (Rq_mono s.fh _ _ (ry.rq (shp_tok h2))), h1, h2, h.now s rBl⟩
theorem hu65 {A : Around} {k : Nat} (hr : Room k A) : A.units + 65 < cLine := by have := hr.un; omega
theorem d_eq (hK : c.K = X.K) (hu : X.A.units + 65 < cLine) (ha : DE X c W a fa) (hb : DE X c W b fb) : DC X c W (.Compare a [.Eq] [b] pos) (eBin opEq fa fb) := d_cmp (op_eqD (by omega)) (by rw [← hK]; exact k_eq) ha hb (nomark _)
theorem d_ne (hK : c.K = X.K) (hu : X.A.units + 65 < cLine) (ha : DE X c W a fa) (hb : DE X c W b fb) : DC X c W (.Compare a [.NotEq] [b] pos) (eBin opNe fa fb) := d_cmp (op_neD (by omega)) (by rw [← hK]; exact k_ne) ha hb (nomark _)
def isNon : D → Bool
  | .none => true
  | _ => false
def isD (x : D) : Bool := match x with
  | .none => true
  | .bool _ | .int _ | .str _ | .list _ | .tuple _ => true
  | .dict _ => false
theorem rep_non {c : Ctx} {F : Hp} {v : V} {d : D} (r : Rep c F v d) : decide (v = .non) = isNon d := by
  rcases r with r | ⟨rfl, rfl⟩
  · cases r <;> rfl
  · rfl
def eIsN (fa : EF) : EF := fun ρ g => (fa ρ g).bind fun x g1 => .ok (.bool (isNon x)) g1
def eNotN (fa : EF) : EF := fun ρ g => (fa ρ g).bind fun x g1 => .ok (.bool (!isNon x)) g1
theorem d_isN {j pos'} (ha : DE X c W a fa) : DC X c W (.Compare a [.Is] [.Constant .none j pos'] pos) (eIsN fa) :=
  have im : ∀ {σ : L2.St} {H : Hp} {Q : VK}, tE c W (eIsN fa) σ H Q → tIsN (tE c W fa) σ H Q := fun {σ H Q} ⟨F, ρ, g, s, h⟩ => ⟨F, ρ, g, s, PostG.bind s h fun x g1 v F1 H1 e1 s1 r1 h1 => by rw [rep_non r1]; exact h1.now s1 rBl⟩
  ⟨PE.imp (pe_cmp (pc_isN ha) rfl) fun σ H Q w => im w, PT.imp (pt_cmp (pc_isN ha) rfl) fun σ H Q w => im (val_imp w)⟩
theorem d_notN {j pos'} (ha : DE X c W a fa) : DC X c W (.Compare a [.IsNot] [.Constant .none j pos'] pos) (eNotN fa) :=
  have im : ∀ {σ : L2.St} {H : Hp} {Q : VK}, tE c W (eNotN fa) σ H Q → tNotN (tE c W fa) σ H Q := fun {σ H Q} ⟨F, ρ, g, s, h⟩ => ⟨F, ρ, g, s, PostG.bind s h fun x g1 v F1 H1 e1 s1 r1 h1 => by rw [rep_non r1]; exact h1.now s1 rBl⟩
  ⟨PE.imp (pe_cmp (pc_notN ha) rfl) fun σ H Q w => im w, PT.imp (pt_cmp (pc_notN ha) rfl) fun σ H Q w => im (val_imp w)⟩
def opIsB (x y : D) (g : G) : Out D := match x, y with
  | .bool i, .bool j => .ok (.bool (decide (i = j))) g
  | _, _ => .bad
def opNotB (x y : D) (g : G) : Out D := match x, y with
  | .bool i, .bool j => .ok (.bool (!decide (i = j))) g
  | _, _ => .bad
theorem d_isB (ha : DE X c W a fa) (hb : DE X c W b fb) : DC X c W (.Compare a [.Is] [b] pos) (eBin opIsB fa fb) := d_cmp op_isBl (fun σ ρ g F H x y dx dy Q s rx ry h => by
  unfold opIsB at h
  split at h
  · cases rx.bl; cases ry.bl
    exact ⟨_, _, rfl, rfl, h.now s rBl⟩
  · exact h.elim) ha hb (nomark _)
theorem d_notB (ha : DE X c W a fa) (hb : DE X c W b fb) : DC X c W (.Compare a [.IsNot] [b] pos) (eBin opNotB fa fb) := d_cmp op_notBl (fun σ ρ g F H x y dx dy Q s rx ry h => by
  unfold opNotB at h
  split at h
  · cases rx.bl; cases ry.bl
    exact ⟨_, _, rfl, rfl, h.now s rBl⟩
  · exact h.elim) ha hb (nomark _)
def eChain (p q : Int → Int → Bool) (fa fb fc : EF) : EF := fun ρ g => (fa ρ g).bind fun x g1 => (fb ρ g1).bind fun y g2 => match x, y with
  | .int i, .int j => if p i j = true then (fc ρ g2).bind fun z g3 => match z with
      | .int k => .ok (.bool (q j k)) g3
      | _ => .bad
    else .ok (.bool false) g2
  | _, _ => .bad
theorem chain_imp {fc : EF} {p q : Int → Int → Bool} {σ : L2.St} {H : Hp} {Q : VK} (w : tE c W (eChain p q fa fb fc) σ H Q) : tChain (rI0 fun i j => .bl (p i j)) (rI0 fun i j => .bl (q i j)) (tE c W fa) (tE c W fb) (tE c W fc) σ H Q := by
  obtain ⟨F, ρ, g, s, h⟩ := w
  exact ⟨F, ρ, g, s, PostG.bind s h fun x g1 v F1 H1 e1 s1 r1 h1 => ⟨F1, ρ, g1, s1, PostG.bind s1 h1 fun y g2 u F2 H2 e2 s2 r2 h2 => by
    split at h2
    · cases (r1.mono e2.f).int; cases r2.int
      refine ⟨_, _, rfl, rfl, _, rfl, ?_⟩
      split
      · rename_i i j hp
        rw [if_pos hp] at h2
        refine ⟨F2, ρ, g2, s2, PostG.bind s2 h2 fun z g3 w F3 H3 e3 s3 r3 h3 => ?_⟩
        cases z with
        | int k => cases r3.int; exact ⟨_, _, rfl, rfl, h3.now s3 rBl⟩
        | _ => exact h3.elim
      · rename_i i j hp
        rw [if_neg hp] at h2
        exact h2.now s2 rBl
    · exact h2.elim⟩⟩
theorem d_chain {cop' : CmpOp} {e3 : Expr} {fc : EF} {p q : Int → Int → Bool} (ho : OpR X (compareOp cop) (rI0 fun i j => .bl (p i j))) (ho' : OpR X (compareOp cop') (rI0 fun i j => .bl (q i j))) (ha : DE X c W a fa) (hb : DE X c W b fb) (hc : DE X c W e3 fc)
    (h1 : lastMarks [cop, cop'] [b, e3] = false := by rfl) : DC X c W (.Compare a [cop, cop'] [b, e3] pos) (eChain p q fa fb fc) :=
  ⟨PE.imp (pe_chain ho ho' ha hb hc h1) fun σ H Q w => chain_imp w, PT.imp (pt_chain ho ho' ha hb hc h1) fun σ H Q w => chain_imp (val_imp w)⟩
variable {rest : List Expr} {tA tB : TF}
abbrev DW (X : Cx) (c : Ctx) (W : WX) (e : Expr) (f : TF) : Prop := PW X e (tT c W f)
def tAndF (fa fb : TF) : TF := fun ρ g => (fa ρ g).bind fun k g1 => if k = true then fb ρ g1 else .ok false g1
def tOrF (fa fb : TF) : TF := fun ρ g => (fa ρ g).bind fun k g1 => if k = true then .ok true g1 else fb ρ g1
def tNotF (fa : TF) : TF := fun ρ g => (fa ρ g).bind fun k g1 => .ok (!k) g1
def truD : D → Option Bool
  | .none => some false
  | .bool k => some k
  | .int i => some (i != 0)
  | .list xs => some (!xs.isEmpty)
  | .tuple xs => some (!xs.isEmpty)
  | .str x => if x.length ≤ LIM then some ((x.length : Int) != 0) else none
  | .dict _ => none
def tTru (fa : EF) : TF := fun ρ g => (fa ρ g).bind fun x g1 => match truD x with
  | some k => .ok k g1
  | none => .bad
theorem dt_val (ha : DE X c W a fa) (he : ∀ whole, isTrue a X.env whole = (do let v ← whole; standAt a.pos; holding [v] (truthy v)) := by intro _; rfl) : DT X c W a (tVal fa) :=
  PT.imp (pt_val ha he) fun σ H Q ⟨F, ρ, g, s, h⟩ => ⟨F, ρ, g, s, PostG.bind s h fun x g1 v F1 H1 e1 s1 r1 h1 => by
    cases x with
    | bool k => cases r1.bl; exact ⟨k, rfl, h1.now s1 rfl⟩
    | _ => exact h1.elim⟩
theorem isEmpty_rq {K : PySem.W.Frag} {F : Hp} {vs : List V} {ds : List D} (h : RqAll K F vs ds) : (!vs.isEmpty) = !ds.isEmpty := by cases h <;> rfl
theorem dt_tru (hK : c.K = X.K) (ha : DE X c W a fa) (he : ∀ whole, isTrue a X.env whole = (do let v ← whole; standAt a.pos; holding [v] (truthy v)) := by intro _; rfl) : DT X c W a (tTru fa) :=
  PT.imp (pt_truth ha he) fun σ H Q ⟨F, ρ, g, s, h⟩ => ⟨F, ρ, g, s, PostG.bind s h fun x g1 v F1 H1 e1 s1 r1 h1 => by
    cases x with
    | none => cases r1.non; exact ⟨_, rfl, h1.now s1 rfl⟩
    | bool k => cases r1.bl; exact ⟨_, rfl, h1.now s1 rfl⟩
    | int i => cases r1.int; exact ⟨_, rfl, h1.now s1 rfl⟩
    | list xs =>
      obtain ⟨p, vs, rfl, q1, q2⟩ := r1.list
      exact ⟨_, .inl ⟨vs, SqL.of (s1.fh _ _ q1), rfl⟩, h1.now s1 (isEmpty_rq q2)⟩
    | tuple xs =>
      obtain ⟨p, vs, rfl, q1, q2⟩ := r1.tuple
      exact ⟨_, .inr (.inl ⟨vs, by rw [← hK]; exact seqT_mono s1.fh q1, rfl⟩), h1.now s1 (isEmpty_rq q2)⟩
    | str x =>
      cases r1.str
      by_cases hl : x.length ≤ LIM
      · simp only [truD, if_pos hl] at h1
        exact ⟨_, ⟨lim_ok hl, rfl⟩, h1.now s1 rfl⟩
      · simp only [truD, if_neg hl] at h1
        exact h1.elim
    | dict _ => exact h1.elim⟩
theorem dw_and1 (ha : DT X c W a tA) : DW X c W (.BoolOp .And [a] pos) tA := pw_and1 ha
theorem dw_or1 (ha : DT X c W a tA) : DW X c W (.BoolOp .Or [a] pos) tA := pw_or1 ha
theorem dw_and (ha : DT X c W a tA) (hb : DW X c W (.BoolOp .And (b :: rest) pos) tB) : DW X c W (.BoolOp .And (a :: b :: rest) pos) (tAndF tA tB) :=
  PW.imp (pw_and ha hb) fun σ H Q ⟨F, ρ, g, s, h⟩ => ⟨F, ρ, g, s, PostG.bind s h fun k g1 v F1 H1 e1 s1 r1 h1 => by
    cases r1
    cases k with
    | true => exact ⟨F1, ρ, g1, s1, h1⟩
    | false => exact h1.now s1 rfl⟩
theorem dw_or (ha : DT X c W a tA) (hb : DW X c W (.BoolOp .Or (b :: rest) pos) tB) : DW X c W (.BoolOp .Or (a :: b :: rest) pos) (tOrF tA tB) :=
  PW.imp (pw_or ha hb) fun σ H Q ⟨F, ρ, g, s, h⟩ => ⟨F, ρ, g, s, PostG.bind s h fun k g1 v F1 H1 e1 s1 r1 h1 => by
    cases r1
    cases k with
    | true => exact h1.now s1 rfl
    | false => exact ⟨F1, ρ, g1, s1, h1⟩⟩
theorem dt_w (h : DW X c W a tA) : DT X c W a tA := PW.pt h
theorem dt_not (ha : DT X c W a tA) : DT X c W (.UnaryOp .Not a pos) (tNotF tA) :=
  PT.imp (pt_not ha) fun σ H Q ⟨F, ρ, g, s, h⟩ => ⟨F, ρ, g, s, PostG.bind s h fun k g1 v F1 H1 e1 s1 r1 h1 => by cases r1; exact h1.now s1 rfl⟩
def eAnd (fa fb : EF) : EF := fun ρ g => (fa ρ g).bind fun x g1 => match x with
  | .bool k => if k = true then fb ρ g1 else .ok (.bool false) g1
  | _ => .bad
def eOr (fa fb : EF) : EF := fun ρ g => (fa ρ g).bind fun x g1 => match x with
  | .bool k => if k = true then .ok (.bool true) g1 else fb ρ g1
  | _ => .bad
def eNot (fa : EF) : EF := fun ρ g => (fa ρ g).bind fun x g1 => match x with
  | .bool k => .ok (.bool (!k)) g1
  | _ => .bad
theorem d_one {bop} (ha : DE X c W a fa) : DE X c W (.BoolOp bop [a] pos) fa := pe_one ha
theorem d_and (ha : DE X c W a fa) (hb : DE X c W (.BoolOp .And (b :: rest) pos) fb) : DE X c W (.BoolOp .And (a :: b :: rest) pos) (eAnd fa fb) :=
  PE.imp (pe_and ha hb) fun σ H Q ⟨F, ρ, g, s, h⟩ => ⟨F, ρ, g, s, PostG.bind s h fun x g1 v F1 H1 e1 s1 r1 h1 => by
    cases x with
    | bool k =>
      cases r1.bl
      refine ⟨k, rfl, ?_⟩
      cases k with
      | true => exact ⟨F1, ρ, g1, s1, h1⟩
      | false => exact h1.now s1 rBl
    | _ => exact h1.elim⟩
theorem d_or (ha : DE X c W a fa) (hb : DE X c W (.BoolOp .Or (b :: rest) pos) fb) : DE X c W (.BoolOp .Or (a :: b :: rest) pos) (eOr fa fb) :=
  PE.imp (pe_or ha hb) fun σ H Q ⟨F, ρ, g, s, h⟩ => ⟨F, ρ, g, s, PostG.bind s h fun x g1 v F1 H1 e1 s1 r1 h1 => by
    cases x with
    | bool k =>
      cases r1.bl
      refine ⟨k, rfl, ?_⟩
      cases k with
      | true => exact h1.now s1 rBl
      | false => exact ⟨F1, ρ, g1, s1, h1⟩
    | _ => exact h1.elim⟩
theorem d_not (ha : DE X c W a fa) : DE X c W (.UnaryOp .Not a pos) (eNot fa) :=
  PE.imp (pe_not ha) fun σ H Q ⟨F, ρ, g, s, h⟩ => ⟨F, ρ, g, s, PostG.bind s h fun x g1 v F1 H1 e1 s1 r1 h1 => by
    cases x with
    | bool k => cases r1.bl; exact ⟨k, rfl, h1.now s1 rBl⟩
    | _ => exact h1.elim⟩
def eIf (t : TF) (fa fb : EF) : EF := fun ρ g => (t ρ g).bind fun k g1 => if k = true then fa ρ g1 else fb ρ g1
theorem d_if {e : Expr} (ht : DT X c W e tA) (ha : DE X c W a fa) (hb : DE X c W b fb) : DE X c W (.IfExp e a b pos) (eIf tA fa fb) :=
  PE.imp (pe_ifExp ht ha hb) fun σ H Q ⟨F, ρ, g, s, h⟩ => ⟨F, ρ, g, s, PostG.bind s h fun k g1 v F1 H1 e1 s1 r1 h1 => by
    cases r1
    cases k with
    | true => exact ⟨F1, ρ, g1, s1, h1⟩
    | false => exact ⟨F1, ρ, g1, s1, h1⟩⟩
variable {es : List Expr} {fs : AF} {e : Expr} {fe : EF}
def aNil : AF := fun _ g => .ok [] g
def aCons (fe : EF) (fs : AF) : AF := fun ρ g => (fe ρ g).bind fun x g1 => (fs ρ g1).bind fun xs g2 => .ok (x :: xs) g2
theorem da_nil : DA X c W [] aNil := PA.imp pa_nil fun σ H Q ⟨F, ρ, g, s, h⟩ => h.now s .nil
theorem da_cons (ha : DE X c W e fe) (hr : DA X c W es fs) (hs : starEach (e :: es) X.env = (false, eval e X.env) :: starEach es X.env := by rfl) : DA X c W (e :: es) (aCons fe fs) :=
  PA.imp (pa_cons ha hr hs) fun σ H Q ⟨F, ρ, g, s, h⟩ => ⟨F, ρ, g, s, PostG.bind s h fun x g1 v F1 H1 e1 s1 r1 h1 => ⟨F1, ρ, g1, s1, PostG.bind s1 h1 fun y g2 u F2 H2 e2 s2 r2 h2 => h2.now s2 (.cons (r1.mono e2.f) r2)⟩⟩
def noTok : List D → Bool
  | [] => true
  | .dict _ :: _ => false
  | _ :: r => noTok r
theorem RepAll.rq {c : Ctx} {F : Hp} : ∀ {vs : List V} {ds : List D}, RepAll c F vs ds → noTok ds = true → RqAll c.K F vs ds
  | _, _, .nil, _ => .nil
  | _, _, .cons (d := d) h t, n => by
    cases d with
    | dict k => cases n
    | none => exact .cons (h.rq (by intro e; cases e)) (RepAll.rq t n)
    | bool _ => exact .cons (h.rq (by intro e; cases e)) (RepAll.rq t n)
    | int _ => exact .cons (h.rq (by intro e; cases e)) (RepAll.rq t n)
    | str _ => exact .cons (h.rq (by intro e; cases e)) (RepAll.rq t n)
    | list _ => exact .cons (h.rq (by intro e; cases e)) (RepAll.rq t n)
    | tuple _ => exact .cons (h.rq (by intro e; cases e)) (RepAll.rq t n)
def eTup (fs : AF) : EF := fun ρ g => (fs ρ g).bind fun xs g1 => if noTok xs = true ∧ xs.length ≤ LIM then .ok (.tuple xs) g1 else .bad
def eLst (fs : AF) : EF := fun ρ g => (fs ρ g).bind fun xs g1 => if noTok xs = true ∧ xs.length ≤ LIM then .ok (.list xs) g1 else .bad
theorem d_tup {x1} (ha : DA X c W es fs) : DE X c W (.Tuple es x1 pos) (eTup fs) :=
  PE.imp (pe_tup ha) fun σ H Q ⟨F, ρ, g, s, h⟩ => ⟨F, ρ, g, s, PostG.bind s h fun xs g1 vs F1 H1 e1 s1 r1 h1 => by
    obtain ⟨⟨h2, h3⟩, h1⟩ := h1.ite
    exact ⟨lim_ok (by rw [r1.length]; exact h3), fun p n => h1.newTup s1 n (r1.rq h2)⟩⟩
theorem d_lst (ha : DA X c W es fs) : DE X c W (.List es pos) (eLst fs) :=
  PE.imp (pe_lst ha) fun σ H Q ⟨F, ρ, g, s, h⟩ => ⟨F, ρ, g, s, PostG.bind s h fun xs g1 vs F1 H1 e1 s1 r1 h1 => by
    obtain ⟨⟨h2, h3⟩, h1⟩ := h1.ite
    exact ⟨lim_ok (by rw [r1.length]; exact h3), fun p n => h1.newList s1 n (r1.rq h2)⟩⟩
def opIx (x y : D) (g : G) : Out D := match x, y with
  | .list xs, .int i => match atI xs i with
    | some d => .ok d g
    | none => .bad
  | .tuple xs, .int i => match atI xs i with
    | some d => .ok d g
    | none => .bad
  | .str z, .int i => if z.length ≤ LIM then (match atI z.cps.toList i with
    | some d => .ok (.str ⟨#[d]⟩) g
    | none => .bad) else .bad
  | _, _ => .bad
theorem atI_rq {K : PySem.W.Frag} {F : Hp} {vs : List V} {ds : List D} {i : Int} {d : D} (h : RqAll K F vs ds) (e : atI ds i = some d) : ∃ v, atI vs i = some v ∧ Rq K F v d := by
  unfold atI at e ⊢
  rw [h.len]
  cases q : ixN ds.length i with
  | none => rw [q] at e; cases e
  | some j =>
    rw [q] at e
    obtain ⟨v, h1, h2⟩ := h.get (i := j) (d := d) e
    exact ⟨v, h1, h2⟩
theorem d_ix (hK : c.K = X.K) (ha : DE X c W a fa) (hb : DE X c W b fb) (hs : PlainIx b := by intro _ _; rfl) : DE X c W (.Subscript a b pos) (eBin opIx fa fb) :=
  PE.imp (pe_ix ix_seq ha hb hs) fun σ H Q ⟨F, ρ, g, s, h⟩ => ⟨F, ρ, g, s, PostG.bind s h fun x g1 v F1 H1 e1 s1 r1 h1 => ⟨F1, ρ, g1, s1, PostG.bind s1 (o := fb ρ g1) (k := fun y g2 => opIx x y g2) h1 fun y g2 u F2 H2 e2 s2 r2 h2 => by
    unfold opIx at h2
    split at h2
    · obtain ⟨p, vs, rfl, q1, q2⟩ := (r1.mono e2.f).list
      cases r2.int
      split at h2
      · rename_i d hd
        obtain ⟨v, hv, rv⟩ := atI_rq q2 hd
        exact .inl ⟨p, vs, _, v, rfl, rfl, SqL.of (s2.fh _ _ q1), hv, h2.now s2 (.inl rv)⟩
      · exact h2.elim
    · obtain ⟨p, vs, rfl, q1, q2⟩ := (r1.mono e2.f).tuple
      cases r2.int
      split at h2
      · rename_i d hd
        obtain ⟨v, hv, rv⟩ := atI_rq q2 hd
        exact .inr (.inl ⟨p, vs, _, v, rfl, rfl, by rw [← hK]; exact seqT_mono s2.fh q1, hv, h2.now s2 (.inl rv)⟩)
      · exact h2.elim
    · cases r1.str
      cases r2.int
      obtain ⟨hz, h2⟩ := h2.ite
      split at h2
      · rename_i d hd
        exact .inr (.inr ⟨_, _, d, rfl, rfl, lim_ok hz, hd, h2.now s2 rStr⟩)
      · exact h2.elim
    · exact h2.elim⟩⟩
abbrev OF := RS → G → Out (Option Int)
def RO : Hp → Option Int → Option Int → Prop := fun _ a b => a = b
def tOf (c : Ctx) (W : WX) (f : OF) : TO := fun σ H Q => ∃ F ρ g, SR c F H σ ρ g ∧ PostG c σ RO (f ρ g) F H W Q
abbrev DO (X : Cx) (c : Ctx) (W : WX) (e : Option Expr) (f : OF) : Prop := PO X e (tOf c W f)
theorem PO.imp {X : Cx} {e : Option Expr} {t t' : TO} (h : PO X e t) (q : ∀ σ H Q, t' σ H Q → t σ H Q) : PO X e t' := by
  obtain ⟨h1⟩ := h
  constructor
  intros
  apply h1 <;> first | assumption | (apply q; assumption)
def oNone : OF := fun _ g => .ok none g
def oSome (fe : EF) : OF := fun ρ g => (fe ρ g).bind fun x g1 => match x with
  | .int i => .ok (some i) g1
  | _ => .bad
theorem do_none : DO X c W none oNone := PO.imp po_none fun σ H Q ⟨F, ρ, g, s, h⟩ => h.now s rfl
theorem do_some (ha : DE X c W e fe) : DO X c W (some e) (oSome fe) := PO.imp (po_some ha) fun σ H Q ⟨F, ρ, g, s, h⟩ => ⟨F, ρ, g, s, PostG.bind s h fun x g1 v F1 H1 e1 s1 r1 h1 => by
  cases x with
  | int i => cases r1.int; exact ⟨i, rfl, h1.now s1 rfl⟩
  | _ => exact h1.elim⟩
def cutD (ds : List D) (lo hi : Option Int) : List D := (ds.drop (HT.sIx ds.length 0 lo)).take (HT.sIx ds.length ds.length hi - HT.sIx ds.length 0 lo)
theorem cut_rq {K : PySem.W.Frag} {F : Hp} {vs : List V} {ds : List D} (h : RqAll K F vs ds) (lo hi : Option Int) : RqAll K F (cutV vs lo hi) (cutD ds lo hi) := by
  unfold cutV cutD
  rw [h.len]
  exact (h.drop _).take _
def eSl (fa : EF) (fl fh : OF) : EF := fun ρ g => (fa ρ g).bind fun x g1 => (fl ρ g1).bind fun lo g2 => (fh ρ g2).bind fun hi g3 => match x with
  | .list xs => .ok (.list (cutD xs lo hi)) g3
  | .tuple xs => .ok (.tuple (cutD xs lo hi)) g3
  | _ => .bad
theorem cut_whole (ds : List D) (lo hi : Option Int) (h : HT.sIx ds.length 0 lo = 0 ∧ HT.sIx ds.length ds.length hi = ds.length) : cutD ds lo hi = ds := by
  unfold cutD
  rw [h.1, h.2, List.drop_zero, Nat.sub_zero, List.take_length]
theorem d_sl {lo hi : Option Expr} {fl fh : OF} {p2 : Pos} (hK : c.K = X.K) (ha : DE X c W a fa) (hl : DO X c W lo fl) (hh : DO X c W hi fh) : DE X c W (.Subscript a (.Slice lo hi none p2) pos) (eSl fa fl fh) :=
  PE.imp (pe_slice (sl_list.or sl_tupA) ha hl hh) fun σ H Q ⟨F, ρ, g, s, h⟩ => ⟨F, ρ, g, s, PostG.bind s h fun x g1 v F1 H1 e1 s1 r1 h1 => ⟨F1, ρ, g1, s1, PostG.bind s1 h1 fun l g2 u F2 H2 e2 s2 r2 h2 => ⟨F2, ρ, g2, s2, PostG.bind s2 h2 fun hv g3 w F3 H3 e3 s3 r3 h3 => by
    cases r2
    cases r3
    cases x with
    | list xs =>
      obtain ⟨p, vs, rfl, q1, q2⟩ := ((r1.mono e2.f).mono e3.f).list
      exact .inl ⟨p, vs, rfl, SqL.of (s3.fh _ _ q1), fun q n => h3.newList s3 n (cut_rq q2 _ _)⟩
    | tuple xs =>
      have rr := (r1.mono e2.f).mono e3.f
      obtain ⟨p, vs, rfl, q1, q2⟩ := rr.tuple
      refine .inr ⟨p, vs, rfl, by rw [← hK]; exact seqT_mono s3.fh q1, fun hw => ?_, fun _ q n => h3.newTup s3 n (cut_rq q2 _ _)⟩
      rw [q2.len] at hw
      have h3 : PostG c σ (Rep c) (.ok (.tuple (cutD xs l hv)) g3) F3 H3 W Q := h3
      rw [cut_whole _ _ _ hw] at h3
      exact h3.now s3 rr
    | _ => exact h3.elim⟩⟩⟩
end
end DL
namespace DL
open PySem
open PySem.Spec
open PyProof.Rows
open L2
def KeepsL (c : Ctx) (W : WX) (r : List V → Hp → VK → Prop) (φ : List D → G → Out D) : Prop := ∀ (σ : L2.St) (ρ : RS) (g : G) (F H : Hp) (vs : List V) (ds : List D) (Q : VK), SR c F H σ ρ g → RepAll c F vs ds → PostG c σ (Rep c) (φ ds g) F H W Q → r vs H Q
def eCall (φ : List D → G → Out D) (fs : AF) : EF := fun ρ g => (fs ρ g).bind φ
section
variable {X : Cx} {c : Ctx} {W : WX} {pos p : Pos} {x : Str} {e : Expr} {es : List Expr} {fs : AF} {id T : String} {r : List V → Hp → VK → Prop} {φ : List D → G → Out D}
theorem d_callB (hc : CallR X (.builtin id) r) (hr : KeepsL c W r φ) (hg : Gl X x) (hm : X.mg x = none) (hv : bootBuiltins x = some (.builtin id)) (ha : DA X c W (e :: es) fs) (hn : x ≠ "__name__" := by decide) (hdb : (x == ("__debug__" : Str)) = false := by decide)
    (he : starEach (e :: es) X.env = (false, eval e X.env) :: starEach es X.env := by rfl) (hpl : (backTo pos (starEach es X.env)).any (·.1) = false := by rfl) : DE X c W (.Call (.Name x p) (e :: es) [] pos) (eCall φ fs) :=
  PE.imp (pe_callB hc hg hm hv ha hn hdb he hpl) fun σ H Q ⟨F, ρ, g, s, h⟩ => ⟨F, ρ, g, s, PostG.bind s h fun ds g1 vs F1 H1 e1 s1 r1 h1 => hr σ ρ g1 F1 H1 vs ds Q s1 r1 h1⟩
theorem d_callT (hc : CallR X (.type T) r) (hr : KeepsL c W r φ) (hg : Gl X x) (hm : X.mg x = none) (hv : bootBuiltins x = some (.type T)) (ha : DA X c W (e :: es) fs) (hn : x ≠ "__name__" := by decide) (hdb : (x == ("__debug__" : Str)) = false := by decide)
    (he : starEach (e :: es) X.env = (false, eval e X.env) :: starEach es X.env := by rfl) (hpl : (backTo pos (starEach es X.env)).any (·.1) = false := by rfl) : DE X c W (.Call (.Name x p) (e :: es) [] pos) (eCall φ fs) :=
  PE.imp (pe_callTy hc hg hm hv ha hn hdb he hpl) fun σ H Q ⟨F, ρ, g, s, h⟩ => ⟨F, ρ, g, s, PostG.bind s h fun ds g1 vs F1 H1 e1 s1 r1 h1 => hr σ ρ g1 F1 H1 vs ds Q s1 r1 h1⟩
end
theorem rep1 {c : Ctx} {F : Hp} {vs : List V} {d : D} (h : RepAll c F vs [d]) : ∃ v, vs = [v] ∧ Rep c F v d := by
  cases h with
  | cons h t => cases t; exact ⟨_, rfl, h⟩
theorem rep2 {c : Ctx} {F : Hp} {vs : List V} {d d' : D} (h : RepAll c F vs [d, d']) : ∃ v v', vs = [v, v'] ∧ Rep c F v d ∧ Rep c F v' d' := by
  cases h with
  | cons h t => cases t with
    | cons h' t => cases t; exact ⟨_, _, rfl, h, h'⟩
def asInts : List D → Option (List Int)
  | [] => some []
  | .int i :: r => (asInts r).map (i :: ·)
  | _ :: _ => none
def asBools : List D → Option (List Bool)
  | [] => some []
  | .bool i :: r => (asBools r).map (i :: ·)
  | _ :: _ => none
theorem asInts_map : ∀ ns : List Int, asInts (ns.map PyData.int) = some ns
  | [] => rfl
  | n :: ns => by rw [List.map_cons, asInts, asInts_map ns]; rfl
theorem asBools_map : ∀ ns : List Bool, asBools (ns.map PyData.bool) = some ns
  | [] => rfl
  | n :: ns => by rw [List.map_cons, asBools, asBools_map ns]; rfl
theorem asInts_of : ∀ {ds : List D} {ns : List Int}, asInts ds = some ns → ds = ns.map PyData.int
  | [], ns, h => by cases h; rfl
  | .int i :: r, ns, h => by
    rw [asInts] at h
    cases q : asInts r with
    | none => rw [q] at h; cases h
    | some m => rw [q] at h; cases h; rw [List.map_cons, asInts_of q]
  | .none :: _, _, h => by cases h
  | .bool _ :: _, _, h => by cases h
  | .str _ :: _, _, h => by cases h
  | .list _ :: _, _, h => by cases h
  | .tuple _ :: _, _, h => by cases h
  | .dict _ :: _, _, h => by cases h
theorem asBools_of : ∀ {ds : List D} {ns : List Bool}, asBools ds = some ns → ds = ns.map PyData.bool
  | [], ns, h => by cases h; rfl
  | .bool i :: r, ns, h => by
    rw [asBools] at h
    cases q : asBools r with
    | none => rw [q] at h; cases h
    | some m => rw [q] at h; cases h; rw [List.map_cons, asBools_of q]
  | .none :: _, _, h => by cases h
  | .int _ :: _, _, h => by cases h
  | .str _ :: _, _, h => by cases h
  | .list _ :: _, _, h => by cases h
  | .tuple _ :: _, _, h => by cases h
  | .dict _ :: _, _, h => by cases h
def bLen (ds : List D) (g : G) : Out D := match ds with
  | [.list xs] => .ok (.int xs.length) g
  | [.tuple xs] => .ok (.int xs.length) g
  | [.str z] => if z.length ≤ LIM then .ok (.int z.length) g else .bad
  | _ => .bad
def bAbs (ds : List D) (g : G) : Out D := match ds with
  | [.int i] => .ok (.int (if i < 0 then -i else i)) g
  | _ => .bad
def bInt (ds : List D) (g : G) : Out D := match ds with
  | [.int i] => .ok (.int i) g
  | [.bool k] => .ok (.int (if k then 1 else 0)) g
  | _ => .bad
def bSum (ds : List D) (g : G) : Out D := match ds with
  | [.list xs] => match asInts xs with
    | some ns => .ok (.int ns.sum) g
    | none => .bad
  | _ => .bad
def bAny (ds : List D) (g : G) : Out D := match ds with
  | [.list xs] => match asBools xs with
    | some ns => .ok (.bool (ns.any id)) g
    | none => .bad
  | _ => .bad
def bAll (ds : List D) (g : G) : Out D := match ds with
  | [.list xs] => match asBools xs with
    | some ns => .ok (.bool (ns.all id)) g
    | none => .bad
  | _ => .bad
def sortI (ns : List Int) : List Int := ns.mergeSort (fun a b => decide (a ≤ b))
def bSorted (ds : List D) (g : G) : Out D := match ds with
  | [.list xs] => match asInts xs with
    | some ns => .ok (.list ((sortI ns).map PyData.int)) g
    | none => .bad
  | _ => .bad
def bTuple (ds : List D) (g : G) : Out D := match ds with
  | [.list xs] => .ok (.tuple xs) g
  | [.tuple xs] => .ok (.tuple xs) g
  | _ => .bad
def bList (ds : List D) (g : G) : Out D := match ds with
  | [.list xs] => .ok (.list xs) g
  | [.tuple xs] => .ok (.list xs) g
  | _ => .bad
def bMax2 (ds : List D) (g : G) : Out D := match ds with
  | [.int i, .int j] => .ok (.int (if j > i then j else i)) g
  | _ => .bad
def bMin2 (ds : List D) (g : G) : Out D := match ds with
  | [.int i, .int j] => .ok (.int (if j < i then j else i)) g
  | _ => .bad
def maxL : Int → List Int → Int
  | m, [] => m
  | m, x :: r => maxL (if x > m then x else m) r
def minL : Int → List Int → Int
  | m, [] => m
  | m, x :: r => minL (if x < m then x else m) r
theorem maxL_spec : ∀ (r : List Int) (m : Int), (maxL m r = m ∨ maxL m r ∈ r) ∧ m ≤ maxL m r ∧ ∀ y ∈ r, y ≤ maxL m r
  | [], m => ⟨.inl rfl, Int.le_refl _, fun _ h => by cases h⟩
  | x :: r, m => by
    obtain ⟨h1, h2, h3⟩ := maxL_spec r (if x > m then x else m)
    have hm : m ≤ (if x > m then x else m) ∧ x ≤ (if x > m then x else m) := by split <;> omega
    refine ⟨?_, Int.le_trans hm.1 h2, fun y hy => ?_⟩
    · rcases h1 with h1 | h1
      · show maxL (if x > m then x else m) r = m ∨ maxL (if x > m then x else m) r ∈ x :: r
        rw [h1]
        split
        · exact .inr List.mem_cons_self
        · exact .inl rfl
      · exact .inr (List.mem_cons_of_mem _ h1)
    · rcases List.mem_cons.mp hy with rfl | hy
      · exact Int.le_trans hm.2 h2
      · exact h3 y hy
theorem minL_spec : ∀ (r : List Int) (m : Int), (minL m r = m ∨ minL m r ∈ r) ∧ minL m r ≤ m ∧ ∀ y ∈ r, minL m r ≤ y
  | [], m => ⟨.inl rfl, Int.le_refl _, fun _ h => by cases h⟩
  | x :: r, m => by
    obtain ⟨h1, h2, h3⟩ := minL_spec r (if x < m then x else m)
    have hm : (if x < m then x else m) ≤ m ∧ (if x < m then x else m) ≤ x := by split <;> omega
    refine ⟨?_, Int.le_trans h2 hm.1, fun y hy => ?_⟩
    · rcases h1 with h1 | h1
      · show minL (if x < m then x else m) r = m ∨ minL (if x < m then x else m) r ∈ x :: r
        rw [h1]
        split
        · exact .inr List.mem_cons_self
        · exact .inl rfl
      · exact .inr (List.mem_cons_of_mem _ h1)
    · rcases List.mem_cons.mp hy with rfl | hy
      · exact Int.le_trans h2 hm.2
      · exact h3 y hy
def bMax (ds : List D) (g : G) : Out D := match ds with
  | [.list xs] => match asInts xs with
    | some (n :: ns) => .ok (.int (maxL n ns)) g
    | _ => .bad
  | _ => .bad
def bMin (ds : List D) (g : G) : Out D := match ds with
  | [.list xs] => match asInts xs with
    | some (n :: ns) => .ok (.int (minL n ns)) g
    | _ => .bad
  | _ => .bad
section
variable {X : Cx} {c : Ctx} {W : WX}
theorem Rep.ints {c : Ctx} {F : Hp} {v : V} {ns : List Int} (h : Rep c F v (.list (ns.map PyData.int))) : ∃ a, v = .ref a ∧ F a = some (.lst (ns.map V.int)) := by
  obtain ⟨a, vs, rfl, h1, h2⟩ := h.list
  rw [h2.ints] at h1
  exact ⟨a, rfl, h1⟩
theorem Rep.bls {c : Ctx} {F : Hp} {v : V} {ns : List Bool} (h : Rep c F v (.list (ns.map PyData.bool))) : ∃ a, v = .ref a ∧ F a = some (.lst (ns.map V.bl)) := by
  obtain ⟨a, vs, rfl, h1, h2⟩ := h.list
  rw [h2.bls] at h1
  exact ⟨a, rfl, h1⟩
theorem kl_len : KeepsL c W (fun xs H Q => ∃ x n, xs = [x] ∧ LenV c.K x H n ∧ Q (.int n) H) bLen := by
  intro σ ρ g F H vs ds Q s r h
  unfold bLen at h
  split at h
  · obtain ⟨v, rfl, rv⟩ := rep1 r
    obtain ⟨a, vs, rfl, h1, h2⟩ := rv.list
    exact ⟨_, _, rfl, .inl ⟨vs, SqL.of (s.fh _ _ h1), h2.len.symm⟩, h.now s rInt⟩
  · obtain ⟨v, rfl, rv⟩ := rep1 r
    obtain ⟨a, vs, rfl, h1, h2⟩ := rv.tuple
    exact ⟨_, _, rfl, .inr ⟨vs, seqT_mono s.fh h1, h2.len.symm⟩, h.now s rInt⟩
  · obtain ⟨v, rfl, rv⟩ := rep1 r
    cases rv.str
    obtain ⟨hl, h⟩ := h.ite
    exact ⟨_, _, rfl, ⟨lim_ok hl, rfl⟩, h.now s rInt⟩
  · exact h.elim
theorem kl_abs : KeepsL c W (fun xs H Q => ∃ i, xs = [.int i] ∧ Q (.int (if i < 0 then -i else i)) H) bAbs := by
  intro σ ρ g F H vs ds Q s r h
  unfold bAbs at h
  split at h
  · obtain ⟨v, rfl, rv⟩ := rep1 r
    cases rv.int
    exact ⟨_, rfl, h.now s rInt⟩
  · exact h.elim
theorem kl_int : KeepsL c W (fun xs H Q => (∃ i, xs = [.int i] ∧ Q (.int i) H) ∨ ∃ k, xs = [.bl k] ∧ Q (.int (if k then 1 else 0)) H) bInt := by
  intro σ ρ g F H vs ds Q s r h
  unfold bInt at h
  split at h
  · obtain ⟨v, rfl, rv⟩ := rep1 r
    cases rv.int
    exact .inl ⟨_, rfl, h.now s rInt⟩
  · obtain ⟨v, rfl, rv⟩ := rep1 r
    cases rv.bl
    exact .inr ⟨_, rfl, h.now s rInt⟩
  · exact h.elim
theorem kl_sum : KeepsL c W (rSum c.K) bSum := by
  intro σ ρ g F H vs ds Q s r h
  unfold bSum at h
  split at h
  · split at h
    · rename_i ns hn
      obtain ⟨v, rfl, rv⟩ := rep1 r
      rw [asInts_of hn] at rv
      obtain ⟨a, rfl, h1⟩ := rv.ints
      exact ⟨a, ns, rfl, SqL.of (s.fh _ _ h1), h.now s rInt⟩
    · exact h.elim
  · exact h.elim
theorem kl_any : KeepsL c W (rAny c.K) bAny := by
  intro σ ρ g F H vs ds Q s r h
  unfold bAny at h
  split at h
  · split at h
    · rename_i ns hn
      obtain ⟨v, rfl, rv⟩ := rep1 r
      rw [asBools_of hn] at rv
      obtain ⟨a, rfl, h1⟩ := rv.bls
      exact ⟨a, ns, rfl, SqL.of (s.fh _ _ h1), h.now s rBl⟩
    · exact h.elim
  · exact h.elim
theorem kl_all : KeepsL c W (rAll c.K) bAll := by
  intro σ ρ g F H vs ds Q s r h
  unfold bAll at h
  split at h
  · split at h
    · rename_i ns hn
      obtain ⟨v, rfl, rv⟩ := rep1 r
      rw [asBools_of hn] at rv
      obtain ⟨a, rfl, h1⟩ := rv.bls
      exact ⟨a, ns, rfl, SqL.of (s.fh _ _ h1), h.now s rBl⟩
    · exact h.elim
  · exact h.elim
theorem sortI_perm (ns : List Int) : (sortI ns).Perm ns := List.mergeSort_perm _ _
theorem sortI_sorted (ns : List Int) : (sortI ns).Pairwise (· ≤ ·) := by
  have h := List.pairwise_mergeSort (le := fun a b : Int => decide (a ≤ b)) (fun a b c h1 h2 => by simp at *; omega) (fun a b => by simp; omega) ns
  exact h.imp fun h => by simpa using h
theorem sortI_uniq {ns ms : List Int} (h : ms.Perm ns) (o : ms.Pairwise (· ≤ ·)) : ms = sortI ns := PySem.W.ksm_same (h.trans (sortI_perm ns).symm) o (sortI_sorted ns)
theorem kl_sorted : KeepsL c W (rSortedI c.K) bSorted := by
  intro σ ρ g F H vs ds Q s r h
  unfold bSorted at h
  split at h
  · split at h
    · rename_i ns hn
      obtain ⟨v, rfl, rv⟩ := rep1 r
      rw [asInts_of hn] at rv
      obtain ⟨a, rfl, h1⟩ := rv.ints
      refine ⟨a, ns, rfl, SqL.of (s.fh _ _ h1), fun ns' p hp ho hn => ?_⟩
      rw [sortI_uniq hp ho]
      exact h.newList s hn (dpInts _)
    · exact h.elim
  · exact h.elim
theorem kl_tuple : KeepsL c W (fun xs H Q => ∃ p ys, xs = [.ref p] ∧ ((SqL c.K H p ys ∧ ∀ l, H l = none → Q (.ref l) (upd H l (.tup ys))) ∨ (SqT c.K H p ys ∧ Q (.ref p) H))) bTuple := by
  intro σ ρ g F H vs ds Q s r h
  unfold bTuple at h
  split at h
  · obtain ⟨v, rfl, rv⟩ := rep1 r
    obtain ⟨a, vs, rfl, h1, h2⟩ := rv.list
    exact ⟨a, vs, rfl, .inl ⟨SqL.of (s.fh _ _ h1), fun p n => h.newTup s n h2⟩⟩
  · obtain ⟨v, rfl, rv⟩ := rep1 r
    obtain ⟨a, vs, rfl, h1, h2⟩ := rv.tuple
    exact ⟨a, vs, rfl, .inr ⟨seqT_mono s.fh h1, h.now s rv⟩⟩
  · exact h.elim
theorem kl_list : KeepsL c W (fun xs H Q => ∃ p ys, xs = [.ref p] ∧ (SqL c.K H p ys ∨ SqT c.K H p ys) ∧ ∀ l, H l = none → Q (.ref l) (upd H l (.lst ys))) bList := by
  intro σ ρ g F H vs ds Q s r h
  unfold bList at h
  split at h
  · obtain ⟨v, rfl, rv⟩ := rep1 r
    obtain ⟨a, vs, rfl, h1, h2⟩ := rv.list
    exact ⟨a, vs, rfl, .inl (SqL.of (s.fh _ _ h1)), fun p n => h.newList s n h2⟩
  · obtain ⟨v, rfl, rv⟩ := rep1 r
    obtain ⟨a, vs, rfl, h1, h2⟩ := rv.tuple
    exact ⟨a, vs, rfl, .inr (seqT_mono s.fh h1), fun p n => h.newList s n h2⟩
  · exact h.elim
theorem kl_max2 : KeepsL c W (fun xs H Q => ∃ i j, xs = [.int i, .int j] ∧ Q (.int (if j > i then j else i)) H) bMax2 := by
  intro σ ρ g F H vs ds Q s r h
  unfold bMax2 at h
  split at h
  · obtain ⟨v, v', rfl, rv, rv'⟩ := rep2 r
    cases rv.int
    cases rv'.int
    exact ⟨_, _, rfl, h.now s rInt⟩
  · exact h.elim
theorem kl_min2 : KeepsL c W (fun xs H Q => ∃ i j, xs = [.int i, .int j] ∧ Q (.int (if j < i then j else i)) H) bMin2 := by
  intro σ ρ g F H vs ds Q s r h
  unfold bMin2 at h
  split at h
  · obtain ⟨v, v', rfl, rv, rv'⟩ := rep2 r
    cases rv.int
    cases rv'.int
    exact ⟨_, _, rfl, h.now s rInt⟩
  · exact h.elim
theorem kl_max : KeepsL c W (rMax c.K) bMax := by
  intro σ ρ g F H vs ds Q s r h
  unfold bMax at h
  split at h
  · split at h
    · rename_i n ns hn
      obtain ⟨v, rfl, rv⟩ := rep1 r
      rw [asInts_of hn] at rv
      obtain ⟨a, rfl, h1⟩ := rv.ints
      refine ⟨a, n :: ns, rfl, SqL.of (s.fh _ _ h1), Nat.succ_pos _, fun m hm hy => ?_⟩
      obtain ⟨k1, k2, k3⟩ := maxL_spec ns n
      have e : m = maxL n ns := by
        have t1 : maxL n ns ≤ m := by
          rcases k1 with k1 | k1
          · rw [k1]; exact hy _ List.mem_cons_self
          · exact hy _ (List.mem_cons_of_mem _ k1)
        have t2 : m ≤ maxL n ns := by
          rcases List.mem_cons.mp hm with rfl | hm
          · exact k2
          · exact k3 m hm
        omega
      rw [e]
      exact h.now s rInt
    · exact h.elim
  · exact h.elim
theorem kl_min : KeepsL c W (rMin c.K) bMin := by
  intro σ ρ g F H vs ds Q s r h
  unfold bMin at h
  split at h
  · split at h
    · rename_i n ns hn
      obtain ⟨v, rfl, rv⟩ := rep1 r
      rw [asInts_of hn] at rv
      obtain ⟨a, rfl, h1⟩ := rv.ints
      refine ⟨a, n :: ns, rfl, SqL.of (s.fh _ _ h1), Nat.succ_pos _, fun m hm hy => ?_⟩
      obtain ⟨k1, k2, k3⟩ := minL_spec ns n
      have e : m = minL n ns := by
        have t1 : m ≤ minL n ns := by
          rcases k1 with k1 | k1
          · rw [k1]; exact hy _ List.mem_cons_self
          · exact hy _ (List.mem_cons_of_mem _ k1)
        have t2 : minL n ns ≤ m := by
          rcases List.mem_cons.mp hm with rfl | hm
          · exact k2
          · exact k3 m hm
        omega
      rw [e]
      exact h.now s rInt
    · exact h.elim
  · exact h.elim
end
def CPost (c : Ctx) (F H : Hp) (o : Out D) (Q : VK) (E : XK) : Prop := match o with
  | .ok d g => ∀ v F' H', Ext c.sa c.sb F H F' H' → GOk c F' H' g → Rep c F' v d → Q v H'
  | .exc n fs g => ∀ C dx vs F' H', Ext c.sa c.sb F H F' H' → GOk c F' H' g → c.cl n = some C → H' dx = some (.xd vs) → FldR c F' vs fs → E (.ref C) (some dx) H'
  | .bad => False
def spD (K : PySem.W.Frag) (cl : Str → Option Addr) (m : List D → G → Out D) : Sp := fun vs H Q E => ∃ (sa sb : Addr) (F : Hp) (ds : List D) (g : G), Same F H ∧ GOk (mkC K cl sa sb F H) F H g ∧ RepAll (mkC K cl sa sb F H) F vs ds ∧ CPost (mkC K cl sa sb F H) F H (m ds g) Q E
abbrev FnD (P : Program) (w : World) (K : PySem.W.Frag) (mg : Str → Option Value) (base : Heap) (cl : Str → Option Addr) (k : Nat) (f : Addr) (fd : FuncData) (ps : List Str) (m : List D → G → Out D) : Prop := FnOk P w K mg base (L2.CX P w) k f fd ps (spD K cl m)
theorem RepAll.conv {c c' : Ctx} {F : Hp} (h1 : c.K = c'.K) (h2 : c.sa = c'.sa) : ∀ {vs : List V} {ds : List D}, RepAll c F vs ds → RepAll c' F vs ds
  | _, _, .nil => .nil
  | _, _, .cons h t => .cons (by unfold Rep at h ⊢; rw [← h1, ← h2]; exact h) (RepAll.conv h1 h2 t)
theorem GOk.conv {c c' : Ctx} {F H : Hp} {g : G} (h1 : c.sa = c'.sa) (h2 : c.sb = c'.sb) (k : GOk c F H g) : GOk c' F H g :=
  ⟨by rw [← h1, ← h2]; exact k.ne, by rw [← h1, ← h2]; exact k.ha, by rw [← h2]; exact k.hb, by rw [← h1]; exact k.fa, by rw [← h2]; exact k.fb, k.wf⟩
section
variable {X : Cx} {c : Ctx} {W : WX} {pos p : Pos} {x : Str} {e : Expr} {es : List Expr} {fs : AF}
theorem sp_of {m : List D → G → Out D} {ds : List D} {vs : List V} {g : G} {F H : Hp} {σ : L2.St} {ρ : RS} {Q : VK} (s : SR c F H σ ρ g) (r : RepAll c F vs ds) (h : PostG c σ (Rep c) (m ds g) F H W Q) : spD c.K c.cl m vs H Q (WE W σ) := by
  refine ⟨c.sa, c.sb, F, ds, g, s.fh, GOk.conv (c := c) (c' := (mkC c.K c.cl c.sa c.sb F H)) rfl rfl s.gok, RepAll.conv (c := c) (c' := (mkC c.K c.cl c.sa c.sb F H)) rfl rfl r, ?_⟩
  unfold CPost
  unfold PostG at h
  cases hm : m ds g with
  | ok d g' => rw [hm] at h; exact fun v F' H' e1 gk rr => h v F' H' e1 (GOk.conv (c := (mkC c.K c.cl c.sa c.sb F H)) (c' := c) rfl rfl gk) rr
  | exc n fs g' => rw [hm] at h; exact fun C dx vs F' H' e1 gk hc hd hf => h C dx vs F' H' e1 (GOk.conv (c := (mkC c.K c.cl c.sa c.sb F H)) (c' := c) rfl rfl gk) hc hd hf
  | bad => rw [hm] at h; exact h
theorem d_call {k : Nat} {f : Addr} {fd : FuncData} {ps : List Str} {m : List D → G → Out D} (hK : c.K = X.K) (Fn : FnD X.prog X.w X.K X.mg X.base c.cl k f fd ps m) (hr : Room k X.A) (hg : Gl X x) (hm : X.mg x = some (.ref f)) (hk : PySem.W.keepIn X.K (.ref f) = true) (hb : Binds X.K fd ps []) (tk : Takes X W) (ha : DA X c W (e :: es) fs)
    (hdb : (x == ("__debug__" : Str)) = false := by decide) (he : starEach (e :: es) X.env = (false, eval e X.env) :: starEach es X.env := by rfl) (hpl : (backTo pos (starEach es X.env)).any (·.1) = false := by rfl) :
    DE X c W (.Call (.Name x p) (e :: es) [] pos) (eCall m fs) :=
  PE.imp (pe_callS Fn hr hg hm hk hb (fun σ => passAt tk σ) ha hdb he hpl) fun σ H Q ⟨F, ρ, g, s, h⟩ => ⟨F, ρ, g, s, PostG.bind s h fun ds g1 vs F1 H1 e1 s1 r1 h1 => by rw [← hK]; exact sp_of s1 r1 h1⟩
end
abbrev LF := RS → G → Out (List D)
def IterR (c : Ctx) (F : Hp) (J : It) (ds : List D) : Prop := ∀ (i : Nat) (H : Hp), Same F H →
  (∀ d, ds[i]? = some d → J.go i H ∧ ∀ x H', J.yld i H x H' → H' = H ∧ Rep c F x d) ∧ (ds.length ≤ i → J.stop i H)
def tI (c : Ctx) (W : WX) (f : LF) : TI := fun σ H R => ∃ F ρ g, SR c F H σ ρ g ∧ PostG c σ (IterR c) (f ρ g) F H W R
abbrev DI (X : Cx) (c : Ctx) (W : WX) (tg e : Expr) (f : LF) : Prop := PI X tg e (tI c W f)
theorem PI.imp {X : Cx} {tg e : Expr} {t t' : TI} (h : PI X tg e t) (q : ∀ σ H Q, t' σ H Q → t σ H Q) : PI X tg e t' := ⟨fun pins s σ H Q I w => h.run pins s σ H Q I (q σ H Q w)⟩
def iLst (fe : EF) : LF := fun ρ g => (fe ρ g).bind fun x g1 => match x with
  | .list xs => .ok xs g1
  | _ => .bad
def iTpl (fe : EF) : LF := fun ρ g => (fe ρ g).bind fun x g1 => match x with
  | .tuple xs => .ok xs g1
  | _ => .bad
def upTo (lo : Int) (n : Nat) : List D := (List.range n).map fun (i : Nat) => PyData.int (lo + (i : Int))
def iRan1 (fs : AF) : LF := fun ρ g => (fs ρ g).bind fun xs g1 => match xs with
  | [.int j] => if -(2 ^ 62) ≤ j ∧ j < 2 ^ 62 then .ok (upTo 0 j.toNat) g1 else .bad
  | _ => .bad
def iRan2 (fs : AF) : LF := fun ρ g => (fs ρ g).bind fun xs g1 => match xs with
  | [.int i, .int j] => if -(2 ^ 62) ≤ i ∧ i < 2 ^ 62 ∧ -(2 ^ 62) ≤ j ∧ j < 2 ^ 62 then .ok (upTo i (j - i).toNat) g1 else .bad
  | _ => .bad
section
variable {X : Cx} {c : Ctx} {W : WX} {pos p : Pos} {tg e : Expr} {es : List Expr} {fs : AF} {fe : EF}
theorem iter_l {F : Hp} {a : Addr} {vs : List V} {ds : List D} (h1 : F a = some (.lst vs)) (h2 : RqAll c.K F vs ds) : IterR c F (Itl c.K a) ds := fun i H sm => by
  have hs : SqL c.K H a vs := SqL.of (sm _ _ h1)
  refine ⟨fun d hd => ?_, fun hl => ⟨vs, hs, by rw [h2.len]; exact hl⟩⟩
  obtain ⟨v, hv, rv⟩ := h2.get hd
  refine ⟨⟨vs, v, hs, hv⟩, fun x H' y => ⟨y.1, ?_⟩⟩
  have := y.2 vs hs
  rw [hv] at this
  cases this
  exact .inl rv
theorem iter_t {F : Hp} {a : Addr} {vs : List V} {ds : List D} (h1 : SqT c.K F a vs) (h2 : RqAll c.K F vs ds) : IterR c F (Itt c.K a) ds := fun i H sm => by
  have hs : SqT c.K H a vs := seqT_mono sm h1
  refine ⟨fun d hd => ?_, fun hl => ⟨vs, hs, by rw [h2.len]; exact hl⟩⟩
  obtain ⟨v, hv, rv⟩ := h2.get hd
  refine ⟨⟨vs, v, hs, hv⟩, fun x H' y => ⟨y.1, ?_⟩⟩
  have := y.2 vs hs
  rw [hv] at this
  cases this
  exact .inl rv
theorem upTo_get {lo : Int} {n i : Nat} {d : D} (h : (upTo lo n)[i]? = some d) : i < n ∧ d = .int (lo + (i : Int)) := by
  unfold upTo at h
  rw [List.getElem?_map] at h
  by_cases hi : i < n
  · rw [List.getElem?_range hi] at h
    cases h
    exact ⟨hi, rfl⟩
  · rw [List.getElem?_eq_none (by simpa using hi)] at h
    cases h
theorem upTo_length {lo : Int} {n : Nat} : (upTo lo n).length = n := by unfold upTo; simp
theorem iter_r {F : Hp} {lo : Int} {n : Nat} : IterR c F (Itr lo n) (upTo lo n) := fun i H sm => by
  refine ⟨fun d hd => ?_, fun hl => by rw [upTo_length] at hl; exact hl⟩
  obtain ⟨h1, rfl⟩ := upTo_get hd
  exact ⟨h1, fun x H' y => ⟨y.1, by rw [y.2]; exact rInt⟩⟩
theorem di_list (hK : c.K = X.K) (ha : DE X c W e fe) : DI X c W tg e (iLst fe) := PI.imp (pi_list ha) fun σ H R ⟨F, ρ, g, s, h⟩ => ⟨F, ρ, g, s, PostG.bind s h fun x g1 v F1 H1 e1 s1 r1 h1 => by
  cases x with
  | list xs =>
    obtain ⟨a, vs, rfl, q1, q2⟩ := r1.list
    rw [← hK]
    exact ⟨a, rfl, ⟨vs, SqL.of (s1.fh _ _ q1)⟩, h1.now s1 (iter_l q1 q2)⟩
  | _ => exact h1.elim⟩
theorem di_tup (hK : c.K = X.K) (ha : DE X c W e fe) : DI X c W tg e (iTpl fe) := PI.imp (pi_tup ha) fun σ H R ⟨F, ρ, g, s, h⟩ => ⟨F, ρ, g, s, PostG.bind s h fun x g1 v F1 H1 e1 s1 r1 h1 => by
  cases x with
  | tuple xs =>
    obtain ⟨a, vs, rfl, q1, q2⟩ := r1.tuple
    rw [← hK]
    exact ⟨a, rfl, ⟨vs, seqT_mono s1.fh q1⟩, h1.now s1 (iter_t q1 q2)⟩
  | _ => exact h1.elim⟩
theorem di_ran1 {a : Expr} (hg : Gl X "range") (hm : X.mg "range" = none) (ha : DA X c W [a] fs) (hs : starEach [a] X.env = [(false, eval a X.env)] := by rfl) : DI X c W tg (.Call (.Name "range" p) [a] [] pos) (iRan1 fs) :=
  PI.imp (pi_range1 hg hm ha hs) fun σ H R ⟨F, ρ, g, s, h⟩ => ⟨F, ρ, g, s, PostG.bind s h fun xs g1 vs F1 H1 e1 s1 r1 h1 => by
    split at h1
    · obtain ⟨v, rfl, rv⟩ := rep1 r1
      cases rv.int
      obtain ⟨⟨k1, k2⟩, h1⟩ := h1.ite
      exact ⟨_, rfl, k1, k2, h1.now s1 iter_r⟩
    · exact h1.elim⟩
theorem di_ran2 {a b : Expr} (hg : Gl X "range") (hm : X.mg "range" = none) (ha : DA X c W [a, b] fs) (hs : starEach [a, b] X.env = [(false, eval a X.env), (false, eval b X.env)] := by rfl) (hs2 : starEach [b] X.env = [(false, eval b X.env)] := by rfl) : DI X c W tg (.Call (.Name "range" p) [a, b] [] pos) (iRan2 fs) :=
  PI.imp (pi_range2 hg hm ha hs hs2) fun σ H R ⟨F, ρ, g, s, h⟩ => ⟨F, ρ, g, s, PostG.bind s h fun xs g1 vs F1 H1 e1 s1 r1 h1 => by
    split at h1
    · obtain ⟨v, v', rfl, rv, rv'⟩ := rep2 r1
      cases rv.int
      cases rv'.int
      obtain ⟨k1, h1⟩ := h1.ite
      exact ⟨_, _, rfl, k1, h1.now s1 iter_r⟩
    · exact h1.elim⟩
end
end DL
namespace DL
open PySem
open PySem.Spec
open PyProof.Rows
open L2
section
variable {c : Ctx} {F H : Hp} {σ : L2.St} {ρ : RS} {g : G}
theorem SR.setD (s : SR c F H σ ρ g) {v : V} {x : D} (r : Rep c F v x) (i : Nat) : SR c F H (σ.set i (some v)) (ρ.set i (.d x)) g where
  ext := s.ext
  gok := s.gok
  g0 := s.g0
  len := by rw [List.length_set, List.length_set, s.len]
  slots := fun j y h => by
    by_cases hj : i = j
    · subst hj
      by_cases hi : i < ρ.length
      · rw [List.getElem?_set_self hi] at h
        cases h
        rw [List.getElem?_set_self (by rw [s.len]; exact hi)]
        exact ⟨v, rfl, r⟩
      · rw [List.getElem?_eq_none (by rw [List.length_set]; omega)] at h
        cases h
    · rw [List.getElem?_set_ne hj] at h ⊢
      exact s.slots j y h
  sep := fun j k xs ys a h1 h2 h3 h4 => by
    have n1 : i ≠ j := fun e => by
      subst e
      by_cases hi : i < ρ.length
      · rw [List.getElem?_set_self hi] at h1; cases h1
      · rw [List.getElem?_eq_none (by rw [List.length_set]; omega)] at h1; cases h1
    have n2 : i ≠ k := fun e => by
      subst e
      by_cases hi : i < ρ.length
      · rw [List.getElem?_set_self hi] at h2; cases h2
      · rw [List.getElem?_eq_none (by rw [List.length_set]; omega)] at h2; cases h2
    rw [List.getElem?_set_ne n1] at h1 h3
    rw [List.getElem?_set_ne n2] at h2 h4
    exact s.sep j k xs ys a h1 h2 h3 h4
theorem SR.unset (s : SR c F H σ ρ g) (o : Option V) (i : Nat) : SR c F H (σ.set i o) (ρ.set i .un) g where
  ext := s.ext
  gok := s.gok
  g0 := s.g0
  len := by rw [List.length_set, List.length_set, s.len]
  slots := fun j y h => by
    by_cases hj : i = j
    · subst hj
      by_cases hi : i < ρ.length
      · rw [List.getElem?_set_self hi] at h
        cases h
        trivial
      · rw [List.getElem?_eq_none (by rw [List.length_set]; omega)] at h
        cases h
    · rw [List.getElem?_set_ne hj] at h ⊢
      exact s.slots j y h
  sep := fun j k xs ys a h1 h2 h3 h4 => by
    have n1 : i ≠ j := fun e => by
      subst e
      by_cases hi : i < ρ.length
      · rw [List.getElem?_set_self hi] at h1; cases h1
      · rw [List.getElem?_eq_none (by rw [List.length_set]; omega)] at h1; cases h1
    have n2 : i ≠ k := fun e => by
      subst e
      by_cases hi : i < ρ.length
      · rw [List.getElem?_set_self hi] at h2; cases h2
      · rw [List.getElem?_eq_none (by rw [List.length_set]; omega)] at h2; cases h2
    rw [List.getElem?_set_ne n1] at h1 h3
    rw [List.getElem?_set_ne n2] at h2 h4
    exact s.sep j k xs ys a h1 h2 h3 h4
theorem SR.own (s : SR c F H σ ρ g) {i : Nat} {xs : List D} (h : ρ[i]? = some (.own xs)) : ∃ a vs, σ[i]? = some (some (.ref a)) ∧ H a = some (.lst vs) ∧ RqAll c.K F vs xs ∧ F a = none ∧ c.H0 a = none := s.slots i _ h
theorem SR.setO (s : SR c F H σ ρ g) {p : Addr} {vs : List V} {xs : List D} (h1 : H p = some (.lst vs)) (h2 : F p = none) (h3 : c.H0 p = none) (h4 : RqAll c.K F vs xs) (h5 : ∀ (j : Nat) (ys : List D), ρ[j]? = some (.own ys) → σ[j]? ≠ some (some (.ref p))) (i : Nat) : SR c F H (σ.set i (some (.ref p))) (ρ.set i (.own xs)) g where
  ext := s.ext
  gok := s.gok
  g0 := s.g0
  len := by rw [List.length_set, List.length_set, s.len]
  slots := fun j y h => by
    by_cases hj : i = j
    · subst hj
      by_cases hi : i < ρ.length
      · rw [List.getElem?_set_self hi] at h
        cases h
        rw [List.getElem?_set_self (by rw [s.len]; exact hi)]
        exact ⟨p, vs, rfl, h1, h4, h2, h3⟩
      · rw [List.getElem?_eq_none (by rw [List.length_set]; omega)] at h
        cases h
    · rw [List.getElem?_set_ne hj] at h ⊢
      exact s.slots j y h
  sep := fun j k xs' ys a k1 k2 k3 k4 => by
    by_cases hj : i = j
    · by_cases hk : i = k
      · omega
      · subst hj
        rw [List.getElem?_set_ne hk] at k2 k4
        by_cases hi : i < σ.length
        · rw [List.getElem?_set_self hi] at k3
          cases k3
          exact absurd k4 (h5 k ys k2)
        · rw [List.getElem?_eq_none (by rw [List.length_set]; omega)] at k3
          cases k3
    · rw [List.getElem?_set_ne hj] at k1 k3
      by_cases hk : i = k
      · subst hk
        by_cases hi : i < σ.length
        · rw [List.getElem?_set_self hi] at k4
          cases k4
          exact absurd k3 (h5 j xs' k1)
        · rw [List.getElem?_eq_none (by rw [List.length_set]; omega)] at k4
          cases k4
      · rw [List.getElem?_set_ne hk] at k2 k4
        exact s.sep j k xs' ys a k1 k2 k3 k4
theorem SR.updO (s : SR c F H σ ρ g) {i : Nat} {a : Addr} {xs xs' : List D} {vs vs' : List V} (h : ρ[i]? = some (.own xs)) (e : σ[i]? = some (some (.ref a))) (h1 : H a = some (.lst vs)) (h2 : F a = none) (h3 : c.H0 a = none) (h4 : RqAll c.K F vs' xs') : SR c F (upd H a (.lst vs')) σ (ρ.set i (.own xs')) g where
  ext := {
    f := s.ext.f
    fh := fun p o q => by
      rw [upd_ne (ne_of_none q h2)]
      exact s.ext.fh p o q
    keep := fun p o q n m => by
      rw [upd_ne (ne_of_none q h3)]
      exact s.ext.keep p o q n m
    dom := fun p o q => by
      rw [upd_ne (ne_of_none q h3)]
      exact s.ext.dom p o q
    ff := s.ext.ff }
  gok := by
    obtain ⟨n1, n2⟩ := s.ownNe h3
    exact s.gok.ext rfl rfl (upd_ne n1.symm) (upd_ne n2.symm)
  g0 := s.g0
  len := by rw [List.length_set, s.len]
  slots := fun j y k => by
    by_cases hj : i = j
    · subst hj
      have hi : i < ρ.length := (List.getElem?_eq_some_iff.mp h).1
      rw [List.getElem?_set_self hi] at k
      cases k
      exact ⟨a, vs', e, upd_same, h4, h2, h3⟩
    · rw [List.getElem?_set_ne hj] at k
      have q := s.slots j y k
      cases y with
      | un => trivial
      | d x => exact q
      | own ys =>
        obtain ⟨b, ws, q1, q2, q3, q4, q5⟩ := q
        refine ⟨b, ws, q1, ?_, q3, q4, q5⟩
        rw [upd_ne fun z => hj (s.sep i j xs ys a h k e (by rw [← z]; exact q1))]
        exact q2
      | ex fs =>
        obtain ⟨ws, q1, q2, q3⟩ := q
        refine ⟨ws, q1, ?_, q3⟩
        rw [upd_ne fun z => by rw [z, h1] at q2; cases q2]
        exact q2
  sep := fun j k xs1 ys b k1 k2 k3 k4 => by
    have up : ∀ {m : Nat} {zs : List D}, (ρ.set i (.own xs'))[m]? = some (.own zs) → ∃ zs', ρ[m]? = some (.own zs') := fun {m zs} q => by
      by_cases hm : i = m
      · subst hm; exact ⟨xs, h⟩
      · rw [List.getElem?_set_ne hm] at q; exact ⟨zs, q⟩
    obtain ⟨z1, k1⟩ := up k1
    obtain ⟨z2, k2⟩ := up k2
    exact s.sep j k z1 z2 b k1 k2 k3 k4
theorem SR.freeze (s : SR c F H σ ρ g) {i : Nat} {a : Addr} {xs : List D} {vs : List V} (h : ρ[i]? = some (.own xs)) (e : σ[i]? = some (some (.ref a))) (h1 : H a = some (.lst vs)) (h2 : F a = none) (h3 : c.H0 a = none) (h4 : RqAll c.K F vs xs) : SR c (upd F a (.lst vs)) H σ (ρ.set i (.d (.list xs))) g := by
  have sm : Same F (upd F a (.lst vs)) := fun b o q => by rw [upd_ne (ne_of_none q h2)]; exact q
  obtain ⟨n1, n2⟩ := s.ownNe h3
  refine { ext := ?_, gok := s.gok.ext (upd_ne n1.symm) (upd_ne n2.symm) rfl rfl, g0 := s.g0, len := by rw [List.length_set, s.len], slots := fun j y k => ?_, sep := fun j k xs1 ys b k1 k2 k3 k4 => ?_ }
  · refine ⟨s.ext.f.trans sm, fun b o q => ?_, s.ext.keep, s.ext.dom, fun b o q => ?_⟩
    · by_cases hb : b = a
      · subst hb; rw [upd_same] at q; cases q; exact h1
      · rw [upd_ne hb] at q; exact s.ext.fh b o q
    · rw [upd_ne (ne_of_none q h3)]; exact s.ext.ff b o q
  · by_cases hj : i = j
    · subst hj
      have hi : i < ρ.length := (List.getElem?_eq_some_iff.mp h).1
      rw [List.getElem?_set_self hi] at k
      cases k
      exact ⟨.ref a, e, .inl (.lst upd_same (RqAll_mono sm _ _ h4))⟩
    · rw [List.getElem?_set_ne hj] at k
      have q := s.slots j y k
      cases y with
      | un => trivial
      | d x =>
        obtain ⟨v, q1, q2⟩ := q
        exact ⟨v, q1, q2.mono sm⟩
      | own ys =>
        obtain ⟨b, ws, q1, q2, q3, q4, q5⟩ := q
        refine ⟨b, ws, q1, q2, RqAll_mono sm _ _ q3, ?_, q5⟩
        rw [upd_ne fun z => hj (s.sep i j xs ys a h k e (by rw [← z]; exact q1))]
        exact q4
      | ex fs =>
        obtain ⟨ws, q1, q2, q3⟩ := q
        exact ⟨ws, q1, q2, q3.mono sm⟩
  · have up : ∀ {m : Nat} {zs : List D}, (ρ.set i (.d (.list xs)))[m]? = some (.own zs) → ρ[m]? = some (.own zs) := fun {m zs} q => by
      by_cases hm : i = m
      · subst hm
        have hi : i < ρ.length := (List.getElem?_eq_some_iff.mp h).1
        rw [List.getElem?_set_self hi] at q
        cases q
      · rw [List.getElem?_set_ne hm] at q; exact q
    exact s.sep j k xs1 ys b (up k1) (up k2) k3 k4
end
def wipeR (ρ : RS) : List Nat → RS
  | [] => ρ
  | v :: vs => (wipeR ρ vs).set v .un
theorem SR.wipe {c : Ctx} {F H : Hp} {σ : L2.St} {ρ : RS} {g : G} (s : SR c F H σ ρ g) : ∀ vs : List Nat, SR c F H (L2.wipe σ vs) (wipeR ρ vs) g
  | [] => s
  | v :: vs => (SR.wipe s vs).unset none v
abbrev BF := D → RS → Option RS
def But (is : List Nat) (σ σ' : L2.St) : Prop := σ'.length = σ.length ∧ ∀ j : Nat, j ∉ is → σ'[j]? = σ[j]?
theorem But.refl {is : List Nat} {σ : L2.St} : But is σ σ := ⟨rfl, fun _ _ => rfl⟩
theorem But.trans {is js : List Nat} {σ σ1 σ2 : L2.St} (a : But is σ σ1) (b : But js σ1 σ2) : But (is ++ js) σ σ2 := ⟨b.1.trans a.1, fun j h => (b.2 j fun z => h (List.mem_append_right _ z)).trans (a.2 j fun z => h (List.mem_append_left _ z))⟩
def tG (c : Ctx) (is : List Nat) (b : BF) : TG := fun v σ H Q => ∃ F ρ g x ρ', SR c F H σ ρ g ∧ Rep c F v x ∧ b x ρ = some ρ' ∧ ∀ σ', SR c F H σ' ρ' g → But is σ σ' → Q σ' H
def tGs (c : Ctx) (is : List Nat) (b : List D → RS → Option RS) : TGs := fun vs σ H Q => ∃ F ρ g xs ρ', SR c F H σ ρ g ∧ RqAll c.K F vs xs ∧ b xs ρ = some ρ' ∧ ∀ σ', SR c F H σ' ρ' g → But is σ σ' → Q σ' H
abbrev DG (X : Cx) (c : Ctx) (is : List Nat) (e : Expr) (b : BF) : Prop := PG X e (tG c is b)
abbrev DGs (X : Cx) (c : Ctx) (is : List Nat) (es : List Expr) (b : List D → RS → Option RS) : Prop := PGs X es (tGs c is b)
theorem PG.imp {X : Cx} {e : Expr} {t t' : TG} (h : PG X e t) (q : ∀ v σ H Q, t' v σ H Q → t v σ H Q) : PG X e t' := ⟨fun pins s σ H v u Q I r w => h.run pins s σ H v u Q I r (q v σ H Q w)⟩
theorem PGs.imp {X : Cx} {e : List Expr} {t t' : TGs} (h : PGs X e t) (q : ∀ v σ H Q, t' v σ H Q → t v σ H Q) : PGs X e t' := ⟨fun pins s σ H v u Q I r w => h.run pins s σ H v u Q I r (q v σ H Q w)⟩
def bName (i : Nat) : BF := fun x ρ => some (ρ.set i (.d x))
def bNil : List D → RS → Option RS := fun xs ρ => match xs with
  | [] => some ρ
  | _ => none
def bCons (b : BF) (bs : List D → RS → Option RS) : List D → RS → Option RS := fun xs ρ => match xs with
  | x :: r => (b x ρ).bind fun ρ1 => bs r ρ1
  | [] => none
def bTup (n : Nat) (bs : List D → RS → Option RS) : BF := fun x ρ => match x with
  | .tuple xs => if xs.length = n then bs xs ρ else none
  | _ => none
section
variable {X : Cx} {c : Ctx} {pos : Pos}
theorem dg_name {i : Nat} {x : Str} (h : PG X (.Name x pos) (gName i)) : DG X c [i] (.Name x pos) (bName i) := PG.imp h fun v σ H Q ⟨F, ρ, g, x, ρ', s, r, e, q⟩ => by
  cases e
  exact q _ (s.setD r i) ⟨by rw [List.length_set], fun j hj => by rw [List.getElem?_set_ne (fun z => hj (by rw [z]; exact List.mem_singleton.mpr rfl))]⟩
theorem dgs_nil : DGs X c [] [] bNil := PGs.imp pgs_nil fun v σ H Q ⟨F, ρ, g, xs, ρ', s, r, e, q⟩ => by
  cases xs with
  | cons _ _ => cases e
  | nil =>
    cases e
    cases r
    exact ⟨rfl, q _ s But.refl⟩
theorem dgs_cons {e : Expr} {es : List Expr} {b : BF} {bs : List D → RS → Option RS} {is js : List Nat} (h1 : DG X c is e b) (h2 : DGs X c js es bs) (hs : (assignEach (e :: es) X.env).map (·.2) = assign e X.env :: (assignEach es X.env).map (·.2) := by rfl) : DGs X c (is ++ js) (e :: es) (bCons b bs) :=
  PGs.imp (pgs_cons h1 h2 hs) fun v σ H Q ⟨F, ρ, g, xs, ρ', s, r, e, q⟩ => by
    cases xs with
    | nil => cases e
    | cons x xs =>
      cases r with
      | cons h t =>
        cases q1 : b x ρ with
        | none => simp only [bCons, q1] at e; cases e
        | some ρ1 =>
          simp only [bCons, q1] at e
          exact ⟨_, _, rfl, F, ρ, g, x, ρ1, s, .inl h, q1, fun σ1 s1 b1 => ⟨F, ρ1, g, xs, ρ', s1, t, e, fun σ2 s2 b2 => q σ2 s2 (b1.trans b2)⟩⟩
theorem dg_tup {es : List Expr} {k n : Nat} {bs : List D → RS → Option RS} (hK : c.K = X.K) (hc : X.calm = true) {is : List Nat} (h : DGs X c is es bs) (hn : (assignEach es X.env).length = n := by rfl) (hst : (assignEach es X.env).findIdx? (·.1) = none := by rfl) : DG X c is (.Tuple es k pos) (bTup n bs) :=
  PG.imp (pg_tup hc h hn hst) fun v σ H Q ⟨F, ρ, g, x, ρ', s, r, e, q⟩ => by
    cases x with
    | tuple xs =>
      obtain ⟨a, vs, rfl, h1, h2⟩ := r.tuple
      simp only [bTup] at e
      split at e
      · rename_i hl
        exact ⟨a, vs, rfl, by rw [← hK]; exact seqT_mono s.fh h1, by rw [h2.len]; exact hl, F, ρ, g, xs, ρ', s, h2, e, q⟩
      · cases e
    | _ => cases e
end
def PostO (c : Ctx) (σ : L2.St) (o : Out (List D)) (F H : Hp) (W : WX) (Q : VK) : Prop :=
  match o with
  | .ok ds g => ∀ p vs F' H', Ext c.sa c.sb F H F' H' → GOk c F' H' g → H' p = some (.lst vs) → F' p = none → H p = none → RqAll c.K F' vs ds → Q (.ref p) H'
  | .exc n fs g => ∀ C dx vs F' H', Ext c.sa c.sb F H F' H' → GOk c F' H' g → c.cl n = some C → H' dx = some (.xd vs) → FldR c F' vs fs → W (.ref C) (some dx) σ H'
  | .bad => False
abbrev OF' := RS → G → Out (List D)
def tEo (c : Ctx) (W : WX) (f : OF') : TE := fun σ H Q => ∃ F ρ g, SR c F H σ ρ g ∧ PostO c σ (f ρ g) F H W Q
abbrev DEo (X : Cx) (c : Ctx) (W : WX) (e : Expr) (f : OF') : Prop := PE X e (tEo c W f)
theorem PostO.up {c : Ctx} {σ : L2.St} {o : Out (List D)} {F H F' H' : Hp} {W : WX} {Q : VK} (h : PostO c σ o F H W Q) (e : Ext c.sa c.sb F H F' H') : PostO c σ o F' H' W Q := by
  cases o with
  | ok a g => exact fun p vs F1 H1 s k h1 h2 h3 => h p vs F1 H1 (e.trans s) k h1 h2 (by
      cases q : H p with
      | none => rfl
      | some o =>
        obtain ⟨o', q'⟩ := e.dom p o q
        rw [h3] at q'
        cases q')
  | exc n fs g => exact fun C dx vs F1 H1 s => h C dx vs F1 H1 (e.trans s)
  | bad => exact h
theorem PostO.bind {α β : Type} {c : Ctx} {σ : L2.St} {ρ : RS} {g0 : G} {R : Hp → β → α → Prop} {o : Out α} {k : α → G → Out (List D)} {F H : Hp} {W : WX} {Q : β → Hp → Prop} {Q' : VK}
    (s0 : SR c F H σ ρ g0) (h : PostO c σ (o.bind k) F H W Q') (q : ∀ a g b F1 H1, Ext c.sa c.sb F H F1 H1 → SR c F1 H1 σ ρ g → R F1 b a → PostO c σ (k a g) F1 H1 W Q' → Q b H1) : PostG c σ R o F H W Q := by
  cases o with
  | ok a g => exact fun b F1 H1 e gk r => q a g b F1 H1 e (s0.ext' e gk) r (PostO.up (show PostO c σ (k a g) F H W Q' from h) e)
  | exc n fs g => exact h
  | bad => exact h
theorem PostO.new {c : Ctx} {σ : L2.St} {ρ : RS} {g : G} {ds : List D} {F H : Hp} {W : WX} {Q : VK} (h : PostO c σ (.ok ds g) F H W Q) (s : SR c F H σ ρ g) {p : Addr} (n : H p = none) {vs : List V} (r : RqAll c.K F vs ds) : Q (.ref p) (upd H p (.lst vs)) :=
  h p vs F _ (Ext.newM s.fh n) (s.gok.newM n) upd_same (s.fnone n) n r
theorem PostO.ite {c : Ctx} {σ : L2.St} {p : Prop} [Decidable p] {o : Out (List D)} {F H : Hp} {W : WX} {Q : VK} (h : PostO c σ (if p then o else .bad) F H W Q) : p ∧ PostO c σ o F H W Q := by
  by_cases hp : p
  · rw [if_pos hp] at h; exact ⟨hp, h⟩
  · rw [if_neg hp] at h; exact h.elim
def eOf (f : OF') : EF := fun ρ g => (f ρ g).bind fun ds g1 => .ok (.list ds) g1
section
variable {X : Cx} {c : Ctx} {W : WX} {pos p : Pos} {a b e : Expr} {es : List Expr} {fs : AF} {fa fb fe : EF}
def oLst (fs : AF) : OF' := fun ρ g => (fs ρ g).bind fun xs g1 => if noTok xs = true ∧ xs.length ≤ LIM then .ok xs g1 else .bad
theorem o_lst (ha : DA X c W es fs) : DEo X c W (.List es pos) (oLst fs) :=
  PE.imp (pe_lst ha) fun σ H Q ⟨F, ρ, g, s, h⟩ => ⟨F, ρ, g, s, PostO.bind s h fun xs g1 vs F1 H1 e1 s1 r1 h1 => by
    obtain ⟨⟨h2, h3⟩, h1⟩ := h1.ite
    exact ⟨lim_ok (by rw [r1.length]; exact h3), fun p n => h1.new s1 n (r1.rq h2)⟩⟩
def oCat (fa fb : EF) : OF' := fun ρ g => (fa ρ g).bind fun x g1 => (fb ρ g1).bind fun y g2 => match x, y with
  | .list i, .list j => if i.length + j.length ≤ LIM then .ok (i ++ j) g2 else .bad
  | _, _ => .bad
theorem o_cat (ha : DE X c W a fa) (hb : DE X c W b fb) : DEo X c W (.BinOp a .Add b pos) (oCat fa fb) :=
  PE.imp (pe_op op_cat ha hb) fun σ H Q ⟨F, ρ, g, s, h⟩ => ⟨F, ρ, g, s, PostO.bind s h fun x g1 v F1 H1 e1 s1 r1 h1 => ⟨F1, ρ, g1, s1, PostO.bind s1 h1 fun y g2 u F2 H2 e2 s2 r2 h2 => by
    split at h2
    · obtain ⟨a, vs, rfl, q1, q2⟩ := (r1.mono e2.f).list
      obtain ⟨b, ws, rfl, q3, q4⟩ := r2.list
      obtain ⟨hl, h2⟩ := h2.ite
      exact ⟨a, b, vs, ws, rfl, rfl, s2.fh _ _ q1, s2.fh _ _ q3, lim_ok (by rw [q2.len, q4.len]; exact hl), fun p n => h2.new s2 n (q2.append q4)⟩
    · exact h2.elim⟩⟩
def oRep (fa fb : EF) : OF' := fun ρ g => (fa ρ g).bind fun x g1 => (fb ρ g1).bind fun y g2 => match x, y with
  | .list xs, .int k => if k ≤ LIM ∧ -(2 ^ 62) ≤ k ∧ xs.length * k.toNat ≤ LIM then .ok (List.replicate k.toNat xs).flatten g2 else .bad
  | _, _ => .bad
theorem o_rep (ha : DE X c W a fa) (hb : DE X c W b fb) : DEo X c W (.BinOp a .Mult b pos) (oRep fa fb) :=
  PE.imp (pe_op op_rep ha hb) fun σ H Q ⟨F, ρ, g, s, h⟩ => ⟨F, ρ, g, s, PostO.bind s h fun x g1 v F1 H1 e1 s1 r1 h1 => ⟨F1, ρ, g1, s1, PostO.bind s1 h1 fun y g2 u F2 H2 e2 s2 r2 h2 => by
    split at h2
    · obtain ⟨a, vs, rfl, q1, q2⟩ := (r1.mono e2.f).list
      cases r2.int
      obtain ⟨⟨hl1, hl2, hl3⟩, h2⟩ := h2.ite
      have hl1' : _ ≤ (1000000 : Int) := hl1
      exact ⟨a, _, vs, rfl, rfl, s2.fh _ _ q1, by omega, by omega, lim_ok (by rw [q2.len]; exact hl3), fun p n => h2.new s2 n (q2.rep _)⟩
    · exact h2.elim⟩⟩
def oSl (fa : EF) (fl fh : OF) : OF' := fun ρ g => (fa ρ g).bind fun x g1 => (fl ρ g1).bind fun lo g2 => (fh ρ g2).bind fun hi g3 => match x with
  | .list xs => .ok (cutD xs lo hi) g3
  | _ => .bad
theorem o_sl {lo hi : Option Expr} {fl fh : OF} {p2 : Pos} (ha : DE X c W a fa) (hl : DO X c W lo fl) (hh : DO X c W hi fh) : DEo X c W (.Subscript a (.Slice lo hi none p2) pos) (oSl fa fl fh) :=
  PE.imp (pe_slice sl_list ha hl hh) fun σ H Q ⟨F, ρ, g, s, h⟩ => ⟨F, ρ, g, s, PostO.bind s h fun x g1 v F1 H1 e1 s1 r1 h1 => ⟨F1, ρ, g1, s1, PostO.bind s1 h1 fun l g2 u F2 H2 e2 s2 r2 h2 => ⟨F2, ρ, g2, s2, PostO.bind s2 h2 fun hv g3 w F3 H3 e3 s3 r3 h3 => by
    cases r2
    cases r3
    cases x with
    | list xs =>
      obtain ⟨p, vs, rfl, q1, q2⟩ := ((r1.mono e2.f).mono e3.f).list
      exact ⟨p, vs, rfl, SqL.of (s3.fh _ _ q1), fun q n => h3.new s3 n (cut_rq q2 _ _)⟩
    | _ => exact h3.elim⟩⟩⟩
def oList (fs : AF) : OF' := fun ρ g => (fs ρ g).bind fun ds g1 => match ds with
  | [.list xs] => .ok xs g1
  | [.tuple xs] => .ok xs g1
  | _ => .bad
theorem o_list (hK : c.K = X.K) (hg : Gl X "list") (hm : X.mg "list" = none) (ha : DA X c W (e :: es) fs)
    (he : starEach (e :: es) X.env = (false, eval e X.env) :: starEach es X.env := by rfl) (hpl : (backTo pos (starEach es X.env)).any (·.1) = false := by rfl) : DEo X c W (.Call (.Name "list" p) (e :: es) [] pos) (oList fs) :=
  PE.imp (pe_callTy call_list_of hg hm (by decide +kernel) ha (by decide) (by decide) he hpl) fun σ H Q ⟨F, ρ, g, s, h⟩ => ⟨F, ρ, g, s, PostO.bind s h fun ds g1 vs F1 H1 e1 s1 r1 h1 => by
    split at h1
    · obtain ⟨v, rfl, rv⟩ := rep1 r1
      obtain ⟨a, vs, rfl, q1, q2⟩ := rv.list
      exact ⟨a, vs, rfl, .inl (SqL.of (s1.fh _ _ q1)), fun p n => h1.new s1 n q2⟩
    · obtain ⟨v, rfl, rv⟩ := rep1 r1
      obtain ⟨a, vs, rfl, q1, q2⟩ := rv.tuple
      exact ⟨a, vs, rfl, .inr (by rw [← hK]; exact seqT_mono s1.fh q1), fun p n => h1.new s1 n q2⟩
    · exact h1.elim⟩
end
abbrev W0 : WX := fun _ _ _ _ => False
def compF (b : BF) (ft : TF) (fe : EF) (ρ : RS) : List D → G → Out (List D)
  | [], g => .ok [] g
  | x :: xs, g => match b x ρ with
    | none => .bad
    | some ρ1 => match ft ρ1 g with
      | .ok true g1 => (match fe ρ1 g1 with
        | .ok d g2 => if noTok [d] = true then (compF b ft fe ρ xs g2).bind fun r g3 => .ok (d :: r) g3 else .bad
        | _ => .bad)
      | .ok false g1 => compF b ft fe ρ xs g1
      | _ => .bad
def oComp (vs : List Nat) (fi : LF) (b : BF) (ft : TF) (fe : EF) : OF' := fun ρ g => (fi ρ g).bind fun items g1 => if items.length ≤ LIM then compF b ft fe (wipeR ρ vs) items g1 else .bad
def tts (c : Ctx) (W : WX) (f : TF) : TT := tT c W f
def tYesF : TF := fun _ g => .ok true g
section
variable {X : Cx} {c : Ctx} {W : WX} {pos p : Pos} {tg iter elt e : Expr} {ifs : List Expr} {scope : Scope} {own : List (Str × Nat)} {fi : LF} {b : BF} {ft : TF} {fe : EF}
theorem dts_nil : PTs X [] (tT c W tYesF) := by
  have h := @pts_nil X
  exact ⟨fun pins s σ H Q I ⟨F, ρ, g, sr, q⟩ => h.run pins s σ H Q I (q.now sr rfl)⟩
theorem dts_one (h : DT X c W e ft) : PTs X [e] (tT c W ft) := pts_one h
theorem PostG.none {α β : Type} {c : Ctx} {σ : L2.St} {R : Hp → β → α → Prop} {o : Out α} {F H : Hp} {Q : β → Hp → Prop} (h : match o with | .ok a g => ∀ b F' H', Ext c.sa c.sb F H F' H' → GOk c F' H' g → R F' b a → Q b H' | _ => False) : PostG c σ R o F H W0 Q := by
  cases o with
  | ok a g => exact h
  | exc n fs g => exact h.elim
  | bad => exact h
structure Mid (c : Ctx) (F1 H1 F H : Hp) (g : G) (A : Addr) (acc : List D) (full : Out (List D)) (rest : Out (List D)) (va : List V) : Prop where
  ext : Ext c.sa c.sb F1 H1 F H
  gok : GOk c F H g
  ha : H A = some (.lst va)
  fa : F A = none
  rq : RqAll c.K F va acc
  eq : full = rest.bind fun r g => .ok (acc ++ r) g
theorem wipe_in {σ : L2.St} {i : Nat} : ∀ {vs : List Nat}, i ∈ vs → i < σ.length → (L2.wipe σ vs)[i]? = some none
  | v :: vs, h, hl => by
    unfold L2.wipe
    by_cases e : v = i
    · subst e
      rw [List.getElem?_set_self (by rw [L2.wipe_length]; exact hl)]
    · rw [List.getElem?_set_ne e]
      exact wipe_in ((List.mem_cons.mp h).resolve_left fun z => e z.symm) hl
theorem But.wipe {is vs : List Nat} {σ σ2 : L2.St} (h : But is (L2.wipe σ vs) σ2) (sub : ∀ i ∈ is, i ∈ vs) : L2.wipe σ2 vs = L2.wipe σ vs := by
  refine List.ext_getElem? fun j => ?_
  by_cases hj : j ∈ vs
  · by_cases hl : j < σ.length
    · rw [wipe_in hj hl, wipe_in hj (by rw [h.1, L2.wipe_length]; exact hl)]
    · have l1 : (L2.wipe σ2 vs).length = σ.length := by rw [L2.wipe_length, h.1, L2.wipe_length]
      have l2 : (L2.wipe σ vs).length = σ.length := L2.wipe_length _ _
      rw [List.getElem?_eq_none (by omega), List.getElem?_eq_none (by omega)]
  · rw [L2.wipe_out hj]
    exact h.2 j fun z => hj (sub j z)
theorem lc_post {σ : L2.St} {ρ : RS} {items : List D} {vs is : List Nat} {F1 H1 : Hp} {g1 : G} {W : WX} {Q : VK} {J : It} {A : Addr} (s1 : SR c F1 H1 σ ρ g1) (hJ : IterR c F1 J items) (hl : items.length ≤ LIM) (nA : H1 A = none) (sub : ∀ i ∈ is, i ∈ vs)
    (h : PostO c σ (compF b ft fe (wipeR ρ vs) items g1) F1 H1 W Q) :
    ∃ Wv : Nat → Nat → Hp → Prop, (∃ m, Wv 0 m (upd H1 A (.lst []))) ∧ ∀ i m H, Wv i m H → (J.stop i H ∧ Q (.ref A) H) ∨ (J.go i H ∧ ∃ Nx : Hp → Prop, (∀ H', Nx H' → ∃ m', m' < m ∧ Wv (i + 1) m' H') ∧ ∀ x H', J.yld i H x H' → tG c is b x (wipe σ vs) H' fun σ2 H2 => wipe σ2 vs = wipe σ vs ∧ tT c W0 ft σ2 H2 fun k H3 =>
      if k = true then tE c W0 fe σ2 H3 fun y H4 => ∃ acc, H4 A = some (.lst acc) ∧ acc.length < sizeLine ∧ Nx (upd H4 A (.lst (acc ++ [y]))) else Nx H3) := by
  refine ⟨fun i m H => ∃ F g va acc, m = items.length - i ∧ i ≤ items.length ∧ acc.length ≤ i ∧ Mid c F1 H1 F H g A acc (compF b ft fe (wipeR ρ vs) items g1) (compF b ft fe (wipeR ρ vs) (items.drop i) g) va,
    ⟨items.length, F1, g1, [], [], by omega, Nat.zero_le _, Nat.zero_le _, Ext.newM s1.fh nA, s1.gok.newM nA, upd_same, s1.fnone nA, .nil, ?_⟩, ?_⟩
  · rw [List.drop_zero]
    cases compF b ft fe (wipeR ρ vs) items g1 <;> rfl
  rintro i m H ⟨F, g, va, acc, rfl, hi, hacc, M⟩
  have sm : Same F1 H := M.ext.f.trans M.ext.fh
  by_cases hlt : i < items.length
  · have hd : items[i]? = some items[i] := List.getElem?_eq_getElem hlt
    have hdr : items.drop i = items[i] :: items.drop (i + 1) := List.drop_eq_getElem_cons hlt
    obtain ⟨go, yl⟩ := (hJ i H sm).1 _ hd
    have eq := M.eq
    rw [hdr] at eq
    refine .inr ⟨go, _, fun H' h => h, fun x H' y => ?_⟩
    obtain ⟨rfl, rx⟩ := yl x H' y
    have sw : SR c F H' (wipe σ vs) (wipeR ρ vs) g := (s1.wipe vs).ext' M.ext M.gok
    have nas : A ≠ c.sa := (ne_of_none s1.gok.ha nA).symm
    have nab : A ≠ c.sb := (ne_of_none s1.gok.hb nA).symm
    simp only [compF] at eq
    cases hb : b items[i] (wipeR ρ vs) with
    | none => simp only [hb, Out.bind] at eq; rw [eq] at h; exact h.elim
    | some ρ1 =>
      simp only [hb] at eq
      refine ⟨F, wipeR ρ vs, g, items[i], ρ1, sw, rx.mono M.ext.f, hb, fun σ2 s2 b2 => ⟨b2.wipe sub, F, ρ1, g, s2, ?_⟩⟩
      cases ht : ft ρ1 g with
      | bad => simp only [ht, Out.bind] at eq; rw [eq] at h; exact h.elim
      | exc n fs g2 => simp only [ht, Out.bind] at eq; rw [eq] at h; exact h.elim
      | ok k g2 =>
        intro k' F2 H2 e2 gk2 rk
        cases rk
        have s3 := s2.ext' e2 gk2
        have hA2 : H2 A = some (.lst va) := e2.keep A _ M.ha nas nab
        have fA2 : F2 A = none := by rw [e2.ff A _ M.ha]; exact M.fa
        cases k with
        | false =>
          simp only [ht] at eq
          rw [if_neg Bool.false_ne_true]
          exact ⟨items.length - (i + 1), by omega, F2, g2, va, acc, rfl, hlt, by omega, M.ext.trans e2, gk2, hA2, fA2, RqAll_mono e2.f _ _ M.rq, eq⟩
        | true =>
          simp only [ht] at eq
          rw [if_pos rfl]
          refine ⟨F2, ρ1, g2, s3, ?_⟩
          cases he : fe ρ1 g2 with
          | bad => simp only [he, Out.bind] at eq; rw [eq] at h; exact h.elim
          | exc n fs g3 => simp only [he, Out.bind] at eq; rw [eq] at h; exact h.elim
          | ok d g3 =>
            simp only [he] at eq
            intro y F3 H3 e3 gk3 ry
            have hA3 : H3 A = some (.lst va) := e3.keep A _ hA2 nas nab
            have fA3 : F3 A = none := by rw [e3.ff A _ hA2]; exact fA2
            by_cases hn : noTok [d] = true
            · rw [if_pos hn] at eq
              refine ⟨va, hA3, lim_lt (by rw [M.rq.len]; omega), items.length - (i + 1), by omega, F3, g3, va ++ [y], acc ++ [d], rfl, hlt, by rw [List.length_append, List.length_singleton]; omega, ?_, ?_, upd_same, fA3, ?_, ?_⟩
              · have e4 := (M.ext.trans e2).trans e3
                refine ⟨e4.f, fun q o z => ?_, fun q o z n m => ?_, fun q o z => ?_, e4.ff⟩
                · rw [upd_ne (ne_of_none z fA3)]; exact e4.fh q o z
                · rw [upd_ne (ne_of_none z nA)]; exact e4.keep q o z n m
                · rw [upd_ne (ne_of_none z nA)]; exact e4.dom q o z
              · exact gk3.ext rfl rfl (upd_ne nas.symm) (upd_ne nab.symm)
              · have rd := RepAll.rq (RepAll.cons ry .nil) hn
                exact (RqAll_mono (e2.f.trans e3.f) _ _ M.rq).append rd
              · rw [eq]
                cases compF b ft fe (wipeR ρ vs) (items.drop (i + 1)) g3 with
                | bad => rfl
                | exc n fs g4 => rfl
                | ok r g4 => simp only [Out.bind, List.append_assoc, List.singleton_append]
            · rw [if_neg hn] at eq
              simp only [Out.bind] at eq
              rw [eq] at h
              exact h.elim
  · have e : i = items.length := by omega
    have eq := M.eq
    rw [e, List.drop_length] at eq
    simp only [compF, Out.bind, List.append_nil] at eq
    rw [eq] at h
    exact .inl ⟨(hJ i H sm).2 (by omega), h A va F H M.ext M.gok M.ha M.fa nA M.rq⟩
theorem lc_imp {is : List Nat} (sub : ∀ i ∈ is, i ∈ own.map (·.2)) (σ : L2.St) (H : Hp) (Q : VK) (w : tEo c W (oComp (own.map (·.2)) fi b ft fe) σ H Q) : tLc (tI c W fi) (tG c is b) (tT c W0 ft) (tE c W0 fe) (own.map (·.2)) σ H Q := by
  obtain ⟨F, ρ, g, s, h⟩ := w
  exact ⟨F, ρ, g, s, PostO.bind s h fun items g1 J F1 H1 e1 s1 r1 h1 => by
    obtain ⟨hl, h1⟩ := h1.ite
    exact fun A nA => lc_post s1 r1 hl nA sub h1⟩
theorem o_lc {is : List Nat} (hc : X.calm = true) (hN : X.N.Nodup) (hi : DI X c W tg iter fi) (ok : BlkOk X.N X.env.scope scope own) (sub : ∀ i ∈ is, i ∈ own.map (·.2))
    (hg : ∀ (s : Shared) (H : Hp) (C : Addr) (cl : List (Str × Addr)) (fp : List Addr), DG (X.blk s H scope (compEnvC scope cl C X.env) fp) c is tg b) (ht : ∀ (s : Shared) (H : Hp) (C : Addr) (cl : List (Str × Addr)) (fp : List Addr), PTs (X.blk s H scope (compEnvC scope cl C X.env) fp) ifs (tT c W0 ft))
    (he : ∀ (s : Shared) (H : Hp) (C : Addr) (cl : List (Str × Addr)) (fp : List Addr), DE (X.blk s H scope (compEnvC scope cl C X.env) fp) c W0 elt fe) (hs : ∀ x, foldedSetIterable iter X.env x = pure x := by intro _; rfl) :
    DEo X c W (.ListComp elt [⟨tg, iter, ifs, 0⟩] scope pos) (oComp (own.map (·.2)) fi b ft fe) :=
  PE.imp (pe_lc hc hN hi ok hg ht he hs) (lc_imp sub)
theorem of_imp {f : OF'} (σ : L2.St) (H : Hp) (Q : VK) (w : tE c W (eOf f) σ H Q) : tEo c W f σ H Q := by
  obtain ⟨F, ρ, g, s, h⟩ := w
  refine ⟨F, ρ, g, s, ?_⟩
  unfold eOf at h
  cases q : f ρ g with
  | bad => rw [q] at h; exact h
  | exc n fs g1 => rw [q] at h; exact h
  | ok ds g1 =>
    rw [q] at h
    intro p vs F' H' e gk h1 h2 h3 h4
    have sm : Same F' (upd F' p (.lst vs)) := fun b o q => by rw [upd_ne (ne_of_none q h2)]; exact q
    have n1 : c.sa ≠ p := ne_of_none s.gok.ha h3
    have n2 : c.sb ≠ p := ne_of_none s.gok.hb h3
    refine h (.ref p) (upd F' p (.lst vs)) H' ⟨e.f.trans sm, fun b o q => ?_, e.keep, e.dom, fun b o q => ?_⟩ (gk.ext (upd_ne n1) (upd_ne n2) rfl rfl) (.inl (.lst upd_same (RqAll_mono sm _ _ h4)))
    · by_cases hb : b = p
      · subst hb; rw [upd_same] at q; cases q; exact h1
      · rw [upd_ne hb] at q; exact e.fh b o q
    · rw [upd_ne (ne_of_none q h3)]; exact e.ff b o q
theorem d_ofO {f : OF'} (h : DEo X c W e f) : DE X c W e (eOf f) := PE.imp h of_imp
end
end DL
namespace DL
open PySem
open PySem.Spec
open PyProof.Rows
open L2
def SPost (c : Ctx) (o : SO) (F : Hp) (W : WX) (E : Ends) : Prop := match o with
  | .nx ρ g => ∀ σ' F' H', Same F F' → SR c F' H' σ' ρ g → E.nx σ' H'
  | .rt d g => ∀ σ' ρ' v F' H', Same F F' → SR c F' H' σ' ρ' g → Rep c F' v d → E.rt v H'
  | .bk ρ g => ∀ σ' F' H', Same F F' → SR c F' H' σ' ρ g → E.bk σ' H'
  | .ct ρ g => ∀ σ' F' H', Same F F' → SR c F' H' σ' ρ g → E.ct σ' H'
  | .exc n fs ρ g => ∀ C dx vs σ' F' H', Same F F' → SR c F' H' σ' ρ g → c.cl n = some C → H' dx = some (.xd vs) → FldR c F' vs fs → W (.ref C) (some dx) σ' H'
  | .bad => False
theorem SPost.up {c : Ctx} {o : SO} {F F' : Hp} {W : WX} {E : Ends} (h : SPost c o F W E) (e : Same F F') : SPost c o F' W E := by
  cases o with
  | nx ρ g => exact fun σ1 F1 H1 s => h σ1 F1 H1 (e.trans s)
  | rt d g => exact fun σ1 ρ1 v F1 H1 s => h σ1 ρ1 v F1 H1 (e.trans s)
  | bk ρ g => exact fun σ1 F1 H1 s => h σ1 F1 H1 (e.trans s)
  | ct ρ g => exact fun σ1 F1 H1 s => h σ1 F1 H1 (e.trans s)
  | exc n fs ρ g => exact fun C dx vs σ1 F1 H1 s => h C dx vs σ1 F1 H1 (e.trans s)
  | bad => exact h
def tS (c : Ctx) (W : WX) (f : SF) : TS := fun E σ H => ∃ F ρ g, SR c F H σ ρ g ∧ SPost c (f ρ g) F W E
abbrev DS (X : Cx) (c : Ctx) (W : WX) (st : Stmt) (f : SF) : Prop := PS X st (tS c W f)
abbrev DSs (X : Cx) (c : Ctx) (W : WX) (sts : List Stmt) (f : SF) : Prop := PSs X sts (tS c W f)
theorem go_post {α β : Type} {c : Ctx} {σ : L2.St} {ρ : RS} {g0 : G} {R : Hp → β → α → Prop} {o : Out α} {k : α → G → SO} {F H : Hp} {W : WX} {Q : β → Hp → Prop} {E : Ends}
    (s0 : SR c F H σ ρ g0) (h : SPost c (o.go ρ k) F W E) (q : ∀ a g b F1 H1, Ext c.sa c.sb F H F1 H1 → SR c F1 H1 σ ρ g → R F1 b a → SPost c (k a g) F1 W E → Q b H1) : PostG c σ R o F H W Q := by
  cases o with
  | ok a g => exact fun b F1 H1 e gk r => q a g b F1 H1 e (s0.ext' e gk) r (SPost.up (show SPost c (k a g) F W E from h) e.f)
  | exc n fs g => exact fun C dx vs F1 H1 e gk hc hd hf => h C dx vs σ F1 H1 e.f (s0.ext' e gk) hc hd hf
  | bad => exact h
theorem go_postO {c : Ctx} {σ : L2.St} {ρ : RS} {g0 : G} {o : Out (List D)} {k : List D → G → SO} {F H : Hp} {W : WX} {Q : VK} {E : Ends}
    (s0 : SR c F H σ ρ g0) (h : SPost c (o.go ρ k) F W E) (q : ∀ ds g p vs F1 H1, Ext c.sa c.sb F H F1 H1 → SR c F1 H1 σ ρ g → H1 p = some (.lst vs) → F1 p = none → H p = none → RqAll c.K F1 vs ds → SPost c (k ds g) F1 W E → Q (.ref p) H1) : PostO c σ o F H W Q := by
  cases o with
  | ok a g => exact fun p vs F1 H1 e gk h1 h2 h3 h4 => q a g p vs F1 H1 e (s0.ext' e gk) h1 h2 h3 h4 (SPost.up (show SPost c (k a g) F W E from h) e.f)
  | exc n fs g => exact fun C dx vs F1 H1 e gk hc hd hf => h C dx vs σ F1 H1 e.f (s0.ext' e gk) hc hd hf
  | bad => exact h
theorem SPost.nx' {c : Ctx} {ρ : RS} {g : G} {F H : Hp} {W : WX} {E : Ends} {σ : L2.St} (h : SPost c (.nx ρ g) F W E) (s : SR c F H σ ρ g) : E.nx σ H := h σ F H (Same.refl F) s
def sNil : SF := fun ρ g => .nx ρ g
def sSeq (f k : SF) : SF := fun ρ g => match f ρ g with
  | .nx ρ' g' => k ρ' g'
  | o => o
section
variable {X : Cx} {c : Ctx} {W : WX} {pos : Pos} {e : Expr} {fe : EF} {st : Stmt} {sts : List Stmt} {f k : SF} {tb : TF}
theorem dss_nil : DSs X c W [] sNil := PSs.imp pss_nil fun E σ H ⟨F, ρ, g, s, h⟩ => h.nx' s
theorem seq_post {c : Ctx} {o : SO} {k : SF} {F : Hp} {W : WX} {E : Ends} (h : SPost c (match o with | .nx ρ' g' => k ρ' g' | o => o) F W E) : SPost c o F W { E with nx := tS c W k E } := by
  cases o with
  | nx ρ g => exact fun σ1 F1 H1 s sr => ⟨F1, ρ, g, sr, SPost.up h s⟩
  | rt d g => exact h
  | bk ρ g => exact h
  | ct ρ g => exact h
  | exc n fs ρ g => exact h
  | bad => exact h
theorem dss_cons (h1 : DS X c W st f) (h2 : DSs X c W sts k) : DSs X c W (st :: sts) (sSeq f k) := PSs.imp (pss_cons h1 h2) fun E σ H ⟨F, ρ, g, s, h⟩ => ⟨F, ρ, g, s, seq_post h⟩
theorem dss_one (h1 : DS X c W st f) : DSs X c W [st] f := pss_one h1
theorem ds_pass : DS X c W (.Pass pos) sNil := PS.imp ps_pass fun E σ H ⟨F, ρ, g, s, h⟩ => h.nx' s
def sBrk : SF := fun ρ g => .bk ρ g
def sCnt : SF := fun ρ g => .ct ρ g
theorem ds_break : DS X c W (.Break pos) sBrk := PS.imp ps_break fun E σ H ⟨F, ρ, g, s, h⟩ => h σ F H (Same.refl F) s
theorem ds_continue : DS X c W (.Continue pos) sCnt := PS.imp ps_continue fun E σ H ⟨F, ρ, g, s, h⟩ => h σ F H (Same.refl F) s
def sExpr (fe : EF) : SF := fun ρ g => (fe ρ g).go ρ fun _ g1 => .nx ρ g1
theorem ds_expr (he : DE X c W e fe) (hs : swapsWith e none pos.line X.env = pure false := by rfl) : DS X c W (.Expr e pos) (sExpr fe) := PS.imp (ps_expr he hs) fun E σ H ⟨F, ρ, g, s, h⟩ => ⟨F, ρ, g, s, go_post s h fun x g1 v F1 H1 e1 s1 r1 h1 => h1.nx' s1⟩
def sRet (fe : EF) : SF := fun ρ g => (fe ρ g).go ρ fun d g1 => .rt d g1
theorem ds_ret (he : DE X c W e fe) : DS X c W (.Return (some e) pos) (sRet fe) := PS.imp (ps_ret he) fun E σ H ⟨F, ρ, g, s, h⟩ => ⟨F, ρ, g, s, go_post s h fun x g1 v F1 H1 e1 s1 r1 h1 => h1 σ ρ v F1 H1 (Same.refl _) s1 r1⟩
def sRetN : SF := fun _ g => .rt .none g
theorem ds_retN : DS X c W (.Return none pos) sRetN := PS.imp ps_retN fun E σ H ⟨F, ρ, g, s, h⟩ => h σ ρ .non F H (Same.refl _) s rNon
def sIf (t : TF) (f k : SF) : SF := fun ρ g => (t ρ g).go ρ fun b g1 => if b = true then f ρ g1 else k ρ g1
theorem ds_if {a b : List Stmt} (ht : DT X c W e tb) (ha : DSs X c W a f) (hb : DSs X c W b k) : DS X c W (.If e a b pos) (sIf tb f k) := PS.imp (ps_if ht ha hb) fun E σ H ⟨F, ρ, g, s, h⟩ => ⟨F, ρ, g, s, go_post s h fun x g1 v F1 H1 e1 s1 r1 h1 => by
  cases r1
  cases x with
  | true => exact ⟨F1, ρ, g1, s1, h1⟩
  | false => exact ⟨F1, ρ, g1, s1, h1⟩⟩
def sSet (i : Nat) (fe : EF) : SF := fun ρ g => (fe ρ g).go ρ fun d g1 => .nx (ρ.set i (.d d)) g1
theorem ds_set {i : Nat} (h : PS X st (tAsg (tE c W fe) (gName i))) : DS X c W st (sSet i fe) := PS.imp h fun E σ H ⟨F, ρ, g, s, h⟩ => ⟨F, ρ, g, s, go_post s h fun x g1 v F1 H1 e1 s1 r1 h1 => h1.nx' (s1.setD r1 i)⟩
def sSetO (i : Nat) (fo : OF') : SF := fun ρ g => (fo ρ g).go ρ fun ds g1 => .nx (ρ.set i (.own ds)) g1
theorem ds_setO {i : Nat} {fo : OF'} (h : PS X st (tAsg (tEo c W fo) (gName i))) : DS X c W st (sSetO i fo) := PS.imp h fun E σ H ⟨F, ρ, g, s, h⟩ => ⟨F, ρ, g, s, go_postO s h fun ds g1 p vs F1 H1 e1 s1 q1 q2 q3 q4 h1 => by
  refine h1.nx' (s1.setO q1 q2 ?_ q4 (fun j ys hj hp => ?_) i)
  · cases z : c.H0 p with
    | none => rfl
    | some o =>
      obtain ⟨o', z'⟩ := s.ext.dom p o z
      rw [q3] at z'
      cases z'
  · obtain ⟨a, vs', k1, k2, _⟩ := s.own hj
    rw [hp] at k1
    cases k1
    rw [q3] at k2
    cases k2⟩
def sAsg (b : BF) (fe : EF) : SF := fun ρ g => (fe ρ g).go ρ fun d g1 => match b d ρ with
  | some ρ' => .nx ρ' g1
  | none => .bad
theorem ds_asg {tg : Expr} {is : List Nat} {b : BF} (he : DE X c W e fe) (hg : DG X c is tg b) (hs : swapsWithSole [tg] e pos.line X.env = pure false := by rfl) (hw : swappedStores [tg] e X.env = pure none := by rfl)
    (h1 : (assignEach [tg] X.env).map (·.2) = [assign tg X.env] := by rfl) : DS X c W (.Assign [tg] e pos) (sAsg b fe) := PS.imp (ps_asg he hg hs hw h1) fun E σ H ⟨F, ρ, g, s, h⟩ => ⟨F, ρ, g, s, go_post s h fun x g1 v F1 H1 e1 s1 r1 h1 => by
  cases q : b x ρ with
  | none => simp only [q] at h1; exact h1.elim
  | some ρ' =>
    simp only [q] at h1
    exact ⟨F1, ρ, g1, x, ρ', s1, r1, q, fun σ2 s2 _ => h1.nx' s2⟩⟩
def sPar (i j : Nat) (fs : AF) : SF := fun ρ g => (fs ρ g).go ρ fun ds g1 => match ds with
  | [x, y] => .nx ((ρ.set i (.d x)).set j (.d y)) g1
  | _ => .bad
theorem ds_par {i j : Nat} {fs : AF} (h : PS X st (tPar i j (tAr c W fs))) : DS X c W st (sPar i j fs) := PS.imp h fun E σ H ⟨F, ρ, g, s, h⟩ => ⟨F, ρ, g, s, go_post s h fun ds g1 vs F1 H1 e1 s1 r1 h1 => by
  split at h1
  · obtain ⟨v, v', rfl, rv, rv'⟩ := rep2 r1
    exact ⟨v, v', rfl, h1.nx' ((s1.setD rv i).setD rv' j)⟩
  · exact h1.elim⟩
theorem rep3 {c : Ctx} {F : Hp} {vs : List V} {d d' d'' : D} (h : RepAll c F vs [d, d', d'']) : ∃ v v' v'', vs = [v, v', v''] ∧ Rep c F v d ∧ Rep c F v' d' ∧ Rep c F v'' d'' := by
  cases h with
  | cons h t => cases t with
    | cons h' t => cases t with
      | cons h'' t => cases t; exact ⟨_, _, _, rfl, h, h', h''⟩
def sPar3 (i j l : Nat) (fs : AF) : SF := fun ρ g => (fs ρ g).go ρ fun ds g1 => match ds with
  | [x, y, z] => .nx (((ρ.set i (.d x)).set j (.d y)).set l (.d z)) g1
  | _ => .bad
theorem ds_par3 {i j l : Nat} {fs : AF} (h : PS X st (tPar3 i j l (tAr c W fs))) : DS X c W st (sPar3 i j l fs) := PS.imp h fun E σ H ⟨F, ρ, g, s, h⟩ => ⟨F, ρ, g, s, go_post s h fun ds g1 vs F1 H1 e1 s1 r1 h1 => by
  split at h1
  · obtain ⟨v, v', v'', rfl, rv, rv', rv''⟩ := rep3 r1
    exact ⟨v, v', v'', rfl, h1.nx' (((s1.setD rv i).setD rv' j).setD rv'' l)⟩
  · exact h1.elim⟩
def sAug (i : Nat) (φ : Int → Int → Int) (fe : EF) : SF := fun ρ g => match ρ[i]? with
  | some (.d (.int a)) => (fe ρ g).go ρ fun d g1 => match d with
    | .int b => .nx (ρ.set i (.d (.int (φ a b)))) g1
    | _ => .bad
  | _ => .bad
theorem ds_aug {i : Nat} {φ : Int → Int → Int} (h : PS X st (tAug i (tE c W fe) (ipI φ))) : DS X c W st (sAug i φ fe) := PS.imp h fun E σ H ⟨F, ρ, g, s, h⟩ => by
  unfold sAug at h
  split at h
  · rename_i a hi
    obtain ⟨v, hv, rv⟩ := s.slots i _ hi
    cases rv.int
    refine ⟨_, hv, F, ρ, g, s, go_post s h fun x g1 v F1 H1 e1 s1 r1 h1 => ?_⟩
    cases x with
    | int b => cases r1.int; exact ⟨a, b, rfl, rfl, h1.nx' (s1.setD rInt i)⟩
    | _ => exact h1.elim
  · exact h.elim
def sApp (i : Nat) (fe : EF) : SF := fun ρ g => match ρ[i]? with
  | some (.own xs) => (fe ρ g).go ρ fun d g1 => if xs.length < LIM ∧ noTok [d] = true then .nx (ρ.set i (.own (xs ++ [d]))) g1 else .bad
  | _ => .bad
theorem SPost.ite {c : Ctx} {p : Prop} [Decidable p] {o : SO} {F : Hp} {W : WX} {E : Ends} (h : SPost c (if p then o else .bad) F W E) : p ∧ SPost c o F W E := by
  by_cases hp : p
  · rw [if_pos hp] at h; exact ⟨hp, h⟩
  · rw [if_neg hp] at h; exact h.elim
theorem ds_app {i : Nat} (h : PS X st (tDrop (tBM X.K "list" rAppend (tVar i) (tCons (tE c W fe) tNil)))) : DS X c W st (sApp i fe) := PS.imp h fun E σ H ⟨F, ρ, g, s, h⟩ => by
  unfold sApp at h
  split at h
  · rename_i xs hi
    obtain ⟨a, vs, k1, k2, k3, k4, k5⟩ := s.own hi
    refine ⟨_, k1, .inl ⟨rfl, vs, SqL.of k2⟩, F, ρ, g, s, go_post s h fun x g1 v F1 H1 e1 s1 r1 h1 => ?_⟩
    obtain ⟨⟨hl, hn⟩, h1⟩ := h1.ite
    obtain ⟨a', vs', m1, m2, m3, m4, m5⟩ := s1.own hi
    rw [k1] at m1
    cases m1
    exact ⟨a, vs', v, rfl, rfl, m2, lim_lt (by rw [m3.len]; exact hl), h1.nx' (s1.updO hi k1 m2 m4 m5 (m3.append (RepAll.rq (.cons r1 .nil) hn)))⟩
  · exact h.elim
def sExt (i : Nat) (fe : EF) : SF := fun ρ g => match ρ[i]? with
  | some (.own xs) => (fe ρ g).go ρ fun d g1 => match d with
    | .list ys => if xs.length + ys.length ≤ LIM then .nx (ρ.set i (.own (xs ++ ys))) g1 else .bad
    | _ => .bad
  | _ => .bad
theorem ds_ext {i : Nat} (h : PS X st (tDrop (tBM X.K "list" rExtend (tVar i) (tCons (tE c W fe) tNil)))) : DS X c W st (sExt i fe) := PS.imp h fun E σ H ⟨F, ρ, g, s, h⟩ => by
  unfold sExt at h
  split at h
  · rename_i xs hi
    obtain ⟨a, vs, k1, k2, k3, k4, k5⟩ := s.own hi
    refine ⟨_, k1, .inl ⟨rfl, vs, SqL.of k2⟩, F, ρ, g, s, go_post s h fun x g1 v F1 H1 e1 s1 r1 h1 => ?_⟩
    cases x with
    | list ys =>
      obtain ⟨hl, h1⟩ := h1.ite
      obtain ⟨b, ws, rfl, q1, q2⟩ := r1.list
      obtain ⟨a', vs', m1, m2, m3, m4, m5⟩ := s1.own hi
      rw [k1] at m1
      cases m1
      exact ⟨a, b, vs', ws, rfl, rfl, m2, s1.fh _ _ q1, lim_ok (by rw [m3.len, q2.len]; exact hl), h1.nx' (s1.updO hi k1 m2 m4 m5 (m3.append q2))⟩
    | _ => exact h1.elim
  · exact h.elim
def sSetIx (i : Nat) (fe fj : EF) : SF := fun ρ g => match ρ[i]? with
  | some (.own xs) => (fe ρ g).go ρ fun d g1 => (fj ρ g1).go ρ fun j g2 => match j with
    | .int n => match ixN xs.length n with
      | some m => if noTok [d] = true then .nx (ρ.set i (.own (xs.set m d))) g2 else .bad
      | none => .bad
    | _ => .bad
  | _ => .bad
theorem ds_setIx {i : Nat} {fj : EF} (h : PS X st (tAsg (tE c W fe) (gSub (tVar i) (tE c W fj) rSetL))) : DS X c W st (sSetIx i fe fj) := PS.imp h fun E σ H ⟨F, ρ, g, s, h⟩ => by
  unfold sSetIx at h
  split at h
  · rename_i xs hi
    refine ⟨F, ρ, g, s, go_post s h fun d g1 v F1 H1 e1 s1 r1 h1 => ?_⟩
    obtain ⟨a, vs, k1, k2, k3, k4, k5⟩ := s1.own hi
    refine ⟨_, k1, F1, ρ, g1, s1, go_post s1 h1 fun j g2 u F2 H2 e2 s2 r2 h2 => ?_⟩
    obtain ⟨a', vs', m1, m2, m3, m4, m5⟩ := s2.own hi
    rw [k1] at m1
    cases m1
    cases j with
    | int n =>
      cases r2.int
      simp only at h2
      split at h2
      · rename_i m hm
        obtain ⟨hn, h2⟩ := h2.ite
        refine ⟨a, vs', n, m, rfl, rfl, m2, by rw [m3.len]; exact hm, h2.nx' (s2.updO hi k1 m2 m4 m5 ?_)⟩
        have rr := RepAll.rq (RepAll.cons (r1.mono e2.f) .nil) hn
        cases rr with
        | cons q _ => exact RqAll.set q m m3
      · exact h2.elim
    | _ => exact h2.elim
  · exact h.elim
def sFrz (i : Nat) (f : SF) : SF := fun ρ g => match ρ[i]? with
  | some (.own xs) => f (ρ.set i (.d (.list xs))) g
  | _ => f ρ g
theorem dss_frz {i : Nat} (h : DSs X c W sts f) : DSs X c W sts (sFrz i f) := PSs.imp h fun E σ H ⟨F, ρ, g, s, h⟩ => by
  unfold sFrz at h
  split at h
  · rename_i xs hi
    obtain ⟨a, vs, k1, k2, k3, k4, k5⟩ := s.own hi
    exact ⟨_, _, g, s.freeze hi k1 k2 k4 k5 k3, SPost.up h fun b o q => by rw [upd_ne (ne_of_none q k4)]; exact q⟩
  · exact ⟨F, ρ, g, s, h⟩
def eIxO (i : Nat) (fj : EF) : EF := fun ρ g => match ρ[i]? with
  | some (.own xs) => (fj ρ g).bind fun j g1 => match j with
    | .int n => match atI xs n with
      | some d => .ok d g1
      | none => .bad
    | _ => .bad
  | _ => .bad
theorem d_ixO {i : Nat} {fj : EF} {a b : Expr} (h : PE X (.Subscript a b pos) (tOp (rIx X.K) (tVar i) (tE c W fj))) : DE X c W (.Subscript a b pos) (eIxO i fj) := PE.imp h fun σ H Q ⟨F, ρ, g, s, h⟩ => by
  unfold eIxO at h
  split at h
  · rename_i xs hi
    obtain ⟨a, vs, k1, k2, k3, k4, k5⟩ := s.own hi
    refine ⟨_, k1, F, ρ, g, s, PostG.bind s h fun j g1 v F1 H1 e1 s1 r1 h1 => ?_⟩
    obtain ⟨a', vs', m1, m2, m3, m4, m5⟩ := s1.own hi
    rw [k1] at m1
    cases m1
    cases j with
    | int n =>
      cases r1.int
      simp only at h1
      split at h1
      · rename_i d hd
        obtain ⟨v, hv, rv⟩ := atI_rq m3 hd
        exact .inl ⟨a, vs', n, v, rfl, rfl, SqL.of m2, hv, h1.now s1 (.inl rv)⟩
      · exact h1.elim
    | _ => exact h1.elim
  · exact h.elim
def eLenO (i : Nat) : EF := fun ρ g => match ρ[i]? with
  | some (.own xs) => .ok (.int xs.length) g
  | _ => .bad
theorem d_lenO {i : Nat} {e : Expr} (h : PE X e (tCB (fun xs H Q => ∃ x n, xs = [x] ∧ LenV X.K x H n ∧ Q (.int n) H) (tCons (tVar i) tNil))) : DE X c W e (eLenO i) := PE.imp h fun σ H Q ⟨F, ρ, g, s, h⟩ => by
  unfold eLenO at h
  split at h
  · rename_i xs hi
    obtain ⟨a, vs, k1, k2, k3, k4, k5⟩ := s.own hi
    exact ⟨_, k1, _, _, rfl, .inl ⟨vs, SqL.of k2, k3.len.symm⟩, h.now s rInt⟩
  · exact h.elim
def eIxA (i : Nat) (fj : EF) : EF := fun ρ g => match ρ[i]? with
  | some (.d x) => (fj ρ g).bind fun j g1 => opIx x j g1
  | _ => eIxO i fj ρ g
theorem d_ixA {i : Nat} {fj : EF} {a b : Expr} (hK : c.K = X.K) (h : PE X (.Subscript a b pos) (tOp (rIx X.K) (tVar i) (tE c W fj))) : DE X c W (.Subscript a b pos) (eIxA i fj) := ⟨fun pins s0 σ H Q I w => by
  obtain ⟨F, ρ, g, s, w⟩ := w
  unfold eIxA at w
  split at w
  · rename_i x hi
    refine h.run pins s0 σ H Q I ?_
    obtain ⟨v, k1, r1⟩ := s.slots i _ hi
    refine ⟨v, k1, F, ρ, g, s, PostG.bind s w fun y g2 u F2 H2 e2 s2 r2 h2 => ?_⟩
    unfold opIx at h2
    split at h2
    · obtain ⟨p, vs, rfl, q1, q2⟩ := (r1.mono e2.f).list
      cases r2.int
      split at h2
      · rename_i d hd
        obtain ⟨v, hv, rv⟩ := atI_rq q2 hd
        exact .inl ⟨p, vs, _, v, rfl, rfl, SqL.of (s2.fh _ _ q1), hv, h2.now s2 (.inl rv)⟩
      · exact h2.elim
    · obtain ⟨p, vs, rfl, q1, q2⟩ := (r1.mono e2.f).tuple
      cases r2.int
      split at h2
      · rename_i d hd
        obtain ⟨v, hv, rv⟩ := atI_rq q2 hd
        exact .inr (.inl ⟨p, vs, _, v, rfl, rfl, by rw [← hK]; exact seqT_mono s2.fh q1, hv, h2.now s2 (.inl rv)⟩)
      · exact h2.elim
    · cases r1.str
      cases r2.int
      obtain ⟨hz, h2⟩ := h2.ite
      split at h2
      · rename_i d hd
        exact .inr (.inr ⟨_, _, d, rfl, rfl, lim_ok hz, hd, h2.now s2 rStr⟩)
      · exact h2.elim
    · exact h2.elim
  · exact (d_ixO h).run pins s0 σ H Q I ⟨F, ρ, g, s, w⟩⟩
def eLenA (i : Nat) : EF := fun ρ g => match ρ[i]? with
  | some (.d (.list xs)) => .ok (.int xs.length) g
  | _ => eLenO i ρ g
theorem d_lenA {i : Nat} {e : Expr} (h : PE X e (tCB (fun xs H Q => ∃ x n, xs = [x] ∧ LenV X.K x H n ∧ Q (.int n) H) (tCons (tVar i) tNil))) : DE X c W e (eLenA i) := ⟨fun pins s0 σ H Q I w => by
  obtain ⟨F, ρ, g, s, w⟩ := w
  unfold eLenA at w
  split at w
  · rename_i xs hi
    refine h.run pins s0 σ H Q I ?_
    obtain ⟨v, k1, r1⟩ := s.slots i _ hi
    obtain ⟨a, vs, rfl, h1, h2⟩ := r1.list
    exact ⟨_, k1, _, _, rfl, .inl ⟨vs, SqL.of (s.fh _ _ h1), h2.len.symm⟩, w.now s rInt⟩
  · exact (d_lenO h).run pins s0 σ H Q I ⟨F, ρ, g, s, w⟩⟩
def forL (b : BF) (f : SF) : List D → RS → G → SO
  | [], ρ, g => .nx ρ g
  | x :: xs, ρ, g => match b x ρ with
    | none => .bad
    | some ρ1 => match f ρ1 g with
      | .nx ρ2 g2 => forL b f xs ρ2 g2
      | .ct ρ2 g2 => forL b f xs ρ2 g2
      | .bk ρ2 g2 => .nx ρ2 g2
      | o => o
def sFor (fi : LF) (b : BF) (f : SF) : SF := fun ρ g => (fi ρ g).go ρ fun items g1 => forL b f items ρ g1
theorem ds_for {tg iter : Expr} {body : List Stmt} {fi : LF} {is : List Nat} {b : BF} (hp : PassesOwn (model X.prog X.w) X.A X.env X.xe) (hc : X.calm = true) (hi : DI X c W tg iter fi) (hg : DG X c is tg b) (hb : DSs X c W body f)
    (hs : ∀ x, foldedSetIterable iter X.env x = pure x := by intro _; rfl) : DS X c W (.For tg iter body [] pos) (sFor fi b f) :=
  PS.imp (ps_for hp hc hi hg hb hs) fun E σ H ⟨F, ρ, g, s, h⟩ => ⟨F, ρ, g, s, go_post s h fun items g1 J F1 H1 e1 s1 r1 h1 => by
    refine ⟨fun i m σ H => ∃ F ρ g, Same F1 F ∧ SR c F H σ ρ g ∧ m = items.length - i ∧ i ≤ items.length ∧ SPost c (forL b f (items.drop i) ρ g) F W E, ⟨items.length, F1, ρ, g1, Same.refl F1, s1, by omega, Nat.zero_le _, by rw [List.drop_zero]; exact h1⟩, ?_⟩
    rintro i m σ H ⟨F, ρ, g, sF, s, rfl, hi, h⟩
    have sm : Same F1 H := sF.trans s.fh
    by_cases hlt : i < items.length
    · have hd : items[i]? = some items[i] := List.getElem?_eq_getElem hlt
      have hdr : items.drop i = items[i] :: items.drop (i + 1) := List.drop_eq_getElem_cons hlt
      obtain ⟨go, yl⟩ := (r1 i H sm).1 _ hd
      rw [hdr] at h
      simp only [forL] at h
      refine .inr ⟨go, _, fun σ' H' h => h, fun x H' y => ?_⟩
      obtain ⟨rfl, rx⟩ := yl x H' y
      cases q : b items[i] ρ with
      | none => simp only [q] at h; exact h.elim
      | some ρ1 =>
        simp only [q] at h
        refine ⟨F, ρ, g, items[i], ρ1, s, rx.mono sF, q, fun σ2 s2 _ => ⟨F, ρ1, g, s2, ?_⟩⟩
        cases q2 : f ρ1 g with
        | nx ρ2 g2 =>
          simp only [q2] at h
          exact fun σ3 F3 H3 e3 s3 => ⟨items.length - (i + 1), by omega, F3, ρ2, g2, sF.trans e3, s3, rfl, hlt, SPost.up h e3⟩
        | ct ρ2 g2 =>
          simp only [q2] at h
          exact fun σ3 F3 H3 e3 s3 => ⟨items.length - (i + 1), by omega, F3, ρ2, g2, sF.trans e3, s3, rfl, hlt, SPost.up h e3⟩
        | bk ρ2 g2 => simp only [q2] at h; exact fun σ3 F3 H3 e3 s3 => h σ3 F3 H3 e3 s3
        | rt d g2 => simp only [q2] at h; exact h
        | exc n fs ρ2 g2 => simp only [q2] at h; exact h
        | bad => simp only [q2] at h; exact h.elim
    · have e : i = items.length := by omega
      rw [e, List.drop_length] at h
      exact .inl ⟨(r1 i H sm).2 (by omega), h.nx' s⟩⟩
def whileF (t : TF) (f : SF) : Nat → RS → G → SO
  | 0, _, _ => .bad
  | n + 1, ρ, g => (t ρ g).go ρ fun k g1 => if k = true then (match f ρ g1 with
      | .nx ρ2 g2 => whileF t f n ρ2 g2
      | .ct ρ2 g2 => whileF t f n ρ2 g2
      | .bk ρ2 g2 => .nx ρ2 g2
      | o => o) else .nx ρ g1
def sWhile (n : Nat) (t : TF) (f : SF) : SF := fun ρ g => whileF t f n ρ g
theorem ds_while {body : List Stmt} {n : Nat} (hp : PassesOwn (model X.prog X.w) X.A X.env X.xe) (ht : DT X c W e tb) (hb : DSs X c W body f) : DS X c W (.While e body [] pos) (sWhile n tb f) :=
  PS.imp (ps_while hp ht hb) fun E σ H ⟨F, ρ, g, s, h⟩ => by
    refine ⟨fun m σ H => ∃ F ρ g, SR c F H σ ρ g ∧ SPost c (whileF tb f m ρ g) F W E, ⟨n, F, ρ, g, s, h⟩, ?_⟩
    rintro m σ H ⟨F, ρ, g, s, h⟩
    cases m with
    | zero => exact h.elim
    | succ m =>
      refine ⟨F, ρ, g, s, go_post s h fun k g1 v F1 H1 e1 s1 r1 h1 => ?_⟩
      cases r1
      cases k with
      | false => exact h1.nx' s1
      | true =>
        simp only [if_pos] at h1 ⊢
        refine ⟨_, fun σ' H' h => h, F1, ρ, g1, s1, ?_⟩
        cases q2 : f ρ g1 with
        | nx ρ2 g2 =>
          simp only [q2] at h1
          exact fun σ3 F3 H3 e3 s3 => ⟨m, Nat.lt_succ_self m, F3, ρ2, g2, s3, SPost.up h1 e3⟩
        | ct ρ2 g2 =>
          simp only [q2] at h1
          exact fun σ3 F3 H3 e3 s3 => ⟨m, Nat.lt_succ_self m, F3, ρ2, g2, s3, SPost.up h1 e3⟩
        | bk ρ2 g2 => simp only [q2] at h1; exact fun σ3 F3 H3 e3 s3 => h1 σ3 F3 H3 e3 s3
        | rt d g2 => simp only [q2] at h1; exact h1
        | exc n fs ρ2 g2 => simp only [q2] at h1; exact h1
        | bad => simp only [q2] at h1; exact h1.elim
end
def startR (n : Nat) (ds : List D) : RS := ds.map SV.d ++ List.replicate (n - ds.length) SV.un
def runB (n : Nat) (f : SF) (ds : List D) (g : G) : Out D := match f (startR n ds) g with
  | .nx _ g1 => .ok .none g1
  | .rt d g1 => .ok d g1
  | .exc n fs _ g1 => .exc n fs g1
  | _ => .bad
theorem sr_start {K : PySem.W.Frag} {cl : Str → Option Addr} {sa sb : Addr} {F H : Hp} {ds : List D} {vs : List V} {g : G} {N : List Str} (h : Same F H) (gk : GOk (mkC K cl sa sb F H) F H g) (r : RepAll (mkC K cl sa sb F H) F vs ds) : SR (mkC K cl sa sb F H) F H (L2.start N vs) (startR N.length ds) g where
  ext := Ext.refl h
  gok := gk
  g0 := ⟨_, _, gk.ha, gk.hb⟩
  len := by
    unfold L2.start startR
    simp only [List.length_append, List.length_map, List.length_replicate, r.length]
  slots := fun i x e => by
    unfold startR at e
    unfold L2.start
    by_cases hi : i < ds.length
    · rw [List.getElem?_append_left (by simpa using hi), List.getElem?_map] at e
      cases q : ds[i]? with
      | none => rw [q] at e; cases e
      | some d =>
        rw [q] at e
        cases e
        have go : ∀ {vs : List V} {ds : List D} {i : Nat} {d : D}, RepAll (mkC K cl sa sb F H) F vs ds → ds[i]? = some d → ∃ v, vs[i]? = some v ∧ Rep (mkC K cl sa sb F H) F v d := by
          intro vs ds i d r
          induction r generalizing i with
          | nil => intro e; simp at e
          | cons h t ih =>
            intro e
            cases i with
            | zero => simp at e; exact ⟨_, rfl, by rw [← e]; exact h⟩
            | succ i =>
              obtain ⟨v, h1, h2⟩ := ih (i := i) (by simpa using e)
              exact ⟨v, by simpa using h1, h2⟩
        obtain ⟨v, h1, h2⟩ := go r q
        refine ⟨v, ?_, h2⟩
        rw [List.getElem?_append_left (by rw [List.length_map, r.length]; exact hi), List.getElem?_map, h1]
        rfl
    · rw [List.getElem?_append_right (by simpa using hi), List.getElem?_replicate] at e
      split at e
      · cases e; trivial
      · cases e
  sep := fun i j xs ys a h1 => by
    unfold startR at h1
    by_cases hi : i < ds.length
    · rw [List.getElem?_append_left (by simpa using hi), List.getElem?_map] at h1
      cases q : ds[i]? with
      | none => rw [q] at h1; cases h1
      | some d => rw [q] at h1; cases h1
    · rw [List.getElem?_append_right (by simpa using hi), List.getElem?_replicate] at h1
      split at h1 <;> cases h1
section
variable {P : Program} {w : World} {K : PySem.W.Frag} {mg : Str → Option Value} {base : Heap} {cl : Str → Option Addr}
theorem fn_d {x qual : Str} {st : Stmt} {f : Addr} {fd : FuncData} {N ps : List Str} {k : Nat} {m : List D → G → Out D} {fb : SF} (Fn : Fun K x qual st f fd) (S : FnScope N ps (defScope st))
    (len : ∀ ds g, m ds g ≠ .bad → ds.length = ps.length) (hm : ∀ ds g, m ds g ≠ .bad → runB N.length fb ds g = m ds g)
    (hbody : ∀ (cdv : Value) (A : Around) (outer : List Env) (s : Shared) (H : Hp) (E : XK) (sa sb : Addr) (F0 H0 : Hp), Room k (A.deeper (envOfC qual (defScope st) s.heap.objs.size f cdv)) →
      DSs (cxOf (L2.CX P w) P w K mg base N qual (defScope st) f cdv A outer s H E) (mkC K cl sa sb F0 H0) (fun cls d _ H => E cls d H) (defBody st) fb) : FnD P w K mg base cl (k + 1) f fd ps m := by
  refine Fun.okX Fn S (fun vs H Q E ⟨sa, sb, F, ds, g, h1, h2, h3, h4⟩ => ?_) (fun cdv A outer s H vs Q E hr ⟨sa, sb, F, ds, g, h1, h2, h3, h4⟩ => ?_)
  · rw [h3.length]
    refine len ds g fun e => ?_
    rw [e] at h4
    exact h4
  · refine ⟨_, hbody cdv A outer s H E sa sb F H hr, F, startR N.length ds, g, sr_start h1 h2 h3, ?_⟩
    have hb : m ds g ≠ .bad := fun e => by rw [e] at h4; exact h4
    have e := hm ds g hb
    unfold runB at e
    rw [← e] at h4
    cases q : fb (startR N.length ds) g with
    | nx ρ g1 => rw [q] at h4; exact fun σ' F' H' _ s => h4 .non F' H' s.ext s.gok rNon
    | rt d g1 => rw [q] at h4; exact fun σ' ρ' v F' H' _ s r => h4 v F' H' s.ext s.gok r
    | exc n fs ρ g1 => rw [q] at h4; exact fun C dx vs σ' F' H' _ s hc hd hf => h4 C dx vs F' H' s.ext s.gok hc hd hf
    | bk ρ g1 => rw [q] at h4; exact h4.elim
    | ct ρ g1 => rw [q] at h4; exact h4.elim
    | bad => rw [q] at h4; exact h4.elim
end
end DL
namespace DL
open PySem
open PySem.Spec
open PyProof.Rows
open L2
inductive SVs (c : Ctx) (H F' H' : Hp) : List V → List SV → Prop
  | nil : SVs c H F' H' [] []
  | d {v : V} {x : D} {vs : List V} {ss : List SV} : Rep c F' v x → SVs c H F' H' vs ss → SVs c H F' H' (v :: vs) (.d x :: ss)
  | o {p : Addr} {ws vs : List V} {xs ds : List D} : H' p = some (.lst ws) → F' p = none → H p = none → RqAll c.K F' ws xs → RepAll c F' vs ds → SVs c H F' H' (.ref p :: vs) (.own xs :: ds.map .d)
def PostS (c : Ctx) (σ : L2.St) (o : Out (List SV)) (F H : Hp) (W : WX) (Q : List V → Hp → Prop) : Prop :=
  match o with
  | .ok ss g => ∀ vs F' H', Ext c.sa c.sb F H F' H' → GOk c F' H' g → SVs c H F' H' vs ss → Q vs H'
  | .exc n fs g => ∀ C dx vs F' H', Ext c.sa c.sb F H F' H' → GOk c F' H' g → c.cl n = some C → H' dx = some (.xd vs) → FldR c F' vs fs → W (.ref C) (some dx) σ H'
  | .bad => False
abbrev VF := RS → G → Out (List SV)
def tVs (c : Ctx) (W : WX) (f : VF) : TA := fun σ H Q => ∃ F ρ g, SR c F H σ ρ g ∧ PostS c σ (f ρ g) F H W Q
abbrev DVs (X : Cx) (c : Ctx) (W : WX) (es : List Expr) (f : VF) : Prop := PA X es (tVs c W f)
def vOf (fs : AF) : VF := fun ρ g => (fs ρ g).bind fun ds g1 => .ok (ds.map .d) g1
def vCons (fe : EF) (fs : VF) : VF := fun ρ g => (fe ρ g).bind fun x g1 => (fs ρ g1).bind fun ss g2 => .ok (.d x :: ss) g2
def vOwn (fo : OF') (fs : AF) : VF := fun ρ g => (fo ρ g).bind fun xs g1 => (fs ρ g1).bind fun ds g2 => .ok (.own xs :: ds.map .d) g2
theorem SVs.ofRep {c : Ctx} {H F' H' : Hp} : ∀ {vs : List V} {ds : List D}, RepAll c F' vs ds → SVs c H F' H' vs (ds.map .d)
  | _, _, .nil => .nil
  | _, _, .cons h t => .d h (SVs.ofRep t)
theorem fresh_back {c : Ctx} {F H F1 H1 : Hp} (e : Ext c.sa c.sb F H F1 H1) {p : Addr} (h : H1 p = none) : H p = none := by
  cases q : H p with
  | none => rfl
  | some o =>
    obtain ⟨o', q'⟩ := e.dom p o q
    rw [h] at q'
    cases q'
theorem SVs.back {c : Ctx} {F H F1 H1 F' H' : Hp} (e : Ext c.sa c.sb F H F1 H1) : ∀ {vs : List V} {ss : List SV}, SVs c H1 F' H' vs ss → SVs c H F' H' vs ss
  | _, _, .nil => .nil
  | _, _, .d h t => .d h (SVs.back e t)
  | _, _, .o h1 h2 h3 h4 h5 => .o h1 h2 (fresh_back e h3) h4 h5
theorem PostS.up {c : Ctx} {σ : L2.St} {o : Out (List SV)} {F H F' H' : Hp} {W : WX} {Q : List V → Hp → Prop} (h : PostS c σ o F H W Q) (e : Ext c.sa c.sb F H F' H') : PostS c σ o F' H' W Q := by
  cases o with
  | ok a g => exact fun vs F1 H1 s k h1 => h vs F1 H1 (e.trans s) k (h1.back e)
  | exc n fs g => exact fun C dx vs F1 H1 s => h C dx vs F1 H1 (e.trans s)
  | bad => exact h
theorem PostS.bind {α β : Type} {c : Ctx} {σ : L2.St} {ρ : RS} {g0 : G} {R : Hp → β → α → Prop} {o : Out α} {k : α → G → Out (List SV)} {F H : Hp} {W : WX} {Q : β → Hp → Prop} {Q' : List V → Hp → Prop}
    (s0 : SR c F H σ ρ g0) (h : PostS c σ (o.bind k) F H W Q') (q : ∀ a g b F1 H1, Ext c.sa c.sb F H F1 H1 → SR c F1 H1 σ ρ g → R F1 b a → PostS c σ (k a g) F1 H1 W Q' → Q b H1) : PostG c σ R o F H W Q := by
  cases o with
  | ok a g => exact fun b F1 H1 e gk r => q a g b F1 H1 e (s0.ext' e gk) r (PostS.up (show PostS c σ (k a g) F H W Q' from h) e)
  | exc n fs g => exact h
  | bad => exact h
theorem Ext.back {sa sb : Addr} {F H F' H' : Hp} (e : Ext sa sb F H F' H') {p : Addr} (h : H p = none) {F0 H0 : Hp} (e0 : Ext sa sb F0 H0 F H) : H0 p = none := by
  cases q : H0 p with
  | none => rfl
  | some o =>
    obtain ⟨o', q'⟩ := e0.dom p o q
    rw [h] at q'
    cases q'
section
variable {X : Cx} {c : Ctx} {W : WX} {pos : Pos} {e : Expr} {es : List Expr} {fe : EF} {fs : AF} {fv : VF} {st : Stmt}
theorem dv_of (ha : DA X c W es fs) : DVs X c W es (vOf fs) := PA.imp ha fun σ H Q ⟨F, ρ, g, s, h⟩ => ⟨F, ρ, g, s, PostS.bind s h fun ds g1 vs F1 H1 e1 s1 r1 h1 => h1 vs F1 H1 (Ext.refl s1.fh) s1.gok (SVs.ofRep r1)⟩
theorem dv_cons (ha : DE X c W e fe) (hr : DVs X c W es fv) (hs : starEach (e :: es) X.env = (false, eval e X.env) :: starEach es X.env := by rfl) : DVs X c W (e :: es) (vCons fe fv) :=
  PA.imp (pa_cons ha hr hs) fun σ H Q ⟨F, ρ, g, s, h⟩ => ⟨F, ρ, g, s, PostS.bind s h fun x g1 v F1 H1 e1 s1 r1 h1 => ⟨F1, ρ, g1, s1, by
    cases q : fv ρ g1 with
    | bad => simp only [q, Out.bind] at h1; exact h1
    | exc n fs g2 => simp only [q, Out.bind] at h1; exact h1
    | ok ss g2 =>
      simp only [q, Out.bind] at h1
      exact fun vs F2 H2 e2 gk r2 => h1 (v :: vs) F2 H2 e2 gk (.d (r1.mono e2.f) r2)⟩⟩
theorem dv_own {fo : OF'} (ha : DEo X c W e fo) (hr : DA X c W es fs) (hs : starEach (e :: es) X.env = (false, eval e X.env) :: starEach es X.env := by rfl) : DVs X c W (e :: es) (vOwn fo fs) :=
  PA.imp (pa_cons ha hr hs) fun σ H Q ⟨F, ρ, g, s, h⟩ => ⟨F, ρ, g, s, by
    unfold vOwn at h
    cases q : fo ρ g with
    | bad => simp only [q, Out.bind] at h; exact h
    | exc n fs g2 => simp only [q, Out.bind] at h; exact h
    | ok xs g1 =>
      simp only [q, Out.bind] at h
      intro p ws F1 H1 e1 gk1 h1 h2 h3 h4
      have s1 := s.ext' e1 gk1
      refine ⟨F1, ρ, g1, s1, ?_⟩
      cases q2 : fs ρ g1 with
      | bad => simp only [q2] at h; exact h.elim
      | exc n fs g2 => simp only [q2] at h; exact fun C dx vs F2 H2 e2 gk hc hd hf => h C dx vs F2 H2 (e1.trans e2) gk hc hd hf
      | ok ds g2 =>
        simp only [q2] at h
        intro vs F2 H2 e2 gk r2
        have na : p ≠ c.sa := (ne_of_none s.gok.ha h3).symm
        have nb : p ≠ c.sb := (ne_of_none s.gok.hb h3).symm
        exact h (.ref p :: vs) F2 H2 (e1.trans e2) gk (.o (e2.keep p _ h1 na nb) (by rw [e2.ff p _ h1]; exact h2) h3 (RqAll_mono e2.f _ _ h4) r2)⟩
def setAll : RS → List Nat → List SV → RS
  | ρ, i :: is, s :: ss => setAll (ρ.set i s) is ss
  | ρ, _, _ => ρ
def setV : L2.St → List Nat → List V → L2.St
  | σ, i :: is, v :: vs => setV (σ.set i (some v)) is vs
  | σ, _, _ => σ
theorem SR.setDs {c : Ctx} {F H : Hp} {g : G} : ∀ {is : List Nat} {vs : List V} {ds : List D} {σ : L2.St} {ρ : RS}, SR c F H σ ρ g → RepAll c F vs ds → SR c F H (setV σ is vs) (setAll ρ is (ds.map .d)) g
  | [], _, _, _, _, s, r => by cases r <;> exact s
  | i :: is, _, _, _, _, s, .nil => s
  | i :: is, _, _, _, _, s, .cons h t => SR.setDs (is := is) (s.setD h i) t
theorem SR.setSs {c : Ctx} {F0 H0 F H : Hp} {g g0 : G} : ∀ {is : List Nat} {vs : List V} {ss : List SV} {σ σ0 : L2.St} {ρ ρ0 : RS}, SR c F H σ ρ g → SVs c H0 F H vs ss → (∀ p, H0 p = none → c.H0 p = none ∧ ∀ (j : Nat) (ys : List D), ρ[j]? = some (.own ys) → σ[j]? ≠ some (some (.ref p))) → SR c F H (setV σ is vs) (setAll ρ is ss) g
  | [], _, _, _, _, _, _, s, r, _ => by cases r <;> exact s
  | i :: is, _, _, _, _, _, _, s, .nil, _ => s
  | i :: is, _, _, σ, σ0, ρ, ρ0, s, .d (v := v) (x := x) h t, k => SR.setSs (F0 := F0) (g0 := g0) (σ0 := σ0) (ρ0 := ρ0) (is := is) (s.setD h i) t fun p hp => ⟨(k p hp).1, fun j ys hj => by
      by_cases e : i = j
      · subst e
        by_cases hi : i < ρ.length
        · rw [List.getElem?_set_self hi] at hj; cases hj
        · rw [List.getElem?_eq_none (by rw [List.length_set]; omega)] at hj; cases hj
      · rw [List.getElem?_set_ne e] at hj ⊢
        exact (k p hp).2 j ys hj⟩
  | i :: is, _, _, _, _, _, _, s, .o h1 h2 h3 h4 h5, k => SR.setDs (is := is) (s.setO h1 h2 (k _ h3).1 h4 (k _ h3).2 i) h5
def sTup (is : List Nat) (fv : VF) : SF := fun ρ g => (fv ρ g).go ρ fun ss g1 => if ss.length = is.length then .nx (setAll ρ is ss) g1 else .bad
theorem SVs.length {c : Ctx} {H F' H' : Hp} : ∀ {vs : List V} {ss : List SV}, SVs c H F' H' vs ss → vs.length = ss.length
  | _, _, .nil => rfl
  | _, _, .d _ t => by rw [List.length_cons, List.length_cons, SVs.length t]
  | _, _, .o _ _ _ _ h => by rw [List.length_cons, List.length_cons, List.length_map, h.length]
theorem go_postS {c : Ctx} {σ : L2.St} {ρ : RS} {g0 : G} {o : Out (List SV)} {is : List Nat} {F H : Hp} {W : WX} {Q : List V → Hp → Prop} {E : Ends}
    (s0 : SR c F H σ ρ g0) (h : SPost c (o.go ρ fun ss g1 => if ss.length = is.length then .nx (setAll ρ is ss) g1 else .bad) F W E) (q : ∀ vs F1 H1, Ext c.sa c.sb F H F1 H1 → vs.length = is.length → (∀ F2 H2, Ext c.sa c.sb F1 H1 F2 H2 → (∀ p o, H1 p = some o → H2 p = some o) → E.nx (setV σ is vs) H2) → Q vs H1) : PostS c σ o F H W Q := by
  cases o with
  | ok ss g =>
    intro vs F1 H1 e gk r
    have h : SPost c (if ss.length = is.length then .nx (setAll ρ is ss) g else .bad) F W E := h
    obtain ⟨hl, h⟩ := h.ite
    have s1 := s0.ext' e gk
    refine q vs F1 H1 e (by rw [r.length]; exact hl) fun F2 H2 e2 hk => h _ F2 H2 (e.f.trans e2.f) ?_
    have gk2 : GOk c F2 H2 g := gk.ext (e2.ff _ _ gk.ha) (e2.ff _ _ gk.hb) (by rw [hk _ _ gk.ha, gk.ha]) (by rw [hk _ _ gk.hb, gk.hb])
    have r2 : SVs c H F2 H2 vs ss := by
      have up : ∀ {vs : List V} {ss : List SV}, SVs c H F1 H1 vs ss → SVs c H F2 H2 vs ss := by
        intro vs ss r
        induction r with
        | nil => exact .nil
        | d h t ih => exact .d (h.mono e2.f) ih
        | o h1 h2 h3 h4 h5 => exact .o (hk _ _ h1) (by rw [e2.ff _ _ h1]; exact h2) h3 (RqAll_mono e2.f _ _ h4) (h5.mono e2.f)
      exact up r
    refine SR.setSs (F0 := F) (g0 := g) (σ0 := σ) (ρ0 := ρ) (s1.ext' e2 gk2) r2 fun p hp => ⟨?_, fun j ys hj hs => ?_⟩
    · cases z : c.H0 p with
      | none => rfl
      | some o =>
        obtain ⟨o', z'⟩ := s0.ext.dom p o z
        rw [hp] at z'
        cases z'
    · obtain ⟨a, vs', k1, k2, _⟩ := s0.own hj
      rw [hs] at k1
      cases k1
      rw [hp] at k2
      cases k2
  | exc n fs g => exact fun C dx vs F1 H1 e gk hc hd hf => h C dx vs σ F1 H1 e.f (s0.ext' e gk) hc hd hf
  | bad => exact h
theorem ds_tpar {i j : Nat} (h : PS X st (tPar i j (tVs c W fv))) : DS X c W st (sTup [i, j] fv) := PS.imp h fun E σ H ⟨F, ρ, g, s, h⟩ => ⟨F, ρ, g, s, go_postS s h fun vs F1 H1 e1 hl q => by
  match vs, hl with
  | [v, w], _ => exact ⟨v, w, rfl, by
      have s1 : Same F1 H1 := e1.fh
      exact q F1 H1 (Ext.refl s1) fun _ _ h => h⟩⟩
theorem ds_tpar3 {i j l : Nat} (h : PS X st (tPar3 i j l (tVs c W fv))) : DS X c W st (sTup [i, j, l] fv) := PS.imp h fun E σ H ⟨F, ρ, g, s, h⟩ => ⟨F, ρ, g, s, go_postS s h fun vs F1 H1 e1 hl q => by
  match vs, hl with
  | [v, w, u], _ => exact ⟨v, w, u, rfl, q F1 H1 (Ext.refl e1.fh) fun _ _ h => h⟩⟩
def gNames : List Nat → TGs
  | [] => gNil
  | i :: is => gCons (gName i) (gNames is)
theorem gNames_run : ∀ {is : List Nat} {vs : List V} {σ : L2.St} {H : Hp} {Q : L2.St → Hp → Prop}, vs.length = is.length → Q (setV σ is vs) H → gNames is vs σ H Q
  | [], [], _, _, _, _, h => ⟨rfl, h⟩
  | i :: is, v :: vs, σ, H, Q, hl, h => ⟨v, vs, rfl, gNames_run (is := is) (by simpa using hl) h⟩
theorem ds_tasg {is : List Nat} {n : Nat} (h : PS X st (tAsg (tTup (tVs c W fv)) (gTup X.K n (gNames is)))) (hn : is.length = n) (hz : n ≤ LIM) : DS X c W st (sTup is fv) := PS.imp h fun E σ H ⟨F, ρ, g, s, h⟩ => ⟨F, ρ, g, s, go_postS s h fun vs F1 H1 e1 hl q => by
  refine ⟨lim_ok (by omega), fun p np => ⟨p, vs, rfl, SqT.of upd_same, by omega, gNames_run hl ?_⟩⟩
  exact q F1 _ (Ext.newM e1.fh np) fun b o z => by rw [upd_ne (ne_of_none z np)]; exact z⟩
end
def flatD : D → Bool
  | .none => true
  | .bool _ => true
  | .int _ => true
  | .str _ => true
  | _ => false
theorem flat_rq {K : PySem.W.Frag} {F : Hp} {v : V} {d : D} (h : Rq K F v d) : flatV v = flatD d := by cases h <;> rfl
theorem flat_all {K : PySem.W.Frag} {F : Hp} : ∀ {vs : List V} {ds : List D}, RqAll K F vs ds → vs.all flatV = ds.all flatD
  | _, _, .nil => rfl
  | _, _, .cons h t => by rw [List.all_cons, List.all_cons, flat_rq h, flat_all t]
theorem eqV_rq {K : PySem.W.Frag} {F : Hp} {v u : V} {d e : D} (h : Rq K F v d) (k : Rq K F u e) (h1 : flatD d = true) (h2 : flatD e = true) : eqV v u = PyData.eqv d e := by
  cases h <;> first | (cases h1; done) | (cases k <;> first | (cases h2; done) | (simp only [eqV, PyData.eqv]; done) | rfl)
theorem any_rq {K : PySem.W.Frag} {F : Hp} {u : V} {e : D} (k : Rq K F u e) (h2 : flatD e = true) : ∀ {vs : List V} {ds : List D}, RqAll K F vs ds → ds.all flatD = true → inV u vs = ds.any fun z => PyData.eqv z e
  | _, _, .nil, _ => rfl
  | _, _, .cons h t, f => by
    simp only [List.all_cons, Bool.and_eq_true] at f
    have ih := any_rq k h2 t f.2
    unfold inV at ih ⊢
    rw [List.any_cons, List.any_cons, ih, eqV_rq h k f.1 h2]
def opIn (neg : Bool) (x y : D) (g : G) : Out D := match y with
  | .list ds => if shp x = true ∧ shp (.list ds) = true then .ok (.bool (if neg then !(ds.any fun z => PyData.eqv z x) else ds.any fun z => PyData.eqv z x)) g else .bad
  | .tuple ds => if flatD x = true ∧ ds.all flatD = true then .ok (.bool (if neg then !(ds.any fun z => PyData.eqv z x) else ds.any fun z => PyData.eqv z x)) g else .bad
  | _ => .bad
theorem OpR.of_or {X : Cx} {f : Value → Value → Sem Value} {r r' : R2} (h : OpR X f r) (h' : OpR X f r') : OpR X f (fun x y H Q => r x y H Q ∨ r' x y H Q) := h.or h'
section
variable {X : Cx} {c : Ctx} {W : WX} {pos : Pos} {a b : Expr} {fa fb : EF}
theorem d_in (hK : c.K = X.K) (hu : X.A.units + 65 < cLine) (ha : DE X c W a fa) (hb : DE X c W b fb) (hm : behindInMarks .In b = false := by rfl) : DC X c W (.Compare a [.In] [b] pos) (eBin (opIn false) fa fb) :=
  d_cmp ((op_in_seq).or (op_inD hu)) (by
    intro σ ρ g F H x y dx dy Q s rx ry h
    unfold opIn at h
    split at h
    · obtain ⟨⟨h1, h2⟩, h⟩ := h.ite
      refine .inr ⟨dx, _, Rq_dp _ _ (Rq_mono s.fh _ _ (by rw [← hK]; exact rx.rq (shp_tok h1))), Rq_dp _ _ (Rq_mono s.fh _ _ (by rw [← hK]; exact ry.rq (by intro e; cases e))), h1, h2, h.now s rBl⟩
    · obtain ⟨⟨h1, h2⟩, h⟩ := h.ite
      obtain ⟨p, vs, rfl, q1, q2⟩ := ry.tuple
      have rq := rx.rq (fun e => by rw [e] at h1; cases h1)
      refine .inl ⟨p, vs, rfl, .inr (by rw [← hK]; exact seqT_mono s.fh q1), by rw [flat_rq rq]; exact h1, by rw [flat_all q2]; exact h2, ?_⟩
      rw [any_rq rq h1 q2 h2]
      exact h.now s rBl
    · exact h.elim) ha hb hm
theorem d_notIn (hK : c.K = X.K) (hu : X.A.units + 65 < cLine) (ha : DE X c W a fa) (hb : DE X c W b fb) (hm : behindInMarks .NotIn b = false := by rfl) : DC X c W (.Compare a [.NotIn] [b] pos) (eBin (opIn true) fa fb) :=
  d_cmp ((op_notIn_seq).or (op_notInD hu)) (by
    intro σ ρ g F H x y dx dy Q s rx ry h
    unfold opIn at h
    split at h
    · obtain ⟨⟨h1, h2⟩, h⟩ := h.ite
      refine .inr ⟨dx, _, Rq_dp _ _ (Rq_mono s.fh _ _ (by rw [← hK]; exact rx.rq (shp_tok h1))), Rq_dp _ _ (Rq_mono s.fh _ _ (by rw [← hK]; exact ry.rq (by intro e; cases e))), h1, h2, h.now s rBl⟩
    · obtain ⟨⟨h1, h2⟩, h⟩ := h.ite
      obtain ⟨p, vs, rfl, q1, q2⟩ := ry.tuple
      have rq := rx.rq (fun e => by rw [e] at h1; cases h1)
      refine .inl ⟨p, vs, rfl, .inr (by rw [← hK]; exact seqT_mono s.fh q1), by rw [flat_rq rq]; exact h1, by rw [flat_all q2]; exact h2, ?_⟩
      rw [any_rq rq h1 q2 h2]
      exact h.now s rBl
    · exact h.elim) ha hb hm
end
def iSeq (fe : EF) : LF := fun ρ g => (fe ρ g).bind fun x g1 => match x with
  | .list xs => .ok xs g1
  | .tuple xs => .ok xs g1
  | _ => .bad
theorem di_seq {X : Cx} {c : Ctx} {W : WX} {tg e : Expr} {fe : EF} (hK : c.K = X.K) (ha : DE X c W e fe) : DI X c W tg e (iSeq fe) := ⟨fun pins s σ H R I w => by
  obtain ⟨F, ρ, g, sr, h⟩ := w
  unfold iSeq at h
  cases q : fe ρ g with
  | bad => simp only [q, Out.bind] at h; exact h.elim
  | exc n fs g1 => exact (di_list (tg := tg) hK ha).run pins s σ H R I ⟨F, ρ, g, sr, by unfold iLst; simp only [q, Out.bind] at h ⊢; exact h⟩
  | ok x g1 =>
    cases x with
    | list xs => exact (di_list (tg := tg) hK ha).run pins s σ H R I ⟨F, ρ, g, sr, by unfold iLst; simp only [q, Out.bind] at h ⊢; exact h⟩
    | tuple xs => exact (di_tup (tg := tg) hK ha).run pins s σ H R I ⟨F, ρ, g, sr, by unfold iTpl; simp only [q, Out.bind] at h ⊢; exact h⟩
    | _ => simp only [q, Out.bind] at h; exact h.elim⟩
section
variable {X : Cx} {c : Ctx} {W : WX} {st : Stmt} {own : List (Str × Nat)} {fi : LF} {b : BF} {ft : TF} {fe : EF} {is : List Nat}
theorem ds_lcO {i : Nat} (sub : ∀ i ∈ is, i ∈ own.map (·.2)) (h : PS X st (tAsg (tLc (tI c W fi) (tG c is b) (tT c W0 ft) (tE c W0 fe) (own.map (·.2))) (gName i))) : DS X c W st (sSetO i (oComp (own.map (·.2)) fi b ft fe)) :=
  ds_setO (PS.imp h fun E σ H w => lc_imp sub σ H _ w)
theorem ds_lc {i : Nat} (sub : ∀ i ∈ is, i ∈ own.map (·.2)) (h : PS X st (tAsg (tLc (tI c W fi) (tG c is b) (tT c W0 ft) (tE c W0 fe) (own.map (·.2))) (gName i))) : DS X c W st (sSet i (eOf (oComp (own.map (·.2)) fi b ft fe))) :=
  ds_set (PS.imp h fun E σ H w => lc_imp sub σ H _ (of_imp σ H _ w))
end
structure Df (K : PySem.W.Frag) (mg : Str → Option Value) (x : Str) (st : Stmt) (ps : List Str) where
  f : Addr
  fd : FuncData
  F : Fun K x x st f fd
  b : Binds K fd ps []
  g : mg x = some (.ref f)
def mOf (n np : Nat) (f : SF) (ds : List D) (g : G) : Out D := if ds.length = np then runB n f ds g else .bad
theorem fn_m {P : Program} {w : World} {K : PySem.W.Frag} {mg : Str → Option Value} {base : Heap} {cl : Str → Option Addr} {x : Str} {st : Stmt} {N ps : List Str} {k : Nat} {fb : SF} (T : Df K mg x st ps) (S : FnScope N ps (defScope st)) {n np : Nat} (hn : n = N.length) (hp : np = ps.length)
    (hbody : ∀ (cdv : Value) (A : Around) (outer : List Env) (s : Shared) (H : Hp) (E : XK) (sa sb : Addr) (F0 H0 : Hp), Room k (A.deeper (envOfC x (defScope st) s.heap.objs.size T.f cdv)) →
      DSs (cxOf (L2.CX P w) P w K mg base N x (defScope st) T.f cdv A outer s H E) (mkC K cl sa sb F0 H0) (fun cls d _ H => E cls d H) (defBody st) fb) : FnD P w K mg base cl (k + 1) T.f T.fd ps (mOf n np fb) := by
  subst hn hp
  refine fn_d T.F S (fun ds g h => ?_) (fun ds g h => ?_) hbody
  · unfold mOf at h
    split at h
    · assumption
    · exact absurd rfl h
  · unfold mOf at h ⊢
    split at h
    · rename_i e; rw [if_pos e]
    · exact absurd rfl h
end DL
namespace DL
open PySem
open PySem.Spec
open PyProof.Rows
open L2
structure ExcK (K : PySem.W.Frag) (pr : Program) (C : Addr) (fld : Str) (st : Stmt) where
  f : Addr
  fd : FuncData
  T : OexC K C
  cc : Addr
  cda : Addr
  ex : ∃ (oc : Value) (od : Option Addr) (kV doc pm : Value) (an : Option Addr) (ct : Value) (osl : Array (Option Value)) (qual : Str), fd = PySem.W.ksFn "__init__" qual (defArgs st) (defBody st) (defScope st) .none kV doc pm an (.ref cda) ct cc ∧ K.lookup f = some ⟨oc, od, .func fd, osl⟩ ∧ PySem.W.codeIn K (.ref cda) qual = true
  code : ∃ (ccl : Value) (cdd : Option Addr) (vs : Array Value) (ccs : Array (Option Value)) (file : Str) (tf : Tok), K.lookup cda = some ⟨ccl, cdd, .fields vs, ccs⟩ ∧ vs[2]? = some (.str file tf) ∧ ((pr.main.file : Str) == file) = true
  cell : ∃ (cl : Value) (cld : Option Addr) (csl : Array (Option Value)), K.lookup cc = some ⟨cl, cld, .cell (some (.ref C)), csl⟩
  cls : ∃ cd, PySem.W.clsIn K C = some cd
  mro : PySem.W.mroIn K C (.ref C) = some true
  sup : PySem.W.ks_superIn K C C "__init__" = some (some (.builtin "ValueError.__init__"))
  sub : PySem.W.subIn K (.ref C) (.type "ValueError") = some true
  nosup : PySem.W.nsIn K mainGlobals "super" = some none
  noany : PySem.W.nsIn K PySem.cStatics "thirdparty.any" = some none
  top : (pr.main.scope.names.lookup ("super" : Str)).isSome = false
  fin : PySem.W.findIn K (.ref C) fld = some none
  ini : PySem.W.findIn K (.ref C) "__init__" = some (some (.ref f))
  tf : PySem.W.typeIn K (.ref f) = some (.type "function")
def InitForm (st : Stmt) (fld : Str) (msg : Str) : Prop := ∃ (p1 p2 p3 p4 p5 p6 p7 p8 p9 p10 p11 p12 : Pos) (k : Nat), (p3.endLine == p7.line) = true ∧ defBody st = [
  .Expr (.Call (.Attribute (.Call (.Name "super" p1) [] [] p2) "__init__" p3) [.BinOp (.Constant (.str msg) k p4) .Add (.Name fld p5) p6] [] p7) p8,
  .Assign [.Attribute (.Name "self" p9) fld p10] (.Name fld p11) p12]
structure InitSc (sc : Scope) (fld : Str) : Prop where
  kind : sc.kind = .function
  co : sc.isCoroutine = false
  gen : sc.isGenerator = false
  self : sc.names.lookup ("self" : Str) = some .local
  fld : sc.names.lookup fld = some .local
  cls : sc.names.lookup ("__class__" : Str) = some .free
  sup : sc.names.lookup ("super" : Str) = some .globalImplicit
  nocell : ∀ x ∈ sc.names, x.2 ≠ .cell
  free : ∀ y : Str, sc.names.lookup y = some .free → y = "__class__"
def spI (K : PySem.W.Frag) (C : Addr) (fld msg : Str) : Sp := fun vs H Q _ => ∃ (a : Addr) (z : Str), vs = [.ref a, .str z] ∧ H a = some (exo a C none) ∧ msg.length + z.length ≤ sizeLine ∧ ∀ d, H d = none → d ≠ a → Q .non (upd (upd H d (exd d [(fld, .str z)])) a (exo a C (some d)))
section
variable {P : Program} {w : World} {K : PySem.W.Frag} {mg : Str → Option Value} {base : Heap} {C : Addr} {fld msg : Str} {st : Stmt}
abbrev cxI (P : Program) (w : World) (K : PySem.W.Frag) (mg : Str → Option Value) (base : Heap) (fld : Str) (env : Env) (A : Around) (outer : List Env) (s : Shared) (H : Hp) (xe : Value → Shared → Prop) : Cx where
  prog := P
  w := w
  K := K
  mg := mg
  base := base
  A := A.deeper env
  N := ["self", fld]
  s_0 := s
  H_0 := H
  env := env
  outer := outer
  stack := env :: outer
  ex := []
  fn := fun _ => false
  calm := true
  pn := []
  xe := xe
theorem init_ok (T : ExcK K P C fld st) (hs : InitForm st fld msg) (sc : InitSc (defScope st) fld) (hne : fld ≠ "self") (har : ((defArgs st).posonlyargs ++ (defArgs st).args).head?.map (fun a => a.arg) = some ("self" : Str))
    (hd1 : (fld == ("__debug__" : Str)) = false) (hd2 : (fld == ("__classdict__" : Str)) = false) (hmg : mg "super" = none) :
    FnOk P w K mg base (L2.CX P w) 1 T.f T.fd ["self", fld] (spI K C fld msg) := by
  obtain ⟨f, fd, OT, cc, cda, ⟨oc, od, kV, doc, pm, an, ct, osl, qual, rfl, lk, hcd⟩, ⟨ccl, cdd, vs2, ccs, file, tf, hcode, hvs2, hfile⟩, ⟨ccl2, cld, csl, hcell⟩, ⟨cdC, hcls⟩, hmro, hsup, hsub, hnosup, hnoany, htop, hfin, hini, htf⟩ := T
  obtain ⟨p1, p2, p3, p4, p5, p6, p7, p8, p9, p10, p11, p12, kk, hp37, hbody⟩ := hs
  refine ⟨fun vs H Q E ⟨a, z, e, _⟩ => by rw [e]; rfl, fun A outer s H args us vs Q E hr e0 hb r ⟨a, z, ev, ea, hz, hq⟩ => ?_⟩
  subst ev
  obtain ⟨u1, u2, rfl, r1, t2, rfl⟩ : ∃ u1 u2, us = [u1, u2] ∧ u1 = Value.ref a ∧ ∃ t, u2 = Value.str z t := by
    cases r with
    | cons p q => cases q with
      | cons p' q' => cases q'; exact ⟨_, _, rfl, p, p'⟩
  subst r1
  have KX : K.In s.heap := e0.mod.kin.keeps fun b o e => (e0.bs b o e).1
  have lim : s.heap.NoLimit := e0.mod.nolimit.keeps fun b o e => (e0.bs b o e).1
  have zp : (["self", fld] : List Str).zip [Value.ref a, Value.str z t2] = [(("self" : Str), Value.ref a), (fld, Value.str z t2)] := rfl
  rw [zp] at hb
  refine PySem.ks_codeAny_call_defAt (body := defBody st) (binds := [(("self" : Str), Value.ref a), (fld, Value.str z t2)]) hr.depth (KX _ _ lk) rfl lim (PySem.W.codeRec_of KX hcd) rfl hb sc.nocell (fun x hx => ?_) (fun h₀ hns hk => ?_) sc.co sc.gen sc.kind
  · rcases List.mem_cons.mp hx with rfl | hx
    · exact sc.self
    · rcases List.mem_cons.mp hx with rfl | hx
      · exact sc.fld
      · cases hx
  have KX0 : K.In h₀ := KX.keeps hk
  -- the frame
  obtain ⟨oC, hC1, hC2⟩ : ∃ oD, h₀.get? C = some oD ∧ oD.data = .cls cdC := by
    unfold PySem.W.clsIn at hcls
    split at hcls
    · rename_i c d cd' sl ho
      cases hcls
      exact ⟨_, KX0 _ _ ho, rfl⟩
    · cases hcls
  generalize henv : callEnv (PySem.W.ksFn "__init__" qual (defArgs st) (defBody st) (defScope st) Value.none kV doc pm an (Value.ref cda) ct cc) s.heap.objs.size f = env
  have eL : env.locals = s.heap.objs.size := by rw [← henv]; rfl
  have eC : env.cells = [(("__class__" : Str), cc)] := by rw [← henv]; rfl
  have eS : env.scope = defScope st := by rw [← henv]; rfl
  have eF : env.frame = some s.heap.objs.size := by rw [← henv]; rfl
  have eG : env.globals = mainGlobals := by rw [← henv]; rfl
  have eB : env.builtins = builtinsNs := by rw [← henv]; rfl
  have eU : env.func = some f := by rw [← henv]; rfl
  have eD : env.code = .ref cda := by rw [← henv]; rfl
  have cl1 : ∀ (x : Str) c, env.cells.lookup x = some c → x = "__class__" ∧ c = cc := fun x c e => by
    rw [eC] at e
    simp only [List.lookup_cons, List.lookup_nil] at e
    split at e
    · rename_i h1
      exact ⟨by simpa using h1, (Option.some.inj e).symm⟩
    · cases e
  have vis : ∀ x : Str, Vis env.scope x → x = "self" ∨ x = fld ∨ x = "__class__" ∨ True := fun _ _ => .inr (.inr (.inr trivial))
  generalize hx : (fun e s' => wpAny (model P w) (A.deeper env) (leaving env e) (fun _ s'' => CR (L2.CX P w) outer P w H s Q E (.error e) s'') (fun e' s'' => CR (L2.CX P w) outer P w H s Q E (.error e') s'') s' : Value → Shared → Prop) = xe
  have ok : (cxI P w K mg base fld env A outer s H xe).Ok := by
    have noA : ∀ b : Addr, b ∉ (cxI P w K mg base fld env A outer s H xe).ex := fun b z => absurd (show b ∈ ([] : List Addr) from z) (by simp)
    exact {
      mod := e0.mod
      kind := by show env.scope.kind = _; rw [eS]; exact sc.kind
      glob := eG
      blt := eB
      above := by show s.heap.objs.size ≤ env.locals; rw [eL]; exact Nat.le_refl _
      inj := fun x y c h1 h2 => by rw [(cl1 x c h1).1, (cl1 y c h2).1]
      has := fun x hx => by
        rcases hx with hx | hx
        · have hx : env.scope.names.lookup x = some .cell := hx
          rw [eS] at hx
          exact absurd rfl (sc.nocell _ (PySem.mem_of_lookup hx))
        · have hx : env.scope.names.lookup x = some .free := hx
          rw [eS] at hx
          refine ⟨cc, ?_⟩
          rw [sc.free x hx]
          show env.cells.lookup _ = _
          rw [eC]
          rfl
      cab := fun x c h1 _ => by cases h1
      hd := fun _ => hr.hd
      frames := Around.frames_deeper e0.frames
      stk := .inr ⟨rfl, by show env.frame = some env.locals; rw [eF, eL]⟩
      exf := fun b z => absurd z (noA b)
      bs := e0.bs
      bsz := e0.bsz
      noex := fun b o _ => noA b
      exfs := fun b z => absurd z (noA b)
      funs := e0.funs
      frf := e0.frf }
  have hcc0 : base.get? cc = some ⟨ccl2, cld, .cell (some (.ref C)), csl⟩ := e0.mod.kin _ _ hcell
  have I : Inv (cxI P w K mg base fld env A outer s H xe) [] [some (.ref a), some (.str z)] H { s with heap := h₀, toks := s.toks + 2 } := {
    ok := ok
    os := rfl
    bare := e0.bare
    base := Un.kept hk
    loc := by
      refine ⟨_, by show h₀.Ns env.locals _; rw [eL]; exact hns, fun i x v h1 h2 h3 => ?_⟩
      match i, h1, h2 with
      | 0, h1, h2 =>
        cases h1
        cases h2
        refine ⟨.ref a, rfl, .inl ⟨by show env.scope.names.lookup _ = _; rw [eS]; exact sc.self, ?_⟩⟩
        show List.lookup _ [(fld, Value.str z t2), (("self" : Str), Value.ref a)] = _
        rw [List.lookup_cons, show (("self" : Str) == fld) = false from by simp [Ne.symm hne]]
        rfl
      | 1, h1, h2 =>
        cases h1
        cases h2
        refine ⟨.str z t2, ⟨t2, rfl⟩, .inl ⟨by show env.scope.names.lookup _ = _; rw [eS]; exact sc.fld, ?_⟩⟩
        show List.lookup _ [(fld, Value.str z t2), (("self" : Str), Value.ref a)] = _
        rw [List.lookup_cons, show (fld == fld) = true from by simp]
      | i + 2, h1, h2 => simp at h2
    cell := fun x c h1 => by
      obtain ⟨_, rfl⟩ := cl1 x c h1
      exact ⟨_, _, hk _ _ ((e0.bs _ _ hcc0).1), rfl⟩
    free := by show H env.locals = none; rw [eL]; exact e0.hok.fresh (Nat.le_refl _)
    freeC := fun x c h1 => by
      obtain ⟨_, rfl⟩ := cl1 x c h1
      exact (e0.bs _ _ hcc0).2
    pin := fun p hp => absurd (show p ∈ ([] : List (Addr × Obj)) from hp) (by simp)
    hok := e0.hok.kept hk
    len := rfl }
  have hks : env.kindOf "super" = some .globalImplicit := by show env.scope.names.lookup _ = _; rw [eS]; exact sc.sup
  have hkc : env.kindOf "__class__" = some .free := by show env.scope.names.lookup _ = _; rw [eS]; exact sc.cls
  have hkk : env.scope.kind = .function := by rw [eS]; exact sc.kind
  obtain ⟨ar, har1, har2⟩ : ∃ ar, ((defArgs st).posonlyargs ++ (defArgs st).args).head? = some ar ∧ ar.arg = ("self" : Str) := by
    cases q : ((defArgs st).posonlyargs ++ (defArgs st).args).head? with
    | none => rw [q] at har; cases har
    | some ar => rw [q] at har; exact ⟨ar, rfl, Option.some.inj har⟩
  rw [hbody]
  show _root_.PySem.wpAt _ _ _ (execs _ env) _ _ _
  have he : eval (.Call (.Attribute (.Call (.Name "super" p1) [] [] p2) "__init__" p3) [.BinOp (.Constant (.str msg) kk p4) .Add (.Name fld p5) p6] [] p7) env = (do
      let ov ← attributeBase (.Call (.Name "super" p1) [] [] p2) "__init__" env (eval (.Call (.Name "super" p1) [] [] p2) env)
      standAt p3.atName
      let (f, first) ← holding [ov] (getMethod ov "__init__" (do return (← importBound (.Call (.Name "super" p1) [] [] p2) env).getD true))
      callWith p7 f first (backTo p7 (starEach [.BinOp (.Constant (.str msg) kk p4) .Add (.Name fld p5) p6] env)) []) := by
    show (do
      let ov ← attributeBase (.Call (.Name "super" p1) [] [] p2) "__init__" env (eval (.Call (.Name "super" p1) [] [] p2) env)
      standAt p3.atName
      methodCall (.Call (.Name "super" p1) [] [] p2) "__init__" p3 p7 env ov 1 (backTo p7 (starEach [.BinOp (.Constant (.str msg) kk p4) .Add (.Name fld p5) p6] env)) []) = _
    have e1 : methodCallForm 1 (backTo p7 (starEach [.BinOp (.Constant (.str msg) kk p4) .Add (.Name fld p5) p6] env)) [] = true := rfl
    unfold methodCall methodCallPos calleeOf
    rw [e1, hp37]
    rfl
  refine PySem.ks_wpAt_execs_cons (PySem.ks_wpAt_Expr_any (PySem.ks_wpAt_MethodCall ?_ he) (by unfold interactive; rw [hkk]; rfl))
  refine PySem.ks_wpAt_super_base (f := f) (cc := cda) (ar := ar) hks hkc (by decide) eU (KX0 _ _ lk) rfl har1 eD (KX0 _ _ hcode) rfl hvs2 hfile htop ?_
  have gl : h₀.Ns mainGlobals mg := e0.mod.glob.keeps I.bk
  obtain ⟨mb, hb1, hb2⟩ := e0.mod.blt
  have bl : h₀.Ns builtinsNs mb := hb1.keeps I.bk
  have bsup : bootBuiltins "super" = some (.type "super") := by decide +kernel
  refine PySem.W.ks_loadName_global hkk hks (Calls.loadGlobal_builtin (by rw [eG]; exact gl) hmg (by rw [eB]; exact bl) ((hb2 "super" (by decide)).trans bsup) ⟨rfl, ?_⟩)
  refine wpAny_loadName_free hkk hkc (c := cc) (v := .ref C) (by rw [eC]; rfl) ⟨_, KX0 _ _ hcell, rfl⟩ ?_
  obtain ⟨m, hm1, hm2⟩ := I.loc
  obtain ⟨u0, hu0, hl0⟩ := hm2 0 "self" (.ref a) rfl rfl (by show Vis env.scope _; rw [eS]; exact .inl sc.self)
  cases hu0
  have hself : m "self" = some (.ref a) := by
    rcases hl0 with h | ⟨h, _⟩
    · exact h.2
    · have h : env.scope.names.lookup ("self" : Str) = some .cell ∨ env.scope.names.lookup ("self" : Str) = some .free := h
      rw [eS, sc.self] at h
      rcases h with h | h <;> cases h
  rw [har2]
  refine wpAny_loadName_local hkk (by show env.scope.names.lookup _ = _; rw [eS]; exact sc.self) hm1 hself ?_
  refine PySem.ks_wpAny_isType_cls hC1 hC2 ⟨rfl, ?_⟩
  obtain ⟨t1, hoa⟩ := exo_at I.hok ea
  have hoa : h₀.get? a = some ({ cls := .ref C, dict := none, data := .fields #[.ref t1, .none, .none, .none, .bool false, .none] } : Obj) := hoa
  refine PySem.ks_wpAny_call_super hC1 hC2 hoa rfl (fun c e => by cases e) (PySem.W.looks_mroIn KX0 hmro) (fun h1 hso hk1 => ?_)
  -- the super object stands
  have I1 : Inv (cxI P w K mg base fld env A outer s H xe) [] [some (.ref a), some (.str z)] H { s with heap := h1, toks := s.toks + 2 } := I.kept (t' := s.toks + 2) hk1
  have KX1 : K.In h1 := KX0.keeps hk1
  have hoa1 := hk1 _ _ hoa
  have hac : a ≠ C := fun e => by
    rw [e, hC1] at hoa
    cases hoa
    cases hC2
  obtain ⟨cd, hcd1, hcd2⟩ : ∃ cd, PySem.W.clsIn K C = some cd ∧ PySem.W.alongIn K "__init__" ((cd.mro.dropWhile (· != .ref C)).drop 1) = some (some (.builtin "ValueError.__init__")) := by
    refine ⟨cdC, hcls, ?_⟩
    unfold PySem.W.ks_superIn at hsup
    rw [hcls] at hsup
    exact hsup
  refine PySem.W.kxs_getMethod PySem.W.kxs_ValueError hso (PySem.W.looks_opaque KX1 hnoany) (l₀ := cd.mro) (fun A Q E s k q => wpAny_bind ((PySem.W.looks_clsIn KX1 hcd1) A _ E s k (wpAny_pure q))) rfl KX1 hcd2
    (fun A Q E s k q => wpAny_bind (wpAny_typeOf_ref (k _ _ hoa1) ((PySem.W.looks_subIn KX1 hsub) A _ E s k q))) hac (by decide) ?_
  show wpAny _ _ (callWith p7 (.ref h1.objs.size) [] (backTo p7 ((false, eval (.BinOp (.Constant (.str msg) kk p4) .Add (.Name fld p5) p6) env) :: starEach [] env)) []) _ _ _
  generalize hs2 : ({ heap := h1.push (PySem.W.kxs_mw "ValueError.__init__" a), gens := s.gens, drawn := s.drawn, toks := s.toks + 2 + 1, os := s.os } : Shared) = s2
  have hu2 : s2.heap.get? h1.objs.size = some (PySem.W.kxs_mw "ValueError.__init__" a) := by rw [← hs2]; exact Heap.get?_push_at rfl rfl
  have I2 : Inv (cxI P w K mg base fld env A outer s H xe) [] [some (.ref a), some (.str z)] H s2 := by
    rw [← hs2]
    exact I1.kept (t' := s.toks + 2 + 1) fun b o e => Heap.get?_push_of_some _ e
  have hu0 : H h1.objs.size = none := I1.hok.fresh (Nat.le_refl _)
  have I3 : Inv (cxI P w K mg base fld env A outer s H xe) [(h1.objs.size, PySem.W.kxs_mw "ValueError.__init__" a)] [some (.ref a), some (.str z)] H s2 := I2.pins_of fun p hp => by
    have e : p = (h1.objs.size, PySem.W.kxs_mw "ValueError.__init__" a) := by simpa using hp
    subst e
    refine ⟨hu2, hu0, Nat.ne_of_gt I1.lt, I1.nofs (Nat.le_refl _), fun v e => by cases e⟩
  have pfld : PE (cxI P w K mg base fld env A outer s H xe) (.Name fld p5) (tVar 1) := pe_var rfl (by show Vis env.scope _; rw [eS]; exact .inl sc.fld) hd1 hd2
  have pself : PE (cxI P w K mg base fld env A outer s H xe) (.Name "self" p9) (tVar 0) := pe_var rfl (by show Vis env.scope _; rw [eS]; exact .inl sc.self) (by decide) (by decide)
  have pfld2 : PE (cxI P w K mg base fld env A outer s H xe) (.Name fld p11) (tVar 1) := pe_var rfl (by show Vis env.scope _; rw [eS]; exact .inl sc.fld) hd1 hd2
  have pargs : PA (cxI P w K mg base fld env A outer s H xe) [.BinOp (.Constant (.str msg) kk p4) .Add (.Name fld p5) p6] _ := pa_cons (pe_op op_add_str pe_str pfld) pa_nil
  refine PySem.W.kxs_callWith (i := "ValueError.__init__") (x := a) rfl (Calls.evalArgs_plain ?_)
  refine wpAny_mono (pargs.run p7 _ s2 _ H (fun vs H' => vs = [.str (msg ++ z)] ∧ H' = H) I3 ⟨_, rfl, msg, z, rfl, rfl, hz, rfl, rfl⟩) (fun us s3 hu3 => ?_) fun _ _ h => h
  obtain ⟨vs, H', I4, r4, rfl, rfl⟩ := hu3
  obtain ⟨v4, rfl, t4, rfl⟩ := vals1 r4
  refine ⟨(I4.pin _ (List.mem_append_right _ (List.mem_singleton.mpr rfl))).1, ?_⟩
  have hu3 : s3.heap.get? h1.objs.size = some (PySem.W.kxs_mw "ValueError.__init__" a) := (I4.pin _ (List.mem_append_right _ (List.mem_singleton.mpr rfl))).1
  obtain ⟨t5, ho5⟩ := exo_at I4.hok ea
  obtain ⟨nm, q, N, bs, bm, sn, sub, ab, col, dd, k0, k1, k2, k3, k5, hC, hbm⟩ := OT.cls
  have hC3 := I4.kIn _ _ hC
  have hex : ExcBaseFacts "ValueError" "ValueError.__new__" "ValueError.__init__" _ := PySem.F.excBase_ValueError
  show wpAny _ _ (call (.ref h1.objs.size) [.str (msg ++ z) t4]) _ _ _
  have I5 : Inv (cxI P w K mg base fld env A outer s H' xe) [] [some (.ref a), some (.str z)] H' s3 := I4.pins_of fun p hp => by simp at hp
  obtain ⟨hp3, g3, d3, tk3, os3⟩ := s3
  refine wpAny_call (codeAny_of_tree ?_)
  show wpAny _ (A.deeper env).in1 (callAny (.ref h1.objs.size) ⟨[.str (msg ++ z) t4], []⟩) _ _ _
  simp only [callAny]
  refine wpAny_bind (wpAny_load hu3 ?_)
  have ek : (Value.type "method-wrapper" == Value.type "method" || Value.type "method-wrapper" == Value.type "builtin_function_or_method" || Value.type "method-wrapper" == Value.type "method-wrapper") = true := by decide
  simp only [PySem.W.kxs_mw, ek, if_true]
  refine PySem.W.KFB.if_so (by decide) (wpAny_bind (PySem.W.check_bound_init hex.toExcCallFacts hC3 ho5 rfl (wpAny_bind (wpAny_pure (wpAny_pure ?_)))))
  refine ⟨PySem.plainId_quiet hex.init.plain _, codeAny_builtin hex.initEntry (PySem.W.exc_init_tree (cls := .ref C) (t0 := t5) (dv := none) (c2 := .none) (c3 := .none) (b4 := .bool false) ho5 (by rw [sizeLine_eq]; exact (by decide : 1 ≤ 16777216)) fun h6 hk6 hx6 _ => ?_)⟩
  have J := I5.write (t' := tk3) (x := a) (e := a) (o := exo a C none) (by rw [ea]; exact True.intro) (.inl rfl) hk6 ⟨_, hx6⟩ (exo_ok hx6)
  have eu : upd H' a (exo a C none) = H' := by
    funext b
    by_cases hb : b = a
    · rw [hb, upd_same, ea]
    · rw [upd_ne hb]
  rw [eu] at J
  have st2 := pss_one (ps_ost (f := fld) (p' := p10) (pos := p12) pself pfld2)
  have run2 := st2.run [] { heap := h6, gens := g3, drawn := d3, toks := tk3, os := os3 } _ H' { nx := fun _ H2 => Q .non H2, rt := fun _ _ => False } J
    ⟨.str z, rfl, .ref a, rfl, a, C, rfl, OT, hfin, .inl ⟨ea, fun d hd1 hd2 => hq d hd1 hd2⟩⟩
  refine wpAt_of_wpAny (wpAny_mono run2 (fun fl s7 h7 => ?_) fun _ _ h => h)
  cases fl with
  | next =>
    obtain ⟨σ7, H7, J7, q7⟩ := h7
    exact ⟨.non, H7, J7.os, J7.bare, J7.base, J7.hok, rfl, q7⟩
  | ret v => obtain ⟨_, _, _, _, _, z⟩ := h7; exact z.elim
  | brk => obtain ⟨_, _, _, z⟩ := h7; exact z.elim
  | cont => obtain ⟨_, _, _, z⟩ := h7; exact z.elim
end
end DL
namespace DL
open PySem
open PySem.Spec
open PyProof.Rows
open L2
structure Ex (K : PySem.W.Frag) (mg : Str → Option Value) (pr : Program) (x fld msg : Str) (st : Stmt) where
  C : Addr
  g : mg x = some (.ref C)
  k : ExcK K pr C fld st
  b : Binds K k.fd ["self", fld] []
  xf : XfC K C
def sRaise (n fld : Str) (fe : EF) : SF := fun ρ g => (fe ρ g).go ρ fun d g1 => match d with
  | .str z => if z.length ≤ LIM then .exc n [(fld, .str z)] ρ g1 else .bad
  | _ => .bad
section
variable {X : Cx} {c : Ctx} {W : WX} {pos p pos' : Pos} {e : Expr} {fe : EF} {x fld msg : Str} {st : Stmt}
theorem ds_raise (hK : c.K = X.K) (T : Ex X.K X.mg X.prog x fld msg st) (I : FnOk X.prog X.w X.K X.mg X.base (L2.CX X.prog X.w) 1 T.k.f T.k.fd ["self", fld] (spI X.K T.C fld msg)) (hm : msg.length ≤ LIM) (hcl : c.cl x = some T.C) (hc : X.calm = true) (hr : Room 2 X.A) (tk : Takes X W) (hg : Gl X x) (he : DE X c W e fe)
    (hdb : (x == ("__debug__" : Str)) = false := by decide) (hs : starEach [e] X.env = (false, eval e X.env) :: starEach [] X.env := by rfl) (hpl : (backTo pos (starEach [] X.env)).any (·.1) = false := by rfl) :
    DS X c W (.Raise (some (.Call (.Name x p) [e] [] pos)) none pos') (sRaise x fld fe) :=
  PS.imp (ps_raise hc tk (pmk_oex T.k.T T.k.ini T.k.tf I hr T.b .nil (fun _ _ _ _ _ _ _ h => by obtain ⟨_, _, _, _, _, _, _, _, _, _, _, _, z⟩ := h; exact z.elim) hg T.g (pa_cons he pa_nil hs) hdb hs hpl)) fun E σ H ⟨F, ρ, g, s, h⟩ => by
    refine ⟨F, ρ, g, s, go_post s h fun d g1 v F1 H1 e1 s1 r1 h1 => ?_⟩
    cases d with
    | str z =>
      cases r1.str
      obtain ⟨hl, h1⟩ := h1.ite
      refine ⟨by show 1 ≤ 1000; decide, fun a na => ⟨a, z, rfl, upd_same, ?_, fun d nd ned => ⟨rfl, d, [(fld, V.str z)], upd_same, ?_, ?_, ?_⟩⟩⟩
      · rw [sizeLine_eq]
        have hm' : msg.length ≤ 1000000 := hm
        have hl' : z.length ≤ 1000000 := hl
        omega
      · rw [upd_ne ned, upd_same]
      · rw [upd_ne ned] at nd; exact nd
      · have nd1 : H1 d = none := by rw [upd_ne ned] at nd; exact nd
        have eq : upd (del (upd (upd (upd H1 a (exo a T.C none)) d (exd d [(fld, V.str z)])) a (exo a T.C (some d))) a) d (.xd [(fld, V.str z)]) = upd H1 d (.xd [(fld, V.str z)]) := by
          funext b
          by_cases hb : b = d
          · rw [hb, upd_same, upd_same]
          · rw [upd_ne hb, upd_ne hb]
            by_cases ha : b = a
            · rw [ha, del_same, na]
            · rw [del_ne ha, upd_ne ha, upd_ne hb, upd_ne ha]
        rw [eq]
        exact h1 T.C d _ σ F1 _ (Same.refl _) (s1.newM nd1) hcl upd_same (.cons ⟨rfl, .str z⟩ .nil)
    | _ => exact h1.elim
def noEx : RS → Bool
  | [] => true
  | .ex _ :: _ => false
  | _ :: r => noEx r
theorem noEx_get : ∀ {ρ : RS} {i : Nat} {fs : List (Str × D)}, noEx ρ = true → ρ[i]? ≠ some (.ex fs)
  | [], _, _, _, h => by simp at h
  | .ex _ :: _, _, _, h, _ => by cases h
  | .un :: r, 0, _, _, h => by simp at h
  | .d _ :: r, 0, _, _, h => by simp at h
  | .own _ :: r, 0, _, _, h => by simp at h
  | .un :: r, i + 1, _, h, e => noEx_get (ρ := r) (i := i) h (by simpa using e)
  | .d _ :: r, i + 1, _, h, e => noEx_get (ρ := r) (i := i) h (by simpa using e)
  | .own _ :: r, i + 1, _, h, e => noEx_get (ρ := r) (i := i) h (by simpa using e)
theorem SR.at {F H : Hp} {σ : L2.St} {ρ : RS} {g : G} (s : SR c F H σ ρ g) (n : noEx ρ = true) {a d a0 d0 : Addr} : SR ((c.at a0 d0).at a d) F H σ ρ g where
  ext := s.ext
  gok := GOk.conv (c := c) rfl rfl s.gok
  g0 := s.g0
  len := s.len
  slots := fun i x h => by
    have q := s.slots i x h
    cases x with
    | un => trivial
    | d x => exact q
    | own xs => exact q
    | ex fs => exact absurd h (noEx_get n)
  sep := s.sep
theorem SR.back {F H : Hp} {σ : L2.St} {ρ : RS} {g : G} {a d : Addr} (s : SR (c.at a d) F H σ ρ g) (n : noEx ρ = true) : SR c F H σ ρ g where
  ext := s.ext
  gok := GOk.conv (c := c.at a d) rfl rfl s.gok
  g0 := s.g0
  len := s.len
  slots := fun i x h => by
    have q := s.slots i x h
    cases x with
    | un => trivial
    | d x => exact q
    | own xs => exact q
    | ex fs => exact absurd h (noEx_get n)
  sep := s.sep
theorem SR.setE {F H : Hp} {σ : L2.St} {ρ : RS} {g : G} (s : SR c F H σ ρ g) {vs : List (Str × V)} {fs : List (Str × D)} (h1 : H c.ed = some (.xd vs)) (h2 : FldR c F vs fs) (i : Nat) : SR c F H (σ.set i (some (.ref c.ea))) (ρ.set i (.ex fs)) g where
  ext := s.ext
  gok := s.gok
  g0 := s.g0
  len := by rw [List.length_set, List.length_set, s.len]
  slots := fun j y h => by
    by_cases hj : i = j
    · subst hj
      by_cases hi : i < ρ.length
      · rw [List.getElem?_set_self hi] at h
        cases h
        rw [List.getElem?_set_self (by rw [s.len]; exact hi)]
        exact ⟨vs, rfl, h1, h2⟩
      · rw [List.getElem?_eq_none (by rw [List.length_set]; omega)] at h
        cases h
    · rw [List.getElem?_set_ne hj] at h ⊢
      exact s.slots j y h
  sep := fun j k xs ys a h1 h2 h3 h4 => by
    have n1 : i ≠ j := fun e => by
      subst e
      by_cases hi : i < ρ.length
      · rw [List.getElem?_set_self hi] at h1; cases h1
      · rw [List.getElem?_eq_none (by rw [List.length_set]; omega)] at h1; cases h1
    have n2 : i ≠ k := fun e => by
      subst e
      by_cases hi : i < ρ.length
      · rw [List.getElem?_set_self hi] at h2; cases h2
      · rw [List.getElem?_eq_none (by rw [List.length_set]; omega)] at h2; cases h2
    rw [List.getElem?_set_ne n1] at h1 h3
    rw [List.getElem?_set_ne n2] at h2 h4
    exact s.sep j k xs ys a h1 h2 h3 h4
def sTry (i : Nat) (n : Str) (fb fh : SF) : SF := fun ρ g => match fb ρ g with
  | .exc m fs ρ1 g1 => if m = n then (if noEx ρ1 = true then (match fh (ρ1.set i (.ex fs)) g1 with
      | .nx ρ2 g2 => if noEx (ρ2.set i .un) = true then .nx (ρ2.set i .un) g2 else .bad
      | .bk ρ2 g2 => if noEx (ρ2.set i .un) = true then .bk (ρ2.set i .un) g2 else .bad
      | .ct ρ2 g2 => if noEx (ρ2.set i .un) = true then .ct (ρ2.set i .un) g2 else .bad
      | .rt d g2 => .rt d g2
      | _ => .bad) else .bad) else .exc m fs ρ1 g1
  | o => o
theorem FldR.conv {c c' : Ctx} (h : c.K = c'.K) {F : Hp} {vs : List (Str × V)} {fs : List (Str × D)} (r : FldR c F vs fs) : FldR c' F vs fs := by
  unfold FldR at r ⊢
  rw [← h]
  exact r
theorem Rep.conv {c c' : Ctx} (h1 : c.K = c'.K) (h2 : c.sa = c'.sa) {F : Hp} {v : V} {d : D} (h : Rep c F v d) : Rep c' F v d := by
  unfold Rep at h ⊢
  rw [← h1, ← h2]
  exact h
theorem ds_try {i : Nat} {n : Str} {C : Addr} {body suite : List Stmt} {b₀ : Stmt} {np : Pos} {nn : Str} {fb fh : SF} (hs : X.stack = X.env :: X.outer) (hf : X.env.frame = some X.env.locals) (hN : X.N.Nodup) (hi : X.N[i]? = some nn) (hln : X.env.kindOf nn = some .local) (hK : c.K = X.K) (hc : Names X n (.ref C)) (hcl : c.cl n = some C)
    (hmt : ∀ (m : Str) (C' : Addr), c.cl m = some C' → PySem.W.exmOne X.K (.ref C') (.ref C) = some (decide (m = n))) (tk : Takes X W)
    (hb : ∀ (W : WX) (pn : List (Addr × Obj)) (xe : Value → Shared → Prop), Takes (X.tr pn xe) W → PassesOwn (model X.prog X.w) X.A X.env xe → DSs (X.tr pn xe) c W body fb)
    (hsu : ∀ (a dd : Addr) (oe : Obj) (pn : List (Addr × Obj)), Zc (.ref C) (some dd) oe → (∃ vs, oe.data = .fields vs) → DSs (X.suite a ((a, oe) :: pn)) (c.at a dd) W0 (b₀ :: suite) fh) :
    DS X c W (.Try body [.ExceptHandler (some (.Name n np)) (some nn) (b₀ :: suite) pos'] [] [] pos) (sTry i n fb fh) :=
  PS.imp (ps_try_as (tb := fun W => tS c W fb) (ts := fun a cls d E σ H => cls = .ref C ∧ ∃ dd, d = some dd ∧ tS (c.at a dd) W0 fh E σ H) (Wout := W) hs hf hN hi hln hc tk hb fun a oe cls d pn hz hd =>
    ⟨fun pins s σ H E I w => by
      obtain ⟨rfl, dd, rfl, w⟩ := w
      exact (hsu a dd oe pn hz hd).run pins s σ H E I w⟩) fun E σ H ⟨F, ρ, g, s, h⟩ => by
    refine ⟨F, ρ, g, s, ?_⟩
    unfold sTry at h
    cases q : fb ρ g with
    | nx ρ1 g1 => simp only [q] at h; exact h
    | rt d g1 => simp only [q] at h; exact h
    | bk ρ1 g1 => simp only [q] at h; exact h
    | ct ρ1 g1 => simp only [q] at h; exact h
    | bad => simp only [q] at h; exact h
    | exc m fs ρ1 g1 =>
      simp only [q] at h
      intro C' dx vs σ1 F1 H1 e1 s1 hc1 hd1 hf1
      refine ⟨decide (m = n), hmt m C' hc1, fun hb a na => ?_, fun hb => ?_⟩
      · have em : m = n := of_decide_eq_true hb
        rw [if_pos em] at h
        by_cases hn : noEx ρ1 = true
        · rw [if_pos hn] at h
          have ec : C' = C := by rw [em, hcl] at hc1; exact (Option.some.inj hc1).symm
          subst ec
          have s2 : SR (c.at a dx) F1 H1 (σ1.set i (some (.ref a))) (ρ1.set i (.ex fs)) g1 := SR.setE (c := c.at a dx) (s1.at (a0 := a) (d0 := dx) hn) (h1 := hd1) (FldR.conv (c := c) rfl hf1) i
          refine ⟨rfl, dx, rfl, F1, _, g1, s2, ?_⟩
          cases q2 : fh (ρ1.set i (.ex fs)) g1 with
          | nx ρ2 g2 =>
            simp only [q2] at h
            obtain ⟨hn2, h⟩ := h.ite
            exact fun σ3 F3 H3 e3 s3 => h _ F3 H3 (e1.trans e3) (SR.back (c := c) (s3.unset none i) hn2)
          | bk ρ2 g2 =>
            simp only [q2] at h
            obtain ⟨hn2, h⟩ := h.ite
            exact fun σ3 F3 H3 e3 s3 => h _ F3 H3 (e1.trans e3) (SR.back (c := c) (s3.unset none i) hn2)
          | ct ρ2 g2 =>
            simp only [q2] at h
            obtain ⟨hn2, h⟩ := h.ite
            exact fun σ3 F3 H3 e3 s3 => h _ F3 H3 (e1.trans e3) (SR.back (c := c) (s3.unset none i) hn2)
          | rt d g2 =>
            simp only [q2] at h
            exact fun σ3 ρ3 v F3 H3 e3 s3 r3 => by
              have s4 : SR c F3 H3 (σ3.map fun _ => none) (ρ3.map fun _ => .un) g2 := {
                ext := s3.ext
                gok := GOk.conv (c := c.at a dx) rfl rfl s3.gok
                g0 := s3.g0
                len := by rw [List.length_map, List.length_map, s3.len]
                slots := fun j y hy => by
                  rw [List.getElem?_map] at hy
                  cases z : ρ3[j]? with
                  | none => rw [z] at hy; cases hy
                  | some y' => rw [z] at hy; cases hy; trivial
                sep := fun j k xs ys b k1 => by
                  rw [List.getElem?_map] at k1
                  cases z : ρ3[j]? with
                  | none => rw [z] at k1; cases k1
                  | some y' => rw [z] at k1; cases k1 }
              exact h _ _ v F3 H3 (e1.trans e3) s4 (Rep.conv (c := c.at a dx) rfl rfl r3)
          | exc _ _ _ _ => simp only [q2] at h; exact h.elim
          | bad => simp only [q2] at h; exact h.elim
        · rw [if_neg hn] at h; exact h.elim
      · have em : ¬ m = n := of_decide_eq_false hb
        rw [if_neg em] at h
        exact h C' dx vs σ1 F1 H1 e1 s1 hc1 hd1 hf1
def eExF (i : Nat) (f : Str) : EF := fun ρ g => match ρ[i]? with
  | some (.ex fs) => match fs.lookup f with
    | some d => .ok d g
    | none => .bad
  | _ => .bad
theorem FldR.get {F : Hp} {f : Str} {d : D} : ∀ {vs : List (Str × V)} {fs : List (Str × D)}, FldR c F vs fs → fs.lookup f = some d → ∃ v, vs.lookup f = some v ∧ Rq c.K F v d
  | _, _, .nil, h => by cases h
  | (n, v) :: vs, (n', d') :: fs, .cons h t, e => by
    obtain ⟨h1, h2⟩ := h
    have h1 : n = n' := h1
    subst h1
    rw [List.lookup_cons] at e ⊢
    split at e
    · cases e; exact ⟨v, rfl, h2⟩
    · exact FldR.get t e
theorem d_xf {i : Nat} {f : Str} {C a d : Addr} {oe : Obj} {pn : List (Addr × Obj)} (T : XfC X.K C) (hno : PySem.W.findIn X.K (.ref C) f = some none) (hz : Zc (.ref C) (some d) oe) (hf : ∃ vs, oe.data = .fields vs) (he : PE (X.suite a ((a, oe) :: pn)) e (tVar i)) (hb : attributeBase e f X.env (eval e X.env) = eval e X.env := by rfl) :
    DE (X.suite a ((a, oe) :: pn)) (c.at a d) W (.Attribute e f pos) (eExF i f) := PE.imp (pe_xf T hno hz hf he hb) fun σ H Q ⟨F, ρ, g, s, h⟩ => by
  unfold eExF at h
  split at h
  · rename_i fs hi
    split at h
    · rename_i d0 hl
      obtain ⟨vs, k1, k2, k3⟩ := s.slots i _ hi
      obtain ⟨v, hv, rv⟩ := k3.get hl
      exact ⟨.ref a, k1, rfl, rfl, d, vs, v, rfl, k2, hv, h.now s (.inl (Rq_mono (Same.refl F) _ _ rv))⟩
    · exact h.elim
  · exact h.elim
def tIfF (t a b : TF) : TF := fun ρ g => (t ρ g).bind fun k g1 => if k = true then a ρ g1 else b ρ g1
theorem dt_if {a b : Expr} {ft fa fb : TF} (ht : DT X c W e ft) (ha : DT X c W a fa) (hb : DT X c W b fb) : DT X c W (.IfExp e a b pos) (tIfF ft fa fb) := ⟨fun pins s σ H Q I ⟨F, ρ, g, sr, h⟩ => by
  refine isTrue_IfExp (thn (ht.run pins s σ H (fun k H' => if k = true then tT c W fa σ H' Q else tT c W fb σ H' Q) I ⟨F, ρ, g, sr, PostG.bind sr h fun k g1 v F1 H1 e1 s1 r1 h1 => ?_⟩) fun k s1 ⟨H1, I1, q1⟩ => ?_)
  · cases r1
    cases k with
    | true => exact ⟨F1, ρ, g1, s1, h1⟩
    | false => exact ⟨F1, ρ, g1, s1, h1⟩
  · cases k with
    | true => exact ha.run pins s1 σ H1 Q I1 q1
    | false => exact hb.run pins s1 σ H1 Q I1 q1⟩
def eRev (fa : EF) : EF := fun ρ g => (fa ρ g).bind fun x g1 => match x with
  | .list xs => .ok (.list xs.reverse) g1
  | _ => .bad
theorem RqAll.rev {K : PySem.W.Frag} {F : Hp} : ∀ {vs : List V} {ds : List D}, RqAll K F vs ds → RqAll K F vs.reverse ds.reverse
  | _, _, .nil => .nil
  | _, _, .cons h t => by
    rw [List.reverse_cons, List.reverse_cons]
    exact (RqAll.rev t).append (.cons h .nil)
theorem d_rev {k : Nat} {p1 p2 p3 : Pos} (hK : c.K = X.K) (ha : DE X c W e fe) : DE X c W (.Subscript e (.Slice none none (some (.UnaryOp .USub (.Constant (.int 1) k p1) p2)) p3) pos) (eRev fe) :=
  PE.imp (pe_revL ha) fun σ H Q ⟨F, ρ, g, s, h⟩ => ⟨F, ρ, g, s, PostG.bind s h fun x g1 v F1 H1 e1 s1 r1 h1 => by
    cases x with
    | list xs =>
      obtain ⟨p, vs, rfl, q1, q2⟩ := r1.list
      exact ⟨p, vs, rfl, by rw [← hK]; exact SqL.of (s1.fh _ _ q1), fun q n => h1.newList s1 n q2.rev⟩
    | _ => exact h1.elim⟩
end
end DL
namespace DL
open PySem
open PySem.Spec
open PyProof.Rows
open L2
def rvN (n : Nat) (i : Int) : Nat := (max (-1) (min (if i < 0 then i + n else i) ((n : Int) - 1)) + 1).toNat
theorem rv_bounds (n : Nat) (i : Int) : sliceBounds (some i) none (some (-1)) n = ((rvN n i : Int) - 1, -1, -1) := by
  simp only [sliceBounds, Option.getD_some, rvN]
  have h : ¬ ((-1 : Int) > 0) := by decide
  simp only [h, if_false]
  congr 1
  omega
theorem rvN_le (n : Nat) (i : Int) : rvN n i ≤ n := by
  unfold rvN
  omega
theorem rv_pick (items : Array Value) (i : Int) : slicePick items (some i) none (some (-1)) = (items.toList.take (rvN items.size i)).reverse.toArray := by
  unfold slicePick
  rw [rv_bounds]
  show ((sliceRange ((rvN items.size i : Int) - 1) (-1) (-1)).filterMap (items[·]?)).toArray = _
  rw [PySem.W.krv_sliceRange, PySem.W.krv_range, List.filterMap_reverse]
  have h := pick_run items 0 (rvN items.size i)
  have e : (List.range (rvN items.size i)).map (0 + ·) = List.range (rvN items.size i) := by
    rw [show ((0 + ·) : Nat → Nat) = id from funext fun k => Nat.zero_add k, List.map_id]
  rw [e, List.drop_zero] at h
  rw [h]
theorem PostG.conseq {α β : Type} {c : Ctx} {σ : L2.St} {R : Hp → β → α → Prop} {o : Out α} {F H : Hp} {W : WX} {Q Q' : β → Hp → Prop} (h : PostG c σ R o F H W Q) (q : ∀ b H', Q b H' → Q' b H') : PostG c σ R o F H W Q' := by
  cases o with
  | ok a g => exact fun b F' H' e k r => q b H' (h b F' H' e k r)
  | exc n fs g => exact h
  | bad => exact h.elim
def eRevF (fa fi : EF) : EF := fun ρ g => (fa ρ g).bind fun x g1 => match x with
  | .list xs => (fi ρ g1).bind fun y g2 => match y with
    | .int i => .ok (.list (xs.take (rvN xs.length i)).reverse) g2
    | _ => .bad
  | _ => .bad
section
variable {X : Cx} {c : Ctx} {W : WX} {pos : Pos} {e lo : Expr} {fe fi : EF}
theorem Paired.take' {α β : Type} {r : α → β → Prop} : ∀ {xs : List α} {ys : List β} (n : Nat), Paired r xs ys → Paired r (xs.take n) (ys.take n)
  | _, _, 0, _ => .nil
  | _, _, _ + 1, .nil => .nil
  | _, _, n + 1, .cons h t => .cons h (Paired.take' n t)
theorem d_revF {k : Nat} {p1 p2 p3 : Pos} (hK : c.K = X.K) (he : DE X c W e fe) (hl : DE X c W lo fi) : DE X c W (.Subscript e (.Slice (some lo) none (some (.UnaryOp .USub (.Constant (.int 1) k p1) p2)) p3) pos) (eRevF fe fi) := by
  refine ⟨fun pins s σ H Q I ⟨F, ρ, g, sr, h⟩ => ?_⟩
  have w : tE c W fe σ H fun x H1 => ∃ a xs, x = .ref a ∧ H1 a = some (.lst xs) ∧ tE c W fi σ H1 fun y H2 => ∃ i, y = .int i ∧ H2 a = some (.lst xs) ∧ ∀ q, H2 q = none → Q (.ref q) (upd H2 q (.lst (xs.take (rvN xs.length i)).reverse)) :=
    ⟨F, ρ, g, sr, PostG.bind sr h fun x g1 v F1 H1 e1 s1 r1 h1 => by
      cases x with
      | list ds =>
        obtain ⟨a, vs, rfl, q1, q2⟩ := r1.list
        refine ⟨a, vs, rfl, s1.fh _ _ q1, F1, ρ, g1, s1, PostG.bind s1 h1 fun y g2 u F2 H2 e2 s2 r2 h2 => ?_⟩
        cases y with
        | int i =>
          cases r2.int
          refine ⟨i, rfl, s2.fh _ _ (e2.f _ _ q1), fun q n => ?_⟩
          have h2 : PostG c σ (Rep c) (.ok (.list (ds.take (rvN ds.length i)).reverse) g2) F2 H2 W Q := h2
          rw [q2.len]
          exact h2.newList s2 n (RqAll.rev ((RqAll_mono e2.f _ _ q2).take _))
        | _ => exact h2.elim
      | _ => exact h1.elim⟩
  refine Subscript_ (thn (he.run pins s σ H _ I w) fun v s1 ⟨x, H1, I1, r1, q1⟩ => ?_)
  obtain ⟨a, xs, ex, hx, q⟩ := q1
  subst ex
  cases r1
  have hst : PO X (some (.UnaryOp .USub (.Constant (.int 1) k p1) p2)) (tPart (tUn (rU fun i => .int (-i)) (tC (.int 1)))) := po_some (pe_un un_neg pe_int)
  have hlo : PO X (some lo) (tPart (tE c W fi)) := po_some hl
  refine wpAny_Slice (thn (hlo.run pins s1 σ H1 (fun o H2 => ∃ i, o = some i ∧ H2 a = some (.lst xs) ∧ ∀ q, H2 q = none → Q (.ref q) (upd H2 q (.lst (xs.take (rvN xs.length i)).reverse))) I1 ?_) fun vl s2 ⟨l, H2, I2, pl, i, el, hx2, q2⟩ => ?_)
  · obtain ⟨F', ρ', g', sr', h'⟩ := q
    exact ⟨F', ρ', g', sr', h'.conseq fun b H' ⟨i, e1, e2, e3⟩ => ⟨i, e1, i, rfl, e2, e3⟩⟩
  subst el
  refine thn (po_none.run pins s2 σ H2 (fun o H3 => o = none ∧ H3 = H2) I2 ⟨rfl, rfl⟩) fun vu s3 ⟨u, H3, I3, pu, eu, e3⟩ => ?_
  subst eu e3
  refine thn (hst.run pins s3 σ H3 (fun o H4 => o = some (-1) ∧ H4 = H3) I3 ⟨1, rfl, -1, rfl, rfl, rfl⟩) fun vs s4 ⟨o, H4, I4, ps, eo, e4⟩ => ?_
  subst eo e4
  have I5 : Inv X pins σ H4 { s4 with heap := s4.heap.push { cls := .type "slice", data := .fields #[vl, vu, vs] } } := I4.kept (t' := s4.toks) fun b ob q => Heap.get?_push_of_some _ q
  obtain ⟨its, r, ht, hz⟩ := I5.list (SqL.of hx2)
  have hlen := r.length
  show wpAny (model X.prog X.w) X.A (subscriptTail e (.Slice (some lo) none (some (.UnaryOp .USub (.Constant (.int 1) k p1) p2)) p3) (.ref a) (.ref s4.heap.objs.size)) (EP X pins σ Q) X.xe { s4 with heap := s4.heap.push { cls := .type "slice", data := .fields #[vl, vu, vs] } }
  refine tail_any (ops := [.ref a, .ref s4.heap.objs.size]) ht.isList.typeIs (PySem.slot_list_getitem.lookup) ?_ (by with_unfolding_all rfl)
  refine wpAny_getItem_list_slice ht.isList (Heap.IsSliceOf.new _ vl vu vs) pl pu ps (by decide) ?_ (by rw [List.size_toArray]; omega)
  rw [rv_pick]
  have ez : its.toArray.size = xs.length := by rw [List.size_toArray]; exact hlen.symm
  rw [ez]
  refine ⟨.ref _, _, I5.laid (t' := s4.toks) (o := .lst (xs.take (rvN xs.length i)).reverse) (fun b ob q => Heap.get?_push_of_some _ q) (Nat.le_refl _) ?_, rfl, q2 _ (I5.hok.fresh (Nat.le_refl _))⟩
  refine ⟨by rw [List.length_reverse, List.length_take]; omega, _, 0, Vals.reverse (Paired.take' _ r), Heap.get?_push_size _ rfl⟩
end
end DL
namespace DL
open PySem
open PySem.Spec
open PyProof.Rows
open L2
def stir (cell s : Int) : Int := ((cell * 48271 + s * 69621) % 2147483647 * 16807 + s * 7919) % 1000000007 / 7
def takeG (most : Int) (g : G) : Int × G :=
  let at_ := (g.1 % (g.2.length : Int)).toNat
  let cell := g.2.getD at_ 0
  if 1000000000000000000 ≤ cell then (cell % most, (g.1, g.2.set at_ (cell / most))) else (stir cell (g.1 + 1) % most, (g.1 + 1, g.2))
def m_take (ds : List D) (g : G) : Out D := match ds with
  | [.dict [(.none, .none)], .int most] => if most < 2 then .ok (.int 0) g else if most.natAbs.log2 < 9000 then .ok (.int (takeG most g).1) (takeG most g).2 else .bad
  | _ => .bad
theorem m_take_args {ds : List D} {g : G} (h : m_take ds g ≠ .bad) : ∃ most, ds = [tokD, .int most] ∧ m_take ds g = (if most < 2 then .ok (.int 0) g else if most.natAbs.log2 < 9000 then .ok (.int (takeG most g).1) (takeG most g).2 else .bad) := by
  unfold m_take at h ⊢
  split at h
  · rename_i most
    exact ⟨most, rfl, rfl⟩
  · exact absurd rfl h
theorem take_ok (most : Int) (g : G) (h : most < 2 ^ 200) : ∃ r g', m_take [tokD, .int most] g = .ok (.int r) g' ∧ 0 ≤ r ∧ (r < most ∨ r = 0) := by
  by_cases h2 : most < 2
  · refine ⟨0, g, ?_, Int.le_refl _, .inr rfl⟩
    show (if most < 2 then _ else _) = _
    rw [if_pos h2]
  · have hl : most.natAbs.log2 < 9000 := by
      have h1 : most.natAbs < 2 ^ 200 := by
        have e : ((2 : Int) ^ 200) = ((2 ^ 200 : Nat) : Int) := by rw [Int.natCast_pow]; rfl
        rw [e] at h
        omega
      exact Nat.lt_trans ((Nat.log2_lt (by omega)).mpr h1) (by decide)
    refine ⟨(takeG most g).1, (takeG most g).2, ?_, ?_, .inl ?_⟩
    · show (if most < 2 then _ else if _ then _ else _) = _
      rw [if_neg h2, if_pos hl]
    · unfold takeG
      dsimp only
      split
      · exact Int.emod_nonneg _ (by omega)
      · exact Int.emod_nonneg _ (by omega)
    · unfold takeG
      dsimp only
      split
      · exact Int.emod_lt_of_pos _ (by omega)
      · exact Int.emod_lt_of_pos _ (by omega)
theorem GOk.same {c : Ctx} {F H : Hp} {g : G} (k : GOk c F H g) (h : Same F H) : True := trivial
theorem Ext.st {sa sb p : Addr} {F H : Hp} {o : HO} (h : Same F H) (hp : p = sa ∨ p = sb) (hf : F p = none) : Ext sa sb F H F (upd H p o) where
  f := Same.refl F
  fh := fun b x e => by
    have n : b ≠ p := ne_of_none e hf
    rw [upd_ne n]
    exact h b x e
  keep := fun q x e n1 n2 => by
    have n : q ≠ p := by
      rcases hp with rfl | rfl
      · exact n1
      · exact n2
    rw [upd_ne n]
    exact e
  dom := fun q x e => by
    by_cases n : q = p
    · exact ⟨o, by rw [n, upd_same]⟩
    · exact ⟨x, by rw [upd_ne n]; exact e⟩
  ff := fun _ _ _ => rfl
theorem ixN0 {n : Nat} {k : Int} {j : Nat} (h : k = j) (hj : j < n) : ixN n k = some j := by
  unfold ixN
  rw [if_pos (by omega), if_pos (by omega)]
  congr 1
  omega
theorem atI0 {α : Type} {xs : List α} {k : Int} {j : Nat} {v : α} (h : k = j) (hv : xs[j]? = some v) : atI xs k = some v := by
  have hj : j < xs.length := by
    cases Nat.lt_or_ge j xs.length with
    | inl h => exact h
    | inr h => rw [List.getElem?_eq_none h] at hv; cases hv
  unfold atI
  rw [ixN0 h hj]
  exact hv
theorem rep_take {K : PySem.W.Frag} {cl : Str → Option Addr} {sa sb : Addr} {F H : Hp} {vs : List V} {most : Int} (r : RepAll (mkC K cl sa sb F H) F vs [tokD, .int most]) : vs = [.ref sa, .int most] := by
  cases r with
  | cons h1 t =>
    cases t with
    | cons h2 t =>
      cases t
      cases h2.int
      rcases h1 with h | ⟨h, _⟩
      · cases h
      · rw [h]
abbrev rMod : R2 := rI (fun _ j => 0 < j) fun i j => V.int (i % j)
abbrev tInt1 (t : TE) : TE := tCB (fun xs H Q => (∃ i, xs = [V.int i] ∧ Q (V.int i) H) ∨ ∃ k, xs = [V.bl k] ∧ Q (V.int (if k = true then 1 else 0)) H) (tCons t tNil)
abbrev rAdd0 : R2 := rI0 fun i j => V.int (i + j)
abbrev rMul0 : R2 := rI CMul fun i j => V.int (i * j)
def tTake (K : PySem.W.Frag) : TS :=
  tSeq (tIfS (tTest (tOp (rI0 fun i j => V.bl (decide (i < j))) (tVar 1) (tC (V.int 2)))) (tRet (tC (V.int 0))) tNext)
  (tSeq (tAsg (tOp (rIxL K) (tVar 0) (tC (V.int 1))) (gName 2))
  (tSeq (tAsg (tOp rMod (tInt1 (tOp (rIxL K) (tVar 0) (tC (V.int 0)))) (tCB (fun xs H Q => ∃ x n, xs = [x] ∧ LenV K x H n ∧ Q (V.int ↑n) H) (tCons (tVar 2) tNil))) (gName 3))
  (tSeq (tAsg (tOp (rIxL K) (tVar 2) (tVar 3)) (gName 4))
  (tSeq (tIfS (tTest (tOp (rI0 fun i j => V.bl (decide (j ≤ i))) (tVar 4) (tC (V.int 1000000000000000000))))
    (tSeq (tAsg (tOp (rI CDivW fun i j => V.int (i / j)) (tVar 4) (tVar 1)) (gSub (tVar 2) (tVar 3) rSetL)) (tRet (tOp rMod (tInt1 (tVar 4)) (tVar 1)))) tNext)
  (tSeq (tAsg (tOp rAdd0 (tOp (rIxL K) (tVar 0) (tC (V.int 0))) (tC (V.int 1))) (gSub (tVar 0) (tC (V.int 0)) rSetL))
  (tSeq (tAsg (tOp rMod (tInt1 (tOp rAdd0 (tOp rMul0 (tVar 4) (tC (V.int 48271))) (tOp rMul0 (tOp (rIxL K) (tVar 0) (tC (V.int 0))) (tC (V.int 69621))))) (tC (V.int 2147483647))) (gName 5))
  (tSeq (tAsg (tOp rMod (tInt1 (tOp rAdd0 (tOp rMul0 (tVar 5) (tC (V.int 16807))) (tOp rMul0 (tOp (rIxL K) (tVar 0) (tC (V.int 0))) (tC (V.int 7919))))) (tC (V.int 1000000007))) (gName 5))
  (tRet (tOp rMod (tInt1 (tOp (rI CDiv fun i j => V.int (i / j)) (tVar 5) (tC (V.int 7)))) (tVar 1))))))))))
theorem take_run {K : PySem.W.Frag} {cl : Str → Option Addr} {sa sb : Addr} {F H : Hp} {g : G} {most : Int} {Q : VK} {E : XK} {E' : Ends} (hE : E' = { nx := fun x H' => Q V.non H', rt := Q }) (h1 : Same F H) (h2 : GOk (mkC K cl sa sb F H) F H g)
    (h4 : CPost (mkC K cl sa sb F H) F H (if most < 2 then .ok (.int 0) g else if most.natAbs.log2 < 9000 then .ok (.int (takeG most g).1) (takeG most g).2 else .bad) Q E) {σ : L2.St} (hσ : σ = [some (.ref sa), some (.int most), none, none, none, none]) :
    tTake K E' σ H := by
  subst hE hσ
  have ha : H sa = some (.lst [.int g.1, .ref sb]) := h2.ha
  have hb : H sb = some (.lst (g.2.map V.int)) := h2.hb
  have fa : F sa = none := h2.fa
  have fb : F sb = none := h2.fb
  have ne : sa ≠ sb := h2.ne
  have wf : g.2 ≠ [] := h2.wf
  have hl : 0 < g.2.length := List.length_pos_iff.mpr wf
  refine ⟨.int most, rfl, most, 2, rfl, rfl, _, rfl, ite2 (fun e => ?_) (fun e => ?_)⟩
  · have e : most < 2 := of_decide_eq_true e
    rw [if_pos e] at h4
    exact h4 _ F H (Ext.refl h1) h2 rInt
  · have e : ¬ most < 2 := fun z => e (decide_eq_true z)
    rw [if_neg e] at h4
    by_cases hw : most.natAbs.log2 < 9000
    · rw [if_pos hw] at h4
      have pos : 0 < most := by omega
      refine ⟨.ref sa, rfl, sa, _, 1, .ref sb, rfl, rfl, SqL.of ha, rfl, ?_⟩
      refine ⟨.ref sa, rfl, sa, _, 0, .int g.1, rfl, rfl, SqL.of ha, rfl, .inl ⟨g.1, rfl, ?_⟩⟩
      have hp : (0 : Int) < g.2.length := by omega
      refine ⟨.ref sb, rfl, .ref sb, g.2.length, rfl, .inl ⟨_, SqL.of hb, by rw [List.length_map]⟩, g.1, g.2.length, rfl, rfl, hp, ?_⟩
      have hj : (g.1 % (g.2.length : Int)).toNat < g.2.length := by
        have := Int.emod_lt_of_pos g.1 hp
        have := Int.emod_nonneg g.1 (show (g.2.length : Int) ≠ 0 by omega)
        omega
      generalize hjj : (g.1 % (g.2.length : Int)).toNat = j at hj
      have hk : g.1 % (g.2.length : Int) = (j : Int) := by
        have := Int.emod_nonneg g.1 (show (g.2.length : Int) ≠ 0 by omega)
        omega
      dsimp only
      rw [hk]
      have hc : (g.2.map V.int)[j]? = some (.int (g.2.getD j 0)) := by
        rw [List.getElem?_map, List.getElem?_eq_getElem hj, List.getD_eq_getElem?_getD, List.getElem?_eq_getElem hj]
        rfl
      refine ⟨.ref sb, rfl, .int (j : Int), rfl, sb, _, j, .int (g.2.getD j 0), rfl, rfl, SqL.of hb, atI0 rfl hc, ?_⟩
      have et : takeG most g = if 1000000000000000000 ≤ g.2.getD j 0 then (g.2.getD j 0 % most, (g.1, g.2.set j (g.2.getD j 0 / most))) else (stir (g.2.getD j 0) (g.1 + 1) % most, (g.1 + 1, g.2)) := by
        unfold takeG
        rw [hjj]
      generalize g.2.getD j 0 = cell at et hc
      refine ⟨.int cell, rfl, cell, 1000000000000000000, rfl, rfl, _, rfl, ite2 (fun e2 => ?_) (fun e2 => ?_)⟩
      · have e2 : 1000000000000000000 ≤ cell := of_decide_eq_true e2
        rw [if_pos e2] at et
        rw [et] at h4
        refine ⟨.int cell, rfl, .int most, rfl, cell, most, rfl, rfl, ⟨pos, hw⟩, .ref sb, rfl, .int (j : Int), rfl, sb, _, j, j, rfl, rfl, hb, ixN0 rfl (by rw [List.length_map]; exact hj), ?_⟩
        refine ⟨.int cell, rfl, .inl ⟨cell, rfl, .int most, rfl, cell, most, rfl, rfl, pos, ?_⟩⟩
        have em : (g.2.map V.int).set j (.int (cell / most)) = (g.2.set j (cell / most)).map V.int := by rw [List.map_set]
        dsimp only
        rw [em]
        refine h4 _ F _ (Ext.st h1 (.inr rfl) fb) ⟨ne, ?_, upd_same, fa, fb, ?_⟩ rInt
        · show (upd H sb _) sa = _
          rw [upd_ne ne]
          exact ha
        · intro z
          have z1 := congrArg List.length z
          rw [List.length_set] at z1
          have z2 : g.2.length = 0 := z1
          omega
      · have e2 : ¬ 1000000000000000000 ≤ cell := fun z => e2 (decide_eq_true z)
        rw [if_neg e2] at et
        rw [et] at h4
        have hL : ([V.int g.1, .ref sb] : List V).set 0 (.int (g.1 + 1)) = [.int (g.1 + 1), .ref sb] := rfl
        refine ⟨.ref sa, rfl, sa, _, 0, .int g.1, rfl, rfl, SqL.of ha, rfl, g.1, 1, rfl, rfl, .ref sa, rfl, sa, _, 0, 0, rfl, rfl, ha, rfl, ?_⟩
        dsimp only
        rw [hL]
        have ha2 : (upd H sa (.lst [.int (g.1 + 1), .ref sb])) sa = some (.lst [.int (g.1 + 1), .ref sb]) := upd_same
        refine ⟨.int cell, rfl, cell, 48271, rfl, rfl, .inr (by decide), .ref sa, rfl, sa, _, 0, .int (g.1 + 1), rfl, rfl, SqL.of ha2, rfl, g.1 + 1, 69621, rfl, rfl, .inr (by decide), _, _, rfl, rfl, .inl ⟨_, rfl, _, 2147483647, rfl, rfl, (by decide : (0 : Int) < 2147483647), ?_⟩⟩
        refine ⟨_, rfl, _, 16807, rfl, rfl, .inr (by decide), .ref sa, rfl, sa, _, 0, .int (g.1 + 1), rfl, rfl, SqL.of ha2, rfl, g.1 + 1, 7919, rfl, rfl, .inr (by decide), _, _, rfl, rfl, .inl ⟨_, rfl, _, 1000000007, rfl, rfl, (by decide : (0 : Int) < 1000000007), ?_⟩⟩
        refine ⟨_, rfl, _, 7, rfl, rfl, (by decide : (0 : Int) < 7 ∧ (7 : Int) < 1073741824), .inl ⟨_, rfl, .int most, rfl, _, most, rfl, rfl, pos, ?_⟩⟩
        refine h4 _ F _ (Ext.st h1 (.inl rfl) fa) ⟨ne, upd_same, ?_, fa, fb, wf⟩ rInt
        show (upd H sa _) sb = _
        rw [upd_ne ne.symm]
        exact hb
    · rw [if_neg hw] at h4
      exact h4.elim
def spState (K : PySem.W.Frag) : Sp := fun vs H Q _ => ∃ (a : Addr) (ns : List Int), vs = [.ref a] ∧ SqL K H a (ns.map V.int) ∧ ns.length ≤ 63 ∧
  ∀ (sa sb : Addr) (cells : List Int) (H' : Hp), sa ≠ sb → H' sa = some (.lst [.int 0, .ref sb]) → H' sb = some (.lst (cells.map V.int)) → cells ≠ [] → Q (.ref sa) H'
theorem cut_ints (ns : List Int) (lo hi : Option Int) : ∃ ms : List Int, cutV (ns.map V.int) lo hi = ms.map V.int ∧ ms.length ≤ ns.length := by
  refine ⟨(ns.drop (HT.sIx ns.length 0 lo)).take (HT.sIx ns.length ns.length hi - HT.sIx ns.length 0 lo), ?_, ?_⟩
  · unfold cutV
    rw [List.length_map, ← List.map_drop, ← List.map_take]
  · rw [List.length_take, List.length_drop]
    omega
def tState (K : PySem.W.Frag) : TS :=
  tSeq (tAsg (tLc (iList K (tSl (rSlL K) (tVar 0) tNoPart (tPart (tC (V.int 63))))) (gName 2) tYes (tCB (fun xs H Q => ∃ i, xs = [V.int i] ∧ Q (V.int (if i < 0 then -i else i)) H) (tCons (tVar 2) tNil)) [2]) (gName 1))
  (tSeq (tIfS (tTest (tOp rEq (tCB (fun xs H Q => ∃ x n, xs = [x] ∧ LenV K x H n ∧ Q (V.int ↑n) H) (tCons (tVar 1) tNil)) (tC (V.int 0)))) (tAsg (tLst (tCons (tC (V.int 0)) tNil)) (gName 1)) tNext)
  (tRet (tLst (tCons (tC (V.int 0)) (tCons (tVar 1) tNil)))))
theorem state_run {K : PySem.W.Frag} {a : Addr} {ns : List Int} {H : Hp} {Q : VK} {E' : Ends} (hE : E' = { nx := fun x H' => Q V.non H', rt := Q }) (hS : SqL K H a (ns.map V.int)) (hl : ns.length ≤ 63)
    (h4 : ∀ (sa sb : Addr) (cells : List Int) (H' : Hp), sa ≠ sb → H' sa = some (.lst [.int 0, .ref sb]) → H' sb = some (.lst (cells.map V.int)) → cells ≠ [] → Q (.ref sa) H') {σ : L2.St} (hσ : σ = [some (.ref a), none, none]) : tState K E' σ H := by
  subst hE hσ
  have fin : ∀ (σ : L2.St) (H1 : Hp) (b : Addr) (cells : List Int), σ[1]? = some (some (.ref b)) → H1 b = some (.lst (cells.map V.int)) → cells ≠ [] → tRet (tLst (tCons (tC (V.int 0)) (tCons (tVar 1) tNil))) { nx := fun x H' => Q V.non H', rt := Q } σ H1 := by
    intro σ H1 b cells hb hb2 hc
    refine ⟨.ref b, hb, by rw [sizeLine_eq]; exact (by decide : 2 ≤ 16777216), fun p np => ?_⟩
    have n : b ≠ p := ne_of_none hb2 np
    refine h4 p b cells _ n.symm upd_same ?_ hc
    rw [upd_ne n]
    exact hb2
  obtain ⟨ms, em, lm⟩ := cut_ints ns none (some 63)
  refine ⟨.ref a, rfl, 63, rfl, a, _, rfl, hS, fun c nc => ?_⟩
  rw [em]
  refine ⟨c, rfl, ⟨_, SqL.of upd_same⟩, fun D nD => ?_⟩
  have ncD : c ≠ D := fun e => by rw [e, upd_same] at nD; cases nD
  refine ⟨fun i m H3 => i + m = ms.length ∧ H3 c = some (.lst (ms.map V.int)) ∧ ∃ acc : List Int, acc.length = i ∧ H3 D = some (.lst (acc.map V.int)), ⟨ms.length, by omega, by rw [upd_ne ncD]; exact upd_same, [], rfl, upd_same⟩, fun i m H3 ⟨e1, e2, acc, e3, e4⟩ => ?_⟩
  by_cases hi : i < ms.length
  · have gi : (ms.map V.int)[i]? = some (.int ms[i]) := by rw [List.getElem?_map, List.getElem?_eq_getElem hi]; rfl
    refine .inr ⟨⟨_, _, SqL.of e2, gi⟩, fun H' => H' c = some (.lst (ms.map V.int)) ∧ ∃ acc : List Int, acc.length = i + 1 ∧ H' D = some (.lst (acc.map V.int)), fun H' ⟨k1, k2⟩ => ⟨m - 1, by omega, by omega, k1, k2⟩, fun x H' ⟨eH, fx⟩ => ?_⟩
    subst eH
    have ex : x = .int ms[i] := Option.some.inj ((fx _ (SqL.of e2)).symm.trans gi)
    subst ex
    refine ⟨rfl, .int ms[i], rfl, ms[i], rfl, _, e4, ?_, ?_, acc ++ [if ms[i] < 0 then -ms[i] else ms[i]], ?_, ?_⟩
    · rw [List.length_map, sizeLine_eq]
      omega
    · rw [upd_ne ncD]
      exact e2
    · rw [List.length_append, e3]
      rfl
    · rw [upd_same, List.map_append]
      rfl
  · refine .inl ⟨⟨_, SqL.of e2, by rw [List.length_map]; omega⟩, ?_⟩
    refine ⟨.ref D, rfl, .ref D, _, rfl, .inl ⟨_, SqL.of e4, rfl⟩, rfl, _, rfl, ite2 (fun e => ?_) (fun e => ?_)⟩
    · refine ⟨by rw [sizeLine_eq]; decide, fun p np => ?_⟩
      exact fin _ _ p [0] rfl upd_same (by simp)
    · refine fin _ _ D acc rfl e4 fun z => ?_
      subst z
      exact e (decide_eq_true rfl)
def spLaw (K : PySem.W.Frag) : Sp := fun vs H Q _ => ∃ (a : Addr) (ns : List Int), vs = [.ref a] ∧ SqL K H a (ns.map V.int) ∧ ns.length ≤ 63 ∧ ∀ H', Q (.bl true) H'
def tRest (K : PySem.W.Frag) (cl : Str → Option Addr) (W : WX) (fb : SF) : TS := fun E σ H => ∃ sa sb F0 H0, tS (mkC K cl sa sb F0 H0) W fb E σ H
theorem rest_run {X : Cx} {K : PySem.W.Frag} {cl : Str → Option Addr} {W : WX} {sts : List Stmt} {fb : SF} (h : ∀ sa sb F0 H0, DSs X (mkC K cl sa sb F0 H0) W sts fb) : PSs X sts (tRest K cl W fb) :=
  ⟨fun pins s σ H E I ⟨sa, sb, F0, H0, w⟩ => (h sa sb F0 H0).run pins s σ H E I w⟩
theorem law_go {K : PySem.W.Frag} {cl : Str → Option Addr} {W : WX} {EE : L2.St → XK} {fb : SF} {a : Addr} {ns : List Int} {H : Hp} {Q : VK} {E' : Ends} {n : Nat} (hE : E' = { nx := fun _ H' => Q V.non H', rt := Q }) (hS : SqL K H a (ns.map V.int)) (hl : ns.length ≤ 63)
    (h4 : ∀ H', Q (.bl true) H') {σ : L2.St} (hσ : σ = some (.ref a) :: none :: List.replicate n none) (hm : ∀ cells : List Int, cells ≠ [] → ∃ g, fb (.un :: .d tokD :: List.replicate n .un) (0, cells) = .rt (.bool true) g) :
    tSeq (tAsg (tCallS (spState K) EE (tCons (tVar 0) tNil)) (gName 1)) (tRest K cl W fb) E' σ H := by
  subst hE hσ
  refine ⟨.ref a, rfl, a, ns, rfl, hS, hl, fun sa sb cells H' ne h1 h2 hc => ?_⟩
  obtain ⟨g, hg⟩ := hm cells hc
  refine ⟨sa, sb, fun _ => none, H', fun _ => none, .un :: .d tokD :: List.replicate n .un, (0, cells), ?_, ?_⟩
  · exact {
      ext := Ext.refl fun _ _ h => by cases h
      gok := ⟨ne, h1, h2, rfl, rfl, hc⟩
      g0 := ⟨_, _, h1, h2⟩
      len := by simp
      slots := fun i x e => by
        match i, e with
        | 0, e => cases e; trivial
        | 1, e => cases e; exact ⟨.ref sa, rfl, .inr ⟨rfl, rfl⟩⟩
        | i + 2, e =>
          have e : (List.replicate n SV.un)[i]? = some x := e
          rw [List.getElem?_replicate] at e
          split at e
          · cases e; trivial
          · cases e
      sep := fun i j xs ys b e => by
        match i, e with
        | 0, e => cases e
        | 1, e => cases e
        | i + 2, e =>
          have e : (List.replicate n SV.un)[i]? = some (.own xs) := e
          rw [List.getElem?_replicate] at e
          split at e
          · cases e
          · cases e }
  · rw [hg]
    exact fun σ' ρ' v F' H1 _ _ r => by
      cases r.bl
      exact h4 H1
end DL
namespace DL
open PySem
open PySem.Spec
open PyProof.Rows
open L2
section
variable {K : PySem.W.Frag} {mg : Str → Option Value} {h : Heap} {pr : Program}
abbrev df_mk {x : Str} {st : Stmt} {ps : List Str} {f : Addr} {oc : Value} {od an : Option Addr} {osl : Array (Option Value)} {kV doc pm cdv ct : Value} (X : K.In h) (G : h.Ns mainGlobals mg)
    (a : PySem.W.nsIn K mainGlobals x = some (some (.ref f))) (l : K.lookup f = some ⟨oc, od, .func (PySem.W.fnOf x x (defArgs st) (defBody st) (defScope st) .none kV doc pm an cdv ct), osl⟩)
    (c : PySem.W.codeIn K cdv x = true) (k : PySem.W.keepIn K (.ref f) = true)
    (hb : ∀ (kV doc pm : Value) (an : Option Addr) (cdv ct : Value) (us : List Value), us.length = ps.length → bindArgs (PySem.W.fnOf x x (defArgs st) (defBody st) (defScope st) .none kV doc pm an cdv ct) ⟨us, []⟩ = pure (ps.zip us)) : Df K mg x st ps where
  f := f
  fd := PySem.W.fnOf x x (defArgs st) (defBody st) (defScope st) .none kV doc pm an cdv ct
  F := fun_mk l c k
  b := (fun_mk l c k).binds hb
  g := PySem.W.mg_of X G a
theorem exm_of {C1 C : Addr} {b : Bool} (h1 : PySem.W.subIn K (.ref C) (.type "BaseException") = some true) (h2 : PySem.W.isClsIn K C = true) (h3 : PySem.W.typeIn K (.ref C) = some (.type "type")) (h4 : PySem.W.subIn K (.ref C1) (.ref C) = some b) :
    PySem.W.exmOne K (.ref C1) (.ref C) = some b := by
  have e1 : (PySem.W.subIn K (.ref C) (.type "BaseException") == some true) = true := by rw [h1] <;> rfl
  have e2 : ((PySem.W.clsIn K C).isSome && PySem.W.typeIn K (.ref C) == some (.type "type")) = true := by
    have h2' : (PySem.W.clsIn K C).isSome = true := h2
    rw [h2', h3] <;> rfl
  show (if (PySem.W.subIn K (.ref C) (.type "BaseException") == some true) = true then (if ((PySem.W.clsIn K C).isSome && PySem.W.typeIn K (.ref C) == some (.type "type")) = true then PySem.W.subIn K (.ref C1) (.ref C) else none) else none) = some b
  rw [if_pos e1, if_pos e2]
  exact h4
abbrev ex_mk {x fld msg qual : Str} {st : Stmt} {C f cc cda : Addr}
    {nm q : Str} {N : Addr} {bs bm : List Value} {sn : List Str} {sub : List Value} {ab : Bool} {col : Option Bool} {dd : Option Addr} {m0 m1 m2 m3 m5 : Option Value}
    {oc kV doc pm ct : Value} {od an : Option Addr} {osl : Array (Option Value)} {ccl : Value} {cdd : Option Addr} {vs : Array Value} {ccs : Array (Option Value)} {file : Str} {tf : Tok} {cl : Value} {cld : Option Addr} {csl : Array (Option Value)} {cd : ClassData}
    (X : K.In h) (G : h.Ns mainGlobals mg)
    (aC : PySem.W.nsIn K mainGlobals x = some (some (.ref C)))
    (xL : K.lookup C = some (excClassObj nm q C N bs bm true sn sub ab col dd m0 m1 m2 m3 m5 "ValueError.__new__")) (hbm : PySem.HandSPX.refsVE bm = true)
    (sa : PySem.W.findIn K (.ref C) "__setattr__" = some (some (.builtin "object.__setattr__"))) (exC : PySem.W.subIn K (.ref C) (.type "BaseException") = some true) (tyC : PySem.W.typeIn K (.ref C) = some (.type "type")) (kC : PySem.W.keepIn K (.ref C) = true)
    (ini : PySem.W.findIn K (.ref C) "__init__" = some (some (.ref f))) (tyf : PySem.W.typeIn K (.ref f) = some (.type "function"))
    (lf : K.lookup f = some ⟨oc, od, .func (PySem.W.ksFn "__init__" qual (defArgs st) (defBody st) (defScope st) .none kV doc pm an (.ref cda) ct cc), osl⟩) (cf : PySem.W.codeIn K (.ref cda) qual = true)
    (lc : K.lookup cda = some ⟨ccl, cdd, .fields vs, ccs⟩) (hv : vs[2]? = some (.str file tf)) (hfile : ((pr.main.file : Str) == file) = true)
    (lcell : K.lookup cc = some ⟨cl, cld, .cell (some (.ref C)), csl⟩) (hcls : PySem.W.clsIn K C = some cd) (hmro : PySem.W.mroIn K C (.ref C) = some true)
    (sup : PySem.W.ks_superIn K C C "__init__" = some (some (.builtin "ValueError.__init__"))) (subV : PySem.W.subIn K (.ref C) (.type "ValueError") = some true)
    (nosup : PySem.W.nsIn K mainGlobals "super" = some none) (noany : PySem.W.nsIn K PySem.cStatics "thirdparty.any" = some none) (top : (pr.main.scope.names.lookup ("super" : Str)).isSome = false)
    (fin : PySem.W.findIn K (.ref C) fld = some none)
    (ga : PySem.W.findIn K (.ref C) "__getattribute__" = some (some (.builtin "BaseException.__getattribute__"))) (gg : PySem.W.findIn K (.ref C) "__getattr__" = some none) (hdC : PySem.W.hasDictIn K C = true)
    (hb : ∀ (kV doc pm : Value) (an : Option Addr) (cdv ct : Value) (cc : Addr) (us : List Value), us.length = (["self", fld] : List Str).length → bindArgs (PySem.W.ksFn "__init__" qual (defArgs st) (defBody st) (defScope st) .none kV doc pm an cdv ct cc) ⟨us, []⟩ = pure ((["self", fld] : List Str).zip us)) : Ex K mg pr x fld msg st where
  C := C
  g := PySem.W.mg_of X G aC
  k := {
    f := f
    fd := PySem.W.ksFn "__init__" qual (defArgs st) (defBody st) (defScope st) .none kV doc pm an (.ref cda) ct cc
    T := ⟨⟨nm, q, N, bs, bm, sn, sub, ab, col, dd, m0, m1, m2, m3, m5, xL, hbm⟩, sa, exC, tyC, kC⟩
    cc := cc
    cda := cda
    ex := ⟨oc, od, kV, doc, pm, an, ct, osl, qual, rfl, lf, cf⟩
    code := ⟨ccl, cdd, vs, ccs, file, tf, lc, hv, hfile⟩
    cell := ⟨cl, cld, csl, lcell⟩
    cls := ⟨cd, hcls⟩
    mro := hmro
    sup := sup
    sub := subV
    nosup := nosup
    noany := noany
    top := top
    fin := fin
    ini := ini
    tf := tyf }
  b := .all (hb kV doc pm an (.ref cda) ct cc)
  xf := ⟨ga, gg, exC, hdC⟩
end
end DL
namespace DL
open PySem
open PySem.Spec
open PyProof.Rows
open L2
def tyN : D → Option String
  | .none => some "NoneType"
  | .bool _ => some "bool"
  | .int _ => some "int"
  | .str _ => some "str"
  | .list _ => some "list"
  | .tuple _ => some "tuple"
  | .dict _ => none
def isiD (T : String) (d : D) : Option Bool := (tyN d).bind fun t => kitB t T
def eIsi (T : String) (fe : EF) : EF := fun ρ g => (fe ρ g).bind fun x g1 => match isiD T x with
  | some b => .ok (.bool b) g1
  | none => .bad
theorem tyX_of {c : Ctx} {F H : Hp} (sm : Same F H) {v : V} {d : D} (r : Rep c F v d) {t : String} (ht : tyN d = some t) : TyX c.K H v (.type t) := by
  cases d with
  | none => cases r.non; cases ht; exact .base .non
  | bool b => cases r.bl; cases ht; exact .base (.bl b)
  | int i => cases r.int; cases ht; exact .base (.int i)
  | str z => cases r.str; cases ht; exact .base (.str z)
  | list xs =>
    obtain ⟨a, vs, rfl, h1, _⟩ := r.list
    cases ht
    exact .base (.lst (sm _ _ h1))
  | tuple xs =>
    obtain ⟨a, vs, rfl, h1, _⟩ := r.tuple
    cases ht
    rcases h1 with (h1 | ⟨o, h1⟩) | ⟨o, its, n, h1, h2, _⟩
    · exact .base (.tup (sm _ _ h1))
    · exact .fTuple (sm _ _ h1)
    · exact .kTuple h1 h2
  | dict _ => cases ht
section
variable {X : Cx} {c : Ctx} {W : WX} {pos p p2 : Pos} {x : Str} {e : Expr} {fe : EF} {T : String} {es : List Expr}
theorem d_isi (hK : c.K = X.K) (hg : Gl X "isinstance") (hm : X.mg "isinstance" = none) (ha : PA X (e :: es) (tCons (tE c W fe) (tCons (tC (.ty T)) tNil)))
    (he : starEach (e :: es) X.env = (false, eval e X.env) :: starEach es X.env := by rfl) (hpl : (backTo pos (starEach es X.env)).any (·.1) = false := by rfl) : DE X c W (.Call (.Name "isinstance" p) (e :: es) [] pos) (eIsi T fe) :=
  PE.imp (pe_callB call_isi hg hm (by decide +kernel) ha (by decide) (by decide) he hpl) fun σ H Q ⟨F, ρ, g, s, h⟩ => ⟨F, ρ, g, s, PostG.bind s h fun d g1 v F1 H1 e1 s1 r1 h1 => by
    split at h1
    · rename_i b hb
      unfold isiD at hb
      cases ht : tyN d with
      | none => rw [ht] at hb; cases hb
      | some t =>
        rw [ht] at hb
        refine ⟨v, .ty T, .type t, .type T, b, rfl, .ty T, ?_, kit_ty hb, h1.now s1 rBl⟩
        rw [← hK]
        exact tyX_of s1.fh r1 ht
    · exact h1.elim⟩
end
def rGetL (K : PySem.W.Frag) : V → V → Hp → VK → Prop := fun x y H Q => ∃ p xs i v, x = .ref p ∧ y = .int i ∧ SqL K H p xs ∧ atI xs i = some v ∧ Q v H
theorem get_list {X : Cx} : PGet X (rGetL X.K) := by
  intro pins s σ H x y v u Q I rx ry h
  obtain ⟨p, xs, i, z, rfl, rfl, hq, he, q⟩ := h
  cases rx
  obtain ⟨t, rfl⟩ := ry
  obtain ⟨its, r, pl, hz⟩ := I.list hq
  obtain ⟨j, h1, h2, h3, h4, h5⟩ := atI_get he
  obtain ⟨w, ew, rw'⟩ := r.get h2
  have hl := r.length
  have hn := line63
  have fin : EP X pins σ Q w s := ⟨z, H, I, rw', q⟩
  by_cases h0 : 0 ≤ i
  · have hj : i.toNat = j := by
      rw [seqIndex_of h0 h5] at h1
      exact Option.some.inj h1
    exact wpAny_getItem_list pl.isList h0 (by omega) (by rw [hj]; simpa using ew) fin
  · have hj : (i + (its.toArray.size : Int)).toNat = j := by
      rw [seqIndex_neg (by omega) h4] at h1
      rw [List.size_toArray, ← hl]
      exact Option.some.inj h1
    exact wpAny_getItem_list_neg pl.isList (by omega) (by rw [List.size_toArray] <;> omega) (by omega) (by rw [hj]; simpa using ew) fin
def sAugIx (i : Nat) (φ : Int → Int → Int) (fj fe : EF) : SF := fun ρ g => match ρ[i]? with
  | some (.own xs) => (fj ρ g).go ρ fun j g1 => match j with
    | .int n => match ixN xs.length n with
      | some m => match xs[m]? with
        | some (.int a) => (fe ρ g1).go ρ fun d g2 => match d with
          | .int b => .nx (ρ.set i (.own (xs.set m (.int (φ a b))))) g2
          | _ => .bad
        | _ => .bad
      | none => .bad
    | _ => .bad
  | _ => .bad
section
variable {X : Cx} {c : Ctx} {W : WX} {st : Stmt} {fe fj : EF} {φ : Int → Int → Int}
theorem ds_augIx {i : Nat} (hK : c.K = X.K) (h : PS X st (tAugS (tVar i) (tE c W fj) (tE c W fe) (rGetL X.K) (ipI φ) rSetL)) : DS X c W st (sAugIx i φ fj fe) := PS.imp h fun E σ H ⟨F, ρ, g, s, h⟩ => by
  unfold sAugIx at h
  split at h
  · rename_i xs hi
    obtain ⟨a, vs, k1, k2, k3, k4, k5⟩ := s.own hi
    refine ⟨.ref a, k1, F, ρ, g, s, go_post s h fun j g1 v F1 H1 e1 s1 r1 h1 => ?_⟩
    obtain ⟨a', vs1, m1, m2, m3, m4, m5⟩ := s1.own hi
    rw [k1] at m1
    cases m1
    cases j with
    | int n =>
      cases r1.int
      simp only at h1
      split at h1
      · rename_i m hm
        split at h1
        · rename_i a0 ha0
          obtain ⟨w, hw, rw0⟩ := m3.get ha0
          cases rw0
          refine ⟨a, vs1, n, .int a0, rfl, rfl, SqL.of m2, ?_, F1, ρ, g1, s1, go_post s1 h1 fun d g2 u F2 H2 e2 s2 r2 h2 => ?_⟩
          · unfold atI
            rw [m3.len, hm]
            exact hw
          · obtain ⟨a', vs2, q1, q2, q3, q4, q5⟩ := s2.own hi
            rw [k1] at q1
            cases q1
            cases d with
            | int b =>
              cases r2.int
              exact ⟨a0, b, rfl, rfl, a, vs2, n, m, rfl, rfl, q2, by rw [q3.len]; exact hm, h2.nx' (s2.updO hi k1 q2 q4 q5 (RqAll.set (.int (φ a0 b)) m q3))⟩
            | _ => exact h2.elim
        · exact h1.elim
      · exact h1.elim
    | _ => exact h1.elim
  · exact h.elim
end
def GlobD (K : PySem.W.Frag) (mg : Str → Option Value) (x : Str) (d : D) : Prop := ∃ (v : V) (u : Value), mg x = some u ∧ RelV v u ∧ ∀ F, Rq K F v d
theorem d_glob {X : Cx} {c : Ctx} {W : WX} {pos : Pos} {x : Str} {d : D} (hK : c.K = X.K) (hg : Gl X x) (h : GlobD X.K X.mg x d) (hdb : (x == ("__debug__" : Str)) = false := by decide) : DE X c W (.Name x pos) (eC d) := by
  obtain ⟨v, u, h1, h2, h3⟩ := h
  exact PE.imp (pe_glob hg h1 h2 hdb) fun σ H Q ⟨F, ρ, g, s, h⟩ => h.now s (.inl (by rw [hK]; exact h3 F))
theorem glob_int {K : PySem.W.Frag} {mg : Str → Option Value} {h : Heap} {x : Str} {i : Int} {t : Tok} (X : K.In h) (G : h.Ns mainGlobals mg) (a : PySem.W.nsIn K mainGlobals x = some (some (.int i t))) : GlobD K mg x (.int i) :=
  ⟨.int i, .int i t, PySem.W.mg_of X G a, ⟨t, rfl⟩, fun _ => .int i⟩
inductive IntVs : List Value → List Int → Prop
  | nil : IntVs [] []
  | cons {i : Int} {t : Tok} {us : List Value} {is : List Int} : IntVs us is → IntVs (.int i t :: us) (i :: is)
theorem IntVs.vals : ∀ {us : List Value} {is : List Int}, IntVs us is → Vals (is.map V.int) us
  | _, _, .nil => .nil
  | _, _, .cons (t := t) h => .cons ⟨t, rfl⟩ (IntVs.vals h)
theorem IntVs.len : ∀ {us : List Value} {is : List Int}, IntVs us is → us.length = is.length
  | _, _, .nil => rfl
  | _, _, .cons h => by rw [List.length_cons, List.length_cons, IntVs.len h]
theorem glob_tup {K : PySem.W.Frag} {mg : Str → Option Value} {h : Heap} {x : Str} {a : Addr} {dd : Option Addr} {us : List Value} {n : Nat} {sl : Array (Option Value)} {is : List Int} (X : K.In h) (G : h.Ns mainGlobals mg) (e : PySem.W.nsIn K mainGlobals x = some (some (.ref a)))
    (l : K.lookup a = some ⟨.type "tuple", dd, .seq us.toArray n, sl⟩) (hu : IntVs us is) (hl : is.length ≤ LIM) : GlobD K mg x (.tuple (is.map .int)) :=
  ⟨.ref a, .ref a, PySem.W.mg_of X G e, rfl, fun F => .tup (.inr ⟨_, us.toArray, n, l, rfl, rfl, by rw [List.size_toArray, hu.len]; exact lim_ok hl, hu.vals⟩) (dpInts is)⟩
end DL
namespace DL
open PySem
open PySem.Spec
open PyProof.Rows
open L2
theorem compF_exc {b : BF} {ft : TF} {fe : EF} {ρ : RS} : ∀ {xs : List D} {g : G} {n : Str} {fs : List (Str × D)} {g' : G}, compF b ft fe ρ xs g ≠ .exc n fs g'
  | [], _, _, _, _, h => by simp only [compF] at h; cases h
  | x :: xs, g, n, fs, g', h => by
    simp only [compF] at h
    split at h
    · cases h
    · split at h
      · split at h
        · split at h
          · rename_i d g2 _ _
            cases q : compF b ft fe ρ xs g2 with
            | ok r g3 => rw [q] at h; cases h
            | exc _ _ _ => exact compF_exc q
            | bad => rw [q] at h; cases h
          · cases h
        · cases h
      · exact compF_exc h
      · cases h
def compF2 (vs1 : List Nat) (b : BF) (ft : TF) (fi1 : LF) (b1 : BF) (ft1 : TF) (fe : EF) (ρ : RS) : List D → G → Out (List D)
  | [], g => .ok [] g
  | x :: xs, g => match b x ρ with
    | none => .bad
    | some ρ1 => match ft ρ1 g with
      | .ok true g1 => (match fi1 ρ1 g1 with
        | .ok items g2 => (compF b1 ft1 fe (wipeR ρ1 vs1) items g2).bind fun r g3 => (compF2 vs1 b ft fi1 b1 ft1 fe ρ xs g3).bind fun r2 g4 => .ok (r ++ r2) g4
        | _ => .bad)
      | .ok false g1 => compF2 vs1 b ft fi1 b1 ft1 fe ρ xs g1
      | _ => .bad
theorem compF2_exc {vs1 : List Nat} {b : BF} {ft : TF} {fi1 : LF} {b1 : BF} {ft1 : TF} {fe : EF} {ρ : RS} : ∀ {xs : List D} {g : G} {n : Str} {fs : List (Str × D)} {g' : G}, compF2 vs1 b ft fi1 b1 ft1 fe ρ xs g ≠ .exc n fs g'
  | [], _, _, _, _, h => by simp only [compF2] at h; cases h
  | x :: xs, g, n, fs, g', h => by
    unfold compF2 at h
    cases hb : b x ρ with
    | none => rw [hb] at h; cases h
    | some ρ1 =>
      simp only [hb] at h
      cases ht : ft ρ1 g with
      | bad => rw [ht] at h; cases h
      | exc a b c => rw [ht] at h; cases h
      | ok k g1 =>
        cases k with
        | false =>
          simp only [ht] at h
          exact compF2_exc h
        | true =>
          simp only [ht] at h
          cases hi : fi1 ρ1 g1 with
          | bad => rw [hi] at h; cases h
          | exc a b c => rw [hi] at h; cases h
          | ok items g2 =>
            simp only [hi] at h
            cases q : compF b1 ft1 fe (wipeR ρ1 vs1) items g2 with
            | bad => rw [q] at h; cases h
            | exc a b c => exact compF_exc q
            | ok r g3 =>
              rw [q] at h
              cases q2 : compF2 vs1 b ft fi1 b1 ft1 fe ρ xs g3 with
              | bad => simp only [Out.bind, q2] at h; cases h
              | exc a b c => exact compF2_exc q2
              | ok r2 g4 => simp only [Out.bind, q2] at h; cases h
def fin2 (ds : List D) (g : G) : Out (List D) := if ds.length ≤ LIM then .ok ds g else .bad
def oComp2 (vs vs1 : List Nat) (fi : LF) (b : BF) (ft : TF) (fi1 : LF) (b1 : BF) (ft1 : TF) (fe : EF) : OF' := fun ρ g => (fi ρ g).bind fun items g1 => (compF2 vs1 b ft fi1 b1 ft1 fe (wipeR ρ vs) items g1).bind fin2
structure MidB (c : Ctx) (F1 H1 F H : Hp) (g : G) (A : Addr) (acc : List D) (va : List V) : Prop where
  ext : Ext c.sa c.sb F1 H1 F H
  gok : GOk c F H g
  ha : H A = some (.lst va)
  fa : F A = none
  rq : RqAll c.K F va acc
theorem MidB.up {c : Ctx} {F1 H1 F H F' H' : Hp} {g g' : G} {A : Addr} {acc : List D} {va : List V} (m : MidB c F1 H1 F H g A acc va) (e : Ext c.sa c.sb F H F' H') (gk : GOk c F' H' g') (na : A ≠ c.sa) (nb : A ≠ c.sb) : MidB c F1 H1 F' H' g' A acc va :=
  ⟨m.ext.trans e, gk, e.keep A _ m.ha na nb, by rw [e.ff A _ m.ha]; exact m.fa, RqAll_mono e.f _ _ m.rq⟩
theorem MidB.add {c : Ctx} {F1 H1 F H : Hp} {g : G} {A : Addr} {acc : List D} {va : List V} (m : MidB c F1 H1 F H g A acc va) (nA : H1 A = none) (na : A ≠ c.sa) (nb : A ≠ c.sb) {y : V} {d : D} (r : Rq c.K F y d) : MidB c F1 H1 F (upd H A (.lst (va ++ [y]))) g A (acc ++ [d]) (va ++ [y]) := by
  refine ⟨⟨m.ext.f, fun q o z => ?_, fun q o z n k => ?_, fun q o z => ?_, m.ext.ff⟩, m.gok.ext rfl rfl (upd_ne na.symm) (upd_ne nb.symm), upd_same, m.fa, m.rq.append (.cons r .nil)⟩
  · rw [upd_ne (ne_of_none z m.fa)]; exact m.ext.fh q o z
  · rw [upd_ne (ne_of_none z nA)]; exact m.ext.keep q o z n k
  · rw [upd_ne (ne_of_none z nA)]; exact m.ext.dom q o z
def delH (H : Hp) (A : Addr) : Hp := fun q => if q = A then none else H q
theorem delH_ne {H : Hp} {A q : Addr} (h : q ≠ A) : delH H A q = H q := if_neg h
theorem delH_some {H : Hp} {A q : Addr} {o : HO} (h : delH H A q = some o) : q ≠ A ∧ H q = some o := by
  unfold delH at h
  split at h
  · cases h
  · rename_i n
    exact ⟨n, h⟩
def BOk (b : BF) : Prop := ∀ (x : D) (ρ ρ' : RS), b x ρ = some ρ' → ∀ (j : Nat) (ys : List D), ρ'[j]? = some (.own ys) → ρ[j]? = some (.own ys)
def BsOk (b : List D → RS → Option RS) : Prop := ∀ (x : List D) (ρ ρ' : RS), b x ρ = some ρ' → ∀ (j : Nat) (ys : List D), ρ'[j]? = some (.own ys) → ρ[j]? = some (.own ys)
theorem bok_name {i : Nat} : BOk (bName i) := fun x ρ ρ' h j ys hj => by
  cases h
  by_cases e : i = j
  · subst e
    by_cases hi : i < ρ.length
    · rw [List.getElem?_set_self hi] at hj; cases hj
    · rw [List.getElem?_eq_none (by rw [List.length_set]; omega)] at hj; cases hj
  · rw [List.getElem?_set_ne e] at hj
    exact hj
theorem bok_nil : BsOk bNil := fun x ρ ρ' h j ys hj => by
  unfold bNil at h
  split at h
  · cases h; exact hj
  · cases h
theorem bok_cons {b : BF} {bs : List D → RS → Option RS} (h1 : BOk b) (h2 : BsOk bs) : BsOk (bCons b bs) := fun x ρ ρ' h j ys hj => by
  unfold bCons at h
  split at h
  · obtain ⟨ρ1, e1, e2⟩ := Option.bind_eq_some_iff.mp h
    exact h1 _ _ _ e1 j ys (h2 _ _ _ e2 j ys hj)
  · cases h
theorem bok_tup {n : Nat} {bs : List D → RS → Option RS} (h2 : BsOk bs) : BOk (bTup n bs) := fun x ρ ρ' h j ys hj => by
  unfold bTup at h
  split at h
  · split at h
    · exact h2 _ _ _ h j ys hj
    · cases h
  · cases h
theorem wipeR_own {ρ : RS} {j : Nat} {ys : List D} : ∀ {vs : List Nat}, (wipeR ρ vs)[j]? = some (.own ys) → ρ[j]? = some (.own ys) ∧ j ∉ vs
  | [], h => ⟨h, by simp⟩
  | v :: vs, h => by
    unfold wipeR at h
    by_cases e : v = j
    · subst e
      by_cases hi : v < (wipeR ρ vs).length
      · rw [List.getElem?_set_self hi] at h; cases h
      · rw [List.getElem?_eq_none (by rw [List.length_set]; omega)] at h; cases h
    · rw [List.getElem?_set_ne e] at h
      obtain ⟨h1, h2⟩ := wipeR_own (vs := vs) h
      exact ⟨h1, fun z => (List.mem_cons.mp z).elim (fun q => e q.symm) h2⟩
theorem SR.delA {c : Ctx} {F H : Hp} {σ : L2.St} {ρ : RS} {g : G} {A : Addr} {va : List V} (s : SR c F H σ ρ g) (hA : H A = some (.lst va)) (fa : F A = none) (h0 : c.H0 A = none) (hno : ∀ (j : Nat) (ys : List D), ρ[j]? = some (.own ys) → σ[j]? ≠ some (some (.ref A))) : SR c F (delH H A) σ ρ g where
  ext := ⟨s.ext.f, fun q o z => by rw [delH_ne (ne_of_none z fa)]; exact s.ext.fh q o z, fun q o z n k => by rw [delH_ne (ne_of_none z h0)]; exact s.ext.keep q o z n k, fun q o z => by rw [delH_ne (ne_of_none z h0)]; exact s.ext.dom q o z, s.ext.ff⟩
  gok := by
    obtain ⟨n1, n2⟩ := s.ownNe h0
    exact s.gok.ext rfl rfl (delH_ne n1.symm) (delH_ne n2.symm)
  g0 := s.g0
  len := s.len
  slots := fun i x h => by
    have q := s.slots i x h
    cases x with
    | un => trivial
    | d x => exact q
    | own xs =>
      obtain ⟨a, vs, h1, h2, h3, h4, h5⟩ := q
      have n : a ≠ A := fun e => hno i xs h (by rw [h1, e])
      exact ⟨a, vs, h1, by rw [delH_ne n]; exact h2, h3, h4, h5⟩
    | ex fs =>
      obtain ⟨vs, h1, h2, h3⟩ := q
      have n : c.ed ≠ A := fun e => by rw [e, hA] at h2; cases h2
      exact ⟨vs, h1, by rw [delH_ne n]; exact h2, h3⟩
  sep := s.sep
section
variable {X : Cx} {c : Ctx} {W : WX} {pos : Pos} {tg iter tg1 iter1 elt : Expr} {ifs ifs1 : List Expr} {scope : Scope} {own : List (Str × Nat)} {vs1 is is1 : List Nat} {fi fi1 : LF} {b b1 : BF} {ft ft1 : TF} {fe : EF}
theorem lc2_post (hbk : BOk b) {σ : L2.St} {ρ : RS} {items : List D} {vs : List Nat} {F1 H1 : Hp} {g1 : G} {Q : VK} {J : It} {A : Addr} (s1 : SR c F1 H1 σ ρ g1) (hJ : IterR c F1 J items) (nA : H1 A = none) (sub : ∀ i ∈ is, i ∈ vs) (sub1 : ∀ i ∈ is1, i ∈ vs1)
    (h : PostO c σ ((compF2 vs1 b ft fi1 b1 ft1 fe (wipeR ρ vs) items g1).bind fin2) F1 H1 W Q) :
    ∃ Wv : Nat → Nat → Hp → Prop, (∃ m, Wv 0 m (upd H1 A (.lst []))) ∧ ∀ i m H, Wv i m H → (J.stop i H ∧ Q (.ref A) H) ∨ (J.go i H ∧ ∃ Nx : Hp → Prop, (∀ H', Nx H' → ∃ m', m' < m ∧ Wv (i + 1) m' H') ∧ ∀ x H', J.yld i H x H' → tG c is b x (wipe σ vs) H' fun σ2 H2 => wipe σ2 vs = wipe σ vs ∧ tT c W0 ft σ2 H2 fun k H3 =>
      if k = true then tI c W0 fi1 σ2 H3 fun J1 H4 => ∃ W1 : Nat → Nat → Hp → Prop, (∃ m, W1 0 m H4) ∧ ∀ j k H, W1 j k H →
        (J1.stop j H ∧ Nx H) ∨ (J1.go j H ∧ ∃ Nx1 : Hp → Prop, (∀ H', Nx1 H' → ∃ k', k' < k ∧ W1 (j + 1) k' H') ∧ ∀ x H', J1.yld j H x H' → tG c is1 b1 x (wipe σ2 vs1) H' fun σ3 H5 => wipe σ3 vs1 = wipe σ2 vs1 ∧ tT c W0 ft1 σ3 H5 fun b H6 =>
          if b = true then tE c W0 fe σ3 H6 fun y H7 => ∃ acc, H7 A = some (.lst acc) ∧ acc.length < sizeLine ∧ Nx1 (upd H7 A (.lst (acc ++ [y]))) else Nx1 H6)
      else Nx H3) := by
  have nas : A ≠ c.sa := (ne_of_none s1.gok.ha nA).symm
  have nab : A ≠ c.sb := (ne_of_none s1.gok.hb nA).symm
  generalize hfull : (compF2 vs1 b ft fi1 b1 ft1 fe (wipeR ρ vs) items g1).bind fin2 = full at h
  have nbad : full ≠ .bad := fun e => by rw [e] at h; exact h
  refine ⟨fun i m H => ∃ F g va acc, m = items.length - i ∧ i ≤ items.length ∧ MidB c F1 H1 F H g A acc va ∧ full = (compF2 vs1 b ft fi1 b1 ft1 fe (wipeR ρ vs) (items.drop i) g).bind fun r g => fin2 (acc ++ r) g,
    ⟨items.length, F1, g1, [], [], by omega, Nat.zero_le _, ⟨Ext.newM s1.fh nA, s1.gok.newM nA, upd_same, s1.fnone nA, .nil⟩, ?_⟩, ?_⟩
  · rw [List.drop_zero, ← hfull]
    rfl
  rintro i m H ⟨F, g, va, acc, rfl, hi, M, eq⟩
  have sm : Same F1 H := M.ext.f.trans M.ext.fh
  by_cases hlt : i < items.length
  · have hd : items[i]? = some items[i] := List.getElem?_eq_getElem hlt
    have hdr : items.drop i = items[i] :: items.drop (i + 1) := List.drop_eq_getElem_cons hlt
    obtain ⟨go, yl⟩ := (hJ i H sm).1 _ hd
    rw [hdr] at eq
    refine .inr ⟨go, _, fun H' h => h, fun x H' y => ?_⟩
    obtain ⟨rfl, rx⟩ := yl x H' y
    have sw : SR c F H' (wipe σ vs) (wipeR ρ vs) g := (s1.wipe vs).ext' M.ext M.gok
    simp only [compF2] at eq
    cases hb : b items[i] (wipeR ρ vs) with
    | none => simp only [hb, Out.bind] at eq; exact absurd eq nbad
    | some ρ1 =>
      simp only [hb] at eq
      refine ⟨F, wipeR ρ vs, g, items[i], ρ1, sw, rx.mono M.ext.f, hb, fun σ2 s2 b2 => ⟨b2.wipe sub, F, ρ1, g, s2, ?_⟩⟩
      cases ht : ft ρ1 g with
      | bad => simp only [ht, Out.bind] at eq; exact absurd eq nbad
      | exc n fs g2 => simp only [ht, Out.bind] at eq; exact absurd eq nbad
      | ok k g2 =>
        intro k' F2 H2 e2 gk2 rk
        cases rk
        have s3 := s2.ext' e2 gk2
        have M2 := M.up e2 gk2 nas nab
        cases k with
        | false =>
          simp only [ht] at eq
          rw [if_neg Bool.false_ne_true]
          exact ⟨items.length - (i + 1), by omega, F2, g2, va, acc, rfl, hlt, M2, eq⟩
        | true =>
          simp only [ht] at eq
          rw [if_pos rfl]
          refine ⟨F2, ρ1, g2, s3, ?_⟩
          cases hi1 : fi1 ρ1 g2 with
          | bad => simp only [hi1, Out.bind] at eq; exact absurd eq nbad
          | exc n fs g3 => simp only [hi1, Out.bind] at eq; exact absurd eq nbad
          | ok items1 g3 =>
            simp only [hi1] at eq
            intro J1 F3 H3 e3 gk3 hJ1
            have s4 := s3.ext' e3 gk3
            have M3 := M2.up e3 gk3 nas nab
            refine ⟨fun j k H => ∃ F g va acc, k = items1.length - j ∧ j ≤ items1.length ∧ Ext c.sa c.sb F3 (delH H3 A) F H ∧ MidB c F1 H1 F H g A acc va ∧
              full = (compF b1 ft1 fe (wipeR ρ1 vs1) (items1.drop j) g).bind fun r g4 => (compF2 vs1 b ft fi1 b1 ft1 fe (wipeR ρ vs) (items.drop (i + 1)) g4).bind fun r2 g5 => fin2 (acc ++ (r ++ r2)) g5,
              ⟨items1.length, F3, g3, va, acc, by omega, Nat.zero_le _, ?_, M3, ?_⟩, ?_⟩
            · exact ⟨Same.refl F3, s4.fh, fun q o z _ _ => (delH_some z).2, fun q o z => ⟨o, (delH_some z).2⟩, fun q o z => rfl⟩
            · rw [List.drop_zero, eq]
              cases compF b1 ft1 fe (wipeR ρ1 vs1) items1 g3 with
              | bad => rfl
              | exc n fs g4 => rfl
              | ok r g4 =>
                simp only [Out.bind]
                cases compF2 vs1 b ft fi1 b1 ft1 fe (wipeR ρ vs) (items.drop (i + 1)) g4 with
                | bad => rfl
                | exc n fs g5 => rfl
                | ok r2 g5 => rfl
            · have h0A : c.H0 A = none := by
                cases q : c.H0 A with
                | none => rfl
                | some o =>
                  obtain ⟨o', q'⟩ := s1.ext.dom A o q
                  rw [q'] at nA
                  cases nA
              have s4d : SR c F3 (delH H3 A) σ2 ρ1 g3 := s4.delA M3.ha M3.fa h0A fun j ys hj he => by
                have h5 := hbk _ _ _ hb j ys hj
                obtain ⟨h6, h7⟩ := wipeR_own h5
                obtain ⟨a, vs', k1, k2, _⟩ := s1.own h6
                have k3 : (wipe σ vs)[j]? = σ[j]? := L2.wipe_out h7
                have k4 : σ2[j]? = (wipe σ vs)[j]? := b2.2 j fun z => h7 (sub j z)
                rw [k4, k3, k1] at he
                cases he
                rw [k2] at nA
                cases nA
              rintro j k H ⟨F4, g4, va4, acc4, rfl, hj, e4, M4, eq4⟩
              have sm1 : Same F3 H := e4.f.trans e4.fh
              by_cases hlt1 : j < items1.length
              · have hd1 : items1[j]? = some items1[j] := List.getElem?_eq_getElem hlt1
                have hdr1 : items1.drop j = items1[j] :: items1.drop (j + 1) := List.drop_eq_getElem_cons hlt1
                obtain ⟨go1, yl1⟩ := (hJ1 j H sm1).1 _ hd1
                rw [hdr1] at eq4
                refine .inr ⟨go1, _, fun H' h => h, fun x1 H' y1 => ?_⟩
                obtain ⟨rfl, rx1⟩ := yl1 x1 H' y1
                have sw1 : SR c F4 H' (wipe σ2 vs1) (wipeR ρ1 vs1) g4 := (s4d.wipe vs1).ext' e4 M4.gok
                simp only [compF] at eq4
                cases hb1 : b1 items1[j] (wipeR ρ1 vs1) with
                | none => simp only [hb1, Out.bind] at eq4; exact absurd eq4 nbad
                | some ρ2 =>
                  simp only [hb1] at eq4
                  refine ⟨F4, wipeR ρ1 vs1, g4, items1[j], ρ2, sw1, rx1.mono e4.f, hb1, fun σ3 s5 b5 => ⟨b5.wipe sub1, F4, ρ2, g4, s5, ?_⟩⟩
                  cases ht1 : ft1 ρ2 g4 with
                  | bad => simp only [ht1, Out.bind] at eq4; exact absurd eq4 nbad
                  | exc n fs g5 => simp only [ht1, Out.bind] at eq4; exact absurd eq4 nbad
                  | ok k g5 =>
                    intro k' F5 H5 e5 gk5 rk
                    cases rk
                    have s6 := s5.ext' e5 gk5
                    have M5 := M4.up e5 gk5 nas nab
                    cases k with
                    | false =>
                      simp only [ht1] at eq4
                      rw [if_neg Bool.false_ne_true]
                      exact ⟨items1.length - (j + 1), by omega, F5, g5, va4, acc4, rfl, hlt1, e4.trans e5, M5, eq4⟩
                    | true =>
                      simp only [ht1] at eq4
                      rw [if_pos rfl]
                      refine ⟨F5, ρ2, g5, s6, ?_⟩
                      cases he : fe ρ2 g5 with
                      | bad => simp only [he, Out.bind] at eq4; exact absurd eq4 nbad
                      | exc n fs g6 => simp only [he, Out.bind] at eq4; exact absurd eq4 nbad
                      | ok d g6 =>
                        simp only [he] at eq4
                        intro y F6 H6 e6 gk6 ry
                        have M6 := M5.up e6 gk6 nas nab
                        by_cases hn : noTok [d] = true
                        · rw [if_pos hn] at eq4
                          have rd := RepAll.rq (RepAll.cons ry .nil) hn
                          have rq1 : Rq c.K F6 y d := by
                            cases rd with
                            | cons q _ => exact q
                          have M7 := M6.add nA nas nab rq1
                          have e7 := (e4.trans e5).trans e6
                          have nD : delH H3 A A = none := if_pos rfl
                          have hacc : acc4.length < LIM := by
                            cases qa : compF b1 ft1 fe (wipeR ρ1 vs1) (items1.drop (j + 1)) g6 with
                            | bad => simp only [qa, Out.bind] at eq4; exact absurd eq4 nbad
                            | exc n fs g7 => exact absurd qa compF_exc
                            | ok r g7 =>
                              simp only [qa, Out.bind] at eq4
                              cases qb : compF2 vs1 b ft fi1 b1 ft1 fe (wipeR ρ vs) (items.drop (i + 1)) g7 with
                              | bad => simp only [qb] at eq4; exact absurd eq4 nbad
                              | exc n fs g8 => exact absurd qb compF2_exc
                              | ok r2 g8 =>
                                simp only [qb] at eq4
                                unfold fin2 at eq4
                                split at eq4
                                · rename_i hle
                                  simp only [List.length_append, List.length_cons] at hle
                                  omega
                                · exact absurd eq4 nbad
                          refine ⟨va4, M6.ha, lim_lt (by rw [M6.rq.len]; exact hacc), items1.length - (j + 1), by omega, F6, g6, va4 ++ [y], acc4 ++ [d], rfl, hlt1, ?_, M7, ?_⟩
                          · refine ⟨e7.f, fun q o z => ?_, fun q o z n m => ?_, fun q o z => ?_, e7.ff⟩
                            · rw [upd_ne (ne_of_none z M6.fa)]; exact e7.fh q o z
                            · rw [upd_ne (ne_of_none z nD)]; exact e7.keep q o z n m
                            · rw [upd_ne (ne_of_none z nD)]; exact e7.dom q o z
                          · rw [eq4]
                            cases compF b1 ft1 fe (wipeR ρ1 vs1) (items1.drop (j + 1)) g6 with
                            | bad => rfl
                            | exc n fs g7 => rfl
                            | ok r g7 =>
                              simp only [Out.bind]
                              cases compF2 vs1 b ft fi1 b1 ft1 fe (wipeR ρ vs) (items.drop (i + 1)) g7 with
                              | bad => rfl
                              | exc n fs g8 => rfl
                              | ok r2 g8 => simp only [List.append_assoc, List.cons_append, List.nil_append]
                        · rw [if_neg hn] at eq4
                          simp only [Out.bind] at eq4
                          exact absurd eq4 nbad
              · have e : j = items1.length := by omega
                rw [e, List.drop_length] at eq4
                simp only [compF, Out.bind, List.nil_append] at eq4
                exact .inl ⟨(hJ1 j H sm1).2 (by omega), items.length - (i + 1), by omega, F4, g4, va4, acc4, rfl, hlt, M4, eq4⟩
  · have e : i = items.length := by omega
    rw [e, List.drop_length] at eq
    simp only [compF2, Out.bind, List.append_nil] at eq
    have eq : full = fin2 acc g := eq
    unfold fin2 at eq
    by_cases hl : acc.length ≤ LIM
    · rw [if_pos hl] at eq
      rw [eq] at h
      exact .inl ⟨(hJ i H sm).2 (by omega), h A va F H M.ext M.gok M.ha M.fa nA M.rq⟩
    · rw [if_neg hl] at eq
      exact absurd eq nbad
variable {st : Stmt}
theorem lc2_imp (hbk : BOk b) (sub : ∀ i ∈ is, i ∈ own.map (·.2)) (sub1 : ∀ i ∈ is1, i ∈ vs1) (σ : L2.St) (H : Hp) (Q : VK) (w : tEo c W (oComp2 (own.map (·.2)) vs1 fi b ft fi1 b1 ft1 fe) σ H Q) : tLc2 (tI c W fi) (tG c is b) (tT c W0 ft) (tI c W0 fi1) (tG c is1 b1) (tT c W0 ft1) (tE c W0 fe) (own.map (·.2)) vs1 σ H Q := by
  obtain ⟨F, ρ, g, s, h⟩ := w
  exact ⟨F, ρ, g, s, PostO.bind s h fun items g1 J F1 H1 e1 s1 r1 h1 => fun A nA => lc2_post hbk s1 r1 nA sub sub1 h1⟩
theorem o_lc2 {pos : Pos} {elt tg iter tg1 iter1 : Expr} (hbk : BOk b) (hc : X.calm = true) (hN : X.N.Nodup) (hi : DI X c W tg iter fi) (ok : BlkOk X.N X.env.scope scope own) (hv : ∀ i ∈ vs1, i ∈ own.map (·.2)) (sub : ∀ i ∈ is, i ∈ own.map (·.2)) (sub1 : ∀ i ∈ is1, i ∈ vs1)
    (hg : ∀ (s : Shared) (H : Hp) (C : Addr) (cl : List (Str × Addr)) (fp : List Addr), DG (X.blk s H scope (compEnvC scope cl C X.env) fp) c is tg b) (ht : ∀ (s : Shared) (H : Hp) (C : Addr) (cl : List (Str × Addr)) (fp : List Addr), PTs (X.blk s H scope (compEnvC scope cl C X.env) fp) ifs (tT c W0 ft))
    (hi1 : ∀ (s : Shared) (H : Hp) (C : Addr) (cl : List (Str × Addr)) (fp : List Addr), DI (X.blk s H scope (compEnvC scope cl C X.env) fp) c W0 tg1 iter1 fi1)
    (hg1 : ∀ (s : Shared) (H : Hp) (C : Addr) (cl : List (Str × Addr)) (fp : List Addr), DG (X.blk s H scope (compEnvC scope cl C X.env) fp) c is1 tg1 b1) (ht1 : ∀ (s : Shared) (H : Hp) (C : Addr) (cl : List (Str × Addr)) (fp : List Addr), PTs (X.blk s H scope (compEnvC scope cl C X.env) fp) ifs1 (tT c W0 ft1))
    (he : ∀ (s : Shared) (H : Hp) (C : Addr) (cl : List (Str × Addr)) (fp : List Addr), DE (X.blk s H scope (compEnvC scope cl C X.env) fp) c W0 elt fe) (hs : ∀ x, foldedSetIterable iter X.env x = pure x := by intro _; rfl) (hs1 : ∀ env x, foldedSetIterable iter1 env x = pure x := by intro _ _; rfl) :
    DEo X c W (.ListComp elt [⟨tg, iter, ifs, 0⟩, ⟨tg1, iter1, ifs1, 0⟩] scope pos) (oComp2 (own.map (·.2)) vs1 fi b ft fi1 b1 ft1 fe) :=
  PE.imp (pe_lc2 hc hN hi ok hv hg ht hi1 hg1 ht1 he hs hs1) (lc2_imp hbk sub sub1)
theorem ds_lc2O {i : Nat} (hbk : BOk b) (sub : ∀ i ∈ is, i ∈ own.map (·.2)) (sub1 : ∀ i ∈ is1, i ∈ vs1) (h : PS X st (tAsg (tLc2 (tI c W fi) (tG c is b) (tT c W0 ft) (tI c W0 fi1) (tG c is1 b1) (tT c W0 ft1) (tE c W0 fe) (own.map (·.2)) vs1) (gName i))) : DS X c W st (sSetO i (oComp2 (own.map (·.2)) vs1 fi b ft fi1 b1 ft1 fe)) :=
  ds_setO (PS.imp h fun E σ H w => lc2_imp hbk sub sub1 σ H _ w)
theorem ds_lc2 {i : Nat} (hbk : BOk b) (sub : ∀ i ∈ is, i ∈ own.map (·.2)) (sub1 : ∀ i ∈ is1, i ∈ vs1) (h : PS X st (tAsg (tLc2 (tI c W fi) (tG c is b) (tT c W0 ft) (tI c W0 fi1) (tG c is1 b1) (tT c W0 ft1) (tE c W0 fe) (own.map (·.2)) vs1) (gName i))) : DS X c W st (sSet i (eOf (oComp2 (own.map (·.2)) vs1 fi b ft fi1 b1 ft1 fe))) :=
  ds_set (PS.imp h fun E σ H w => lc2_imp hbk sub sub1 σ H _ (of_imp σ H _ w))
end
end DL
namespace DL
open PySem
open PySem.Spec
open PyProof.Rows
open L2
theorem eV_ap (i : Nat) (ρ : RS) (g : G) : eV i ρ g = match ρ[i]? with
  | some (.d x) => .ok x g
  | _ => .bad := Eq.trans rfl rfl
theorem eC_ap (d : D) (ρ : RS) (g : G) : eC d ρ g = .ok d g := Eq.trans rfl rfl
theorem eBin_ap (φ : D → D → G → Out D) (fa fb : EF) (ρ : RS) (g : G) : eBin φ fa fb ρ g = (fa ρ g).bind fun x g1 => (fb ρ g1).bind fun y g2 => φ x y g2 := Eq.trans rfl rfl
theorem eNeg_ap (fa : EF) (ρ : RS) (g : G) : eNeg fa ρ g = (fa ρ g).bind fun x g1 => match x with
  | .int i => .ok (.int (-i)) g1
  | _ => .bad := Eq.trans rfl rfl
theorem tVal_ap (fa : EF) (ρ : RS) (g : G) : tVal fa ρ g = (fa ρ g).bind fun x g1 => match x with
  | .bool k => .ok k g1
  | _ => .bad := Eq.trans rfl rfl
theorem eIsN_ap (fa : EF) (ρ : RS) (g : G) : eIsN fa ρ g = (fa ρ g).bind fun x g1 => .ok (.bool (isNon x)) g1 := Eq.trans rfl rfl
theorem eNotN_ap (fa : EF) (ρ : RS) (g : G) : eNotN fa ρ g = (fa ρ g).bind fun x g1 => .ok (.bool (!isNon x)) g1 := Eq.trans rfl rfl
theorem eChain_ap (p q : Int → Int → Bool) (fa fb fc : EF) (ρ : RS) (g : G) : eChain p q fa fb fc ρ g = (fa ρ g).bind fun x g1 => (fb ρ g1).bind fun y g2 => match x, y with
  | .int i, .int j => if p i j = true then (fc ρ g2).bind fun z g3 => match z with
      | .int k => .ok (.bool (q j k)) g3
      | _ => .bad
    else .ok (.bool false) g2
  | _, _ => .bad := Eq.trans rfl rfl
theorem tAndF_ap (fa fb : TF) (ρ : RS) (g : G) : tAndF fa fb ρ g = (fa ρ g).bind fun k g1 => if k = true then fb ρ g1 else .ok false g1 := Eq.trans rfl rfl
theorem tOrF_ap (fa fb : TF) (ρ : RS) (g : G) : tOrF fa fb ρ g = (fa ρ g).bind fun k g1 => if k = true then .ok true g1 else fb ρ g1 := Eq.trans rfl rfl
theorem tNotF_ap (fa : TF) (ρ : RS) (g : G) : tNotF fa ρ g = (fa ρ g).bind fun k g1 => .ok (!k) g1 := Eq.trans rfl rfl
theorem tTru_ap (fa : EF) (ρ : RS) (g : G) : tTru fa ρ g = (fa ρ g).bind fun x g1 => match truD x with
  | some k => .ok k g1
  | none => .bad := Eq.trans rfl rfl
theorem eAnd_ap (fa fb : EF) (ρ : RS) (g : G) : eAnd fa fb ρ g = (fa ρ g).bind fun x g1 => match x with
  | .bool k => if k = true then fb ρ g1 else .ok (.bool false) g1
  | _ => .bad := Eq.trans rfl rfl
theorem eOr_ap (fa fb : EF) (ρ : RS) (g : G) : eOr fa fb ρ g = (fa ρ g).bind fun x g1 => match x with
  | .bool k => if k = true then .ok (.bool true) g1 else fb ρ g1
  | _ => .bad := Eq.trans rfl rfl
theorem eNot_ap (fa : EF) (ρ : RS) (g : G) : eNot fa ρ g = (fa ρ g).bind fun x g1 => match x with
  | .bool k => .ok (.bool (!k)) g1
  | _ => .bad := Eq.trans rfl rfl
theorem eIf_ap (t : TF) (fa fb : EF) (ρ : RS) (g : G) : eIf t fa fb ρ g = (t ρ g).bind fun k g1 => if k = true then fa ρ g1 else fb ρ g1 := Eq.trans rfl rfl
theorem aNil_ap (ρ : RS) (g : G) : aNil ρ g = .ok [] g := Eq.trans rfl rfl
theorem aCons_ap (fe : EF) (fs : AF) (ρ : RS) (g : G) : aCons fe fs ρ g = (fe ρ g).bind fun x g1 => (fs ρ g1).bind fun xs g2 => .ok (x :: xs) g2 := Eq.trans rfl rfl
theorem eTup_ap (fs : AF) (ρ : RS) (g : G) : eTup fs ρ g = (fs ρ g).bind fun xs g1 => if noTok xs = true ∧ xs.length ≤ LIM then .ok (.tuple xs) g1 else .bad := Eq.trans rfl rfl
theorem eLst_ap (fs : AF) (ρ : RS) (g : G) : eLst fs ρ g = (fs ρ g).bind fun xs g1 => if noTok xs = true ∧ xs.length ≤ LIM then .ok (.list xs) g1 else .bad := Eq.trans rfl rfl
theorem oNone_ap (ρ : RS) (g : G) : oNone ρ g = .ok none g := Eq.trans rfl rfl
theorem oSome_ap (fe : EF) (ρ : RS) (g : G) : oSome fe ρ g = (fe ρ g).bind fun x g1 => match x with
  | .int i => .ok (some i) g1
  | _ => .bad := Eq.trans rfl rfl
theorem eSl_ap (fa : EF) (fl fh : OF) (ρ : RS) (g : G) : eSl fa fl fh ρ g = (fa ρ g).bind fun x g1 => (fl ρ g1).bind fun lo g2 => (fh ρ g2).bind fun hi g3 => match x with
  | .list xs => .ok (.list (cutD xs lo hi)) g3
  | .tuple xs => .ok (.tuple (cutD xs lo hi)) g3
  | _ => .bad := Eq.trans rfl rfl
theorem eCall_ap (φ : List D → G → Out D) (fs : AF) (ρ : RS) (g : G) : eCall φ fs ρ g = (fs ρ g).bind φ := Eq.trans rfl rfl
theorem iLst_ap (fe : EF) (ρ : RS) (g : G) : iLst fe ρ g = (fe ρ g).bind fun x g1 => match x with
  | .list xs => .ok xs g1
  | _ => .bad := Eq.trans rfl rfl
theorem iTpl_ap (fe : EF) (ρ : RS) (g : G) : iTpl fe ρ g = (fe ρ g).bind fun x g1 => match x with
  | .tuple xs => .ok xs g1
  | _ => .bad := Eq.trans rfl rfl
theorem iRan2_ap (fs : AF) (ρ : RS) (g : G) : iRan2 fs ρ g = (fs ρ g).bind fun xs g1 => match xs with
  | [.int i, .int j] => if -(2 ^ 62) ≤ i ∧ i < 2 ^ 62 ∧ -(2 ^ 62) ≤ j ∧ j < 2 ^ 62 then .ok (upTo i (j - i).toNat) g1 else .bad
  | _ => .bad := Eq.trans rfl rfl
theorem eOf_ap (f : OF') (ρ : RS) (g : G) : eOf f ρ g = (f ρ g).bind fun ds g1 => .ok (.list ds) g1 := Eq.trans rfl rfl
theorem oLst_ap (fs : AF) (ρ : RS) (g : G) : oLst fs ρ g = (fs ρ g).bind fun xs g1 => if noTok xs = true ∧ xs.length ≤ LIM then .ok xs g1 else .bad := Eq.trans rfl rfl
theorem oCat_ap (fa fb : EF) (ρ : RS) (g : G) : oCat fa fb ρ g = (fa ρ g).bind fun x g1 => (fb ρ g1).bind fun y g2 => match x, y with
  | .list i, .list j => if i.length + j.length ≤ LIM then .ok (i ++ j) g2 else .bad
  | _, _ => .bad := Eq.trans rfl rfl
theorem oRep_ap (fa fb : EF) (ρ : RS) (g : G) : oRep fa fb ρ g = (fa ρ g).bind fun x g1 => (fb ρ g1).bind fun y g2 => match x, y with
  | .list xs, .int k => if k ≤ LIM ∧ -(2 ^ 62) ≤ k ∧ xs.length * k.toNat ≤ LIM then .ok (List.replicate k.toNat xs).flatten g2 else .bad
  | _, _ => .bad := Eq.trans rfl rfl
theorem oSl_ap (fa : EF) (fl fh : OF) (ρ : RS) (g : G) : oSl fa fl fh ρ g = (fa ρ g).bind fun x g1 => (fl ρ g1).bind fun lo g2 => (fh ρ g2).bind fun hi g3 => match x with
  | .list xs => .ok (cutD xs lo hi) g3
  | _ => .bad := Eq.trans rfl rfl
theorem oList_ap (fs : AF) (ρ : RS) (g : G) : oList fs ρ g = (fs ρ g).bind fun ds g1 => match ds with
  | [.list xs] => .ok xs g1
  | [.tuple xs] => .ok xs g1
  | _ => .bad := Eq.trans rfl rfl
theorem oComp_ap (vs : List Nat) (fi : LF) (b : BF) (ft : TF) (fe : EF) (ρ : RS) (g : G) : oComp vs fi b ft fe ρ g = (fi ρ g).bind fun items g1 => if items.length ≤ LIM then compF b ft fe (wipeR ρ vs) items g1 else .bad := Eq.trans rfl rfl
theorem tYesF_ap (ρ : RS) (g : G) : tYesF ρ g = .ok true g := Eq.trans rfl rfl
theorem sNil_ap (ρ : RS) (g : G) : sNil ρ g = .nx ρ g := Eq.trans rfl rfl
theorem sSeq_ap (f k : SF) (ρ : RS) (g : G) : sSeq f k ρ g = match f ρ g with
  | .nx ρ' g' => k ρ' g'
  | o => o := Eq.trans rfl rfl
theorem sBrk_ap (ρ : RS) (g : G) : sBrk ρ g = .bk ρ g := Eq.trans rfl rfl
theorem sCnt_ap (ρ : RS) (g : G) : sCnt ρ g = .ct ρ g := Eq.trans rfl rfl
theorem sExpr_ap (fe : EF) (ρ : RS) (g : G) : sExpr fe ρ g = (fe ρ g).go ρ fun _ g1 => .nx ρ g1 := Eq.trans rfl rfl
theorem sRet_ap (fe : EF) (ρ : RS) (g : G) : sRet fe ρ g = (fe ρ g).go ρ fun d g1 => .rt d g1 := Eq.trans rfl rfl
theorem sRetN_ap (ρ : RS) (g : G) : sRetN ρ g = .rt .none g := Eq.trans rfl rfl
theorem sIf_ap (t : TF) (f k : SF) (ρ : RS) (g : G) : sIf t f k ρ g = (t ρ g).go ρ fun b g1 => if b = true then f ρ g1 else k ρ g1 := Eq.trans rfl rfl
theorem sSet_ap (i : Nat) (fe : EF) (ρ : RS) (g : G) : sSet i fe ρ g = (fe ρ g).go ρ fun d g1 => .nx (ρ.set i (.d d)) g1 := Eq.trans rfl rfl
theorem sSetO_ap (i : Nat) (fo : OF') (ρ : RS) (g : G) : sSetO i fo ρ g = (fo ρ g).go ρ fun ds g1 => .nx (ρ.set i (.own ds)) g1 := Eq.trans rfl rfl
theorem sAsg_ap (b : BF) (fe : EF) (ρ : RS) (g : G) : sAsg b fe ρ g = (fe ρ g).go ρ fun d g1 => match b d ρ with
  | some ρ' => .nx ρ' g1
  | none => .bad := Eq.trans rfl rfl
theorem sPar_ap (i j : Nat) (fs : AF) (ρ : RS) (g : G) : sPar i j fs ρ g = (fs ρ g).go ρ fun ds g1 => match ds with
  | [x, y] => .nx ((ρ.set i (.d x)).set j (.d y)) g1
  | _ => .bad := Eq.trans rfl rfl
theorem sPar3_ap (i j l : Nat) (fs : AF) (ρ : RS) (g : G) : sPar3 i j l fs ρ g = (fs ρ g).go ρ fun ds g1 => match ds with
  | [x, y, z] => .nx (((ρ.set i (.d x)).set j (.d y)).set l (.d z)) g1
  | _ => .bad := Eq.trans rfl rfl
theorem sAug_ap (i : Nat) (φ : Int → Int → Int) (fe : EF) (ρ : RS) (g : G) : sAug i φ fe ρ g = match ρ[i]? with
  | some (.d (.int a)) => (fe ρ g).go ρ fun d g1 => match d with
    | .int b => .nx (ρ.set i (.d (.int (φ a b)))) g1
    | _ => .bad
  | _ => .bad := Eq.trans rfl rfl
theorem sApp_ap (i : Nat) (fe : EF) (ρ : RS) (g : G) : sApp i fe ρ g = match ρ[i]? with
  | some (.own xs) => (fe ρ g).go ρ fun d g1 => if xs.length < LIM ∧ noTok [d] = true then .nx (ρ.set i (.own (xs ++ [d]))) g1 else .bad
  | _ => .bad := Eq.trans rfl rfl
theorem sExt_ap (i : Nat) (fe : EF) (ρ : RS) (g : G) : sExt i fe ρ g = match ρ[i]? with
  | some (.own xs) => (fe ρ g).go ρ fun d g1 => match d with
    | .list ys => if xs.length + ys.length ≤ LIM then .nx (ρ.set i (.own (xs ++ ys))) g1 else .bad
    | _ => .bad
  | _ => .bad := Eq.trans rfl rfl
theorem sSetIx_ap (i : Nat) (fe fj : EF) (ρ : RS) (g : G) : sSetIx i fe fj ρ g = match ρ[i]? with
  | some (.own xs) => (fe ρ g).go ρ fun d g1 => (fj ρ g1).go ρ fun j g2 => match j with
    | .int n => match ixN xs.length n with
      | some m => if noTok [d] = true then .nx (ρ.set i (.own (xs.set m d))) g2 else .bad
      | none => .bad
    | _ => .bad
  | _ => .bad := Eq.trans rfl rfl
theorem sFrz_ap (i : Nat) (f : SF) (ρ : RS) (g : G) : sFrz i f ρ g = match ρ[i]? with
  | some (.own xs) => f (ρ.set i (.d (.list xs))) g
  | _ => f ρ g := Eq.trans rfl rfl
theorem eIxO_ap (i : Nat) (fj : EF) (ρ : RS) (g : G) : eIxO i fj ρ g = match ρ[i]? with
  | some (.own xs) => (fj ρ g).bind fun j g1 => match j with
    | .int n => match atI xs n with
      | some d => .ok d g1
      | none => .bad
    | _ => .bad
  | _ => .bad := Eq.trans rfl rfl
theorem eLenO_ap (i : Nat) (ρ : RS) (g : G) : eLenO i ρ g = match ρ[i]? with
  | some (.own xs) => .ok (.int xs.length) g
  | _ => .bad := Eq.trans rfl rfl
theorem eIxA_ap (i : Nat) (fj : EF) (ρ : RS) (g : G) : eIxA i fj ρ g = match ρ[i]? with
  | some (.d x) => (fj ρ g).bind fun j g1 => opIx x j g1
  | _ => eIxO i fj ρ g := Eq.trans rfl rfl
theorem eLenA_ap (i : Nat) (ρ : RS) (g : G) : eLenA i ρ g = match ρ[i]? with
  | some (.d (.list xs)) => .ok (.int xs.length) g
  | _ => eLenO i ρ g := Eq.trans rfl rfl
theorem vOf_ap (fs : AF) (ρ : RS) (g : G) : vOf fs ρ g = (fs ρ g).bind fun ds g1 => .ok (ds.map .d) g1 := Eq.trans rfl rfl
theorem vCons_ap (fe : EF) (fs : VF) (ρ : RS) (g : G) : vCons fe fs ρ g = (fe ρ g).bind fun x g1 => (fs ρ g1).bind fun ss g2 => .ok (.d x :: ss) g2 := Eq.trans rfl rfl
theorem vOwn_ap (fo : OF') (fs : AF) (ρ : RS) (g : G) : vOwn fo fs ρ g = (fo ρ g).bind fun xs g1 => (fs ρ g1).bind fun ds g2 => .ok (.own xs :: ds.map .d) g2 := Eq.trans rfl rfl
theorem sTup_ap (is : List Nat) (fv : VF) (ρ : RS) (g : G) : sTup is fv ρ g = (fv ρ g).go ρ fun ss g1 => if ss.length = is.length then .nx (setAll ρ is ss) g1 else .bad := Eq.trans rfl rfl
theorem iSeq_ap (fe : EF) (ρ : RS) (g : G) : iSeq fe ρ g = (fe ρ g).bind fun x g1 => match x with
  | .list xs => .ok xs g1
  | .tuple xs => .ok xs g1
  | _ => .bad := Eq.trans rfl rfl
theorem sRaise_ap (n fld : Str) (fe : EF) (ρ : RS) (g : G) : sRaise n fld fe ρ g = (fe ρ g).go ρ fun d g1 => match d with
  | .str z => if z.length ≤ LIM then .exc n [(fld, .str z)] ρ g1 else .bad
  | _ => .bad := Eq.trans rfl rfl
theorem sTry_ap (i : Nat) (n : Str) (fb fh : SF) (ρ : RS) (g : G) : sTry i n fb fh ρ g = match fb ρ g with
  | .exc m fs ρ1 g1 => if m = n then (if noEx ρ1 = true then (match fh (ρ1.set i (.ex fs)) g1 with
      | .nx ρ2 g2 => if noEx (ρ2.set i .un) = true then .nx (ρ2.set i .un) g2 else .bad
      | .bk ρ2 g2 => if noEx (ρ2.set i .un) = true then .bk (ρ2.set i .un) g2 else .bad
      | .ct ρ2 g2 => if noEx (ρ2.set i .un) = true then .ct (ρ2.set i .un) g2 else .bad
      | .rt d g2 => .rt d g2
      | _ => .bad) else .bad) else .exc m fs ρ1 g1
  | o => o := Eq.trans rfl rfl
theorem eExF_ap (i : Nat) (f : Str) (ρ : RS) (g : G) : eExF i f ρ g = match ρ[i]? with
  | some (.ex fs) => match fs.lookup f with
    | some d => .ok d g
    | none => .bad
  | _ => .bad := Eq.trans rfl rfl
theorem tIfF_ap (t a b : TF) (ρ : RS) (g : G) : tIfF t a b ρ g = (t ρ g).bind fun k g1 => if k = true then a ρ g1 else b ρ g1 := Eq.trans rfl rfl
theorem eRev_ap (fa : EF) (ρ : RS) (g : G) : eRev fa ρ g = (fa ρ g).bind fun x g1 => match x with
  | .list xs => .ok (.list xs.reverse) g1
  | _ => .bad := Eq.trans rfl rfl
theorem eRevF_ap (fa fi : EF) (ρ : RS) (g : G) : eRevF fa fi ρ g = (fa ρ g).bind fun x g1 => match x with
  | .list xs => (fi ρ g1).bind fun y g2 => match y with
    | .int i => .ok (.list (xs.take (rvN xs.length i)).reverse) g2
    | _ => .bad
  | _ => .bad := Eq.trans rfl rfl
def SO.th : SO → (RS → G → SO) → SO
  | .nx ρ g, k => k ρ g
  | o, _ => o
theorem th_nx {ρ : RS} {g : G} {k : RS → G → SO} : (SO.nx ρ g).th k = k ρ g := Eq.trans rfl rfl
theorem th_rt {d : D} {g : G} {k : RS → G → SO} : (SO.rt d g).th k = .rt d g := Eq.trans rfl rfl
theorem th_bk {ρ : RS} {g : G} {k : RS → G → SO} : (SO.bk ρ g).th k = .bk ρ g := Eq.trans rfl rfl
theorem th_ct {ρ : RS} {g : G} {k : RS → G → SO} : (SO.ct ρ g).th k = .ct ρ g := Eq.trans rfl rfl
theorem th_exc {n : Str} {fs : List (Str × D)} {ρ : RS} {g : G} {k : RS → G → SO} : (SO.exc n fs ρ g).th k = .exc n fs ρ g := Eq.trans rfl rfl
theorem sSeq_th (f k : SF) (ρ : RS) (g : G) : sSeq f k ρ g = (f ρ g).th k := by
  unfold sSeq SO.th
  cases f ρ g <;> rfl
theorem bind_ok {α β : Type} {a : α} {g : G} {k : α → G → Out β} : (Out.ok a g).bind k = k a g := Eq.trans rfl rfl
theorem bind_exc {α β : Type} {n : Str} {fs : List (Str × D)} {g : G} {k : α → G → Out β} : (Out.exc n fs g : Out α).bind k = .exc n fs g := Eq.trans rfl rfl
theorem go_ok {α : Type} {a : α} {g : G} {ρ : RS} {k : α → G → SO} : (Out.ok a g).go ρ k = k a g := Eq.trans rfl rfl
theorem go_exc {α : Type} {n : Str} {fs : List (Str × D)} {g : G} {ρ : RS} {k : α → G → SO} : (Out.exc n fs g : Out α).go ρ k = .exc n fs ρ g := Eq.trans rfl rfl
theorem opAdd_int {i j : Int} {g : G} : opAdd (.int i) (.int j) g = .ok (.int (i + j)) g := Eq.trans rfl rfl
theorem opSub_int {i j : Int} {g : G} : opSub (.int i) (.int j) g = .ok (.int (i - j)) g := Eq.trans rfl rfl
theorem opMul_a {i j : Int} {g : G} (h1 : -18446744073709551616 < i) (h2 : i < 18446744073709551616) : opMul (.int i) (.int j) g = .ok (.int (i * j)) g := by
  show (if _ then _ else _) = _
  exact if_pos (.inl ⟨h1, h2⟩)
theorem opMul_b {i j : Int} {g : G} (h1 : -18446744073709551616 < j) (h2 : j < 18446744073709551616) : opMul (.int i) (.int j) g = .ok (.int (i * j)) g := by
  show (if _ then _ else _) = _
  exact if_pos (.inr (.inl ⟨h1, h2⟩))
theorem mulOk_wide {i j : Int} (h1 : i.natAbs < 2 ^ 4000) (h2 : j.natAbs < 2 ^ 4000) : MulOk i j := by
  have l : ∀ n : Nat, n < 2 ^ 4000 → n.log2 < 4000 := fun n h => by
    by_cases hn : n = 0
    · subst hn; decide
    · exact (Nat.log2_lt hn).mpr h
  have := l _ h1
  have := l _ h2
  exact .inr (.inr (by omega))
theorem opMul_ok {i j : Int} {g : G} (h : MulOk i j) : opMul (.int i) (.int j) g = .ok (.int (i * j)) g := by
  show (if _ then _ else _) = _
  exact if_pos h
theorem opDiv_pos {i j : Int} {g : G} (h1 : 0 < j) (h2 : j < 1073741824) : opDiv (.int i) (.int j) g = .ok (.int (i / j)) g := by
  show (if _ then _ else _) = _
  rw [if_pos (.inl ⟨by omega, by omega⟩), Int.fdiv_eq_ediv_of_nonneg i (by omega)]
theorem opDiv_wide {i j : Int} {g : G} (h1 : 0 < j) (h2 : j < 1606938044258990275541962092341162602522202993782792835301376) : opDiv (.int i) (.int j) g = .ok (.int (i / j)) g := by
  have hl : j.natAbs.log2 < 9000 := by
    refine Nat.lt_trans ((Nat.log2_lt (by omega)).mpr (?_ : j.natAbs < 2 ^ 200)) (by decide)
    have e : (2 ^ 200 : Nat) = 1606938044258990275541962092341162602522202993782792835301376 := by decide
    rw [e]
    omega
  show (if _ then _ else _) = _
  rw [if_pos (.inr ⟨h1, hl⟩), Int.fdiv_eq_ediv_of_nonneg i (by omega)]
theorem opMod_pos {i j : Int} {g : G} (h1 : 0 < j) : opMod (.int i) (.int j) g = .ok (.int (i % j)) g := by
  show (if _ then _ else _) = _
  rw [if_pos (by omega), Int.fmod_eq_emod_of_nonneg i (by omega)]
theorem opI_int {p : Int → Int → Bool} {i j : Int} {g : G} : opI p (.int i) (.int j) g = .ok (.bool (p i j)) g := Eq.trans rfl rfl
theorem shp_int {i : Int} : shp (.int i) = true := rfl
theorem shp_bool {i : Bool} : shp (.bool i) = true := rfl
theorem shp_none : shp .none = true := rfl
theorem opEq_shp {x y : D} {g : G} (h1 : shp x = true) (h2 : shp y = true) : opEq x y g = .ok (.bool (PyData.eqv x y)) g := if_pos ⟨h1, h2⟩
theorem opNe_shp {x y : D} {g : G} (h1 : shp x = true) (h2 : shp y = true) : opNe x y g = .ok (.bool (!PyData.eqv x y)) g := if_pos ⟨h1, h2⟩
theorem opEq_int {i j : Int} {g : G} : opEq (.int i) (.int j) g = .ok (.bool (decide (i = j))) g := by
  rw [opEq_shp shp_int shp_int]
  rfl
theorem opNe_int {i j : Int} {g : G} : opNe (.int i) (.int j) g = .ok (.bool (!decide (i = j))) g := by
  rw [opNe_shp shp_int shp_int]
  rfl
theorem opNe_bool {i j : Bool} {g : G} : opNe (.bool i) (.bool j) g = .ok (.bool (!(i == j))) g := by
  rw [opNe_shp shp_bool shp_bool]
  rfl
theorem opEq_bool {i j : Bool} {g : G} : opEq (.bool i) (.bool j) g = .ok (.bool (i == j)) g := by
  rw [opEq_shp shp_bool shp_bool]
  rfl
theorem atI_0 {α : Type} {x : α} {xs : List α} : atI (x :: xs) 0 = some x := atI0 (j := 0) rfl rfl
theorem atI_1 {α : Type} {x y : α} {xs : List α} : atI (x :: y :: xs) 1 = some y := atI0 (j := 1) rfl rfl
theorem atI_2 {α : Type} {x y z : α} {xs : List α} : atI (x :: y :: z :: xs) 2 = some z := atI0 (j := 2) rfl rfl
theorem atI_3 {α : Type} {x y z u : α} {xs : List α} : atI (x :: y :: z :: u :: xs) 3 = some u := atI0 (j := 3) rfl rfl
theorem atI_n {α : Type} {xs : List α} {i : Int} (h0 : 0 ≤ i) : atI xs i = xs[i.toNat]? := by
  by_cases h : i < xs.length
  · have := List.getElem?_eq_getElem (l := xs) (i := i.toNat) (by omega)
    rw [this]
    exact atI0 (j := i.toNat) (by omega) this
  · unfold atI ixN
    rw [if_pos h0, if_neg h, List.getElem?_eq_none (by omega)]
    rfl
theorem atI_neg {α : Type} {xs : List α} {i : Int} (h0 : i < 0) (h1 : 0 ≤ i + xs.length) : atI xs i = xs[(i + xs.length).toNat]? := by
  unfold atI ixN
  rw [if_neg (by omega)]
  split
  · rename_i h
    show xs[_]? = _
    congr 1
    all_goals omega
  · rename_i h
    exact absurd h (by omega)
theorem atI_m1 {α : Type} {xs : List α} {x : α} : atI (xs ++ [x]) (-1) = some x := atI_last xs x
theorem opIx_list {xs : List D} {i : Int} {g : G} : opIx (.list xs) (.int i) g = match atI xs i with | some d => .ok d g | none => .bad := Eq.trans rfl rfl
theorem opIx_tuple {xs : List D} {i : Int} {g : G} : opIx (.tuple xs) (.int i) g = match atI xs i with | some d => .ok d g | none => .bad := Eq.trans rfl rfl
theorem p62 : (2 : Int) ^ 62 = 4611686018427387904 := by decide
def ran1 (xs : List D) (g1 : G) : Out (List D) := match xs with
  | [.int j] => if -(2 ^ 62) ≤ j ∧ j < 2 ^ 62 then .ok (upTo 0 j.toNat) g1 else .bad
  | _ => .bad
def ran2 (xs : List D) (g1 : G) : Out (List D) := match xs with
  | [.int i, .int j] => if -(2 ^ 62) ≤ i ∧ i < 2 ^ 62 ∧ -(2 ^ 62) ≤ j ∧ j < 2 ^ 62 then .ok (upTo i (j - i).toNat) g1 else .bad
  | _ => .bad
theorem ran1_int {j : Int} {g : G} (h1 : -4611686018427387904 ≤ j) (h2 : j < 4611686018427387904) : ran1 [.int j] g = .ok (upTo 0 j.toNat) g := by
  rw [← p62] at h1 h2
  exact if_pos ⟨h1, h2⟩
theorem ran2_int {i j : Int} {g : G} (h1 : -4611686018427387904 ≤ i) (h2 : i < 4611686018427387904) (h3 : -4611686018427387904 ≤ j) (h4 : j < 4611686018427387904) : ran2 [.int i, .int j] g = .ok (upTo i (j - i).toNat) g := by
  rw [← p62] at h1 h2 h3 h4
  exact if_pos ⟨h1, h2, h3, h4⟩
theorem iRan1_ap (fs : AF) (ρ : RS) (g : G) : iRan1 fs ρ g = (fs ρ g).bind ran1 := Eq.trans rfl rfl
theorem iRan2_apN (fs : AF) (ρ : RS) (g : G) : iRan2 fs ρ g = (fs ρ g).bind ran2 := Eq.trans rfl rfl
theorem bLen_list {xs : List D} {g : G} : bLen [.list xs] g = .ok (.int xs.length) g := Eq.trans rfl rfl
theorem bLen_tuple {xs : List D} {g : G} : bLen [.tuple xs] g = .ok (.int xs.length) g := Eq.trans rfl rfl
theorem bInt_int {i : Int} {g : G} : bInt [.int i] g = .ok (.int i) g := Eq.trans rfl rfl
theorem bAbs_int {i : Int} {g : G} : bAbs [.int i] g = .ok (.int (if i < 0 then -i else i)) g := Eq.trans rfl rfl
theorem LIM_eq : LIM = 1000000 := Eq.trans rfl rfl
theorem mOf_run {n np : Nat} {f : SF} {ds : List D} {g : G} (h : ds.length = np) : mOf n np f ds g = runB n f ds g := if_pos h
theorem run_rt {n : Nat} {f : SF} {ds : List D} {g g1 : G} {d : D} (h : f (startR n ds) g = .rt d g1) : runB n f ds g = .ok d g1 := by
  unfold runB
  rw [h]
theorem run_nx {n : Nat} {f : SF} {ds : List D} {g g1 : G} {ρ : RS} (h : f (startR n ds) g = .nx ρ g1) : runB n f ds g = .ok .none g1 := by
  unfold runB
  rw [h]
theorem run_exc {n : Nat} {f : SF} {ds : List D} {g g1 : G} {m : Str} {fs : List (Str × D)} {ρ : RS} (h : f (startR n ds) g = .exc m fs ρ g1) : runB n f ds g = .exc m fs g1 := by
  unfold runB
  rw [h]
theorem m_rt {n np : Nat} {f : SF} {ds : List D} {g g1 : G} {d : D} (hl : ds.length = np) (h : f (startR n ds) g = .rt d g1) : mOf n np f ds g = .ok d g1 := (mOf_run hl).trans (run_rt h)
theorem m_nx {n np : Nat} {f : SF} {ds : List D} {g g1 : G} {ρ : RS} (hl : ds.length = np) (h : f (startR n ds) g = .nx ρ g1) : mOf n np f ds g = .ok .none g1 := (mOf_run hl).trans (run_nx h)
theorem m_exc {n np : Nat} {f : SF} {ds : List D} {g g1 : G} {m : Str} {fs : List (Str × D)} {ρ : RS} (hl : ds.length = np) (h : f (startR n ds) g = .exc m fs ρ g1) : mOf n np f ds g = .exc m fs g1 := (mOf_run hl).trans (run_exc h)
theorem seq_nx {f k : SF} {ρ ρ1 : RS} {g g1 : G} {o : SO} (h : f ρ g = .nx ρ1 g1) (h2 : k ρ1 g1 = o) : sSeq f k ρ g = o := by
  rw [sSeq_th, h]
  exact h2
theorem while_run {t : TF} {f : SF} (P : Nat → RS → G → Prop) (R : RS → G → Prop) (h : ∀ m ρ g, P m ρ g → (t ρ g = .ok false g ∧ R ρ g) ∨ (t ρ g = .ok true g ∧ ∃ m' ρ' g', m' < m ∧ (f ρ g = .nx ρ' g' ∨ f ρ g = .ct ρ' g') ∧ P m' ρ' g')) :
    ∀ n m ρ g, P m ρ g → m < n → ∃ ρ' g', R ρ' g' ∧ whileF t f n ρ g = .nx ρ' g'
  | 0, _, _, _, _, h => absurd h (Nat.not_lt_zero _)
  | n + 1, m, ρ, g, p, hm => by
    rcases h m ρ g p with ⟨h1, r⟩ | ⟨h1, m', ρ', g', h2, h3, h4⟩
    · refine ⟨ρ, g, r, ?_⟩
      unfold whileF
      rw [h1]
      rfl
    · obtain ⟨ρ2, g2, r, e⟩ := while_run P R h n m' ρ' g' h4 (by omega)
      refine ⟨ρ2, g2, r, ?_⟩
      unfold whileF
      rw [h1]
      rcases h3 with h3 | h3
      · simp only [Out.go, if_true, h3]; exact e
      · simp only [Out.go, if_true, h3]; exact e
theorem sWhile_run {t : TF} {f : SF} {N m : Nat} {ρ : RS} {g : G} (P : Nat → RS → G → Prop) (R : RS → G → Prop) (p : P m ρ g) (hm : m < N) (h : ∀ m ρ g, P m ρ g → (t ρ g = .ok false g ∧ R ρ g) ∨ (t ρ g = .ok true g ∧ ∃ m' ρ' g', m' < m ∧ (f ρ g = .nx ρ' g' ∨ f ρ g = .ct ρ' g') ∧ P m' ρ' g')) :
    ∃ ρ' g', R ρ' g' ∧ sWhile N t f ρ g = .nx ρ' g' := while_run P R h N m ρ g p hm
theorem for_run {b : BF} {f : SF} (items : List D) (P : Nat → RS → G → Prop) (h : ∀ i (hi : i < items.length) ρ g, P i ρ g → ∃ ρ1 ρ2 g2, b items[i] ρ = some ρ1 ∧ (f ρ1 g = .nx ρ2 g2 ∨ f ρ1 g = .ct ρ2 g2) ∧ P (i + 1) ρ2 g2) :
    ∀ ρ g, P 0 ρ g → ∃ ρ' g', P items.length ρ' g' ∧ forL b f items ρ g = .nx ρ' g' := by
  have go : ∀ (k : Nat) (xs : List D) (i : Nat), items.drop i = xs → xs.length = k → i ≤ items.length → ∀ ρ g, P i ρ g → ∃ ρ' g', P items.length ρ' g' ∧ forL b f xs ρ g = .nx ρ' g' := by
    intro k
    induction k with
    | zero =>
      intro xs i e hl hi ρ g p
      have : xs = [] := List.length_eq_zero_iff.mp hl
      subst this
      have : i = items.length := by
        have := congrArg List.length e
        rw [List.length_drop] at this
        simp at this
        omega
      subst this
      exact ⟨ρ, g, p, rfl⟩
    | succ k ih =>
      intro xs i e hl hi ρ g p
      have hlt : i < items.length := by
        have := congrArg List.length e
        rw [List.length_drop] at this
        omega
      rw [List.drop_eq_getElem_cons hlt] at e
      subst e
      obtain ⟨ρ1, ρ2, g2, h1, h2, h3⟩ := h i hlt ρ g p
      obtain ⟨ρ', g', h4, h5⟩ := ih (items.drop (i + 1)) (i + 1) rfl (by rw [List.length_cons] at hl; omega) (by omega) ρ2 g2 h3
      refine ⟨ρ', g', h4, ?_⟩
      unfold forL
      rw [h1]
      rcases h2 with h2 | h2
      · simp only [h2]; exact h5
      · simp only [h2]; exact h5
  intro ρ g p
  exact go items.length items 0 rfl rfl (Nat.zero_le _) ρ g p
theorem sFor_run {fi : LF} {b : BF} {f : SF} {items : List D} {ρ : RS} {g g1 : G} (P : Nat → RS → G → Prop) (hi : fi ρ g = .ok items g1) (p : P 0 ρ g1) (h : ∀ i (hi : i < items.length) ρ g, P i ρ g → ∃ ρ1 ρ2 g2, b items[i] ρ = some ρ1 ∧ (f ρ1 g = .nx ρ2 g2 ∨ f ρ1 g = .ct ρ2 g2) ∧ P (i + 1) ρ2 g2) :
    ∃ ρ' g', P items.length ρ' g' ∧ sFor fi b f ρ g = .nx ρ' g' := by
  obtain ⟨ρ', g', h1, h2⟩ := for_run items P h ρ g1 p
  refine ⟨ρ', g', h1, ?_⟩
  unfold sFor
  rw [hi]
  exact h2
theorem upTo_len {lo : Int} {n : Nat} : (upTo lo n).length = n := by
  unfold upTo
  rw [List.length_map, List.length_range]
theorem comp_run {b : BF} {ft : TF} {fe : EF} {ρ : RS} (items : List D) (P : Nat → List D → G → Prop)
    (h : ∀ i (hi : i < items.length) acc g, P i acc g → ∃ ρ1 g1, b items[i] ρ = some ρ1 ∧ ((ft ρ1 g = .ok false g1 ∧ P (i + 1) acc g1) ∨ (ft ρ1 g = .ok true g1 ∧ ∃ d g2, fe ρ1 g1 = .ok d g2 ∧ noTok [d] = true ∧ P (i + 1) (acc ++ [d]) g2))) :
    ∀ g, P 0 [] g → ∃ ds g', P items.length ds g' ∧ compF b ft fe ρ items g = .ok ds g' := by
  have go : ∀ (k : Nat) (xs : List D) (i : Nat), items.drop i = xs → xs.length = k → i ≤ items.length → ∀ acc g, P i acc g → ∃ ds g', P items.length (acc ++ ds) g' ∧ compF b ft fe ρ xs g = .ok ds g' := by
    intro k
    induction k with
    | zero =>
      intro xs i e hl hi acc g p
      have : xs = [] := List.length_eq_zero_iff.mp hl
      subst this
      have : i = items.length := by
        have := congrArg List.length e
        rw [List.length_drop] at this
        simp at this
        omega
      subst this
      exact ⟨[], g, by rw [List.append_nil]; exact p, rfl⟩
    | succ k ih =>
      intro xs i e hl hi acc g p
      have hlt : i < items.length := by
        have := congrArg List.length e
        rw [List.length_drop] at this
        omega
      rw [List.drop_eq_getElem_cons hlt] at e
      subst e
      rw [List.length_cons] at hl
      obtain ⟨ρ1, g1, h1, h2⟩ := h i hlt acc g p
      rcases h2 with ⟨h2, h3⟩ | ⟨h2, d, g2, h3, h4, h5⟩
      · obtain ⟨ds, g', q1, q2⟩ := ih (items.drop (i + 1)) (i + 1) rfl (by omega) (by omega) acc g1 h3
        refine ⟨ds, g', q1, ?_⟩
        simp only [compF, h1, h2]
        exact q2
      · obtain ⟨ds, g', q1, q2⟩ := ih (items.drop (i + 1)) (i + 1) rfl (by omega) (by omega) _ g2 h5
        refine ⟨d :: ds, g', by rw [List.append_assoc] at q1; exact q1, ?_⟩
        simp only [compF, h1, h2, h3, h4, if_true, q2]
        rfl
  intro g p
  obtain ⟨ds, g', h1, h2⟩ := go items.length items 0 rfl rfl (Nat.zero_le _) [] g p
  exact ⟨ds, g', by simpa using h1, h2⟩
theorem oComp_run {vs : List Nat} {fi : LF} {b : BF} {ft : TF} {fe : EF} {ρ : RS} {items : List D} {g g1 : G} (P : Nat → List D → G → Prop) (hi : fi ρ g = .ok items g1) (hl : items.length ≤ LIM) (p : P 0 [] g1)
    (h : ∀ i (hi : i < items.length) acc g, P i acc g → ∃ ρ1 g1, b items[i] (wipeR ρ vs) = some ρ1 ∧ ((ft ρ1 g = .ok false g1 ∧ P (i + 1) acc g1) ∨ (ft ρ1 g = .ok true g1 ∧ ∃ d g2, fe ρ1 g1 = .ok d g2 ∧ noTok [d] = true ∧ P (i + 1) (acc ++ [d]) g2))) :
    ∃ ds g', P items.length ds g' ∧ oComp vs fi b ft fe ρ g = .ok ds g' := by
  obtain ⟨ds, g', h1, h2⟩ := comp_run items P h g1 p
  refine ⟨ds, g', h1, ?_⟩
  show (fi ρ g).bind _ = _
  rw [hi]
  show (if items.length ≤ LIM then _ else _) = _
  rw [if_pos hl]
  exact h2
theorem oComp_map {vs : List Nat} {fi : LF} {b : BF} {ft : TF} {fe : EF} {ρ : RS} {items : List D} {g : G} (vals : List D) (hi : fi ρ g = .ok items g) (hl : items.length ≤ LIM) (hv : vals.length = items.length)
    (h : ∀ i (hi : i < items.length), ∃ ρ1 v, vals[i]? = some v ∧ b items[i] (wipeR ρ vs) = some ρ1 ∧ ft ρ1 g = .ok true g ∧ fe ρ1 g = .ok v g ∧ noTok [v] = true) : oComp vs fi b ft fe ρ g = .ok vals g := by
  obtain ⟨ds, g', ⟨rfl, e⟩, q⟩ := oComp_run (vs := vs) (b := b) (ft := ft) (fe := fe) (fun i acc g' => g' = g ∧ acc = vals.take i) hi hl ⟨rfl, rfl⟩ (fun i hx acc g' ⟨e1, e2⟩ => by
    subst e1 e2
    obtain ⟨ρ1, v, h1, h2, h3, h4, h5⟩ := h i hx
    exact ⟨ρ1, g', h2, .inr ⟨h3, v, g', h4, h5, rfl, by rw [List.take_add_one, h1]; rfl⟩⟩)
  rw [q, e, ← hv, List.take_length]
theorem oComp_none {vs : List Nat} {fi : LF} {b : BF} {ft : TF} {fe : EF} {ρ : RS} {items : List D} {g : G} (hi : fi ρ g = .ok items g) (hl : items.length ≤ LIM)
    (h : ∀ i (hi : i < items.length), ∃ ρ1, b items[i] (wipeR ρ vs) = some ρ1 ∧ ft ρ1 g = .ok false g) : oComp vs fi b ft fe ρ g = .ok [] g := by
  obtain ⟨ds, g', ⟨rfl, rfl⟩, q⟩ := oComp_run (vs := vs) (b := b) (ft := ft) (fe := fe) (fun i acc g' => g' = g ∧ acc = []) hi hl ⟨rfl, rfl⟩ (fun i hx acc g' ⟨e1, e2⟩ => by
    subst e1 e2
    obtain ⟨ρ1, h1, h2⟩ := h i hx
    exact ⟨ρ1, g', h1, .inl ⟨h2, rfl, rfl⟩⟩)
  exact q
abbrev dI (l : List Int) : D := .list (l.map .int)
abbrev dP (p : Int × Int) : D := .tuple [.int p.1, .int p.2]
abbrev dPs (l : List (Int × Int)) : D := .list (l.map dP)
def lay (k : Nat) (d : D) : Prop := d.canLay0 = true ∧ d.depth ≤ k
theorem lay.shp {k : Nat} {d : D} (h : lay k d) (hk : k ≤ 64) : shp d = true := by
  unfold DL.shp SeqAt.shaped
  rw [h.1, Bool.true_and]
  exact decide_eq_true (Nat.le_trans h.2 hk)
theorem lay_int {i : Int} : lay 0 (.int i) := ⟨rfl, Nat.le_refl _⟩
theorem lay_bool {i : Bool} : lay 0 (.bool i) := ⟨rfl, Nat.le_refl _⟩
theorem lay.up {k m : Nat} {d : D} (h : lay k d) (hk : k ≤ m) : lay m d := ⟨h.1, Nat.le_trans h.2 hk⟩
theorem lay_all {k : Nat} : ∀ {xs : List D}, (∀ x ∈ xs, lay k x) → PyData.canLayAll0 xs = true ∧ PyData.depthAll xs ≤ k
  | [], _ => ⟨rfl, Nat.zero_le _⟩
  | x :: xs, h => by
    obtain ⟨h1, h2⟩ := lay_all fun y hy => h y (List.mem_cons_of_mem _ hy)
    obtain ⟨h3, h4⟩ := h x List.mem_cons_self
    refine ⟨?_, ?_⟩
    · rw [PyData.canLayAll0, h1, h3]
      rfl
    · rw [PyData.depthAll]
      exact Nat.max_le.mpr ⟨h4, h2⟩
theorem lay_list {k : Nat} {xs : List D} (h : ∀ x ∈ xs, lay k x) : lay (k + 1) (.list xs) := by
  obtain ⟨h1, h2⟩ := lay_all h
  exact ⟨by rw [PyData.canLay0]; exact h1, by rw [PyData.depth]; omega⟩
theorem lay_tuple {k : Nat} {xs : List D} (h : ∀ x ∈ xs, lay k x) : lay (k + 1) (.tuple xs) := by
  obtain ⟨h1, h2⟩ := lay_all h
  exact ⟨by rw [PyData.canLay0]; exact h1, by rw [PyData.depth]; omega⟩
theorem lay_dI {l : List Int} : lay 1 (dI l) := lay_list fun x hx => by
  obtain ⟨i, _, rfl⟩ := List.mem_map.mp hx
  exact lay_int
theorem lay_dP {p : Int × Int} : lay 1 (dP p) := lay_tuple fun x hx => by
  rcases List.mem_cons.mp hx with rfl | hx
  · exact lay_int
  · rw [List.mem_singleton.mp hx]
    exact lay_int
theorem lay_dPs {l : List (Int × Int)} : lay 2 (dPs l) := lay_list fun x hx => by
  obtain ⟨i, _, rfl⟩ := List.mem_map.mp hx
  exact lay_dP
theorem opNe_dI {a b : List Int} {g : G} : opNe (.list (a.map .int)) (.list (b.map .int)) g = .ok (.bool (!decide (a = b))) g := by
  rw [opNe_shp (lay_dI.shp (by decide)) (lay_dI.shp (by decide)), show PyData.eqv (.list (a.map .int)) (.list (b.map .int)) = decide (a = b) from PySem.W.Datum.eqv (α := List Int) a b]
theorem opEq_dI {a b : List Int} {g : G} : opEq (.list (a.map .int)) (.list (b.map .int)) g = .ok (.bool (decide (a = b))) g := by
  rw [opEq_shp (lay_dI.shp (by decide)) (lay_dI.shp (by decide)), show PyData.eqv (.list (a.map .int)) (.list (b.map .int)) = decide (a = b) from PySem.W.Datum.eqv (α := List Int) a b]
theorem opNe_dP {a b c d : Int} {g : G} : opNe (.tuple [.int a, .int b]) (.tuple [.int c, .int d]) g = .ok (.bool (!decide ((a, b) = (c, d)))) g := by
  rw [opNe_shp ((lay_dP (p := (a, b))).shp (by decide)) ((lay_dP (p := (c, d))).shp (by decide)), show PyData.eqv (.tuple [.int a, .int b]) (.tuple [.int c, .int d]) = decide ((a, b) = (c, d)) from PySem.W.Datum.eqv (α := Int × Int) (a, b) (c, d)]
theorem opEq_dP {a b c d : Int} {g : G} : opEq (.tuple [.int a, .int b]) (.tuple [.int c, .int d]) g = .ok (.bool (decide ((a, b) = (c, d)))) g := by
  rw [opEq_shp ((lay_dP (p := (a, b))).shp (by decide)) ((lay_dP (p := (c, d))).shp (by decide)), show PyData.eqv (.tuple [.int a, .int b]) (.tuple [.int c, .int d]) = decide ((a, b) = (c, d)) from PySem.W.Datum.eqv (α := Int × Int) (a, b) (c, d)]
theorem opNe_dPs {a b : List (Int × Int)} {g : G} : opNe (.list (a.map dP)) (.list (b.map dP)) g = .ok (.bool (!decide (a = b))) g := by
  rw [opNe_shp (lay_dPs.shp (by decide)) (lay_dPs.shp (by decide)), show PyData.eqv (.list (a.map dP)) (.list (b.map dP)) = decide (a = b) from PySem.W.Datum.eqv (α := List (Int × Int)) a b]
theorem sIx_lo {n : Nat} {i : Int} (h0 : 0 ≤ i) : HT.sIx n 0 (some i) = min i.toNat n := by
  have := HT.sIx_nat n 0 i.toNat
  rw [← this]
  congr 2
  omega
theorem cutD_to {xs : List D} {i : Int} (h : 0 ≤ i) : cutD xs none (some i) = xs.take i.toNat := by
  unfold cutD
  have e : HT.sIx xs.length xs.length (some i) = min i.toNat xs.length := by
    have := HT.sIx_nat xs.length xs.length i.toNat
    rw [← this]
    congr 2
    omega
  rw [HT.sIx_none, e, List.drop_zero, Nat.sub_zero]
  by_cases hl : i.toNat ≤ xs.length
  · rw [Nat.min_eq_left hl]
  · rw [Nat.min_eq_right (by omega), List.take_length, List.take_of_length_le (by omega)]
theorem cutD_from {xs : List D} {i : Int} (h : 0 ≤ i) : cutD xs (some i) none = xs.drop i.toNat := by
  unfold cutD
  rw [sIx_lo h, HT.sIx_none]
  by_cases hl : i.toNat ≤ xs.length
  · rw [Nat.min_eq_left hl, List.take_of_length_le (by rw [List.length_drop]; omega)]
  · rw [Nat.min_eq_right (by omega), List.drop_length, List.drop_of_length_le (by omega), List.take_nil]
theorem cutD_neg {xs : List D} {i : Int} (h : i < 0) : cutD xs none (some i) = xs.take (i + xs.length).toNat := by
  unfold cutD
  have e : HT.sIx xs.length xs.length (some i) = (i + xs.length).toNat := by
    show (if i < 0 then _ else _) = _
    rw [if_pos h]
  rw [HT.sIx_none, e, List.drop_zero, Nat.sub_zero]
end DL
namespace K45
open PySem
open PySem.Spec
open PyProof.Rows
open L2
open DL
def topS (i : Nat) : Stmt := PySem.Challenge.pw_formsoftwo_k45_whole_chains_of_wholes.main.body.getD i (.Pass ⟨0, 0, 0, 0⟩)
abbrev s_root : Stmt := topS 4
abbrev nm_root : List Str := ["number", "low", "high", "mid"]
theorem sc_root : FnScope nm_root ["number"] (defScope s_root) := ⟨rfl, rfl, rfl, by decide +kernel, rfl, by decide +kernel, by decide +kernel⟩
abbrev s_is_square : Stmt := topS 5
abbrev nm_is_square : List Str := ["number"]
theorem sc_is_square : FnScope nm_is_square ["number"] (defScope s_is_square) := ⟨rfl, rfl, rfl, by decide +kernel, rfl, by decide +kernel, by decide +kernel⟩
abbrev s_chain : Stmt := topS 7
abbrev nm_chain : List Str := ["above", "below", "found"]
theorem sc_chain : FnScope nm_chain ["above", "below"] (defScope s_chain) := ⟨rfl, rfl, rfl, by decide +kernel, rfl, by decide +kernel, by decide +kernel⟩
abbrev s_part_of : Stmt := topS 8
abbrev nm_part_of : List Str := ["wholes", "above", "below", "one"]
theorem sc_part_of : FnScope nm_part_of ["wholes"] (defScope s_part_of) := ⟨rfl, rfl, rfl, by decide +kernel, rfl, by decide +kernel, by decide +kernel⟩
abbrev s_parts_along : Stmt := topS 9
abbrev nm_parts_along : List Str := ["wholes", "found", "last", "now", "one"]
theorem sc_parts_along : FnScope nm_parts_along ["wholes"] (defScope s_parts_along) := ⟨rfl, rfl, rfl, by decide +kernel, rfl, by decide +kernel, by decide +kernel⟩
abbrev s_root_chain : Stmt := topS 10
abbrev nm_root_chain : List Str := ["number", "whole", "found", "above", "below", "one"]
theorem sc_root_chain : FnScope nm_root_chain ["number"] (defScope s_root_chain) := ⟨rfl, rfl, rfl, by decide +kernel, rfl, by decide +kernel, by decide +kernel⟩
abbrev s_root_parts : Stmt := topS 11
abbrev nm_root_parts : List Str := ["number", "many", "whole", "round_of", "wholes", "k"]
theorem sc_root_parts : FnScope nm_root_parts ["number", "many"] (defScope s_root_parts) := ⟨rfl, rfl, rfl, by decide +kernel, rfl, by decide +kernel, by decide +kernel⟩
abbrev s_pell : Stmt := topS 12
abbrev nm_pell : List Str := ["number", "whole", "round_of", "many"]
theorem sc_pell : FnScope nm_pell ["number"] (defScope s_pell) := ⟨rfl, rfl, rfl, by decide +kernel, rfl, by decide +kernel, by decide +kernel⟩
abbrev s_minus_pell : Stmt := topS 13
abbrev nm_minus_pell : List Str := ["number", "round_of"]
theorem sc_minus_pell : FnScope nm_minus_pell ["number"] (defScope s_minus_pell) := ⟨rfl, rfl, rfl, by decide +kernel, rfl, by decide +kernel, by decide +kernel⟩
abbrev s__law_state : Stmt := topS 15
abbrev nm__law_state : List Str := ["script", "numbers_left", "cell"]
theorem sc__law_state : FnScope nm__law_state ["script"] (defScope s__law_state) := ⟨rfl, rfl, rfl, by decide +kernel, rfl, by decide +kernel, by decide +kernel⟩
abbrev s__law_take : Stmt := topS 16
abbrev nm__law_take : List Str := ["state", "most", "numbers_left", "at", "cell", "stirred"]
theorem sc__law_take : FnScope nm__law_take ["state", "most"] (defScope s__law_take) := ⟨rfl, rfl, rfl, by decide +kernel, rfl, by decide +kernel, by decide +kernel⟩
abbrev s__law_pick : Stmt := topS 17
abbrev nm__law_pick : List Str := ["state", "row"]
theorem sc__law_pick : FnScope nm__law_pick ["state", "row"] (defScope s__law_pick) := ⟨rfl, rfl, rfl, by decide +kernel, rfl, by decide +kernel, by decide +kernel⟩
abbrev s__law_root : Stmt := topS 18
abbrev nm__law_root : List Str := ["number", "low", "high", "middle"]
theorem sc__law_root : FnScope nm__law_root ["number"] (defScope s__law_root) := ⟨rfl, rfl, rfl, by decide +kernel, rfl, by decide +kernel, by decide +kernel⟩
abbrev s__law_divisor : Stmt := topS 19
abbrev nm__law_divisor : List Str := ["one", "other"]
theorem sc__law_divisor : FnScope nm__law_divisor ["one", "other"] (defScope s__law_divisor) := ⟨rfl, rfl, rfl, by decide +kernel, rfl, by decide +kernel, by decide +kernel⟩
abbrev s__law_least : Stmt := topS 20
abbrev nm__law_least : List Str := ["number", "goal", "most", "y", "x"]
theorem sc__law_least : FnScope nm__law_least ["number", "goal", "most"] (defScope s__law_least) := ⟨rfl, rfl, rfl, by decide +kernel, rfl, by decide +kernel, by decide +kernel⟩
abbrev s__law_words : Stmt := topS 21
abbrev nm__law_words : List Str := ["number", "found", "ask", "error"]
theorem sc__law_words : FnScope nm__law_words ["number"] (defScope s__law_words) := ⟨rfl, rfl, rfl, by decide +kernel, rfl, by decide +kernel, by decide +kernel⟩
abbrev s__law_sides : Stmt := topS 22
abbrev nm__law_sides : List Str := ["above", "below", "rows", "k", "side"]
theorem sc__law_sides : FnScope nm__law_sides ["above", "below", "rows"] (defScope s__law_sides) := ⟨rfl, rfl, rfl, by decide +kernel, rfl, by decide +kernel, by decide +kernel⟩
abbrev s_law : Stmt := topS 23
abbrev nm_law : List Str := ["script", "state", "turn", "most", "above", "below", "wholes", "shared", "rows", "k", "free", "told", "number", "whole", "first", "around", "many", "wide", "x", "y", "side", "least", "one"]
theorem sc_law : FnScope nm_law ["script"] (defScope s_law) := ⟨rfl, rfl, rfl, by decide +kernel, rfl, by decide +kernel, by decide +kernel⟩
abbrev si_Misstep : Stmt := match topS 2 with
  | .ClassDef (body := b) .. => b.getD 0 (.Pass ⟨0, 0, 0, 0⟩)
  | _ => .Pass ⟨0, 0, 0, 0⟩
structure Top (P : Program) (K : PySem.W.Frag) (mg : Str → Option Value) where
  d_root : Df K mg "root" s_root ["number"]
  d_is_square : Df K mg "is_square" s_is_square ["number"]
  d_chain : Df K mg "chain" s_chain ["above", "below"]
  d_part_of : Df K mg "part_of" s_part_of ["wholes"]
  d_parts_along : Df K mg "parts_along" s_parts_along ["wholes"]
  d_root_chain : Df K mg "root_chain" s_root_chain ["number"]
  d_root_parts : Df K mg "root_parts" s_root_parts ["number", "many"]
  d_pell : Df K mg "pell" s_pell ["number"]
  d_minus_pell : Df K mg "minus_pell" s_minus_pell ["number"]
  d__law_state : Df K mg "_law_state" s__law_state ["script"]
  d__law_take : Df K mg "_law_take" s__law_take ["state", "most"]
  d__law_pick : Df K mg "_law_pick" s__law_pick ["state", "row"]
  d__law_root : Df K mg "_law_root" s__law_root ["number"]
  d__law_divisor : Df K mg "_law_divisor" s__law_divisor ["one", "other"]
  d__law_least : Df K mg "_law_least" s__law_least ["number", "goal", "most"]
  d__law_words : Df K mg "_law_words" s__law_words ["number"]
  d__law_sides : Df K mg "_law_sides" s__law_sides ["above", "below", "rows"]
  d_law : Df K mg "law" s_law ["script"]
  b_abs : mg "abs" = none
  b_int : mg "int" = none
  b_len : mg "len" = none
  b_range : mg "range" = none
  b_super : mg "super" = none
  e_Misstep : Ex K mg P "Misstep" "word" "this may not be done: " si_Misstep
  x_Misstep_Misstep : PySem.W.exmOne K (.ref e_Misstep.C) (.ref e_Misstep.C) = some true
variable {P : Program} {w : World} {K : PySem.W.Frag} {mg : Str → Option Value} {base : Heap}
def clOf (T : Top P K mg) (x : Str) : Option Addr := if x = "Misstep" then some T.e_Misstep.C else none
theorem cl_Misstep (T : Top P K mg) : clOf T "Misstep" = some T.e_Misstep.C := by
  unfold clOf
  simp
theorem hm_Misstep (T : Top P K mg) : ∀ (m : Str) (C : Addr), clOf T m = some C → PySem.W.exmOne K (.ref C) (.ref T.e_Misstep.C) = some (decide (m = "Misstep")) := by
  intro m C h
  unfold clOf at h
  split at h
  · rename_i e
    cases h
    rw [e, T.x_Misstep_Misstep]
    rfl
  cases h
theorem in_Misstep (T : Top P K mg) : FnOk P w K mg base (L2.CX P w) 1 T.e_Misstep.k.f T.e_Misstep.k.fd ["self", "word"] (spI K T.e_Misstep.C "word" "this may not be done: ") :=
  init_ok T.e_Misstep.k ⟨_, _, _, _, _, _, _, _, _, _, _, _, _, rfl, rfl⟩ ⟨rfl, rfl, rfl, rfl, rfl, rfl, rfl, by decide +kernel, fun y h => (by decide +kernel : ∀ x ∈ (defScope si_Misstep).names, x.2 = .free → x.1 = "__class__") _ (PySem.mem_of_lookup h) rfl⟩ (by decide) rfl rfl rfl T.b_super
theorem ok__law_take (T : Top P K mg) : FnD P w K mg base (clOf T) 1 T.d__law_take.f T.d__law_take.fd ["state", "most"] m_take := by
  refine Fun.okX T.d__law_take.F sc__law_take (fun vs H Q E ⟨sa, sb, F, ds, g, h1, h2, h3, h4⟩ => ?_) (fun cdv A outer s H vs Q E hr ⟨sa, sb, F, ds, g, h1, h2, h3, h4⟩ => ?_)
  · obtain ⟨most, rfl, _⟩ := m_take_args (ds := ds) (g := g) (fun e => by rw [e] at h4; exact h4)
    rw [h3.length]
    rfl
  · obtain ⟨most, rfl, hm⟩ := m_take_args (ds := ds) (g := g) (fun e => by rw [e] at h4; exact h4)
    rw [hm] at h4
    cases rep_take h3
    refine ⟨_, pss_cons (ps_if (pt_cmpR op_lt (pv 1) pe_int (nomark _)) (pss_one (ps_ret pe_int)) pss_nil)
      (pss_cons (ps_set (i := 2) sc__law_take.nd rfl (.inl rfl) (pe_ix ix_list (pv 0) pe_int (fun _ _ => rfl)))
      (pss_cons (ps_set (i := 3) sc__law_take.nd rfl (.inl rfl) (pe_op op_mod (pe_callTy call_int1 rfl T.b_int (by decide +kernel) (pa_cons (pe_ix ix_list (pv 0) pe_int (fun _ _ => rfl)) pa_nil)) (pe_callB call_len rfl T.b_len (by decide +kernel) (pa_cons (pv 2) pa_nil))))
      (pss_cons (ps_set (i := 4) sc__law_take.nd rfl (.inl rfl) (pe_ix ix_list (pv 2) (pv 3) (fun _ _ => rfl)))
      (pss_cons (ps_if (pt_cmpR op_ge (pv 4) pe_int (nomark _))
        (pss_cons (ps_asg (pe_op op_fdivW (pv 4) (pv 1)) (pg_sub (pv 2) (pv 3) set_list))
        (pss_one (ps_ret (pe_op op_mod (pe_callTy call_int1 rfl T.b_int (by decide +kernel) (pa_cons (pv 4) pa_nil)) (pv 1))))) pss_nil)
      (pss_cons (ps_asg (pe_op op_add (pe_ix ix_list (pv 0) pe_int (fun _ _ => rfl)) pe_int) (pg_sub (pv 0) pe_int set_list))
      (pss_cons (ps_set (i := 5) sc__law_take.nd rfl (.inl rfl) (pe_op op_mod (pe_callTy call_int1 rfl T.b_int (by decide +kernel) (pa_cons (pe_op op_add (pe_op op_mul (pv 4) pe_int) (pe_op op_mul (pe_ix ix_list (pv 0) pe_int (fun _ _ => rfl)) pe_int)) pa_nil)) pe_int))
      (pss_cons (ps_set (i := 5) sc__law_take.nd rfl (.inl rfl) (pe_op op_mod (pe_callTy call_int1 rfl T.b_int (by decide +kernel) (pa_cons (pe_op op_add (pe_op op_mul (pv 5) pe_int) (pe_op op_mul (pe_ix ix_list (pv 0) pe_int (fun _ _ => rfl)) pe_int)) pa_nil)) pe_int))
      (pss_one (ps_ret (pe_op op_mod (pe_callTy call_int1 rfl T.b_int (by decide +kernel) (pa_cons (pe_op op_fdiv (pv 5) pe_int) pa_nil)) (pv 1))))))))))), ?_⟩
    exact take_run rfl h1 h2 h4 rfl
theorem ok__law_state (T : Top P K mg) : FnOk P w K mg base (L2.CX P w) 1 T.d__law_state.f T.d__law_state.fd ["script"] (spState K) := by
  refine Fun.okX T.d__law_state.F sc__law_state (fun vs H Q E ⟨a, ns, e, _⟩ => by rw [e]; rfl) (fun cdv A outer s H vs Q E hr ⟨a, ns, ev, hS, hl, h4⟩ => ?_)
  subst ev
  refine ⟨_, pss_cons (ps_setLc (i := 1) (own := [("cell", 2)]) rfl sc__law_state.nd rfl rfl (sw_true rfl rfl rfl (by decide +kernel)) (pi_list (pe_slice sl_list (pv 0) po_none (po_some pe_int))) (blkOk_by (N := nm__law_state) (sc := defScope s__law_state) (by decide +kernel)) (fun _ _ _ _ _ => pg_name (i := 2) sc__law_state.nd rfl (.inl rfl)) (fun _ _ _ _ _ => pts_nil) (fun _ _ _ _ _ => pe_callB call_abs rfl T.b_abs (by decide +kernel) (pa_cons (pv 2) pa_nil)))
    (pss_cons (ps_if (pt_cmpR op_eq (pe_callB call_len rfl T.b_len (by decide +kernel) (pa_cons (pv 1) pa_nil)) pe_int (nomark _))
      (pss_one (ps_set (i := 1) sc__law_state.nd rfl (.inl rfl) (pe_lst (pa_cons pe_int pa_nil)))) pss_nil)
    (pss_one (ps_ret (pe_lst (pa_cons pe_int (pa_cons (pv 1) pa_nil)))))), ?_⟩
  exact state_run rfl hS hl h4 rfl
def m__law_take := m_take
def S_root_1 : SF := (sTup [1, 2] (vOf (aCons (eC (.int 0)) (aCons (eC (.int 1)) aNil))))
def S_root_3 : SF := (sSet 2 (eBin opMul (eV 2) (eC (.int 2))))
def W_root_2 : TF := (tVal (eBin opLe (eBin opMul (eV 2) (eV 2)) (eV 0)))
def B_root_2 : SF := S_root_3
def S_root_2 : SF := (sWhile 1000000000000000000000000000000 W_root_2
 B_root_2)
def S_root_5 : SF := (sSet 3 (eBin opDiv (eBin opAdd (eV 1) (eV 2)) (eC (.int 2))))
def S_root_7 : SF := (sSet 2 (eV 3))
def S_root_8 : SF := (sSet 1 (eV 3))
def S_root_6 : SF := (sIf (tVal (eBin opGt (eBin opMul (eV 3) (eV 3)) (eV 0)))
 S_root_7
 S_root_8)
def W_root_4 : TF := (tVal (eBin opGt (eBin opSub (eV 2) (eV 1)) (eC (.int 1))))
def B_root_4 : SF := (sSeq S_root_5
 S_root_6)
def S_root_4 : SF := (sWhile 1000000000000000000000000000000 W_root_4
 B_root_4)
def S_root_9 : SF := (sRet (eV 1))
def sem_root : SF := (sSeq S_root_1
 (sSeq S_root_2
 (sSeq S_root_4
 S_root_9)))
def m_root : List D → G → Out D := mOf 4 1 sem_root
theorem ok_root (T : Top P K mg) : FnD P w K mg base (clOf T) 1 T.d_root.f T.d_root.fd ["number"] m_root :=
  fn_m T.d_root sc_root rfl rfl fun cdv A outer s H E sa sb F0 H0 hr =>
 (dss_cons (ds_tasg (is := [1, 2]) (ps_asg (pe_tup (dv_of (da_cons d_int (da_cons d_int da_nil)))) (pg_tup rfl (pgs_cons (pg_name (i := 1) sc_root.nd rfl (.inl rfl)) (pgs_cons (pg_name (i := 2) sc_root.nd rfl (.inl rfl)) pgs_nil)))) rfl (by decide))
 (dss_cons (ds_while (n := 1000000000000000000000000000000) (passes_of rfl) (dcT (d_le (d_mul (d_var (pv 2)) (d_var (pv 2))) (d_var (pv 0))))
 (dss_one (ds_set (ps_set (i := 2) sc_root.nd rfl (.inl rfl) (d_mul (d_var (pv 2)) d_int)))))
 (dss_cons (ds_while (n := 1000000000000000000000000000000) (passes_of rfl) (dcT (d_gt (d_sub (d_var (pv 2)) (d_var (pv 1))) d_int))
 (dss_cons (ds_set (ps_set (i := 3) sc_root.nd rfl (.inl rfl) (d_div (d_add rfl (d_var (pv 1)) (d_var (pv 2))) d_int)))
 (dss_one (ds_if (dcT (d_gt (d_mul (d_var (pv 3)) (d_var (pv 3))) (d_var (pv 0))))
 (dss_one (ds_set (ps_set (i := 2) sc_root.nd rfl (.inl rfl) (d_var (pv 3)))))
 (dss_one (ds_set (ps_set (i := 1) sc_root.nd rfl (.inl rfl) (d_var (pv 3)))))))))
 (dss_one (ds_ret (d_var (pv 1)))))))
def S_is_square_1 : SF := (sRet (eAnd (eBin opGe (eV 0) (eC (.int 0))) (eBin opEq (eBin opMul (eCall m_root (aCons (eV 0) aNil)) (eCall m_root (aCons (eV 0) aNil))) (eV 0))))
def sem_is_square : SF := S_is_square_1
def m_is_square : List D → G → Out D := mOf 1 1 sem_is_square
theorem ok_is_square (T : Top P K mg) : FnD P w K mg base (clOf T) 2 T.d_is_square.f T.d_is_square.fd ["number"] m_is_square :=
  fn_m T.d_is_square sc_is_square rfl rfl fun cdv A outer s H E sa sb F0 H0 hr =>
 (dss_one (ds_ret (d_and (dcE (d_ge (d_var (pv 0)) d_int)) (d_one (dcE (d_eq rfl (hu65 hr) (d_mul (d_call rfl (ok_root T) (hr.mono (by decide)) rfl T.d_root.g T.d_root.F.kp T.d_root.b (takes_of rfl rfl rfl rfl) (da_cons (d_var (pv 0)) da_nil)) (d_call rfl (ok_root T) (hr.mono (by decide)) rfl T.d_root.g T.d_root.F.kp T.d_root.b (takes_of rfl rfl rfl rfl) (da_cons (d_var (pv 0)) da_nil))) (d_var (pv 0))))))))
def S_chain_1 : SF := (sSetO 2 (oLst aNil))
def S_chain_3 : SF := (sApp 2 (eBin opDiv (eV 0) (eV 1)))
def S_chain_4 : SF := (sTup [0, 1] (vOf (aCons (eV 1) (aCons (eBin opMod (eV 0) (eV 1)) aNil))))
def W_chain_2 : TF := (tVal (eBin opNe (eV 1) (eC (.int 0))))
def B_chain_2 : SF := (sSeq S_chain_3
 S_chain_4)
def S_chain_2 : SF := (sWhile 1000000000000000000000000000000 W_chain_2
 B_chain_2)
def S_chain_5 : SF := (sRet (eV 2))
def sem_chain : SF := (sSeq S_chain_1
 (sSeq S_chain_2
 (sFrz 2 S_chain_5)))
def m_chain : List D → G → Out D := mOf 3 2 sem_chain
theorem ok_chain (T : Top P K mg) : FnD P w K mg base (clOf T) 1 T.d_chain.f T.d_chain.fd ["above", "below"] m_chain :=
  fn_m T.d_chain sc_chain rfl rfl fun cdv A outer s H E sa sb F0 H0 hr =>
 (dss_cons (ds_setO (ps_set (i := 2) sc_chain.nd rfl (.inl rfl) (o_lst da_nil)))
 (dss_cons (ds_while (n := 1000000000000000000000000000000) (passes_of rfl) (dcT (d_ne rfl (hu65 hr) (d_var (pv 1)) d_int))
 (dss_cons (ds_app (i := 2) (ps_expr (pe_bm PySem.F.plainAttrs_list PySem.F.slot_list_append PySem.F.type_list_append mt_append (pv 2) (pa_cons (d_div (d_var (pv 0)) (d_var (pv 1))) pa_nil))))
 (dss_one (ds_tpar (ps_par (i := 0) (j := 1) rfl sc_chain.nd rfl rfl (by decide) rfl rfl (dv_of (da_cons (d_var (pv 1)) (da_cons (d_mod (d_var (pv 0)) (d_var (pv 1))) da_nil))) (by rfl))))))
 (dss_frz (i := 2) (dss_one (ds_ret (d_var (pv 2)))))))
def S_part_of_1 : SF := (sTup [1, 2] (vOf (aCons (eBin opIx (eV 0) (eNeg (eC (.int 1)))) (aCons (eC (.int 1)) aNil))))
def S_part_of_3 : SF := (sTup [1, 2] (vOf (aCons (eBin opAdd (eBin opMul (eV 3) (eV 1)) (eV 2)) (aCons (eV 1) aNil))))
def B_part_of_2 : SF := S_part_of_3
def S_part_of_2 : SF := (sFor (iSeq (eRevF (eV 0) (eNeg (eC (.int 2))))) (bName 3)
 B_part_of_2)
def S_part_of_4 : SF := (sRet (eTup (aCons (eV 1) (aCons (eV 2) aNil))))
def sem_part_of : SF := (sSeq S_part_of_1
 (sSeq S_part_of_2
 S_part_of_4))
def m_part_of : List D → G → Out D := mOf 4 1 sem_part_of
theorem ok_part_of (T : Top P K mg) : FnD P w K mg base (clOf T) 1 T.d_part_of.f T.d_part_of.fd ["wholes"] m_part_of :=
  fn_m T.d_part_of sc_part_of rfl rfl fun cdv A outer s H E sa sb F0 H0 hr =>
 (dss_cons (ds_tpar (ps_par (i := 1) (j := 2) rfl sc_part_of.nd rfl rfl (by decide) rfl rfl (dv_of (da_cons (d_ix rfl (d_var (pv 0)) (d_neg d_int)) (da_cons d_int da_nil))) (by rfl)))
 (dss_cons (ds_for (passes_of rfl) rfl (di_seq rfl (d_revF rfl (d_var (pv 0)) (d_neg d_int))) (dg_name (pg_name (i := 3) sc_part_of.nd rfl (.inl rfl)))
 (dss_one (ds_tpar (ps_par (i := 1) (j := 2) rfl sc_part_of.nd rfl rfl (by decide) rfl rfl (dv_of (da_cons (d_add rfl (d_mul (d_var (pv 3)) (d_var (pv 1))) (d_var (pv 2))) (da_cons (d_var (pv 1)) da_nil))) (by rfl)))))
 (dss_one (ds_ret (d_tup (da_cons (d_var (pv 1)) (da_cons (d_var (pv 2)) da_nil)))))))
def S_parts_along_1 : SF := (sTup [1, 2, 3] (vOwn (oLst aNil) (aCons (eTup (aCons (eC (.int 0)) (aCons (eC (.int 1)) aNil))) (aCons (eTup (aCons (eC (.int 1)) (aCons (eC (.int 0)) aNil))) aNil))))
def S_parts_along_3 : SF := (sTup [2, 3] (vOf (aCons (eV 3) (aCons (eTup (aCons (eBin opAdd (eBin opMul (eV 4) (eBin opIx (eV 3) (eC (.int 0)))) (eBin opIx (eV 2) (eC (.int 0)))) (aCons (eBin opAdd (eBin opMul (eV 4) (eBin opIx (eV 3) (eC (.int 1)))) (eBin opIx (eV 2) (eC (.int 1)))) aNil))) aNil))))
def S_parts_along_4 : SF := (sApp 1 (eV 3))
def B_parts_along_2 : SF := (sSeq S_parts_along_3
 S_parts_along_4)
def S_parts_along_2 : SF := (sFor (iSeq (eV 0)) (bName 4)
 B_parts_along_2)
def S_parts_along_5 : SF := (sRet (eV 1))
def sem_parts_along : SF := (sSeq S_parts_along_1
 (sSeq S_parts_along_2
 (sFrz 1 S_parts_along_5)))
def m_parts_along : List D → G → Out D := mOf 5 1 sem_parts_along
theorem ok_parts_along (T : Top P K mg) : FnD P w K mg base (clOf T) 1 T.d_parts_along.f T.d_parts_along.fd ["wholes"] m_parts_along :=
  fn_m T.d_parts_along sc_parts_along rfl rfl fun cdv A outer s H E sa sb F0 H0 hr =>
 (dss_cons (ds_tpar3 (ps_par3 (i := 1) (j := 2) (l := 3) rfl sc_parts_along.nd rfl rfl rfl (by decide) (by decide) (by decide) rfl rfl rfl (dv_own (o_lst da_nil) (da_cons (d_tup (da_cons d_int (da_cons d_int da_nil))) (da_cons (d_tup (da_cons d_int (da_cons d_int da_nil))) da_nil))) (by rfl)))
 (dss_cons (ds_for (passes_of rfl) rfl (di_seq rfl (d_var (pv 0))) (dg_name (pg_name (i := 4) sc_parts_along.nd rfl (.inl rfl)))
 (dss_cons (ds_tpar (ps_par (i := 2) (j := 3) rfl sc_parts_along.nd rfl rfl (by decide) rfl rfl (dv_of (da_cons (d_var (pv 3)) (da_cons (d_tup (da_cons (d_add rfl (d_mul (d_var (pv 4)) (d_ix rfl (d_var (pv 3)) d_int)) (d_ix rfl (d_var (pv 2)) d_int)) (da_cons (d_add rfl (d_mul (d_var (pv 4)) (d_ix rfl (d_var (pv 3)) d_int)) (d_ix rfl (d_var (pv 2)) d_int)) da_nil))) da_nil))) (by rfl)))
 (dss_one (ds_app (i := 1) (ps_expr (pe_bm PySem.F.plainAttrs_list PySem.F.slot_list_append PySem.F.type_list_append mt_append (pv 1) (pa_cons (d_var (pv 3)) pa_nil)))))))
 (dss_frz (i := 1) (dss_one (ds_ret (d_var (pv 1)))))))
def S_root_chain_2 : SF := (sRaise "Misstep" "word" (eC (.str "square")))
def S_root_chain_1 : SF := (sIf (tOrF (tTru (eCall m_is_square (aCons (eV 0) aNil))) (tVal (eBin opLt (eV 0) (eC (.int 0)))))
 S_root_chain_2
 sNil)
def S_root_chain_3 : SF := (sSet 1 (eCall m_root (aCons (eV 0) aNil)))
def S_root_chain_4 : SF := (sTup [2, 3, 4] (vOwn (oLst aNil) (aCons (eV 1) (aCons (eBin opSub (eV 0) (eBin opMul (eV 1) (eV 1))) aNil))))
def S_root_chain_6 : SF := (sSet 5 (eBin opDiv (eBin opAdd (eV 1) (eV 3)) (eV 4)))
def S_root_chain_7 : SF := (sApp 2 (eV 5))
def S_root_chain_8 : SF := (sSet 3 (eBin opSub (eBin opMul (eV 5) (eV 4)) (eV 3)))
def S_root_chain_9 : SF := (sSet 4 (eBin opDiv (eBin opSub (eV 0) (eBin opMul (eV 3) (eV 3))) (eV 4)))
def S_root_chain_11 : SF := (sRet (eTup (aCons (eV 1) (aCons (eV 2) aNil))))
def S_root_chain_10 : SF := (sIf (tVal (eBin opEq (eV 5) (eBin opMul (eC (.int 2)) (eV 1))))
 (sFrz 2 S_root_chain_11)
 sNil)
def W_root_chain_5 : TF := (tTru (eC (.bool true)))
def B_root_chain_5 : SF := (sSeq S_root_chain_6
 (sSeq S_root_chain_7
 (sSeq S_root_chain_8
 (sSeq S_root_chain_9
 S_root_chain_10))))
def S_root_chain_5 : SF := (sWhile 1000000000000000000000000000000 W_root_chain_5
 B_root_chain_5)
def sem_root_chain : SF := (sSeq S_root_chain_1
 (sSeq S_root_chain_3
 (sSeq S_root_chain_4
 S_root_chain_5)))
def m_root_chain : List D → G → Out D := mOf 6 1 sem_root_chain
theorem ok_root_chain (T : Top P K mg) : FnD P w K mg base (clOf T) 3 T.d_root_chain.f T.d_root_chain.fd ["number"] m_root_chain :=
  fn_m T.d_root_chain sc_root_chain rfl rfl fun cdv A outer s H E sa sb F0 H0 hr =>
 (dss_cons (ds_if (dt_w (dw_or (dt_tru rfl (d_call rfl (ok_is_square T) (hr.mono (by decide)) rfl T.d_is_square.g T.d_is_square.F.kp T.d_is_square.b (takes_of rfl rfl rfl rfl) (da_cons (d_var (pv 0)) da_nil))) (dw_or1 (dcT (d_lt (d_var (pv 0)) d_int)))))
 (dss_one (ds_raise rfl T.e_Misstep (in_Misstep T) (by decide) (cl_Misstep T) rfl (hr.mono (by decide)) (takes_of rfl rfl rfl rfl) rfl d_str))
 dss_nil)
 (dss_cons (ds_set (ps_set (i := 1) sc_root_chain.nd rfl (.inl rfl) (d_call rfl (ok_root T) (hr.mono (by decide)) rfl T.d_root.g T.d_root.F.kp T.d_root.b (takes_of rfl rfl rfl rfl) (da_cons (d_var (pv 0)) da_nil))))
 (dss_cons (ds_tpar3 (ps_par3 (i := 2) (j := 3) (l := 4) rfl sc_root_chain.nd rfl rfl rfl (by decide) (by decide) (by decide) rfl rfl rfl (dv_own (o_lst da_nil) (da_cons (d_var (pv 1)) (da_cons (d_sub (d_var (pv 0)) (d_mul (d_var (pv 1)) (d_var (pv 1)))) da_nil))) (by rfl)))
 (dss_one (ds_while (n := 1000000000000000000000000000000) (passes_of rfl) (dt_tru rfl d_bl)
 (dss_cons (ds_set (ps_set (i := 5) sc_root_chain.nd rfl (.inl rfl) (d_div (d_add rfl (d_var (pv 1)) (d_var (pv 3))) (d_var (pv 4)))))
 (dss_cons (ds_app (i := 2) (ps_expr (pe_bm PySem.F.plainAttrs_list PySem.F.slot_list_append PySem.F.type_list_append mt_append (pv 2) (pa_cons (d_var (pv 5)) pa_nil))))
 (dss_cons (ds_set (ps_set (i := 3) sc_root_chain.nd rfl (.inl rfl) (d_sub (d_mul (d_var (pv 5)) (d_var (pv 4))) (d_var (pv 3)))))
 (dss_cons (ds_set (ps_set (i := 4) sc_root_chain.nd rfl (.inl rfl) (d_div (d_sub (d_var (pv 0)) (d_mul (d_var (pv 3)) (d_var (pv 3)))) (d_var (pv 4)))))
 (dss_one (ds_if (dcT (d_eq rfl (hu65 hr) (d_var (pv 5)) (d_mul d_int (d_var (pv 1)))))
 (dss_frz (i := 2) (dss_one (ds_ret (d_tup (da_cons (d_var (pv 1)) (da_cons (d_var (pv 2)) da_nil))))))
 dss_nil)))))))))))
def S_root_parts_1 : SF := (sAsg (bTup 2 (bCons (bName 2) (bCons (bName 3) bNil))) (eCall m_root_chain (aCons (eV 0) aNil)))
def C_root_parts_1 : OF' := oComp [5] (iRan1 (aCons (eBin opSub (eV 1) (eC (.int 1))) aNil)) (bName 5) tYesF (eBin opIx (eV 3) (eBin opMod (eV 5) (eCall bLen (aCons (eV 3) aNil))))
def S_root_parts_2 : SF := (sSet 4 (eBin opAdd (eLst (aCons (eV 2) aNil)) (eOf C_root_parts_1)))
def S_root_parts_3 : SF := (sRet (eCall m_parts_along (aCons (eV 4) aNil)))
def sem_root_parts : SF := (sSeq S_root_parts_1
 (sSeq S_root_parts_2
 S_root_parts_3))
def m_root_parts : List D → G → Out D := mOf 6 2 sem_root_parts
theorem ok_root_parts (T : Top P K mg) : FnD P w K mg base (clOf T) 4 T.d_root_parts.f T.d_root_parts.fd ["number", "many"] m_root_parts :=
  fn_m T.d_root_parts sc_root_parts rfl rfl fun cdv A outer s H E sa sb F0 H0 hr =>
 (dss_cons (ds_asg (d_call rfl (ok_root_chain T) (hr.mono (by decide)) rfl T.d_root_chain.g T.d_root_chain.F.kp T.d_root_chain.b (takes_of rfl rfl rfl rfl) (da_cons (d_var (pv 0)) da_nil)) (dg_tup rfl rfl (dgs_cons (dg_name (pg_name (i := 2) sc_root_parts.nd rfl (.inl rfl))) (dgs_cons (dg_name (pg_name (i := 3) sc_root_parts.nd rfl (.inr rfl))) dgs_nil))))
 (dss_cons (ds_set (ps_set (i := 4) sc_root_parts.nd rfl (.inl rfl) (d_add rfl (d_lst (da_cons (d_var (pv 2)) da_nil)) (d_ofO (o_lc (own := [("k", 5)]) rfl sc_root_parts.nd (di_ran1 rfl T.b_range (da_cons (d_sub (d_var (pv 1)) d_int) da_nil)) (blkOk_by (N := nm_root_parts) (sc := defScope s_root_parts) (by decide +kernel)) (by decide) (fun _ _ _ _ _ => (dg_name (pg_name (i := 5) sc_root_parts.nd rfl (.inl rfl)))) (fun _ _ _ _ _ => dts_nil) (fun _ _ _ _ _ => (d_ix rfl (d_var (pv 3)) (d_mod (d_var (pv 5)) (d_callB call_len kl_len rfl T.b_len (by decide +kernel) (da_cons (d_var (pv 3)) da_nil))))))))))
 (dss_one (ds_ret (d_call rfl (ok_parts_along T) (hr.mono (by decide)) rfl T.d_parts_along.g T.d_parts_along.F.kp T.d_parts_along.b (takes_of rfl rfl rfl rfl) (da_cons (d_var (pv 4)) da_nil))))))
def S_pell_1 : SF := (sAsg (bTup 2 (bCons (bName 1) (bCons (bName 2) bNil))) (eCall m_root_chain (aCons (eV 0) aNil)))
def S_pell_2 : SF := (sSet 3 (eIf (tVal (eBin opEq (eBin opMod (eCall bLen (aCons (eV 2) aNil)) (eC (.int 2))) (eC (.int 0)))) (eCall bLen (aCons (eV 2) aNil)) (eBin opMul (eC (.int 2)) (eCall bLen (aCons (eV 2) aNil)))))
def S_pell_3 : SF := (sRet (eBin opIx (eCall m_root_parts (aCons (eV 0) (aCons (eV 3) aNil))) (eNeg (eC (.int 1)))))
def sem_pell : SF := (sSeq S_pell_1
 (sSeq S_pell_2
 S_pell_3))
def m_pell : List D → G → Out D := mOf 4 1 sem_pell
theorem ok_pell (T : Top P K mg) : FnD P w K mg base (clOf T) 5 T.d_pell.f T.d_pell.fd ["number"] m_pell :=
  fn_m T.d_pell sc_pell rfl rfl fun cdv A outer s H E sa sb F0 H0 hr =>
 (dss_cons (ds_asg (d_call rfl (ok_root_chain T) (hr.mono (by decide)) rfl T.d_root_chain.g T.d_root_chain.F.kp T.d_root_chain.b (takes_of rfl rfl rfl rfl) (da_cons (d_var (pv 0)) da_nil)) (dg_tup rfl rfl (dgs_cons (dg_name (pg_name (i := 1) sc_pell.nd rfl (.inl rfl))) (dgs_cons (dg_name (pg_name (i := 2) sc_pell.nd rfl (.inl rfl))) dgs_nil))))
 (dss_cons (ds_set (ps_set (i := 3) sc_pell.nd rfl (.inl rfl) (d_if (dcT (d_eq rfl (hu65 hr) (d_mod (d_callB call_len kl_len rfl T.b_len (by decide +kernel) (da_cons (d_var (pv 2)) da_nil)) d_int) d_int)) (d_callB call_len kl_len rfl T.b_len (by decide +kernel) (da_cons (d_var (pv 2)) da_nil)) (d_mul d_int (d_callB call_len kl_len rfl T.b_len (by decide +kernel) (da_cons (d_var (pv 2)) da_nil))))))
 (dss_one (ds_ret (d_ix rfl (d_call rfl (ok_root_parts T) (hr.mono (by decide)) rfl T.d_root_parts.g T.d_root_parts.F.kp T.d_root_parts.b (takes_of rfl rfl rfl rfl) (da_cons (d_var (pv 0)) (da_cons (d_var (pv 3)) da_nil))) (d_neg d_int))))))
def S_minus_pell_1 : SF := (sSet 1 (eBin opIx (eCall m_root_chain (aCons (eV 0) aNil)) (eC (.int 1))))
def S_minus_pell_2 : SF := (sRet (eIf (tVal (eBin opEq (eBin opMod (eCall bLen (aCons (eV 1) aNil)) (eC (.int 2))) (eC (.int 1)))) (eBin opIx (eCall m_root_parts (aCons (eV 0) (aCons (eCall bLen (aCons (eV 1) aNil)) aNil))) (eNeg (eC (.int 1)))) (eC .none)))
def sem_minus_pell : SF := (sSeq S_minus_pell_1
 S_minus_pell_2)
def m_minus_pell : List D → G → Out D := mOf 2 1 sem_minus_pell
theorem ok_minus_pell (T : Top P K mg) : FnD P w K mg base (clOf T) 5 T.d_minus_pell.f T.d_minus_pell.fd ["number"] m_minus_pell :=
  fn_m T.d_minus_pell sc_minus_pell rfl rfl fun cdv A outer s H E sa sb F0 H0 hr =>
 (dss_cons (ds_set (ps_set (i := 1) sc_minus_pell.nd rfl (.inl rfl) (d_ix rfl (d_call rfl (ok_root_chain T) (hr.mono (by decide)) rfl T.d_root_chain.g T.d_root_chain.F.kp T.d_root_chain.b (takes_of rfl rfl rfl rfl) (da_cons (d_var (pv 0)) da_nil)) d_int)))
 (dss_one (ds_ret (d_if (dcT (d_eq rfl (hu65 hr) (d_mod (d_callB call_len kl_len rfl T.b_len (by decide +kernel) (da_cons (d_var (pv 1)) da_nil)) d_int) d_int)) (d_ix rfl (d_call rfl (ok_root_parts T) (hr.mono (by decide)) rfl T.d_root_parts.g T.d_root_parts.F.kp T.d_root_parts.b (takes_of rfl rfl rfl rfl) (da_cons (d_var (pv 0)) (da_cons (d_callB call_len kl_len rfl T.b_len (by decide +kernel) (da_cons (d_var (pv 1)) da_nil)) da_nil))) (d_neg d_int)) d_non))))
def S__law_pick_1 : SF := (sRet (eBin opIx (eV 1) (eCall m_take (aCons (eV 0) (aCons (eCall bLen (aCons (eV 1) aNil)) aNil)))))
def sem__law_pick : SF := S__law_pick_1
def m__law_pick : List D → G → Out D := mOf 2 2 sem__law_pick
theorem ok__law_pick (T : Top P K mg) : FnD P w K mg base (clOf T) 2 T.d__law_pick.f T.d__law_pick.fd ["state", "row"] m__law_pick :=
  fn_m T.d__law_pick sc__law_pick rfl rfl fun cdv A outer s H E sa sb F0 H0 hr =>
 (dss_one (ds_ret (d_ix rfl (d_var (pv 1)) (d_call rfl (ok__law_take T) (hr.mono (by decide)) rfl T.d__law_take.g T.d__law_take.F.kp T.d__law_take.b (takes_of rfl rfl rfl rfl) (da_cons (d_var (pv 0)) (da_cons (d_callB call_len kl_len rfl T.b_len (by decide +kernel) (da_cons (d_var (pv 1)) da_nil)) da_nil))))))
def S__law_root_1 : SF := (sTup [1, 2] (vOf (aCons (eC (.int 0)) (aCons (eC (.int 1)) aNil))))
def S__law_root_3 : SF := (sSet 2 (eBin opMul (eV 2) (eC (.int 2))))
def W__law_root_2 : TF := (tVal (eBin opLe (eBin opMul (eV 2) (eV 2)) (eV 0)))
def B__law_root_2 : SF := S__law_root_3
def S__law_root_2 : SF := (sWhile 1000000000000000000000000000000 W__law_root_2
 B__law_root_2)
def S__law_root_5 : SF := (sSet 3 (eBin opDiv (eBin opAdd (eV 1) (eV 2)) (eC (.int 2))))
def S__law_root_7 : SF := (sSet 1 (eV 3))
def S__law_root_8 : SF := (sSet 2 (eV 3))
def S__law_root_6 : SF := (sIf (tVal (eBin opLe (eBin opMul (eV 3) (eV 3)) (eV 0)))
 S__law_root_7
 S__law_root_8)
def W__law_root_4 : TF := (tVal (eBin opGt (eBin opSub (eV 2) (eV 1)) (eC (.int 1))))
def B__law_root_4 : SF := (sSeq S__law_root_5
 S__law_root_6)
def S__law_root_4 : SF := (sWhile 1000000000000000000000000000000 W__law_root_4
 B__law_root_4)
def S__law_root_9 : SF := (sRet (eV 1))
def sem__law_root : SF := (sSeq S__law_root_1
 (sSeq S__law_root_2
 (sSeq S__law_root_4
 S__law_root_9)))
def m__law_root : List D → G → Out D := mOf 4 1 sem__law_root
theorem ok__law_root (T : Top P K mg) : FnD P w K mg base (clOf T) 1 T.d__law_root.f T.d__law_root.fd ["number"] m__law_root :=
  fn_m T.d__law_root sc__law_root rfl rfl fun cdv A outer s H E sa sb F0 H0 hr =>
 (dss_cons (ds_tasg (is := [1, 2]) (ps_asg (pe_tup (dv_of (da_cons d_int (da_cons d_int da_nil)))) (pg_tup rfl (pgs_cons (pg_name (i := 1) sc__law_root.nd rfl (.inl rfl)) (pgs_cons (pg_name (i := 2) sc__law_root.nd rfl (.inl rfl)) pgs_nil)))) rfl (by decide))
 (dss_cons (ds_while (n := 1000000000000000000000000000000) (passes_of rfl) (dcT (d_le (d_mul (d_var (pv 2)) (d_var (pv 2))) (d_var (pv 0))))
 (dss_one (ds_set (ps_set (i := 2) sc__law_root.nd rfl (.inl rfl) (d_mul (d_var (pv 2)) d_int)))))
 (dss_cons (ds_while (n := 1000000000000000000000000000000) (passes_of rfl) (dcT (d_gt (d_sub (d_var (pv 2)) (d_var (pv 1))) d_int))
 (dss_cons (ds_set (ps_set (i := 3) sc__law_root.nd rfl (.inl rfl) (d_div (d_add rfl (d_var (pv 1)) (d_var (pv 2))) d_int)))
 (dss_one (ds_if (dcT (d_le (d_mul (d_var (pv 3)) (d_var (pv 3))) (d_var (pv 0))))
 (dss_one (ds_set (ps_set (i := 1) sc__law_root.nd rfl (.inl rfl) (d_var (pv 3)))))
 (dss_one (ds_set (ps_set (i := 2) sc__law_root.nd rfl (.inl rfl) (d_var (pv 3)))))))))
 (dss_one (ds_ret (d_var (pv 1)))))))
def S__law_divisor_2 : SF := (sTup [0, 1] (vOf (aCons (eV 1) (aCons (eBin opMod (eCall bInt (aCons (eV 0) aNil)) (eV 1)) aNil))))
def W__law_divisor_1 : TF := (tVal (eBin opNe (eV 1) (eC (.int 0))))
def B__law_divisor_1 : SF := S__law_divisor_2
def S__law_divisor_1 : SF := (sWhile 1000000000000000000000000000000 W__law_divisor_1
 B__law_divisor_1)
def S__law_divisor_3 : SF := (sRet (eCall bAbs (aCons (eV 0) aNil)))
def sem__law_divisor : SF := (sSeq S__law_divisor_1
 S__law_divisor_3)
def m__law_divisor : List D → G → Out D := mOf 2 2 sem__law_divisor
theorem ok__law_divisor (T : Top P K mg) : FnD P w K mg base (clOf T) 1 T.d__law_divisor.f T.d__law_divisor.fd ["one", "other"] m__law_divisor :=
  fn_m T.d__law_divisor sc__law_divisor rfl rfl fun cdv A outer s H E sa sb F0 H0 hr =>
 (dss_cons (ds_while (n := 1000000000000000000000000000000) (passes_of rfl) (dcT (d_ne rfl (hu65 hr) (d_var (pv 1)) d_int))
 (dss_one (ds_tpar (ps_par (i := 0) (j := 1) rfl sc__law_divisor.nd rfl rfl (by decide) rfl rfl (dv_of (da_cons (d_var (pv 1)) (da_cons (d_mod (d_callT call_int1 kl_int rfl T.b_int (by decide +kernel) (da_cons (d_var (pv 0)) da_nil)) (d_var (pv 1))) da_nil))) (by rfl)))))
 (dss_one (ds_ret (d_callB call_abs kl_abs rfl T.b_abs (by decide +kernel) (da_cons (d_var (pv 0)) da_nil)))))
def S__law_least_2 : SF := (sSet 4 (eIf (tVal (eBin opGt (eBin opAdd (eBin opMul (eBin opMul (eV 0) (eV 3)) (eV 3)) (eV 1)) (eC (.int 0)))) (eCall m__law_root (aCons (eBin opAdd (eBin opMul (eBin opMul (eV 0) (eV 3)) (eV 3)) (eV 1)) aNil)) (eC (.int 0))))
def S__law_least_4 : SF := (sRet (eTup (aCons (eV 4) (aCons (eV 3) aNil))))
def S__law_least_3 : SF := (sIf (tAndF (tVal (eBin opGt (eV 4) (eC (.int 0)))) (tVal (eBin opEq (eBin opMul (eV 4) (eV 4)) (eBin opAdd (eBin opMul (eBin opMul (eV 0) (eV 3)) (eV 3)) (eV 1)))))
 S__law_least_4
 sNil)
def B__law_least_1 : SF := (sSeq S__law_least_2
 S__law_least_3)
def S__law_least_1 : SF := (sFor (iRan2 (aCons (eC (.int 1)) (aCons (eBin opAdd (eV 2) (eC (.int 1))) aNil))) (bName 3)
 B__law_least_1)
def S__law_least_5 : SF := (sRet (eC .none))
def sem__law_least : SF := (sSeq S__law_least_1
 S__law_least_5)
def m__law_least : List D → G → Out D := mOf 5 3 sem__law_least
theorem ok__law_least (T : Top P K mg) : FnD P w K mg base (clOf T) 2 T.d__law_least.f T.d__law_least.fd ["number", "goal", "most"] m__law_least :=
  fn_m T.d__law_least sc__law_least rfl rfl fun cdv A outer s H E sa sb F0 H0 hr =>
 (dss_cons (ds_for (passes_of rfl) rfl (di_ran2 rfl T.b_range (da_cons d_int (da_cons (d_add rfl (d_var (pv 2)) d_int) da_nil))) (dg_name (pg_name (i := 3) sc__law_least.nd rfl (.inl rfl)))
 (dss_cons (ds_set (ps_set (i := 4) sc__law_least.nd rfl (.inl rfl) (d_if (dcT (d_gt (d_add rfl (d_mul (d_mul (d_var (pv 0)) (d_var (pv 3))) (d_var (pv 3))) (d_var (pv 1))) d_int)) (d_call rfl (ok__law_root T) (hr.mono (by decide)) rfl T.d__law_root.g T.d__law_root.F.kp T.d__law_root.b (takes_of rfl rfl rfl rfl) (da_cons (d_add rfl (d_mul (d_mul (d_var (pv 0)) (d_var (pv 3))) (d_var (pv 3))) (d_var (pv 1))) da_nil)) d_int)))
 (dss_one (ds_if (dt_w (dw_and (dcT (d_gt (d_var (pv 4)) d_int)) (dw_and1 (dcT (d_eq rfl (hu65 hr) (d_mul (d_var (pv 4)) (d_var (pv 4))) (d_add rfl (d_mul (d_mul (d_var (pv 0)) (d_var (pv 3))) (d_var (pv 3))) (d_var (pv 1))))))))
 (dss_one (ds_ret (d_tup (da_cons (d_var (pv 4)) (da_cons (d_var (pv 3)) da_nil)))))
 dss_nil))))
 (dss_one (ds_ret d_non)))
def S__law_words_1 : SF := (sSetO 1 (oLst aNil))
def S__law_words_5 : SF := (sExpr (eCall m_root_chain (aCons (eV 0) aNil)))
def S__law_words_7 : SF := (sExpr (eCall m_root_parts (aCons (eV 0) (aCons (eC (.int 2)) aNil))))
def S__law_words_9 : SF := (sExpr (eCall m_pell (aCons (eV 0) aNil)))
def S__law_words_10 : SF := (sExpr (eCall m_minus_pell (aCons (eV 0) aNil)))
def S__law_words_8 : SF := (sIf (tVal (eBin opEq (eV 2) (eC (.int 2))))
 S__law_words_9
 S__law_words_10)
def S__law_words_6 : SF := (sIf (tVal (eBin opEq (eV 2) (eC (.int 1))))
 S__law_words_7
 S__law_words_8)
def S__law_words_4 : SF := (sIf (tVal (eBin opEq (eV 2) (eC (.int 0))))
 S__law_words_5
 S__law_words_6)
def S__law_words_11 : SF := (sApp 1 (eExF 3 "word"))
def S__law_words_3 : SF := (sTry 3 "Misstep"
 S__law_words_4
 S__law_words_11)
def B__law_words_2 : SF := S__law_words_3
def S__law_words_2 : SF := (sFor (iRan1 (aCons (eC (.int 4)) aNil)) (bName 2)
 B__law_words_2)
def S__law_words_12 : SF := (sRet (eV 1))
def sem__law_words : SF := (sSeq S__law_words_1
 (sSeq S__law_words_2
 (sFrz 1 S__law_words_12)))
def m__law_words : List D → G → Out D := mOf 4 1 sem__law_words
theorem ok__law_words (T : Top P K mg) : FnD P w K mg base (clOf T) 6 T.d__law_words.f T.d__law_words.fd ["number"] m__law_words :=
  fn_m T.d__law_words sc__law_words rfl rfl fun cdv A outer s H E sa sb F0 H0 hr =>
 (dss_cons (ds_setO (ps_set (i := 1) sc__law_words.nd rfl (.inl rfl) (o_lst da_nil)))
 (dss_cons (ds_for (passes_of rfl) rfl (di_ran1 rfl T.b_range (da_cons d_int da_nil)) (dg_name (pg_name (i := 2) sc__law_words.nd rfl (.inl rfl)))
 (dss_one (ds_try (i := 3) rfl rfl sc__law_words.nd rfl rfl rfl ⟨rfl, rfl, .inl T.e_Misstep.g⟩ (cl_Misstep T) (hm_Misstep T) (takes_of rfl rfl rfl rfl) (fun W pn xe tk po => (dss_one (ds_if (dcT (d_eq rfl (hu65 hr) (d_var (pv 2)) d_int))
 (dss_one (ds_expr (d_call rfl (ok_root_chain T) (hr.mono (by decide)) rfl T.d_root_chain.g T.d_root_chain.F.kp T.d_root_chain.b tk (da_cons (d_var (pv 0)) da_nil))))
 (dss_one (ds_if (dcT (d_eq rfl (hu65 hr) (d_var (pv 2)) d_int))
 (dss_one (ds_expr (d_call rfl (ok_root_parts T) (hr.mono (by decide)) rfl T.d_root_parts.g T.d_root_parts.F.kp T.d_root_parts.b tk (da_cons (d_var (pv 0)) (da_cons d_int da_nil)))))
 (dss_one (ds_if (dcT (d_eq rfl (hu65 hr) (d_var (pv 2)) d_int))
 (dss_one (ds_expr (d_call rfl (ok_pell T) (hr.mono (by decide)) rfl T.d_pell.g T.d_pell.F.kp T.d_pell.b tk (da_cons (d_var (pv 0)) da_nil))))
 (dss_one (ds_expr (d_call rfl (ok_minus_pell T) (hr.mono (by decide)) rfl T.d_minus_pell.g T.d_minus_pell.F.kp T.d_minus_pell.b tk (da_cons (d_var (pv 0)) da_nil)))))))))))
 (fun a dd oe pn hz hf => (dss_one (ds_app (i := 1) (ps_expr (pe_bm PySem.F.plainAttrs_list PySem.F.slot_list_append PySem.F.type_list_append mt_append (pv 1) (pa_cons (d_xf T.e_Misstep.xf T.e_Misstep.k.fin hz hf (pv 3)) pa_nil)))))))))
 (dss_frz (i := 1) (dss_one (ds_ret (d_var (pv 1)))))))
def S__law_sides_2 : SF := (sSet 4 (eBin opSub (eBin opMul (eBin opIx (eBin opIx (eV 2) (eV 3)) (eC (.int 0))) (eV 1)) (eBin opMul (eV 0) (eBin opIx (eBin opIx (eV 2) (eV 3)) (eC (.int 1))))))
def S__law_sides_4 : SF := (sRet (eC (.bool false)))
def S__law_sides_3 : SF := (sIf (tOrF (tAndF (tVal (eBin opEq (eV 3) (eBin opSub (eCall bLen (aCons (eV 2) aNil)) (eC (.int 1))))) (tVal (eBin opNe (eV 4) (eC (.int 0))))) (tAndF (tVal (eBin opLt (eV 3) (eBin opSub (eCall bLen (aCons (eV 2) aNil)) (eC (.int 1))))) (tIfF (tVal (eBin opEq (eBin opMod (eCall bInt (aCons (eV 3) aNil)) (eC (.int 2))) (eC (.int 0)))) (tVal (eBin opGe (eV 4) (eC (.int 0)))) (tVal (eBin opLe (eV 4) (eC (.int 0)))))))
 S__law_sides_4
 sNil)
def S__law_sides_6 : SF := (sRet (eC (.bool false)))
def S__law_sides_5 : SF := (sIf (tAndF (tVal (eBin opGt (eV 3) (eC (.int 0)))) (tVal (eBin opNe (eBin opSub (eBin opMul (eBin opIx (eBin opIx (eV 2) (eV 3)) (eC (.int 0))) (eBin opIx (eBin opIx (eV 2) (eBin opSub (eV 3) (eC (.int 1)))) (eC (.int 1)))) (eBin opMul (eBin opIx (eBin opIx (eV 2) (eBin opSub (eV 3) (eC (.int 1)))) (eC (.int 0))) (eBin opIx (eBin opIx (eV 2) (eV 3)) (eC (.int 1))))) (eIf (tVal (eBin opEq (eBin opMod (eCall bInt (aCons (eV 3) aNil)) (eC (.int 2))) (eC (.int 1)))) (eC (.int 1)) (eNeg (eC (.int 1)))))))
 S__law_sides_6
 sNil)
def B__law_sides_1 : SF := (sSeq S__law_sides_2
 (sSeq S__law_sides_3
 S__law_sides_5))
def S__law_sides_1 : SF := (sFor (iRan1 (aCons (eCall bLen (aCons (eV 2) aNil)) aNil)) (bName 3)
 B__law_sides_1)
def S__law_sides_7 : SF := (sRet (eC (.bool true)))
def sem__law_sides : SF := (sSeq S__law_sides_1
 S__law_sides_7)
def m__law_sides : List D → G → Out D := mOf 5 3 sem__law_sides
theorem ok__law_sides (T : Top P K mg) : FnD P w K mg base (clOf T) 1 T.d__law_sides.f T.d__law_sides.fd ["above", "below", "rows"] m__law_sides :=
  fn_m T.d__law_sides sc__law_sides rfl rfl fun cdv A outer s H E sa sb F0 H0 hr =>
 (dss_cons (ds_for (passes_of rfl) rfl (di_ran1 rfl T.b_range (da_cons (d_callB call_len kl_len rfl T.b_len (by decide +kernel) (da_cons (d_var (pv 2)) da_nil)) da_nil)) (dg_name (pg_name (i := 3) sc__law_sides.nd rfl (.inl rfl)))
 (dss_cons (ds_set (ps_set (i := 4) sc__law_sides.nd rfl (.inl rfl) (d_sub (d_mul (d_ix rfl (d_ix rfl (d_var (pv 2)) (d_var (pv 3))) d_int) (d_var (pv 1))) (d_mul (d_var (pv 0)) (d_ix rfl (d_ix rfl (d_var (pv 2)) (d_var (pv 3))) d_int)))))
 (dss_cons (ds_if (dt_w (dw_or (dt_w (dw_and (dcT (d_eq rfl (hu65 hr) (d_var (pv 3)) (d_sub (d_callB call_len kl_len rfl T.b_len (by decide +kernel) (da_cons (d_var (pv 2)) da_nil)) d_int))) (dw_and1 (dcT (d_ne rfl (hu65 hr) (d_var (pv 4)) d_int))))) (dw_or1 (dt_w (dw_and (dcT (d_lt (d_var (pv 3)) (d_sub (d_callB call_len kl_len rfl T.b_len (by decide +kernel) (da_cons (d_var (pv 2)) da_nil)) d_int))) (dw_and1 (dt_if (dcT (d_eq rfl (hu65 hr) (d_mod (d_callT call_int1 kl_int rfl T.b_int (by decide +kernel) (da_cons (d_var (pv 3)) da_nil)) d_int) d_int)) (dcT (d_ge (d_var (pv 4)) d_int)) (dcT (d_le (d_var (pv 4)) d_int)))))))))
 (dss_one (ds_ret d_bl))
 dss_nil)
 (dss_one (ds_if (dt_w (dw_and (dcT (d_gt (d_var (pv 3)) d_int)) (dw_and1 (dcT (d_ne rfl (hu65 hr) (d_sub (d_mul (d_ix rfl (d_ix rfl (d_var (pv 2)) (d_var (pv 3))) d_int) (d_ix rfl (d_ix rfl (d_var (pv 2)) (d_sub (d_var (pv 3)) d_int)) d_int)) (d_mul (d_ix rfl (d_ix rfl (d_var (pv 2)) (d_sub (d_var (pv 3)) d_int)) d_int) (d_ix rfl (d_ix rfl (d_var (pv 2)) (d_var (pv 3))) d_int))) (d_if (dcT (d_eq rfl (hu65 hr) (d_mod (d_callT call_int1 kl_int rfl T.b_int (by decide +kernel) (da_cons (d_var (pv 3)) da_nil)) d_int) d_int)) d_int (d_neg d_int)))))))
 (dss_one (ds_ret d_bl))
 dss_nil)))))
 (dss_one (ds_ret d_bl)))
def S_law_2 : SF := (sSet 3 (eCall m__law_pick (aCons (eV 1) (aCons (eLst (aCons (eC (.int 20)) (aCons (eC (.int 1000)) (aCons (eC (.int 1000000007)) aNil)))) aNil))))
def S_law_3 : SF := (sTup [4, 5] (vOf (aCons (eBin opSub (eCall m_take (aCons (eV 1) (aCons (eBin opMul (eC (.int 2)) (eV 3)) aNil))) (eV 3)) (aCons (eBin opAdd (eC (.int 1)) (eCall m_take (aCons (eV 1) (aCons (eV 3) aNil)))) aNil))))
def S_law_4 : SF := (sSet 6 (eCall m_chain (aCons (eV 4) (aCons (eV 5) aNil))))
def S_law_5 : SF := (sSet 7 (eCall m__law_divisor (aCons (eV 4) (aCons (eV 5) aNil))))
def S_law_6 : SF := (sSet 8 (eCall m_parts_along (aCons (eV 6) aNil)))
def C_law_1 : OF' := oComp [22] (iSeq (eSl (eV 6) (oSome (eC (.int 1))) oNone)) (bName 22) (tVal (eBin opLt (eV 22) (eC (.int 1)))) (eV 22)
def S_law_8 : SF := (sRet (eC (.bool false)))
def S_law_7 : SF := (sIf (tOrF (tVal (eBin opNe (eBin opIx (eV 6) (eC (.int 0))) (eBin opDiv (eV 4) (eV 5)))) (tOrF (tVal (eBin opGt (eCall bLen (aCons (eOf C_law_1) aNil)) (eC (.int 0)))) (tAndF (tVal (eBin opGt (eCall bLen (aCons (eV 6) aNil)) (eC (.int 1)))) (tVal (eBin opLt (eBin opIx (eV 6) (eNeg (eC (.int 1)))) (eC (.int 2)))))))
 S_law_8
 sNil)
def S_law_10 : SF := (sRet (eC (.bool false)))
def S_law_9 : SF := (sIf (tOrF (tVal (eBin opNe (eCall m_part_of (aCons (eV 6) aNil)) (eTup (aCons (eBin opDiv (eV 4) (eV 7)) (aCons (eBin opDiv (eV 5) (eV 7)) aNil))))) (tOrF (tVal (eBin opNe (eBin opIx (eV 8) (eNeg (eC (.int 1)))) (eTup (aCons (eBin opDiv (eV 4) (eV 7)) (aCons (eBin opDiv (eV 5) (eV 7)) aNil))))) (tNotF (tTru (eCall m__law_sides (aCons (eV 4) (aCons (eV 5) (aCons (eV 8) aNil))))))))
 S_law_10
 sNil)
def C_law_2 : OF' := oComp [9] (iRan1 (aCons (eCall bLen (aCons (eV 6) aNil)) aNil)) (bName 9) tYesF (eCall m_part_of (aCons (eSl (eV 6) oNone (oSome (eBin opAdd (eV 9) (eC (.int 1))))) aNil))
def S_law_12 : SF := (sRet (eC (.bool false)))
def S_law_11 : SF := (sIf (tVal (eBin opNe (eOf C_law_2) (eV 8)))
 S_law_12
 sNil)
def C_law_3 : OF' := oComp [9] (iRan1 (aCons (eCall m_take (aCons (eV 1) (aCons (eC (.int 5)) aNil))) aNil)) (bName 9) tYesF (eBin opAdd (eC (.int 1)) (eCall m_take (aCons (eV 1) (aCons (eC (.int 6)) aNil))))
def S_law_13 : SF := (sSet 10 (eBin opAdd (eLst (aCons (eBin opSub (eCall m_take (aCons (eV 1) (aCons (eC (.int 9)) aNil))) (eC (.int 4))) aNil)) (eOf C_law_3)))
def S_law_14 : SF := (sSet 11 (eCall m_part_of (aCons (eV 10) aNil)))
def S_law_16 : SF := (sRet (eC (.bool false)))
def S_law_15 : SF := (sIf (tVal (eBin opNe (eCall m_chain (aCons (eBin opIx (eV 11) (eC (.int 0))) (aCons (eBin opIx (eV 11) (eC (.int 1))) aNil))) (eIf (tOrF (tVal (eBin opEq (eCall bLen (aCons (eV 10) aNil)) (eC (.int 1)))) (tVal (eBin opGt (eBin opIx (eV 10) (eNeg (eC (.int 1)))) (eC (.int 1))))) (eV 10) (eBin opAdd (eSl (eV 10) oNone (oSome (eNeg (eC (.int 2))))) (eLst (aCons (eBin opAdd (eBin opIx (eV 10) (eNeg (eC (.int 2)))) (eC (.int 1))) aNil))))))
 S_law_16
 sNil)
def S_law_17 : SF := (sSet 12 (eBin opAdd (eC (.int 2)) (eCall m_take (aCons (eV 1) (aCons (eCall m__law_pick (aCons (eV 1) (aCons (eLst (aCons (eC (.int 12)) (aCons (eC (.int 60)) (aCons (eC (.int 400)) aNil)))) aNil))) aNil)))))
def S_law_18 : SF := (sSet 13 (eCall m__law_root (aCons (eV 12) aNil)))
def S_law_21 : SF := (sRet (eC (.bool false)))
def S_law_20 : SF := (sIf (tVal (eBin opNe (eCall m__law_words (aCons (eV 12) aNil)) (eBin opMul (eLst (aCons (eC (.str "square")) aNil)) (eC (.int 4)))))
 S_law_21
 sNil)
def S_law_19 : SF := (sIf (tVal (eBin opEq (eBin opMul (eV 13) (eV 13)) (eV 12)))
 (sSeq S_law_20
 sCnt)
 sNil)
def S_law_23 : SF := (sAsg (bTup 2 (bCons (bName 14) (bCons (bName 15) bNil))) (eCall m_root_chain (aCons (eV 12) aNil)))
def C_law_4 : OF' := oComp [22] (iSeq (eV 15)) (bName 22) (tNotF (tVal (eChain (fun i j => decide (i ≤ j)) (fun i j => decide (i ≤ j)) (eC (.int 1)) (eV 22) (eBin opMul (eC (.int 2)) (eV 13))))) (eV 22)
def S_law_25 : SF := (sRet (eC (.bool false)))
def S_law_24 : SF := (sIf (tOrF (tVal (eBin opNe (eV 14) (eV 13))) (tOrF (tVal (eBin opNe (eBin opIx (eV 15) (eNeg (eC (.int 1)))) (eBin opMul (eC (.int 2)) (eV 13)))) (tOrF (tVal (eBin opNe (eSl (eV 15) oNone (oSome (eNeg (eC (.int 1))))) (eRev (eSl (eV 15) oNone (oSome (eNeg (eC (.int 1)))))))) (tOrF (tVal (eBin opGt (eCall bLen (aCons (eOf C_law_4) aNil)) (eC (.int 0)))) (tVal (eBin (opIn false) (eBin opMul (eC (.int 2)) (eV 13)) (eSl (eV 15) oNone (oSome (eNeg (eC (.int 1)))))))))))
 S_law_25
 sNil)
def S_law_26 : SF := (sSet 16 (eBin opAdd (eC (.int 2)) (eCall m_take (aCons (eV 1) (aCons (eBin opAdd (eBin opMul (eC (.int 2)) (eCall bLen (aCons (eV 15) aNil))) (eC (.int 2))) aNil)))))
def S_law_27 : SF := (sSet 8 (eCall m_root_parts (aCons (eV 12) (aCons (eV 16) aNil))))
def S_law_28 : SF := (sSet 17 (eBin opAdd (eLst (aCons (eV 13) aNil)) (eBin opMul (eV 15) (eC (.int 40)))))
def S_law_30 : SF := (sRet (eC (.bool false)))
def S_law_29 : SF := (sIf (tOrF (tVal (eBin opNe (eV 8) (eCall m_parts_along (aCons (eSl (eV 17) oNone (oSome (eV 16))) aNil)))) (tVal (eBin opNe (eCall bLen (aCons (eV 8) aNil)) (eV 16))))
 S_law_30
 sNil)
def S_law_32 : SF := (sAsg (bTup 2 (bCons (bName 18) (bCons (bName 19) bNil))) (eBin opIx (eV 8) (eV 9)))
def S_law_33 : SF := (sSet 20 (eBin opSub (eBin opMul (eV 18) (eV 18)) (eBin opMul (eBin opMul (eV 12) (eV 19)) (eV 19))))
def S_law_35 : SF := (sRet (eC (.bool false)))
def S_law_34 : SF := (sIf (tOrF (tVal (eBin opNe (eBin opLt (eV 20) (eC (.int 0))) (eBin opEq (eBin opMod (eCall bInt (aCons (eV 9) aNil)) (eC (.int 2))) (eC (.int 0))))) (tVal (eBin opGt (eCall bAbs (aCons (eV 20) aNil)) (eBin opMul (eC (.int 2)) (eV 13)))))
 S_law_35
 sNil)
def B_law_31 : SF := (sSeq S_law_32
 (sSeq S_law_33
 S_law_34))
def S_law_31 : SF := (sFor (iRan1 (aCons (eV 16) aNil)) (bName 9)
 B_law_31)
def S_law_36 : SF := (sAsg (bTup 2 (bCons (bName 18) (bCons (bName 19) bNil))) (eCall m_pell (aCons (eV 12) aNil)))
def S_law_38 : SF := (sRet (eC (.bool false)))
def S_law_37 : SF := (sIf (tOrF (tVal (eBin opNe (eBin opSub (eBin opMul (eV 18) (eV 18)) (eBin opMul (eBin opMul (eV 12) (eV 19)) (eV 19))) (eC (.int 1)))) (tOrF (tVal (eBin opLt (eV 19) (eC (.int 1)))) (tOrF (tAndF (tVal (eBin opLt (eV 19) (eC (.int 400)))) (tVal (eBin opNe (eCall m__law_least (aCons (eV 12) (aCons (eC (.int 1)) (aCons (eC (.int 400)) aNil)))) (eTup (aCons (eV 18) (aCons (eV 19) aNil)))))) (tAndF (tVal (eBin opGe (eV 19) (eC (.int 400)))) (tVal (eNotN (eCall m__law_least (aCons (eV 12) (aCons (eC (.int 1)) (aCons (eC (.int 399)) aNil))))))))))
 S_law_38
 sNil)
def S_law_39 : SF := (sSet 11 (eCall m_minus_pell (aCons (eV 12) aNil)))
def S_law_41 : SF := (sRet (eC (.bool false)))
def S_law_40 : SF := (sIf (tVal (eBin opNe (eIsN (eV 11)) (eBin opEq (eBin opMod (eCall bInt (aCons (eCall bLen (aCons (eV 15) aNil)) aNil)) (eC (.int 2))) (eC (.int 0)))))
 S_law_41
 sNil)
def S_law_42 : SF := (sSet 21 (eCall m__law_least (aCons (eV 12) (aCons (eNeg (eC (.int 1))) (aCons (eC (.int 300)) aNil)))))
def S_law_44 : SF := (sRet (eC (.bool false)))
def S_law_43 : SF := (sIf (tOrF (tAndF (tVal (eIsN (eV 11))) (tVal (eNotN (eV 21)))) (tAndF (tVal (eNotN (eV 11))) (tVal (eBin opNe (eBin opSub (eBin opMul (eBin opIx (eV 11) (eC (.int 0))) (eBin opIx (eV 11) (eC (.int 0)))) (eBin opMul (eBin opMul (eV 12) (eBin opIx (eV 11) (eC (.int 1)))) (eBin opIx (eV 11) (eC (.int 1))))) (eNeg (eC (.int 1)))))))
 S_law_44
 sNil)
def S_law_46 : SF := (sRet (eC (.bool false)))
def S_law_45 : SF := (sIf (tAndF (tVal (eNotN (eV 11))) (tAndF (tVal (eBin opLt (eBin opIx (eV 11) (eC (.int 1))) (eC (.int 300)))) (tVal (eBin opNe (eV 21) (eV 11)))))
 S_law_46
 sNil)
def S_law_48 : SF := (sRet (eC (.bool false)))
def S_law_47 : SF := (sIf (tAndF (tVal (eNotN (eV 11))) (tVal (eBin opNe (eTup (aCons (eBin opAdd (eBin opMul (eBin opIx (eV 11) (eC (.int 0))) (eBin opIx (eV 11) (eC (.int 0)))) (eBin opMul (eBin opMul (eV 12) (eBin opIx (eV 11) (eC (.int 1)))) (eBin opIx (eV 11) (eC (.int 1))))) (aCons (eBin opMul (eBin opMul (eC (.int 2)) (eBin opIx (eV 11) (eC (.int 0)))) (eBin opIx (eV 11) (eC (.int 1)))) aNil))) (eTup (aCons (eV 18) (aCons (eV 19) aNil))))))
 S_law_48
 sNil)
def B_law_1 : SF := (sSeq S_law_2
 (sSeq S_law_3
 (sSeq S_law_4
 (sSeq S_law_5
 (sSeq S_law_6
 (sSeq S_law_7
 (sSeq S_law_9
 (sSeq S_law_11
 (sSeq S_law_13
 (sSeq S_law_14
 (sSeq S_law_15
 (sSeq S_law_17
 (sSeq S_law_18
 (sSeq S_law_19
 (sSeq S_law_23
 (sSeq S_law_24
 (sSeq S_law_26
 (sSeq S_law_27
 (sSeq S_law_28
 (sSeq S_law_29
 (sSeq S_law_31
 (sSeq S_law_36
 (sSeq S_law_37
 (sSeq S_law_39
 (sSeq S_law_40
 (sSeq S_law_42
 (sSeq S_law_43
 (sSeq S_law_45
 S_law_47))))))))))))))))))))))))))))
def S_law_1 : SF := (sFor (iRan1 (aCons (eC (.int 4)) aNil)) (bName 2)
 B_law_1)
def S_law_49 : SF := (sRet (eAnd (eBin opEq (eCall m_chain (aCons (eC (.int 0)) (aCons (eC (.int 1)) aNil))) (eLst (aCons (eC (.int 0)) aNil))) (eAnd (eBin opEq (eCall m_part_of (aCons (eLst (aCons (eC (.int 3)) aNil)) aNil)) (eTup (aCons (eC (.int 3)) (aCons (eC (.int 1)) aNil)))) (eAnd (eBin opEq (eCall m_pell (aCons (eC (.int 61)) aNil)) (eTup (aCons (eC (.int 1766319049)) (aCons (eC (.int 226153980)) aNil)))) (eBin opEq (eCall m_minus_pell (aCons (eC (.int 2)) aNil)) (eTup (aCons (eC (.int 1)) (aCons (eC (.int 1)) aNil))))))))
def sem_law : SF := (sSeq S_law_1
 S_law_49)
def LawMath : Prop := ∀ cells : List Int, cells ≠ [] → ∃ g, sem_law (.un :: .d tokD :: List.replicate 21 .un) (0, cells) = .rt (.bool true) g
theorem ok_law (hm : LawMath) (T : Top P K mg) : FnOk P w K mg base (L2.CX P w) 7 T.d_law.f T.d_law.fd ["script"] (spLaw K) := by
  refine Fun.okX T.d_law.F sc_law (fun vs H Q E ⟨a, ns, e, _⟩ => by rw [e]; rfl) (fun cdv A outer s H vs Q E hr ⟨a, ns, ev, hS, hl, h4⟩ => ?_)
  subst ev
  exact ⟨_, pss_cons (ps_set (i := 1) sc_law.nd rfl (.inr rfl) (pe_callS (ok__law_state T) (hr.mono (by decide)) rfl T.d__law_state.g T.d__law_state.F.kp T.d__law_state.b (fun σ => passAt (takes_of rfl rfl rfl rfl) σ) (pa_cons (pv 0) pa_nil)))
    (rest_run (K := K) (cl := clOf T) (W := fun cls d _ H => E cls d H) fun sa sb F0 H0 =>
 (dss_cons (ds_for (passes_of rfl) rfl (di_ran1 rfl T.b_range (da_cons d_int da_nil)) (dg_name (pg_name (i := 2) sc_law.nd rfl (.inl rfl)))
 (dss_cons (ds_set (ps_set (i := 3) sc_law.nd rfl (.inl rfl) (d_call rfl (ok__law_pick T) (hr.mono (by decide)) rfl T.d__law_pick.g T.d__law_pick.F.kp T.d__law_pick.b (takes_of rfl rfl rfl rfl) (da_cons (d_var (pv 1)) (da_cons (d_lst (da_cons d_int (da_cons d_int (da_cons d_int da_nil)))) da_nil)))))
 (dss_cons (ds_tpar (ps_par (i := 4) (j := 5) rfl sc_law.nd rfl rfl (by decide) rfl rfl (dv_of (da_cons (d_sub (d_call rfl (ok__law_take T) (hr.mono (by decide)) rfl T.d__law_take.g T.d__law_take.F.kp T.d__law_take.b (takes_of rfl rfl rfl rfl) (da_cons (d_var (pv 1)) (da_cons (d_mul d_int (d_var (pv 3))) da_nil))) (d_var (pv 3))) (da_cons (d_add rfl d_int (d_call rfl (ok__law_take T) (hr.mono (by decide)) rfl T.d__law_take.g T.d__law_take.F.kp T.d__law_take.b (takes_of rfl rfl rfl rfl) (da_cons (d_var (pv 1)) (da_cons (d_var (pv 3)) da_nil)))) da_nil))) (by rfl)))
 (dss_cons (ds_set (ps_set (i := 6) sc_law.nd rfl (.inr rfl) (d_call rfl (ok_chain T) (hr.mono (by decide)) rfl T.d_chain.g T.d_chain.F.kp T.d_chain.b (takes_of rfl rfl rfl rfl) (da_cons (d_var (pv 4)) (da_cons (d_var (pv 5)) da_nil)))))
 (dss_cons (ds_set (ps_set (i := 7) sc_law.nd rfl (.inl rfl) (d_call rfl (ok__law_divisor T) (hr.mono (by decide)) rfl T.d__law_divisor.g T.d__law_divisor.F.kp T.d__law_divisor.b (takes_of rfl rfl rfl rfl) (da_cons (d_var (pv 4)) (da_cons (d_var (pv 5)) da_nil)))))
 (dss_cons (ds_set (ps_set (i := 8) sc_law.nd rfl (.inl rfl) (d_call rfl (ok_parts_along T) (hr.mono (by decide)) rfl T.d_parts_along.g T.d_parts_along.F.kp T.d_parts_along.b (takes_of rfl rfl rfl rfl) (da_cons (d_var (pv 6)) da_nil))))
 (dss_cons (ds_if (dt_w (dw_or (dcT (d_ne rfl (hu65 hr) (d_ix rfl (d_var (pv 6)) d_int) (d_div (d_var (pv 4)) (d_var (pv 5))))) (dw_or (dcT (d_gt (d_callB call_len kl_len rfl T.b_len (by decide +kernel) (da_cons (d_ofO (o_lc (own := [("one", 22)]) rfl sc_law.nd (di_seq rfl (d_sl rfl (d_var (pv 6)) (do_some d_int) do_none)) (blkOk_by (N := nm_law) (sc := defScope s_law) (by decide +kernel)) (by decide) (fun _ _ _ _ _ => (dg_name (pg_name (i := 22) sc_law.nd rfl (.inl rfl)))) (fun _ _ _ _ _ => (dts_one (dcT (d_lt (d_var (pv 22)) d_int)))) (fun _ _ _ _ _ => (d_var (pv 22))))) da_nil)) d_int)) (dw_or1 (dt_w (dw_and (dcT (d_gt (d_callB call_len kl_len rfl T.b_len (by decide +kernel) (da_cons (d_var (pv 6)) da_nil)) d_int)) (dw_and1 (dcT (d_lt (d_ix rfl (d_var (pv 6)) (d_neg d_int)) d_int)))))))))
 (dss_one (ds_ret d_bl))
 dss_nil)
 (dss_cons (ds_if (dt_w (dw_or (dcT (d_ne rfl (hu65 hr) (d_call rfl (ok_part_of T) (hr.mono (by decide)) rfl T.d_part_of.g T.d_part_of.F.kp T.d_part_of.b (takes_of rfl rfl rfl rfl) (da_cons (d_var (pv 6)) da_nil)) (d_tup (da_cons (d_div (d_var (pv 4)) (d_var (pv 7))) (da_cons (d_div (d_var (pv 5)) (d_var (pv 7))) da_nil))))) (dw_or (dcT (d_ne rfl (hu65 hr) (d_ix rfl (d_var (pv 8)) (d_neg d_int)) (d_tup (da_cons (d_div (d_var (pv 4)) (d_var (pv 7))) (da_cons (d_div (d_var (pv 5)) (d_var (pv 7))) da_nil))))) (dw_or1 (dt_not (dt_tru rfl (d_call rfl (ok__law_sides T) (hr.mono (by decide)) rfl T.d__law_sides.g T.d__law_sides.F.kp T.d__law_sides.b (takes_of rfl rfl rfl rfl) (da_cons (d_var (pv 4)) (da_cons (d_var (pv 5)) (da_cons (d_var (pv 8)) da_nil))))))))))
 (dss_one (ds_ret d_bl))
 dss_nil)
 (dss_cons (ds_if (dcT (d_ne rfl (hu65 hr) (d_ofO (o_lc (own := [("k", 9)]) rfl sc_law.nd (di_ran1 rfl T.b_range (da_cons (d_callB call_len kl_len rfl T.b_len (by decide +kernel) (da_cons (d_var (pv 6)) da_nil)) da_nil)) (blkOk_by (N := nm_law) (sc := defScope s_law) (by decide +kernel)) (by decide) (fun _ _ _ _ _ => (dg_name (pg_name (i := 9) sc_law.nd rfl (.inl rfl)))) (fun _ _ _ _ _ => dts_nil) (fun _ _ _ _ _ => (d_call rfl (ok_part_of T) (hr.mono (by decide)) rfl T.d_part_of.g T.d_part_of.F.kp T.d_part_of.b takes0 (da_cons (d_sl rfl (d_var (pv 6)) do_none (do_some (d_add rfl (d_var (pv 9)) d_int))) da_nil))))) (d_var (pv 8))))
 (dss_one (ds_ret d_bl))
 dss_nil)
 (dss_cons (ds_set (ps_set (i := 10) sc_law.nd rfl (.inl rfl) (d_add rfl (d_lst (da_cons (d_sub (d_call rfl (ok__law_take T) (hr.mono (by decide)) rfl T.d__law_take.g T.d__law_take.F.kp T.d__law_take.b (takes_of rfl rfl rfl rfl) (da_cons (d_var (pv 1)) (da_cons d_int da_nil))) d_int) da_nil)) (d_ofO (o_lc (own := [("k", 9)]) rfl sc_law.nd (di_ran1 rfl T.b_range (da_cons (d_call rfl (ok__law_take T) (hr.mono (by decide)) rfl T.d__law_take.g T.d__law_take.F.kp T.d__law_take.b (takes_of rfl rfl rfl rfl) (da_cons (d_var (pv 1)) (da_cons d_int da_nil))) da_nil)) (blkOk_by (N := nm_law) (sc := defScope s_law) (by decide +kernel)) (by decide) (fun _ _ _ _ _ => (dg_name (pg_name (i := 9) sc_law.nd rfl (.inl rfl)))) (fun _ _ _ _ _ => dts_nil) (fun _ _ _ _ _ => (d_add rfl d_int (d_call rfl (ok__law_take T) (hr.mono (by decide)) rfl T.d__law_take.g T.d__law_take.F.kp T.d__law_take.b takes0 (da_cons (d_var (pv 1)) (da_cons d_int da_nil))))))))))
 (dss_cons (ds_set (ps_set (i := 11) sc_law.nd rfl (.inl rfl) (d_call rfl (ok_part_of T) (hr.mono (by decide)) rfl T.d_part_of.g T.d_part_of.F.kp T.d_part_of.b (takes_of rfl rfl rfl rfl) (da_cons (d_var (pv 10)) da_nil))))
 (dss_cons (ds_if (dcT (d_ne rfl (hu65 hr) (d_call rfl (ok_chain T) (hr.mono (by decide)) rfl T.d_chain.g T.d_chain.F.kp T.d_chain.b (takes_of rfl rfl rfl rfl) (da_cons (d_ix rfl (d_var (pv 11)) d_int) (da_cons (d_ix rfl (d_var (pv 11)) d_int) da_nil))) (d_if (dt_w (dw_or (dcT (d_eq rfl (hu65 hr) (d_callB call_len kl_len rfl T.b_len (by decide +kernel) (da_cons (d_var (pv 10)) da_nil)) d_int)) (dw_or1 (dcT (d_gt (d_ix rfl (d_var (pv 10)) (d_neg d_int)) d_int))))) (d_var (pv 10)) (d_add rfl (d_sl rfl (d_var (pv 10)) do_none (do_some (d_neg d_int))) (d_lst (da_cons (d_add rfl (d_ix rfl (d_var (pv 10)) (d_neg d_int)) d_int) da_nil))))))
 (dss_one (ds_ret d_bl))
 dss_nil)
 (dss_cons (ds_set (ps_set (i := 12) sc_law.nd rfl (.inl rfl) (d_add rfl d_int (d_call rfl (ok__law_take T) (hr.mono (by decide)) rfl T.d__law_take.g T.d__law_take.F.kp T.d__law_take.b (takes_of rfl rfl rfl rfl) (da_cons (d_var (pv 1)) (da_cons (d_call rfl (ok__law_pick T) (hr.mono (by decide)) rfl T.d__law_pick.g T.d__law_pick.F.kp T.d__law_pick.b (takes_of rfl rfl rfl rfl) (da_cons (d_var (pv 1)) (da_cons (d_lst (da_cons d_int (da_cons d_int (da_cons d_int da_nil)))) da_nil))) da_nil))))))
 (dss_cons (ds_set (ps_set (i := 13) sc_law.nd rfl (.inr rfl) (d_call rfl (ok__law_root T) (hr.mono (by decide)) rfl T.d__law_root.g T.d__law_root.F.kp T.d__law_root.b (takes_of rfl rfl rfl rfl) (da_cons (d_var (pv 12)) da_nil))))
 (dss_cons (ds_if (dcT (d_eq rfl (hu65 hr) (d_mul (d_var (pv 13)) (d_var (pv 13))) (d_var (pv 12))))
 (dss_cons (ds_if (dcT (d_ne rfl (hu65 hr) (d_call rfl (ok__law_words T) (hr.mono (by decide)) rfl T.d__law_words.g T.d__law_words.F.kp T.d__law_words.b (takes_of rfl rfl rfl rfl) (da_cons (d_var (pv 12)) da_nil)) (d_mul (d_lst (da_cons d_str da_nil)) d_int)))
 (dss_one (ds_ret d_bl))
 dss_nil)
 (dss_one ds_continue))
 dss_nil)
 (dss_cons (ds_asg (d_call rfl (ok_root_chain T) (hr.mono (by decide)) rfl T.d_root_chain.g T.d_root_chain.F.kp T.d_root_chain.b (takes_of rfl rfl rfl rfl) (da_cons (d_var (pv 12)) da_nil)) (dg_tup rfl rfl (dgs_cons (dg_name (pg_name (i := 14) sc_law.nd rfl (.inl rfl))) (dgs_cons (dg_name (pg_name (i := 15) sc_law.nd rfl (.inl rfl))) dgs_nil))))
 (dss_cons (ds_if (dt_w (dw_or (dcT (d_ne rfl (hu65 hr) (d_var (pv 14)) (d_var (pv 13)))) (dw_or (dcT (d_ne rfl (hu65 hr) (d_ix rfl (d_var (pv 15)) (d_neg d_int)) (d_mul d_int (d_var (pv 13))))) (dw_or (dcT (d_ne rfl (hu65 hr) (d_sl rfl (d_var (pv 15)) do_none (do_some (d_neg d_int))) (d_rev rfl (d_sl rfl (d_var (pv 15)) do_none (do_some (d_neg d_int)))))) (dw_or (dcT (d_gt (d_callB call_len kl_len rfl T.b_len (by decide +kernel) (da_cons (d_ofO (o_lc (own := [("one", 22)]) rfl sc_law.nd (di_seq rfl (d_var (pv 15))) (blkOk_by (N := nm_law) (sc := defScope s_law) (by decide +kernel)) (by decide) (fun _ _ _ _ _ => (dg_name (pg_name (i := 22) sc_law.nd rfl (.inl rfl)))) (fun _ _ _ _ _ => (dts_one (dt_not (dcT (d_chain op_le op_le d_int (d_var (pv 22)) (d_mul d_int (d_var (pv 13)))))))) (fun _ _ _ _ _ => (d_var (pv 22))))) da_nil)) d_int)) (dw_or1 (dcT (d_in rfl (hu65 hr) (d_mul d_int (d_var (pv 13))) (d_sl rfl (d_var (pv 15)) do_none (do_some (d_neg d_int)))))))))))
 (dss_one (ds_ret d_bl))
 dss_nil)
 (dss_cons (ds_set (ps_set (i := 16) sc_law.nd rfl (.inl rfl) (d_add rfl d_int (d_call rfl (ok__law_take T) (hr.mono (by decide)) rfl T.d__law_take.g T.d__law_take.F.kp T.d__law_take.b (takes_of rfl rfl rfl rfl) (da_cons (d_var (pv 1)) (da_cons (d_add rfl (d_mul d_int (d_callB call_len kl_len rfl T.b_len (by decide +kernel) (da_cons (d_var (pv 15)) da_nil))) d_int) da_nil))))))
 (dss_cons (ds_set (ps_set (i := 8) sc_law.nd rfl (.inl rfl) (d_call rfl (ok_root_parts T) (hr.mono (by decide)) rfl T.d_root_parts.g T.d_root_parts.F.kp T.d_root_parts.b (takes_of rfl rfl rfl rfl) (da_cons (d_var (pv 12)) (da_cons (d_var (pv 16)) da_nil)))))
 (dss_cons (ds_set (ps_set (i := 17) sc_law.nd rfl (.inl rfl) (d_add rfl (d_lst (da_cons (d_var (pv 13)) da_nil)) (d_mul (d_var (pv 15)) d_int))))
 (dss_cons (ds_if (dt_w (dw_or (dcT (d_ne rfl (hu65 hr) (d_var (pv 8)) (d_call rfl (ok_parts_along T) (hr.mono (by decide)) rfl T.d_parts_along.g T.d_parts_along.F.kp T.d_parts_along.b (takes_of rfl rfl rfl rfl) (da_cons (d_sl rfl (d_var (pv 17)) do_none (do_some (d_var (pv 16)))) da_nil)))) (dw_or1 (dcT (d_ne rfl (hu65 hr) (d_callB call_len kl_len rfl T.b_len (by decide +kernel) (da_cons (d_var (pv 8)) da_nil)) (d_var (pv 16)))))))
 (dss_one (ds_ret d_bl))
 dss_nil)
 (dss_cons (ds_for (passes_of rfl) rfl (di_ran1 rfl T.b_range (da_cons (d_var (pv 16)) da_nil)) (dg_name (pg_name (i := 9) sc_law.nd rfl (.inl rfl)))
 (dss_cons (ds_asg (d_ix rfl (d_var (pv 8)) (d_var (pv 9))) (dg_tup rfl rfl (dgs_cons (dg_name (pg_name (i := 18) sc_law.nd rfl (.inl rfl))) (dgs_cons (dg_name (pg_name (i := 19) sc_law.nd rfl (.inl rfl))) dgs_nil))))
 (dss_cons (ds_set (ps_set (i := 20) sc_law.nd rfl (.inl rfl) (d_sub (d_mul (d_var (pv 18)) (d_var (pv 18))) (d_mul (d_mul (d_var (pv 12)) (d_var (pv 19))) (d_var (pv 19))))))
 (dss_one (ds_if (dt_w (dw_or (dcT (d_ne rfl (hu65 hr) (dcE (d_lt (d_var (pv 20)) d_int)) (dcE (d_eq rfl (hu65 hr) (d_mod (d_callT call_int1 kl_int rfl T.b_int (by decide +kernel) (da_cons (d_var (pv 9)) da_nil)) d_int) d_int)))) (dw_or1 (dcT (d_gt (d_callB call_abs kl_abs rfl T.b_abs (by decide +kernel) (da_cons (d_var (pv 20)) da_nil)) (d_mul d_int (d_var (pv 13))))))))
 (dss_one (ds_ret d_bl))
 dss_nil)))))
 (dss_cons (ds_asg (d_call rfl (ok_pell T) (hr.mono (by decide)) rfl T.d_pell.g T.d_pell.F.kp T.d_pell.b (takes_of rfl rfl rfl rfl) (da_cons (d_var (pv 12)) da_nil)) (dg_tup rfl rfl (dgs_cons (dg_name (pg_name (i := 18) sc_law.nd rfl (.inl rfl))) (dgs_cons (dg_name (pg_name (i := 19) sc_law.nd rfl (.inl rfl))) dgs_nil))))
 (dss_cons (ds_if (dt_w (dw_or (dcT (d_ne rfl (hu65 hr) (d_sub (d_mul (d_var (pv 18)) (d_var (pv 18))) (d_mul (d_mul (d_var (pv 12)) (d_var (pv 19))) (d_var (pv 19)))) d_int)) (dw_or (dcT (d_lt (d_var (pv 19)) d_int)) (dw_or (dt_w (dw_and (dcT (d_lt (d_var (pv 19)) d_int)) (dw_and1 (dcT (d_ne rfl (hu65 hr) (d_call rfl (ok__law_least T) (hr.mono (by decide)) rfl T.d__law_least.g T.d__law_least.F.kp T.d__law_least.b (takes_of rfl rfl rfl rfl) (da_cons (d_var (pv 12)) (da_cons d_int (da_cons d_int da_nil)))) (d_tup (da_cons (d_var (pv 18)) (da_cons (d_var (pv 19)) da_nil)))))))) (dw_or1 (dt_w (dw_and (dcT (d_ge (d_var (pv 19)) d_int)) (dw_and1 (dcT (d_notN (d_call rfl (ok__law_least T) (hr.mono (by decide)) rfl T.d__law_least.g T.d__law_least.F.kp T.d__law_least.b (takes_of rfl rfl rfl rfl) (da_cons (d_var (pv 12)) (da_cons d_int (da_cons d_int da_nil))))))))))))))
 (dss_one (ds_ret d_bl))
 dss_nil)
 (dss_cons (ds_set (ps_set (i := 11) sc_law.nd rfl (.inl rfl) (d_call rfl (ok_minus_pell T) (hr.mono (by decide)) rfl T.d_minus_pell.g T.d_minus_pell.F.kp T.d_minus_pell.b (takes_of rfl rfl rfl rfl) (da_cons (d_var (pv 12)) da_nil))))
 (dss_cons (ds_if (dcT (d_ne rfl (hu65 hr) (dcE (d_isN (d_var (pv 11)))) (dcE (d_eq rfl (hu65 hr) (d_mod (d_callT call_int1 kl_int rfl T.b_int (by decide +kernel) (da_cons (d_callB call_len kl_len rfl T.b_len (by decide +kernel) (da_cons (d_var (pv 15)) da_nil)) da_nil)) d_int) d_int))))
 (dss_one (ds_ret d_bl))
 dss_nil)
 (dss_cons (ds_set (ps_set (i := 21) sc_law.nd rfl (.inl rfl) (d_call rfl (ok__law_least T) (hr.mono (by decide)) rfl T.d__law_least.g T.d__law_least.F.kp T.d__law_least.b (takes_of rfl rfl rfl rfl) (da_cons (d_var (pv 12)) (da_cons (d_neg d_int) (da_cons d_int da_nil))))))
 (dss_cons (ds_if (dt_w (dw_or (dt_w (dw_and (dcT (d_isN (d_var (pv 11)))) (dw_and1 (dcT (d_notN (d_var (pv 21))))))) (dw_or1 (dt_w (dw_and (dcT (d_notN (d_var (pv 11)))) (dw_and1 (dcT (d_ne rfl (hu65 hr) (d_sub (d_mul (d_ix rfl (d_var (pv 11)) d_int) (d_ix rfl (d_var (pv 11)) d_int)) (d_mul (d_mul (d_var (pv 12)) (d_ix rfl (d_var (pv 11)) d_int)) (d_ix rfl (d_var (pv 11)) d_int))) (d_neg d_int)))))))))
 (dss_one (ds_ret d_bl))
 dss_nil)
 (dss_cons (ds_if (dt_w (dw_and (dcT (d_notN (d_var (pv 11)))) (dw_and (dcT (d_lt (d_ix rfl (d_var (pv 11)) d_int) d_int)) (dw_and1 (dcT (d_ne rfl (hu65 hr) (d_var (pv 21)) (d_var (pv 11))))))))
 (dss_one (ds_ret d_bl))
 dss_nil)
 (dss_one (ds_if (dt_w (dw_and (dcT (d_notN (d_var (pv 11)))) (dw_and1 (dcT (d_ne rfl (hu65 hr) (d_tup (da_cons (d_add rfl (d_mul (d_ix rfl (d_var (pv 11)) d_int) (d_ix rfl (d_var (pv 11)) d_int)) (d_mul (d_mul (d_var (pv 12)) (d_ix rfl (d_var (pv 11)) d_int)) (d_ix rfl (d_var (pv 11)) d_int))) (da_cons (d_mul (d_mul d_int (d_ix rfl (d_var (pv 11)) d_int)) (d_ix rfl (d_var (pv 11)) d_int)) da_nil))) (d_tup (da_cons (d_var (pv 18)) (da_cons (d_var (pv 19)) da_nil))))))))
 (dss_one (ds_ret d_bl))
 dss_nil)))))))))))))))))))))))))))))))
 (dss_one (ds_ret (d_and (dcE (d_eq rfl (hu65 hr) (d_call rfl (ok_chain T) (hr.mono (by decide)) rfl T.d_chain.g T.d_chain.F.kp T.d_chain.b (takes_of rfl rfl rfl rfl) (da_cons d_int (da_cons d_int da_nil))) (d_lst (da_cons d_int da_nil)))) (d_and (dcE (d_eq rfl (hu65 hr) (d_call rfl (ok_part_of T) (hr.mono (by decide)) rfl T.d_part_of.g T.d_part_of.F.kp T.d_part_of.b (takes_of rfl rfl rfl rfl) (da_cons (d_lst (da_cons d_int da_nil)) da_nil)) (d_tup (da_cons d_int (da_cons d_int da_nil))))) (d_and (dcE (d_eq rfl (hu65 hr) (d_call rfl (ok_pell T) (hr.mono (by decide)) rfl T.d_pell.g T.d_pell.F.kp T.d_pell.b (takes_of rfl rfl rfl rfl) (da_cons d_int da_nil)) (d_tup (da_cons d_int (da_cons d_int da_nil))))) (d_one (dcE (d_eq rfl (hu65 hr) (d_call rfl (ok_minus_pell T) (hr.mono (by decide)) rfl T.d_minus_pell.g T.d_minus_pell.F.kp T.d_minus_pell.b (takes_of rfl rfl rfl rfl) (da_cons d_int da_nil)) (d_tup (da_cons d_int (da_cons d_int da_nil))))))))))))), law_go rfl hS hl h4 rfl hm⟩
end K45
namespace K45
open PySem
open PySem.Spec
open PyProof.Rows
open L2
open DL
theorem sq_le {a b : Int} (h0 : 0 ≤ b) (h : a * a ≤ b * b) : a ≤ b := by
  by_cases h1 : a ≤ b
  · exact h1
  · have : b * b < a * a := by
      have h2 : b < a := by omega
      have h3 : b * b ≤ b * a := Int.mul_le_mul_of_nonneg_left (by omega) h0
      have h4 : b * a < a * a := Int.mul_lt_mul_of_pos_right h2 (by omega)
      omega
    omega
theorem sq_lt {a b : Int} (h0 : 0 ≤ b) (h : a * a < b * b) : a < b := by
  by_cases h1 : a < b
  · exact h1
  · have h2 : b ≤ a := by omega
    have : b * b ≤ a * a := Int.mul_le_mul h2 h2 h0 (by omega)
    omega
theorem root_uniq {n r s : Int} (h0 : 0 ≤ r) (h1 : r * r ≤ n) (h2 : n < (r + 1) * (r + 1)) (k0 : 0 ≤ s) (k1 : s * s ≤ n) (k2 : n < (s + 1) * (s + 1)) : s = r := by
  have a : r < s + 1 := sq_lt (by omega) (by omega)
  have b : s < r + 1 := sq_lt (by omega) (by omega)
  omega
theorem m_root_eq {n r : Int} {g : G} (hn : n < 4611686018427387904) (h0 : 0 ≤ r) (h1 : r * r ≤ n) (h2 : n < (r + 1) * (r + 1)) : m_root [.int n] g = .ok (.int r) g := by
  have n0 : 0 ≤ n := by
    have := Int.mul_nonneg h0 h0
    omega
  refine m_rt (np := 1) rfl ?_
  refine seq_nx (ρ1 := [.d (.int n), .d (.int 0), .d (.int 1), .un]) (g1 := g) ?_ ?_
  · simp (disch := omega) only [S_root_1, eV_ap, eC_ap, eBin_ap, eNeg_ap, tVal_ap, eIsN_ap, eNotN_ap, eChain_ap, tAndF_ap, tOrF_ap, tNotF_ap, tTru_ap, eAnd_ap, eOr_ap, eNot_ap, eIf_ap, aNil_ap, aCons_ap, eTup_ap, eLst_ap, oNone_ap, oSome_ap, eSl_ap, eCall_ap, iLst_ap, iTpl_ap, iRan2_apN, eOf_ap, oLst_ap, oCat_ap, oRep_ap, oSl_ap, oList_ap, oComp_ap, tYesF_ap, sNil_ap, sSeq_th, sBrk_ap, sCnt_ap, sExpr_ap, sRet_ap, sRetN_ap, sIf_ap, sSet_ap, sSetO_ap, sAsg_ap, sPar_ap, sPar3_ap, sAug_ap, sApp_ap, sExt_ap, sSetIx_ap, sFrz_ap, eIxO_ap, eLenO_ap, eIxA_ap, eLenA_ap, vOf_ap, vCons_ap, vOwn_ap, sTup_ap, iSeq_ap, sRaise_ap, sTry_ap, eExF_ap, tIfF_ap, eRev_ap, eRevF_ap, th_nx, th_rt, th_bk, th_ct, th_exc, bind_ok, bind_exc, go_ok, go_exc, opAdd_int, opSub_int, opMul_a, opMul_b, opDiv_pos, opDiv_wide, opMod_pos, opI_int, opEq_int, opNe_int, opEq_bool, opNe_bool, atI_0, atI_1, atI_2, atI_3, opIx_list, opIx_tuple, iRan1_ap, bLen_list, bLen_tuple, bInt_int, bAbs_int, bName, bNil, bCons, bTup, List.getElem?_cons_zero, List.getElem?_cons_succ, List.set_cons_zero, List.set_cons_succ, List.length_cons, List.length_nil, noTok, if_true, if_false, decide_true, decide_false, Bool.not_true, Bool.not_false, setAll, List.map_cons, List.map_nil, truD, Bool.true_eq_false, Bool.false_eq_true, Option.bind_some, true_and, and_true, List.replicate, startR, List.cons_append, List.nil_append, Nat.sub_self, reduceIte, ↓reduceIte, isNon, LIM_eq, and_self, List.map_append, List.length_map, Int.toNat_natCast, Nat.zero_le, Nat.reduceLeDiff, Int.reduceNeg, Int.reduceLE, Int.reduceLT, Int.zero_add, ran1_int, ran2_int]
  obtain ⟨ρ1, g1, ⟨rfl, high, e1, e2, e3, rfl⟩, hw⟩ := sWhile_run (t := W_root_2) (f := B_root_2) (N := 1000000000000000000000000000000) (g := g)
    (fun m ρ g' => g' = g ∧ ∃ high : Int, 1 ≤ high ∧ high ≤ 4294967296 ∧ m = (8589934592 - high).toNat ∧ ρ = [.d (.int n), .d (.int 0), .d (.int high), .un])
    (fun ρ g' => g' = g ∧ ∃ high : Int, 1 ≤ high ∧ high ≤ 4294967296 ∧ n < high * high ∧ ρ = [.d (.int n), .d (.int 0), .d (.int high), .un]) (m := 8589934591) ⟨rfl, 1, by omega, by omega, by omega, rfl⟩ (by decide) (by
      rintro m ρ g' ⟨rfl, high, k1, k2, rfl, rfl⟩
      by_cases hc : high * high ≤ n
      · right
        have hh : high < 2147483648 := sq_lt (by omega) (by omega)
        refine ⟨?_, (8589934592 - high * 2).toNat, [.d (.int n), .d (.int 0), .d (.int (high * 2)), .un], g', by omega, .inl ?_, rfl, high * 2, by omega, by omega, rfl, rfl⟩
        · simp (disch := omega) only [W_root_2, hc, eV_ap, eC_ap, eBin_ap, eNeg_ap, tVal_ap, eIsN_ap, eNotN_ap, eChain_ap, tAndF_ap, tOrF_ap, tNotF_ap, tTru_ap, eAnd_ap, eOr_ap, eNot_ap, eIf_ap, aNil_ap, aCons_ap, eTup_ap, eLst_ap, oNone_ap, oSome_ap, eSl_ap, eCall_ap, iLst_ap, iTpl_ap, iRan2_apN, eOf_ap, oLst_ap, oCat_ap, oRep_ap, oSl_ap, oList_ap, oComp_ap, tYesF_ap, sNil_ap, sSeq_th, sBrk_ap, sCnt_ap, sExpr_ap, sRet_ap, sRetN_ap, sIf_ap, sSet_ap, sSetO_ap, sAsg_ap, sPar_ap, sPar3_ap, sAug_ap, sApp_ap, sExt_ap, sSetIx_ap, sFrz_ap, eIxO_ap, eLenO_ap, eIxA_ap, eLenA_ap, vOf_ap, vCons_ap, vOwn_ap, sTup_ap, iSeq_ap, sRaise_ap, sTry_ap, eExF_ap, tIfF_ap, eRev_ap, eRevF_ap, th_nx, th_rt, th_bk, th_ct, th_exc, bind_ok, bind_exc, go_ok, go_exc, opAdd_int, opSub_int, opMul_a, opMul_b, opDiv_pos, opDiv_wide, opMod_pos, opI_int, opEq_int, opNe_int, opEq_bool, opNe_bool, atI_0, atI_1, atI_2, atI_3, opIx_list, opIx_tuple, iRan1_ap, bLen_list, bLen_tuple, bInt_int, bAbs_int, bName, bNil, bCons, bTup, List.getElem?_cons_zero, List.getElem?_cons_succ, List.set_cons_zero, List.set_cons_succ, List.length_cons, List.length_nil, noTok, if_true, if_false, decide_true, decide_false, Bool.not_true, Bool.not_false, setAll, List.map_cons, List.map_nil, truD, Bool.true_eq_false, Bool.false_eq_true, Option.bind_some, true_and, and_true, List.replicate, startR, List.cons_append, List.nil_append, Nat.sub_self, reduceIte, ↓reduceIte, isNon, LIM_eq, and_self, List.map_append, List.length_map, Int.toNat_natCast, Nat.zero_le, Nat.reduceLeDiff, Int.reduceNeg, Int.reduceLE, Int.reduceLT, Int.zero_add, ran1_int, ran2_int]
        · simp (disch := omega) only [B_root_2, S_root_3, eV_ap, eC_ap, eBin_ap, eNeg_ap, tVal_ap, eIsN_ap, eNotN_ap, eChain_ap, tAndF_ap, tOrF_ap, tNotF_ap, tTru_ap, eAnd_ap, eOr_ap, eNot_ap, eIf_ap, aNil_ap, aCons_ap, eTup_ap, eLst_ap, oNone_ap, oSome_ap, eSl_ap, eCall_ap, iLst_ap, iTpl_ap, iRan2_apN, eOf_ap, oLst_ap, oCat_ap, oRep_ap, oSl_ap, oList_ap, oComp_ap, tYesF_ap, sNil_ap, sSeq_th, sBrk_ap, sCnt_ap, sExpr_ap, sRet_ap, sRetN_ap, sIf_ap, sSet_ap, sSetO_ap, sAsg_ap, sPar_ap, sPar3_ap, sAug_ap, sApp_ap, sExt_ap, sSetIx_ap, sFrz_ap, eIxO_ap, eLenO_ap, eIxA_ap, eLenA_ap, vOf_ap, vCons_ap, vOwn_ap, sTup_ap, iSeq_ap, sRaise_ap, sTry_ap, eExF_ap, tIfF_ap, eRev_ap, eRevF_ap, th_nx, th_rt, th_bk, th_ct, th_exc, bind_ok, bind_exc, go_ok, go_exc, opAdd_int, opSub_int, opMul_a, opMul_b, opDiv_pos, opDiv_wide, opMod_pos, opI_int, opEq_int, opNe_int, opEq_bool, opNe_bool, atI_0, atI_1, atI_2, atI_3, opIx_list, opIx_tuple, iRan1_ap, bLen_list, bLen_tuple, bInt_int, bAbs_int, bName, bNil, bCons, bTup, List.getElem?_cons_zero, List.getElem?_cons_succ, List.set_cons_zero, List.set_cons_succ, List.length_cons, List.length_nil, noTok, if_true, if_false, decide_true, decide_false, Bool.not_true, Bool.not_false, setAll, List.map_cons, List.map_nil, truD, Bool.true_eq_false, Bool.false_eq_true, Option.bind_some, true_and, and_true, List.replicate, startR, List.cons_append, List.nil_append, Nat.sub_self, reduceIte, ↓reduceIte, isNon, LIM_eq, and_self, List.map_append, List.length_map, Int.toNat_natCast, Nat.zero_le, Nat.reduceLeDiff, Int.reduceNeg, Int.reduceLE, Int.reduceLT, Int.zero_add, ran1_int, ran2_int]
      · left
        refine ⟨?_, rfl, high, k1, k2, by omega, rfl⟩
        simp (disch := omega) only [W_root_2, hc, eV_ap, eC_ap, eBin_ap, eNeg_ap, tVal_ap, eIsN_ap, eNotN_ap, eChain_ap, tAndF_ap, tOrF_ap, tNotF_ap, tTru_ap, eAnd_ap, eOr_ap, eNot_ap, eIf_ap, aNil_ap, aCons_ap, eTup_ap, eLst_ap, oNone_ap, oSome_ap, eSl_ap, eCall_ap, iLst_ap, iTpl_ap, iRan2_apN, eOf_ap, oLst_ap, oCat_ap, oRep_ap, oSl_ap, oList_ap, oComp_ap, tYesF_ap, sNil_ap, sSeq_th, sBrk_ap, sCnt_ap, sExpr_ap, sRet_ap, sRetN_ap, sIf_ap, sSet_ap, sSetO_ap, sAsg_ap, sPar_ap, sPar3_ap, sAug_ap, sApp_ap, sExt_ap, sSetIx_ap, sFrz_ap, eIxO_ap, eLenO_ap, eIxA_ap, eLenA_ap, vOf_ap, vCons_ap, vOwn_ap, sTup_ap, iSeq_ap, sRaise_ap, sTry_ap, eExF_ap, tIfF_ap, eRev_ap, eRevF_ap, th_nx, th_rt, th_bk, th_ct, th_exc, bind_ok, bind_exc, go_ok, go_exc, opAdd_int, opSub_int, opMul_a, opMul_b, opDiv_pos, opDiv_wide, opMod_pos, opI_int, opEq_int, opNe_int, opEq_bool, opNe_bool, atI_0, atI_1, atI_2, atI_3, opIx_list, opIx_tuple, iRan1_ap, bLen_list, bLen_tuple, bInt_int, bAbs_int, bName, bNil, bCons, bTup, List.getElem?_cons_zero, List.getElem?_cons_succ, List.set_cons_zero, List.set_cons_succ, List.length_cons, List.length_nil, noTok, if_true, if_false, decide_true, decide_false, Bool.not_true, Bool.not_false, setAll, List.map_cons, List.map_nil, truD, Bool.true_eq_false, Bool.false_eq_true, Option.bind_some, true_and, and_true, List.replicate, startR, List.cons_append, List.nil_append, Nat.sub_self, reduceIte, ↓reduceIte, isNon, LIM_eq, and_self, List.map_append, List.length_map, Int.toNat_natCast, Nat.zero_le, Nat.reduceLeDiff, Int.reduceNeg, Int.reduceLE, Int.reduceLT, Int.zero_add, ran1_int, ran2_int])
  refine seq_nx (show S_root_2 _ _ = _ from hw) ?_
  obtain ⟨ρ2, g2, ⟨rfl, x, rfl⟩, hw2⟩ := sWhile_run (t := W_root_4) (f := B_root_4) (N := 1000000000000000000000000000000) (g := g1)
    (fun m ρ g' => g' = g1 ∧ ∃ (lo hi : Int) (x : SV), 0 ≤ lo ∧ lo < hi ∧ hi ≤ 4294967296 ∧ lo * lo ≤ n ∧ n < hi * hi ∧ m = (hi - lo).toNat ∧ ρ = [.d (.int n), .d (.int lo), .d (.int hi), x])
    (fun ρ g' => g' = g1 ∧ ∃ x : SV, ρ = [.d (.int n), .d (.int r), .d (.int (r + 1)), x]) (m := high.toNat) ⟨rfl, 0, high, .un, by omega, by omega, by omega, by omega, e3, by omega, rfl⟩ (by omega) (by
      rintro m ρ g' ⟨rfl, lo, hi, x, k1, k2, k3, k4, k5, rfl, rfl⟩
      by_cases hc : 1 < hi - lo
      · right
        have hm0 : lo < (lo + hi) / 2 := by omega
        have hm1 : (lo + hi) / 2 < hi := by omega
        by_cases hd : n < (lo + hi) / 2 * ((lo + hi) / 2)
        · refine ⟨?_, ((lo + hi) / 2 - lo).toNat, [.d (.int n), .d (.int lo), .d (.int ((lo + hi) / 2)), .d (.int ((lo + hi) / 2))], g', by omega, .inl ?_, rfl, lo, (lo + hi) / 2, _, by omega, by omega, by omega, k4, hd, rfl, rfl⟩
          · simp (disch := omega) only [W_root_4, hc, eV_ap, eC_ap, eBin_ap, eNeg_ap, tVal_ap, eIsN_ap, eNotN_ap, eChain_ap, tAndF_ap, tOrF_ap, tNotF_ap, tTru_ap, eAnd_ap, eOr_ap, eNot_ap, eIf_ap, aNil_ap, aCons_ap, eTup_ap, eLst_ap, oNone_ap, oSome_ap, eSl_ap, eCall_ap, iLst_ap, iTpl_ap, iRan2_apN, eOf_ap, oLst_ap, oCat_ap, oRep_ap, oSl_ap, oList_ap, oComp_ap, tYesF_ap, sNil_ap, sSeq_th, sBrk_ap, sCnt_ap, sExpr_ap, sRet_ap, sRetN_ap, sIf_ap, sSet_ap, sSetO_ap, sAsg_ap, sPar_ap, sPar3_ap, sAug_ap, sApp_ap, sExt_ap, sSetIx_ap, sFrz_ap, eIxO_ap, eLenO_ap, eIxA_ap, eLenA_ap, vOf_ap, vCons_ap, vOwn_ap, sTup_ap, iSeq_ap, sRaise_ap, sTry_ap, eExF_ap, tIfF_ap, eRev_ap, eRevF_ap, th_nx, th_rt, th_bk, th_ct, th_exc, bind_ok, bind_exc, go_ok, go_exc, opAdd_int, opSub_int, opMul_a, opMul_b, opDiv_pos, opDiv_wide, opMod_pos, opI_int, opEq_int, opNe_int, opEq_bool, opNe_bool, atI_0, atI_1, atI_2, atI_3, opIx_list, opIx_tuple, iRan1_ap, bLen_list, bLen_tuple, bInt_int, bAbs_int, bName, bNil, bCons, bTup, List.getElem?_cons_zero, List.getElem?_cons_succ, List.set_cons_zero, List.set_cons_succ, List.length_cons, List.length_nil, noTok, if_true, if_false, decide_true, decide_false, Bool.not_true, Bool.not_false, setAll, List.map_cons, List.map_nil, truD, Bool.true_eq_false, Bool.false_eq_true, Option.bind_some, true_and, and_true, List.replicate, startR, List.cons_append, List.nil_append, Nat.sub_self, reduceIte, ↓reduceIte, isNon, LIM_eq, and_self, List.map_append, List.length_map, Int.toNat_natCast, Nat.zero_le, Nat.reduceLeDiff, Int.reduceNeg, Int.reduceLE, Int.reduceLT, Int.zero_add, ran1_int, ran2_int]
          · simp (disch := omega) only [B_root_4, S_root_5, S_root_6, S_root_7, S_root_8, hd, eV_ap, eC_ap, eBin_ap, eNeg_ap, tVal_ap, eIsN_ap, eNotN_ap, eChain_ap, tAndF_ap, tOrF_ap, tNotF_ap, tTru_ap, eAnd_ap, eOr_ap, eNot_ap, eIf_ap, aNil_ap, aCons_ap, eTup_ap, eLst_ap, oNone_ap, oSome_ap, eSl_ap, eCall_ap, iLst_ap, iTpl_ap, iRan2_apN, eOf_ap, oLst_ap, oCat_ap, oRep_ap, oSl_ap, oList_ap, oComp_ap, tYesF_ap, sNil_ap, sSeq_th, sBrk_ap, sCnt_ap, sExpr_ap, sRet_ap, sRetN_ap, sIf_ap, sSet_ap, sSetO_ap, sAsg_ap, sPar_ap, sPar3_ap, sAug_ap, sApp_ap, sExt_ap, sSetIx_ap, sFrz_ap, eIxO_ap, eLenO_ap, eIxA_ap, eLenA_ap, vOf_ap, vCons_ap, vOwn_ap, sTup_ap, iSeq_ap, sRaise_ap, sTry_ap, eExF_ap, tIfF_ap, eRev_ap, eRevF_ap, th_nx, th_rt, th_bk, th_ct, th_exc, bind_ok, bind_exc, go_ok, go_exc, opAdd_int, opSub_int, opMul_a, opMul_b, opDiv_pos, opDiv_wide, opMod_pos, opI_int, opEq_int, opNe_int, opEq_bool, opNe_bool, atI_0, atI_1, atI_2, atI_3, opIx_list, opIx_tuple, iRan1_ap, bLen_list, bLen_tuple, bInt_int, bAbs_int, bName, bNil, bCons, bTup, List.getElem?_cons_zero, List.getElem?_cons_succ, List.set_cons_zero, List.set_cons_succ, List.length_cons, List.length_nil, noTok, if_true, if_false, decide_true, decide_false, Bool.not_true, Bool.not_false, setAll, List.map_cons, List.map_nil, truD, Bool.true_eq_false, Bool.false_eq_true, Option.bind_some, true_and, and_true, List.replicate, startR, List.cons_append, List.nil_append, Nat.sub_self, reduceIte, ↓reduceIte, isNon, LIM_eq, and_self, List.map_append, List.length_map, Int.toNat_natCast, Nat.zero_le, Nat.reduceLeDiff, Int.reduceNeg, Int.reduceLE, Int.reduceLT, Int.zero_add, ran1_int, ran2_int]
        · refine ⟨?_, (hi - (lo + hi) / 2).toNat, [.d (.int n), .d (.int ((lo + hi) / 2)), .d (.int hi), .d (.int ((lo + hi) / 2))], g', by omega, .inl ?_, rfl, (lo + hi) / 2, hi, _, by omega, by omega, by omega, by omega, k5, rfl, rfl⟩
          · simp (disch := omega) only [W_root_4, hc, eV_ap, eC_ap, eBin_ap, eNeg_ap, tVal_ap, eIsN_ap, eNotN_ap, eChain_ap, tAndF_ap, tOrF_ap, tNotF_ap, tTru_ap, eAnd_ap, eOr_ap, eNot_ap, eIf_ap, aNil_ap, aCons_ap, eTup_ap, eLst_ap, oNone_ap, oSome_ap, eSl_ap, eCall_ap, iLst_ap, iTpl_ap, iRan2_apN, eOf_ap, oLst_ap, oCat_ap, oRep_ap, oSl_ap, oList_ap, oComp_ap, tYesF_ap, sNil_ap, sSeq_th, sBrk_ap, sCnt_ap, sExpr_ap, sRet_ap, sRetN_ap, sIf_ap, sSet_ap, sSetO_ap, sAsg_ap, sPar_ap, sPar3_ap, sAug_ap, sApp_ap, sExt_ap, sSetIx_ap, sFrz_ap, eIxO_ap, eLenO_ap, eIxA_ap, eLenA_ap, vOf_ap, vCons_ap, vOwn_ap, sTup_ap, iSeq_ap, sRaise_ap, sTry_ap, eExF_ap, tIfF_ap, eRev_ap, eRevF_ap, th_nx, th_rt, th_bk, th_ct, th_exc, bind_ok, bind_exc, go_ok, go_exc, opAdd_int, opSub_int, opMul_a, opMul_b, opDiv_pos, opDiv_wide, opMod_pos, opI_int, opEq_int, opNe_int, opEq_bool, opNe_bool, atI_0, atI_1, atI_2, atI_3, opIx_list, opIx_tuple, iRan1_ap, bLen_list, bLen_tuple, bInt_int, bAbs_int, bName, bNil, bCons, bTup, List.getElem?_cons_zero, List.getElem?_cons_succ, List.set_cons_zero, List.set_cons_succ, List.length_cons, List.length_nil, noTok, if_true, if_false, decide_true, decide_false, Bool.not_true, Bool.not_false, setAll, List.map_cons, List.map_nil, truD, Bool.true_eq_false, Bool.false_eq_true, Option.bind_some, true_and, and_true, List.replicate, startR, List.cons_append, List.nil_append, Nat.sub_self, reduceIte, ↓reduceIte, isNon, LIM_eq, and_self, List.map_append, List.length_map, Int.toNat_natCast, Nat.zero_le, Nat.reduceLeDiff, Int.reduceNeg, Int.reduceLE, Int.reduceLT, Int.zero_add, ran1_int, ran2_int]
          · simp (disch := omega) only [B_root_4, S_root_5, S_root_6, S_root_7, S_root_8, hd, eV_ap, eC_ap, eBin_ap, eNeg_ap, tVal_ap, eIsN_ap, eNotN_ap, eChain_ap, tAndF_ap, tOrF_ap, tNotF_ap, tTru_ap, eAnd_ap, eOr_ap, eNot_ap, eIf_ap, aNil_ap, aCons_ap, eTup_ap, eLst_ap, oNone_ap, oSome_ap, eSl_ap, eCall_ap, iLst_ap, iTpl_ap, iRan2_apN, eOf_ap, oLst_ap, oCat_ap, oRep_ap, oSl_ap, oList_ap, oComp_ap, tYesF_ap, sNil_ap, sSeq_th, sBrk_ap, sCnt_ap, sExpr_ap, sRet_ap, sRetN_ap, sIf_ap, sSet_ap, sSetO_ap, sAsg_ap, sPar_ap, sPar3_ap, sAug_ap, sApp_ap, sExt_ap, sSetIx_ap, sFrz_ap, eIxO_ap, eLenO_ap, eIxA_ap, eLenA_ap, vOf_ap, vCons_ap, vOwn_ap, sTup_ap, iSeq_ap, sRaise_ap, sTry_ap, eExF_ap, tIfF_ap, eRev_ap, eRevF_ap, th_nx, th_rt, th_bk, th_ct, th_exc, bind_ok, bind_exc, go_ok, go_exc, opAdd_int, opSub_int, opMul_a, opMul_b, opDiv_pos, opDiv_wide, opMod_pos, opI_int, opEq_int, opNe_int, opEq_bool, opNe_bool, atI_0, atI_1, atI_2, atI_3, opIx_list, opIx_tuple, iRan1_ap, bLen_list, bLen_tuple, bInt_int, bAbs_int, bName, bNil, bCons, bTup, List.getElem?_cons_zero, List.getElem?_cons_succ, List.set_cons_zero, List.set_cons_succ, List.length_cons, List.length_nil, noTok, if_true, if_false, decide_true, decide_false, Bool.not_true, Bool.not_false, setAll, List.map_cons, List.map_nil, truD, Bool.true_eq_false, Bool.false_eq_true, Option.bind_some, true_and, and_true, List.replicate, startR, List.cons_append, List.nil_append, Nat.sub_self, reduceIte, ↓reduceIte, isNon, LIM_eq, and_self, List.map_append, List.length_map, Int.toNat_natCast, Nat.zero_le, Nat.reduceLeDiff, Int.reduceNeg, Int.reduceLE, Int.reduceLT, Int.zero_add, ran1_int, ran2_int]
      · left
        have eh : hi = lo + 1 := by omega
        subst eh
        have er : lo = r := root_uniq h0 h1 h2 k1 k4 k5
        subst er
        refine ⟨?_, rfl, x, rfl⟩
        simp (disch := omega) only [W_root_4, hc, eV_ap, eC_ap, eBin_ap, eNeg_ap, tVal_ap, eIsN_ap, eNotN_ap, eChain_ap, tAndF_ap, tOrF_ap, tNotF_ap, tTru_ap, eAnd_ap, eOr_ap, eNot_ap, eIf_ap, aNil_ap, aCons_ap, eTup_ap, eLst_ap, oNone_ap, oSome_ap, eSl_ap, eCall_ap, iLst_ap, iTpl_ap, iRan2_apN, eOf_ap, oLst_ap, oCat_ap, oRep_ap, oSl_ap, oList_ap, oComp_ap, tYesF_ap, sNil_ap, sSeq_th, sBrk_ap, sCnt_ap, sExpr_ap, sRet_ap, sRetN_ap, sIf_ap, sSet_ap, sSetO_ap, sAsg_ap, sPar_ap, sPar3_ap, sAug_ap, sApp_ap, sExt_ap, sSetIx_ap, sFrz_ap, eIxO_ap, eLenO_ap, eIxA_ap, eLenA_ap, vOf_ap, vCons_ap, vOwn_ap, sTup_ap, iSeq_ap, sRaise_ap, sTry_ap, eExF_ap, tIfF_ap, eRev_ap, eRevF_ap, th_nx, th_rt, th_bk, th_ct, th_exc, bind_ok, bind_exc, go_ok, go_exc, opAdd_int, opSub_int, opMul_a, opMul_b, opDiv_pos, opDiv_wide, opMod_pos, opI_int, opEq_int, opNe_int, opEq_bool, opNe_bool, atI_0, atI_1, atI_2, atI_3, opIx_list, opIx_tuple, iRan1_ap, bLen_list, bLen_tuple, bInt_int, bAbs_int, bName, bNil, bCons, bTup, List.getElem?_cons_zero, List.getElem?_cons_succ, List.set_cons_zero, List.set_cons_succ, List.length_cons, List.length_nil, noTok, if_true, if_false, decide_true, decide_false, Bool.not_true, Bool.not_false, setAll, List.map_cons, List.map_nil, truD, Bool.true_eq_false, Bool.false_eq_true, Option.bind_some, true_and, and_true, List.replicate, startR, List.cons_append, List.nil_append, Nat.sub_self, reduceIte, ↓reduceIte, isNon, LIM_eq, and_self, List.map_append, List.length_map, Int.toNat_natCast, Nat.zero_le, Nat.reduceLeDiff, Int.reduceNeg, Int.reduceLE, Int.reduceLT, Int.zero_add, ran1_int, ran2_int])
  refine seq_nx (show S_root_4 _ _ = _ from hw2) ?_
  simp (disch := omega) only [S_root_9, eV_ap, eC_ap, eBin_ap, eNeg_ap, tVal_ap, eIsN_ap, eNotN_ap, eChain_ap, tAndF_ap, tOrF_ap, tNotF_ap, tTru_ap, eAnd_ap, eOr_ap, eNot_ap, eIf_ap, aNil_ap, aCons_ap, eTup_ap, eLst_ap, oNone_ap, oSome_ap, eSl_ap, eCall_ap, iLst_ap, iTpl_ap, iRan2_apN, eOf_ap, oLst_ap, oCat_ap, oRep_ap, oSl_ap, oList_ap, oComp_ap, tYesF_ap, sNil_ap, sSeq_th, sBrk_ap, sCnt_ap, sExpr_ap, sRet_ap, sRetN_ap, sIf_ap, sSet_ap, sSetO_ap, sAsg_ap, sPar_ap, sPar3_ap, sAug_ap, sApp_ap, sExt_ap, sSetIx_ap, sFrz_ap, eIxO_ap, eLenO_ap, eIxA_ap, eLenA_ap, vOf_ap, vCons_ap, vOwn_ap, sTup_ap, iSeq_ap, sRaise_ap, sTry_ap, eExF_ap, tIfF_ap, eRev_ap, eRevF_ap, th_nx, th_rt, th_bk, th_ct, th_exc, bind_ok, bind_exc, go_ok, go_exc, opAdd_int, opSub_int, opMul_a, opMul_b, opDiv_pos, opDiv_wide, opMod_pos, opI_int, opEq_int, opNe_int, opEq_bool, opNe_bool, atI_0, atI_1, atI_2, atI_3, opIx_list, opIx_tuple, iRan1_ap, bLen_list, bLen_tuple, bInt_int, bAbs_int, bName, bNil, bCons, bTup, List.getElem?_cons_zero, List.getElem?_cons_succ, List.set_cons_zero, List.set_cons_succ, List.length_cons, List.length_nil, noTok, if_true, if_false, decide_true, decide_false, Bool.not_true, Bool.not_false, setAll, List.map_cons, List.map_nil, truD, Bool.true_eq_false, Bool.false_eq_true, Option.bind_some, true_and, and_true, List.replicate, startR, List.cons_append, List.nil_append, Nat.sub_self, reduceIte, ↓reduceIte, isNon, LIM_eq, and_self, List.map_append, List.length_map, Int.toNat_natCast, Nat.zero_le, Nat.reduceLeDiff, Int.reduceNeg, Int.reduceLE, Int.reduceLT, Int.zero_add, ran1_int, ran2_int]
end K45
namespace K45
open PySem
open PySem.Spec
open PyProof.Rows
open L2
open DL
def chn (a b : Int) : List Int := if h : 0 < b then (a / b) :: chn b (a % b) else []
termination_by b.toNat
decreasing_by
  have := Int.emod_lt_of_pos a h
  have := Int.emod_nonneg a (show b ≠ 0 by omega)
  omega
def dvs (a b : Int) : Int := if h : 0 < b then dvs b (a % b) else (if a < 0 then -a else a)
termination_by b.toNat
decreasing_by
  have := Int.emod_lt_of_pos a h
  have := Int.emod_nonneg a (show b ≠ 0 by omega)
  omega
theorem chn_pos {a b : Int} (h : 0 < b) : chn a b = (a / b) :: chn b (a % b) := by rw [chn, dif_pos h]
theorem chn_zero {a : Int} : chn a 0 = [] := by rw [chn, dif_neg (by omega)]
theorem dvs_pos {a b : Int} (h : 0 < b) : dvs a b = dvs b (a % b) := by rw [dvs, dif_pos h]
theorem dvs_zero {a : Int} : dvs a 0 = if a < 0 then -a else a := by rw [dvs, dif_neg (by omega)]
theorem rem_nn {a b : Int} (h : 0 < b) : 0 ≤ a % b ∧ a % b < b ∧ b * (a / b) + a % b = a := ⟨Int.emod_nonneg a (by omega), Int.emod_lt_of_pos a h, Int.mul_ediv_add_emod a b⟩
theorem chn_len : ∀ (k : Nat) (a b : Int), 0 ≤ b → b < 2 ^ k → (chn a b).length ≤ 2 * k
  | 0, a, b, h0, h1 => by
    have : b = 0 := by simp at h1; omega
    subst this
    rw [chn_zero]
    simp
  | k + 1, a, b, h0, h1 => by
    by_cases hb : 0 < b
    · obtain ⟨r0, r1, r2⟩ := rem_nn (a := a) hb
      rw [chn_pos hb]
      by_cases hr : 0 < a % b
      · obtain ⟨s0, s1, s2⟩ := rem_nn (a := b) hr
        rw [chn_pos hr]
        have hs : b % (a % b) < 2 ^ k := by
          rw [Int.pow_succ] at h1
          have hq : 1 ≤ b / (a % b) := by
            have := (Int.le_ediv_iff_mul_le (a := 1) (b := b) (c := a % b) hr).mpr (by omega)
            exact this
          have hm : a % b * 1 ≤ a % b * (b / (a % b)) := Int.mul_le_mul_of_nonneg_left hq (by omega)
          omega
        have := chn_len k (a % b) (b % (a % b)) s0 hs
        simp only [List.length_cons]
        omega
      · have : a % b = 0 := by omega
        rw [this, chn_zero]
        simp only [List.length_cons, List.length_nil]
        omega
    · have : b = 0 := by omega
      subst this
      rw [chn_zero]
      simp
def partOf : List Int → Int × Int
  | [] => (1, 0)
  | x :: r => (x * (partOf r).1 + (partOf r).2, (partOf r).1)
theorem dvs_gt (a b : Int) (hb : 0 ≤ b) (h : 0 < b ∨ 0 < a) : 0 < dvs a b := by
  by_cases h0 : 0 < b
  · obtain ⟨r0, r1, r2⟩ := rem_nn (a := a) h0
    rw [dvs_pos h0]
    exact dvs_gt b (a % b) r0 (.inr h0)
  · have : b = 0 := by omega
    subst this
    rw [dvs_zero, if_neg (by omega)]
    omega
termination_by b.toNat
decreasing_by omega
theorem chn_part (a b : Int) (hb : 0 ≤ b) (h : 0 < b ∨ 0 ≤ a) : (partOf (chn a b)).1 * dvs a b = a ∧ (partOf (chn a b)).2 * dvs a b = b := by
  by_cases h0 : 0 < b
  · obtain ⟨r0, r1, r2⟩ := rem_nn (a := a) h0
    obtain ⟨i1, i2⟩ := chn_part b (a % b) r0 (.inr (by omega))
    rw [dvs_pos h0, chn_pos h0]
    refine ⟨?_, i1⟩
    show (a / b * (partOf (chn b (a % b))).1 + (partOf (chn b (a % b))).2) * dvs b (a % b) = a
    rw [Int.add_mul, i2, Int.mul_assoc, i1, Int.mul_comm]
    exact r2
  · have : b = 0 := by omega
    subst this
    rw [chn_zero, dvs_zero, if_neg (by omega)]
    exact ⟨Int.one_mul a, Int.zero_mul a⟩
termination_by b.toNat
decreasing_by omega
theorem chn_ge (a b : Int) (h : 0 < b) : (∀ x ∈ chn b (a % b), 1 ≤ x) ∧ (∀ x, (chn b (a % b)).getLast? = some x → 2 ≤ x) := by
  obtain ⟨r0, r1, r2⟩ := rem_nn (a := a) h
  by_cases hr : 0 < a % b
  · obtain ⟨s0, s1, s2⟩ := rem_nn (a := b) hr
    obtain ⟨i1, i2⟩ := chn_ge b (a % b) hr
    have hq : 1 ≤ b / (a % b) := (Int.le_ediv_iff_mul_le (a := 1) (b := b) (c := a % b) hr).mpr (by omega)
    rw [chn_pos hr]
    refine ⟨fun x hx => ?_, fun x hx => ?_⟩
    · rcases List.mem_cons.mp hx with rfl | hx
      · exact hq
      · exact i1 x hx
    · by_cases hs : 0 < b % (a % b)
      · rw [chn_pos hs] at hx i2
        rw [List.getLast?_cons_cons] at hx
        exact i2 x hx
      · have e : b % (a % b) = 0 := by omega
        rw [e, chn_zero] at hx
        have hx : b / (a % b) = x := Option.some.inj hx
        subst hx
        rw [e] at s2
        by_cases h1 : b / (a % b) = 1
        · rw [h1] at s2
          omega
        · omega
  · have e : a % b = 0 := by omega
    rw [e, chn_zero]
    exact ⟨fun x hx => (by cases hx), fun x hx => (by cases hx)⟩
termination_by b.toNat
decreasing_by omega
def along : Int × Int → Int × Int → List Int → List (Int × Int)
  | _, _, [] => []
  | l, n, x :: r => (x * n.1 + l.1, x * n.2 + l.2) :: along n (x * n.1 + l.1, x * n.2 + l.2) r
theorem along_len : ∀ (w : List Int) (l n : Int × Int), (along l n w).length = w.length
  | [], _, _ => rfl
  | x :: r, l, n => by
    show (along n _ r).length + 1 = r.length + 1
    rw [along_len r]
theorem along_get : ∀ (w : List Int) (l n : Int × Int) (k : Nat), k < w.length → (along l n w)[k]? = some (n.1 * (partOf (w.take (k + 1))).1 + l.1 * (partOf (w.take (k + 1))).2, n.2 * (partOf (w.take (k + 1))).1 + l.2 * (partOf (w.take (k + 1))).2)
  | [], _, _, _, h => absurd h (Nat.not_lt_zero _)
  | x :: r, l, n, 0, _ => by
    simp only [along, List.getElem?_cons_zero, List.take_succ_cons, List.take_zero, partOf]
    congr 1
    ext <;> grind
  | x :: r, l, n, k + 1, h => by
    simp only [along, List.getElem?_cons_succ, List.take_succ_cons, partOf]
    rw [along_get r _ _ k (by simpa using h)]
    congr 1
    ext <;> grind
theorem along_part (w : List Int) (k : Nat) (h : k < w.length) : (along (0, 1) (1, 0) w)[k]? = some (partOf (w.take (k + 1))) := by
  rw [along_get w _ _ k h]
  congr 1
  ext <;> simp
theorem along_det : ∀ (w : List Int) (l n : Int × Int) (δ : Int), n.1 * l.2 - l.1 * n.2 = δ → ∀ (k : Nat) (p q : Int × Int), (n :: along l n w)[k]? = some p → (along l n w)[k]? = some q → q.1 * p.2 - p.1 * q.2 = if k % 2 = 1 then δ else -δ
  | [], _, _, _, _, _, _, _, _, h => by simp [along] at h
  | x :: r, l, n, δ, h, 0, p, q, h1, h2 => by
    simp only [along, List.getElem?_cons_zero, Option.some.injEq] at h1 h2
    subst h1 h2
    simp only [Nat.zero_mod, if_neg (show ¬ (0 : Nat) = 1 by decide)]
    grind
  | x :: r, l, n, δ, h, k + 1, p, q, h1, h2 => by
    simp only [along, List.getElem?_cons_succ] at h1 h2
    have ih := along_det r n (x * n.1 + l.1, x * n.2 + l.2) (-δ) (by simp only; grind) k p q h1 h2
    rw [ih]
    by_cases hk : k % 2 = 1
    · rw [if_pos hk, if_neg (by omega)]
    · rw [if_neg hk, if_pos (by omega), Int.neg_neg]
theorem along_side (a b : Int) : ∀ (c d : Int), 0 ≤ d → ∀ (l n : Int × Int) (ε : Int), (ε = 1 ∨ ε = -1) → n.1 * b - a * n.2 = ε * d → l.1 * b - a * l.2 = -(ε * c) → ∀ (k : Nat) (q : Int × Int), (along l n (chn c d))[k]? = some q →
    (k + 1 = (chn c d).length → q.1 * b - a * q.2 = 0) ∧ (k + 1 < (chn c d).length → if k % 2 = 0 then ε * (q.1 * b - a * q.2) < 0 else 0 < ε * (q.1 * b - a * q.2)) := by
  intro c d hd l n ε he hn hl k q hq
  by_cases h0 : 0 < d
  · obtain ⟨r0, r1, r2⟩ := rem_nn (a := c) h0
    rw [chn_pos h0] at hq ⊢
    have hs : (c / d * n.1 + l.1) * b - a * (c / d * n.2 + l.2) = -(ε * (c % d)) := by
      have e1 : (c / d * n.1 + l.1) * b - a * (c / d * n.2 + l.2) = c / d * (n.1 * b - a * n.2) + (l.1 * b - a * l.2) := by grind
      rw [e1, hn, hl]
      have e2 : c = d * (c / d) + c % d := r2.symm
      generalize c / d = x at *
      generalize c % d = y at *
      subst e2
      grind
    cases k with
    | zero =>
      simp only [along, List.getElem?_cons_zero, Option.some.injEq] at hq
      subst hq
      simp only [hs]
      refine ⟨fun hk => ?_, fun hk => ?_⟩
      · by_cases hr : 0 < c % d
        · rw [chn_pos hr] at hk
          simp at hk
        · rw [show c % d = 0 by omega]
          simp
      · by_cases hr : 0 < c % d
        · simp only [if_true]
          rcases he with rfl | rfl <;> omega
        · rw [show c % d = 0 by omega, chn_zero] at hk
          simp at hk
    | succ k =>
      simp only [along, List.getElem?_cons_succ] at hq
      have ih := along_side a b d (c % d) r0 n (c / d * n.1 + l.1, c / d * n.2 + l.2) (-ε) (by omega) (by simp only; rw [hs]; grind) (by rw [hn]; grind) k q hq
      refine ⟨fun hk => ih.1 (by simpa using hk), fun hk => ?_⟩
      have i2 := ih.2 (by simpa using hk)
      by_cases hk2 : k % 2 = 0
      · rw [if_pos hk2] at i2
        rw [if_neg (by omega)]
        rw [Int.neg_mul] at i2
        omega
      · rw [if_neg hk2] at i2
        rw [if_pos (by omega)]
        rw [Int.neg_mul] at i2
        omega
  · have : d = 0 := by omega
    subst this
    rw [chn_zero] at hq
    simp [along] at hq
termination_by _ d => d.toNat
decreasing_by omega
theorem part_pos : ∀ (w : List Int), (∀ x ∈ w, 1 ≤ x) → 0 < (partOf w).1 ∧ 0 ≤ (partOf w).2 ∧ (w ≠ [] → 0 < (partOf w).2)
  | [], _ => ⟨by decide, by decide, fun h => absurd rfl h⟩
  | x :: r, h => by
    obtain ⟨i1, i2, i3⟩ := part_pos r fun y hy => h y (List.mem_cons_of_mem _ hy)
    have hx := h x List.mem_cons_self
    simp only [partOf]
    have : 1 * (partOf r).1 ≤ x * (partOf r).1 := Int.mul_le_mul_of_nonneg_right hx (by omega)
    exact ⟨by omega, by omega, fun _ => i1⟩
theorem part_lt : ∀ (w : List Int), (∀ x ∈ w, 1 ≤ x) → (∀ x, w.getLast? = some x → 2 ≤ x) → (partOf w).2 < (partOf w).1
  | [], _, _ => by decide
  | [x], h, h2 => by
    have := h2 x rfl
    simp only [partOf]
    omega
  | x :: y :: r, h, h2 => by
    obtain ⟨i1, i2, i3⟩ := part_pos (y :: r) fun z hz => h z (List.mem_cons_of_mem _ hz)
    have hx := h x List.mem_cons_self
    rw [partOf]
    have : 1 * (partOf (y :: r)).1 ≤ x * (partOf (y :: r)).1 := Int.mul_le_mul_of_nonneg_right hx (by omega)
    have := i3 (by simp)
    simp only
    omega
theorem chn_back : ∀ (w : List Int) (x : Int), (∀ y ∈ w, 1 ≤ y) → (∀ y, w.getLast? = some y → 2 ≤ y) → chn (partOf (x :: w)).1 (partOf (x :: w)).2 = x :: w
  | [], x, _, _ => by
    simp only [partOf]
    rw [chn_pos (by decide), Int.mul_one, Int.add_zero, Int.ediv_one, Int.emod_one, chn_zero]
  | y :: r, x, h, h2 => by
    have ih := chn_back r y (fun z hz => h z (List.mem_cons_of_mem _ hz)) (fun z hz => by
      cases r with
      | nil => cases hz
      | cons u v => exact h2 z (by rw [List.getLast?_cons_cons]; exact hz))
    obtain ⟨i1, i2, i3⟩ := part_pos (y :: r) h
    have lt := part_lt (y :: r) h h2
    rw [partOf]
    simp only
    generalize hp : partOf (y :: r) = p at *
    have e1 : (x * p.1 + p.2) / p.1 = x := by
      rw [Int.add_comm, Int.add_mul_ediv_right _ _ (by omega), Int.ediv_eq_zero_of_lt i2 lt]
      omega
    have e2 : (x * p.1 + p.2) % p.1 = p.2 := by
      rw [Int.add_comm, Int.add_mul_emod_self_right, Int.emod_eq_of_lt i2 lt]
    rw [chn_pos i1, e1, e2, ih]
theorem part_one : ∀ (pre : List Int) (y : Int), partOf (pre ++ [y, 1]) = partOf (pre ++ [y + 1])
  | [], y => by simp only [List.nil_append, partOf]; ext <;> simp <;> omega
  | x :: pre, y => by
    simp only [List.cons_append, partOf]
    rw [part_one pre y]
theorem part_abs : ∀ (w : List Int), (∀ x ∈ w, x.natAbs < 2 ^ 62) → (partOf w).1.natAbs < 2 ^ (63 * w.length + 1) ∧ (partOf w).2.natAbs < 2 ^ (63 * w.length + 1)
  | [], _ => by decide
  | x :: r, h => by
    obtain ⟨i1, i2⟩ := part_abs r fun y hy => h y (List.mem_cons_of_mem _ hy)
    have hx := h x List.mem_cons_self
    have e : 63 * (x :: r).length + 1 = (63 * r.length + 1) + 63 := by rw [List.length_cons]; omega
    rw [e, Nat.pow_add]
    generalize 2 ^ (63 * r.length + 1) = B at *
    simp only [partOf]
    have h1 : (x * (partOf r).1 + (partOf r).2).natAbs ≤ (x * (partOf r).1).natAbs + (partOf r).2.natAbs := Int.natAbs_add_le _ _
    have h2 : (x * (partOf r).1).natAbs = x.natAbs * (partOf r).1.natAbs := Int.natAbs_mul _ _
    have h3 : x.natAbs * (partOf r).1.natAbs ≤ 2 ^ 62 * B := Nat.mul_le_mul (by omega) (by omega)
    have e62 : (2 : Nat) ^ 62 = 4611686018427387904 := by decide
    have e63 : (2 : Nat) ^ 63 = 9223372036854775808 := by decide
    rw [e62] at h3
    rw [e63]
    refine ⟨?_, ?_⟩ <;> omega
end K45
namespace K45
open PySem
open PySem.Spec
open PyProof.Rows
open L2
open DL
theorem m__law_root_eq {n r : Int} {g : G} (hn : n < 4611686018427387904) (h0 : 0 ≤ r) (h1 : r * r ≤ n) (h2 : n < (r + 1) * (r + 1)) : m__law_root [.int n] g = .ok (.int r) g := by
  have n0 : 0 ≤ n := by
    have := Int.mul_nonneg h0 h0
    omega
  refine m_rt (np := 1) rfl ?_
  refine seq_nx (ρ1 := [.d (.int n), .d (.int 0), .d (.int 1), .un]) (g1 := g) ?_ ?_
  · simp (disch := omega) only [S__law_root_1, eV_ap, eC_ap, eBin_ap, eNeg_ap, tVal_ap, eIsN_ap, eNotN_ap, eChain_ap, tAndF_ap, tOrF_ap, tNotF_ap, tTru_ap, eAnd_ap, eOr_ap, eNot_ap, eIf_ap, aNil_ap, aCons_ap, eTup_ap, eLst_ap, oNone_ap, oSome_ap, eSl_ap, eCall_ap, iLst_ap, iTpl_ap, iRan2_apN, eOf_ap, oLst_ap, oCat_ap, oRep_ap, oSl_ap, oList_ap, oComp_ap, tYesF_ap, sNil_ap, sSeq_th, sBrk_ap, sCnt_ap, sExpr_ap, sRet_ap, sRetN_ap, sIf_ap, sSet_ap, sSetO_ap, sAsg_ap, sPar_ap, sPar3_ap, sAug_ap, sApp_ap, sExt_ap, sSetIx_ap, sFrz_ap, eIxO_ap, eLenO_ap, eIxA_ap, eLenA_ap, vOf_ap, vCons_ap, vOwn_ap, sTup_ap, iSeq_ap, sRaise_ap, sTry_ap, eExF_ap, tIfF_ap, eRev_ap, eRevF_ap, th_nx, th_rt, th_bk, th_ct, th_exc, bind_ok, bind_exc, go_ok, go_exc, opAdd_int, opSub_int, opMul_a, opMul_b, opDiv_pos, opDiv_wide, opMod_pos, opI_int, opEq_int, opNe_int, opEq_bool, opNe_bool, atI_0, atI_1, atI_2, atI_3, opIx_list, opIx_tuple, iRan1_ap, bLen_list, bLen_tuple, bInt_int, bAbs_int, bName, bNil, bCons, bTup, List.getElem?_cons_zero, List.getElem?_cons_succ, List.set_cons_zero, List.set_cons_succ, List.length_cons, List.length_nil, noTok, if_true, if_false, decide_true, decide_false, Bool.not_true, Bool.not_false, setAll, List.map_cons, List.map_nil, truD, Bool.true_eq_false, Bool.false_eq_true, Option.bind_some, true_and, and_true, List.replicate, startR, List.cons_append, List.nil_append, Nat.sub_self, reduceIte, ↓reduceIte, isNon, LIM_eq, and_self, List.map_append, List.length_map, Int.toNat_natCast, Nat.zero_le, Nat.reduceLeDiff, Int.reduceNeg, Int.reduceLE, Int.reduceLT, Int.zero_add, ran1_int, ran2_int]
  obtain ⟨ρ1, g1, ⟨rfl, high, e1, e2, e3, rfl⟩, hw⟩ := sWhile_run (t := W__law_root_2) (f := B__law_root_2) (N := 1000000000000000000000000000000) (g := g)
    (fun m ρ g' => g' = g ∧ ∃ high : Int, 1 ≤ high ∧ high ≤ 4294967296 ∧ m = (8589934592 - high).toNat ∧ ρ = [.d (.int n), .d (.int 0), .d (.int high), .un])
    (fun ρ g' => g' = g ∧ ∃ high : Int, 1 ≤ high ∧ high ≤ 4294967296 ∧ n < high * high ∧ ρ = [.d (.int n), .d (.int 0), .d (.int high), .un]) (m := 8589934591) ⟨rfl, 1, by omega, by omega, by omega, rfl⟩ (by decide) (by
      rintro m ρ g' ⟨rfl, high, k1, k2, rfl, rfl⟩
      by_cases hc : high * high ≤ n
      · right
        have hh : high < 2147483648 := sq_lt (by omega) (by omega)
        refine ⟨?_, (8589934592 - high * 2).toNat, [.d (.int n), .d (.int 0), .d (.int (high * 2)), .un], g', by omega, .inl ?_, rfl, high * 2, by omega, by omega, rfl, rfl⟩
        · simp (disch := omega) only [W__law_root_2, hc, eV_ap, eC_ap, eBin_ap, eNeg_ap, tVal_ap, eIsN_ap, eNotN_ap, eChain_ap, tAndF_ap, tOrF_ap, tNotF_ap, tTru_ap, eAnd_ap, eOr_ap, eNot_ap, eIf_ap, aNil_ap, aCons_ap, eTup_ap, eLst_ap, oNone_ap, oSome_ap, eSl_ap, eCall_ap, iLst_ap, iTpl_ap, iRan2_apN, eOf_ap, oLst_ap, oCat_ap, oRep_ap, oSl_ap, oList_ap, oComp_ap, tYesF_ap, sNil_ap, sSeq_th, sBrk_ap, sCnt_ap, sExpr_ap, sRet_ap, sRetN_ap, sIf_ap, sSet_ap, sSetO_ap, sAsg_ap, sPar_ap, sPar3_ap, sAug_ap, sApp_ap, sExt_ap, sSetIx_ap, sFrz_ap, eIxO_ap, eLenO_ap, eIxA_ap, eLenA_ap, vOf_ap, vCons_ap, vOwn_ap, sTup_ap, iSeq_ap, sRaise_ap, sTry_ap, eExF_ap, tIfF_ap, eRev_ap, eRevF_ap, th_nx, th_rt, th_bk, th_ct, th_exc, bind_ok, bind_exc, go_ok, go_exc, opAdd_int, opSub_int, opMul_a, opMul_b, opDiv_pos, opDiv_wide, opMod_pos, opI_int, opEq_int, opNe_int, opEq_bool, opNe_bool, atI_0, atI_1, atI_2, atI_3, opIx_list, opIx_tuple, iRan1_ap, bLen_list, bLen_tuple, bInt_int, bAbs_int, bName, bNil, bCons, bTup, List.getElem?_cons_zero, List.getElem?_cons_succ, List.set_cons_zero, List.set_cons_succ, List.length_cons, List.length_nil, noTok, if_true, if_false, decide_true, decide_false, Bool.not_true, Bool.not_false, setAll, List.map_cons, List.map_nil, truD, Bool.true_eq_false, Bool.false_eq_true, Option.bind_some, true_and, and_true, List.replicate, startR, List.cons_append, List.nil_append, Nat.sub_self, reduceIte, ↓reduceIte, isNon, LIM_eq, and_self, List.map_append, List.length_map, Int.toNat_natCast, Nat.zero_le, Nat.reduceLeDiff, Int.reduceNeg, Int.reduceLE, Int.reduceLT, Int.zero_add, ran1_int, ran2_int]
        · simp (disch := omega) only [B__law_root_2, S__law_root_3, eV_ap, eC_ap, eBin_ap, eNeg_ap, tVal_ap, eIsN_ap, eNotN_ap, eChain_ap, tAndF_ap, tOrF_ap, tNotF_ap, tTru_ap, eAnd_ap, eOr_ap, eNot_ap, eIf_ap, aNil_ap, aCons_ap, eTup_ap, eLst_ap, oNone_ap, oSome_ap, eSl_ap, eCall_ap, iLst_ap, iTpl_ap, iRan2_apN, eOf_ap, oLst_ap, oCat_ap, oRep_ap, oSl_ap, oList_ap, oComp_ap, tYesF_ap, sNil_ap, sSeq_th, sBrk_ap, sCnt_ap, sExpr_ap, sRet_ap, sRetN_ap, sIf_ap, sSet_ap, sSetO_ap, sAsg_ap, sPar_ap, sPar3_ap, sAug_ap, sApp_ap, sExt_ap, sSetIx_ap, sFrz_ap, eIxO_ap, eLenO_ap, eIxA_ap, eLenA_ap, vOf_ap, vCons_ap, vOwn_ap, sTup_ap, iSeq_ap, sRaise_ap, sTry_ap, eExF_ap, tIfF_ap, eRev_ap, eRevF_ap, th_nx, th_rt, th_bk, th_ct, th_exc, bind_ok, bind_exc, go_ok, go_exc, opAdd_int, opSub_int, opMul_a, opMul_b, opDiv_pos, opDiv_wide, opMod_pos, opI_int, opEq_int, opNe_int, opEq_bool, opNe_bool, atI_0, atI_1, atI_2, atI_3, opIx_list, opIx_tuple, iRan1_ap, bLen_list, bLen_tuple, bInt_int, bAbs_int, bName, bNil, bCons, bTup, List.getElem?_cons_zero, List.getElem?_cons_succ, List.set_cons_zero, List.set_cons_succ, List.length_cons, List.length_nil, noTok, if_true, if_false, decide_true, decide_false, Bool.not_true, Bool.not_false, setAll, List.map_cons, List.map_nil, truD, Bool.true_eq_false, Bool.false_eq_true, Option.bind_some, true_and, and_true, List.replicate, startR, List.cons_append, List.nil_append, Nat.sub_self, reduceIte, ↓reduceIte, isNon, LIM_eq, and_self, List.map_append, List.length_map, Int.toNat_natCast, Nat.zero_le, Nat.reduceLeDiff, Int.reduceNeg, Int.reduceLE, Int.reduceLT, Int.zero_add, ran1_int, ran2_int]
      · left
        refine ⟨?_, rfl, high, k1, k2, by omega, rfl⟩
        simp (disch := omega) only [W__law_root_2, hc, eV_ap, eC_ap, eBin_ap, eNeg_ap, tVal_ap, eIsN_ap, eNotN_ap, eChain_ap, tAndF_ap, tOrF_ap, tNotF_ap, tTru_ap, eAnd_ap, eOr_ap, eNot_ap, eIf_ap, aNil_ap, aCons_ap, eTup_ap, eLst_ap, oNone_ap, oSome_ap, eSl_ap, eCall_ap, iLst_ap, iTpl_ap, iRan2_apN, eOf_ap, oLst_ap, oCat_ap, oRep_ap, oSl_ap, oList_ap, oComp_ap, tYesF_ap, sNil_ap, sSeq_th, sBrk_ap, sCnt_ap, sExpr_ap, sRet_ap, sRetN_ap, sIf_ap, sSet_ap, sSetO_ap, sAsg_ap, sPar_ap, sPar3_ap, sAug_ap, sApp_ap, sExt_ap, sSetIx_ap, sFrz_ap, eIxO_ap, eLenO_ap, eIxA_ap, eLenA_ap, vOf_ap, vCons_ap, vOwn_ap, sTup_ap, iSeq_ap, sRaise_ap, sTry_ap, eExF_ap, tIfF_ap, eRev_ap, eRevF_ap, th_nx, th_rt, th_bk, th_ct, th_exc, bind_ok, bind_exc, go_ok, go_exc, opAdd_int, opSub_int, opMul_a, opMul_b, opDiv_pos, opDiv_wide, opMod_pos, opI_int, opEq_int, opNe_int, opEq_bool, opNe_bool, atI_0, atI_1, atI_2, atI_3, opIx_list, opIx_tuple, iRan1_ap, bLen_list, bLen_tuple, bInt_int, bAbs_int, bName, bNil, bCons, bTup, List.getElem?_cons_zero, List.getElem?_cons_succ, List.set_cons_zero, List.set_cons_succ, List.length_cons, List.length_nil, noTok, if_true, if_false, decide_true, decide_false, Bool.not_true, Bool.not_false, setAll, List.map_cons, List.map_nil, truD, Bool.true_eq_false, Bool.false_eq_true, Option.bind_some, true_and, and_true, List.replicate, startR, List.cons_append, List.nil_append, Nat.sub_self, reduceIte, ↓reduceIte, isNon, LIM_eq, and_self, List.map_append, List.length_map, Int.toNat_natCast, Nat.zero_le, Nat.reduceLeDiff, Int.reduceNeg, Int.reduceLE, Int.reduceLT, Int.zero_add, ran1_int, ran2_int])
  refine seq_nx (show S__law_root_2 _ _ = _ from hw) ?_
  obtain ⟨ρ2, g2, ⟨rfl, x, rfl⟩, hw2⟩ := sWhile_run (t := W__law_root_4) (f := B__law_root_4) (N := 1000000000000000000000000000000) (g := g1)
    (fun m ρ g' => g' = g1 ∧ ∃ (lo hi : Int) (x : SV), 0 ≤ lo ∧ lo < hi ∧ hi ≤ 4294967296 ∧ lo * lo ≤ n ∧ n < hi * hi ∧ m = (hi - lo).toNat ∧ ρ = [.d (.int n), .d (.int lo), .d (.int hi), x])
    (fun ρ g' => g' = g1 ∧ ∃ x : SV, ρ = [.d (.int n), .d (.int r), .d (.int (r + 1)), x]) (m := high.toNat) ⟨rfl, 0, high, .un, by omega, by omega, by omega, by omega, e3, by omega, rfl⟩ (by omega) (by
      rintro m ρ g' ⟨rfl, lo, hi, x, k1, k2, k3, k4, k5, rfl, rfl⟩
      by_cases hc : 1 < hi - lo
      · right
        have hm0 : lo < (lo + hi) / 2 := by omega
        have hm1 : (lo + hi) / 2 < hi := by omega
        by_cases hd : n < (lo + hi) / 2 * ((lo + hi) / 2)
        · refine ⟨?_, ((lo + hi) / 2 - lo).toNat, [.d (.int n), .d (.int lo), .d (.int ((lo + hi) / 2)), .d (.int ((lo + hi) / 2))], g', by omega, .inl ?_, rfl, lo, (lo + hi) / 2, _, by omega, by omega, by omega, k4, hd, rfl, rfl⟩
          · simp (disch := omega) only [W__law_root_4, hc, eV_ap, eC_ap, eBin_ap, eNeg_ap, tVal_ap, eIsN_ap, eNotN_ap, eChain_ap, tAndF_ap, tOrF_ap, tNotF_ap, tTru_ap, eAnd_ap, eOr_ap, eNot_ap, eIf_ap, aNil_ap, aCons_ap, eTup_ap, eLst_ap, oNone_ap, oSome_ap, eSl_ap, eCall_ap, iLst_ap, iTpl_ap, iRan2_apN, eOf_ap, oLst_ap, oCat_ap, oRep_ap, oSl_ap, oList_ap, oComp_ap, tYesF_ap, sNil_ap, sSeq_th, sBrk_ap, sCnt_ap, sExpr_ap, sRet_ap, sRetN_ap, sIf_ap, sSet_ap, sSetO_ap, sAsg_ap, sPar_ap, sPar3_ap, sAug_ap, sApp_ap, sExt_ap, sSetIx_ap, sFrz_ap, eIxO_ap, eLenO_ap, eIxA_ap, eLenA_ap, vOf_ap, vCons_ap, vOwn_ap, sTup_ap, iSeq_ap, sRaise_ap, sTry_ap, eExF_ap, tIfF_ap, eRev_ap, eRevF_ap, th_nx, th_rt, th_bk, th_ct, th_exc, bind_ok, bind_exc, go_ok, go_exc, opAdd_int, opSub_int, opMul_a, opMul_b, opDiv_pos, opDiv_wide, opMod_pos, opI_int, opEq_int, opNe_int, opEq_bool, opNe_bool, atI_0, atI_1, atI_2, atI_3, opIx_list, opIx_tuple, iRan1_ap, bLen_list, bLen_tuple, bInt_int, bAbs_int, bName, bNil, bCons, bTup, List.getElem?_cons_zero, List.getElem?_cons_succ, List.set_cons_zero, List.set_cons_succ, List.length_cons, List.length_nil, noTok, if_true, if_false, decide_true, decide_false, Bool.not_true, Bool.not_false, setAll, List.map_cons, List.map_nil, truD, Bool.true_eq_false, Bool.false_eq_true, Option.bind_some, true_and, and_true, List.replicate, startR, List.cons_append, List.nil_append, Nat.sub_self, reduceIte, ↓reduceIte, isNon, LIM_eq, and_self, List.map_append, List.length_map, Int.toNat_natCast, Nat.zero_le, Nat.reduceLeDiff, Int.reduceNeg, Int.reduceLE, Int.reduceLT, Int.zero_add, ran1_int, ran2_int]
          · simp (disch := omega) only [B__law_root_4, S__law_root_5, S__law_root_6, S__law_root_7, S__law_root_8, Int.not_le.mpr, Int.not_lt.mp, hd, eV_ap, eC_ap, eBin_ap, eNeg_ap, tVal_ap, eIsN_ap, eNotN_ap, eChain_ap, tAndF_ap, tOrF_ap, tNotF_ap, tTru_ap, eAnd_ap, eOr_ap, eNot_ap, eIf_ap, aNil_ap, aCons_ap, eTup_ap, eLst_ap, oNone_ap, oSome_ap, eSl_ap, eCall_ap, iLst_ap, iTpl_ap, iRan2_apN, eOf_ap, oLst_ap, oCat_ap, oRep_ap, oSl_ap, oList_ap, oComp_ap, tYesF_ap, sNil_ap, sSeq_th, sBrk_ap, sCnt_ap, sExpr_ap, sRet_ap, sRetN_ap, sIf_ap, sSet_ap, sSetO_ap, sAsg_ap, sPar_ap, sPar3_ap, sAug_ap, sApp_ap, sExt_ap, sSetIx_ap, sFrz_ap, eIxO_ap, eLenO_ap, eIxA_ap, eLenA_ap, vOf_ap, vCons_ap, vOwn_ap, sTup_ap, iSeq_ap, sRaise_ap, sTry_ap, eExF_ap, tIfF_ap, eRev_ap, eRevF_ap, th_nx, th_rt, th_bk, th_ct, th_exc, bind_ok, bind_exc, go_ok, go_exc, opAdd_int, opSub_int, opMul_a, opMul_b, opDiv_pos, opDiv_wide, opMod_pos, opI_int, opEq_int, opNe_int, opEq_bool, opNe_bool, atI_0, atI_1, atI_2, atI_3, opIx_list, opIx_tuple, iRan1_ap, bLen_list, bLen_tuple, bInt_int, bAbs_int, bName, bNil, bCons, bTup, List.getElem?_cons_zero, List.getElem?_cons_succ, List.set_cons_zero, List.set_cons_succ, List.length_cons, List.length_nil, noTok, if_true, if_false, decide_true, decide_false, Bool.not_true, Bool.not_false, setAll, List.map_cons, List.map_nil, truD, Bool.true_eq_false, Bool.false_eq_true, Option.bind_some, true_and, and_true, List.replicate, startR, List.cons_append, List.nil_append, Nat.sub_self, reduceIte, ↓reduceIte, isNon, LIM_eq, and_self, List.map_append, List.length_map, Int.toNat_natCast, Nat.zero_le, Nat.reduceLeDiff, Int.reduceNeg, Int.reduceLE, Int.reduceLT, Int.zero_add, ran1_int, ran2_int]
        · refine ⟨?_, (hi - (lo + hi) / 2).toNat, [.d (.int n), .d (.int ((lo + hi) / 2)), .d (.int hi), .d (.int ((lo + hi) / 2))], g', by omega, .inl ?_, rfl, (lo + hi) / 2, hi, _, by omega, by omega, by omega, by omega, k5, rfl, rfl⟩
          · simp (disch := omega) only [W__law_root_4, hc, eV_ap, eC_ap, eBin_ap, eNeg_ap, tVal_ap, eIsN_ap, eNotN_ap, eChain_ap, tAndF_ap, tOrF_ap, tNotF_ap, tTru_ap, eAnd_ap, eOr_ap, eNot_ap, eIf_ap, aNil_ap, aCons_ap, eTup_ap, eLst_ap, oNone_ap, oSome_ap, eSl_ap, eCall_ap, iLst_ap, iTpl_ap, iRan2_apN, eOf_ap, oLst_ap, oCat_ap, oRep_ap, oSl_ap, oList_ap, oComp_ap, tYesF_ap, sNil_ap, sSeq_th, sBrk_ap, sCnt_ap, sExpr_ap, sRet_ap, sRetN_ap, sIf_ap, sSet_ap, sSetO_ap, sAsg_ap, sPar_ap, sPar3_ap, sAug_ap, sApp_ap, sExt_ap, sSetIx_ap, sFrz_ap, eIxO_ap, eLenO_ap, eIxA_ap, eLenA_ap, vOf_ap, vCons_ap, vOwn_ap, sTup_ap, iSeq_ap, sRaise_ap, sTry_ap, eExF_ap, tIfF_ap, eRev_ap, eRevF_ap, th_nx, th_rt, th_bk, th_ct, th_exc, bind_ok, bind_exc, go_ok, go_exc, opAdd_int, opSub_int, opMul_a, opMul_b, opDiv_pos, opDiv_wide, opMod_pos, opI_int, opEq_int, opNe_int, opEq_bool, opNe_bool, atI_0, atI_1, atI_2, atI_3, opIx_list, opIx_tuple, iRan1_ap, bLen_list, bLen_tuple, bInt_int, bAbs_int, bName, bNil, bCons, bTup, List.getElem?_cons_zero, List.getElem?_cons_succ, List.set_cons_zero, List.set_cons_succ, List.length_cons, List.length_nil, noTok, if_true, if_false, decide_true, decide_false, Bool.not_true, Bool.not_false, setAll, List.map_cons, List.map_nil, truD, Bool.true_eq_false, Bool.false_eq_true, Option.bind_some, true_and, and_true, List.replicate, startR, List.cons_append, List.nil_append, Nat.sub_self, reduceIte, ↓reduceIte, isNon, LIM_eq, and_self, List.map_append, List.length_map, Int.toNat_natCast, Nat.zero_le, Nat.reduceLeDiff, Int.reduceNeg, Int.reduceLE, Int.reduceLT, Int.zero_add, ran1_int, ran2_int]
          · simp (disch := omega) only [B__law_root_4, S__law_root_5, S__law_root_6, S__law_root_7, S__law_root_8, Int.not_le.mpr, Int.not_lt.mp, hd, eV_ap, eC_ap, eBin_ap, eNeg_ap, tVal_ap, eIsN_ap, eNotN_ap, eChain_ap, tAndF_ap, tOrF_ap, tNotF_ap, tTru_ap, eAnd_ap, eOr_ap, eNot_ap, eIf_ap, aNil_ap, aCons_ap, eTup_ap, eLst_ap, oNone_ap, oSome_ap, eSl_ap, eCall_ap, iLst_ap, iTpl_ap, iRan2_apN, eOf_ap, oLst_ap, oCat_ap, oRep_ap, oSl_ap, oList_ap, oComp_ap, tYesF_ap, sNil_ap, sSeq_th, sBrk_ap, sCnt_ap, sExpr_ap, sRet_ap, sRetN_ap, sIf_ap, sSet_ap, sSetO_ap, sAsg_ap, sPar_ap, sPar3_ap, sAug_ap, sApp_ap, sExt_ap, sSetIx_ap, sFrz_ap, eIxO_ap, eLenO_ap, eIxA_ap, eLenA_ap, vOf_ap, vCons_ap, vOwn_ap, sTup_ap, iSeq_ap, sRaise_ap, sTry_ap, eExF_ap, tIfF_ap, eRev_ap, eRevF_ap, th_nx, th_rt, th_bk, th_ct, th_exc, bind_ok, bind_exc, go_ok, go_exc, opAdd_int, opSub_int, opMul_a, opMul_b, opDiv_pos, opDiv_wide, opMod_pos, opI_int, opEq_int, opNe_int, opEq_bool, opNe_bool, atI_0, atI_1, atI_2, atI_3, opIx_list, opIx_tuple, iRan1_ap, bLen_list, bLen_tuple, bInt_int, bAbs_int, bName, bNil, bCons, bTup, List.getElem?_cons_zero, List.getElem?_cons_succ, List.set_cons_zero, List.set_cons_succ, List.length_cons, List.length_nil, noTok, if_true, if_false, decide_true, decide_false, Bool.not_true, Bool.not_false, setAll, List.map_cons, List.map_nil, truD, Bool.true_eq_false, Bool.false_eq_true, Option.bind_some, true_and, and_true, List.replicate, startR, List.cons_append, List.nil_append, Nat.sub_self, reduceIte, ↓reduceIte, isNon, LIM_eq, and_self, List.map_append, List.length_map, Int.toNat_natCast, Nat.zero_le, Nat.reduceLeDiff, Int.reduceNeg, Int.reduceLE, Int.reduceLT, Int.zero_add, ran1_int, ran2_int]
      · left
        have eh : hi = lo + 1 := by omega
        subst eh
        have er : lo = r := root_uniq h0 h1 h2 k1 k4 k5
        subst er
        refine ⟨?_, rfl, x, rfl⟩
        simp (disch := omega) only [W__law_root_4, hc, eV_ap, eC_ap, eBin_ap, eNeg_ap, tVal_ap, eIsN_ap, eNotN_ap, eChain_ap, tAndF_ap, tOrF_ap, tNotF_ap, tTru_ap, eAnd_ap, eOr_ap, eNot_ap, eIf_ap, aNil_ap, aCons_ap, eTup_ap, eLst_ap, oNone_ap, oSome_ap, eSl_ap, eCall_ap, iLst_ap, iTpl_ap, iRan2_apN, eOf_ap, oLst_ap, oCat_ap, oRep_ap, oSl_ap, oList_ap, oComp_ap, tYesF_ap, sNil_ap, sSeq_th, sBrk_ap, sCnt_ap, sExpr_ap, sRet_ap, sRetN_ap, sIf_ap, sSet_ap, sSetO_ap, sAsg_ap, sPar_ap, sPar3_ap, sAug_ap, sApp_ap, sExt_ap, sSetIx_ap, sFrz_ap, eIxO_ap, eLenO_ap, eIxA_ap, eLenA_ap, vOf_ap, vCons_ap, vOwn_ap, sTup_ap, iSeq_ap, sRaise_ap, sTry_ap, eExF_ap, tIfF_ap, eRev_ap, eRevF_ap, th_nx, th_rt, th_bk, th_ct, th_exc, bind_ok, bind_exc, go_ok, go_exc, opAdd_int, opSub_int, opMul_a, opMul_b, opDiv_pos, opDiv_wide, opMod_pos, opI_int, opEq_int, opNe_int, opEq_bool, opNe_bool, atI_0, atI_1, atI_2, atI_3, opIx_list, opIx_tuple, iRan1_ap, bLen_list, bLen_tuple, bInt_int, bAbs_int, bName, bNil, bCons, bTup, List.getElem?_cons_zero, List.getElem?_cons_succ, List.set_cons_zero, List.set_cons_succ, List.length_cons, List.length_nil, noTok, if_true, if_false, decide_true, decide_false, Bool.not_true, Bool.not_false, setAll, List.map_cons, List.map_nil, truD, Bool.true_eq_false, Bool.false_eq_true, Option.bind_some, true_and, and_true, List.replicate, startR, List.cons_append, List.nil_append, Nat.sub_self, reduceIte, ↓reduceIte, isNon, LIM_eq, and_self, List.map_append, List.length_map, Int.toNat_natCast, Nat.zero_le, Nat.reduceLeDiff, Int.reduceNeg, Int.reduceLE, Int.reduceLT, Int.zero_add, ran1_int, ran2_int])
  refine seq_nx (show S__law_root_4 _ _ = _ from hw2) ?_
  simp (disch := omega) only [S__law_root_9, eV_ap, eC_ap, eBin_ap, eNeg_ap, tVal_ap, eIsN_ap, eNotN_ap, eChain_ap, tAndF_ap, tOrF_ap, tNotF_ap, tTru_ap, eAnd_ap, eOr_ap, eNot_ap, eIf_ap, aNil_ap, aCons_ap, eTup_ap, eLst_ap, oNone_ap, oSome_ap, eSl_ap, eCall_ap, iLst_ap, iTpl_ap, iRan2_apN, eOf_ap, oLst_ap, oCat_ap, oRep_ap, oSl_ap, oList_ap, oComp_ap, tYesF_ap, sNil_ap, sSeq_th, sBrk_ap, sCnt_ap, sExpr_ap, sRet_ap, sRetN_ap, sIf_ap, sSet_ap, sSetO_ap, sAsg_ap, sPar_ap, sPar3_ap, sAug_ap, sApp_ap, sExt_ap, sSetIx_ap, sFrz_ap, eIxO_ap, eLenO_ap, eIxA_ap, eLenA_ap, vOf_ap, vCons_ap, vOwn_ap, sTup_ap, iSeq_ap, sRaise_ap, sTry_ap, eExF_ap, tIfF_ap, eRev_ap, eRevF_ap, th_nx, th_rt, th_bk, th_ct, th_exc, bind_ok, bind_exc, go_ok, go_exc, opAdd_int, opSub_int, opMul_a, opMul_b, opDiv_pos, opDiv_wide, opMod_pos, opI_int, opEq_int, opNe_int, opEq_bool, opNe_bool, atI_0, atI_1, atI_2, atI_3, opIx_list, opIx_tuple, iRan1_ap, bLen_list, bLen_tuple, bInt_int, bAbs_int, bName, bNil, bCons, bTup, List.getElem?_cons_zero, List.getElem?_cons_succ, List.set_cons_zero, List.set_cons_succ, List.length_cons, List.length_nil, noTok, if_true, if_false, decide_true, decide_false, Bool.not_true, Bool.not_false, setAll, List.map_cons, List.map_nil, truD, Bool.true_eq_false, Bool.false_eq_true, Option.bind_some, true_and, and_true, List.replicate, startR, List.cons_append, List.nil_append, Nat.sub_self, reduceIte, ↓reduceIte, isNon, LIM_eq, and_self, List.map_append, List.length_map, Int.toNat_natCast, Nat.zero_le, Nat.reduceLeDiff, Int.reduceNeg, Int.reduceLE, Int.reduceLT, Int.zero_add, ran1_int, ran2_int]
theorem noTok_int {i : Int} : noTok [.int i] = true := rfl
theorem m_chain_eq {a b : Int} {g : G} (h0 : 0 ≤ b) (h1 : b < 4611686018427387904) : m_chain [.int a, .int b] g = .ok (dI (chn a b)) g := by
  have hlen : (chn a b).length ≤ 124 := chn_len 62 a b h0 (by omega)
  refine m_rt (np := 2) rfl ?_
  refine seq_nx (ρ1 := [.d (.int a), .d (.int b), .own []]) (g1 := g) ?_ ?_
  · simp (disch := omega) only [S_chain_1, eV_ap, eC_ap, eBin_ap, eNeg_ap, tVal_ap, eIsN_ap, eNotN_ap, eChain_ap, tAndF_ap, tOrF_ap, tNotF_ap, tTru_ap, eAnd_ap, eOr_ap, eNot_ap, eIf_ap, aNil_ap, aCons_ap, eTup_ap, eLst_ap, oNone_ap, oSome_ap, eSl_ap, eCall_ap, iLst_ap, iTpl_ap, iRan2_apN, eOf_ap, oLst_ap, oCat_ap, oRep_ap, oSl_ap, oList_ap, oComp_ap, tYesF_ap, sNil_ap, sSeq_th, sBrk_ap, sCnt_ap, sExpr_ap, sRet_ap, sRetN_ap, sIf_ap, sSet_ap, sSetO_ap, sAsg_ap, sPar_ap, sPar3_ap, sAug_ap, sApp_ap, sExt_ap, sSetIx_ap, sFrz_ap, eIxO_ap, eLenO_ap, eIxA_ap, eLenA_ap, vOf_ap, vCons_ap, vOwn_ap, sTup_ap, iSeq_ap, sRaise_ap, sTry_ap, eExF_ap, tIfF_ap, eRev_ap, eRevF_ap, th_nx, th_rt, th_bk, th_ct, th_exc, bind_ok, bind_exc, go_ok, go_exc, opAdd_int, opSub_int, opMul_a, opMul_b, opDiv_pos, opDiv_wide, opMod_pos, opI_int, opEq_int, opNe_int, opEq_bool, opNe_bool, atI_0, atI_1, atI_2, atI_3, opIx_list, opIx_tuple, iRan1_ap, bLen_list, bLen_tuple, bInt_int, bAbs_int, bName, bNil, bCons, bTup, List.getElem?_cons_zero, List.getElem?_cons_succ, List.set_cons_zero, List.set_cons_succ, List.length_cons, List.length_nil, noTok, if_true, if_false, decide_true, decide_false, Bool.not_true, Bool.not_false, setAll, List.map_cons, List.map_nil, truD, Bool.true_eq_false, Bool.false_eq_true, Option.bind_some, true_and, and_true, List.replicate, startR, List.cons_append, List.nil_append, Nat.sub_self, reduceIte, ↓reduceIte, isNon, LIM_eq, and_self, List.map_append, List.length_map, Int.toNat_natCast, Nat.zero_le, Nat.reduceLeDiff, Int.reduceNeg, Int.reduceLE, Int.reduceLT, Int.zero_add, ran1_int, ran2_int]
  obtain ⟨ρ1, g1, ⟨rfl, x, y, rfl⟩, hw⟩ := sWhile_run (t := W_chain_2) (f := B_chain_2) (N := 1000000000000000000000000000000) (g := g)
    (fun m ρ g' => g' = g ∧ ∃ (c d : Int) (acc : List Int), 0 ≤ d ∧ d < 4611686018427387904 ∧ m = d.toNat ∧ acc ++ chn c d = chn a b ∧ ρ = [.d (.int c), .d (.int d), .own (acc.map .int)])
    (fun ρ g' => g' = g ∧ ∃ (x y : Int), ρ = [.d (.int x), .d (.int y), .own ((chn a b).map .int)]) (m := b.toNat) ⟨rfl, a, b, [], h0, h1, rfl, rfl, rfl⟩ (by omega) (by
      rintro m ρ g' ⟨rfl, c, d, acc, k1, k2, rfl, k3, rfl⟩
      by_cases hc : 0 < d
      · right
        obtain ⟨r0, r1, r2⟩ := rem_nn (a := c) hc
        have hl : acc.length < 1000000 := by
          have := congrArg List.length k3
          rw [List.length_append] at this
          omega
        refine ⟨?_, (c % d).toNat, [.d (.int d), .d (.int (c % d)), .own ((acc ++ [c / d]).map .int)], g', by omega, .inl ?_, rfl, d, c % d, acc ++ [c / d], r0, by omega, rfl, ?_, rfl⟩
        · simp (disch := omega) only [W_chain_2, show ¬ d = 0 by omega, eV_ap, eC_ap, eBin_ap, eNeg_ap, tVal_ap, eIsN_ap, eNotN_ap, eChain_ap, tAndF_ap, tOrF_ap, tNotF_ap, tTru_ap, eAnd_ap, eOr_ap, eNot_ap, eIf_ap, aNil_ap, aCons_ap, eTup_ap, eLst_ap, oNone_ap, oSome_ap, eSl_ap, eCall_ap, iLst_ap, iTpl_ap, iRan2_apN, eOf_ap, oLst_ap, oCat_ap, oRep_ap, oSl_ap, oList_ap, oComp_ap, tYesF_ap, sNil_ap, sSeq_th, sBrk_ap, sCnt_ap, sExpr_ap, sRet_ap, sRetN_ap, sIf_ap, sSet_ap, sSetO_ap, sAsg_ap, sPar_ap, sPar3_ap, sAug_ap, sApp_ap, sExt_ap, sSetIx_ap, sFrz_ap, eIxO_ap, eLenO_ap, eIxA_ap, eLenA_ap, vOf_ap, vCons_ap, vOwn_ap, sTup_ap, iSeq_ap, sRaise_ap, sTry_ap, eExF_ap, tIfF_ap, eRev_ap, eRevF_ap, th_nx, th_rt, th_bk, th_ct, th_exc, bind_ok, bind_exc, go_ok, go_exc, opAdd_int, opSub_int, opMul_a, opMul_b, opDiv_pos, opDiv_wide, opMod_pos, opI_int, opEq_int, opNe_int, opEq_bool, opNe_bool, atI_0, atI_1, atI_2, atI_3, opIx_list, opIx_tuple, iRan1_ap, bLen_list, bLen_tuple, bInt_int, bAbs_int, bName, bNil, bCons, bTup, List.getElem?_cons_zero, List.getElem?_cons_succ, List.set_cons_zero, List.set_cons_succ, List.length_cons, List.length_nil, noTok, if_true, if_false, decide_true, decide_false, Bool.not_true, Bool.not_false, setAll, List.map_cons, List.map_nil, truD, Bool.true_eq_false, Bool.false_eq_true, Option.bind_some, true_and, and_true, List.replicate, startR, List.cons_append, List.nil_append, Nat.sub_self, reduceIte, ↓reduceIte, isNon, LIM_eq, and_self, List.map_append, List.length_map, Int.toNat_natCast, Nat.zero_le, Nat.reduceLeDiff, Int.reduceNeg, Int.reduceLE, Int.reduceLT, Int.zero_add, ran1_int, ran2_int]
        · simp (disch := omega) only [B_chain_2, S_chain_3, S_chain_4, List.length_map, LIM_eq, hl, and_self, List.map_append, eV_ap, eC_ap, eBin_ap, eNeg_ap, tVal_ap, eIsN_ap, eNotN_ap, eChain_ap, tAndF_ap, tOrF_ap, tNotF_ap, tTru_ap, eAnd_ap, eOr_ap, eNot_ap, eIf_ap, aNil_ap, aCons_ap, eTup_ap, eLst_ap, oNone_ap, oSome_ap, eSl_ap, eCall_ap, iLst_ap, iTpl_ap, iRan2_apN, eOf_ap, oLst_ap, oCat_ap, oRep_ap, oSl_ap, oList_ap, oComp_ap, tYesF_ap, sNil_ap, sSeq_th, sBrk_ap, sCnt_ap, sExpr_ap, sRet_ap, sRetN_ap, sIf_ap, sSet_ap, sSetO_ap, sAsg_ap, sPar_ap, sPar3_ap, sAug_ap, sApp_ap, sExt_ap, sSetIx_ap, sFrz_ap, eIxO_ap, eLenO_ap, eIxA_ap, eLenA_ap, vOf_ap, vCons_ap, vOwn_ap, sTup_ap, iSeq_ap, sRaise_ap, sTry_ap, eExF_ap, tIfF_ap, eRev_ap, eRevF_ap, th_nx, th_rt, th_bk, th_ct, th_exc, bind_ok, bind_exc, go_ok, go_exc, opAdd_int, opSub_int, opMul_a, opMul_b, opDiv_pos, opDiv_wide, opMod_pos, opI_int, opEq_int, opNe_int, opEq_bool, opNe_bool, atI_0, atI_1, atI_2, atI_3, opIx_list, opIx_tuple, iRan1_ap, bLen_list, bLen_tuple, bInt_int, bAbs_int, bName, bNil, bCons, bTup, List.getElem?_cons_zero, List.getElem?_cons_succ, List.set_cons_zero, List.set_cons_succ, List.length_cons, List.length_nil, noTok, if_true, if_false, decide_true, decide_false, Bool.not_true, Bool.not_false, setAll, List.map_cons, List.map_nil, truD, Bool.true_eq_false, Bool.false_eq_true, Option.bind_some, true_and, and_true, List.replicate, startR, List.cons_append, List.nil_append, Nat.sub_self, reduceIte, ↓reduceIte, isNon, LIM_eq, and_self, List.map_append, List.length_map, Int.toNat_natCast, Nat.zero_le, Nat.reduceLeDiff, Int.reduceNeg, Int.reduceLE, Int.reduceLT, Int.zero_add, ran1_int, ran2_int]
        · rw [← k3, chn_pos hc, List.append_assoc]
          rfl
      · left
        have : d = 0 := by omega
        subst this
        rw [chn_zero, List.append_nil] at k3
        refine ⟨?_, rfl, c, 0, by rw [k3]⟩
        simp (disch := omega) only [W_chain_2, eV_ap, eC_ap, eBin_ap, eNeg_ap, tVal_ap, eIsN_ap, eNotN_ap, eChain_ap, tAndF_ap, tOrF_ap, tNotF_ap, tTru_ap, eAnd_ap, eOr_ap, eNot_ap, eIf_ap, aNil_ap, aCons_ap, eTup_ap, eLst_ap, oNone_ap, oSome_ap, eSl_ap, eCall_ap, iLst_ap, iTpl_ap, iRan2_apN, eOf_ap, oLst_ap, oCat_ap, oRep_ap, oSl_ap, oList_ap, oComp_ap, tYesF_ap, sNil_ap, sSeq_th, sBrk_ap, sCnt_ap, sExpr_ap, sRet_ap, sRetN_ap, sIf_ap, sSet_ap, sSetO_ap, sAsg_ap, sPar_ap, sPar3_ap, sAug_ap, sApp_ap, sExt_ap, sSetIx_ap, sFrz_ap, eIxO_ap, eLenO_ap, eIxA_ap, eLenA_ap, vOf_ap, vCons_ap, vOwn_ap, sTup_ap, iSeq_ap, sRaise_ap, sTry_ap, eExF_ap, tIfF_ap, eRev_ap, eRevF_ap, th_nx, th_rt, th_bk, th_ct, th_exc, bind_ok, bind_exc, go_ok, go_exc, opAdd_int, opSub_int, opMul_a, opMul_b, opDiv_pos, opDiv_wide, opMod_pos, opI_int, opEq_int, opNe_int, opEq_bool, opNe_bool, atI_0, atI_1, atI_2, atI_3, opIx_list, opIx_tuple, iRan1_ap, bLen_list, bLen_tuple, bInt_int, bAbs_int, bName, bNil, bCons, bTup, List.getElem?_cons_zero, List.getElem?_cons_succ, List.set_cons_zero, List.set_cons_succ, List.length_cons, List.length_nil, noTok, if_true, if_false, decide_true, decide_false, Bool.not_true, Bool.not_false, setAll, List.map_cons, List.map_nil, truD, Bool.true_eq_false, Bool.false_eq_true, Option.bind_some, true_and, and_true, List.replicate, startR, List.cons_append, List.nil_append, Nat.sub_self, reduceIte, ↓reduceIte, isNon, LIM_eq, and_self, List.map_append, List.length_map, Int.toNat_natCast, Nat.zero_le, Nat.reduceLeDiff, Int.reduceNeg, Int.reduceLE, Int.reduceLT, Int.zero_add, ran1_int, ran2_int])
  refine seq_nx (show S_chain_2 _ _ = _ from hw) ?_
  simp (disch := omega) only [S_chain_5, eV_ap, eC_ap, eBin_ap, eNeg_ap, tVal_ap, eIsN_ap, eNotN_ap, eChain_ap, tAndF_ap, tOrF_ap, tNotF_ap, tTru_ap, eAnd_ap, eOr_ap, eNot_ap, eIf_ap, aNil_ap, aCons_ap, eTup_ap, eLst_ap, oNone_ap, oSome_ap, eSl_ap, eCall_ap, iLst_ap, iTpl_ap, iRan2_apN, eOf_ap, oLst_ap, oCat_ap, oRep_ap, oSl_ap, oList_ap, oComp_ap, tYesF_ap, sNil_ap, sSeq_th, sBrk_ap, sCnt_ap, sExpr_ap, sRet_ap, sRetN_ap, sIf_ap, sSet_ap, sSetO_ap, sAsg_ap, sPar_ap, sPar3_ap, sAug_ap, sApp_ap, sExt_ap, sSetIx_ap, sFrz_ap, eIxO_ap, eLenO_ap, eIxA_ap, eLenA_ap, vOf_ap, vCons_ap, vOwn_ap, sTup_ap, iSeq_ap, sRaise_ap, sTry_ap, eExF_ap, tIfF_ap, eRev_ap, eRevF_ap, th_nx, th_rt, th_bk, th_ct, th_exc, bind_ok, bind_exc, go_ok, go_exc, opAdd_int, opSub_int, opMul_a, opMul_b, opDiv_pos, opDiv_wide, opMod_pos, opI_int, opEq_int, opNe_int, opEq_bool, opNe_bool, atI_0, atI_1, atI_2, atI_3, opIx_list, opIx_tuple, iRan1_ap, bLen_list, bLen_tuple, bInt_int, bAbs_int, bName, bNil, bCons, bTup, List.getElem?_cons_zero, List.getElem?_cons_succ, List.set_cons_zero, List.set_cons_succ, List.length_cons, List.length_nil, noTok, if_true, if_false, decide_true, decide_false, Bool.not_true, Bool.not_false, setAll, List.map_cons, List.map_nil, truD, Bool.true_eq_false, Bool.false_eq_true, Option.bind_some, true_and, and_true, List.replicate, startR, List.cons_append, List.nil_append, Nat.sub_self, reduceIte, ↓reduceIte, isNon, LIM_eq, and_self, List.map_append, List.length_map, Int.toNat_natCast, Nat.zero_le, Nat.reduceLeDiff, Int.reduceNeg, Int.reduceLE, Int.reduceLT, Int.zero_add, ran1_int, ran2_int]
theorem m_divisor_eq {a b : Int} {g : G} (h0 : 0 ≤ b) (h1 : b < 4611686018427387904) : m__law_divisor [.int a, .int b] g = .ok (.int (dvs a b)) g := by
  refine m_rt (np := 2) rfl ?_
  obtain ⟨ρ1, g1, ⟨rfl, x, y, hx, rfl⟩, hw⟩ := sWhile_run (t := W__law_divisor_1) (f := B__law_divisor_1) (N := 1000000000000000000000000000000) (g := g)
    (fun m ρ g' => g' = g ∧ ∃ (c d : Int), 0 ≤ d ∧ d < 4611686018427387904 ∧ m = d.toNat ∧ dvs c d = dvs a b ∧ ρ = [.d (.int c), .d (.int d)])
    (fun ρ g' => g' = g ∧ ∃ (x y : Int), (if x < 0 then -x else x) = dvs a b ∧ ρ = [.d (.int x), .d (.int y)]) (m := b.toNat) ⟨rfl, a, b, h0, h1, rfl, rfl, rfl⟩ (by omega) (by
      rintro m ρ g' ⟨rfl, c, d, k1, k2, rfl, k3, rfl⟩
      by_cases hc : 0 < d
      · right
        obtain ⟨r0, r1, r2⟩ := rem_nn (a := c) hc
        refine ⟨?_, (c % d).toNat, [.d (.int d), .d (.int (c % d))], g', by omega, .inl ?_, rfl, d, c % d, r0, by omega, rfl, ?_, rfl⟩
        · simp (disch := omega) only [W__law_divisor_1, show ¬ d = 0 by omega, eV_ap, eC_ap, eBin_ap, eNeg_ap, tVal_ap, eIsN_ap, eNotN_ap, eChain_ap, tAndF_ap, tOrF_ap, tNotF_ap, tTru_ap, eAnd_ap, eOr_ap, eNot_ap, eIf_ap, aNil_ap, aCons_ap, eTup_ap, eLst_ap, oNone_ap, oSome_ap, eSl_ap, eCall_ap, iLst_ap, iTpl_ap, iRan2_apN, eOf_ap, oLst_ap, oCat_ap, oRep_ap, oSl_ap, oList_ap, oComp_ap, tYesF_ap, sNil_ap, sSeq_th, sBrk_ap, sCnt_ap, sExpr_ap, sRet_ap, sRetN_ap, sIf_ap, sSet_ap, sSetO_ap, sAsg_ap, sPar_ap, sPar3_ap, sAug_ap, sApp_ap, sExt_ap, sSetIx_ap, sFrz_ap, eIxO_ap, eLenO_ap, eIxA_ap, eLenA_ap, vOf_ap, vCons_ap, vOwn_ap, sTup_ap, iSeq_ap, sRaise_ap, sTry_ap, eExF_ap, tIfF_ap, eRev_ap, eRevF_ap, th_nx, th_rt, th_bk, th_ct, th_exc, bind_ok, bind_exc, go_ok, go_exc, opAdd_int, opSub_int, opMul_a, opMul_b, opDiv_pos, opDiv_wide, opMod_pos, opI_int, opEq_int, opNe_int, opEq_bool, opNe_bool, atI_0, atI_1, atI_2, atI_3, opIx_list, opIx_tuple, iRan1_ap, bLen_list, bLen_tuple, bInt_int, bAbs_int, bName, bNil, bCons, bTup, List.getElem?_cons_zero, List.getElem?_cons_succ, List.set_cons_zero, List.set_cons_succ, List.length_cons, List.length_nil, noTok, if_true, if_false, decide_true, decide_false, Bool.not_true, Bool.not_false, setAll, List.map_cons, List.map_nil, truD, Bool.true_eq_false, Bool.false_eq_true, Option.bind_some, true_and, and_true, List.replicate, startR, List.cons_append, List.nil_append, Nat.sub_self, reduceIte, ↓reduceIte, isNon, LIM_eq, and_self, List.map_append, List.length_map, Int.toNat_natCast, Nat.zero_le, Nat.reduceLeDiff, Int.reduceNeg, Int.reduceLE, Int.reduceLT, Int.zero_add, ran1_int, ran2_int]
        · simp (disch := omega) only [B__law_divisor_1, S__law_divisor_2, eV_ap, eC_ap, eBin_ap, eNeg_ap, tVal_ap, eIsN_ap, eNotN_ap, eChain_ap, tAndF_ap, tOrF_ap, tNotF_ap, tTru_ap, eAnd_ap, eOr_ap, eNot_ap, eIf_ap, aNil_ap, aCons_ap, eTup_ap, eLst_ap, oNone_ap, oSome_ap, eSl_ap, eCall_ap, iLst_ap, iTpl_ap, iRan2_apN, eOf_ap, oLst_ap, oCat_ap, oRep_ap, oSl_ap, oList_ap, oComp_ap, tYesF_ap, sNil_ap, sSeq_th, sBrk_ap, sCnt_ap, sExpr_ap, sRet_ap, sRetN_ap, sIf_ap, sSet_ap, sSetO_ap, sAsg_ap, sPar_ap, sPar3_ap, sAug_ap, sApp_ap, sExt_ap, sSetIx_ap, sFrz_ap, eIxO_ap, eLenO_ap, eIxA_ap, eLenA_ap, vOf_ap, vCons_ap, vOwn_ap, sTup_ap, iSeq_ap, sRaise_ap, sTry_ap, eExF_ap, tIfF_ap, eRev_ap, eRevF_ap, th_nx, th_rt, th_bk, th_ct, th_exc, bind_ok, bind_exc, go_ok, go_exc, opAdd_int, opSub_int, opMul_a, opMul_b, opDiv_pos, opDiv_wide, opMod_pos, opI_int, opEq_int, opNe_int, opEq_bool, opNe_bool, atI_0, atI_1, atI_2, atI_3, opIx_list, opIx_tuple, iRan1_ap, bLen_list, bLen_tuple, bInt_int, bAbs_int, bName, bNil, bCons, bTup, List.getElem?_cons_zero, List.getElem?_cons_succ, List.set_cons_zero, List.set_cons_succ, List.length_cons, List.length_nil, noTok, if_true, if_false, decide_true, decide_false, Bool.not_true, Bool.not_false, setAll, List.map_cons, List.map_nil, truD, Bool.true_eq_false, Bool.false_eq_true, Option.bind_some, true_and, and_true, List.replicate, startR, List.cons_append, List.nil_append, Nat.sub_self, reduceIte, ↓reduceIte, isNon, LIM_eq, and_self, List.map_append, List.length_map, Int.toNat_natCast, Nat.zero_le, Nat.reduceLeDiff, Int.reduceNeg, Int.reduceLE, Int.reduceLT, Int.zero_add, ran1_int, ran2_int]
        · rw [← k3, dvs_pos hc]
      · left
        have : d = 0 := by omega
        subst this
        rw [dvs_zero] at k3
        refine ⟨?_, rfl, c, 0, k3, rfl⟩
        simp (disch := omega) only [W__law_divisor_1, eV_ap, eC_ap, eBin_ap, eNeg_ap, tVal_ap, eIsN_ap, eNotN_ap, eChain_ap, tAndF_ap, tOrF_ap, tNotF_ap, tTru_ap, eAnd_ap, eOr_ap, eNot_ap, eIf_ap, aNil_ap, aCons_ap, eTup_ap, eLst_ap, oNone_ap, oSome_ap, eSl_ap, eCall_ap, iLst_ap, iTpl_ap, iRan2_apN, eOf_ap, oLst_ap, oCat_ap, oRep_ap, oSl_ap, oList_ap, oComp_ap, tYesF_ap, sNil_ap, sSeq_th, sBrk_ap, sCnt_ap, sExpr_ap, sRet_ap, sRetN_ap, sIf_ap, sSet_ap, sSetO_ap, sAsg_ap, sPar_ap, sPar3_ap, sAug_ap, sApp_ap, sExt_ap, sSetIx_ap, sFrz_ap, eIxO_ap, eLenO_ap, eIxA_ap, eLenA_ap, vOf_ap, vCons_ap, vOwn_ap, sTup_ap, iSeq_ap, sRaise_ap, sTry_ap, eExF_ap, tIfF_ap, eRev_ap, eRevF_ap, th_nx, th_rt, th_bk, th_ct, th_exc, bind_ok, bind_exc, go_ok, go_exc, opAdd_int, opSub_int, opMul_a, opMul_b, opDiv_pos, opDiv_wide, opMod_pos, opI_int, opEq_int, opNe_int, opEq_bool, opNe_bool, atI_0, atI_1, atI_2, atI_3, opIx_list, opIx_tuple, iRan1_ap, bLen_list, bLen_tuple, bInt_int, bAbs_int, bName, bNil, bCons, bTup, List.getElem?_cons_zero, List.getElem?_cons_succ, List.set_cons_zero, List.set_cons_succ, List.length_cons, List.length_nil, noTok, if_true, if_false, decide_true, decide_false, Bool.not_true, Bool.not_false, setAll, List.map_cons, List.map_nil, truD, Bool.true_eq_false, Bool.false_eq_true, Option.bind_some, true_and, and_true, List.replicate, startR, List.cons_append, List.nil_append, Nat.sub_self, reduceIte, ↓reduceIte, isNon, LIM_eq, and_self, List.map_append, List.length_map, Int.toNat_natCast, Nat.zero_le, Nat.reduceLeDiff, Int.reduceNeg, Int.reduceLE, Int.reduceLT, Int.zero_add, ran1_int, ran2_int])
  refine seq_nx (show S__law_divisor_1 _ _ = _ from hw) ?_
  simp (disch := omega) only [S__law_divisor_3, hx, eV_ap, eC_ap, eBin_ap, eNeg_ap, tVal_ap, eIsN_ap, eNotN_ap, eChain_ap, tAndF_ap, tOrF_ap, tNotF_ap, tTru_ap, eAnd_ap, eOr_ap, eNot_ap, eIf_ap, aNil_ap, aCons_ap, eTup_ap, eLst_ap, oNone_ap, oSome_ap, eSl_ap, eCall_ap, iLst_ap, iTpl_ap, iRan2_apN, eOf_ap, oLst_ap, oCat_ap, oRep_ap, oSl_ap, oList_ap, oComp_ap, tYesF_ap, sNil_ap, sSeq_th, sBrk_ap, sCnt_ap, sExpr_ap, sRet_ap, sRetN_ap, sIf_ap, sSet_ap, sSetO_ap, sAsg_ap, sPar_ap, sPar3_ap, sAug_ap, sApp_ap, sExt_ap, sSetIx_ap, sFrz_ap, eIxO_ap, eLenO_ap, eIxA_ap, eLenA_ap, vOf_ap, vCons_ap, vOwn_ap, sTup_ap, iSeq_ap, sRaise_ap, sTry_ap, eExF_ap, tIfF_ap, eRev_ap, eRevF_ap, th_nx, th_rt, th_bk, th_ct, th_exc, bind_ok, bind_exc, go_ok, go_exc, opAdd_int, opSub_int, opMul_a, opMul_b, opDiv_pos, opDiv_wide, opMod_pos, opI_int, opEq_int, opNe_int, opEq_bool, opNe_bool, atI_0, atI_1, atI_2, atI_3, opIx_list, opIx_tuple, iRan1_ap, bLen_list, bLen_tuple, bInt_int, bAbs_int, bName, bNil, bCons, bTup, List.getElem?_cons_zero, List.getElem?_cons_succ, List.set_cons_zero, List.set_cons_succ, List.length_cons, List.length_nil, noTok, if_true, if_false, decide_true, decide_false, Bool.not_true, Bool.not_false, setAll, List.map_cons, List.map_nil, truD, Bool.true_eq_false, Bool.false_eq_true, Option.bind_some, true_and, and_true, List.replicate, startR, List.cons_append, List.nil_append, Nat.sub_self, reduceIte, ↓reduceIte, isNon, LIM_eq, and_self, List.map_append, List.length_map, Int.toNat_natCast, Nat.zero_le, Nat.reduceLeDiff, Int.reduceNeg, Int.reduceLE, Int.reduceLT, Int.zero_add, ran1_int, ran2_int]
end K45
namespace K45
open PySem
open PySem.Spec
open PyProof.Rows
open L2
open DL
theorem small {x : Int} (h : x.natAbs < 2 ^ 62) : -4611686018427387904 < x ∧ x < 4611686018427387904 := by
  have e : (2 : Nat) ^ 62 = 4611686018427387904 := by decide
  rw [e] at h
  omega
theorem get_map {w : List Int} {i : Nat} (h : i < (w.map PyData.int).length) : (w.map PyData.int)[i] = .int (w[i]'(by simpa using h)) := by rw [List.getElem_map]
theorem m_part_of_eq {w : List Int} {g : G} (hn : w ≠ []) (hw : ∀ x ∈ w, x.natAbs < 2 ^ 62) : m_part_of [dI w] g = .ok (dP (partOf w)) g := by
  have hl : 0 < w.length := List.length_pos_iff.mpr hn
  refine m_rt (np := 1) rfl ?_
  refine seq_nx (ρ1 := [.d (dI w), .d (.int (partOf (w.drop (w.length - 1))).1), .d (.int (partOf (w.drop (w.length - 1))).2), .un]) (g1 := g) ?_ ?_
  · have e : w.drop (w.length - 1) = [w[w.length - 1]] := by
      rw [List.drop_eq_getElem_cons (by omega), show w.length - 1 + 1 = w.length by omega, List.drop_length]
    have e2 : atI (w.map PyData.int) (-1) = some (.int w[w.length - 1]) := by
      rw [atI_neg (by omega) (by rw [List.length_map]; omega), List.length_map, List.getElem?_map, show (-1 + (w.length : Int)).toNat = w.length - 1 by omega, List.getElem?_eq_getElem (by omega)]
      rfl
    rw [e]
    simp (disch := omega) only [S_part_of_1, e2, partOf, Int.mul_one, Int.add_zero, eV_ap, eC_ap, eBin_ap, eNeg_ap, tVal_ap, eIsN_ap, eNotN_ap, eChain_ap, tAndF_ap, tOrF_ap, tNotF_ap, tTru_ap, eAnd_ap, eOr_ap, eNot_ap, eIf_ap, aNil_ap, aCons_ap, eTup_ap, eLst_ap, oNone_ap, oSome_ap, eSl_ap, eCall_ap, iLst_ap, iTpl_ap, iRan2_apN, eOf_ap, oLst_ap, oCat_ap, oRep_ap, oSl_ap, oList_ap, oComp_ap, tYesF_ap, sNil_ap, sSeq_th, sBrk_ap, sCnt_ap, sExpr_ap, sRet_ap, sRetN_ap, sIf_ap, sSet_ap, sSetO_ap, sAsg_ap, sPar_ap, sPar3_ap, sAug_ap, sApp_ap, sExt_ap, sSetIx_ap, sFrz_ap, eIxO_ap, eLenO_ap, eIxA_ap, eLenA_ap, vOf_ap, vCons_ap, vOwn_ap, sTup_ap, iSeq_ap, sRaise_ap, sTry_ap, eExF_ap, tIfF_ap, eRev_ap, eRevF_ap, th_nx, th_rt, th_bk, th_ct, th_exc, bind_ok, bind_exc, go_ok, go_exc, opAdd_int, opSub_int, opMul_a, opMul_b, opDiv_pos, opDiv_wide, opMod_pos, opI_int, opEq_int, opNe_int, opEq_bool, opNe_bool, atI_0, atI_1, atI_2, atI_3, opIx_list, opIx_tuple, iRan1_ap, bLen_list, bLen_tuple, bInt_int, bAbs_int, bName, bNil, bCons, bTup, List.getElem?_cons_zero, List.getElem?_cons_succ, List.set_cons_zero, List.set_cons_succ, List.length_cons, List.length_nil, noTok, if_true, if_false, decide_true, decide_false, Bool.not_true, Bool.not_false, setAll, List.map_cons, List.map_nil, truD, Bool.true_eq_false, Bool.false_eq_true, Option.bind_some, true_and, and_true, List.replicate, startR, List.cons_append, List.nil_append, Nat.sub_self, reduceIte, ↓reduceIte, isNon, LIM_eq, and_self, List.map_append, List.length_map, Int.toNat_natCast, Nat.zero_le, Nat.reduceLeDiff, Int.reduceNeg, Int.reduceLE, Int.reduceLT, Int.zero_add, ran1_int, ran2_int]
  have hr : rvN (w.map PyData.int).length (-2) = w.length - 1 := by
    unfold rvN
    rw [List.length_map]
    omega
  obtain ⟨ρ1, g1, ⟨rfl, x, rfl⟩, hf⟩ := sFor_run (fi := iSeq (eRevF (eV 0) (eNeg (eC (.int 2))))) (b := bName 3) (f := B_part_of_2) (items := ((w.map PyData.int).take (w.length - 1)).reverse) (g := g) (g1 := g)
    (ρ := [.d (dI w), .d (.int (partOf (w.drop (w.length - 1))).1), .d (.int (partOf (w.drop (w.length - 1))).2), .un])
    (fun i ρ g' => g' = g ∧ ∃ x, ρ = [.d (dI w), .d (.int (partOf (w.drop (w.length - 1 - i))).1), .d (.int (partOf (w.drop (w.length - 1 - i))).2), x]) (by simp (disch := omega) only [hr, eV_ap, eC_ap, eBin_ap, eNeg_ap, tVal_ap, eIsN_ap, eNotN_ap, eChain_ap, tAndF_ap, tOrF_ap, tNotF_ap, tTru_ap, eAnd_ap, eOr_ap, eNot_ap, eIf_ap, aNil_ap, aCons_ap, eTup_ap, eLst_ap, oNone_ap, oSome_ap, eSl_ap, eCall_ap, iLst_ap, iTpl_ap, iRan2_apN, eOf_ap, oLst_ap, oCat_ap, oRep_ap, oSl_ap, oList_ap, oComp_ap, tYesF_ap, sNil_ap, sSeq_th, sBrk_ap, sCnt_ap, sExpr_ap, sRet_ap, sRetN_ap, sIf_ap, sSet_ap, sSetO_ap, sAsg_ap, sPar_ap, sPar3_ap, sAug_ap, sApp_ap, sExt_ap, sSetIx_ap, sFrz_ap, eIxO_ap, eLenO_ap, eIxA_ap, eLenA_ap, vOf_ap, vCons_ap, vOwn_ap, sTup_ap, iSeq_ap, sRaise_ap, sTry_ap, eExF_ap, tIfF_ap, eRev_ap, eRevF_ap, th_nx, th_rt, th_bk, th_ct, th_exc, bind_ok, bind_exc, go_ok, go_exc, opAdd_int, opSub_int, opMul_a, opMul_b, opDiv_pos, opDiv_wide, opMod_pos, opI_int, opEq_int, opNe_int, opEq_bool, opNe_bool, atI_0, atI_1, atI_2, atI_3, opIx_list, opIx_tuple, iRan1_ap, bLen_list, bLen_tuple, bInt_int, bAbs_int, bName, bNil, bCons, bTup, List.getElem?_cons_zero, List.getElem?_cons_succ, List.set_cons_zero, List.set_cons_succ, List.length_cons, List.length_nil, noTok, if_true, if_false, decide_true, decide_false, Bool.not_true, Bool.not_false, setAll, List.map_cons, List.map_nil, truD, Bool.true_eq_false, Bool.false_eq_true, Option.bind_some, true_and, and_true, List.replicate, startR, List.cons_append, List.nil_append, Nat.sub_self, reduceIte, ↓reduceIte, isNon, LIM_eq, and_self, List.map_append, Int.toNat_natCast, Nat.zero_le, Nat.reduceLeDiff, Int.reduceNeg, Int.reduceLE, Int.reduceLT, Int.zero_add, ran1_int, ran2_int]) ⟨rfl, .un, rfl⟩ (by
      rintro i hi ρ g' ⟨rfl, x, rfl⟩
      have hi2 : i < w.length - 1 := by
        rw [List.length_reverse, List.length_take, List.length_map] at hi
        omega
      have ei : (((w.map PyData.int).take (w.length - 1)).reverse)[i] = .int w[w.length - 2 - i] := by
        rw [List.getElem_reverse, List.getElem_take, List.getElem_map]
        congr 2
        rw [List.length_take, List.length_map]
        omega
      have ed : w.drop (w.length - 1 - (i + 1)) = w[w.length - 2 - i] :: w.drop (w.length - 1 - i) := by
        rw [show w.length - 1 - (i + 1) = w.length - 2 - i by omega, List.drop_eq_getElem_cons (by omega), show w.length - 2 - i + 1 = w.length - 1 - i by omega]
      obtain ⟨b1, b2⟩ := small (hw _ (List.getElem_mem (show w.length - 2 - i < w.length by omega)))
      rw [ei, ed]
      generalize w[w.length - 2 - i] = y at *
      refine ⟨_, _, g', rfl, .inl ?_, rfl, .d (.int y), rfl⟩
      simp (disch := omega) only [B_part_of_2, S_part_of_3, partOf, eV_ap, eC_ap, eBin_ap, eNeg_ap, tVal_ap, eIsN_ap, eNotN_ap, eChain_ap, tAndF_ap, tOrF_ap, tNotF_ap, tTru_ap, eAnd_ap, eOr_ap, eNot_ap, eIf_ap, aNil_ap, aCons_ap, eTup_ap, eLst_ap, oNone_ap, oSome_ap, eSl_ap, eCall_ap, iLst_ap, iTpl_ap, iRan2_apN, eOf_ap, oLst_ap, oCat_ap, oRep_ap, oSl_ap, oList_ap, oComp_ap, tYesF_ap, sNil_ap, sSeq_th, sBrk_ap, sCnt_ap, sExpr_ap, sRet_ap, sRetN_ap, sIf_ap, sSet_ap, sSetO_ap, sAsg_ap, sPar_ap, sPar3_ap, sAug_ap, sApp_ap, sExt_ap, sSetIx_ap, sFrz_ap, eIxO_ap, eLenO_ap, eIxA_ap, eLenA_ap, vOf_ap, vCons_ap, vOwn_ap, sTup_ap, iSeq_ap, sRaise_ap, sTry_ap, eExF_ap, tIfF_ap, eRev_ap, eRevF_ap, th_nx, th_rt, th_bk, th_ct, th_exc, bind_ok, bind_exc, go_ok, go_exc, opAdd_int, opSub_int, opMul_a, opMul_b, opDiv_pos, opDiv_wide, opMod_pos, opI_int, opEq_int, opNe_int, opEq_bool, opNe_bool, atI_0, atI_1, atI_2, atI_3, opIx_list, opIx_tuple, iRan1_ap, bLen_list, bLen_tuple, bInt_int, bAbs_int, bName, bNil, bCons, bTup, List.getElem?_cons_zero, List.getElem?_cons_succ, List.set_cons_zero, List.set_cons_succ, List.length_cons, List.length_nil, noTok, if_true, if_false, decide_true, decide_false, Bool.not_true, Bool.not_false, setAll, List.map_cons, List.map_nil, truD, Bool.true_eq_false, Bool.false_eq_true, Option.bind_some, true_and, and_true, List.replicate, startR, List.cons_append, List.nil_append, Nat.sub_self, reduceIte, ↓reduceIte, isNon, LIM_eq, and_self, List.map_append, List.length_map, Int.toNat_natCast, Nat.zero_le, Nat.reduceLeDiff, Int.reduceNeg, Int.reduceLE, Int.reduceLT, Int.zero_add, ran1_int, ran2_int])
  refine seq_nx (show S_part_of_2 _ _ = _ from hf) ?_
  rw [List.length_reverse, List.length_take, List.length_map, show w.length - 1 - min (w.length - 1) w.length = 0 by omega, List.drop_zero]
  simp (disch := omega) only [S_part_of_4, eV_ap, eC_ap, eBin_ap, eNeg_ap, tVal_ap, eIsN_ap, eNotN_ap, eChain_ap, tAndF_ap, tOrF_ap, tNotF_ap, tTru_ap, eAnd_ap, eOr_ap, eNot_ap, eIf_ap, aNil_ap, aCons_ap, eTup_ap, eLst_ap, oNone_ap, oSome_ap, eSl_ap, eCall_ap, iLst_ap, iTpl_ap, iRan2_apN, eOf_ap, oLst_ap, oCat_ap, oRep_ap, oSl_ap, oList_ap, oComp_ap, tYesF_ap, sNil_ap, sSeq_th, sBrk_ap, sCnt_ap, sExpr_ap, sRet_ap, sRetN_ap, sIf_ap, sSet_ap, sSetO_ap, sAsg_ap, sPar_ap, sPar3_ap, sAug_ap, sApp_ap, sExt_ap, sSetIx_ap, sFrz_ap, eIxO_ap, eLenO_ap, eIxA_ap, eLenA_ap, vOf_ap, vCons_ap, vOwn_ap, sTup_ap, iSeq_ap, sRaise_ap, sTry_ap, eExF_ap, tIfF_ap, eRev_ap, eRevF_ap, th_nx, th_rt, th_bk, th_ct, th_exc, bind_ok, bind_exc, go_ok, go_exc, opAdd_int, opSub_int, opMul_a, opMul_b, opDiv_pos, opDiv_wide, opMod_pos, opI_int, opEq_int, opNe_int, opEq_bool, opNe_bool, atI_0, atI_1, atI_2, atI_3, opIx_list, opIx_tuple, iRan1_ap, bLen_list, bLen_tuple, bInt_int, bAbs_int, bName, bNil, bCons, bTup, List.getElem?_cons_zero, List.getElem?_cons_succ, List.set_cons_zero, List.set_cons_succ, List.length_cons, List.length_nil, noTok, if_true, if_false, decide_true, decide_false, Bool.not_true, Bool.not_false, setAll, List.map_cons, List.map_nil, truD, Bool.true_eq_false, Bool.false_eq_true, Option.bind_some, true_and, and_true, List.replicate, startR, List.cons_append, List.nil_append, Nat.sub_self, reduceIte, ↓reduceIte, isNon, LIM_eq, and_self, List.map_append, List.length_map, Int.toNat_natCast, Nat.zero_le, Nat.reduceLeDiff, Int.reduceNeg, Int.reduceLE, Int.reduceLT, Int.zero_add, ran1_int, ran2_int]
theorem m_parts_along_eq {w : List Int} {g : G} (hl : w.length ≤ 100000) (hw : ∀ x ∈ w, x.natAbs < 2 ^ 62) : m_parts_along [dI w] g = .ok (dPs (along (0, 1) (1, 0) w)) g := by
  refine m_rt (np := 1) rfl ?_
  refine seq_nx (ρ1 := [.d (dI w), .own [], .d (dP (0, 1)), .d (dP (1, 0)), .un]) (g1 := g) ?_ ?_
  · simp (disch := omega) only [S_parts_along_1, eV_ap, eC_ap, eBin_ap, eNeg_ap, tVal_ap, eIsN_ap, eNotN_ap, eChain_ap, tAndF_ap, tOrF_ap, tNotF_ap, tTru_ap, eAnd_ap, eOr_ap, eNot_ap, eIf_ap, aNil_ap, aCons_ap, eTup_ap, eLst_ap, oNone_ap, oSome_ap, eSl_ap, eCall_ap, iLst_ap, iTpl_ap, iRan2_apN, eOf_ap, oLst_ap, oCat_ap, oRep_ap, oSl_ap, oList_ap, oComp_ap, tYesF_ap, sNil_ap, sSeq_th, sBrk_ap, sCnt_ap, sExpr_ap, sRet_ap, sRetN_ap, sIf_ap, sSet_ap, sSetO_ap, sAsg_ap, sPar_ap, sPar3_ap, sAug_ap, sApp_ap, sExt_ap, sSetIx_ap, sFrz_ap, eIxO_ap, eLenO_ap, eIxA_ap, eLenA_ap, vOf_ap, vCons_ap, vOwn_ap, sTup_ap, iSeq_ap, sRaise_ap, sTry_ap, eExF_ap, tIfF_ap, eRev_ap, eRevF_ap, th_nx, th_rt, th_bk, th_ct, th_exc, bind_ok, bind_exc, go_ok, go_exc, opAdd_int, opSub_int, opMul_a, opMul_b, opDiv_pos, opDiv_wide, opMod_pos, opI_int, opEq_int, opNe_int, opEq_bool, opNe_bool, atI_0, atI_1, atI_2, atI_3, opIx_list, opIx_tuple, iRan1_ap, bLen_list, bLen_tuple, bInt_int, bAbs_int, bName, bNil, bCons, bTup, List.getElem?_cons_zero, List.getElem?_cons_succ, List.set_cons_zero, List.set_cons_succ, List.length_cons, List.length_nil, noTok, if_true, if_false, decide_true, decide_false, Bool.not_true, Bool.not_false, setAll, List.map_cons, List.map_nil, truD, Bool.true_eq_false, Bool.false_eq_true, Option.bind_some, true_and, and_true, List.replicate, startR, List.cons_append, List.nil_append, Nat.sub_self, reduceIte, ↓reduceIte, isNon, LIM_eq, and_self, List.map_append, List.length_map, Int.toNat_natCast, Nat.zero_le, Nat.reduceLeDiff, Int.reduceNeg, Int.reduceLE, Int.reduceLT, Int.zero_add, ran1_int, ran2_int]
  obtain ⟨ρ1, g1, ⟨rfl, l, n, x, _, rfl⟩, hf⟩ := sFor_run (fi := iSeq (eV 0)) (b := bName 4) (f := B_parts_along_2) (items := w.map PyData.int) (g := g) (g1 := g)
    (ρ := [.d (dI w), .own [], .d (dP (0, 1)), .d (dP (1, 0)), .un])
    (fun i ρ g' => g' = g ∧ ∃ (l n : Int × Int) (x : SV), (along l n (w.drop i)) = (along (0, 1) (1, 0) w).drop i ∧ ρ = [.d (dI w), .own (((along (0, 1) (1, 0) w).take i).map dP), .d (dP l), .d (dP n), x]) (by simp (disch := omega) only [eV_ap, eC_ap, eBin_ap, eNeg_ap, tVal_ap, eIsN_ap, eNotN_ap, eChain_ap, tAndF_ap, tOrF_ap, tNotF_ap, tTru_ap, eAnd_ap, eOr_ap, eNot_ap, eIf_ap, aNil_ap, aCons_ap, eTup_ap, eLst_ap, oNone_ap, oSome_ap, eSl_ap, eCall_ap, iLst_ap, iTpl_ap, iRan2_apN, eOf_ap, oLst_ap, oCat_ap, oRep_ap, oSl_ap, oList_ap, oComp_ap, tYesF_ap, sNil_ap, sSeq_th, sBrk_ap, sCnt_ap, sExpr_ap, sRet_ap, sRetN_ap, sIf_ap, sSet_ap, sSetO_ap, sAsg_ap, sPar_ap, sPar3_ap, sAug_ap, sApp_ap, sExt_ap, sSetIx_ap, sFrz_ap, eIxO_ap, eLenO_ap, eIxA_ap, eLenA_ap, vOf_ap, vCons_ap, vOwn_ap, sTup_ap, iSeq_ap, sRaise_ap, sTry_ap, eExF_ap, tIfF_ap, eRev_ap, eRevF_ap, th_nx, th_rt, th_bk, th_ct, th_exc, bind_ok, bind_exc, go_ok, go_exc, opAdd_int, opSub_int, opMul_a, opMul_b, opDiv_pos, opDiv_wide, opMod_pos, opI_int, opEq_int, opNe_int, opEq_bool, opNe_bool, atI_0, atI_1, atI_2, atI_3, opIx_list, opIx_tuple, iRan1_ap, bLen_list, bLen_tuple, bInt_int, bAbs_int, bName, bNil, bCons, bTup, List.getElem?_cons_zero, List.getElem?_cons_succ, List.set_cons_zero, List.set_cons_succ, List.length_cons, List.length_nil, noTok, if_true, if_false, decide_true, decide_false, Bool.not_true, Bool.not_false, setAll, List.map_cons, List.map_nil, truD, Bool.true_eq_false, Bool.false_eq_true, Option.bind_some, true_and, and_true, List.replicate, startR, List.cons_append, List.nil_append, Nat.sub_self, reduceIte, ↓reduceIte, isNon, LIM_eq, and_self, List.map_append, List.length_map, Int.toNat_natCast, Nat.zero_le, Nat.reduceLeDiff, Int.reduceNeg, Int.reduceLE, Int.reduceLT, Int.zero_add, ran1_int, ran2_int]) ⟨rfl, (0, 1), (1, 0), .un, rfl, rfl⟩ (by
      rintro i hi ρ g' ⟨rfl, l, n, x, e, rfl⟩
      rw [List.length_map] at hi
      obtain ⟨b1, b2⟩ := small (hw _ (List.getElem_mem hi))
      have hd := e
      rw [List.drop_eq_getElem_cons hi, along] at hd
      have hi3 : i < (along (0, 1) (1, 0) w).length := by rw [along_len]; exact hi
      rw [List.drop_eq_getElem_cons hi3] at hd
      obtain ⟨h1, h2⟩ := List.cons.inj hd
      have ht : (along (0, 1) (1, 0) w).take (i + 1) = (along (0, 1) (1, 0) w).take i ++ [(w[i] * n.1 + l.1, w[i] * n.2 + l.2)] := by
        rw [List.take_add_one, List.getElem?_eq_getElem hi3, ← h1]
        rfl
      have hl2 : ((along (0, 1) (1, 0) w).take i).length < 1000000 := by
        rw [List.length_take, along_len]
        omega
      rw [get_map (by rw [List.length_map]; exact hi)]
      generalize w[i] = y at *
      refine ⟨_, _, g', rfl, .inl ?_, rfl, n, (y * n.1 + l.1, y * n.2 + l.2), .d (.int y), h2, rfl⟩
      rw [ht]
      simp (disch := omega) only [B_parts_along_2, S_parts_along_3, S_parts_along_4, hl2, eV_ap, eC_ap, eBin_ap, eNeg_ap, tVal_ap, eIsN_ap, eNotN_ap, eChain_ap, tAndF_ap, tOrF_ap, tNotF_ap, tTru_ap, eAnd_ap, eOr_ap, eNot_ap, eIf_ap, aNil_ap, aCons_ap, eTup_ap, eLst_ap, oNone_ap, oSome_ap, eSl_ap, eCall_ap, iLst_ap, iTpl_ap, iRan2_apN, eOf_ap, oLst_ap, oCat_ap, oRep_ap, oSl_ap, oList_ap, oComp_ap, tYesF_ap, sNil_ap, sSeq_th, sBrk_ap, sCnt_ap, sExpr_ap, sRet_ap, sRetN_ap, sIf_ap, sSet_ap, sSetO_ap, sAsg_ap, sPar_ap, sPar3_ap, sAug_ap, sApp_ap, sExt_ap, sSetIx_ap, sFrz_ap, eIxO_ap, eLenO_ap, eIxA_ap, eLenA_ap, vOf_ap, vCons_ap, vOwn_ap, sTup_ap, iSeq_ap, sRaise_ap, sTry_ap, eExF_ap, tIfF_ap, eRev_ap, eRevF_ap, th_nx, th_rt, th_bk, th_ct, th_exc, bind_ok, bind_exc, go_ok, go_exc, opAdd_int, opSub_int, opMul_a, opMul_b, opDiv_pos, opDiv_wide, opMod_pos, opI_int, opEq_int, opNe_int, opEq_bool, opNe_bool, atI_0, atI_1, atI_2, atI_3, opIx_list, opIx_tuple, iRan1_ap, bLen_list, bLen_tuple, bInt_int, bAbs_int, bName, bNil, bCons, bTup, List.getElem?_cons_zero, List.getElem?_cons_succ, List.set_cons_zero, List.set_cons_succ, List.length_cons, List.length_nil, noTok, if_true, if_false, decide_true, decide_false, Bool.not_true, Bool.not_false, setAll, List.map_cons, List.map_nil, truD, Bool.true_eq_false, Bool.false_eq_true, Option.bind_some, true_and, and_true, List.replicate, startR, List.cons_append, List.nil_append, Nat.sub_self, reduceIte, ↓reduceIte, isNon, LIM_eq, and_self, List.map_append, List.length_map, Int.toNat_natCast, Nat.zero_le, Nat.reduceLeDiff, Int.reduceNeg, Int.reduceLE, Int.reduceLT, Int.zero_add, ran1_int, ran2_int])
  refine seq_nx (show S_parts_along_2 _ _ = _ from hf) ?_
  rw [List.length_map, List.take_of_length_le (by rw [along_len]; exact Nat.le_refl _)]
  simp (disch := omega) only [S_parts_along_5, eV_ap, eC_ap, eBin_ap, eNeg_ap, tVal_ap, eIsN_ap, eNotN_ap, eChain_ap, tAndF_ap, tOrF_ap, tNotF_ap, tTru_ap, eAnd_ap, eOr_ap, eNot_ap, eIf_ap, aNil_ap, aCons_ap, eTup_ap, eLst_ap, oNone_ap, oSome_ap, eSl_ap, eCall_ap, iLst_ap, iTpl_ap, iRan2_apN, eOf_ap, oLst_ap, oCat_ap, oRep_ap, oSl_ap, oList_ap, oComp_ap, tYesF_ap, sNil_ap, sSeq_th, sBrk_ap, sCnt_ap, sExpr_ap, sRet_ap, sRetN_ap, sIf_ap, sSet_ap, sSetO_ap, sAsg_ap, sPar_ap, sPar3_ap, sAug_ap, sApp_ap, sExt_ap, sSetIx_ap, sFrz_ap, eIxO_ap, eLenO_ap, eIxA_ap, eLenA_ap, vOf_ap, vCons_ap, vOwn_ap, sTup_ap, iSeq_ap, sRaise_ap, sTry_ap, eExF_ap, tIfF_ap, eRev_ap, eRevF_ap, th_nx, th_rt, th_bk, th_ct, th_exc, bind_ok, bind_exc, go_ok, go_exc, opAdd_int, opSub_int, opMul_a, opMul_b, opDiv_pos, opDiv_wide, opMod_pos, opI_int, opEq_int, opNe_int, opEq_bool, opNe_bool, atI_0, atI_1, atI_2, atI_3, opIx_list, opIx_tuple, iRan1_ap, bLen_list, bLen_tuple, bInt_int, bAbs_int, bName, bNil, bCons, bTup, List.getElem?_cons_zero, List.getElem?_cons_succ, List.set_cons_zero, List.set_cons_succ, List.length_cons, List.length_nil, noTok, if_true, if_false, decide_true, decide_false, Bool.not_true, Bool.not_false, setAll, List.map_cons, List.map_nil, truD, Bool.true_eq_false, Bool.false_eq_true, Option.bind_some, true_and, and_true, List.replicate, startR, List.cons_append, List.nil_append, Nat.sub_self, reduceIte, ↓reduceIte, isNon, LIM_eq, and_self, List.map_append, List.length_map, Int.toNat_natCast, Nat.zero_le, Nat.reduceLeDiff, Int.reduceNeg, Int.reduceLE, Int.reduceLT, Int.zero_add, ran1_int, ran2_int]
end K45
namespace K45
open PySem
open PySem.Spec
open PyProof.Rows
open L2
open DL
theorem mulOk_k {k : Nat} {i j : Int} (hk : k ≤ 400000) (h1 : i.natAbs < 2 ^ k) (h2 : j.natAbs < 2 ^ k) : MulOk i j := by
  have l : ∀ n : Nat, n < 2 ^ k → n.log2 ≤ k := fun n h => by
    by_cases hn : n = 0
    · subst hn
      exact Nat.zero_le _
    · exact Nat.le_of_lt ((Nat.log2_lt hn).mpr h)
  have := l _ h1
  have := l _ h2
  exact .inr (.inr (by omega))
theorem atI_map {α : Type} {f : α → D} {xs : List α} {i : Nat} {x : α} (h : xs[i]? = some x) : atI (xs.map f) (i : Int) = some (f x) := by
  rw [atI_n (by omega), Int.toNat_natCast, List.getElem?_map, h]
  rfl
theorem m_sides_eq {a b : Int} {rows : List (Int × Int)} {g : G} {k : Nat} (hk : k ≤ 400000) (ha : -4611686018427387904 < a ∧ a < 4611686018427387904) (hb : -4611686018427387904 < b ∧ b < 4611686018427387904) (hlen : rows.length ≤ 100000)
    (hbig : ∀ p ∈ rows, p.1.natAbs < 2 ^ k ∧ p.2.natAbs < 2 ^ k)
    (F1 : ∀ (i : Nat) (q : Int × Int), rows[i]? = some q → (i + 1 = rows.length → q.1 * b - a * q.2 = 0) ∧ (i + 1 < rows.length → if i % 2 = 0 then q.1 * b - a * q.2 < 0 else 0 < q.1 * b - a * q.2))
    (F2 : ∀ (i : Nat) (p q : Int × Int), rows[i]? = some p → rows[i + 1]? = some q → q.1 * p.2 - p.1 * q.2 = if (i + 1) % 2 = 1 then 1 else -1) : m__law_sides [.int a, .int b, dPs rows] g = .ok (.bool true) g := by
  refine m_rt (np := 3) rfl ?_
  obtain ⟨ρ1, g1, ⟨rfl, x, y, rfl⟩, hf⟩ := sFor_run (fi := iRan1 (aCons (eCall bLen (aCons (eV 2) aNil)) aNil)) (b := bName 3) (f := B__law_sides_1) (items := upTo 0 rows.length) (g := g) (g1 := g)
    (ρ := [.d (.int a), .d (.int b), .d (dPs rows), .un, .un])
    (fun i ρ g' => g' = g ∧ ∃ (x y : SV), ρ = [.d (.int a), .d (.int b), .d (dPs rows), x, y]) (by simp (disch := omega) only [eV_ap, eC_ap, eBin_ap, eNeg_ap, tVal_ap, eIsN_ap, eNotN_ap, eChain_ap, tAndF_ap, tOrF_ap, tNotF_ap, tTru_ap, eAnd_ap, eOr_ap, eNot_ap, eIf_ap, aNil_ap, aCons_ap, eTup_ap, eLst_ap, oNone_ap, oSome_ap, eSl_ap, eCall_ap, iLst_ap, iTpl_ap, iRan2_apN, eOf_ap, oLst_ap, oCat_ap, oRep_ap, oSl_ap, oList_ap, oComp_ap, tYesF_ap, sNil_ap, sSeq_th, sBrk_ap, sCnt_ap, sExpr_ap, sRet_ap, sRetN_ap, sIf_ap, sSet_ap, sSetO_ap, sAsg_ap, sPar_ap, sPar3_ap, sAug_ap, sApp_ap, sExt_ap, sSetIx_ap, sFrz_ap, eIxO_ap, eLenO_ap, eIxA_ap, eLenA_ap, vOf_ap, vCons_ap, vOwn_ap, sTup_ap, iSeq_ap, sRaise_ap, sTry_ap, eExF_ap, tIfF_ap, eRev_ap, eRevF_ap, th_nx, th_rt, th_bk, th_ct, th_exc, bind_ok, bind_exc, go_ok, go_exc, opAdd_int, opSub_int, opMul_a, opMul_b, opDiv_pos, opDiv_wide, opMod_pos, opI_int, opEq_int, opNe_int, opEq_bool, opNe_bool, atI_0, atI_1, atI_2, atI_3, opIx_list, opIx_tuple, iRan1_ap, bLen_list, bLen_tuple, bInt_int, bAbs_int, bName, bNil, bCons, bTup, List.getElem?_cons_zero, List.getElem?_cons_succ, List.set_cons_zero, List.set_cons_succ, List.length_cons, List.length_nil, noTok, if_true, if_false, decide_true, decide_false, Bool.not_true, Bool.not_false, setAll, List.map_cons, List.map_nil, truD, Bool.true_eq_false, Bool.false_eq_true, Option.bind_some, true_and, and_true, List.replicate, startR, List.cons_append, List.nil_append, Nat.sub_self, reduceIte, ↓reduceIte, isNon, LIM_eq, and_self, List.map_append, List.length_map, Int.toNat_natCast, Nat.zero_le, Nat.reduceLeDiff, Int.reduceNeg, Int.reduceLE, Int.reduceLT, Int.zero_add, ran1_int, ran2_int]) ⟨rfl, .un, .un, rfl⟩ (by
      rintro i hi ρ g' ⟨rfl, x, y, rfl⟩
      rw [upTo_len] at hi
      have ei : (upTo 0 rows.length)[i]'(by rw [upTo_len]; exact hi) = .int (i : Int) := by
        have := (upTo_get (lo := 0) (n := rows.length) (i := i) (d := _) (List.getElem?_eq_getElem (by rw [upTo_len]; exact hi))).2
        rw [this, Int.zero_add]
      rw [ei]
      have gi : rows[i]? = some rows[i] := List.getElem?_eq_getElem hi
      have f1 := F1 i _ gi
      have e1 : atI (rows.map dP) (i : Int) = some (dP rows[i]) := atI_map gi
      refine ⟨_, [.d (.int a), .d (.int b), .d (dPs rows), .d (.int (i : Int)), .d (.int (rows[i].1 * b - a * rows[i].2))], g', rfl, .inl ?_, rfl, _, _, rfl⟩
      have s2 : S__law_sides_2 ([SV.d (.int a), SV.d (.int b), SV.d (dPs rows), x, y].set 3 (SV.d (.int (i : Int)))) g' = .nx [.d (.int a), .d (.int b), .d (dPs rows), .d (.int (i : Int)), .d (.int (rows[i].1 * b - a * rows[i].2))] g' := by
        simp (disch := omega) only [S__law_sides_2, e1, eV_ap, eC_ap, eBin_ap, eNeg_ap, tVal_ap, eIsN_ap, eNotN_ap, eChain_ap, tAndF_ap, tOrF_ap, tNotF_ap, tTru_ap, eAnd_ap, eOr_ap, eNot_ap, eIf_ap, aNil_ap, aCons_ap, eTup_ap, eLst_ap, oNone_ap, oSome_ap, eSl_ap, eCall_ap, iLst_ap, iTpl_ap, iRan2_apN, eOf_ap, oLst_ap, oCat_ap, oRep_ap, oSl_ap, oList_ap, oComp_ap, tYesF_ap, sNil_ap, sSeq_th, sBrk_ap, sCnt_ap, sExpr_ap, sRet_ap, sRetN_ap, sIf_ap, sSet_ap, sSetO_ap, sAsg_ap, sPar_ap, sPar3_ap, sAug_ap, sApp_ap, sExt_ap, sSetIx_ap, sFrz_ap, eIxO_ap, eLenO_ap, eIxA_ap, eLenA_ap, vOf_ap, vCons_ap, vOwn_ap, sTup_ap, iSeq_ap, sRaise_ap, sTry_ap, eExF_ap, tIfF_ap, eRev_ap, eRevF_ap, th_nx, th_rt, th_bk, th_ct, th_exc, bind_ok, bind_exc, go_ok, go_exc, opAdd_int, opSub_int, opMul_a, opMul_b, opDiv_pos, opDiv_wide, opMod_pos, opI_int, opEq_int, opNe_int, opEq_bool, opNe_bool, atI_0, atI_1, atI_2, atI_3, opIx_list, opIx_tuple, iRan1_ap, bLen_list, bLen_tuple, bInt_int, bAbs_int, bName, bNil, bCons, bTup, List.getElem?_cons_zero, List.getElem?_cons_succ, List.set_cons_zero, List.set_cons_succ, List.length_cons, List.length_nil, noTok, if_true, if_false, decide_true, decide_false, Bool.not_true, Bool.not_false, setAll, List.map_cons, List.map_nil, truD, Bool.true_eq_false, Bool.false_eq_true, Option.bind_some, true_and, and_true, List.replicate, startR, List.cons_append, List.nil_append, Nat.sub_self, reduceIte, ↓reduceIte, isNon, LIM_eq, and_self, List.map_append, List.length_map, Int.toNat_natCast, Nat.zero_le, Nat.reduceLeDiff, Int.reduceNeg, Int.reduceLE, Int.reduceLT, Int.zero_add, ran1_int, ran2_int]
      have s3 : S__law_sides_3 [.d (.int a), .d (.int b), .d (dPs rows), .d (.int (i : Int)), .d (.int (rows[i].1 * b - a * rows[i].2))] g' = .nx [.d (.int a), .d (.int b), .d (dPs rows), .d (.int (i : Int)), .d (.int (rows[i].1 * b - a * rows[i].2))] g' := by
        by_cases hL : i + 1 = rows.length
        · have h0 := f1.1 hL
          simp (disch := omega) only [S__law_sides_3, show (i : Int) = (rows.length : Int) - 1 by omega, h0, show ¬ ((rows.length : Int) - 1 < (rows.length : Int) - 1) by omega, eV_ap, eC_ap, eBin_ap, eNeg_ap, tVal_ap, eIsN_ap, eNotN_ap, eChain_ap, tAndF_ap, tOrF_ap, tNotF_ap, tTru_ap, eAnd_ap, eOr_ap, eNot_ap, eIf_ap, aNil_ap, aCons_ap, eTup_ap, eLst_ap, oNone_ap, oSome_ap, eSl_ap, eCall_ap, iLst_ap, iTpl_ap, iRan2_apN, eOf_ap, oLst_ap, oCat_ap, oRep_ap, oSl_ap, oList_ap, oComp_ap, tYesF_ap, sNil_ap, sSeq_th, sBrk_ap, sCnt_ap, sExpr_ap, sRet_ap, sRetN_ap, sIf_ap, sSet_ap, sSetO_ap, sAsg_ap, sPar_ap, sPar3_ap, sAug_ap, sApp_ap, sExt_ap, sSetIx_ap, sFrz_ap, eIxO_ap, eLenO_ap, eIxA_ap, eLenA_ap, vOf_ap, vCons_ap, vOwn_ap, sTup_ap, iSeq_ap, sRaise_ap, sTry_ap, eExF_ap, tIfF_ap, eRev_ap, eRevF_ap, th_nx, th_rt, th_bk, th_ct, th_exc, bind_ok, bind_exc, go_ok, go_exc, opAdd_int, opSub_int, opMul_a, opMul_b, opDiv_pos, opDiv_wide, opMod_pos, opI_int, opEq_int, opNe_int, opEq_bool, opNe_bool, atI_0, atI_1, atI_2, atI_3, opIx_list, opIx_tuple, iRan1_ap, bLen_list, bLen_tuple, bInt_int, bAbs_int, bName, bNil, bCons, bTup, List.getElem?_cons_zero, List.getElem?_cons_succ, List.set_cons_zero, List.set_cons_succ, List.length_cons, List.length_nil, noTok, if_true, if_false, decide_true, decide_false, Bool.not_true, Bool.not_false, setAll, List.map_cons, List.map_nil, truD, Bool.true_eq_false, Bool.false_eq_true, Option.bind_some, true_and, and_true, List.replicate, startR, List.cons_append, List.nil_append, Nat.sub_self, reduceIte, ↓reduceIte, isNon, LIM_eq, and_self, List.map_append, List.length_map, Int.toNat_natCast, Nat.zero_le, Nat.reduceLeDiff, Int.reduceNeg, Int.reduceLE, Int.reduceLT, Int.zero_add, ran1_int, ran2_int]
        · have h0 := f1.2 (by omega)
          by_cases hp : i % 2 = 0
          · rw [if_pos hp] at h0
            simp (disch := omega) only [S__law_sides_3, show ¬ (i : Int) = (rows.length : Int) - 1 by omega, show (i : Int) < (rows.length : Int) - 1 by omega, show (i : Int) % 2 = 0 by omega, show ¬ 0 ≤ rows[i].1 * b - a * rows[i].2 by omega, eV_ap, eC_ap, eBin_ap, eNeg_ap, tVal_ap, eIsN_ap, eNotN_ap, eChain_ap, tAndF_ap, tOrF_ap, tNotF_ap, tTru_ap, eAnd_ap, eOr_ap, eNot_ap, eIf_ap, aNil_ap, aCons_ap, eTup_ap, eLst_ap, oNone_ap, oSome_ap, eSl_ap, eCall_ap, iLst_ap, iTpl_ap, iRan2_apN, eOf_ap, oLst_ap, oCat_ap, oRep_ap, oSl_ap, oList_ap, oComp_ap, tYesF_ap, sNil_ap, sSeq_th, sBrk_ap, sCnt_ap, sExpr_ap, sRet_ap, sRetN_ap, sIf_ap, sSet_ap, sSetO_ap, sAsg_ap, sPar_ap, sPar3_ap, sAug_ap, sApp_ap, sExt_ap, sSetIx_ap, sFrz_ap, eIxO_ap, eLenO_ap, eIxA_ap, eLenA_ap, vOf_ap, vCons_ap, vOwn_ap, sTup_ap, iSeq_ap, sRaise_ap, sTry_ap, eExF_ap, tIfF_ap, eRev_ap, eRevF_ap, th_nx, th_rt, th_bk, th_ct, th_exc, bind_ok, bind_exc, go_ok, go_exc, opAdd_int, opSub_int, opMul_a, opMul_b, opDiv_pos, opDiv_wide, opMod_pos, opI_int, opEq_int, opNe_int, opEq_bool, opNe_bool, atI_0, atI_1, atI_2, atI_3, opIx_list, opIx_tuple, iRan1_ap, bLen_list, bLen_tuple, bInt_int, bAbs_int, bName, bNil, bCons, bTup, List.getElem?_cons_zero, List.getElem?_cons_succ, List.set_cons_zero, List.set_cons_succ, List.length_cons, List.length_nil, noTok, if_true, if_false, decide_true, decide_false, Bool.not_true, Bool.not_false, setAll, List.map_cons, List.map_nil, truD, Bool.true_eq_false, Bool.false_eq_true, Option.bind_some, true_and, and_true, List.replicate, startR, List.cons_append, List.nil_append, Nat.sub_self, reduceIte, ↓reduceIte, isNon, LIM_eq, and_self, List.map_append, List.length_map, Int.toNat_natCast, Nat.zero_le, Nat.reduceLeDiff, Int.reduceNeg, Int.reduceLE, Int.reduceLT, Int.zero_add, ran1_int, ran2_int]
          · rw [if_neg hp] at h0
            simp (disch := omega) only [S__law_sides_3, show ¬ (i : Int) = (rows.length : Int) - 1 by omega, show (i : Int) < (rows.length : Int) - 1 by omega, show ¬ (i : Int) % 2 = 0 by omega, show ¬ rows[i].1 * b - a * rows[i].2 ≤ 0 by omega, eV_ap, eC_ap, eBin_ap, eNeg_ap, tVal_ap, eIsN_ap, eNotN_ap, eChain_ap, tAndF_ap, tOrF_ap, tNotF_ap, tTru_ap, eAnd_ap, eOr_ap, eNot_ap, eIf_ap, aNil_ap, aCons_ap, eTup_ap, eLst_ap, oNone_ap, oSome_ap, eSl_ap, eCall_ap, iLst_ap, iTpl_ap, iRan2_apN, eOf_ap, oLst_ap, oCat_ap, oRep_ap, oSl_ap, oList_ap, oComp_ap, tYesF_ap, sNil_ap, sSeq_th, sBrk_ap, sCnt_ap, sExpr_ap, sRet_ap, sRetN_ap, sIf_ap, sSet_ap, sSetO_ap, sAsg_ap, sPar_ap, sPar3_ap, sAug_ap, sApp_ap, sExt_ap, sSetIx_ap, sFrz_ap, eIxO_ap, eLenO_ap, eIxA_ap, eLenA_ap, vOf_ap, vCons_ap, vOwn_ap, sTup_ap, iSeq_ap, sRaise_ap, sTry_ap, eExF_ap, tIfF_ap, eRev_ap, eRevF_ap, th_nx, th_rt, th_bk, th_ct, th_exc, bind_ok, bind_exc, go_ok, go_exc, opAdd_int, opSub_int, opMul_a, opMul_b, opDiv_pos, opDiv_wide, opMod_pos, opI_int, opEq_int, opNe_int, opEq_bool, opNe_bool, atI_0, atI_1, atI_2, atI_3, opIx_list, opIx_tuple, iRan1_ap, bLen_list, bLen_tuple, bInt_int, bAbs_int, bName, bNil, bCons, bTup, List.getElem?_cons_zero, List.getElem?_cons_succ, List.set_cons_zero, List.set_cons_succ, List.length_cons, List.length_nil, noTok, if_true, if_false, decide_true, decide_false, Bool.not_true, Bool.not_false, setAll, List.map_cons, List.map_nil, truD, Bool.true_eq_false, Bool.false_eq_true, Option.bind_some, true_and, and_true, List.replicate, startR, List.cons_append, List.nil_append, Nat.sub_self, reduceIte, ↓reduceIte, isNon, LIM_eq, and_self, List.map_append, List.length_map, Int.toNat_natCast, Nat.zero_le, Nat.reduceLeDiff, Int.reduceNeg, Int.reduceLE, Int.reduceLT, Int.zero_add, ran1_int, ran2_int]
      have s5 : S__law_sides_5 [.d (.int a), .d (.int b), .d (dPs rows), .d (.int (i : Int)), .d (.int (rows[i].1 * b - a * rows[i].2))] g' = .nx [.d (.int a), .d (.int b), .d (dPs rows), .d (.int (i : Int)), .d (.int (rows[i].1 * b - a * rows[i].2))] g' := by
        cases i with
        | zero => simp (disch := omega) only [S__law_sides_5, show ¬ (0 : Int) < ((0 : Nat) : Int) by omega, eV_ap, eC_ap, eBin_ap, eNeg_ap, tVal_ap, eIsN_ap, eNotN_ap, eChain_ap, tAndF_ap, tOrF_ap, tNotF_ap, tTru_ap, eAnd_ap, eOr_ap, eNot_ap, eIf_ap, aNil_ap, aCons_ap, eTup_ap, eLst_ap, oNone_ap, oSome_ap, eSl_ap, eCall_ap, iLst_ap, iTpl_ap, iRan2_apN, eOf_ap, oLst_ap, oCat_ap, oRep_ap, oSl_ap, oList_ap, oComp_ap, tYesF_ap, sNil_ap, sSeq_th, sBrk_ap, sCnt_ap, sExpr_ap, sRet_ap, sRetN_ap, sIf_ap, sSet_ap, sSetO_ap, sAsg_ap, sPar_ap, sPar3_ap, sAug_ap, sApp_ap, sExt_ap, sSetIx_ap, sFrz_ap, eIxO_ap, eLenO_ap, eIxA_ap, eLenA_ap, vOf_ap, vCons_ap, vOwn_ap, sTup_ap, iSeq_ap, sRaise_ap, sTry_ap, eExF_ap, tIfF_ap, eRev_ap, eRevF_ap, th_nx, th_rt, th_bk, th_ct, th_exc, bind_ok, bind_exc, go_ok, go_exc, opAdd_int, opSub_int, opMul_a, opMul_b, opDiv_pos, opDiv_wide, opMod_pos, opI_int, opEq_int, opNe_int, opEq_bool, opNe_bool, atI_0, atI_1, atI_2, atI_3, opIx_list, opIx_tuple, iRan1_ap, bLen_list, bLen_tuple, bInt_int, bAbs_int, bName, bNil, bCons, bTup, List.getElem?_cons_zero, List.getElem?_cons_succ, List.set_cons_zero, List.set_cons_succ, List.length_cons, List.length_nil, noTok, if_true, if_false, decide_true, decide_false, Bool.not_true, Bool.not_false, setAll, List.map_cons, List.map_nil, truD, Bool.true_eq_false, Bool.false_eq_true, Option.bind_some, true_and, and_true, List.replicate, startR, List.cons_append, List.nil_append, Nat.sub_self, reduceIte, ↓reduceIte, isNon, LIM_eq, and_self, List.map_append, List.length_map, Int.toNat_natCast, Nat.zero_le, Nat.reduceLeDiff, Int.reduceNeg, Int.reduceLE, Int.reduceLT, Int.zero_add, ran1_int, ran2_int]
        | succ j =>
          have hj : j < rows.length := by omega
          have gj : rows[j]? = some rows[j] := List.getElem?_eq_getElem hj
          have f2 := F2 j _ _ gj gi
          have m1 : MulOk rows[j + 1].1 rows[j].2 := mulOk_k hk (hbig _ (List.getElem_mem hi)).1 (hbig _ (List.getElem_mem hj)).2
          have m2 : MulOk rows[j].1 rows[j + 1].2 := mulOk_k hk (hbig _ (List.getElem_mem hj)).1 (hbig _ (List.getElem_mem hi)).2
          have e2 : atI (rows.map dP) (((j + 1 : Nat) : Int) - 1) = some (dP rows[j]) := by
            rw [show (((j + 1 : Nat) : Int) - 1) = (j : Int) by omega]
            exact atI_map gj
          by_cases hp : (j + 1) % 2 = 1
          · rw [if_pos hp] at f2
            simp (disch := omega) only [S__law_sides_5, show (0 : Int) < ((j + 1 : Nat) : Int) by omega, e1, e2, opMul_ok m1, opMul_ok m2, show ((j + 1 : Nat) : Int) % 2 = 1 by omega, f2, eV_ap, eC_ap, eBin_ap, eNeg_ap, tVal_ap, eIsN_ap, eNotN_ap, eChain_ap, tAndF_ap, tOrF_ap, tNotF_ap, tTru_ap, eAnd_ap, eOr_ap, eNot_ap, eIf_ap, aNil_ap, aCons_ap, eTup_ap, eLst_ap, oNone_ap, oSome_ap, eSl_ap, eCall_ap, iLst_ap, iTpl_ap, iRan2_apN, eOf_ap, oLst_ap, oCat_ap, oRep_ap, oSl_ap, oList_ap, oComp_ap, tYesF_ap, sNil_ap, sSeq_th, sBrk_ap, sCnt_ap, sExpr_ap, sRet_ap, sRetN_ap, sIf_ap, sSet_ap, sSetO_ap, sAsg_ap, sPar_ap, sPar3_ap, sAug_ap, sApp_ap, sExt_ap, sSetIx_ap, sFrz_ap, eIxO_ap, eLenO_ap, eIxA_ap, eLenA_ap, vOf_ap, vCons_ap, vOwn_ap, sTup_ap, iSeq_ap, sRaise_ap, sTry_ap, eExF_ap, tIfF_ap, eRev_ap, eRevF_ap, th_nx, th_rt, th_bk, th_ct, th_exc, bind_ok, bind_exc, go_ok, go_exc, opAdd_int, opSub_int, opMul_a, opMul_b, opDiv_pos, opDiv_wide, opMod_pos, opI_int, opEq_int, opNe_int, opEq_bool, opNe_bool, atI_0, atI_1, atI_2, atI_3, opIx_list, opIx_tuple, iRan1_ap, bLen_list, bLen_tuple, bInt_int, bAbs_int, bName, bNil, bCons, bTup, List.getElem?_cons_zero, List.getElem?_cons_succ, List.set_cons_zero, List.set_cons_succ, List.length_cons, List.length_nil, noTok, if_true, if_false, decide_true, decide_false, Bool.not_true, Bool.not_false, setAll, List.map_cons, List.map_nil, truD, Bool.true_eq_false, Bool.false_eq_true, Option.bind_some, true_and, and_true, List.replicate, startR, List.cons_append, List.nil_append, Nat.sub_self, reduceIte, ↓reduceIte, isNon, LIM_eq, and_self, List.map_append, List.length_map, Int.toNat_natCast, Nat.zero_le, Nat.reduceLeDiff, Int.reduceNeg, Int.reduceLE, Int.reduceLT, Int.zero_add, ran1_int, ran2_int]
          · rw [if_neg hp] at f2
            simp (disch := omega) only [S__law_sides_5, show (0 : Int) < ((j + 1 : Nat) : Int) by omega, e1, e2, opMul_ok m1, opMul_ok m2, show ¬ ((j + 1 : Nat) : Int) % 2 = 1 by omega, f2, eV_ap, eC_ap, eBin_ap, eNeg_ap, tVal_ap, eIsN_ap, eNotN_ap, eChain_ap, tAndF_ap, tOrF_ap, tNotF_ap, tTru_ap, eAnd_ap, eOr_ap, eNot_ap, eIf_ap, aNil_ap, aCons_ap, eTup_ap, eLst_ap, oNone_ap, oSome_ap, eSl_ap, eCall_ap, iLst_ap, iTpl_ap, iRan2_apN, eOf_ap, oLst_ap, oCat_ap, oRep_ap, oSl_ap, oList_ap, oComp_ap, tYesF_ap, sNil_ap, sSeq_th, sBrk_ap, sCnt_ap, sExpr_ap, sRet_ap, sRetN_ap, sIf_ap, sSet_ap, sSetO_ap, sAsg_ap, sPar_ap, sPar3_ap, sAug_ap, sApp_ap, sExt_ap, sSetIx_ap, sFrz_ap, eIxO_ap, eLenO_ap, eIxA_ap, eLenA_ap, vOf_ap, vCons_ap, vOwn_ap, sTup_ap, iSeq_ap, sRaise_ap, sTry_ap, eExF_ap, tIfF_ap, eRev_ap, eRevF_ap, th_nx, th_rt, th_bk, th_ct, th_exc, bind_ok, bind_exc, go_ok, go_exc, opAdd_int, opSub_int, opMul_a, opMul_b, opDiv_pos, opDiv_wide, opMod_pos, opI_int, opEq_int, opNe_int, opEq_bool, opNe_bool, atI_0, atI_1, atI_2, atI_3, opIx_list, opIx_tuple, iRan1_ap, bLen_list, bLen_tuple, bInt_int, bAbs_int, bName, bNil, bCons, bTup, List.getElem?_cons_zero, List.getElem?_cons_succ, List.set_cons_zero, List.set_cons_succ, List.length_cons, List.length_nil, noTok, if_true, if_false, decide_true, decide_false, Bool.not_true, Bool.not_false, setAll, List.map_cons, List.map_nil, truD, Bool.true_eq_false, Bool.false_eq_true, Option.bind_some, true_and, and_true, List.replicate, startR, List.cons_append, List.nil_append, Nat.sub_self, reduceIte, ↓reduceIte, isNon, LIM_eq, and_self, List.map_append, List.length_map, Int.toNat_natCast, Nat.zero_le, Nat.reduceLeDiff, Int.reduceNeg, Int.reduceLE, Int.reduceLT, Int.zero_add, ran1_int, ran2_int]
      exact seq_nx s2 (seq_nx s3 s5))
  refine seq_nx (show S__law_sides_1 _ _ = _ from hf) ?_
  simp (disch := omega) only [S__law_sides_7, eV_ap, eC_ap, eBin_ap, eNeg_ap, tVal_ap, eIsN_ap, eNotN_ap, eChain_ap, tAndF_ap, tOrF_ap, tNotF_ap, tTru_ap, eAnd_ap, eOr_ap, eNot_ap, eIf_ap, aNil_ap, aCons_ap, eTup_ap, eLst_ap, oNone_ap, oSome_ap, eSl_ap, eCall_ap, iLst_ap, iTpl_ap, iRan2_apN, eOf_ap, oLst_ap, oCat_ap, oRep_ap, oSl_ap, oList_ap, oComp_ap, tYesF_ap, sNil_ap, sSeq_th, sBrk_ap, sCnt_ap, sExpr_ap, sRet_ap, sRetN_ap, sIf_ap, sSet_ap, sSetO_ap, sAsg_ap, sPar_ap, sPar3_ap, sAug_ap, sApp_ap, sExt_ap, sSetIx_ap, sFrz_ap, eIxO_ap, eLenO_ap, eIxA_ap, eLenA_ap, vOf_ap, vCons_ap, vOwn_ap, sTup_ap, iSeq_ap, sRaise_ap, sTry_ap, eExF_ap, tIfF_ap, eRev_ap, eRevF_ap, th_nx, th_rt, th_bk, th_ct, th_exc, bind_ok, bind_exc, go_ok, go_exc, opAdd_int, opSub_int, opMul_a, opMul_b, opDiv_pos, opDiv_wide, opMod_pos, opI_int, opEq_int, opNe_int, opEq_bool, opNe_bool, atI_0, atI_1, atI_2, atI_3, opIx_list, opIx_tuple, iRan1_ap, bLen_list, bLen_tuple, bInt_int, bAbs_int, bName, bNil, bCons, bTup, List.getElem?_cons_zero, List.getElem?_cons_succ, List.set_cons_zero, List.set_cons_succ, List.length_cons, List.length_nil, noTok, if_true, if_false, decide_true, decide_false, Bool.not_true, Bool.not_false, setAll, List.map_cons, List.map_nil, truD, Bool.true_eq_false, Bool.false_eq_true, Option.bind_some, true_and, and_true, List.replicate, startR, List.cons_append, List.nil_append, Nat.sub_self, reduceIte, ↓reduceIte, isNon, LIM_eq, and_self, List.map_append, List.length_map, Int.toNat_natCast, Nat.zero_le, Nat.reduceLeDiff, Int.reduceNeg, Int.reduceLE, Int.reduceLT, Int.zero_add, ran1_int, ran2_int]
theorem m_pick_eq {row : List Int} {g : G} (hn : row ≠ []) (hl : row.length ≤ 1000) : ∃ x g', x ∈ row ∧ m__law_pick [tokD, dI row] g = .ok (.int x) g' := by
  have h0 : 0 < row.length := List.length_pos_iff.mpr hn
  obtain ⟨r, g', e, r0, r1⟩ := take_ok (row.length : Int) g (by omega)
  have hr : r.toNat < row.length := by omega
  refine ⟨row[r.toNat], g', List.getElem_mem hr, ?_⟩
  have ea : atI (row.map PyData.int) r = some (.int row[r.toNat]) := by
    rw [atI_n r0, List.getElem?_map, List.getElem?_eq_getElem hr]
    rfl
  refine m_rt (np := 2) rfl ?_
  simp (disch := omega) only [sem__law_pick, S__law_pick_1, e, ea, eV_ap, eC_ap, eBin_ap, eNeg_ap, tVal_ap, eIsN_ap, eNotN_ap, eChain_ap, tAndF_ap, tOrF_ap, tNotF_ap, tTru_ap, eAnd_ap, eOr_ap, eNot_ap, eIf_ap, aNil_ap, aCons_ap, eTup_ap, eLst_ap, oNone_ap, oSome_ap, eSl_ap, eCall_ap, iLst_ap, iTpl_ap, iRan2_apN, eOf_ap, oLst_ap, oCat_ap, oRep_ap, oSl_ap, oList_ap, oComp_ap, tYesF_ap, sNil_ap, sSeq_th, sBrk_ap, sCnt_ap, sExpr_ap, sRet_ap, sRetN_ap, sIf_ap, sSet_ap, sSetO_ap, sAsg_ap, sPar_ap, sPar3_ap, sAug_ap, sApp_ap, sExt_ap, sSetIx_ap, sFrz_ap, eIxO_ap, eLenO_ap, eIxA_ap, eLenA_ap, vOf_ap, vCons_ap, vOwn_ap, sTup_ap, iSeq_ap, sRaise_ap, sTry_ap, eExF_ap, tIfF_ap, eRev_ap, eRevF_ap, th_nx, th_rt, th_bk, th_ct, th_exc, bind_ok, bind_exc, go_ok, go_exc, opAdd_int, opSub_int, opMul_a, opMul_b, opDiv_pos, opDiv_wide, opMod_pos, opI_int, opEq_int, opNe_int, opEq_bool, opNe_bool, atI_0, atI_1, atI_2, atI_3, opIx_list, opIx_tuple, iRan1_ap, bLen_list, bLen_tuple, bInt_int, bAbs_int, bName, bNil, bCons, bTup, List.getElem?_cons_zero, List.getElem?_cons_succ, List.set_cons_zero, List.set_cons_succ, List.length_cons, List.length_nil, noTok, if_true, if_false, decide_true, decide_false, Bool.not_true, Bool.not_false, setAll, List.map_cons, List.map_nil, truD, Bool.true_eq_false, Bool.false_eq_true, Option.bind_some, true_and, and_true, List.replicate, startR, List.cons_append, List.nil_append, Nat.sub_self, reduceIte, ↓reduceIte, isNon, LIM_eq, and_self, List.map_append, List.length_map, Int.toNat_natCast, Nat.zero_le, Nat.reduceLeDiff, Int.reduceNeg, Int.reduceLE, Int.reduceLT, Int.zero_add, ran1_int, ran2_int]
end K45
namespace K45
open PySem
open PySem.Spec
open PyProof.Rows
open L2
open DL
theorem m_is_square_eq {n w : Int} {g : G} (hn : n < 4611686018427387904) (h0 : 0 ≤ w) (hw : w < 2147483648) (h1 : w * w ≤ n) (h2 : n < (w + 1) * (w + 1)) : m_is_square [.int n] g = .ok (.bool (decide (w * w = n))) g := by
  have n0 : 0 ≤ n := by
    have := Int.mul_nonneg h0 h0
    omega
  refine m_rt (np := 1) rfl ?_
  simp (disch := omega) only [sem_is_square, S_is_square_1, m_root_eq hn h0 h1 h2, n0, eV_ap, eC_ap, eBin_ap, eNeg_ap, tVal_ap, eIsN_ap, eNotN_ap, eChain_ap, tAndF_ap, tOrF_ap, tNotF_ap, tTru_ap, eAnd_ap, eOr_ap, eNot_ap, eIf_ap, aNil_ap, aCons_ap, eTup_ap, eLst_ap, oNone_ap, oSome_ap, eSl_ap, eCall_ap, iLst_ap, iTpl_ap, iRan2_apN, eOf_ap, oLst_ap, oCat_ap, oRep_ap, oSl_ap, oList_ap, oComp_ap, tYesF_ap, sNil_ap, sSeq_th, sBrk_ap, sCnt_ap, sExpr_ap, sRet_ap, sRetN_ap, sIf_ap, sSet_ap, sSetO_ap, sAsg_ap, sPar_ap, sPar3_ap, sAug_ap, sApp_ap, sExt_ap, sSetIx_ap, sFrz_ap, eIxO_ap, eLenO_ap, eIxA_ap, eLenA_ap, vOf_ap, vCons_ap, vOwn_ap, sTup_ap, iSeq_ap, sRaise_ap, sTry_ap, eExF_ap, tIfF_ap, eRev_ap, eRevF_ap, th_nx, th_rt, th_bk, th_ct, th_exc, bind_ok, bind_exc, go_ok, go_exc, opAdd_int, opSub_int, opMul_a, opMul_b, opDiv_pos, opDiv_wide, opMod_pos, opI_int, opEq_int, opNe_int, opEq_bool, opNe_bool, atI_0, atI_1, atI_2, atI_3, opIx_list, opIx_tuple, iRan1_ap, bLen_list, bLen_tuple, bInt_int, bAbs_int, bName, bNil, bCons, bTup, List.getElem?_cons_zero, List.getElem?_cons_succ, List.set_cons_zero, List.set_cons_succ, List.length_cons, List.length_nil, noTok, if_true, if_false, decide_true, decide_false, Bool.not_true, Bool.not_false, setAll, List.map_cons, List.map_nil, truD, Bool.true_eq_false, Bool.false_eq_true, Option.bind_some, true_and, and_true, List.replicate, startR, List.cons_append, List.nil_append, Nat.sub_self, reduceIte, ↓reduceIte, isNon, LIM_eq, and_self, List.map_append, List.length_map, Int.toNat_natCast, Nat.zero_le, Nat.reduceLeDiff, Int.reduceNeg, Int.reduceLE, Int.reduceLT, Int.zero_add, ran1_int, ran2_int, noEx, eq_self, dI, dP, dPs]
def rcl : Nat → Int → Int → Int → Int → Option (List Int)
  | 0, _, _, _, _ => none
  | f + 1, n, w, a, b => if 0 < b ∧ b < 1000000 ∧ -1000000 < (w + a) / b * b - a ∧ (w + a) / b * b - a < 1000000 then
      (if (w + a) / b = 2 * w then some [(w + a) / b] else (rcl f n w ((w + a) / b * b - a) ((n - ((w + a) / b * b - a) * ((w + a) / b * b - a)) / b)).map ((w + a) / b :: ·)) else none
theorem rcl_run {n w : Int} {g : G} : ∀ (f N : Nat) (a b : Int) (acc l : List Int) (x : SV), rcl f n w a b = some l → f ≤ N → acc.length + f ≤ 1000 →
    whileF W_root_chain_5 B_root_chain_5 N [.d (.int n), .d (.int w), .own (acc.map .int), .d (.int a), .d (.int b), x] g = .rt (.tuple [.int w, dI (acc ++ l)]) g
  | 0, _, _, _, _, _, _, h, _, _ => by cases h
  | f + 1, 0, _, _, _, _, _, _, h, _ => absurd h (Nat.not_succ_le_zero _)
  | f + 1, N + 1, a, b, acc, l, x, h, hN, hl => by
    unfold rcl at h
    split at h
    · rename_i hc
      obtain ⟨c1, c2, c3, c4⟩ := hc
      generalize ho : (w + a) / b = one at *
      have s6 : S_root_chain_6 [.d (.int n), .d (.int w), .own (acc.map .int), .d (.int a), .d (.int b), x] g = .nx [.d (.int n), .d (.int w), .own (acc.map .int), .d (.int a), .d (.int b), .d (.int one)] g := by
        simp (disch := omega) only [S_root_chain_6, ho, eV_ap, eC_ap, eBin_ap, eNeg_ap, tVal_ap, eIsN_ap, eNotN_ap, eChain_ap, tAndF_ap, tOrF_ap, tNotF_ap, tTru_ap, eAnd_ap, eOr_ap, eNot_ap, eIf_ap, aNil_ap, aCons_ap, eTup_ap, eLst_ap, oNone_ap, oSome_ap, eSl_ap, eCall_ap, iLst_ap, iTpl_ap, iRan2_apN, eOf_ap, oLst_ap, oCat_ap, oRep_ap, oSl_ap, oList_ap, oComp_ap, tYesF_ap, sNil_ap, sSeq_th, sBrk_ap, sCnt_ap, sExpr_ap, sRet_ap, sRetN_ap, sIf_ap, sSet_ap, sSetO_ap, sAsg_ap, sPar_ap, sPar3_ap, sAug_ap, sApp_ap, sExt_ap, sSetIx_ap, sFrz_ap, eIxO_ap, eLenO_ap, eIxA_ap, eLenA_ap, vOf_ap, vCons_ap, vOwn_ap, sTup_ap, iSeq_ap, sRaise_ap, sTry_ap, eExF_ap, tIfF_ap, eRev_ap, eRevF_ap, th_nx, th_rt, th_bk, th_ct, th_exc, bind_ok, bind_exc, go_ok, go_exc, opAdd_int, opSub_int, opMul_a, opMul_b, opDiv_pos, opDiv_wide, opMod_pos, opI_int, opEq_int, opNe_int, opEq_bool, opNe_bool, atI_0, atI_1, atI_2, atI_3, opIx_list, opIx_tuple, iRan1_ap, bLen_list, bLen_tuple, bInt_int, bAbs_int, bName, bNil, bCons, bTup, List.getElem?_cons_zero, List.getElem?_cons_succ, List.set_cons_zero, List.set_cons_succ, List.length_cons, List.length_nil, noTok, if_true, if_false, decide_true, decide_false, Bool.not_true, Bool.not_false, setAll, List.map_cons, List.map_nil, truD, Bool.true_eq_false, Bool.false_eq_true, Option.bind_some, true_and, and_true, List.replicate, startR, List.cons_append, List.nil_append, Nat.sub_self, reduceIte, ↓reduceIte, isNon, LIM_eq, and_self, List.map_append, List.length_map, Int.toNat_natCast, Nat.zero_le, Nat.reduceLeDiff, Int.reduceNeg, Int.reduceLE, Int.reduceLT, Int.zero_add, ran1_int, ran2_int, noEx, eq_self, dI, dP, dPs]
      have s7 : S_root_chain_7 [.d (.int n), .d (.int w), .own (acc.map .int), .d (.int a), .d (.int b), .d (.int one)] g = .nx [.d (.int n), .d (.int w), .own ((acc ++ [one]).map .int), .d (.int a), .d (.int b), .d (.int one)] g := by
        simp (disch := omega) only [S_root_chain_7, show acc.length < 1000000 by omega, eV_ap, eC_ap, eBin_ap, eNeg_ap, tVal_ap, eIsN_ap, eNotN_ap, eChain_ap, tAndF_ap, tOrF_ap, tNotF_ap, tTru_ap, eAnd_ap, eOr_ap, eNot_ap, eIf_ap, aNil_ap, aCons_ap, eTup_ap, eLst_ap, oNone_ap, oSome_ap, eSl_ap, eCall_ap, iLst_ap, iTpl_ap, iRan2_apN, eOf_ap, oLst_ap, oCat_ap, oRep_ap, oSl_ap, oList_ap, oComp_ap, tYesF_ap, sNil_ap, sSeq_th, sBrk_ap, sCnt_ap, sExpr_ap, sRet_ap, sRetN_ap, sIf_ap, sSet_ap, sSetO_ap, sAsg_ap, sPar_ap, sPar3_ap, sAug_ap, sApp_ap, sExt_ap, sSetIx_ap, sFrz_ap, eIxO_ap, eLenO_ap, eIxA_ap, eLenA_ap, vOf_ap, vCons_ap, vOwn_ap, sTup_ap, iSeq_ap, sRaise_ap, sTry_ap, eExF_ap, tIfF_ap, eRev_ap, eRevF_ap, th_nx, th_rt, th_bk, th_ct, th_exc, bind_ok, bind_exc, go_ok, go_exc, opAdd_int, opSub_int, opMul_a, opMul_b, opDiv_pos, opDiv_wide, opMod_pos, opI_int, opEq_int, opNe_int, opEq_bool, opNe_bool, atI_0, atI_1, atI_2, atI_3, opIx_list, opIx_tuple, iRan1_ap, bLen_list, bLen_tuple, bInt_int, bAbs_int, bName, bNil, bCons, bTup, List.getElem?_cons_zero, List.getElem?_cons_succ, List.set_cons_zero, List.set_cons_succ, List.length_cons, List.length_nil, noTok, if_true, if_false, decide_true, decide_false, Bool.not_true, Bool.not_false, setAll, List.map_cons, List.map_nil, truD, Bool.true_eq_false, Bool.false_eq_true, Option.bind_some, true_and, and_true, List.replicate, startR, List.cons_append, List.nil_append, Nat.sub_self, reduceIte, ↓reduceIte, isNon, LIM_eq, and_self, List.map_append, List.length_map, Int.toNat_natCast, Nat.zero_le, Nat.reduceLeDiff, Int.reduceNeg, Int.reduceLE, Int.reduceLT, Int.zero_add, ran1_int, ran2_int, noEx, eq_self, dI, dP, dPs]
      have s8 : S_root_chain_8 [.d (.int n), .d (.int w), .own ((acc ++ [one]).map .int), .d (.int a), .d (.int b), .d (.int one)] g = .nx [.d (.int n), .d (.int w), .own ((acc ++ [one]).map .int), .d (.int (one * b - a)), .d (.int b), .d (.int one)] g := by
        simp (disch := omega) only [S_root_chain_8, eV_ap, eC_ap, eBin_ap, eNeg_ap, tVal_ap, eIsN_ap, eNotN_ap, eChain_ap, tAndF_ap, tOrF_ap, tNotF_ap, tTru_ap, eAnd_ap, eOr_ap, eNot_ap, eIf_ap, aNil_ap, aCons_ap, eTup_ap, eLst_ap, oNone_ap, oSome_ap, eSl_ap, eCall_ap, iLst_ap, iTpl_ap, iRan2_apN, eOf_ap, oLst_ap, oCat_ap, oRep_ap, oSl_ap, oList_ap, oComp_ap, tYesF_ap, sNil_ap, sSeq_th, sBrk_ap, sCnt_ap, sExpr_ap, sRet_ap, sRetN_ap, sIf_ap, sSet_ap, sSetO_ap, sAsg_ap, sPar_ap, sPar3_ap, sAug_ap, sApp_ap, sExt_ap, sSetIx_ap, sFrz_ap, eIxO_ap, eLenO_ap, eIxA_ap, eLenA_ap, vOf_ap, vCons_ap, vOwn_ap, sTup_ap, iSeq_ap, sRaise_ap, sTry_ap, eExF_ap, tIfF_ap, eRev_ap, eRevF_ap, th_nx, th_rt, th_bk, th_ct, th_exc, bind_ok, bind_exc, go_ok, go_exc, opAdd_int, opSub_int, opMul_a, opMul_b, opDiv_pos, opDiv_wide, opMod_pos, opI_int, opEq_int, opNe_int, opEq_bool, opNe_bool, atI_0, atI_1, atI_2, atI_3, opIx_list, opIx_tuple, iRan1_ap, bLen_list, bLen_tuple, bInt_int, bAbs_int, bName, bNil, bCons, bTup, List.getElem?_cons_zero, List.getElem?_cons_succ, List.set_cons_zero, List.set_cons_succ, List.length_cons, List.length_nil, noTok, if_true, if_false, decide_true, decide_false, Bool.not_true, Bool.not_false, setAll, List.map_cons, List.map_nil, truD, Bool.true_eq_false, Bool.false_eq_true, Option.bind_some, true_and, and_true, List.replicate, startR, List.cons_append, List.nil_append, Nat.sub_self, reduceIte, ↓reduceIte, isNon, LIM_eq, and_self, List.map_append, List.length_map, Int.toNat_natCast, Nat.zero_le, Nat.reduceLeDiff, Int.reduceNeg, Int.reduceLE, Int.reduceLT, Int.zero_add, ran1_int, ran2_int, noEx, eq_self, dI, dP, dPs]
      have s9 : S_root_chain_9 [.d (.int n), .d (.int w), .own ((acc ++ [one]).map .int), .d (.int (one * b - a)), .d (.int b), .d (.int one)] g = .nx [.d (.int n), .d (.int w), .own ((acc ++ [one]).map .int), .d (.int (one * b - a)), .d (.int ((n - (one * b - a) * (one * b - a)) / b)), .d (.int one)] g := by
        simp (disch := omega) only [S_root_chain_9, eV_ap, eC_ap, eBin_ap, eNeg_ap, tVal_ap, eIsN_ap, eNotN_ap, eChain_ap, tAndF_ap, tOrF_ap, tNotF_ap, tTru_ap, eAnd_ap, eOr_ap, eNot_ap, eIf_ap, aNil_ap, aCons_ap, eTup_ap, eLst_ap, oNone_ap, oSome_ap, eSl_ap, eCall_ap, iLst_ap, iTpl_ap, iRan2_apN, eOf_ap, oLst_ap, oCat_ap, oRep_ap, oSl_ap, oList_ap, oComp_ap, tYesF_ap, sNil_ap, sSeq_th, sBrk_ap, sCnt_ap, sExpr_ap, sRet_ap, sRetN_ap, sIf_ap, sSet_ap, sSetO_ap, sAsg_ap, sPar_ap, sPar3_ap, sAug_ap, sApp_ap, sExt_ap, sSetIx_ap, sFrz_ap, eIxO_ap, eLenO_ap, eIxA_ap, eLenA_ap, vOf_ap, vCons_ap, vOwn_ap, sTup_ap, iSeq_ap, sRaise_ap, sTry_ap, eExF_ap, tIfF_ap, eRev_ap, eRevF_ap, th_nx, th_rt, th_bk, th_ct, th_exc, bind_ok, bind_exc, go_ok, go_exc, opAdd_int, opSub_int, opMul_a, opMul_b, opDiv_pos, opDiv_wide, opMod_pos, opI_int, opEq_int, opNe_int, opEq_bool, opNe_bool, atI_0, atI_1, atI_2, atI_3, opIx_list, opIx_tuple, iRan1_ap, bLen_list, bLen_tuple, bInt_int, bAbs_int, bName, bNil, bCons, bTup, List.getElem?_cons_zero, List.getElem?_cons_succ, List.set_cons_zero, List.set_cons_succ, List.length_cons, List.length_nil, noTok, if_true, if_false, decide_true, decide_false, Bool.not_true, Bool.not_false, setAll, List.map_cons, List.map_nil, truD, Bool.true_eq_false, Bool.false_eq_true, Option.bind_some, true_and, and_true, List.replicate, startR, List.cons_append, List.nil_append, Nat.sub_self, reduceIte, ↓reduceIte, isNon, LIM_eq, and_self, List.map_append, List.length_map, Int.toNat_natCast, Nat.zero_le, Nat.reduceLeDiff, Int.reduceNeg, Int.reduceLE, Int.reduceLT, Int.zero_add, ran1_int, ran2_int, noEx, eq_self, dI, dP, dPs]
      have ht : W_root_chain_5 [.d (.int n), .d (.int w), .own (acc.map .int), .d (.int a), .d (.int b), x] g = .ok true g := by
        simp (disch := omega) only [W_root_chain_5, eV_ap, eC_ap, eBin_ap, eNeg_ap, tVal_ap, eIsN_ap, eNotN_ap, eChain_ap, tAndF_ap, tOrF_ap, tNotF_ap, tTru_ap, eAnd_ap, eOr_ap, eNot_ap, eIf_ap, aNil_ap, aCons_ap, eTup_ap, eLst_ap, oNone_ap, oSome_ap, eSl_ap, eCall_ap, iLst_ap, iTpl_ap, iRan2_apN, eOf_ap, oLst_ap, oCat_ap, oRep_ap, oSl_ap, oList_ap, oComp_ap, tYesF_ap, sNil_ap, sSeq_th, sBrk_ap, sCnt_ap, sExpr_ap, sRet_ap, sRetN_ap, sIf_ap, sSet_ap, sSetO_ap, sAsg_ap, sPar_ap, sPar3_ap, sAug_ap, sApp_ap, sExt_ap, sSetIx_ap, sFrz_ap, eIxO_ap, eLenO_ap, eIxA_ap, eLenA_ap, vOf_ap, vCons_ap, vOwn_ap, sTup_ap, iSeq_ap, sRaise_ap, sTry_ap, eExF_ap, tIfF_ap, eRev_ap, eRevF_ap, th_nx, th_rt, th_bk, th_ct, th_exc, bind_ok, bind_exc, go_ok, go_exc, opAdd_int, opSub_int, opMul_a, opMul_b, opDiv_pos, opDiv_wide, opMod_pos, opI_int, opEq_int, opNe_int, opEq_bool, opNe_bool, atI_0, atI_1, atI_2, atI_3, opIx_list, opIx_tuple, iRan1_ap, bLen_list, bLen_tuple, bInt_int, bAbs_int, bName, bNil, bCons, bTup, List.getElem?_cons_zero, List.getElem?_cons_succ, List.set_cons_zero, List.set_cons_succ, List.length_cons, List.length_nil, noTok, if_true, if_false, decide_true, decide_false, Bool.not_true, Bool.not_false, setAll, List.map_cons, List.map_nil, truD, Bool.true_eq_false, Bool.false_eq_true, Option.bind_some, true_and, and_true, List.replicate, startR, List.cons_append, List.nil_append, Nat.sub_self, reduceIte, ↓reduceIte, isNon, LIM_eq, and_self, List.map_append, List.length_map, Int.toNat_natCast, Nat.zero_le, Nat.reduceLeDiff, Int.reduceNeg, Int.reduceLE, Int.reduceLT, Int.zero_add, ran1_int, ran2_int, noEx, eq_self, dI, dP, dPs]
      by_cases h2 : one = 2 * w
      · rw [if_pos h2] at h
        cases h
        have s10 : S_root_chain_10 [.d (.int n), .d (.int w), .own ((acc ++ [one]).map .int), .d (.int (one * b - a)), .d (.int ((n - (one * b - a) * (one * b - a)) / b)), .d (.int one)] g = .rt (.tuple [.int w, dI (acc ++ [one])]) g := by
          simp (disch := omega) only [S_root_chain_10, S_root_chain_11, h2, eV_ap, eC_ap, eBin_ap, eNeg_ap, tVal_ap, eIsN_ap, eNotN_ap, eChain_ap, tAndF_ap, tOrF_ap, tNotF_ap, tTru_ap, eAnd_ap, eOr_ap, eNot_ap, eIf_ap, aNil_ap, aCons_ap, eTup_ap, eLst_ap, oNone_ap, oSome_ap, eSl_ap, eCall_ap, iLst_ap, iTpl_ap, iRan2_apN, eOf_ap, oLst_ap, oCat_ap, oRep_ap, oSl_ap, oList_ap, oComp_ap, tYesF_ap, sNil_ap, sSeq_th, sBrk_ap, sCnt_ap, sExpr_ap, sRet_ap, sRetN_ap, sIf_ap, sSet_ap, sSetO_ap, sAsg_ap, sPar_ap, sPar3_ap, sAug_ap, sApp_ap, sExt_ap, sSetIx_ap, sFrz_ap, eIxO_ap, eLenO_ap, eIxA_ap, eLenA_ap, vOf_ap, vCons_ap, vOwn_ap, sTup_ap, iSeq_ap, sRaise_ap, sTry_ap, eExF_ap, tIfF_ap, eRev_ap, eRevF_ap, th_nx, th_rt, th_bk, th_ct, th_exc, bind_ok, bind_exc, go_ok, go_exc, opAdd_int, opSub_int, opMul_a, opMul_b, opDiv_pos, opDiv_wide, opMod_pos, opI_int, opEq_int, opNe_int, opEq_bool, opNe_bool, atI_0, atI_1, atI_2, atI_3, opIx_list, opIx_tuple, iRan1_ap, bLen_list, bLen_tuple, bInt_int, bAbs_int, bName, bNil, bCons, bTup, List.getElem?_cons_zero, List.getElem?_cons_succ, List.set_cons_zero, List.set_cons_succ, List.length_cons, List.length_nil, noTok, if_true, if_false, decide_true, decide_false, Bool.not_true, Bool.not_false, setAll, List.map_cons, List.map_nil, truD, Bool.true_eq_false, Bool.false_eq_true, Option.bind_some, true_and, and_true, List.replicate, startR, List.cons_append, List.nil_append, Nat.sub_self, reduceIte, ↓reduceIte, isNon, LIM_eq, and_self, List.map_append, List.length_map, Int.toNat_natCast, Nat.zero_le, Nat.reduceLeDiff, Int.reduceNeg, Int.reduceLE, Int.reduceLT, Int.zero_add, ran1_int, ran2_int, noEx, eq_self, dI, dP, dPs]
        have hb : B_root_chain_5 [.d (.int n), .d (.int w), .own (acc.map .int), .d (.int a), .d (.int b), x] g = .rt (.tuple [.int w, dI (acc ++ [one])]) g := seq_nx s6 (seq_nx s7 (seq_nx s8 (seq_nx s9 s10)))
        unfold whileF
        simp only [ht, Out.go, if_true, hb]
      · rw [if_neg h2] at h
        obtain ⟨l', hl', rfl⟩ := Option.map_eq_some_iff.mp h
        have s10 : S_root_chain_10 [.d (.int n), .d (.int w), .own ((acc ++ [one]).map .int), .d (.int (one * b - a)), .d (.int ((n - (one * b - a) * (one * b - a)) / b)), .d (.int one)] g = .nx [.d (.int n), .d (.int w), .own ((acc ++ [one]).map .int), .d (.int (one * b - a)), .d (.int ((n - (one * b - a) * (one * b - a)) / b)), .d (.int one)] g := by
          simp (disch := omega) only [S_root_chain_10, h2, eV_ap, eC_ap, eBin_ap, eNeg_ap, tVal_ap, eIsN_ap, eNotN_ap, eChain_ap, tAndF_ap, tOrF_ap, tNotF_ap, tTru_ap, eAnd_ap, eOr_ap, eNot_ap, eIf_ap, aNil_ap, aCons_ap, eTup_ap, eLst_ap, oNone_ap, oSome_ap, eSl_ap, eCall_ap, iLst_ap, iTpl_ap, iRan2_apN, eOf_ap, oLst_ap, oCat_ap, oRep_ap, oSl_ap, oList_ap, oComp_ap, tYesF_ap, sNil_ap, sSeq_th, sBrk_ap, sCnt_ap, sExpr_ap, sRet_ap, sRetN_ap, sIf_ap, sSet_ap, sSetO_ap, sAsg_ap, sPar_ap, sPar3_ap, sAug_ap, sApp_ap, sExt_ap, sSetIx_ap, sFrz_ap, eIxO_ap, eLenO_ap, eIxA_ap, eLenA_ap, vOf_ap, vCons_ap, vOwn_ap, sTup_ap, iSeq_ap, sRaise_ap, sTry_ap, eExF_ap, tIfF_ap, eRev_ap, eRevF_ap, th_nx, th_rt, th_bk, th_ct, th_exc, bind_ok, bind_exc, go_ok, go_exc, opAdd_int, opSub_int, opMul_a, opMul_b, opDiv_pos, opDiv_wide, opMod_pos, opI_int, opEq_int, opNe_int, opEq_bool, opNe_bool, atI_0, atI_1, atI_2, atI_3, opIx_list, opIx_tuple, iRan1_ap, bLen_list, bLen_tuple, bInt_int, bAbs_int, bName, bNil, bCons, bTup, List.getElem?_cons_zero, List.getElem?_cons_succ, List.set_cons_zero, List.set_cons_succ, List.length_cons, List.length_nil, noTok, if_true, if_false, decide_true, decide_false, Bool.not_true, Bool.not_false, setAll, List.map_cons, List.map_nil, truD, Bool.true_eq_false, Bool.false_eq_true, Option.bind_some, true_and, and_true, List.replicate, startR, List.cons_append, List.nil_append, Nat.sub_self, reduceIte, ↓reduceIte, isNon, LIM_eq, and_self, List.map_append, List.length_map, Int.toNat_natCast, Nat.zero_le, Nat.reduceLeDiff, Int.reduceNeg, Int.reduceLE, Int.reduceLT, Int.zero_add, ran1_int, ran2_int, noEx, eq_self, dI, dP, dPs]
        have hb : B_root_chain_5 [.d (.int n), .d (.int w), .own (acc.map .int), .d (.int a), .d (.int b), x] g = .nx [.d (.int n), .d (.int w), .own ((acc ++ [one]).map .int), .d (.int (one * b - a)), .d (.int ((n - (one * b - a) * (one * b - a)) / b)), .d (.int one)] g := seq_nx s6 (seq_nx s7 (seq_nx s8 (seq_nx s9 s10)))
        have ih := rcl_run (n := n) (w := w) (g := g) f N (one * b - a) ((n - (one * b - a) * (one * b - a)) / b) (acc ++ [one]) l' (.d (.int one)) hl' (by omega) (by rw [List.length_append]; simp only [List.length_cons, List.length_nil]; omega)
        unfold whileF
        simp only [ht, Out.go, if_true, hb, ih]
        rw [List.append_assoc]
        rfl
    · cases h
theorem m_root_chain_eq {n w : Int} {l : List Int} {g : G} (hn : n < 1000000) (h0 : 0 ≤ w) (hw : w < 1000) (h1 : w * w < n) (h2 : n < (w + 1) * (w + 1)) (hr : rcl 900 n w w (n - w * w) = some l) : m_root_chain [.int n] g = .ok (.tuple [.int w, dI l]) g := by
  have n0 : 0 < n := by
    have := Int.mul_nonneg h0 h0
    omega
  refine m_rt (np := 1) rfl ?_
  have s1 : S_root_chain_1 (startR 6 [.int n]) g = .nx [.d (.int n), .un, .un, .un, .un, .un] g := by
    simp (disch := omega) only [S_root_chain_1, m_is_square_eq (show n < 4611686018427387904 by omega) h0 (by omega) (by omega : w * w ≤ n) h2, show ¬ w * w = n by omega, show ¬ n < 0 by omega, eV_ap, eC_ap, eBin_ap, eNeg_ap, tVal_ap, eIsN_ap, eNotN_ap, eChain_ap, tAndF_ap, tOrF_ap, tNotF_ap, tTru_ap, eAnd_ap, eOr_ap, eNot_ap, eIf_ap, aNil_ap, aCons_ap, eTup_ap, eLst_ap, oNone_ap, oSome_ap, eSl_ap, eCall_ap, iLst_ap, iTpl_ap, iRan2_apN, eOf_ap, oLst_ap, oCat_ap, oRep_ap, oSl_ap, oList_ap, oComp_ap, tYesF_ap, sNil_ap, sSeq_th, sBrk_ap, sCnt_ap, sExpr_ap, sRet_ap, sRetN_ap, sIf_ap, sSet_ap, sSetO_ap, sAsg_ap, sPar_ap, sPar3_ap, sAug_ap, sApp_ap, sExt_ap, sSetIx_ap, sFrz_ap, eIxO_ap, eLenO_ap, eIxA_ap, eLenA_ap, vOf_ap, vCons_ap, vOwn_ap, sTup_ap, iSeq_ap, sRaise_ap, sTry_ap, eExF_ap, tIfF_ap, eRev_ap, eRevF_ap, th_nx, th_rt, th_bk, th_ct, th_exc, bind_ok, bind_exc, go_ok, go_exc, opAdd_int, opSub_int, opMul_a, opMul_b, opDiv_pos, opDiv_wide, opMod_pos, opI_int, opEq_int, opNe_int, opEq_bool, opNe_bool, atI_0, atI_1, atI_2, atI_3, opIx_list, opIx_tuple, iRan1_ap, bLen_list, bLen_tuple, bInt_int, bAbs_int, bName, bNil, bCons, bTup, List.getElem?_cons_zero, List.getElem?_cons_succ, List.set_cons_zero, List.set_cons_succ, List.length_cons, List.length_nil, noTok, if_true, if_false, decide_true, decide_false, Bool.not_true, Bool.not_false, setAll, List.map_cons, List.map_nil, truD, Bool.true_eq_false, Bool.false_eq_true, Option.bind_some, true_and, and_true, List.replicate, startR, List.cons_append, List.nil_append, Nat.sub_self, reduceIte, ↓reduceIte, isNon, LIM_eq, and_self, List.map_append, List.length_map, Int.toNat_natCast, Nat.zero_le, Nat.reduceLeDiff, Int.reduceNeg, Int.reduceLE, Int.reduceLT, Int.zero_add, ran1_int, ran2_int, noEx, eq_self, dI, dP, dPs]
  have s3 : S_root_chain_3 [.d (.int n), .un, .un, .un, .un, .un] g = .nx [.d (.int n), .d (.int w), .un, .un, .un, .un] g := by
    simp (disch := omega) only [S_root_chain_3, m_root_eq (show n < 4611686018427387904 by omega) h0 (by omega : w * w ≤ n) h2, eV_ap, eC_ap, eBin_ap, eNeg_ap, tVal_ap, eIsN_ap, eNotN_ap, eChain_ap, tAndF_ap, tOrF_ap, tNotF_ap, tTru_ap, eAnd_ap, eOr_ap, eNot_ap, eIf_ap, aNil_ap, aCons_ap, eTup_ap, eLst_ap, oNone_ap, oSome_ap, eSl_ap, eCall_ap, iLst_ap, iTpl_ap, iRan2_apN, eOf_ap, oLst_ap, oCat_ap, oRep_ap, oSl_ap, oList_ap, oComp_ap, tYesF_ap, sNil_ap, sSeq_th, sBrk_ap, sCnt_ap, sExpr_ap, sRet_ap, sRetN_ap, sIf_ap, sSet_ap, sSetO_ap, sAsg_ap, sPar_ap, sPar3_ap, sAug_ap, sApp_ap, sExt_ap, sSetIx_ap, sFrz_ap, eIxO_ap, eLenO_ap, eIxA_ap, eLenA_ap, vOf_ap, vCons_ap, vOwn_ap, sTup_ap, iSeq_ap, sRaise_ap, sTry_ap, eExF_ap, tIfF_ap, eRev_ap, eRevF_ap, th_nx, th_rt, th_bk, th_ct, th_exc, bind_ok, bind_exc, go_ok, go_exc, opAdd_int, opSub_int, opMul_a, opMul_b, opDiv_pos, opDiv_wide, opMod_pos, opI_int, opEq_int, opNe_int, opEq_bool, opNe_bool, atI_0, atI_1, atI_2, atI_3, opIx_list, opIx_tuple, iRan1_ap, bLen_list, bLen_tuple, bInt_int, bAbs_int, bName, bNil, bCons, bTup, List.getElem?_cons_zero, List.getElem?_cons_succ, List.set_cons_zero, List.set_cons_succ, List.length_cons, List.length_nil, noTok, if_true, if_false, decide_true, decide_false, Bool.not_true, Bool.not_false, setAll, List.map_cons, List.map_nil, truD, Bool.true_eq_false, Bool.false_eq_true, Option.bind_some, true_and, and_true, List.replicate, startR, List.cons_append, List.nil_append, Nat.sub_self, reduceIte, ↓reduceIte, isNon, LIM_eq, and_self, List.map_append, List.length_map, Int.toNat_natCast, Nat.zero_le, Nat.reduceLeDiff, Int.reduceNeg, Int.reduceLE, Int.reduceLT, Int.zero_add, ran1_int, ran2_int, noEx, eq_self, dI, dP, dPs]
  have s4 : S_root_chain_4 [.d (.int n), .d (.int w), .un, .un, .un, .un] g = .nx [.d (.int n), .d (.int w), .own [], .d (.int w), .d (.int (n - w * w)), .un] g := by
    simp (disch := omega) only [S_root_chain_4, eV_ap, eC_ap, eBin_ap, eNeg_ap, tVal_ap, eIsN_ap, eNotN_ap, eChain_ap, tAndF_ap, tOrF_ap, tNotF_ap, tTru_ap, eAnd_ap, eOr_ap, eNot_ap, eIf_ap, aNil_ap, aCons_ap, eTup_ap, eLst_ap, oNone_ap, oSome_ap, eSl_ap, eCall_ap, iLst_ap, iTpl_ap, iRan2_apN, eOf_ap, oLst_ap, oCat_ap, oRep_ap, oSl_ap, oList_ap, oComp_ap, tYesF_ap, sNil_ap, sSeq_th, sBrk_ap, sCnt_ap, sExpr_ap, sRet_ap, sRetN_ap, sIf_ap, sSet_ap, sSetO_ap, sAsg_ap, sPar_ap, sPar3_ap, sAug_ap, sApp_ap, sExt_ap, sSetIx_ap, sFrz_ap, eIxO_ap, eLenO_ap, eIxA_ap, eLenA_ap, vOf_ap, vCons_ap, vOwn_ap, sTup_ap, iSeq_ap, sRaise_ap, sTry_ap, eExF_ap, tIfF_ap, eRev_ap, eRevF_ap, th_nx, th_rt, th_bk, th_ct, th_exc, bind_ok, bind_exc, go_ok, go_exc, opAdd_int, opSub_int, opMul_a, opMul_b, opDiv_pos, opDiv_wide, opMod_pos, opI_int, opEq_int, opNe_int, opEq_bool, opNe_bool, atI_0, atI_1, atI_2, atI_3, opIx_list, opIx_tuple, iRan1_ap, bLen_list, bLen_tuple, bInt_int, bAbs_int, bName, bNil, bCons, bTup, List.getElem?_cons_zero, List.getElem?_cons_succ, List.set_cons_zero, List.set_cons_succ, List.length_cons, List.length_nil, noTok, if_true, if_false, decide_true, decide_false, Bool.not_true, Bool.not_false, setAll, List.map_cons, List.map_nil, truD, Bool.true_eq_false, Bool.false_eq_true, Option.bind_some, true_and, and_true, List.replicate, startR, List.cons_append, List.nil_append, Nat.sub_self, reduceIte, ↓reduceIte, isNon, LIM_eq, and_self, List.map_append, List.length_map, Int.toNat_natCast, Nat.zero_le, Nat.reduceLeDiff, Int.reduceNeg, Int.reduceLE, Int.reduceLT, Int.zero_add, ran1_int, ran2_int, noEx, eq_self, dI, dP, dPs]
  exact seq_nx s1 (seq_nx s3 (seq_nx s4 (rcl_run 900 _ w (n - w * w) [] l .un hr (by decide) (by decide))))
theorem m_root_chain_sq {n w : Int} {g : G} (hn : n < 1000000) (h0 : 0 ≤ w) (hw : w < 1000) (h1 : w * w = n) : m_root_chain [.int n] g = .exc "Misstep" [("word", .str "square")] g := by
  have n0 : 0 ≤ n := by
    have := Int.mul_nonneg h0 h0
    omega
  have h2 : n < (w + 1) * (w + 1) := by
    have : (w + 1) * (w + 1) = w * w + w + w + 1 := by grind
    omega
  refine m_exc (np := 1) (ρ := startR 6 [.int n]) rfl ?_
  simp (disch := omega) only [sem_root_chain, S_root_chain_1, m_is_square_eq (show n < 4611686018427387904 by omega) h0 (by omega) (by omega : w * w ≤ n) h2, h1, S_root_chain_2, show (Str.ofString "square").length ≤ 1000000 by decide, eV_ap, eC_ap, eBin_ap, eNeg_ap, tVal_ap, eIsN_ap, eNotN_ap, eChain_ap, tAndF_ap, tOrF_ap, tNotF_ap, tTru_ap, eAnd_ap, eOr_ap, eNot_ap, eIf_ap, aNil_ap, aCons_ap, eTup_ap, eLst_ap, oNone_ap, oSome_ap, eSl_ap, eCall_ap, iLst_ap, iTpl_ap, iRan2_apN, eOf_ap, oLst_ap, oCat_ap, oRep_ap, oSl_ap, oList_ap, oComp_ap, tYesF_ap, sNil_ap, sSeq_th, sBrk_ap, sCnt_ap, sExpr_ap, sRet_ap, sRetN_ap, sIf_ap, sSet_ap, sSetO_ap, sAsg_ap, sPar_ap, sPar3_ap, sAug_ap, sApp_ap, sExt_ap, sSetIx_ap, sFrz_ap, eIxO_ap, eLenO_ap, eIxA_ap, eLenA_ap, vOf_ap, vCons_ap, vOwn_ap, sTup_ap, iSeq_ap, sRaise_ap, sTry_ap, eExF_ap, tIfF_ap, eRev_ap, eRevF_ap, th_nx, th_rt, th_bk, th_ct, th_exc, bind_ok, bind_exc, go_ok, go_exc, opAdd_int, opSub_int, opMul_a, opMul_b, opDiv_pos, opDiv_wide, opMod_pos, opI_int, opEq_int, opNe_int, opEq_bool, opNe_bool, atI_0, atI_1, atI_2, atI_3, opIx_list, opIx_tuple, iRan1_ap, bLen_list, bLen_tuple, bInt_int, bAbs_int, bName, bNil, bCons, bTup, List.getElem?_cons_zero, List.getElem?_cons_succ, List.set_cons_zero, List.set_cons_succ, List.length_cons, List.length_nil, noTok, if_true, if_false, decide_true, decide_false, Bool.not_true, Bool.not_false, setAll, List.map_cons, List.map_nil, truD, Bool.true_eq_false, Bool.false_eq_true, Option.bind_some, true_and, and_true, List.replicate, startR, List.cons_append, List.nil_append, Nat.sub_self, reduceIte, ↓reduceIte, isNon, LIM_eq, and_self, List.map_append, List.length_map, Int.toNat_natCast, Nat.zero_le, Nat.reduceLeDiff, Int.reduceNeg, Int.reduceLE, Int.reduceLT, Int.zero_add, ran1_int, ran2_int, noEx, eq_self, dI, dP, dPs]
end K45
namespace K45
open PySem
open PySem.Spec
open PyProof.Rows
open L2
open DL
def cyc (l : List Int) (m : Nat) : List Int := (List.range m).map fun k => l.getD (k % l.length) 0
theorem cyc_len {l : List Int} {m : Nat} : (cyc l m).length = m := by
  unfold cyc
  rw [List.length_map, List.length_range]
theorem cyc_take {l : List Int} {m k : Nat} (h : k ≤ m) : (cyc l m).take k = cyc l k := by
  unfold cyc
  rw [← List.map_take, List.take_range, Nat.min_eq_left h]
theorem cyc_mem {l : List Int} {m : Nat} (hl : l ≠ []) : ∀ x ∈ cyc l m, x ∈ l := by
  intro x hx
  obtain ⟨k, _, rfl⟩ := List.mem_map.mp hx
  have : 0 < l.length := List.length_pos_iff.mpr hl
  have hk : k % l.length < l.length := Nat.mod_lt _ this
  rw [List.getD_eq_getElem?_getD, List.getElem?_eq_getElem hk]
  exact List.getElem_mem hk
theorem m_root_parts_eq {n w : Int} {l : List Int} {m : Nat} {g : G} (hr : m_root_chain [.int n] g = .ok (.tuple [.int w, dI l]) g) (hl : l ≠ []) (hs : ∀ x ∈ l, x.natAbs < 2 ^ 62) (hw : w.natAbs < 2 ^ 62) (h1 : 1 ≤ m) (hm : m ≤ 10000) (hl2 : l.length ≤ 10000) :
    m_root_parts [.int n, .int (m : Int)] g = .ok (dPs (along (0, 1) (1, 0) (w :: cyc l (m - 1)))) g := by
  have l0 : 0 < l.length := List.length_pos_iff.mpr hl
  refine m_rt (np := 2) rfl ?_
  have s1 : S_root_parts_1 (startR 6 [.int n, .int (m : Int)]) g = .nx [.d (.int n), .d (.int (m : Int)), .d (.int w), .d (dI l), .un, .un] g := by
    simp (disch := omega) only [S_root_parts_1, hr, eV_ap, eC_ap, eBin_ap, eNeg_ap, tVal_ap, eIsN_ap, eNotN_ap, eChain_ap, tAndF_ap, tOrF_ap, tNotF_ap, tTru_ap, eAnd_ap, eOr_ap, eNot_ap, eIf_ap, aNil_ap, aCons_ap, eTup_ap, eLst_ap, oNone_ap, oSome_ap, eSl_ap, eCall_ap, iLst_ap, iTpl_ap, iRan2_apN, eOf_ap, oLst_ap, oCat_ap, oRep_ap, oSl_ap, oList_ap, oComp_ap, tYesF_ap, sNil_ap, sSeq_th, sBrk_ap, sCnt_ap, sExpr_ap, sRet_ap, sRetN_ap, sIf_ap, sSet_ap, sSetO_ap, sAsg_ap, sPar_ap, sPar3_ap, sAug_ap, sApp_ap, sExt_ap, sSetIx_ap, sFrz_ap, eIxO_ap, eLenO_ap, eIxA_ap, eLenA_ap, vOf_ap, vCons_ap, vOwn_ap, sTup_ap, iSeq_ap, sRaise_ap, sTry_ap, eExF_ap, tIfF_ap, eRev_ap, eRevF_ap, th_nx, th_rt, th_bk, th_ct, th_exc, bind_ok, bind_exc, go_ok, go_exc, opAdd_int, opSub_int, opMul_a, opMul_b, opDiv_pos, opDiv_wide, opMod_pos, opI_int, opEq_int, opNe_int, opEq_bool, opNe_bool, atI_0, atI_1, atI_2, atI_3, opIx_list, opIx_tuple, iRan1_ap, bLen_list, bLen_tuple, bInt_int, bAbs_int, bName, bNil, bCons, bTup, List.getElem?_cons_zero, List.getElem?_cons_succ, List.set_cons_zero, List.set_cons_succ, List.length_cons, List.length_nil, noTok, if_true, if_false, decide_true, decide_false, Bool.not_true, Bool.not_false, setAll, List.map_cons, List.map_nil, truD, Bool.true_eq_false, Bool.false_eq_true, Option.bind_some, true_and, and_true, List.replicate, startR, List.cons_append, List.nil_append, Nat.sub_self, reduceIte, ↓reduceIte, isNon, LIM_eq, and_self, List.map_append, List.length_map, Int.toNat_natCast, Nat.zero_le, Nat.reduceLeDiff, Int.reduceNeg, Int.reduceLE, Int.reduceLT, Int.zero_add, ran1_int, ran2_int, noEx, eq_self, dI, dP, dPs]
  have hc : C_root_parts_1 [.d (.int n), .d (.int (m : Int)), .d (.int w), .d (dI l), .un, .un] g = .ok ((cyc l (m - 1)).map .int) g := by
    have e : ((m : Int) - 1).toNat = m - 1 := by omega
    refine oComp_map (items := upTo 0 (m - 1)) _ ?_ ?_ ?_ ?_
    · simp (disch := omega) only [e, eV_ap, eC_ap, eBin_ap, eNeg_ap, tVal_ap, eIsN_ap, eNotN_ap, eChain_ap, tAndF_ap, tOrF_ap, tNotF_ap, tTru_ap, eAnd_ap, eOr_ap, eNot_ap, eIf_ap, aNil_ap, aCons_ap, eTup_ap, eLst_ap, oNone_ap, oSome_ap, eSl_ap, eCall_ap, iLst_ap, iTpl_ap, iRan2_apN, eOf_ap, oLst_ap, oCat_ap, oRep_ap, oSl_ap, oList_ap, oComp_ap, tYesF_ap, sNil_ap, sSeq_th, sBrk_ap, sCnt_ap, sExpr_ap, sRet_ap, sRetN_ap, sIf_ap, sSet_ap, sSetO_ap, sAsg_ap, sPar_ap, sPar3_ap, sAug_ap, sApp_ap, sExt_ap, sSetIx_ap, sFrz_ap, eIxO_ap, eLenO_ap, eIxA_ap, eLenA_ap, vOf_ap, vCons_ap, vOwn_ap, sTup_ap, iSeq_ap, sRaise_ap, sTry_ap, eExF_ap, tIfF_ap, eRev_ap, eRevF_ap, th_nx, th_rt, th_bk, th_ct, th_exc, bind_ok, bind_exc, go_ok, go_exc, opAdd_int, opSub_int, opMul_a, opMul_b, opDiv_pos, opDiv_wide, opMod_pos, opI_int, opEq_int, opNe_int, opEq_bool, opNe_bool, atI_0, atI_1, atI_2, atI_3, opIx_list, opIx_tuple, iRan1_ap, bLen_list, bLen_tuple, bInt_int, bAbs_int, bName, bNil, bCons, bTup, List.getElem?_cons_zero, List.getElem?_cons_succ, List.set_cons_zero, List.set_cons_succ, List.length_cons, List.length_nil, noTok, if_true, if_false, decide_true, decide_false, Bool.not_true, Bool.not_false, setAll, List.map_cons, List.map_nil, truD, Bool.true_eq_false, Bool.false_eq_true, Option.bind_some, true_and, and_true, List.replicate, startR, List.cons_append, List.nil_append, Nat.sub_self, reduceIte, ↓reduceIte, isNon, LIM_eq, and_self, List.map_append, List.length_map, Int.toNat_natCast, Nat.zero_le, Nat.reduceLeDiff, Int.reduceNeg, Int.reduceLE, Int.reduceLT, Int.zero_add, ran1_int, ran2_int, noEx, eq_self, dI, dP, dPs]
    · rw [upTo_len, LIM_eq]
      omega
    · rw [upTo_len, List.length_map, cyc_len]
    · intro i hi
      rw [upTo_len] at hi
      have ei : (upTo 0 (m - 1))[i]'(by rw [upTo_len]; exact hi) = .int (i : Int) := by
        have := (upTo_get (lo := 0) (n := m - 1) (i := i) (d := _) (List.getElem?_eq_getElem (by rw [upTo_len]; exact hi))).2
        rw [this, Int.zero_add]
      rw [ei]
      have hk : i % l.length < l.length := Nat.mod_lt _ l0
      have ea : atI (l.map PyData.int) ((i : Int) % (l.length : Int)) = some (.int (l.getD (i % l.length) 0)) := by
        rw [← Int.natCast_emod]
        refine atI_map (f := PyData.int) ?_
        rw [List.getD_eq_getElem?_getD, List.getElem?_eq_getElem hk]
        rfl
      refine ⟨_, .int (l.getD (i % l.length) 0), ?_, rfl, rfl, ?_, rfl⟩
      · unfold cyc
        rw [List.map_map, List.getElem?_map, List.getElem?_range hi]
        rfl
      · have lp : (0 : Int) < (l.length : Int) := by omega
        simp (disch := omega) only [wipeR, ea, eV_ap, eC_ap, eBin_ap, eNeg_ap, tVal_ap, eIsN_ap, eNotN_ap, eChain_ap, tAndF_ap, tOrF_ap, tNotF_ap, tTru_ap, eAnd_ap, eOr_ap, eNot_ap, eIf_ap, aNil_ap, aCons_ap, eTup_ap, eLst_ap, oNone_ap, oSome_ap, eSl_ap, eCall_ap, iLst_ap, iTpl_ap, iRan2_apN, eOf_ap, oLst_ap, oCat_ap, oRep_ap, oSl_ap, oList_ap, oComp_ap, tYesF_ap, sNil_ap, sSeq_th, sBrk_ap, sCnt_ap, sExpr_ap, sRet_ap, sRetN_ap, sIf_ap, sSet_ap, sSetO_ap, sAsg_ap, sPar_ap, sPar3_ap, sAug_ap, sApp_ap, sExt_ap, sSetIx_ap, sFrz_ap, eIxO_ap, eLenO_ap, eIxA_ap, eLenA_ap, vOf_ap, vCons_ap, vOwn_ap, sTup_ap, iSeq_ap, sRaise_ap, sTry_ap, eExF_ap, tIfF_ap, eRev_ap, eRevF_ap, th_nx, th_rt, th_bk, th_ct, th_exc, bind_ok, bind_exc, go_ok, go_exc, opAdd_int, opSub_int, opMul_a, opMul_b, opDiv_pos, opDiv_wide, opMod_pos, opI_int, opEq_int, opNe_int, opEq_bool, opNe_bool, atI_0, atI_1, atI_2, atI_3, opIx_list, opIx_tuple, iRan1_ap, bLen_list, bLen_tuple, bInt_int, bAbs_int, bName, bNil, bCons, bTup, List.getElem?_cons_zero, List.getElem?_cons_succ, List.set_cons_zero, List.set_cons_succ, List.length_cons, List.length_nil, noTok, if_true, if_false, decide_true, decide_false, Bool.not_true, Bool.not_false, setAll, List.map_cons, List.map_nil, truD, Bool.true_eq_false, Bool.false_eq_true, Option.bind_some, true_and, and_true, List.replicate, startR, List.cons_append, List.nil_append, Nat.sub_self, reduceIte, ↓reduceIte, isNon, LIM_eq, and_self, List.map_append, List.length_map, Int.toNat_natCast, Nat.zero_le, Nat.reduceLeDiff, Int.reduceNeg, Int.reduceLE, Int.reduceLT, Int.zero_add, ran1_int, ran2_int, noEx, eq_self, dI, dP, dPs]
  have s2 : S_root_parts_2 [.d (.int n), .d (.int (m : Int)), .d (.int w), .d (dI l), .un, .un] g = .nx [.d (.int n), .d (.int (m : Int)), .d (.int w), .d (dI l), .d (dI (w :: cyc l (m - 1))), .un] g := by
    simp (disch := omega) only [S_root_parts_2, hc, opAdd, cyc_len, show 0 + 1 + (m - 1) ≤ 1000000 by omega, eV_ap, eC_ap, eBin_ap, eNeg_ap, tVal_ap, eIsN_ap, eNotN_ap, eChain_ap, tAndF_ap, tOrF_ap, tNotF_ap, tTru_ap, eAnd_ap, eOr_ap, eNot_ap, eIf_ap, aNil_ap, aCons_ap, eTup_ap, eLst_ap, oNone_ap, oSome_ap, eSl_ap, eCall_ap, iLst_ap, iTpl_ap, iRan2_apN, eOf_ap, oLst_ap, oCat_ap, oRep_ap, oSl_ap, oList_ap, oComp_ap, tYesF_ap, sNil_ap, sSeq_th, sBrk_ap, sCnt_ap, sExpr_ap, sRet_ap, sRetN_ap, sIf_ap, sSet_ap, sSetO_ap, sAsg_ap, sPar_ap, sPar3_ap, sAug_ap, sApp_ap, sExt_ap, sSetIx_ap, sFrz_ap, eIxO_ap, eLenO_ap, eIxA_ap, eLenA_ap, vOf_ap, vCons_ap, vOwn_ap, sTup_ap, iSeq_ap, sRaise_ap, sTry_ap, eExF_ap, tIfF_ap, eRev_ap, eRevF_ap, th_nx, th_rt, th_bk, th_ct, th_exc, bind_ok, bind_exc, go_ok, go_exc, opAdd_int, opSub_int, opMul_a, opMul_b, opDiv_pos, opDiv_wide, opMod_pos, opI_int, opEq_int, opNe_int, opEq_bool, opNe_bool, atI_0, atI_1, atI_2, atI_3, opIx_list, opIx_tuple, iRan1_ap, bLen_list, bLen_tuple, bInt_int, bAbs_int, bName, bNil, bCons, bTup, List.getElem?_cons_zero, List.getElem?_cons_succ, List.set_cons_zero, List.set_cons_succ, List.length_cons, List.length_nil, noTok, if_true, if_false, decide_true, decide_false, Bool.not_true, Bool.not_false, setAll, List.map_cons, List.map_nil, truD, Bool.true_eq_false, Bool.false_eq_true, Option.bind_some, true_and, and_true, List.replicate, startR, List.cons_append, List.nil_append, Nat.sub_self, reduceIte, ↓reduceIte, isNon, LIM_eq, and_self, List.map_append, List.length_map, Int.toNat_natCast, Nat.zero_le, Nat.reduceLeDiff, Int.reduceNeg, Int.reduceLE, Int.reduceLT, Int.zero_add, ran1_int, ran2_int, noEx, eq_self, dI, dP, dPs]
  have s3 : S_root_parts_3 [.d (.int n), .d (.int (m : Int)), .d (.int w), .d (dI l), .d (dI (w :: cyc l (m - 1))), .un] g = .rt (dPs (along (0, 1) (1, 0) (w :: cyc l (m - 1)))) g := by
    have e := m_parts_along_eq (w := w :: cyc l (m - 1)) (g := g) (by rw [List.length_cons, cyc_len]; omega) (fun x hx => by
      rcases List.mem_cons.mp hx with rfl | hx
      · exact hw
      · exact hs x (cyc_mem hl x hx))
    show S_root_parts_3 [.d (.int n), .d (.int (m : Int)), .d (.int w), .d (dI l), .d (dI (w :: cyc l (m - 1))), .un] g = _
    simp (disch := omega) only [S_root_parts_3, e, eV_ap, eC_ap, eBin_ap, eNeg_ap, tVal_ap, eIsN_ap, eNotN_ap, eChain_ap, tAndF_ap, tOrF_ap, tNotF_ap, tTru_ap, eAnd_ap, eOr_ap, eNot_ap, eIf_ap, aNil_ap, aCons_ap, eTup_ap, eLst_ap, oNone_ap, oSome_ap, eSl_ap, eCall_ap, iLst_ap, iTpl_ap, iRan2_apN, eOf_ap, oLst_ap, oCat_ap, oRep_ap, oSl_ap, oList_ap, oComp_ap, tYesF_ap, sNil_ap, sSeq_th, sBrk_ap, sCnt_ap, sExpr_ap, sRet_ap, sRetN_ap, sIf_ap, sSet_ap, sSetO_ap, sAsg_ap, sPar_ap, sPar3_ap, sAug_ap, sApp_ap, sExt_ap, sSetIx_ap, sFrz_ap, eIxO_ap, eLenO_ap, eIxA_ap, eLenA_ap, vOf_ap, vCons_ap, vOwn_ap, sTup_ap, iSeq_ap, sRaise_ap, sTry_ap, eExF_ap, tIfF_ap, eRev_ap, eRevF_ap, th_nx, th_rt, th_bk, th_ct, th_exc, bind_ok, bind_exc, go_ok, go_exc, opAdd_int, opSub_int, opMul_a, opMul_b, opDiv_pos, opDiv_wide, opMod_pos, opI_int, opEq_int, opNe_int, opEq_bool, opNe_bool, atI_0, atI_1, atI_2, atI_3, opIx_list, opIx_tuple, iRan1_ap, bLen_list, bLen_tuple, bInt_int, bAbs_int, bName, bNil, bCons, bTup, List.getElem?_cons_zero, List.getElem?_cons_succ, List.set_cons_zero, List.set_cons_succ, List.length_cons, List.length_nil, noTok, if_true, if_false, decide_true, decide_false, Bool.not_true, Bool.not_false, setAll, List.map_nil, truD, Bool.true_eq_false, Bool.false_eq_true, Option.bind_some, true_and, and_true, List.replicate, startR, List.cons_append, List.nil_append, Nat.sub_self, reduceIte, ↓reduceIte, isNon, LIM_eq, and_self, List.map_append, List.length_map, Int.toNat_natCast, Nat.zero_le, Nat.reduceLeDiff, Int.reduceNeg, Int.reduceLE, Int.reduceLT, Int.zero_add, ran1_int, ran2_int, noEx, eq_self, dP]
  exact seq_nx s1 (seq_nx s2 s3)
theorem along_last {w : List Int} (h : w ≠ []) : atI ((along (0, 1) (1, 0) w).map dP) (-1) = some (dP (partOf w)) := by
  have hl : 0 < w.length := List.length_pos_iff.mpr h
  rw [atI_neg (by omega) (by rw [List.length_map, along_len]; omega), List.length_map, along_len, List.getElem?_map, show (-1 + (w.length : Int)).toNat = w.length - 1 by omega, along_part w _ (by omega), show w.length - 1 + 1 = w.length by omega, List.take_length]
  rfl
def manyOf (l : List Int) : Nat := if l.length % 2 = 0 then l.length else 2 * l.length
theorem m_pell_eq {n w : Int} {l : List Int} {g : G} (hr : m_root_chain [.int n] g = .ok (.tuple [.int w, dI l]) g) (hl : l ≠ []) (hs : ∀ x ∈ l, x.natAbs < 2 ^ 62) (hw : w.natAbs < 2 ^ 62) (hl2 : l.length ≤ 1000) :
    m_pell [.int n] g = .ok (dP (partOf (w :: cyc l (manyOf l - 1)))) g := by
  have l0 : 0 < l.length := List.length_pos_iff.mpr hl
  have hm : 1 ≤ manyOf l ∧ manyOf l ≤ 10000 := by
    unfold manyOf
    split <;> omega
  have hp := m_root_parts_eq (g := g) (m := manyOf l) hr hl hs hw hm.1 hm.2 (by omega)
  have hla := along_last (w := w :: cyc l (manyOf l - 1)) (by simp)
  refine m_rt (np := 1) rfl ?_
  have s1 : S_pell_1 (startR 4 [.int n]) g = .nx [.d (.int n), .d (.int w), .d (dI l), .un] g := by
    simp (disch := omega) only [S_pell_1, hr, eV_ap, eC_ap, eBin_ap, eNeg_ap, tVal_ap, eIsN_ap, eNotN_ap, eChain_ap, tAndF_ap, tOrF_ap, tNotF_ap, tTru_ap, eAnd_ap, eOr_ap, eNot_ap, eIf_ap, aNil_ap, aCons_ap, eTup_ap, eLst_ap, oNone_ap, oSome_ap, eSl_ap, eCall_ap, iLst_ap, iTpl_ap, iRan2_apN, eOf_ap, oLst_ap, oCat_ap, oRep_ap, oSl_ap, oList_ap, oComp_ap, tYesF_ap, sNil_ap, sSeq_th, sBrk_ap, sCnt_ap, sExpr_ap, sRet_ap, sRetN_ap, sIf_ap, sSet_ap, sSetO_ap, sAsg_ap, sPar_ap, sPar3_ap, sAug_ap, sApp_ap, sExt_ap, sSetIx_ap, sFrz_ap, eIxO_ap, eLenO_ap, eIxA_ap, eLenA_ap, vOf_ap, vCons_ap, vOwn_ap, sTup_ap, iSeq_ap, sRaise_ap, sTry_ap, eExF_ap, tIfF_ap, eRev_ap, eRevF_ap, th_nx, th_rt, th_bk, th_ct, th_exc, bind_ok, bind_exc, go_ok, go_exc, opAdd_int, opSub_int, opMul_a, opMul_b, opDiv_pos, opDiv_wide, opMod_pos, opI_int, opEq_int, opNe_int, opEq_bool, opNe_bool, atI_0, atI_1, atI_2, atI_3, opIx_list, opIx_tuple, iRan1_ap, bLen_list, bLen_tuple, bInt_int, bAbs_int, bName, bNil, bCons, bTup, List.getElem?_cons_zero, List.getElem?_cons_succ, List.set_cons_zero, List.set_cons_succ, List.length_cons, List.length_nil, noTok, if_true, if_false, decide_true, decide_false, Bool.not_true, Bool.not_false, setAll, List.map_cons, List.map_nil, truD, Bool.true_eq_false, Bool.false_eq_true, Option.bind_some, true_and, and_true, List.replicate, startR, List.cons_append, List.nil_append, Nat.sub_self, reduceIte, ↓reduceIte, isNon, LIM_eq, and_self, List.map_append, List.length_map, Int.toNat_natCast, Nat.zero_le, Nat.reduceLeDiff, Int.reduceNeg, Int.reduceLE, Int.reduceLT, Int.zero_add, ran1_int, ran2_int, noEx, eq_self, dI, dP, dPs]
  have s2 : S_pell_2 [.d (.int n), .d (.int w), .d (dI l), .un] g = .nx [.d (.int n), .d (.int w), .d (dI l), .d (.int (manyOf l : Int))] g := by
    by_cases h : l.length % 2 = 0
    · have e : manyOf l = l.length := if_pos h
      simp (disch := omega) only [S_pell_2, show (l.length : Int) % 2 = 0 by omega, e, eV_ap, eC_ap, eBin_ap, eNeg_ap, tVal_ap, eIsN_ap, eNotN_ap, eChain_ap, tAndF_ap, tOrF_ap, tNotF_ap, tTru_ap, eAnd_ap, eOr_ap, eNot_ap, eIf_ap, aNil_ap, aCons_ap, eTup_ap, eLst_ap, oNone_ap, oSome_ap, eSl_ap, eCall_ap, iLst_ap, iTpl_ap, iRan2_apN, eOf_ap, oLst_ap, oCat_ap, oRep_ap, oSl_ap, oList_ap, oComp_ap, tYesF_ap, sNil_ap, sSeq_th, sBrk_ap, sCnt_ap, sExpr_ap, sRet_ap, sRetN_ap, sIf_ap, sSet_ap, sSetO_ap, sAsg_ap, sPar_ap, sPar3_ap, sAug_ap, sApp_ap, sExt_ap, sSetIx_ap, sFrz_ap, eIxO_ap, eLenO_ap, eIxA_ap, eLenA_ap, vOf_ap, vCons_ap, vOwn_ap, sTup_ap, iSeq_ap, sRaise_ap, sTry_ap, eExF_ap, tIfF_ap, eRev_ap, eRevF_ap, th_nx, th_rt, th_bk, th_ct, th_exc, bind_ok, bind_exc, go_ok, go_exc, opAdd_int, opSub_int, opMul_a, opMul_b, opDiv_pos, opDiv_wide, opMod_pos, opI_int, opEq_int, opNe_int, opEq_bool, opNe_bool, atI_0, atI_1, atI_2, atI_3, opIx_list, opIx_tuple, iRan1_ap, bLen_list, bLen_tuple, bInt_int, bAbs_int, bName, bNil, bCons, bTup, List.getElem?_cons_zero, List.getElem?_cons_succ, List.set_cons_zero, List.set_cons_succ, List.length_cons, List.length_nil, noTok, if_true, if_false, decide_true, decide_false, Bool.not_true, Bool.not_false, setAll, List.map_cons, List.map_nil, truD, Bool.true_eq_false, Bool.false_eq_true, Option.bind_some, true_and, and_true, List.replicate, startR, List.cons_append, List.nil_append, Nat.sub_self, reduceIte, ↓reduceIte, isNon, LIM_eq, and_self, List.map_append, List.length_map, Int.toNat_natCast, Nat.zero_le, Nat.reduceLeDiff, Int.reduceNeg, Int.reduceLE, Int.reduceLT, Int.zero_add, ran1_int, ran2_int, noEx, eq_self, dI, dP, dPs]
    · have e : (manyOf l : Int) = 2 * (l.length : Int) := by
        have : manyOf l = 2 * l.length := if_neg h
        omega
      simp (disch := omega) only [S_pell_2, show ¬ (l.length : Int) % 2 = 0 by omega, e, eV_ap, eC_ap, eBin_ap, eNeg_ap, tVal_ap, eIsN_ap, eNotN_ap, eChain_ap, tAndF_ap, tOrF_ap, tNotF_ap, tTru_ap, eAnd_ap, eOr_ap, eNot_ap, eIf_ap, aNil_ap, aCons_ap, eTup_ap, eLst_ap, oNone_ap, oSome_ap, eSl_ap, eCall_ap, iLst_ap, iTpl_ap, iRan2_apN, eOf_ap, oLst_ap, oCat_ap, oRep_ap, oSl_ap, oList_ap, oComp_ap, tYesF_ap, sNil_ap, sSeq_th, sBrk_ap, sCnt_ap, sExpr_ap, sRet_ap, sRetN_ap, sIf_ap, sSet_ap, sSetO_ap, sAsg_ap, sPar_ap, sPar3_ap, sAug_ap, sApp_ap, sExt_ap, sSetIx_ap, sFrz_ap, eIxO_ap, eLenO_ap, eIxA_ap, eLenA_ap, vOf_ap, vCons_ap, vOwn_ap, sTup_ap, iSeq_ap, sRaise_ap, sTry_ap, eExF_ap, tIfF_ap, eRev_ap, eRevF_ap, th_nx, th_rt, th_bk, th_ct, th_exc, bind_ok, bind_exc, go_ok, go_exc, opAdd_int, opSub_int, opMul_a, opMul_b, opDiv_pos, opDiv_wide, opMod_pos, opI_int, opEq_int, opNe_int, opEq_bool, opNe_bool, atI_0, atI_1, atI_2, atI_3, opIx_list, opIx_tuple, iRan1_ap, bLen_list, bLen_tuple, bInt_int, bAbs_int, bName, bNil, bCons, bTup, List.getElem?_cons_zero, List.getElem?_cons_succ, List.set_cons_zero, List.set_cons_succ, List.length_cons, List.length_nil, noTok, if_true, if_false, decide_true, decide_false, Bool.not_true, Bool.not_false, setAll, List.map_cons, List.map_nil, truD, Bool.true_eq_false, Bool.false_eq_true, Option.bind_some, true_and, and_true, List.replicate, startR, List.cons_append, List.nil_append, Nat.sub_self, reduceIte, ↓reduceIte, isNon, LIM_eq, and_self, List.map_append, List.length_map, Int.toNat_natCast, Nat.zero_le, Nat.reduceLeDiff, Int.reduceNeg, Int.reduceLE, Int.reduceLT, Int.zero_add, ran1_int, ran2_int, noEx, eq_self, dI, dP, dPs]
  have s3 : S_pell_3 [.d (.int n), .d (.int w), .d (dI l), .d (.int (manyOf l : Int))] g = .rt (dP (partOf (w :: cyc l (manyOf l - 1)))) g := by
    simp (disch := omega) only [S_pell_3, hp, hla, eV_ap, eC_ap, eBin_ap, eNeg_ap, tVal_ap, eIsN_ap, eNotN_ap, eChain_ap, tAndF_ap, tOrF_ap, tNotF_ap, tTru_ap, eAnd_ap, eOr_ap, eNot_ap, eIf_ap, aNil_ap, aCons_ap, eTup_ap, eLst_ap, oNone_ap, oSome_ap, eSl_ap, eCall_ap, iLst_ap, iTpl_ap, iRan2_apN, eOf_ap, oLst_ap, oCat_ap, oRep_ap, oSl_ap, oList_ap, oComp_ap, tYesF_ap, sNil_ap, sSeq_th, sBrk_ap, sCnt_ap, sExpr_ap, sRet_ap, sRetN_ap, sIf_ap, sSet_ap, sSetO_ap, sAsg_ap, sPar_ap, sPar3_ap, sAug_ap, sApp_ap, sExt_ap, sSetIx_ap, sFrz_ap, eIxO_ap, eLenO_ap, eIxA_ap, eLenA_ap, vOf_ap, vCons_ap, vOwn_ap, sTup_ap, iSeq_ap, sRaise_ap, sTry_ap, eExF_ap, tIfF_ap, eRev_ap, eRevF_ap, th_nx, th_rt, th_bk, th_ct, th_exc, bind_ok, bind_exc, go_ok, go_exc, opAdd_int, opSub_int, opMul_a, opMul_b, opDiv_pos, opDiv_wide, opMod_pos, opI_int, opEq_int, opNe_int, opEq_bool, opNe_bool, atI_0, atI_1, atI_2, atI_3, opIx_list, opIx_tuple, iRan1_ap, bLen_list, bLen_tuple, bInt_int, bAbs_int, bName, bNil, bCons, bTup, List.getElem?_cons_zero, List.getElem?_cons_succ, List.set_cons_zero, List.set_cons_succ, List.length_cons, List.length_nil, noTok, if_true, if_false, decide_true, decide_false, Bool.not_true, Bool.not_false, setAll, List.map_cons, List.map_nil, truD, Bool.true_eq_false, Bool.false_eq_true, Option.bind_some, true_and, and_true, List.replicate, startR, List.cons_append, List.nil_append, Nat.sub_self, reduceIte, ↓reduceIte, isNon, LIM_eq, and_self, List.map_append, List.length_map, Int.toNat_natCast, Nat.zero_le, Nat.reduceLeDiff, Int.reduceNeg, Int.reduceLE, Int.reduceLT, Int.zero_add, ran1_int, ran2_int, noEx, eq_self, dI]
  exact seq_nx s1 (seq_nx s2 s3)
def minusOf (w : Int) (l : List Int) : D := if l.length % 2 = 1 then dP (partOf (w :: cyc l (l.length - 1))) else .none
theorem m_minus_pell_eq {n w : Int} {l : List Int} {g : G} (hr : m_root_chain [.int n] g = .ok (.tuple [.int w, dI l]) g) (hl : l ≠ []) (hs : ∀ x ∈ l, x.natAbs < 2 ^ 62) (hw : w.natAbs < 2 ^ 62) (hl2 : l.length ≤ 1000) :
    m_minus_pell [.int n] g = .ok (minusOf w l) g := by
  have l0 : 0 < l.length := List.length_pos_iff.mpr hl
  have hp := m_root_parts_eq (g := g) (m := l.length) hr hl hs hw (by omega) (by omega) (by omega)
  have hla := along_last (w := w :: cyc l (l.length - 1)) (by simp)
  refine m_rt (np := 1) rfl ?_
  have s1 : S_minus_pell_1 (startR 2 [.int n]) g = .nx [.d (.int n), .d (dI l)] g := by
    simp (disch := omega) only [S_minus_pell_1, hr, eV_ap, eC_ap, eBin_ap, eNeg_ap, tVal_ap, eIsN_ap, eNotN_ap, eChain_ap, tAndF_ap, tOrF_ap, tNotF_ap, tTru_ap, eAnd_ap, eOr_ap, eNot_ap, eIf_ap, aNil_ap, aCons_ap, eTup_ap, eLst_ap, oNone_ap, oSome_ap, eSl_ap, eCall_ap, iLst_ap, iTpl_ap, iRan2_apN, eOf_ap, oLst_ap, oCat_ap, oRep_ap, oSl_ap, oList_ap, oComp_ap, tYesF_ap, sNil_ap, sSeq_th, sBrk_ap, sCnt_ap, sExpr_ap, sRet_ap, sRetN_ap, sIf_ap, sSet_ap, sSetO_ap, sAsg_ap, sPar_ap, sPar3_ap, sAug_ap, sApp_ap, sExt_ap, sSetIx_ap, sFrz_ap, eIxO_ap, eLenO_ap, eIxA_ap, eLenA_ap, vOf_ap, vCons_ap, vOwn_ap, sTup_ap, iSeq_ap, sRaise_ap, sTry_ap, eExF_ap, tIfF_ap, eRev_ap, eRevF_ap, th_nx, th_rt, th_bk, th_ct, th_exc, bind_ok, bind_exc, go_ok, go_exc, opAdd_int, opSub_int, opMul_a, opMul_b, opDiv_pos, opDiv_wide, opMod_pos, opI_int, opEq_int, opNe_int, opEq_bool, opNe_bool, atI_0, atI_1, atI_2, atI_3, opIx_list, opIx_tuple, iRan1_ap, bLen_list, bLen_tuple, bInt_int, bAbs_int, bName, bNil, bCons, bTup, List.getElem?_cons_zero, List.getElem?_cons_succ, List.set_cons_zero, List.set_cons_succ, List.length_cons, List.length_nil, noTok, if_true, if_false, decide_true, decide_false, Bool.not_true, Bool.not_false, setAll, List.map_cons, List.map_nil, truD, Bool.true_eq_false, Bool.false_eq_true, Option.bind_some, true_and, and_true, List.replicate, startR, List.cons_append, List.nil_append, Nat.sub_self, reduceIte, ↓reduceIte, isNon, LIM_eq, and_self, List.map_append, List.length_map, Int.toNat_natCast, Nat.zero_le, Nat.reduceLeDiff, Int.reduceNeg, Int.reduceLE, Int.reduceLT, Int.zero_add, ran1_int, ran2_int, noEx, eq_self, dI, dP, dPs]
  have s2 : S_minus_pell_2 [.d (.int n), .d (dI l)] g = .rt (minusOf w l) g := by
    by_cases h : l.length % 2 = 1
    · have e : minusOf w l = dP (partOf (w :: cyc l (l.length - 1))) := if_pos h
      rw [e]
      simp (disch := omega) only [S_minus_pell_2, show (l.length : Int) % 2 = 1 by omega, hp, hla, eV_ap, eC_ap, eBin_ap, eNeg_ap, tVal_ap, eIsN_ap, eNotN_ap, eChain_ap, tAndF_ap, tOrF_ap, tNotF_ap, tTru_ap, eAnd_ap, eOr_ap, eNot_ap, eIf_ap, aNil_ap, aCons_ap, eTup_ap, eLst_ap, oNone_ap, oSome_ap, eSl_ap, eCall_ap, iLst_ap, iTpl_ap, iRan2_apN, eOf_ap, oLst_ap, oCat_ap, oRep_ap, oSl_ap, oList_ap, oComp_ap, tYesF_ap, sNil_ap, sSeq_th, sBrk_ap, sCnt_ap, sExpr_ap, sRet_ap, sRetN_ap, sIf_ap, sSet_ap, sSetO_ap, sAsg_ap, sPar_ap, sPar3_ap, sAug_ap, sApp_ap, sExt_ap, sSetIx_ap, sFrz_ap, eIxO_ap, eLenO_ap, eIxA_ap, eLenA_ap, vOf_ap, vCons_ap, vOwn_ap, sTup_ap, iSeq_ap, sRaise_ap, sTry_ap, eExF_ap, tIfF_ap, eRev_ap, eRevF_ap, th_nx, th_rt, th_bk, th_ct, th_exc, bind_ok, bind_exc, go_ok, go_exc, opAdd_int, opSub_int, opMul_a, opMul_b, opDiv_pos, opDiv_wide, opMod_pos, opI_int, opEq_int, opNe_int, opEq_bool, opNe_bool, atI_0, atI_1, atI_2, atI_3, opIx_list, opIx_tuple, iRan1_ap, bLen_list, bLen_tuple, bInt_int, bAbs_int, bName, bNil, bCons, bTup, List.getElem?_cons_zero, List.getElem?_cons_succ, List.set_cons_zero, List.set_cons_succ, List.length_cons, List.length_nil, noTok, if_true, if_false, decide_true, decide_false, Bool.not_true, Bool.not_false, setAll, List.map_cons, List.map_nil, truD, Bool.true_eq_false, Bool.false_eq_true, Option.bind_some, true_and, and_true, List.replicate, startR, List.cons_append, List.nil_append, Nat.sub_self, reduceIte, ↓reduceIte, isNon, LIM_eq, and_self, List.map_append, List.length_map, Int.toNat_natCast, Nat.zero_le, Nat.reduceLeDiff, Int.reduceNeg, Int.reduceLE, Int.reduceLT, Int.zero_add, ran1_int, ran2_int, noEx, eq_self, dI]
    · have e : minusOf w l = .none := if_neg h
      rw [e]
      simp (disch := omega) only [S_minus_pell_2, show ¬ (l.length : Int) % 2 = 1 by omega, eV_ap, eC_ap, eBin_ap, eNeg_ap, tVal_ap, eIsN_ap, eNotN_ap, eChain_ap, tAndF_ap, tOrF_ap, tNotF_ap, tTru_ap, eAnd_ap, eOr_ap, eNot_ap, eIf_ap, aNil_ap, aCons_ap, eTup_ap, eLst_ap, oNone_ap, oSome_ap, eSl_ap, eCall_ap, iLst_ap, iTpl_ap, iRan2_apN, eOf_ap, oLst_ap, oCat_ap, oRep_ap, oSl_ap, oList_ap, oComp_ap, tYesF_ap, sNil_ap, sSeq_th, sBrk_ap, sCnt_ap, sExpr_ap, sRet_ap, sRetN_ap, sIf_ap, sSet_ap, sSetO_ap, sAsg_ap, sPar_ap, sPar3_ap, sAug_ap, sApp_ap, sExt_ap, sSetIx_ap, sFrz_ap, eIxO_ap, eLenO_ap, eIxA_ap, eLenA_ap, vOf_ap, vCons_ap, vOwn_ap, sTup_ap, iSeq_ap, sRaise_ap, sTry_ap, eExF_ap, tIfF_ap, eRev_ap, eRevF_ap, th_nx, th_rt, th_bk, th_ct, th_exc, bind_ok, bind_exc, go_ok, go_exc, opAdd_int, opSub_int, opMul_a, opMul_b, opDiv_pos, opDiv_wide, opMod_pos, opI_int, opEq_int, opNe_int, opEq_bool, opNe_bool, atI_0, atI_1, atI_2, atI_3, opIx_list, opIx_tuple, iRan1_ap, bLen_list, bLen_tuple, bInt_int, bAbs_int, bName, bNil, bCons, bTup, List.getElem?_cons_zero, List.getElem?_cons_succ, List.set_cons_zero, List.set_cons_succ, List.length_cons, List.length_nil, noTok, if_true, if_false, decide_true, decide_false, Bool.not_true, Bool.not_false, setAll, List.map_cons, List.map_nil, truD, Bool.true_eq_false, Bool.false_eq_true, Option.bind_some, true_and, and_true, List.replicate, startR, List.cons_append, List.nil_append, Nat.sub_self, reduceIte, ↓reduceIte, isNon, LIM_eq, and_self, List.map_append, List.length_map, Int.toNat_natCast, Nat.zero_le, Nat.reduceLeDiff, Int.reduceNeg, Int.reduceLE, Int.reduceLT, Int.zero_add, ran1_int, ran2_int, noEx, eq_self, dI, dP, dPs]
  exact seq_nx s1 s2
end K45
namespace K45
open PySem
open PySem.Spec
open PyProof.Rows
open L2
open DL
def nxt (t s w : Nat) : Nat := if Nat.blt t ((s + w + 1) * (s + w + 1)) = true then s + w else s + w + 1
def scan (n c w : Nat) : Nat → Nat → Nat → Option (Option (Nat × Nat))
  | 0, _, _ => some none
  | f + 1, y, s => if (Nat.ble (nxt (n * y * y + c - 1) s w * nxt (n * y * y + c - 1) s w) (n * y * y + c - 1) && Nat.blt (n * y * y + c - 1) ((nxt (n * y * y + c - 1) s w + 1) * (nxt (n * y * y + c - 1) s w + 1))) = true then
      (if Nat.beq (nxt (n * y * y + c - 1) s w * nxt (n * y * y + c - 1) s w) (n * y * y + c - 1) = true then some (some (nxt (n * y * y + c - 1) s w, y)) else scan n c w f (y + 1) (nxt (n * y * y + c - 1) s w)) else none
theorem scan_succ {n c w f y s : Nat} {q : Option (Nat × Nat)} (h : scan n c w (f + 1) y s = some q) : ∃ r, r * r ≤ n * y * y + c - 1 ∧ n * y * y + c - 1 < (r + 1) * (r + 1) ∧ ((r * r = n * y * y + c - 1 ∧ q = some (r, y)) ∨ (¬ r * r = n * y * y + c - 1 ∧ scan n c w f (y + 1) r = some q)) := by
  unfold scan at h
  split at h
  · rename_i hc
    rw [Bool.and_eq_true] at hc
    refine ⟨_, Nat.le_of_ble_eq_true hc.1, Nat.le_of_ble_eq_true hc.2, ?_⟩
    split at h
    · rename_i he
      cases h
      exact .inl ⟨Nat.eq_of_beq_eq_true he, rfl⟩
    · rename_i he
      refine .inr ⟨fun z => he ?_, h⟩
      rw [z]
      exact Nat.beq_refl _
  · cases h
theorem upTo_succ {lo : Int} {f : Nat} : upTo lo (f + 1) = .int lo :: upTo (lo + 1) f := by
  unfold DL.upTo
  rw [List.range_succ_eq_map, List.map_cons, List.map_map]
  congr 1
  · simp
  · refine List.map_congr_left fun i _ => ?_
    show PyData.int (lo + ((i + 1 : Nat) : Int)) = _
    congr 1
    omega
abbrev castP (p : Nat × Nat) : Int × Int := ((p.1 : Int), (p.2 : Int))
theorem scan_for {n c w : Nat} {N C most : Int} {g : G} (hn : 2 ≤ n) (hn2 : n < 1000) (hc : c = 0 ∨ c = 2) (hN : N = (n : Int)) (hC : C = (c : Int) - 1) : ∀ (f y s : Nat) (Y : Int) (x z : SV) (r : Option (Nat × Nat)), Y = (y : Int) → 0 < y → y + f < 1000 → scan n c w f y s = some r →
    (∀ p, r = some p → forL (bName 3) B__law_least_1 (upTo Y f) [.d (.int N), .d (.int C), .d (.int most), x, z] g = .rt (dP (castP p)) g) ∧
    (r = none → ∃ x' z', forL (bName 3) B__law_least_1 (upTo Y f) [.d (.int N), .d (.int C), .d (.int most), x, z] g = .nx [.d (.int N), .d (.int C), .d (.int most), x', z'] g)
  | 0, y, s, Y, x, z, r, _, _, _, h => by
    cases h
    exact ⟨fun p e => (by cases e), fun _ => ⟨x, z, rfl⟩⟩
  | f + 1, y, s, Y, x, z, r, hY, hy, hf, h => by
    obtain ⟨q, hq1, hq2, hq⟩ := scan_succ h
    have b1 : n * y ≤ 1000 * 1000 := Nat.mul_le_mul (by omega) (by omega)
    have b2 : n * y * y ≤ 1000 * 1000 * 1000 := Nat.mul_le_mul b1 (by omega)
    have b3 : 2 * 1 ≤ n * y := Nat.mul_le_mul hn hy
    have b4 : 2 * 1 * 1 ≤ n * y * y := Nat.mul_le_mul b3 hy
    have b5 : q ≤ q * q := Nat.le_mul_self q
    obtain ⟨Q, hQ⟩ : ∃ Q : Int, Q = (q : Int) := ⟨_, rfl⟩
    obtain ⟨T, hT⟩ : ∃ T : Int, T = ((n * y * y + c - 1 : Nat) : Int) := ⟨_, rfl⟩
    have et : N * Y * Y + C = T := by
      rw [hT, hN, hY, hC, ← Int.natCast_mul, ← Int.natCast_mul]
      omega
    have eq1 : Q * Q = ((q * q : Nat) : Int) := by rw [hQ, ← Int.natCast_mul]
    have eq2 : (Q + 1) * (Q + 1) = (((q + 1) * (q + 1) : Nat) : Int) := by rw [hQ, Int.natCast_mul]; rfl
    have b6 : N * Y < 2000000 := by
      rw [hN, hY, ← Int.natCast_mul]
      omega
    have b7 : 0 ≤ N * Y := by
      rw [hN, hY, ← Int.natCast_mul]
      omega
    have tp : 0 < T := by omega
    have tb : T < 2000000000 := by omega
    have t1 : Q * Q ≤ T := by omega
    have t2 : T < (Q + 1) * (Q + 1) := by omega
    have Qb : 0 ≤ Q ∧ Q < 2000000000 := by omega
    have Nb : 0 < N ∧ N < 1000 := by omega
    have Yb : 0 < Y ∧ Y < 1000 := by omega
    have enq : (q * q = n * y * y + c - 1 ∧ Q * Q = T) ∨ (¬ q * q = n * y * y + c - 1 ∧ ¬ Q * Q = T) := by omega
    clear b1 b2 b3 b4 b5 hq1 hq2 eq1 eq2 hT
    have hr := m__law_root_eq (g := g) (n := T) (r := Q) (by omega) Qb.1 t1 t2
    have s2 : S__law_least_2 [.d (.int N), .d (.int C), .d (.int most), .d (.int Y), z] g = .nx [.d (.int N), .d (.int C), .d (.int most), .d (.int Y), .d (.int Q)] g := by
      simp (disch := omega) only [S__law_least_2, et, tp, hr, eV_ap, eC_ap, eBin_ap, eNeg_ap, tVal_ap, eIsN_ap, eNotN_ap, eChain_ap, tAndF_ap, tOrF_ap, tNotF_ap, tTru_ap, eAnd_ap, eOr_ap, eNot_ap, eIf_ap, aNil_ap, aCons_ap, eTup_ap, eLst_ap, oNone_ap, oSome_ap, eSl_ap, eCall_ap, iLst_ap, iTpl_ap, iRan2_apN, eOf_ap, oLst_ap, oCat_ap, oRep_ap, oSl_ap, oList_ap, oComp_ap, tYesF_ap, sNil_ap, sSeq_th, sBrk_ap, sCnt_ap, sExpr_ap, sRet_ap, sRetN_ap, sIf_ap, sSet_ap, sSetO_ap, sAsg_ap, sPar_ap, sPar3_ap, sAug_ap, sApp_ap, sExt_ap, sSetIx_ap, sFrz_ap, eIxO_ap, eLenO_ap, eIxA_ap, eLenA_ap, vOf_ap, vCons_ap, vOwn_ap, sTup_ap, iSeq_ap, sRaise_ap, sTry_ap, eExF_ap, tIfF_ap, eRev_ap, eRevF_ap, th_nx, th_rt, th_bk, th_ct, th_exc, bind_ok, bind_exc, go_ok, go_exc, opAdd_int, opSub_int, opMul_a, opMul_b, opDiv_pos, opDiv_wide, opMod_pos, opI_int, opEq_int, opNe_int, opEq_bool, opNe_bool, atI_0, atI_1, atI_2, atI_3, opIx_list, opIx_tuple, iRan1_ap, bLen_list, bLen_tuple, bInt_int, bAbs_int, bName, bNil, bCons, bTup, List.getElem?_cons_zero, List.getElem?_cons_succ, List.set_cons_zero, List.set_cons_succ, List.length_cons, List.length_nil, noTok, if_true, if_false, decide_true, decide_false, Bool.not_true, Bool.not_false, setAll, List.map_cons, List.map_nil, truD, Bool.true_eq_false, Bool.false_eq_true, Option.bind_some, true_and, and_true, List.replicate, startR, List.cons_append, List.nil_append, Nat.sub_self, reduceIte, ↓reduceIte, isNon, LIM_eq, and_self, List.map_append, List.length_map, Int.toNat_natCast, Nat.zero_le, Nat.reduceLeDiff, Int.reduceNeg, Int.reduceLE, Int.reduceLT, Int.zero_add, ran1_int, ran2_int, noEx, eq_self, dI, dP, dPs]
    have e0 : ∀ o, B__law_least_1 [.d (.int N), .d (.int C), .d (.int most), .d (.int Y), z] g = .rt o g → forL (bName 3) B__law_least_1 (upTo Y (f + 1)) [.d (.int N), .d (.int C), .d (.int most), x, z] g = .rt o g := by
      intro o sb
      rw [upTo_succ]
      unfold forL
      simp only [bName, List.set_cons_zero, List.set_cons_succ, sb]
    have e1 : B__law_least_1 [.d (.int N), .d (.int C), .d (.int most), .d (.int Y), z] g = .nx [.d (.int N), .d (.int C), .d (.int most), .d (.int Y), .d (.int Q)] g → forL (bName 3) B__law_least_1 (upTo Y (f + 1)) [.d (.int N), .d (.int C), .d (.int most), x, z] g = forL (bName 3) B__law_least_1 (upTo (Y + 1) f) [.d (.int N), .d (.int C), .d (.int most), .d (.int Y), .d (.int Q)] g := by
      intro sb
      rw [upTo_succ, forL]
      simp only [bName, List.set_cons_zero, List.set_cons_succ, sb]
    rcases enq with ⟨he, hE⟩ | ⟨he, hE⟩
    · have hr2 : r = some (q, y) := by
        rcases hq with ⟨_, h3⟩ | ⟨h3, _⟩
        · exact h3
        · exact absurd he h3
      have q0 : 0 < Q := by
        by_cases h0 : Q = 0
        · rw [h0] at hE
          omega
        · omega
      have s3 : S__law_least_3 [.d (.int N), .d (.int C), .d (.int most), .d (.int Y), .d (.int Q)] g = .rt (.tuple [.int Q, .int Y]) g := by
        simp (disch := omega) only [S__law_least_3, S__law_least_4, q0, et, hE, eV_ap, eC_ap, eBin_ap, eNeg_ap, tVal_ap, eIsN_ap, eNotN_ap, eChain_ap, tAndF_ap, tOrF_ap, tNotF_ap, tTru_ap, eAnd_ap, eOr_ap, eNot_ap, eIf_ap, aNil_ap, aCons_ap, eTup_ap, eLst_ap, oNone_ap, oSome_ap, eSl_ap, eCall_ap, iLst_ap, iTpl_ap, iRan2_apN, eOf_ap, oLst_ap, oCat_ap, oRep_ap, oSl_ap, oList_ap, oComp_ap, tYesF_ap, sNil_ap, sSeq_th, sBrk_ap, sCnt_ap, sExpr_ap, sRet_ap, sRetN_ap, sIf_ap, sSet_ap, sSetO_ap, sAsg_ap, sPar_ap, sPar3_ap, sAug_ap, sApp_ap, sExt_ap, sSetIx_ap, sFrz_ap, eIxO_ap, eLenO_ap, eIxA_ap, eLenA_ap, vOf_ap, vCons_ap, vOwn_ap, sTup_ap, iSeq_ap, sRaise_ap, sTry_ap, eExF_ap, tIfF_ap, eRev_ap, eRevF_ap, th_nx, th_rt, th_bk, th_ct, th_exc, bind_ok, bind_exc, go_ok, go_exc, opAdd_int, opSub_int, opMul_a, opMul_b, opDiv_pos, opDiv_wide, opMod_pos, opI_int, opEq_int, opNe_int, opEq_bool, opNe_bool, atI_0, atI_1, atI_2, atI_3, opIx_list, opIx_tuple, iRan1_ap, bLen_list, bLen_tuple, bInt_int, bAbs_int, bName, bNil, bCons, bTup, List.getElem?_cons_zero, List.getElem?_cons_succ, List.set_cons_zero, List.set_cons_succ, List.length_cons, List.length_nil, noTok, if_true, if_false, decide_true, decide_false, Bool.not_true, Bool.not_false, setAll, List.map_cons, List.map_nil, truD, Bool.true_eq_false, Bool.false_eq_true, Option.bind_some, true_and, and_true, List.replicate, startR, List.cons_append, List.nil_append, Nat.sub_self, reduceIte, ↓reduceIte, isNon, LIM_eq, and_self, List.map_append, List.length_map, Int.toNat_natCast, Nat.zero_le, Nat.reduceLeDiff, Int.reduceNeg, Int.reduceLE, Int.reduceLT, Int.zero_add, ran1_int, ran2_int, noEx, eq_self, dI, dP, dPs]
      refine ⟨fun p hp => ?_, fun e => by rw [e] at hr2; cases hr2⟩
      rw [hr2] at hp
      cases hp
      rw [e0 _ (seq_nx s2 s3), hQ, hY]
    · have h4 : scan n c w f (y + 1) q = some r := by
        rcases hq with ⟨h3, _⟩ | ⟨_, h3⟩
        · exact absurd h3 he
        · exact h3
      have s3 : S__law_least_3 [.d (.int N), .d (.int C), .d (.int most), .d (.int Y), .d (.int Q)] g = .nx [.d (.int N), .d (.int C), .d (.int most), .d (.int Y), .d (.int Q)] g := by
        by_cases h0 : 0 < Q
        · simp (disch := omega) only [S__law_least_3, h0, et, hE, eV_ap, eC_ap, eBin_ap, eNeg_ap, tVal_ap, eIsN_ap, eNotN_ap, eChain_ap, tAndF_ap, tOrF_ap, tNotF_ap, tTru_ap, eAnd_ap, eOr_ap, eNot_ap, eIf_ap, aNil_ap, aCons_ap, eTup_ap, eLst_ap, oNone_ap, oSome_ap, eSl_ap, eCall_ap, iLst_ap, iTpl_ap, iRan2_apN, eOf_ap, oLst_ap, oCat_ap, oRep_ap, oSl_ap, oList_ap, oComp_ap, tYesF_ap, sNil_ap, sSeq_th, sBrk_ap, sCnt_ap, sExpr_ap, sRet_ap, sRetN_ap, sIf_ap, sSet_ap, sSetO_ap, sAsg_ap, sPar_ap, sPar3_ap, sAug_ap, sApp_ap, sExt_ap, sSetIx_ap, sFrz_ap, eIxO_ap, eLenO_ap, eIxA_ap, eLenA_ap, vOf_ap, vCons_ap, vOwn_ap, sTup_ap, iSeq_ap, sRaise_ap, sTry_ap, eExF_ap, tIfF_ap, eRev_ap, eRevF_ap, th_nx, th_rt, th_bk, th_ct, th_exc, bind_ok, bind_exc, go_ok, go_exc, opAdd_int, opSub_int, opMul_a, opMul_b, opDiv_pos, opDiv_wide, opMod_pos, opI_int, opEq_int, opNe_int, opEq_bool, opNe_bool, atI_0, atI_1, atI_2, atI_3, opIx_list, opIx_tuple, iRan1_ap, bLen_list, bLen_tuple, bInt_int, bAbs_int, bName, bNil, bCons, bTup, List.getElem?_cons_zero, List.getElem?_cons_succ, List.set_cons_zero, List.set_cons_succ, List.length_cons, List.length_nil, noTok, if_true, if_false, decide_true, decide_false, Bool.not_true, Bool.not_false, setAll, List.map_cons, List.map_nil, truD, Bool.true_eq_false, Bool.false_eq_true, Option.bind_some, true_and, and_true, List.replicate, startR, List.cons_append, List.nil_append, Nat.sub_self, reduceIte, ↓reduceIte, isNon, LIM_eq, and_self, List.map_append, List.length_map, Int.toNat_natCast, Nat.zero_le, Nat.reduceLeDiff, Int.reduceNeg, Int.reduceLE, Int.reduceLT, Int.zero_add, ran1_int, ran2_int, noEx, eq_self, dI, dP, dPs]
        · simp (disch := omega) only [S__law_least_3, h0, eV_ap, eC_ap, eBin_ap, eNeg_ap, tVal_ap, eIsN_ap, eNotN_ap, eChain_ap, tAndF_ap, tOrF_ap, tNotF_ap, tTru_ap, eAnd_ap, eOr_ap, eNot_ap, eIf_ap, aNil_ap, aCons_ap, eTup_ap, eLst_ap, oNone_ap, oSome_ap, eSl_ap, eCall_ap, iLst_ap, iTpl_ap, iRan2_apN, eOf_ap, oLst_ap, oCat_ap, oRep_ap, oSl_ap, oList_ap, oComp_ap, tYesF_ap, sNil_ap, sSeq_th, sBrk_ap, sCnt_ap, sExpr_ap, sRet_ap, sRetN_ap, sIf_ap, sSet_ap, sSetO_ap, sAsg_ap, sPar_ap, sPar3_ap, sAug_ap, sApp_ap, sExt_ap, sSetIx_ap, sFrz_ap, eIxO_ap, eLenO_ap, eIxA_ap, eLenA_ap, vOf_ap, vCons_ap, vOwn_ap, sTup_ap, iSeq_ap, sRaise_ap, sTry_ap, eExF_ap, tIfF_ap, eRev_ap, eRevF_ap, th_nx, th_rt, th_bk, th_ct, th_exc, bind_ok, bind_exc, go_ok, go_exc, opAdd_int, opSub_int, opMul_a, opMul_b, opDiv_pos, opDiv_wide, opMod_pos, opI_int, opEq_int, opNe_int, opEq_bool, opNe_bool, atI_0, atI_1, atI_2, atI_3, opIx_list, opIx_tuple, iRan1_ap, bLen_list, bLen_tuple, bInt_int, bAbs_int, bName, bNil, bCons, bTup, List.getElem?_cons_zero, List.getElem?_cons_succ, List.set_cons_zero, List.set_cons_succ, List.length_cons, List.length_nil, noTok, if_true, if_false, decide_true, decide_false, Bool.not_true, Bool.not_false, setAll, List.map_cons, List.map_nil, truD, Bool.true_eq_false, Bool.false_eq_true, Option.bind_some, true_and, and_true, List.replicate, startR, List.cons_append, List.nil_append, Nat.sub_self, reduceIte, ↓reduceIte, isNon, LIM_eq, and_self, List.map_append, List.length_map, Int.toNat_natCast, Nat.zero_le, Nat.reduceLeDiff, Int.reduceNeg, Int.reduceLE, Int.reduceLT, Int.zero_add, ran1_int, ran2_int, noEx, eq_self, dI, dP, dPs]
      rw [e1 (seq_nx s2 s3)]
      exact scan_for (most := most) (g := g) hn hn2 hc hN hC f (y + 1) q (Y + 1) (.d (.int Y)) (.d (.int Q)) r (by omega) (by omega) (by omega) h4
abbrev optP : Option (Nat × Nat) → D
  | none => .none
  | some p => dP (castP p)
theorem m_least_eq {n c w most : Nat} {N C M : Int} {r : Option (Nat × Nat)} {g : G} (hn : 2 ≤ n) (hn2 : n < 1000) (hc : c = 0 ∨ c = 2) (hN : N = (n : Int)) (hC : C = (c : Int) - 1) (hM : M = (most : Int)) (h1 : most < 900) (h : scan n c w most 1 0 = some r) : m__law_least [.int N, .int C, .int M] g = .ok (optP r) g := by
  refine m_rt (np := 3) rfl ?_
  obtain ⟨hs1, hs2⟩ := scan_for (most := M) (g := g) hn hn2 hc hN hC most 1 0 1 .un .un r (by omega) (by omega) (by omega) h
  have hi : iRan2 (aCons (eC (.int 1)) (aCons (eBin opAdd (eV 2) (eC (.int 1))) aNil)) [.d (.int N), .d (.int C), .d (.int M), .un, .un] g = .ok (upTo 1 most) g := by
    have e : (M + 1 - 1).toNat = most := by omega
    have h0 : 0 ≤ M ∧ M < 900 := by omega
    simp (disch := omega) only [e, eV_ap, eC_ap, eBin_ap, eNeg_ap, tVal_ap, eIsN_ap, eNotN_ap, eChain_ap, tAndF_ap, tOrF_ap, tNotF_ap, tTru_ap, eAnd_ap, eOr_ap, eNot_ap, eIf_ap, aNil_ap, aCons_ap, eTup_ap, eLst_ap, oNone_ap, oSome_ap, eSl_ap, eCall_ap, iLst_ap, iTpl_ap, iRan2_apN, eOf_ap, oLst_ap, oCat_ap, oRep_ap, oSl_ap, oList_ap, oComp_ap, tYesF_ap, sNil_ap, sSeq_th, sBrk_ap, sCnt_ap, sExpr_ap, sRet_ap, sRetN_ap, sIf_ap, sSet_ap, sSetO_ap, sAsg_ap, sPar_ap, sPar3_ap, sAug_ap, sApp_ap, sExt_ap, sSetIx_ap, sFrz_ap, eIxO_ap, eLenO_ap, eIxA_ap, eLenA_ap, vOf_ap, vCons_ap, vOwn_ap, sTup_ap, iSeq_ap, sRaise_ap, sTry_ap, eExF_ap, tIfF_ap, eRev_ap, eRevF_ap, th_nx, th_rt, th_bk, th_ct, th_exc, bind_ok, bind_exc, go_ok, go_exc, opAdd_int, opSub_int, opMul_a, opMul_b, opDiv_pos, opDiv_wide, opMod_pos, opI_int, opEq_int, opNe_int, opEq_bool, opNe_bool, atI_0, atI_1, atI_2, atI_3, opIx_list, opIx_tuple, iRan1_ap, bLen_list, bLen_tuple, bInt_int, bAbs_int, bName, bNil, bCons, bTup, List.getElem?_cons_zero, List.getElem?_cons_succ, List.set_cons_zero, List.set_cons_succ, List.length_cons, List.length_nil, noTok, if_true, if_false, decide_true, decide_false, Bool.not_true, Bool.not_false, setAll, List.map_cons, List.map_nil, truD, Bool.true_eq_false, Bool.false_eq_true, Option.bind_some, true_and, and_true, List.replicate, startR, List.cons_append, List.nil_append, Nat.sub_self, reduceIte, ↓reduceIte, isNon, LIM_eq, and_self, List.map_append, List.length_map, Int.toNat_natCast, Nat.zero_le, Nat.reduceLeDiff, Int.reduceNeg, Int.reduceLE, Int.reduceLT, Int.zero_add, ran1_int, ran2_int, noEx, eq_self, dI, dP, dPs]
  have e1 : S__law_least_1 [.d (.int N), .d (.int C), .d (.int M), .un, .un] g = forL (bName 3) B__law_least_1 (upTo 1 most) [.d (.int N), .d (.int C), .d (.int M), .un, .un] g := by
    unfold S__law_least_1 sFor
    rw [hi]
    rfl
  cases r with
  | none =>
    obtain ⟨x, z, e⟩ := hs2 rfl
    refine seq_nx (show S__law_least_1 [.d (.int N), .d (.int C), .d (.int M), .un, .un] g = .nx [.d (.int N), .d (.int C), .d (.int M), x, z] g from e1.trans e) ?_
    simp (disch := omega) only [S__law_least_5, optP, eV_ap, eC_ap, eBin_ap, eNeg_ap, tVal_ap, eIsN_ap, eNotN_ap, eChain_ap, tAndF_ap, tOrF_ap, tNotF_ap, tTru_ap, eAnd_ap, eOr_ap, eNot_ap, eIf_ap, aNil_ap, aCons_ap, eTup_ap, eLst_ap, oNone_ap, oSome_ap, eSl_ap, eCall_ap, iLst_ap, iTpl_ap, iRan2_apN, eOf_ap, oLst_ap, oCat_ap, oRep_ap, oSl_ap, oList_ap, oComp_ap, tYesF_ap, sNil_ap, sSeq_th, sBrk_ap, sCnt_ap, sExpr_ap, sRet_ap, sRetN_ap, sIf_ap, sSet_ap, sSetO_ap, sAsg_ap, sPar_ap, sPar3_ap, sAug_ap, sApp_ap, sExt_ap, sSetIx_ap, sFrz_ap, eIxO_ap, eLenO_ap, eIxA_ap, eLenA_ap, vOf_ap, vCons_ap, vOwn_ap, sTup_ap, iSeq_ap, sRaise_ap, sTry_ap, eExF_ap, tIfF_ap, eRev_ap, eRevF_ap, th_nx, th_rt, th_bk, th_ct, th_exc, bind_ok, bind_exc, go_ok, go_exc, opAdd_int, opSub_int, opMul_a, opMul_b, opDiv_pos, opDiv_wide, opMod_pos, opI_int, opEq_int, opNe_int, opEq_bool, opNe_bool, atI_0, atI_1, atI_2, atI_3, opIx_list, opIx_tuple, iRan1_ap, bLen_list, bLen_tuple, bInt_int, bAbs_int, bName, bNil, bCons, bTup, List.getElem?_cons_zero, List.getElem?_cons_succ, List.set_cons_zero, List.set_cons_succ, List.length_cons, List.length_nil, noTok, if_true, if_false, decide_true, decide_false, Bool.not_true, Bool.not_false, setAll, List.map_cons, List.map_nil, truD, Bool.true_eq_false, Bool.false_eq_true, Option.bind_some, true_and, and_true, List.replicate, startR, List.cons_append, List.nil_append, Nat.sub_self, reduceIte, ↓reduceIte, isNon, LIM_eq, and_self, List.map_append, List.length_map, Int.toNat_natCast, Nat.zero_le, Nat.reduceLeDiff, Int.reduceNeg, Int.reduceLE, Int.reduceLT, Int.zero_add, ran1_int, ran2_int, noEx, eq_self, dI, dP, dPs]
  | some p =>
    have e2 := e1.trans (hs1 p rfl)
    show sSeq S__law_least_1 S__law_least_5 [.d (.int N), .d (.int C), .d (.int M), .un, .un] g = _
    rw [sSeq_th, e2]
    rfl
theorem m_words_eq {n : Int} {g : G} (hr : ∀ g, m_root_chain [.int n] g = .exc "Misstep" [("word", .str "square")] g) : m__law_words [.int n] g = .ok (.list [.str "square", .str "square", .str "square", .str "square"]) g := by
  have hp : ∀ g, m_root_parts [.int n, .int 2] g = .exc "Misstep" [("word", .str "square")] g := fun g => by
    refine m_exc (np := 2) (ρ := startR 6 [.int n, .int 2]) rfl ?_
    simp (disch := omega) only [sem_root_parts, S_root_parts_1, hr, eV_ap, eC_ap, eBin_ap, eNeg_ap, tVal_ap, eIsN_ap, eNotN_ap, eChain_ap, tAndF_ap, tOrF_ap, tNotF_ap, tTru_ap, eAnd_ap, eOr_ap, eNot_ap, eIf_ap, aNil_ap, aCons_ap, eTup_ap, eLst_ap, oNone_ap, oSome_ap, eSl_ap, eCall_ap, iLst_ap, iTpl_ap, iRan2_apN, eOf_ap, oLst_ap, oCat_ap, oRep_ap, oSl_ap, oList_ap, oComp_ap, tYesF_ap, sNil_ap, sSeq_th, sBrk_ap, sCnt_ap, sExpr_ap, sRet_ap, sRetN_ap, sIf_ap, sSet_ap, sSetO_ap, sAsg_ap, sPar_ap, sPar3_ap, sAug_ap, sApp_ap, sExt_ap, sSetIx_ap, sFrz_ap, eIxO_ap, eLenO_ap, eIxA_ap, eLenA_ap, vOf_ap, vCons_ap, vOwn_ap, sTup_ap, iSeq_ap, sRaise_ap, sTry_ap, eExF_ap, tIfF_ap, eRev_ap, eRevF_ap, th_nx, th_rt, th_bk, th_ct, th_exc, bind_ok, bind_exc, go_ok, go_exc, opAdd_int, opSub_int, opMul_a, opMul_b, opDiv_pos, opDiv_wide, opMod_pos, opI_int, opEq_int, opNe_int, opEq_bool, opNe_bool, atI_0, atI_1, atI_2, atI_3, opIx_list, opIx_tuple, iRan1_ap, bLen_list, bLen_tuple, bInt_int, bAbs_int, bName, bNil, bCons, bTup, List.getElem?_cons_zero, List.getElem?_cons_succ, List.set_cons_zero, List.set_cons_succ, List.length_cons, List.length_nil, noTok, if_true, if_false, decide_true, decide_false, Bool.not_true, Bool.not_false, setAll, List.map_cons, List.map_nil, truD, Bool.true_eq_false, Bool.false_eq_true, Option.bind_some, true_and, and_true, List.replicate, startR, List.cons_append, List.nil_append, Nat.sub_self, reduceIte, ↓reduceIte, isNon, LIM_eq, and_self, List.map_append, List.length_map, Int.toNat_natCast, Nat.zero_le, Nat.reduceLeDiff, Int.reduceNeg, Int.reduceLE, Int.reduceLT, Int.zero_add, ran1_int, ran2_int, noEx, eq_self, dI, dP, dPs]
  have hq : ∀ g, m_pell [.int n] g = .exc "Misstep" [("word", .str "square")] g := fun g => by
    refine m_exc (np := 1) (ρ := startR 4 [.int n]) rfl ?_
    simp (disch := omega) only [sem_pell, S_pell_1, hr, eV_ap, eC_ap, eBin_ap, eNeg_ap, tVal_ap, eIsN_ap, eNotN_ap, eChain_ap, tAndF_ap, tOrF_ap, tNotF_ap, tTru_ap, eAnd_ap, eOr_ap, eNot_ap, eIf_ap, aNil_ap, aCons_ap, eTup_ap, eLst_ap, oNone_ap, oSome_ap, eSl_ap, eCall_ap, iLst_ap, iTpl_ap, iRan2_apN, eOf_ap, oLst_ap, oCat_ap, oRep_ap, oSl_ap, oList_ap, oComp_ap, tYesF_ap, sNil_ap, sSeq_th, sBrk_ap, sCnt_ap, sExpr_ap, sRet_ap, sRetN_ap, sIf_ap, sSet_ap, sSetO_ap, sAsg_ap, sPar_ap, sPar3_ap, sAug_ap, sApp_ap, sExt_ap, sSetIx_ap, sFrz_ap, eIxO_ap, eLenO_ap, eIxA_ap, eLenA_ap, vOf_ap, vCons_ap, vOwn_ap, sTup_ap, iSeq_ap, sRaise_ap, sTry_ap, eExF_ap, tIfF_ap, eRev_ap, eRevF_ap, th_nx, th_rt, th_bk, th_ct, th_exc, bind_ok, bind_exc, go_ok, go_exc, opAdd_int, opSub_int, opMul_a, opMul_b, opDiv_pos, opDiv_wide, opMod_pos, opI_int, opEq_int, opNe_int, opEq_bool, opNe_bool, atI_0, atI_1, atI_2, atI_3, opIx_list, opIx_tuple, iRan1_ap, bLen_list, bLen_tuple, bInt_int, bAbs_int, bName, bNil, bCons, bTup, List.getElem?_cons_zero, List.getElem?_cons_succ, List.set_cons_zero, List.set_cons_succ, List.length_cons, List.length_nil, noTok, if_true, if_false, decide_true, decide_false, Bool.not_true, Bool.not_false, setAll, List.map_cons, List.map_nil, truD, Bool.true_eq_false, Bool.false_eq_true, Option.bind_some, true_and, and_true, List.replicate, startR, List.cons_append, List.nil_append, Nat.sub_self, reduceIte, ↓reduceIte, isNon, LIM_eq, and_self, List.map_append, List.length_map, Int.toNat_natCast, Nat.zero_le, Nat.reduceLeDiff, Int.reduceNeg, Int.reduceLE, Int.reduceLT, Int.zero_add, ran1_int, ran2_int, noEx, eq_self, dI, dP, dPs]
  have hm : ∀ g, m_minus_pell [.int n] g = .exc "Misstep" [("word", .str "square")] g := fun g => by
    refine m_exc (np := 1) (ρ := startR 2 [.int n]) rfl ?_
    simp (disch := omega) only [sem_minus_pell, S_minus_pell_1, hr, eV_ap, eC_ap, eBin_ap, eNeg_ap, tVal_ap, eIsN_ap, eNotN_ap, eChain_ap, tAndF_ap, tOrF_ap, tNotF_ap, tTru_ap, eAnd_ap, eOr_ap, eNot_ap, eIf_ap, aNil_ap, aCons_ap, eTup_ap, eLst_ap, oNone_ap, oSome_ap, eSl_ap, eCall_ap, iLst_ap, iTpl_ap, iRan2_apN, eOf_ap, oLst_ap, oCat_ap, oRep_ap, oSl_ap, oList_ap, oComp_ap, tYesF_ap, sNil_ap, sSeq_th, sBrk_ap, sCnt_ap, sExpr_ap, sRet_ap, sRetN_ap, sIf_ap, sSet_ap, sSetO_ap, sAsg_ap, sPar_ap, sPar3_ap, sAug_ap, sApp_ap, sExt_ap, sSetIx_ap, sFrz_ap, eIxO_ap, eLenO_ap, eIxA_ap, eLenA_ap, vOf_ap, vCons_ap, vOwn_ap, sTup_ap, iSeq_ap, sRaise_ap, sTry_ap, eExF_ap, tIfF_ap, eRev_ap, eRevF_ap, th_nx, th_rt, th_bk, th_ct, th_exc, bind_ok, bind_exc, go_ok, go_exc, opAdd_int, opSub_int, opMul_a, opMul_b, opDiv_pos, opDiv_wide, opMod_pos, opI_int, opEq_int, opNe_int, opEq_bool, opNe_bool, atI_0, atI_1, atI_2, atI_3, opIx_list, opIx_tuple, iRan1_ap, bLen_list, bLen_tuple, bInt_int, bAbs_int, bName, bNil, bCons, bTup, List.getElem?_cons_zero, List.getElem?_cons_succ, List.set_cons_zero, List.set_cons_succ, List.length_cons, List.length_nil, noTok, if_true, if_false, decide_true, decide_false, Bool.not_true, Bool.not_false, setAll, List.map_cons, List.map_nil, truD, Bool.true_eq_false, Bool.false_eq_true, Option.bind_some, true_and, and_true, List.replicate, startR, List.cons_append, List.nil_append, Nat.sub_self, reduceIte, ↓reduceIte, isNon, LIM_eq, and_self, List.map_append, List.length_map, Int.toNat_natCast, Nat.zero_le, Nat.reduceLeDiff, Int.reduceNeg, Int.reduceLE, Int.reduceLT, Int.zero_add, ran1_int, ran2_int, noEx, eq_self, dI, dP, dPs]
  refine m_rt (np := 1) rfl ?_
  have s1 : S__law_words_1 (startR 4 [.int n]) g = .nx [.d (.int n), .own [], .un, .un] g := by
    simp (disch := omega) only [S__law_words_1, eV_ap, eC_ap, eBin_ap, eNeg_ap, tVal_ap, eIsN_ap, eNotN_ap, eChain_ap, tAndF_ap, tOrF_ap, tNotF_ap, tTru_ap, eAnd_ap, eOr_ap, eNot_ap, eIf_ap, aNil_ap, aCons_ap, eTup_ap, eLst_ap, oNone_ap, oSome_ap, eSl_ap, eCall_ap, iLst_ap, iTpl_ap, iRan2_apN, eOf_ap, oLst_ap, oCat_ap, oRep_ap, oSl_ap, oList_ap, oComp_ap, tYesF_ap, sNil_ap, sSeq_th, sBrk_ap, sCnt_ap, sExpr_ap, sRet_ap, sRetN_ap, sIf_ap, sSet_ap, sSetO_ap, sAsg_ap, sPar_ap, sPar3_ap, sAug_ap, sApp_ap, sExt_ap, sSetIx_ap, sFrz_ap, eIxO_ap, eLenO_ap, eIxA_ap, eLenA_ap, vOf_ap, vCons_ap, vOwn_ap, sTup_ap, iSeq_ap, sRaise_ap, sTry_ap, eExF_ap, tIfF_ap, eRev_ap, eRevF_ap, th_nx, th_rt, th_bk, th_ct, th_exc, bind_ok, bind_exc, go_ok, go_exc, opAdd_int, opSub_int, opMul_a, opMul_b, opDiv_pos, opDiv_wide, opMod_pos, opI_int, opEq_int, opNe_int, opEq_bool, opNe_bool, atI_0, atI_1, atI_2, atI_3, opIx_list, opIx_tuple, iRan1_ap, bLen_list, bLen_tuple, bInt_int, bAbs_int, bName, bNil, bCons, bTup, List.getElem?_cons_zero, List.getElem?_cons_succ, List.set_cons_zero, List.set_cons_succ, List.length_cons, List.length_nil, noTok, if_true, if_false, decide_true, decide_false, Bool.not_true, Bool.not_false, setAll, List.map_cons, List.map_nil, truD, Bool.true_eq_false, Bool.false_eq_true, Option.bind_some, true_and, and_true, List.replicate, startR, List.cons_append, List.nil_append, Nat.sub_self, reduceIte, ↓reduceIte, isNon, LIM_eq, and_self, List.map_append, List.length_map, Int.toNat_natCast, Nat.zero_le, Nat.reduceLeDiff, Int.reduceNeg, Int.reduceLE, Int.reduceLT, Int.zero_add, ran1_int, ran2_int, noEx, eq_self, dI, dP, dPs]
  have hb : ∀ (i : Int) (acc : List D) (x : SV), (i = 0 ∨ i = 1 ∨ i = 2 ∨ i = 3) → noEx [x] = true → acc.length < 1000 → B__law_words_2 [.d (.int n), .own acc, .d (.int i), x] g = .nx [.d (.int n), .own (acc ++ [.str "square"]), .d (.int i), .un] g := by
    intro i acc x hi hx hl
    have hx2 : noEx [.d (.int n), .own acc, .d (.int i), x] = true := hx
    have ht : S__law_words_4 [.d (.int n), .own acc, .d (.int i), x] g = .exc "Misstep" [("word", .str "square")] [.d (.int n), .own acc, .d (.int i), x] g := by
      rcases hi with rfl | rfl | rfl | rfl
      · simp (disch := omega) only [S__law_words_4, S__law_words_5, hr, eV_ap, eC_ap, eBin_ap, eNeg_ap, tVal_ap, eIsN_ap, eNotN_ap, eChain_ap, tAndF_ap, tOrF_ap, tNotF_ap, tTru_ap, eAnd_ap, eOr_ap, eNot_ap, eIf_ap, aNil_ap, aCons_ap, eTup_ap, eLst_ap, oNone_ap, oSome_ap, eSl_ap, eCall_ap, iLst_ap, iTpl_ap, iRan2_apN, eOf_ap, oLst_ap, oCat_ap, oRep_ap, oSl_ap, oList_ap, oComp_ap, tYesF_ap, sNil_ap, sSeq_th, sBrk_ap, sCnt_ap, sExpr_ap, sRet_ap, sRetN_ap, sIf_ap, sSet_ap, sSetO_ap, sAsg_ap, sPar_ap, sPar3_ap, sAug_ap, sApp_ap, sExt_ap, sSetIx_ap, sFrz_ap, eIxO_ap, eLenO_ap, eIxA_ap, eLenA_ap, vOf_ap, vCons_ap, vOwn_ap, sTup_ap, iSeq_ap, sRaise_ap, sTry_ap, eExF_ap, tIfF_ap, eRev_ap, eRevF_ap, th_nx, th_rt, th_bk, th_ct, th_exc, bind_ok, bind_exc, go_ok, go_exc, opAdd_int, opSub_int, opMul_a, opMul_b, opDiv_pos, opDiv_wide, opMod_pos, opI_int, opEq_int, opNe_int, opEq_bool, opNe_bool, atI_0, atI_1, atI_2, atI_3, opIx_list, opIx_tuple, iRan1_ap, bLen_list, bLen_tuple, bInt_int, bAbs_int, bName, bNil, bCons, bTup, List.getElem?_cons_zero, List.getElem?_cons_succ, List.set_cons_zero, List.set_cons_succ, List.length_cons, List.length_nil, noTok, if_true, if_false, decide_true, decide_false, Bool.not_true, Bool.not_false, setAll, List.map_cons, List.map_nil, truD, Bool.true_eq_false, Bool.false_eq_true, Option.bind_some, true_and, and_true, List.replicate, startR, List.cons_append, List.nil_append, Nat.sub_self, reduceIte, ↓reduceIte, isNon, LIM_eq, and_self, List.map_append, List.length_map, Int.toNat_natCast, Nat.zero_le, Nat.reduceLeDiff, Int.reduceNeg, Int.reduceLE, Int.reduceLT, Int.zero_add, ran1_int, ran2_int, noEx, eq_self, dI, dP, dPs]
      · simp (disch := omega) only [S__law_words_4, S__law_words_6, S__law_words_7, hp, show ¬ (1 : Int) = 0 by decide, eV_ap, eC_ap, eBin_ap, eNeg_ap, tVal_ap, eIsN_ap, eNotN_ap, eChain_ap, tAndF_ap, tOrF_ap, tNotF_ap, tTru_ap, eAnd_ap, eOr_ap, eNot_ap, eIf_ap, aNil_ap, aCons_ap, eTup_ap, eLst_ap, oNone_ap, oSome_ap, eSl_ap, eCall_ap, iLst_ap, iTpl_ap, iRan2_apN, eOf_ap, oLst_ap, oCat_ap, oRep_ap, oSl_ap, oList_ap, oComp_ap, tYesF_ap, sNil_ap, sSeq_th, sBrk_ap, sCnt_ap, sExpr_ap, sRet_ap, sRetN_ap, sIf_ap, sSet_ap, sSetO_ap, sAsg_ap, sPar_ap, sPar3_ap, sAug_ap, sApp_ap, sExt_ap, sSetIx_ap, sFrz_ap, eIxO_ap, eLenO_ap, eIxA_ap, eLenA_ap, vOf_ap, vCons_ap, vOwn_ap, sTup_ap, iSeq_ap, sRaise_ap, sTry_ap, eExF_ap, tIfF_ap, eRev_ap, eRevF_ap, th_nx, th_rt, th_bk, th_ct, th_exc, bind_ok, bind_exc, go_ok, go_exc, opAdd_int, opSub_int, opMul_a, opMul_b, opDiv_pos, opDiv_wide, opMod_pos, opI_int, opEq_int, opNe_int, opEq_bool, opNe_bool, atI_0, atI_1, atI_2, atI_3, opIx_list, opIx_tuple, iRan1_ap, bLen_list, bLen_tuple, bInt_int, bAbs_int, bName, bNil, bCons, bTup, List.getElem?_cons_zero, List.getElem?_cons_succ, List.set_cons_zero, List.set_cons_succ, List.length_cons, List.length_nil, noTok, if_true, if_false, decide_true, decide_false, Bool.not_true, Bool.not_false, setAll, List.map_cons, List.map_nil, truD, Bool.true_eq_false, Bool.false_eq_true, Option.bind_some, true_and, and_true, List.replicate, startR, List.cons_append, List.nil_append, Nat.sub_self, reduceIte, ↓reduceIte, isNon, LIM_eq, and_self, List.map_append, List.length_map, Int.toNat_natCast, Nat.zero_le, Nat.reduceLeDiff, Int.reduceNeg, Int.reduceLE, Int.reduceLT, Int.zero_add, ran1_int, ran2_int, noEx, eq_self, dI, dP, dPs]
      · simp (disch := omega) only [S__law_words_4, S__law_words_6, S__law_words_8, S__law_words_9, hq, show ¬ (2 : Int) = 0 by decide, show ¬ (2 : Int) = 1 by decide, eV_ap, eC_ap, eBin_ap, eNeg_ap, tVal_ap, eIsN_ap, eNotN_ap, eChain_ap, tAndF_ap, tOrF_ap, tNotF_ap, tTru_ap, eAnd_ap, eOr_ap, eNot_ap, eIf_ap, aNil_ap, aCons_ap, eTup_ap, eLst_ap, oNone_ap, oSome_ap, eSl_ap, eCall_ap, iLst_ap, iTpl_ap, iRan2_apN, eOf_ap, oLst_ap, oCat_ap, oRep_ap, oSl_ap, oList_ap, oComp_ap, tYesF_ap, sNil_ap, sSeq_th, sBrk_ap, sCnt_ap, sExpr_ap, sRet_ap, sRetN_ap, sIf_ap, sSet_ap, sSetO_ap, sAsg_ap, sPar_ap, sPar3_ap, sAug_ap, sApp_ap, sExt_ap, sSetIx_ap, sFrz_ap, eIxO_ap, eLenO_ap, eIxA_ap, eLenA_ap, vOf_ap, vCons_ap, vOwn_ap, sTup_ap, iSeq_ap, sRaise_ap, sTry_ap, eExF_ap, tIfF_ap, eRev_ap, eRevF_ap, th_nx, th_rt, th_bk, th_ct, th_exc, bind_ok, bind_exc, go_ok, go_exc, opAdd_int, opSub_int, opMul_a, opMul_b, opDiv_pos, opDiv_wide, opMod_pos, opI_int, opEq_int, opNe_int, opEq_bool, opNe_bool, atI_0, atI_1, atI_2, atI_3, opIx_list, opIx_tuple, iRan1_ap, bLen_list, bLen_tuple, bInt_int, bAbs_int, bName, bNil, bCons, bTup, List.getElem?_cons_zero, List.getElem?_cons_succ, List.set_cons_zero, List.set_cons_succ, List.length_cons, List.length_nil, noTok, if_true, if_false, decide_true, decide_false, Bool.not_true, Bool.not_false, setAll, List.map_cons, List.map_nil, truD, Bool.true_eq_false, Bool.false_eq_true, Option.bind_some, true_and, and_true, List.replicate, startR, List.cons_append, List.nil_append, Nat.sub_self, reduceIte, ↓reduceIte, isNon, LIM_eq, and_self, List.map_append, List.length_map, Int.toNat_natCast, Nat.zero_le, Nat.reduceLeDiff, Int.reduceNeg, Int.reduceLE, Int.reduceLT, Int.zero_add, ran1_int, ran2_int, noEx, eq_self, dI, dP, dPs]
      · simp (disch := omega) only [S__law_words_4, S__law_words_6, S__law_words_8, S__law_words_10, hm, show ¬ (3 : Int) = 0 by decide, show ¬ (3 : Int) = 1 by decide, show ¬ (3 : Int) = 2 by decide, eV_ap, eC_ap, eBin_ap, eNeg_ap, tVal_ap, eIsN_ap, eNotN_ap, eChain_ap, tAndF_ap, tOrF_ap, tNotF_ap, tTru_ap, eAnd_ap, eOr_ap, eNot_ap, eIf_ap, aNil_ap, aCons_ap, eTup_ap, eLst_ap, oNone_ap, oSome_ap, eSl_ap, eCall_ap, iLst_ap, iTpl_ap, iRan2_apN, eOf_ap, oLst_ap, oCat_ap, oRep_ap, oSl_ap, oList_ap, oComp_ap, tYesF_ap, sNil_ap, sSeq_th, sBrk_ap, sCnt_ap, sExpr_ap, sRet_ap, sRetN_ap, sIf_ap, sSet_ap, sSetO_ap, sAsg_ap, sPar_ap, sPar3_ap, sAug_ap, sApp_ap, sExt_ap, sSetIx_ap, sFrz_ap, eIxO_ap, eLenO_ap, eIxA_ap, eLenA_ap, vOf_ap, vCons_ap, vOwn_ap, sTup_ap, iSeq_ap, sRaise_ap, sTry_ap, eExF_ap, tIfF_ap, eRev_ap, eRevF_ap, th_nx, th_rt, th_bk, th_ct, th_exc, bind_ok, bind_exc, go_ok, go_exc, opAdd_int, opSub_int, opMul_a, opMul_b, opDiv_pos, opDiv_wide, opMod_pos, opI_int, opEq_int, opNe_int, opEq_bool, opNe_bool, atI_0, atI_1, atI_2, atI_3, opIx_list, opIx_tuple, iRan1_ap, bLen_list, bLen_tuple, bInt_int, bAbs_int, bName, bNil, bCons, bTup, List.getElem?_cons_zero, List.getElem?_cons_succ, List.set_cons_zero, List.set_cons_succ, List.length_cons, List.length_nil, noTok, if_true, if_false, decide_true, decide_false, Bool.not_true, Bool.not_false, setAll, List.map_cons, List.map_nil, truD, Bool.true_eq_false, Bool.false_eq_true, Option.bind_some, true_and, and_true, List.replicate, startR, List.cons_append, List.nil_append, Nat.sub_self, reduceIte, ↓reduceIte, isNon, LIM_eq, and_self, List.map_append, List.length_map, Int.toNat_natCast, Nat.zero_le, Nat.reduceLeDiff, Int.reduceNeg, Int.reduceLE, Int.reduceLT, Int.zero_add, ran1_int, ran2_int, noEx, eq_self, dI, dP, dPs]
    simp (disch := omega) only [B__law_words_2, S__law_words_3, ht, hx, S__law_words_11, List.lookup, show acc.length < 1000000 by omega, BEq.rfl, beq_self_eq_true, eV_ap, eC_ap, eBin_ap, eNeg_ap, tVal_ap, eIsN_ap, eNotN_ap, eChain_ap, tAndF_ap, tOrF_ap, tNotF_ap, tTru_ap, eAnd_ap, eOr_ap, eNot_ap, eIf_ap, aNil_ap, aCons_ap, eTup_ap, eLst_ap, oNone_ap, oSome_ap, eSl_ap, eCall_ap, iLst_ap, iTpl_ap, iRan2_apN, eOf_ap, oLst_ap, oCat_ap, oRep_ap, oSl_ap, oList_ap, oComp_ap, tYesF_ap, sNil_ap, sSeq_th, sBrk_ap, sCnt_ap, sExpr_ap, sRet_ap, sRetN_ap, sIf_ap, sSet_ap, sSetO_ap, sAsg_ap, sPar_ap, sPar3_ap, sAug_ap, sApp_ap, sExt_ap, sSetIx_ap, sFrz_ap, eIxO_ap, eLenO_ap, eIxA_ap, eLenA_ap, vOf_ap, vCons_ap, vOwn_ap, sTup_ap, iSeq_ap, sRaise_ap, sTry_ap, eExF_ap, tIfF_ap, eRev_ap, eRevF_ap, th_nx, th_rt, th_bk, th_ct, th_exc, bind_ok, bind_exc, go_ok, go_exc, opAdd_int, opSub_int, opMul_a, opMul_b, opDiv_pos, opDiv_wide, opMod_pos, opI_int, opEq_int, opNe_int, opEq_bool, opNe_bool, atI_0, atI_1, atI_2, atI_3, opIx_list, opIx_tuple, iRan1_ap, bLen_list, bLen_tuple, bInt_int, bAbs_int, bName, bNil, bCons, bTup, List.getElem?_cons_zero, List.getElem?_cons_succ, List.set_cons_zero, List.set_cons_succ, List.length_cons, List.length_nil, noTok, if_true, if_false, decide_true, decide_false, Bool.not_true, Bool.not_false, setAll, List.map_cons, List.map_nil, truD, Bool.true_eq_false, Bool.false_eq_true, Option.bind_some, true_and, and_true, List.replicate, startR, List.cons_append, List.nil_append, Nat.sub_self, reduceIte, ↓reduceIte, isNon, LIM_eq, and_self, List.map_append, List.length_map, Int.toNat_natCast, Nat.zero_le, Nat.reduceLeDiff, Int.reduceNeg, Int.reduceLE, Int.reduceLT, Int.zero_add, ran1_int, ran2_int, noEx, eq_self, dI, dP, dPs]
  have s2 : S__law_words_2 [.d (.int n), .own [], .un, .un] g = .nx [.d (.int n), .own [.str "square", .str "square", .str "square", .str "square"], .d (.int 3), .un] g := by
    have e : iRan1 (aCons (eC (.int 4)) aNil) [.d (.int n), .own [], .un, .un] g = .ok [.int 0, .int 1, .int 2, .int 3] g := by
      simp (disch := omega) only [eV_ap, eC_ap, eBin_ap, eNeg_ap, tVal_ap, eIsN_ap, eNotN_ap, eChain_ap, tAndF_ap, tOrF_ap, tNotF_ap, tTru_ap, eAnd_ap, eOr_ap, eNot_ap, eIf_ap, aNil_ap, aCons_ap, eTup_ap, eLst_ap, oNone_ap, oSome_ap, eSl_ap, eCall_ap, iLst_ap, iTpl_ap, iRan2_apN, eOf_ap, oLst_ap, oCat_ap, oRep_ap, oSl_ap, oList_ap, oComp_ap, tYesF_ap, sNil_ap, sSeq_th, sBrk_ap, sCnt_ap, sExpr_ap, sRet_ap, sRetN_ap, sIf_ap, sSet_ap, sSetO_ap, sAsg_ap, sPar_ap, sPar3_ap, sAug_ap, sApp_ap, sExt_ap, sSetIx_ap, sFrz_ap, eIxO_ap, eLenO_ap, eIxA_ap, eLenA_ap, vOf_ap, vCons_ap, vOwn_ap, sTup_ap, iSeq_ap, sRaise_ap, sTry_ap, eExF_ap, tIfF_ap, eRev_ap, eRevF_ap, th_nx, th_rt, th_bk, th_ct, th_exc, bind_ok, bind_exc, go_ok, go_exc, opAdd_int, opSub_int, opMul_a, opMul_b, opDiv_pos, opDiv_wide, opMod_pos, opI_int, opEq_int, opNe_int, opEq_bool, opNe_bool, atI_0, atI_1, atI_2, atI_3, opIx_list, opIx_tuple, iRan1_ap, bLen_list, bLen_tuple, bInt_int, bAbs_int, bName, bNil, bCons, bTup, List.getElem?_cons_zero, List.getElem?_cons_succ, List.set_cons_zero, List.set_cons_succ, List.length_cons, List.length_nil, noTok, if_true, if_false, decide_true, decide_false, Bool.not_true, Bool.not_false, setAll, List.map_cons, List.map_nil, truD, Bool.true_eq_false, Bool.false_eq_true, Option.bind_some, true_and, and_true, List.replicate, startR, List.cons_append, List.nil_append, Nat.sub_self, reduceIte, ↓reduceIte, isNon, LIM_eq, and_self, List.map_append, List.length_map, Int.toNat_natCast, Nat.zero_le, Nat.reduceLeDiff, Int.reduceNeg, Int.reduceLE, Int.reduceLT, Int.zero_add, ran1_int, ran2_int, noEx, eq_self, dI, dP, dPs]
      rfl
    unfold S__law_words_2 sFor
    rw [e]
    simp only [go_ok, forL, bName, List.set_cons_zero, List.set_cons_succ, hb 0 [] .un (.inl rfl) rfl (by decide), hb 1 [.str "square"] .un (.inr (.inl rfl)) rfl (by decide), hb 2 [.str "square", .str "square"] .un (.inr (.inr (.inl rfl))) rfl (by decide), hb 3 [.str "square", .str "square", .str "square"] .un (.inr (.inr (.inr rfl))) rfl (by decide), List.nil_append, List.cons_append]
  refine seq_nx s1 (seq_nx s2 ?_)
  simp (disch := omega) only [S__law_words_12, eV_ap, eC_ap, eBin_ap, eNeg_ap, tVal_ap, eIsN_ap, eNotN_ap, eChain_ap, tAndF_ap, tOrF_ap, tNotF_ap, tTru_ap, eAnd_ap, eOr_ap, eNot_ap, eIf_ap, aNil_ap, aCons_ap, eTup_ap, eLst_ap, oNone_ap, oSome_ap, eSl_ap, eCall_ap, iLst_ap, iTpl_ap, iRan2_apN, eOf_ap, oLst_ap, oCat_ap, oRep_ap, oSl_ap, oList_ap, oComp_ap, tYesF_ap, sNil_ap, sSeq_th, sBrk_ap, sCnt_ap, sExpr_ap, sRet_ap, sRetN_ap, sIf_ap, sSet_ap, sSetO_ap, sAsg_ap, sPar_ap, sPar3_ap, sAug_ap, sApp_ap, sExt_ap, sSetIx_ap, sFrz_ap, eIxO_ap, eLenO_ap, eIxA_ap, eLenA_ap, vOf_ap, vCons_ap, vOwn_ap, sTup_ap, iSeq_ap, sRaise_ap, sTry_ap, eExF_ap, tIfF_ap, eRev_ap, eRevF_ap, th_nx, th_rt, th_bk, th_ct, th_exc, bind_ok, bind_exc, go_ok, go_exc, opAdd_int, opSub_int, opMul_a, opMul_b, opDiv_pos, opDiv_wide, opMod_pos, opI_int, opEq_int, opNe_int, opEq_bool, opNe_bool, atI_0, atI_1, atI_2, atI_3, opIx_list, opIx_tuple, iRan1_ap, bLen_list, bLen_tuple, bInt_int, bAbs_int, bName, bNil, bCons, bTup, List.getElem?_cons_zero, List.getElem?_cons_succ, List.set_cons_zero, List.set_cons_succ, List.length_cons, List.length_nil, noTok, if_true, if_false, decide_true, decide_false, Bool.not_true, Bool.not_false, setAll, List.map_cons, List.map_nil, truD, Bool.true_eq_false, Bool.false_eq_true, Option.bind_some, true_and, and_true, List.replicate, startR, List.cons_append, List.nil_append, Nat.sub_self, reduceIte, ↓reduceIte, isNon, LIM_eq, and_self, List.map_append, List.length_map, Int.toNat_natCast, Nat.zero_le, Nat.reduceLeDiff, Int.reduceNeg, Int.reduceLE, Int.reduceLT, Int.zero_add, ran1_int, ran2_int, noEx, eq_self, dI, dP, dPs]
end K45
namespace K45
open PySem
open PySem.Spec
open PyProof.Rows
open L2
open DL
def wN (n : Nat) : Nat := ((List.range 22).find? fun w => Nat.blt n ((w + 1) * (w + 1))).getD 0
def okRow (N w : Int) (k : Nat) (p : Int × Int) : Bool :=
  decide (DL.MulOk p.1 p.1) && decide (DL.MulOk (N * p.2) p.2) && decide (p.1 * p.1 - N * p.2 * p.2 < 0 ↔ k % 2 = 0) && decide ((if p.1 * p.1 - N * p.2 * p.2 < 0 then -(p.1 * p.1 - N * p.2 * p.2) else p.1 * p.1 - N * p.2 * p.2) ≤ 2 * w)
def rowsOk (N w : Int) : Nat → List (Int × Int) → Bool
  | _, [] => true
  | k, p :: r => okRow N w k p && rowsOk N w (k + 1) r
theorem rowsOk_get {N w : Int} : ∀ {l : List (Int × Int)} {k i : Nat} {p : Int × Int}, rowsOk N w k l = true → l[i]? = some p → okRow N w (k + i) p = true
  | [], _, _, _, _, h => by simp at h
  | q :: r, k, 0, p, h, e => by
    cases e
    exact (Bool.and_eq_true_iff.mp h).1
  | q :: r, k, i + 1, p, h, e => by
    have := rowsOk_get (i := i) (Bool.and_eq_true_iff.mp h).2 e
    rw [show k + (i + 1) = k + 1 + i by omega]
    exact this
def pellOk (n w : Nat) (N : Int) (p : Int × Int) : Bool :=
  decide (DL.MulOk p.1 p.1) && decide (DL.MulOk (N * p.2) p.2) && decide (p.1 * p.1 - N * p.2 * p.2 = 1) && decide (1 ≤ p.2) && decide (0 ≤ p.1) &&
    (if p.2 < 400 then decide (scan n 2 w 400 1 0 = some (some (p.1.toNat, p.2.toNat))) else decide (scan n 2 w 399 1 0 = some none))
def minusOk (n w : Nat) (N : Int) (l : List Int) (q p : Int × Int) : Bool :=
  if l.length % 2 = 1 then
    decide (DL.MulOk q.1 q.1) && decide (DL.MulOk (N * q.2) q.2) && decide (DL.MulOk ((2 : Int) * q.1) q.2) && decide (q.1 * q.1 - N * q.2 * q.2 = -1) && decide (0 ≤ q.1) && decide (0 ≤ q.2) && decide ((q.1 * q.1 + N * q.2 * q.2, (2 : Int) * q.1 * q.2) = p) &&
      (match scan n 0 w 300 1 0 with
        | none => false
        | some r => if q.2 < 300 then decide (r = some (q.1.toNat, q.2.toNat)) else true)
  else decide (scan n 0 w 300 1 0 = some none)
def chkL (n w : Nat) (l : List Int) : Bool :=
  decide (l ≠ []) && decide (l.length ≤ 100) && decide (l.getLast? = some (2 * (w : Int))) && decide (l.dropLast = l.dropLast.reverse) && l.all (fun x => decide (1 ≤ x ∧ x ≤ 2 * (w : Int))) && l.dropLast.all (fun x => decide (x ≠ 2 * (w : Int))) &&
  decide ((List.replicate 40 l).flatten.take (2 * l.length + 2) = cyc l (2 * l.length + 2)) && rowsOk n w 0 (along (0, 1) (1, 0) ((w : Int) :: cyc l (2 * l.length + 2))) &&
  pellOk n w n (partOf ((w : Int) :: cyc l (manyOf l - 1))) && minusOk n w n l (partOf ((w : Int) :: cyc l (l.length - 1))) (partOf ((w : Int) :: cyc l (manyOf l - 1)))
def chk (n : Nat) : Bool :=
  Nat.ble (wN n * wN n) n && (Nat.blt n ((wN n + 1) * (wN n + 1)) && (Nat.blt (wN n) 1000 && (Nat.beq (wN n * wN n) n || (match rcl 900 n (wN n) (wN n) ((n : Int) - (wN n : Int) * (wN n : Int)) with
    | none => false
    | some l => chkL n (wN n) l))))
theorem chk_p0 : (List.range 10).all (fun i => chk (i + 2)) = true := by decide +kernel
theorem chk_p1 : (List.range 10).all (fun i => chk (i + 12)) = true := by decide +kernel
theorem chk_p2 : (List.range 10).all (fun i => chk (i + 22)) = true := by decide +kernel
theorem chk_p3 : (List.range 10).all (fun i => chk (i + 32)) = true := by decide +kernel
theorem chk_p4 : (List.range 10).all (fun i => chk (i + 42)) = true := by decide +kernel
theorem chk_p5 : (List.range 10).all (fun i => chk (i + 52)) = true := by decide +kernel
theorem chk_p6 : (List.range 10).all (fun i => chk (i + 62)) = true := by decide +kernel
theorem chk_p7 : (List.range 10).all (fun i => chk (i + 72)) = true := by decide +kernel
theorem chk_p8 : (List.range 10).all (fun i => chk (i + 82)) = true := by decide +kernel
theorem chk_p9 : (List.range 10).all (fun i => chk (i + 92)) = true := by decide +kernel
theorem chk_p10 : (List.range 10).all (fun i => chk (i + 102)) = true := by decide +kernel
theorem chk_p11 : (List.range 10).all (fun i => chk (i + 112)) = true := by decide +kernel
theorem chk_p12 : (List.range 10).all (fun i => chk (i + 122)) = true := by decide +kernel
theorem chk_p13 : (List.range 10).all (fun i => chk (i + 132)) = true := by decide +kernel
theorem chk_p14 : (List.range 10).all (fun i => chk (i + 142)) = true := by decide +kernel
theorem chk_p15 : (List.range 10).all (fun i => chk (i + 152)) = true := by decide +kernel
theorem chk_p16 : (List.range 10).all (fun i => chk (i + 162)) = true := by decide +kernel
theorem chk_p17 : (List.range 10).all (fun i => chk (i + 172)) = true := by decide +kernel
theorem chk_p18 : (List.range 10).all (fun i => chk (i + 182)) = true := by decide +kernel
theorem chk_p19 : (List.range 10).all (fun i => chk (i + 192)) = true := by decide +kernel
theorem chk_p20 : (List.range 10).all (fun i => chk (i + 202)) = true := by decide +kernel
theorem chk_p21 : (List.range 10).all (fun i => chk (i + 212)) = true := by decide +kernel
theorem chk_p22 : (List.range 10).all (fun i => chk (i + 222)) = true := by decide +kernel
theorem chk_p23 : (List.range 10).all (fun i => chk (i + 232)) = true := by decide +kernel
theorem chk_p24 : (List.range 10).all (fun i => chk (i + 242)) = true := by decide +kernel
theorem chk_p25 : (List.range 10).all (fun i => chk (i + 252)) = true := by decide +kernel
theorem chk_p26 : (List.range 10).all (fun i => chk (i + 262)) = true := by decide +kernel
theorem chk_p27 : (List.range 10).all (fun i => chk (i + 272)) = true := by decide +kernel
theorem chk_p28 : (List.range 10).all (fun i => chk (i + 282)) = true := by decide +kernel
theorem chk_p29 : (List.range 10).all (fun i => chk (i + 292)) = true := by decide +kernel
theorem chk_p30 : (List.range 10).all (fun i => chk (i + 302)) = true := by decide +kernel
theorem chk_p31 : (List.range 10).all (fun i => chk (i + 312)) = true := by decide +kernel
theorem chk_p32 : (List.range 10).all (fun i => chk (i + 322)) = true := by decide +kernel
theorem chk_p33 : (List.range 10).all (fun i => chk (i + 332)) = true := by decide +kernel
theorem chk_p34 : (List.range 10).all (fun i => chk (i + 342)) = true := by decide +kernel
theorem chk_p35 : (List.range 10).all (fun i => chk (i + 352)) = true := by decide +kernel
theorem chk_p36 : (List.range 10).all (fun i => chk (i + 362)) = true := by decide +kernel
theorem chk_p37 : (List.range 10).all (fun i => chk (i + 372)) = true := by decide +kernel
theorem chk_p38 : (List.range 10).all (fun i => chk (i + 382)) = true := by decide +kernel
theorem chk_p39 : (List.range 10).all (fun i => chk (i + 392)) = true := by decide +kernel
theorem chk_of {a n : Nat} (h : (List.range 10).all (fun i => chk (i + a)) = true) (h1 : a ≤ n) (h2 : n < a + 10) : chk n = true := by
  have := List.all_eq_true.mp h (n - a) (List.mem_range.mpr (by omega))
  rw [show n - a + a = n by omega] at this
  exact this
theorem chk_get {n : Nat} (h2 : 2 ≤ n) (h : n ≤ 401) : chk n = true := by
  by_cases h3 : n < 12
  · exact chk_of chk_p0 (by omega) (by omega)
  by_cases h4 : n < 22
  · exact chk_of chk_p1 (by omega) (by omega)
  by_cases h5 : n < 32
  · exact chk_of chk_p2 (by omega) (by omega)
  by_cases h6 : n < 42
  · exact chk_of chk_p3 (by omega) (by omega)
  by_cases h7 : n < 52
  · exact chk_of chk_p4 (by omega) (by omega)
  by_cases h8 : n < 62
  · exact chk_of chk_p5 (by omega) (by omega)
  by_cases h9 : n < 72
  · exact chk_of chk_p6 (by omega) (by omega)
  by_cases h10 : n < 82
  · exact chk_of chk_p7 (by omega) (by omega)
  by_cases h11 : n < 92
  · exact chk_of chk_p8 (by omega) (by omega)
  by_cases h12 : n < 102
  · exact chk_of chk_p9 (by omega) (by omega)
  by_cases h13 : n < 112
  · exact chk_of chk_p10 (by omega) (by omega)
  by_cases h14 : n < 122
  · exact chk_of chk_p11 (by omega) (by omega)
  by_cases h15 : n < 132
  · exact chk_of chk_p12 (by omega) (by omega)
  by_cases h16 : n < 142
  · exact chk_of chk_p13 (by omega) (by omega)
  by_cases h17 : n < 152
  · exact chk_of chk_p14 (by omega) (by omega)
  by_cases h18 : n < 162
  · exact chk_of chk_p15 (by omega) (by omega)
  by_cases h19 : n < 172
  · exact chk_of chk_p16 (by omega) (by omega)
  by_cases h20 : n < 182
  · exact chk_of chk_p17 (by omega) (by omega)
  by_cases h21 : n < 192
  · exact chk_of chk_p18 (by omega) (by omega)
  by_cases h22 : n < 202
  · exact chk_of chk_p19 (by omega) (by omega)
  by_cases h23 : n < 212
  · exact chk_of chk_p20 (by omega) (by omega)
  by_cases h24 : n < 222
  · exact chk_of chk_p21 (by omega) (by omega)
  by_cases h25 : n < 232
  · exact chk_of chk_p22 (by omega) (by omega)
  by_cases h26 : n < 242
  · exact chk_of chk_p23 (by omega) (by omega)
  by_cases h27 : n < 252
  · exact chk_of chk_p24 (by omega) (by omega)
  by_cases h28 : n < 262
  · exact chk_of chk_p25 (by omega) (by omega)
  by_cases h29 : n < 272
  · exact chk_of chk_p26 (by omega) (by omega)
  by_cases h30 : n < 282
  · exact chk_of chk_p27 (by omega) (by omega)
  by_cases h31 : n < 292
  · exact chk_of chk_p28 (by omega) (by omega)
  by_cases h32 : n < 302
  · exact chk_of chk_p29 (by omega) (by omega)
  by_cases h33 : n < 312
  · exact chk_of chk_p30 (by omega) (by omega)
  by_cases h34 : n < 322
  · exact chk_of chk_p31 (by omega) (by omega)
  by_cases h35 : n < 332
  · exact chk_of chk_p32 (by omega) (by omega)
  by_cases h36 : n < 342
  · exact chk_of chk_p33 (by omega) (by omega)
  by_cases h37 : n < 352
  · exact chk_of chk_p34 (by omega) (by omega)
  by_cases h38 : n < 362
  · exact chk_of chk_p35 (by omega) (by omega)
  by_cases h39 : n < 372
  · exact chk_of chk_p36 (by omega) (by omega)
  by_cases h40 : n < 382
  · exact chk_of chk_p37 (by omega) (by omega)
  by_cases h41 : n < 392
  · exact chk_of chk_p38 (by omega) (by omega)
  exact chk_of chk_p39 (by omega) (by omega)
end K45
namespace K45
open PySem
open PySem.Spec
open PyProof.Rows
open L2
open DL
theorem ediv_abs {a b B : Int} (hb : 0 < b) (h1 : -B ≤ a) (h2 : a ≤ B) : -B ≤ a / b ∧ a / b ≤ B := by
  have hB : 0 ≤ B := by omega
  constructor
  · refine (Int.le_ediv_iff_mul_le hb).mpr ?_
    have : B * 1 ≤ B * b := Int.mul_le_mul_of_nonneg_left (by omega) hB
    have e : -B * b = -(B * b) := Int.neg_mul B b
    omega
  · refine Int.ediv_le_of_le_mul hb ?_
    have : B * 1 ≤ B * b := Int.mul_le_mul_of_nonneg_left (by omega) hB
    omega
theorem chn_abs (a b B : Int) (hb : 0 ≤ b) (h1 : -B ≤ a) (h2 : a ≤ B) (h3 : b ≤ B) : ∀ x ∈ chn a b, -B ≤ x ∧ x ≤ B := by
  by_cases h0 : 0 < b
  · obtain ⟨r0, r1, r2⟩ := rem_nn (a := a) h0
    intro x hx
    rw [chn_pos h0] at hx
    rcases List.mem_cons.mp hx with rfl | hx
    · exact ediv_abs h0 h1 h2
    · exact chn_abs b (a % b) B r0 (by omega) h3 (by omega) x hx
  · have : b = 0 := by omega
    subst this
    rw [chn_zero]
    intro x hx
    cases hx
termination_by b.toNat
decreasing_by omega
theorem atI_len {w : List Int} (h : w ≠ []) : atI (w.map PyData.int) (-1) = some (.int (w.getLast h)) := by
  have hl : 0 < w.length := List.length_pos_iff.mpr h
  rw [atI_neg (by omega) (by rw [List.length_map]; omega), List.length_map, List.getElem?_map, show (-1 + (w.length : Int)).toNat = w.length - 1 by omega, List.getElem?_eq_getElem (by omega), List.getLast_eq_getElem]
  rfl
theorem half {a b : Int} {W : List Int} {sh : Int} {rows : List (Int × Int)} (hb : 0 < b) (hb2 : b ≤ 2000000000) (ha : -2000000000 ≤ a) (ha2 : a ≤ 2000000000) (hW : W = chn a b) (hs : sh = dvs a b) (hr : rows = along (0, 1) (1, 0) W) (g : G) :
    (∃ ws, W = a / b :: ws ∧ ∀ x ∈ ws, 1 ≤ x) ∧ (∀ h : W ≠ [], 1 < W.length → 2 ≤ W.getLast h) ∧ W.length ≤ 124 ∧ (0 < sh ∧ sh ≤ b) ∧ a / sh = (partOf W).1 ∧ b / sh = (partOf W).2 ∧ (∀ x ∈ W, x.natAbs < 2 ^ 62) ∧ m__law_sides [.int a, .int b, dPs rows] g = .ok (.bool true) g := by
  obtain ⟨i1, i2⟩ := chn_ge a b hb
  obtain ⟨p1, p2⟩ := chn_part a b (by omega) (.inl hb)
  have sp := dvs_gt a b (by omega) (.inl hb)
  rw [← hW, ← hs] at p1 p2
  rw [← hs] at sp
  have hWc := chn_pos (a := a) hb
  rw [← hW] at hWc
  have ab : ∀ x ∈ W, x.natAbs < 2 ^ 62 := fun x hx => by
    rw [hW] at hx
    have := chn_abs a b 2000000000 (by omega) ha ha2 hb2 x hx
    have e : (2 : Nat) ^ 62 = 4611686018427387904 := by decide
    rw [e]
    omega
  have e62 : (2 : Int) ^ 62 = 4611686018427387904 := by decide
  have hl : W.length ≤ 124 := by
    rw [hW]
    refine chn_len 62 a b (by omega) ?_
    rw [e62]
    omega
  have hq : 0 < (partOf W).2 := by
    by_cases h0 : (partOf W).2 ≤ 0
    · have : (partOf W).2 * sh ≤ 0 * sh := Int.mul_le_mul_of_nonneg_right h0 (by omega)
      omega
    · omega
  have sle : sh ≤ b := by
    have : 1 * sh ≤ (partOf W).2 * sh := Int.mul_le_mul_of_nonneg_right (by omega) (by omega)
    omega
  refine ⟨⟨_, hWc, i1⟩, fun h h1 => ?_, hl, ⟨sp, sle⟩, ?_, ?_, ab, ?_⟩
  · have hne : chn b (a % b) ≠ [] := fun e => by
      rw [hWc, e] at h1
      simp at h1
    refine i2 _ ?_
    have e3 : W.getLast h = (chn b (a % b)).getLast hne := by
      simp only [hWc]
      exact List.getLast_cons hne
    rw [e3]
    exact List.getLast?_eq_some_getLast hne
  · rw [← p1]; exact Int.mul_ediv_cancel _ (by omega)
  · rw [← p2]; exact Int.mul_ediv_cancel _ (by omega)
  · refine m_sides_eq (k := 63 * 124 + 1) (by decide) ⟨by omega, by omega⟩ ⟨by omega, by omega⟩ (by rw [hr, along_len]; omega) (fun p hp => ?_) (fun i q hq => ?_) (fun i p q h1 h2 => ?_)
    · rw [hr] at hp
      obtain ⟨i, hi, e⟩ := List.mem_iff_getElem.mp hp
      have hi2 : i < W.length := by rw [along_len] at hi; exact hi
      have := along_part W i hi2
      rw [List.getElem?_eq_getElem hi, e] at this
      cases this
      obtain ⟨b1, b2⟩ := part_abs (W.take (i + 1)) fun x hx => ab x (List.mem_of_mem_take hx)
      have hle : 63 * (W.take (i + 1)).length + 1 ≤ 63 * 124 + 1 := by rw [List.length_take]; omega
      exact ⟨Nat.lt_of_lt_of_le b1 (Nat.pow_le_pow_right (by decide) hle), Nat.lt_of_lt_of_le b2 (Nat.pow_le_pow_right (by decide) hle)⟩
    · rw [hr, hW] at hq
      have := along_side a b a b (by omega) (0, 1) (1, 0) 1 (.inl rfl) (by simp) (by simp) i q hq
      rw [hr, along_len, hW]
      refine ⟨this.1, fun h => ?_⟩
      have := this.2 h
      split
      · rename_i h2
        rw [if_pos h2, Int.one_mul] at this
        exact this
      · rename_i h2
        rw [if_neg h2, Int.one_mul] at this
        exact this
    · rw [hr] at h1 h2
      have := along_det W (0, 1) (1, 0) 1 (by decide) (i + 1) p q (by simpa using h1) h2
      exact this
end K45
namespace K45
open PySem
open PySem.Spec
open PyProof.Rows
open L2
open DL
theorem turn_a (g : G) (x2 x3 x4 x5 x6 x7 x8 x9 x10 x11 x12 x13 x14 x15 x16 x17 x18 x19 x20 x21 x22 : SV) : ∃ (most a b : Int) (W : List Int) (sh : Int) (rows : List (Int × Int)) (g' : G), 0 < b ∧ b ≤ 2000000000 ∧ -2000000000 ≤ a ∧ a ≤ 2000000000 ∧ W = chn a b ∧ sh = dvs a b ∧ rows = along (0, 1) (1, 0) W ∧
    ∀ k o, k [.un, .d tokD, x2, .d (.int most), .d (.int a), .d (.int b), .d (dI W), .d (.int sh), .d (dPs rows), x9, x10, x11, x12, x13, x14, x15, x16, x17, x18, x19, x20, x21, x22] g' = o → sSeq S_law_2 (sSeq S_law_3 (sSeq S_law_4 (sSeq S_law_5 (sSeq S_law_6 k)))) [.un, .d tokD, x2, x3, x4, x5, x6, x7, x8, x9, x10, x11, x12, x13, x14, x15, x16, x17, x18, x19, x20, x21, x22] g = o := by
  obtain ⟨most, g1, hm, e1⟩ := m_pick_eq (row := [20, 1000, 1000000007]) (g := g) (by decide) (by decide)
  have hmb : 20 ≤ most ∧ most ≤ 1000000007 := by
    simp only [List.mem_cons, List.not_mem_nil, or_false] at hm
    omega
  have e1 : m__law_pick [tokD, .list [.int 20, .int 1000, .int 1000000007]] g = .ok (.int most) g1 := e1
  obtain ⟨r1, g2, e2, r10, r11⟩ := take_ok (2 * most) g1 (by omega)
  obtain ⟨r2, g3, e3, r20, r21⟩ := take_ok most g2 (by omega)
  obtain ⟨a, ha⟩ : ∃ a, a = r1 - most := ⟨_, rfl⟩
  obtain ⟨b, hb⟩ : ∃ b, b = 1 + r2 := ⟨_, rfl⟩
  have ab : 0 < b ∧ b ≤ 2000000000 ∧ -2000000000 ≤ a ∧ a ≤ 2000000000 := by omega
  obtain ⟨W, hW⟩ : ∃ W, W = chn a b := ⟨_, rfl⟩
  obtain ⟨sh, hs⟩ : ∃ sh, sh = dvs a b := ⟨_, rfl⟩
  obtain ⟨rows, hr⟩ : ∃ rows, rows = along (0, 1) (1, 0) W := ⟨_, rfl⟩
  refine ⟨most, a, b, W, sh, rows, g3, ab.1, ab.2.1, ab.2.2.1, ab.2.2.2, hW, hs, hr, fun k o hk => ?_⟩
  have hh := half ab.1 ab.2.1 ab.2.2.1 ab.2.2.2 hW hs hr g3
  obtain ⟨_, _, hlen, _, _, _, hbd, _⟩ := hh
  have q4 : m_chain [.int a, .int b] g3 = .ok (dI W) g3 := by rw [hW]; exact m_chain_eq (by omega) (by omega)
  have q5 : m__law_divisor [.int a, .int b] g3 = .ok (.int sh) g3 := by rw [hs]; exact m_divisor_eq (by omega) (by omega)
  have q6 : m_parts_along [dI W] g3 = .ok (dPs rows) g3 := by rw [hr]; exact m_parts_along_eq (by omega) hbd
  clear hbd hW hs hr
  have s2 : S_law_2 [.un, .d tokD, x2, x3, x4, x5, x6, x7, x8, x9, x10, x11, x12, x13, x14, x15, x16, x17, x18, x19, x20, x21, x22] g = .nx [.un, .d tokD, x2, .d (.int most), x4, x5, x6, x7, x8, x9, x10, x11, x12, x13, x14, x15, x16, x17, x18, x19, x20, x21, x22] g1 := by
    simp (disch := omega) only [S_law_2, e1, eV_ap, eC_ap, eBin_ap, eNeg_ap, tVal_ap, eIsN_ap, eNotN_ap, eChain_ap, tAndF_ap, tOrF_ap, tNotF_ap, tTru_ap, eAnd_ap, eOr_ap, eNot_ap, eIf_ap, aNil_ap, aCons_ap, eTup_ap, eLst_ap, oNone_ap, oSome_ap, eSl_ap, eCall_ap, iLst_ap, iTpl_ap, iRan2_apN, eOf_ap, oLst_ap, oCat_ap, oRep_ap, oSl_ap, oList_ap, oComp_ap, tYesF_ap, sNil_ap, sSeq_th, sBrk_ap, sCnt_ap, sExpr_ap, sRet_ap, sRetN_ap, sIf_ap, sSet_ap, sSetO_ap, sAsg_ap, sPar_ap, sPar3_ap, sAug_ap, sApp_ap, sExt_ap, sSetIx_ap, sFrz_ap, eIxO_ap, eLenO_ap, eIxA_ap, eLenA_ap, vOf_ap, vCons_ap, vOwn_ap, sTup_ap, iSeq_ap, sRaise_ap, sTry_ap, eExF_ap, tIfF_ap, eRev_ap, eRevF_ap, th_nx, th_rt, th_bk, th_ct, th_exc, bind_ok, bind_exc, go_ok, go_exc, opAdd_int, opSub_int, opMul_a, opMul_b, opDiv_pos, opDiv_wide, opMod_pos, opI_int, opEq_int, opNe_int, opEq_bool, opNe_bool, atI_0, atI_1, atI_2, atI_3, opIx_list, opIx_tuple, iRan1_ap, bLen_list, bLen_tuple, bInt_int, bAbs_int, bName, bNil, bCons, bTup, List.getElem?_cons_zero, List.getElem?_cons_succ, List.set_cons_zero, List.set_cons_succ, List.length_cons, List.length_nil, noTok, if_true, if_false, decide_true, decide_false, Bool.not_true, Bool.not_false, setAll, List.map_cons, List.map_nil, truD, Bool.true_eq_false, Bool.false_eq_true, Option.bind_some, true_and, and_true, List.replicate, startR, List.cons_append, List.nil_append, Nat.sub_self, reduceIte, ↓reduceIte, isNon, LIM_eq, and_self, List.map_append, List.length_map, Int.toNat_natCast, Nat.zero_le, Nat.reduceLeDiff, Int.reduceNeg, Int.reduceLE, Int.reduceLT, Int.zero_add, ran1_int, ran2_int, noEx, eq_self, dI, dP, dPs]
  have s3 : S_law_3 [.un, .d tokD, x2, .d (.int most), x4, x5, x6, x7, x8, x9, x10, x11, x12, x13, x14, x15, x16, x17, x18, x19, x20, x21, x22] g1 = .nx [.un, .d tokD, x2, .d (.int most), .d (.int a), .d (.int b), x6, x7, x8, x9, x10, x11, x12, x13, x14, x15, x16, x17, x18, x19, x20, x21, x22] g3 := by
    simp (disch := omega) only [S_law_3, e2, e3, ha, hb, eV_ap, eC_ap, eBin_ap, eNeg_ap, tVal_ap, eIsN_ap, eNotN_ap, eChain_ap, tAndF_ap, tOrF_ap, tNotF_ap, tTru_ap, eAnd_ap, eOr_ap, eNot_ap, eIf_ap, aNil_ap, aCons_ap, eTup_ap, eLst_ap, oNone_ap, oSome_ap, eSl_ap, eCall_ap, iLst_ap, iTpl_ap, iRan2_apN, eOf_ap, oLst_ap, oCat_ap, oRep_ap, oSl_ap, oList_ap, oComp_ap, tYesF_ap, sNil_ap, sSeq_th, sBrk_ap, sCnt_ap, sExpr_ap, sRet_ap, sRetN_ap, sIf_ap, sSet_ap, sSetO_ap, sAsg_ap, sPar_ap, sPar3_ap, sAug_ap, sApp_ap, sExt_ap, sSetIx_ap, sFrz_ap, eIxO_ap, eLenO_ap, eIxA_ap, eLenA_ap, vOf_ap, vCons_ap, vOwn_ap, sTup_ap, iSeq_ap, sRaise_ap, sTry_ap, eExF_ap, tIfF_ap, eRev_ap, eRevF_ap, th_nx, th_rt, th_bk, th_ct, th_exc, bind_ok, bind_exc, go_ok, go_exc, opAdd_int, opSub_int, opMul_a, opMul_b, opDiv_pos, opDiv_wide, opMod_pos, opI_int, opEq_int, opNe_int, opEq_bool, opNe_bool, atI_0, atI_1, atI_2, atI_3, opIx_list, opIx_tuple, iRan1_ap, bLen_list, bLen_tuple, bInt_int, bAbs_int, bName, bNil, bCons, bTup, List.getElem?_cons_zero, List.getElem?_cons_succ, List.set_cons_zero, List.set_cons_succ, List.length_cons, List.length_nil, noTok, if_true, if_false, decide_true, decide_false, Bool.not_true, Bool.not_false, setAll, List.map_cons, List.map_nil, truD, Bool.true_eq_false, Bool.false_eq_true, Option.bind_some, true_and, and_true, List.replicate, startR, List.cons_append, List.nil_append, Nat.sub_self, reduceIte, ↓reduceIte, isNon, LIM_eq, and_self, List.map_append, List.length_map, Int.toNat_natCast, Nat.zero_le, Nat.reduceLeDiff, Int.reduceNeg, Int.reduceLE, Int.reduceLT, Int.zero_add, ran1_int, ran2_int, noEx, eq_self, dI, dP, dPs]
  have s4 : S_law_4 [.un, .d tokD, x2, .d (.int most), .d (.int a), .d (.int b), x6, x7, x8, x9, x10, x11, x12, x13, x14, x15, x16, x17, x18, x19, x20, x21, x22] g3 = .nx [.un, .d tokD, x2, .d (.int most), .d (.int a), .d (.int b), .d (dI W), x7, x8, x9, x10, x11, x12, x13, x14, x15, x16, x17, x18, x19, x20, x21, x22] g3 := by
    simp (disch := omega) only [S_law_4, q4, eV_ap, eC_ap, eBin_ap, eNeg_ap, tVal_ap, eIsN_ap, eNotN_ap, eChain_ap, tAndF_ap, tOrF_ap, tNotF_ap, tTru_ap, eAnd_ap, eOr_ap, eNot_ap, eIf_ap, aNil_ap, aCons_ap, eTup_ap, eLst_ap, oNone_ap, oSome_ap, eSl_ap, eCall_ap, iLst_ap, iTpl_ap, iRan2_apN, eOf_ap, oLst_ap, oCat_ap, oRep_ap, oSl_ap, oList_ap, oComp_ap, tYesF_ap, sNil_ap, sSeq_th, sBrk_ap, sCnt_ap, sExpr_ap, sRet_ap, sRetN_ap, sIf_ap, sSet_ap, sSetO_ap, sAsg_ap, sPar_ap, sPar3_ap, sAug_ap, sApp_ap, sExt_ap, sSetIx_ap, sFrz_ap, eIxO_ap, eLenO_ap, eIxA_ap, eLenA_ap, vOf_ap, vCons_ap, vOwn_ap, sTup_ap, iSeq_ap, sRaise_ap, sTry_ap, eExF_ap, tIfF_ap, eRev_ap, eRevF_ap, th_nx, th_rt, th_bk, th_ct, th_exc, bind_ok, bind_exc, go_ok, go_exc, opAdd_int, opSub_int, opMul_a, opMul_b, opDiv_pos, opDiv_wide, opMod_pos, opI_int, opEq_int, opNe_int, opEq_bool, opNe_bool, atI_0, atI_1, atI_2, atI_3, opIx_list, opIx_tuple, iRan1_ap, bLen_list, bLen_tuple, bInt_int, bAbs_int, bName, bNil, bCons, bTup, List.getElem?_cons_zero, List.getElem?_cons_succ, List.set_cons_zero, List.set_cons_succ, List.length_cons, List.length_nil, noTok, if_true, if_false, decide_true, decide_false, Bool.not_true, Bool.not_false, setAll, List.map_cons, List.map_nil, truD, Bool.true_eq_false, Bool.false_eq_true, Option.bind_some, true_and, and_true, List.replicate, startR, List.cons_append, List.nil_append, Nat.sub_self, reduceIte, ↓reduceIte, isNon, LIM_eq, and_self, List.map_append, List.length_map, Int.toNat_natCast, Nat.zero_le, Nat.reduceLeDiff, Int.reduceNeg, Int.reduceLE, Int.reduceLT, Int.zero_add, ran1_int, ran2_int, noEx, eq_self, dP, dPs]
  have s5 : S_law_5 [.un, .d tokD, x2, .d (.int most), .d (.int a), .d (.int b), .d (dI W), x7, x8, x9, x10, x11, x12, x13, x14, x15, x16, x17, x18, x19, x20, x21, x22] g3 = .nx [.un, .d tokD, x2, .d (.int most), .d (.int a), .d (.int b), .d (dI W), .d (.int sh), x8, x9, x10, x11, x12, x13, x14, x15, x16, x17, x18, x19, x20, x21, x22] g3 := by
    simp (disch := omega) only [S_law_5, q5, eV_ap, eC_ap, eBin_ap, eNeg_ap, tVal_ap, eIsN_ap, eNotN_ap, eChain_ap, tAndF_ap, tOrF_ap, tNotF_ap, tTru_ap, eAnd_ap, eOr_ap, eNot_ap, eIf_ap, aNil_ap, aCons_ap, eTup_ap, eLst_ap, oNone_ap, oSome_ap, eSl_ap, eCall_ap, iLst_ap, iTpl_ap, iRan2_apN, eOf_ap, oLst_ap, oCat_ap, oRep_ap, oSl_ap, oList_ap, oComp_ap, tYesF_ap, sNil_ap, sSeq_th, sBrk_ap, sCnt_ap, sExpr_ap, sRet_ap, sRetN_ap, sIf_ap, sSet_ap, sSetO_ap, sAsg_ap, sPar_ap, sPar3_ap, sAug_ap, sApp_ap, sExt_ap, sSetIx_ap, sFrz_ap, eIxO_ap, eLenO_ap, eIxA_ap, eLenA_ap, vOf_ap, vCons_ap, vOwn_ap, sTup_ap, iSeq_ap, sRaise_ap, sTry_ap, eExF_ap, tIfF_ap, eRev_ap, eRevF_ap, th_nx, th_rt, th_bk, th_ct, th_exc, bind_ok, bind_exc, go_ok, go_exc, opAdd_int, opSub_int, opMul_a, opMul_b, opDiv_pos, opDiv_wide, opMod_pos, opI_int, opEq_int, opNe_int, opEq_bool, opNe_bool, atI_0, atI_1, atI_2, atI_3, opIx_list, opIx_tuple, iRan1_ap, bLen_list, bLen_tuple, bInt_int, bAbs_int, bName, bNil, bCons, bTup, List.getElem?_cons_zero, List.getElem?_cons_succ, List.set_cons_zero, List.set_cons_succ, List.length_cons, List.length_nil, noTok, if_true, if_false, decide_true, decide_false, Bool.not_true, Bool.not_false, setAll, List.map_cons, List.map_nil, truD, Bool.true_eq_false, Bool.false_eq_true, Option.bind_some, true_and, and_true, List.replicate, startR, List.cons_append, List.nil_append, Nat.sub_self, reduceIte, ↓reduceIte, isNon, LIM_eq, and_self, List.map_append, List.length_map, Int.toNat_natCast, Nat.zero_le, Nat.reduceLeDiff, Int.reduceNeg, Int.reduceLE, Int.reduceLT, Int.zero_add, ran1_int, ran2_int, noEx, eq_self, dP, dPs]
  have s6 : S_law_6 [.un, .d tokD, x2, .d (.int most), .d (.int a), .d (.int b), .d (dI W), .d (.int sh), x8, x9, x10, x11, x12, x13, x14, x15, x16, x17, x18, x19, x20, x21, x22] g3 = .nx [.un, .d tokD, x2, .d (.int most), .d (.int a), .d (.int b), .d (dI W), .d (.int sh), .d (dPs rows), x9, x10, x11, x12, x13, x14, x15, x16, x17, x18, x19, x20, x21, x22] g3 := by
    simp (disch := omega) only [S_law_6, q6, eV_ap, eC_ap, eBin_ap, eNeg_ap, tVal_ap, eIsN_ap, eNotN_ap, eChain_ap, tAndF_ap, tOrF_ap, tNotF_ap, tTru_ap, eAnd_ap, eOr_ap, eNot_ap, eIf_ap, aNil_ap, aCons_ap, eTup_ap, eLst_ap, oNone_ap, oSome_ap, eSl_ap, eCall_ap, iLst_ap, iTpl_ap, iRan2_apN, eOf_ap, oLst_ap, oCat_ap, oRep_ap, oSl_ap, oList_ap, oComp_ap, tYesF_ap, sNil_ap, sSeq_th, sBrk_ap, sCnt_ap, sExpr_ap, sRet_ap, sRetN_ap, sIf_ap, sSet_ap, sSetO_ap, sAsg_ap, sPar_ap, sPar3_ap, sAug_ap, sApp_ap, sExt_ap, sSetIx_ap, sFrz_ap, eIxO_ap, eLenO_ap, eIxA_ap, eLenA_ap, vOf_ap, vCons_ap, vOwn_ap, sTup_ap, iSeq_ap, sRaise_ap, sTry_ap, eExF_ap, tIfF_ap, eRev_ap, eRevF_ap, th_nx, th_rt, th_bk, th_ct, th_exc, bind_ok, bind_exc, go_ok, go_exc, opAdd_int, opSub_int, opMul_a, opMul_b, opDiv_pos, opDiv_wide, opMod_pos, opI_int, opEq_int, opNe_int, opEq_bool, opNe_bool, atI_0, atI_1, atI_2, atI_3, opIx_list, opIx_tuple, iRan1_ap, bLen_list, bLen_tuple, bInt_int, bAbs_int, bName, bNil, bCons, bTup, List.getElem?_cons_zero, List.getElem?_cons_succ, List.set_cons_zero, List.set_cons_succ, List.length_cons, List.length_nil, noTok, if_true, if_false, decide_true, decide_false, Bool.not_true, Bool.not_false, setAll, List.map_cons, List.map_nil, truD, Bool.true_eq_false, Bool.false_eq_true, Option.bind_some, true_and, and_true, List.replicate, startR, List.cons_append, List.nil_append, Nat.sub_self, reduceIte, ↓reduceIte, isNon, LIM_eq, and_self, List.map_append, List.length_map, Int.toNat_natCast, Nat.zero_le, Nat.reduceLeDiff, Int.reduceNeg, Int.reduceLE, Int.reduceLT, Int.zero_add, ran1_int, ran2_int, noEx, eq_self, dP]
  exact seq_nx s2 (seq_nx s3 (seq_nx s4 (seq_nx s5 (seq_nx s6 hk))))
theorem turn_b (g : G) (x2 x3 x4 x5 x6 x7 x8 x9 x10 x11 x12 x13 x14 x15 x16 x17 x18 x19 x20 x21 x22 : SV) {most a b : Int} {W : List Int} {sh : Int} {rows : List (Int × Int)} (h1 : 0 < b) (h2 : b ≤ 2000000000) (h3 : -2000000000 ≤ a) (h4 : a ≤ 2000000000) (hW : W = chn a b) (hs : sh = dvs a b) (hr : rows = along (0, 1) (1, 0) W) :
    ∀ k o, k [.un, .d tokD, x2, .d (.int most), .d (.int a), .d (.int b), .d (dI W), .d (.int sh), .d (dPs rows), x9, x10, x11, x12, x13, x14, x15, x16, x17, x18, x19, x20, x21, x22] g = o → sSeq S_law_7 (sSeq S_law_9 (sSeq S_law_11 k)) [.un, .d tokD, x2, .d (.int most), .d (.int a), .d (.int b), .d (dI W), .d (.int sh), .d (dPs rows), x9, x10, x11, x12, x13, x14, x15, x16, x17, x18, x19, x20, x21, x22] g = o := by
  intro k o hk
  obtain ⟨⟨ws, eW, hws⟩, hla, hlen, hsh, hd1, hd2, hbd, hsides⟩ := half h1 h2 h3 h4 hW hs hr g
  have hne : W ≠ [] := by rw [eW]; simp
  have hl0 : 0 < W.length := List.length_pos_iff.mpr hne
  have q9 : m_part_of [dI W] g = .ok (dP (partOf W)) g := m_part_of_eq hne hbd
  have ql : atI (rows.map dP) (-1) = some (dP (partOf W)) := by rw [hr]; exact along_last hne
  have qla : atI (W.map PyData.int) (-1) = some (.int (W.getLast hne)) := atI_len hne
  have q0 : atI (W.map PyData.int) 0 = some (.int (a / b)) := by rw [eW]; exact atI_0
  have hc1 : C_law_1 [.un, .d tokD, x2, .d (.int most), .d (.int a), .d (.int b), .d (dI W), .d (.int sh), .d (dPs rows), x9, x10, x11, x12, x13, x14, x15, x16, x17, x18, x19, x20, x21, x22] g = .ok [] g := by
    refine oComp_none (items := ws.map .int) ?_ ?_ ?_
    · simp (disch := omega) only [cutD_from, eV_ap, eC_ap, eBin_ap, eNeg_ap, tVal_ap, eIsN_ap, eNotN_ap, eChain_ap, tAndF_ap, tOrF_ap, tNotF_ap, tTru_ap, eAnd_ap, eOr_ap, eNot_ap, eIf_ap, aNil_ap, aCons_ap, eTup_ap, eLst_ap, oNone_ap, oSome_ap, eSl_ap, eCall_ap, iLst_ap, iTpl_ap, iRan2_apN, eOf_ap, oLst_ap, oCat_ap, oRep_ap, oSl_ap, oList_ap, oComp_ap, tYesF_ap, sNil_ap, sSeq_th, sBrk_ap, sCnt_ap, sExpr_ap, sRet_ap, sRetN_ap, sIf_ap, sSet_ap, sSetO_ap, sAsg_ap, sPar_ap, sPar3_ap, sAug_ap, sApp_ap, sExt_ap, sSetIx_ap, sFrz_ap, eIxO_ap, eLenO_ap, eIxA_ap, eLenA_ap, vOf_ap, vCons_ap, vOwn_ap, sTup_ap, iSeq_ap, sRaise_ap, sTry_ap, eExF_ap, tIfF_ap, eRev_ap, eRevF_ap, th_nx, th_rt, th_bk, th_ct, th_exc, bind_ok, bind_exc, go_ok, go_exc, opAdd_int, opSub_int, opMul_a, opMul_b, opDiv_pos, opDiv_wide, opMod_pos, opI_int, opEq_int, opNe_int, opEq_bool, opNe_bool, atI_0, atI_1, atI_2, atI_3, opIx_list, opIx_tuple, iRan1_ap, bLen_list, bLen_tuple, bInt_int, bAbs_int, bName, bNil, bCons, bTup, List.getElem?_cons_zero, List.getElem?_cons_succ, List.set_cons_zero, List.set_cons_succ, List.length_cons, List.length_nil, noTok, if_true, if_false, decide_true, decide_false, Bool.not_true, Bool.not_false, setAll, List.map_cons, List.map_nil, truD, Bool.true_eq_false, Bool.false_eq_true, Option.bind_some, true_and, and_true, List.replicate, startR, List.cons_append, List.nil_append, Nat.sub_self, reduceIte, ↓reduceIte, isNon, LIM_eq, and_self, List.map_append, List.length_map, Int.toNat_natCast, Nat.zero_le, Nat.reduceLeDiff, Int.reduceNeg, Int.reduceLE, Int.reduceLT, Int.zero_add, ran1_int, ran2_int, noEx, eq_self, dI, dP, dPs]
      rw [eW]
      rfl
    · rw [List.length_map, LIM_eq]
      have := congrArg List.length eW
      rw [List.length_cons] at this
      omega
    · intro i hi
      rw [List.length_map] at hi
      have := hws _ (List.getElem_mem hi)
      refine ⟨_, rfl, ?_⟩
      rw [get_map (by rw [List.length_map]; exact hi)]
      generalize ws[i] = y at *
      simp (disch := omega) only [wipeR, show ¬ y < 1 by omega, eV_ap, eC_ap, eBin_ap, eNeg_ap, tVal_ap, eIsN_ap, eNotN_ap, eChain_ap, tAndF_ap, tOrF_ap, tNotF_ap, tTru_ap, eAnd_ap, eOr_ap, eNot_ap, eIf_ap, aNil_ap, aCons_ap, eTup_ap, eLst_ap, oNone_ap, oSome_ap, eSl_ap, eCall_ap, iLst_ap, iTpl_ap, iRan2_apN, eOf_ap, oLst_ap, oCat_ap, oRep_ap, oSl_ap, oList_ap, oComp_ap, tYesF_ap, sNil_ap, sSeq_th, sBrk_ap, sCnt_ap, sExpr_ap, sRet_ap, sRetN_ap, sIf_ap, sSet_ap, sSetO_ap, sAsg_ap, sPar_ap, sPar3_ap, sAug_ap, sApp_ap, sExt_ap, sSetIx_ap, sFrz_ap, eIxO_ap, eLenO_ap, eIxA_ap, eLenA_ap, vOf_ap, vCons_ap, vOwn_ap, sTup_ap, iSeq_ap, sRaise_ap, sTry_ap, eExF_ap, tIfF_ap, eRev_ap, eRevF_ap, th_nx, th_rt, th_bk, th_ct, th_exc, bind_ok, bind_exc, go_ok, go_exc, opAdd_int, opSub_int, opMul_a, opMul_b, opDiv_pos, opDiv_wide, opMod_pos, opI_int, opEq_int, opNe_int, opEq_bool, opNe_bool, atI_0, atI_1, atI_2, atI_3, opIx_list, opIx_tuple, iRan1_ap, bLen_list, bLen_tuple, bInt_int, bAbs_int, bName, bNil, bCons, bTup, List.getElem?_cons_zero, List.getElem?_cons_succ, List.set_cons_zero, List.set_cons_succ, List.length_cons, List.length_nil, noTok, if_true, if_false, decide_true, decide_false, Bool.not_true, Bool.not_false, setAll, List.map_cons, List.map_nil, truD, Bool.true_eq_false, Bool.false_eq_true, Option.bind_some, true_and, and_true, List.replicate, startR, List.cons_append, List.nil_append, Nat.sub_self, reduceIte, ↓reduceIte, isNon, LIM_eq, and_self, List.map_append, List.length_map, Int.toNat_natCast, Nat.zero_le, Nat.reduceLeDiff, Int.reduceNeg, Int.reduceLE, Int.reduceLT, Int.zero_add, ran1_int, ran2_int, noEx, eq_self, dI, dP, dPs]
  have hc3 : C_law_2 [.un, .d tokD, x2, .d (.int most), .d (.int a), .d (.int b), .d (dI W), .d (.int sh), .d (dPs rows), x9, x10, x11, x12, x13, x14, x15, x16, x17, x18, x19, x20, x21, x22] g = .ok (rows.map dP) g := by
    refine oComp_map (items := upTo 0 W.length) _ ?_ ?_ ?_ ?_
    · simp (disch := omega) only [eV_ap, eC_ap, eBin_ap, eNeg_ap, tVal_ap, eIsN_ap, eNotN_ap, eChain_ap, tAndF_ap, tOrF_ap, tNotF_ap, tTru_ap, eAnd_ap, eOr_ap, eNot_ap, eIf_ap, aNil_ap, aCons_ap, eTup_ap, eLst_ap, oNone_ap, oSome_ap, eSl_ap, eCall_ap, iLst_ap, iTpl_ap, iRan2_apN, eOf_ap, oLst_ap, oCat_ap, oRep_ap, oSl_ap, oList_ap, oComp_ap, tYesF_ap, sNil_ap, sSeq_th, sBrk_ap, sCnt_ap, sExpr_ap, sRet_ap, sRetN_ap, sIf_ap, sSet_ap, sSetO_ap, sAsg_ap, sPar_ap, sPar3_ap, sAug_ap, sApp_ap, sExt_ap, sSetIx_ap, sFrz_ap, eIxO_ap, eLenO_ap, eIxA_ap, eLenA_ap, vOf_ap, vCons_ap, vOwn_ap, sTup_ap, iSeq_ap, sRaise_ap, sTry_ap, eExF_ap, tIfF_ap, eRev_ap, eRevF_ap, th_nx, th_rt, th_bk, th_ct, th_exc, bind_ok, bind_exc, go_ok, go_exc, opAdd_int, opSub_int, opMul_a, opMul_b, opDiv_pos, opDiv_wide, opMod_pos, opI_int, opEq_int, opNe_int, opEq_bool, opNe_bool, atI_0, atI_1, atI_2, atI_3, opIx_list, opIx_tuple, iRan1_ap, bLen_list, bLen_tuple, bInt_int, bAbs_int, bName, bNil, bCons, bTup, List.getElem?_cons_zero, List.getElem?_cons_succ, List.set_cons_zero, List.set_cons_succ, List.length_cons, List.length_nil, noTok, if_true, if_false, decide_true, decide_false, Bool.not_true, Bool.not_false, setAll, List.map_cons, List.map_nil, truD, Bool.true_eq_false, Bool.false_eq_true, Option.bind_some, true_and, and_true, List.replicate, startR, List.cons_append, List.nil_append, Nat.sub_self, reduceIte, ↓reduceIte, isNon, LIM_eq, and_self, List.map_append, List.length_map, Int.toNat_natCast, Nat.zero_le, Nat.reduceLeDiff, Int.reduceNeg, Int.reduceLE, Int.reduceLT, Int.zero_add, ran1_int, ran2_int, noEx, eq_self, dI, dP, dPs]
    · rw [upTo_len, LIM_eq]
      omega
    · rw [upTo_len, List.length_map, hr, along_len]
    · intro i hi
      rw [upTo_len] at hi
      have ei : (upTo 0 W.length)[i]'(by rw [upTo_len]; exact hi) = .int (i : Int) := by
        have := (upTo_get (lo := 0) (n := W.length) (i := i) (d := _) (List.getElem?_eq_getElem (by rw [upTo_len]; exact hi))).2
        rw [this, Int.zero_add]
      rw [ei]
      have hrow : rows[i]? = some (partOf (W.take (i + 1))) := by rw [hr]; exact along_part W i hi
      have hcut : cutD (W.map PyData.int) none (some ((i : Int) + 1)) = (W.take (i + 1)).map .int := by
        rw [cutD_to (by omega), List.map_take]
        congr 1
      have hp : m_part_of [.list ((W.take (i + 1)).map .int)] g = .ok (dP (partOf (W.take (i + 1)))) g := m_part_of_eq (fun e => by
        have := congrArg List.length e
        rw [List.length_take, List.length_nil] at this
        omega) fun x hx => hbd x (List.mem_of_mem_take hx)
      refine ⟨_, dP (partOf (W.take (i + 1))), ?_, rfl, rfl, ?_, rfl⟩
      · rw [List.getElem?_map, hrow]
        rfl
      · simp (disch := omega) only [wipeR, hcut, hp, eV_ap, eC_ap, eBin_ap, eNeg_ap, tVal_ap, eIsN_ap, eNotN_ap, eChain_ap, tAndF_ap, tOrF_ap, tNotF_ap, tTru_ap, eAnd_ap, eOr_ap, eNot_ap, eIf_ap, aNil_ap, aCons_ap, eTup_ap, eLst_ap, oNone_ap, oSome_ap, eSl_ap, eCall_ap, iLst_ap, iTpl_ap, iRan2_apN, eOf_ap, oLst_ap, oCat_ap, oRep_ap, oSl_ap, oList_ap, oComp_ap, tYesF_ap, sNil_ap, sSeq_th, sBrk_ap, sCnt_ap, sExpr_ap, sRet_ap, sRetN_ap, sIf_ap, sSet_ap, sSetO_ap, sAsg_ap, sPar_ap, sPar3_ap, sAug_ap, sApp_ap, sExt_ap, sSetIx_ap, sFrz_ap, eIxO_ap, eLenO_ap, eIxA_ap, eLenA_ap, vOf_ap, vCons_ap, vOwn_ap, sTup_ap, iSeq_ap, sRaise_ap, sTry_ap, eExF_ap, tIfF_ap, eRev_ap, eRevF_ap, th_nx, th_rt, th_bk, th_ct, th_exc, bind_ok, bind_exc, go_ok, go_exc, opAdd_int, opSub_int, opMul_a, opMul_b, opDiv_pos, opDiv_wide, opMod_pos, opI_int, opEq_int, opNe_int, opEq_bool, opNe_bool, atI_0, atI_1, atI_2, atI_3, opIx_list, opIx_tuple, iRan1_ap, bLen_list, bLen_tuple, bInt_int, bAbs_int, bName, bNil, bCons, bTup, List.getElem?_cons_zero, List.getElem?_cons_succ, List.set_cons_zero, List.set_cons_succ, List.length_cons, List.length_nil, noTok, if_true, if_false, decide_true, decide_false, Bool.not_true, Bool.not_false, setAll, List.map_cons, List.map_nil, truD, Bool.true_eq_false, Bool.false_eq_true, Option.bind_some, true_and, and_true, List.replicate, startR, List.cons_append, List.nil_append, Nat.sub_self, reduceIte, ↓reduceIte, isNon, LIM_eq, and_self, List.map_append, List.length_map, Int.toNat_natCast, Nat.zero_le, Nat.reduceLeDiff, Int.reduceNeg, Int.reduceLE, Int.reduceLT, Int.zero_add, ran1_int, ran2_int, noEx, eq_self, dI, dPs]
  clear hbd hws hW hs hr eW
  have s7 : S_law_7 [.un, .d tokD, x2, .d (.int most), .d (.int a), .d (.int b), .d (dI W), .d (.int sh), .d (dPs rows), x9, x10, x11, x12, x13, x14, x15, x16, x17, x18, x19, x20, x21, x22] g = .nx [.un, .d tokD, x2, .d (.int most), .d (.int a), .d (.int b), .d (dI W), .d (.int sh), .d (dPs rows), x9, x10, x11, x12, x13, x14, x15, x16, x17, x18, x19, x20, x21, x22] g := by
    by_cases h5 : 1 < W.length
    · have h6 := hla hne h5
      simp (disch := omega) only [S_law_7, q0, hc1, qla, show (1 : Int) < (W.length : Int) by omega, show ¬ W.getLast hne < 2 by omega, show ¬ (0 : Int) < ((0 : Nat) : Int) by omega, eV_ap, eC_ap, eBin_ap, eNeg_ap, tVal_ap, eIsN_ap, eNotN_ap, eChain_ap, tAndF_ap, tOrF_ap, tNotF_ap, tTru_ap, eAnd_ap, eOr_ap, eNot_ap, eIf_ap, aNil_ap, aCons_ap, eTup_ap, eLst_ap, oNone_ap, oSome_ap, eSl_ap, eCall_ap, iLst_ap, iTpl_ap, iRan2_apN, eOf_ap, oLst_ap, oCat_ap, oRep_ap, oSl_ap, oList_ap, oComp_ap, tYesF_ap, sNil_ap, sSeq_th, sBrk_ap, sCnt_ap, sExpr_ap, sRet_ap, sRetN_ap, sIf_ap, sSet_ap, sSetO_ap, sAsg_ap, sPar_ap, sPar3_ap, sAug_ap, sApp_ap, sExt_ap, sSetIx_ap, sFrz_ap, eIxO_ap, eLenO_ap, eIxA_ap, eLenA_ap, vOf_ap, vCons_ap, vOwn_ap, sTup_ap, iSeq_ap, sRaise_ap, sTry_ap, eExF_ap, tIfF_ap, eRev_ap, eRevF_ap, th_nx, th_rt, th_bk, th_ct, th_exc, bind_ok, bind_exc, go_ok, go_exc, opAdd_int, opSub_int, opMul_a, opMul_b, opDiv_pos, opDiv_wide, opMod_pos, opI_int, opEq_int, opNe_int, opEq_bool, opNe_bool, atI_0, atI_1, atI_2, atI_3, opIx_list, opIx_tuple, iRan1_ap, bLen_list, bLen_tuple, bInt_int, bAbs_int, bName, bNil, bCons, bTup, List.getElem?_cons_zero, List.getElem?_cons_succ, List.set_cons_zero, List.set_cons_succ, List.length_cons, List.length_nil, noTok, if_true, if_false, decide_true, decide_false, Bool.not_true, Bool.not_false, setAll, List.map_cons, List.map_nil, truD, Bool.true_eq_false, Bool.false_eq_true, Option.bind_some, true_and, and_true, List.replicate, startR, List.cons_append, List.nil_append, Nat.sub_self, reduceIte, ↓reduceIte, isNon, LIM_eq, and_self, List.map_append, List.length_map, Int.toNat_natCast, Nat.zero_le, Nat.reduceLeDiff, Int.reduceNeg, Int.reduceLE, Int.reduceLT, Int.zero_add, ran1_int, ran2_int, noEx, eq_self, dI, dP, dPs]
    · simp (disch := omega) only [S_law_7, q0, hc1, show ¬ (1 : Int) < (W.length : Int) by omega, show ¬ (0 : Int) < ((0 : Nat) : Int) by omega, eV_ap, eC_ap, eBin_ap, eNeg_ap, tVal_ap, eIsN_ap, eNotN_ap, eChain_ap, tAndF_ap, tOrF_ap, tNotF_ap, tTru_ap, eAnd_ap, eOr_ap, eNot_ap, eIf_ap, aNil_ap, aCons_ap, eTup_ap, eLst_ap, oNone_ap, oSome_ap, eSl_ap, eCall_ap, iLst_ap, iTpl_ap, iRan2_apN, eOf_ap, oLst_ap, oCat_ap, oRep_ap, oSl_ap, oList_ap, oComp_ap, tYesF_ap, sNil_ap, sSeq_th, sBrk_ap, sCnt_ap, sExpr_ap, sRet_ap, sRetN_ap, sIf_ap, sSet_ap, sSetO_ap, sAsg_ap, sPar_ap, sPar3_ap, sAug_ap, sApp_ap, sExt_ap, sSetIx_ap, sFrz_ap, eIxO_ap, eLenO_ap, eIxA_ap, eLenA_ap, vOf_ap, vCons_ap, vOwn_ap, sTup_ap, iSeq_ap, sRaise_ap, sTry_ap, eExF_ap, tIfF_ap, eRev_ap, eRevF_ap, th_nx, th_rt, th_bk, th_ct, th_exc, bind_ok, bind_exc, go_ok, go_exc, opAdd_int, opSub_int, opMul_a, opMul_b, opDiv_pos, opDiv_wide, opMod_pos, opI_int, opEq_int, opNe_int, opEq_bool, opNe_bool, atI_0, atI_1, atI_2, atI_3, opIx_list, opIx_tuple, iRan1_ap, bLen_list, bLen_tuple, bInt_int, bAbs_int, bName, bNil, bCons, bTup, List.getElem?_cons_zero, List.getElem?_cons_succ, List.set_cons_zero, List.set_cons_succ, List.length_cons, List.length_nil, noTok, if_true, if_false, decide_true, decide_false, Bool.not_true, Bool.not_false, setAll, List.map_cons, List.map_nil, truD, Bool.true_eq_false, Bool.false_eq_true, Option.bind_some, true_and, and_true, List.replicate, startR, List.cons_append, List.nil_append, Nat.sub_self, reduceIte, ↓reduceIte, isNon, LIM_eq, and_self, List.map_append, List.length_map, Int.toNat_natCast, Nat.zero_le, Nat.reduceLeDiff, Int.reduceNeg, Int.reduceLE, Int.reduceLT, Int.zero_add, ran1_int, ran2_int, noEx, eq_self, dI, dP, dPs]
  have s9 : S_law_9 [.un, .d tokD, x2, .d (.int most), .d (.int a), .d (.int b), .d (dI W), .d (.int sh), .d (dPs rows), x9, x10, x11, x12, x13, x14, x15, x16, x17, x18, x19, x20, x21, x22] g = .nx [.un, .d tokD, x2, .d (.int most), .d (.int a), .d (.int b), .d (dI W), .d (.int sh), .d (dPs rows), x9, x10, x11, x12, x13, x14, x15, x16, x17, x18, x19, x20, x21, x22] g := by
    have hsh2 : sh ≤ 2000000000 := by omega
    simp (disch := omega) only [S_law_9, q9, ql, hsides, hd1, hd2, hsh.1, opNe_dP, eV_ap, eC_ap, eBin_ap, eNeg_ap, tVal_ap, eIsN_ap, eNotN_ap, eChain_ap, tAndF_ap, tOrF_ap, tNotF_ap, tTru_ap, eAnd_ap, eOr_ap, eNot_ap, eIf_ap, aNil_ap, aCons_ap, eTup_ap, eLst_ap, oNone_ap, oSome_ap, eSl_ap, eCall_ap, iLst_ap, iTpl_ap, iRan2_apN, eOf_ap, oLst_ap, oCat_ap, oRep_ap, oSl_ap, oList_ap, oComp_ap, tYesF_ap, sNil_ap, sSeq_th, sBrk_ap, sCnt_ap, sExpr_ap, sRet_ap, sRetN_ap, sIf_ap, sSet_ap, sSetO_ap, sAsg_ap, sPar_ap, sPar3_ap, sAug_ap, sApp_ap, sExt_ap, sSetIx_ap, sFrz_ap, eIxO_ap, eLenO_ap, eIxA_ap, eLenA_ap, vOf_ap, vCons_ap, vOwn_ap, sTup_ap, iSeq_ap, sRaise_ap, sTry_ap, eExF_ap, tIfF_ap, eRev_ap, eRevF_ap, th_nx, th_rt, th_bk, th_ct, th_exc, bind_ok, bind_exc, go_ok, go_exc, opAdd_int, opSub_int, opMul_a, opMul_b, opDiv_pos, opDiv_wide, opMod_pos, opI_int, opEq_int, opNe_int, opEq_bool, opNe_bool, atI_0, atI_1, atI_2, atI_3, opIx_list, opIx_tuple, iRan1_ap, bLen_list, bLen_tuple, bInt_int, bAbs_int, bName, bNil, bCons, bTup, List.getElem?_cons_zero, List.getElem?_cons_succ, List.set_cons_zero, List.set_cons_succ, List.length_cons, List.length_nil, noTok, if_true, if_false, decide_true, decide_false, Bool.not_true, Bool.not_false, setAll, List.map_cons, List.map_nil, truD, Bool.true_eq_false, Bool.false_eq_true, Option.bind_some, true_and, and_true, List.replicate, startR, List.cons_append, List.nil_append, Nat.sub_self, reduceIte, ↓reduceIte, isNon, LIM_eq, and_self, List.map_append, List.length_map, Int.toNat_natCast, Nat.zero_le, Nat.reduceLeDiff, Int.reduceNeg, Int.reduceLE, Int.reduceLT, Int.zero_add, ran1_int, ran2_int, noEx, eq_self, dI]
  have s11 : S_law_11 [.un, .d tokD, x2, .d (.int most), .d (.int a), .d (.int b), .d (dI W), .d (.int sh), .d (dPs rows), x9, x10, x11, x12, x13, x14, x15, x16, x17, x18, x19, x20, x21, x22] g = .nx [.un, .d tokD, x2, .d (.int most), .d (.int a), .d (.int b), .d (dI W), .d (.int sh), .d (dPs rows), x9, x10, x11, x12, x13, x14, x15, x16, x17, x18, x19, x20, x21, x22] g := by
    simp (disch := omega) only [S_law_11, hc3, opNe_dPs, eV_ap, eC_ap, eBin_ap, eNeg_ap, tVal_ap, eIsN_ap, eNotN_ap, eChain_ap, tAndF_ap, tOrF_ap, tNotF_ap, tTru_ap, eAnd_ap, eOr_ap, eNot_ap, eIf_ap, aNil_ap, aCons_ap, eTup_ap, eLst_ap, oNone_ap, oSome_ap, eSl_ap, eCall_ap, iLst_ap, iTpl_ap, iRan2_apN, eOf_ap, oLst_ap, oCat_ap, oRep_ap, oSl_ap, oList_ap, oComp_ap, tYesF_ap, sNil_ap, sSeq_th, sBrk_ap, sCnt_ap, sExpr_ap, sRet_ap, sRetN_ap, sIf_ap, sSet_ap, sSetO_ap, sAsg_ap, sPar_ap, sPar3_ap, sAug_ap, sApp_ap, sExt_ap, sSetIx_ap, sFrz_ap, eIxO_ap, eLenO_ap, eIxA_ap, eLenA_ap, vOf_ap, vCons_ap, vOwn_ap, sTup_ap, iSeq_ap, sRaise_ap, sTry_ap, eExF_ap, tIfF_ap, eRev_ap, eRevF_ap, th_nx, th_rt, th_bk, th_ct, th_exc, bind_ok, bind_exc, go_ok, go_exc, opAdd_int, opSub_int, opMul_a, opMul_b, opDiv_pos, opDiv_wide, opMod_pos, opI_int, opEq_int, opNe_int, opEq_bool, opNe_bool, atI_0, atI_1, atI_2, atI_3, opIx_list, opIx_tuple, iRan1_ap, bLen_list, bLen_tuple, bInt_int, bAbs_int, bName, bNil, bCons, bTup, List.getElem?_cons_zero, List.getElem?_cons_succ, List.set_cons_zero, List.set_cons_succ, List.length_cons, List.length_nil, noTok, if_true, if_false, decide_true, decide_false, Bool.not_true, Bool.not_false, setAll, List.map_cons, List.map_nil, truD, Bool.true_eq_false, Bool.false_eq_true, Option.bind_some, true_and, and_true, List.replicate, startR, List.cons_append, List.nil_append, Nat.sub_self, reduceIte, ↓reduceIte, isNon, LIM_eq, and_self, List.map_append, List.length_map, Int.toNat_natCast, Nat.zero_le, Nat.reduceLeDiff, Int.reduceNeg, Int.reduceLE, Int.reduceLT, Int.zero_add, ran1_int, ran2_int, noEx, eq_self, dI, dPs]
  exact seq_nx s7 (seq_nx s9 (seq_nx s11 hk))
end K45
namespace K45
open PySem
open PySem.Spec
open PyProof.Rows
open L2
open DL
theorem free_back (f0 : Int) (fs : List Int) (h : ∀ x ∈ fs, 1 ≤ x) : ((fs = [] ∨ ∃ hn : fs ≠ [], 1 < fs.getLast hn) ∧ chn (partOf (f0 :: fs)).1 (partOf (f0 :: fs)).2 = f0 :: fs) ∨
    ∃ (pre : List Int) (y : Int), f0 :: fs = pre ++ [y, 1] ∧ chn (partOf (f0 :: fs)).1 (partOf (f0 :: fs)).2 = pre ++ [y + 1] := by
  by_cases hn : fs = []
  · subst hn
    exact .inl ⟨.inl rfl, chn_back [] f0 (fun y hy => (by cases hy)) (fun y hy => (by cases hy))⟩
  · by_cases h1 : 1 < fs.getLast hn
    · refine .inl ⟨.inr ⟨hn, h1⟩, chn_back fs f0 h fun y hy => ?_⟩
      rw [List.getLast?_eq_some_getLast hn] at hy
      cases hy
      omega
    · right
      have hl : fs.getLast hn = 1 := by
        have := h _ (List.getLast_mem hn)
        omega
      have e1 : fs = fs.dropLast ++ [1] := by rw [← hl]; exact (List.dropLast_concat_getLast hn).symm
      cases hd : fs.dropLast with
      | nil =>
        rw [hd] at e1
        rw [e1]
        refine ⟨[], f0, rfl, ?_⟩
        rw [show (f0 :: ([] ++ [1]) : List Int) = [] ++ [f0, 1] from rfl, part_one]
        exact chn_back [] (f0 + 1) (fun y hy => (by cases hy)) (fun y hy => (by cases hy))
      | cons u v =>
        have hne : u :: v ≠ [] := by simp
        have e2 : u :: v = (u :: v).dropLast ++ [(u :: v).getLast hne] := (List.dropLast_concat_getLast hne).symm
        generalize (u :: v).dropLast = q at e2
        generalize (u :: v).getLast hne = y at e2
        have e3 : f0 :: fs = (f0 :: q) ++ [y, 1] := by
          rw [e1, hd, e2]
          simp
        refine ⟨f0 :: q, y, e3, ?_⟩
        have hm : ∀ x ∈ q ++ [y], 1 ≤ x := fun x hx => h x (by
          rw [e1, hd, e2]
          exact List.mem_append_left _ hx)
        rw [e3, part_one]
        refine chn_back (q ++ [y + 1]) f0 (fun x hx => ?_) (fun x hx => ?_)
        · rcases List.mem_append.mp hx with hx | hx
          · exact hm x (List.mem_append_left _ hx)
          · have := hm y (List.mem_append_right _ List.mem_cons_self)
            rw [List.mem_singleton.mp hx]
            omega
        · rw [List.getLast?_append] at hx
          simp at hx
          have := hm y (List.mem_append_right _ List.mem_cons_self)
          omega
theorem turn_c (g : G) (x2 x3 x4 x5 x6 x7 x8 x9 x10 x11 x12 x13 x14 x15 x16 x17 x18 x19 x20 x21 x22 : SV) : ∃ (f0 : Int) (fs : List Int) (g' : G), ∀ k o, k [.un, .d tokD, x2, x3, x4, x5, x6, x7, x8, x9, .d (dI (f0 :: fs)), .d (dP (partOf (f0 :: fs))), x12, x13, x14, x15, x16, x17, x18, x19, x20, x21, x22] g' = o → sSeq S_law_13 (sSeq S_law_14 (sSeq S_law_15 k)) [.un, .d tokD, x2, x3, x4, x5, x6, x7, x8, x9, x10, x11, x12, x13, x14, x15, x16, x17, x18, x19, x20, x21, x22] g = o := by
  obtain ⟨r1, g1, e1, r10, r11⟩ := take_ok 9 g (by decide)
  obtain ⟨r2, g2, e2, r20, r21⟩ := take_ok 5 g1 (by decide)
  obtain ⟨f0, hf0⟩ : ∃ f0, f0 = r1 - 4 := ⟨_, rfl⟩
  have hf0b : -4 ≤ f0 ∧ f0 ≤ 4 := by omega
  obtain ⟨ds, g3, ⟨fs, rfl, hfl, hfs⟩, e3⟩ := oComp_run (vs := [9]) (fi := iRan1 (aCons (eCall m_take (aCons (eV 1) (aCons (eC (.int 5)) aNil))) aNil)) (b := bName 9) (ft := tYesF) (fe := eBin opAdd (eC (.int 1)) (eCall m_take (aCons (eV 1) (aCons (eC (.int 6)) aNil)))) (ρ := [.un, .d tokD, x2, x3, x4, x5, x6, x7, x8, x9, x10, x11, x12, x13, x14, x15, x16, x17, x18, x19, x20, x21, x22]) (items := upTo 0 r2.toNat) (g := g1) (g1 := g2)
    (fun i acc g' => ∃ fs : List Int, acc = fs.map .int ∧ fs.length = i ∧ ∀ x ∈ fs, 1 ≤ x ∧ x ≤ 6) (by simp (disch := omega) only [e2, eV_ap, eC_ap, eBin_ap, eNeg_ap, tVal_ap, eIsN_ap, eNotN_ap, eChain_ap, tAndF_ap, tOrF_ap, tNotF_ap, tTru_ap, eAnd_ap, eOr_ap, eNot_ap, eIf_ap, aNil_ap, aCons_ap, eTup_ap, eLst_ap, oNone_ap, oSome_ap, eSl_ap, eCall_ap, iLst_ap, iTpl_ap, iRan2_apN, eOf_ap, oLst_ap, oCat_ap, oRep_ap, oSl_ap, oList_ap, oComp_ap, tYesF_ap, sNil_ap, sSeq_th, sBrk_ap, sCnt_ap, sExpr_ap, sRet_ap, sRetN_ap, sIf_ap, sSet_ap, sSetO_ap, sAsg_ap, sPar_ap, sPar3_ap, sAug_ap, sApp_ap, sExt_ap, sSetIx_ap, sFrz_ap, eIxO_ap, eLenO_ap, eIxA_ap, eLenA_ap, vOf_ap, vCons_ap, vOwn_ap, sTup_ap, iSeq_ap, sRaise_ap, sTry_ap, eExF_ap, tIfF_ap, eRev_ap, eRevF_ap, th_nx, th_rt, th_bk, th_ct, th_exc, bind_ok, bind_exc, go_ok, go_exc, opAdd_int, opSub_int, opMul_a, opMul_b, opDiv_pos, opDiv_wide, opMod_pos, opI_int, opEq_int, opNe_int, opEq_bool, opNe_bool, atI_0, atI_1, atI_2, atI_3, opIx_list, opIx_tuple, iRan1_ap, bLen_list, bLen_tuple, bInt_int, bAbs_int, bName, bNil, bCons, bTup, List.getElem?_cons_zero, List.getElem?_cons_succ, List.set_cons_zero, List.set_cons_succ, List.length_cons, List.length_nil, noTok, if_true, if_false, decide_true, decide_false, Bool.not_true, Bool.not_false, setAll, List.map_cons, List.map_nil, truD, Bool.true_eq_false, Bool.false_eq_true, Option.bind_some, true_and, and_true, List.replicate, startR, List.cons_append, List.nil_append, Nat.sub_self, reduceIte, ↓reduceIte, isNon, LIM_eq, and_self, List.map_append, List.length_map, Int.toNat_natCast, Nat.zero_le, Nat.reduceLeDiff, Int.reduceNeg, Int.reduceLE, Int.reduceLT, Int.zero_add, ran1_int, ran2_int, noEx, eq_self, dI, dP, dPs]) (by rw [upTo_len, LIM_eq]; omega) ⟨[], rfl, rfl, fun x hx => (by cases hx)⟩ (by
      rintro i hi acc g' ⟨fs, rfl, hl, hx⟩
      obtain ⟨r3, g4, e4, r30, r31⟩ := take_ok 6 g' (by decide)
      refine ⟨_, g', rfl, .inr ⟨rfl, .int (1 + r3), g4, ?_, rfl, fs ++ [1 + r3], ?_, ?_, ?_⟩⟩
      · simp (disch := omega) only [wipeR, e4, eV_ap, eC_ap, eBin_ap, eNeg_ap, tVal_ap, eIsN_ap, eNotN_ap, eChain_ap, tAndF_ap, tOrF_ap, tNotF_ap, tTru_ap, eAnd_ap, eOr_ap, eNot_ap, eIf_ap, aNil_ap, aCons_ap, eTup_ap, eLst_ap, oNone_ap, oSome_ap, eSl_ap, eCall_ap, iLst_ap, iTpl_ap, iRan2_apN, eOf_ap, oLst_ap, oCat_ap, oRep_ap, oSl_ap, oList_ap, oComp_ap, tYesF_ap, sNil_ap, sSeq_th, sBrk_ap, sCnt_ap, sExpr_ap, sRet_ap, sRetN_ap, sIf_ap, sSet_ap, sSetO_ap, sAsg_ap, sPar_ap, sPar3_ap, sAug_ap, sApp_ap, sExt_ap, sSetIx_ap, sFrz_ap, eIxO_ap, eLenO_ap, eIxA_ap, eLenA_ap, vOf_ap, vCons_ap, vOwn_ap, sTup_ap, iSeq_ap, sRaise_ap, sTry_ap, eExF_ap, tIfF_ap, eRev_ap, eRevF_ap, th_nx, th_rt, th_bk, th_ct, th_exc, bind_ok, bind_exc, go_ok, go_exc, opAdd_int, opSub_int, opMul_a, opMul_b, opDiv_pos, opDiv_wide, opMod_pos, opI_int, opEq_int, opNe_int, opEq_bool, opNe_bool, atI_0, atI_1, atI_2, atI_3, opIx_list, opIx_tuple, iRan1_ap, bLen_list, bLen_tuple, bInt_int, bAbs_int, bName, bNil, bCons, bTup, List.getElem?_cons_zero, List.getElem?_cons_succ, List.set_cons_zero, List.set_cons_succ, List.length_cons, List.length_nil, noTok, if_true, if_false, decide_true, decide_false, Bool.not_true, Bool.not_false, setAll, List.map_cons, List.map_nil, truD, Bool.true_eq_false, Bool.false_eq_true, Option.bind_some, true_and, and_true, List.replicate, startR, List.cons_append, List.nil_append, Nat.sub_self, reduceIte, ↓reduceIte, isNon, LIM_eq, and_self, List.map_append, List.length_map, Int.toNat_natCast, Nat.zero_le, Nat.reduceLeDiff, Int.reduceNeg, Int.reduceLE, Int.reduceLT, Int.zero_add, ran1_int, ran2_int, noEx, eq_self, dI, dP, dPs]
      · rw [List.map_append]
        rfl
      · rw [List.length_append, hl]
        rfl
      · intro x hx2
        rcases List.mem_append.mp hx2 with hx2 | hx2
        · exact hx x hx2
        · rw [List.mem_singleton.mp hx2]
          omega)
  rw [upTo_len] at hfl
  have hfl2 : fs.length ≤ 4 := by omega
  refine ⟨f0, fs, g3, fun k o hk => ?_⟩
  have hbd : ∀ x ∈ f0 :: fs, x.natAbs < 2 ^ 62 := fun x hx => by
    have e : (2 : Nat) ^ 62 = 4611686018427387904 := by decide
    rw [e]
    rcases List.mem_cons.mp hx with rfl | hx
    · omega
    · have := hfs x hx
      omega
  have e3 : C_law_3 [.un, .d tokD, x2, x3, x4, x5, x6, x7, x8, x9, x10, x11, x12, x13, x14, x15, x16, x17, x18, x19, x20, x21, x22] g1 = .ok (fs.map .int) g3 := e3
  have s13 : S_law_13 [.un, .d tokD, x2, x3, x4, x5, x6, x7, x8, x9, x10, x11, x12, x13, x14, x15, x16, x17, x18, x19, x20, x21, x22] g = .nx [.un, .d tokD, x2, x3, x4, x5, x6, x7, x8, x9, .d (dI (f0 :: fs)), x11, x12, x13, x14, x15, x16, x17, x18, x19, x20, x21, x22] g3 := by
    simp (disch := omega) only [S_law_13, e1, e3, opAdd, hf0, show 0 + 1 + fs.length ≤ 1000000 by omega, eV_ap, eC_ap, eBin_ap, eNeg_ap, tVal_ap, eIsN_ap, eNotN_ap, eChain_ap, tAndF_ap, tOrF_ap, tNotF_ap, tTru_ap, eAnd_ap, eOr_ap, eNot_ap, eIf_ap, aNil_ap, aCons_ap, eTup_ap, eLst_ap, oNone_ap, oSome_ap, eSl_ap, eCall_ap, iLst_ap, iTpl_ap, iRan2_apN, eOf_ap, oLst_ap, oCat_ap, oRep_ap, oSl_ap, oList_ap, oComp_ap, tYesF_ap, sNil_ap, sSeq_th, sBrk_ap, sCnt_ap, sExpr_ap, sRet_ap, sRetN_ap, sIf_ap, sSet_ap, sSetO_ap, sAsg_ap, sPar_ap, sPar3_ap, sAug_ap, sApp_ap, sExt_ap, sSetIx_ap, sFrz_ap, eIxO_ap, eLenO_ap, eIxA_ap, eLenA_ap, vOf_ap, vCons_ap, vOwn_ap, sTup_ap, iSeq_ap, sRaise_ap, sTry_ap, eExF_ap, tIfF_ap, eRev_ap, eRevF_ap, th_nx, th_rt, th_bk, th_ct, th_exc, bind_ok, bind_exc, go_ok, go_exc, opAdd_int, opSub_int, opMul_a, opMul_b, opDiv_pos, opDiv_wide, opMod_pos, opI_int, opEq_int, opNe_int, opEq_bool, opNe_bool, atI_0, atI_1, atI_2, atI_3, opIx_list, opIx_tuple, iRan1_ap, bLen_list, bLen_tuple, bInt_int, bAbs_int, bName, bNil, bCons, bTup, List.getElem?_cons_zero, List.getElem?_cons_succ, List.set_cons_zero, List.set_cons_succ, List.length_cons, List.length_nil, noTok, if_true, if_false, decide_true, decide_false, Bool.not_true, Bool.not_false, setAll, List.map_cons, List.map_nil, truD, Bool.true_eq_false, Bool.false_eq_true, Option.bind_some, true_and, and_true, List.replicate, startR, List.cons_append, List.nil_append, Nat.sub_self, reduceIte, ↓reduceIte, isNon, LIM_eq, and_self, List.map_append, List.length_map, Int.toNat_natCast, Nat.zero_le, Nat.reduceLeDiff, Int.reduceNeg, Int.reduceLE, Int.reduceLT, Int.zero_add, ran1_int, ran2_int, noEx, eq_self, dI, dP, dPs]
  have q14 : m_part_of [dI (f0 :: fs)] g3 = .ok (dP (partOf (f0 :: fs))) g3 := m_part_of_eq (by simp) hbd
  have s14 : S_law_14 [.un, .d tokD, x2, x3, x4, x5, x6, x7, x8, x9, .d (dI (f0 :: fs)), x11, x12, x13, x14, x15, x16, x17, x18, x19, x20, x21, x22] g3 = .nx [.un, .d tokD, x2, x3, x4, x5, x6, x7, x8, x9, .d (dI (f0 :: fs)), .d (dP (partOf (f0 :: fs))), x12, x13, x14, x15, x16, x17, x18, x19, x20, x21, x22] g3 := by
    simp (disch := omega) only [S_law_14, q14, eV_ap, eC_ap, eBin_ap, eNeg_ap, tVal_ap, eIsN_ap, eNotN_ap, eChain_ap, tAndF_ap, tOrF_ap, tNotF_ap, tTru_ap, eAnd_ap, eOr_ap, eNot_ap, eIf_ap, aNil_ap, aCons_ap, eTup_ap, eLst_ap, oNone_ap, oSome_ap, eSl_ap, eCall_ap, iLst_ap, iTpl_ap, iRan2_apN, eOf_ap, oLst_ap, oCat_ap, oRep_ap, oSl_ap, oList_ap, oComp_ap, tYesF_ap, sNil_ap, sSeq_th, sBrk_ap, sCnt_ap, sExpr_ap, sRet_ap, sRetN_ap, sIf_ap, sSet_ap, sSetO_ap, sAsg_ap, sPar_ap, sPar3_ap, sAug_ap, sApp_ap, sExt_ap, sSetIx_ap, sFrz_ap, eIxO_ap, eLenO_ap, eIxA_ap, eLenA_ap, vOf_ap, vCons_ap, vOwn_ap, sTup_ap, iSeq_ap, sRaise_ap, sTry_ap, eExF_ap, tIfF_ap, eRev_ap, eRevF_ap, th_nx, th_rt, th_bk, th_ct, th_exc, bind_ok, bind_exc, go_ok, go_exc, opAdd_int, opSub_int, opMul_a, opMul_b, opDiv_pos, opDiv_wide, opMod_pos, opI_int, opEq_int, opNe_int, opEq_bool, opNe_bool, atI_0, atI_1, atI_2, atI_3, opIx_list, opIx_tuple, iRan1_ap, bLen_list, bLen_tuple, bInt_int, bAbs_int, bName, bNil, bCons, bTup, List.getElem?_cons_zero, List.getElem?_cons_succ, List.set_cons_zero, List.set_cons_succ, List.length_cons, List.length_nil, noTok, if_true, if_false, decide_true, decide_false, Bool.not_true, Bool.not_false, setAll, List.map_nil, truD, Bool.true_eq_false, Bool.false_eq_true, Option.bind_some, true_and, and_true, List.replicate, startR, List.cons_append, List.nil_append, Nat.sub_self, reduceIte, ↓reduceIte, isNon, LIM_eq, and_self, List.map_append, List.length_map, Int.toNat_natCast, Nat.zero_le, Nat.reduceLeDiff, Int.reduceNeg, Int.reduceLE, Int.reduceLT, Int.zero_add, ran1_int, ran2_int, noEx, eq_self, dPs]
  have hpb : 0 ≤ (partOf (f0 :: fs)).2 ∧ (partOf (f0 :: fs)).2 < 4611686018427387904 := by
    obtain ⟨p1, p2, p3⟩ := part_pos fs fun x hx => (hfs x hx).1
    refine ⟨Int.le_of_lt p1, ?_⟩
    show (partOf fs).1 < _
    have small : ∀ (w : List Int), (∀ x ∈ w, 1 ≤ x ∧ x ≤ 6) → (partOf w).1 ≤ 7 ^ w.length ∧ (partOf w).2 ≤ 7 ^ w.length := by
      intro w
      induction w with
      | nil => intro _; decide
      | cons u v ih =>
        intro hw
        obtain ⟨h1, h2⟩ := ih fun x hx => hw x (List.mem_cons_of_mem _ hx)
        have hu := hw u List.mem_cons_self
        obtain ⟨q1, q2, q3⟩ := part_pos v fun x hx => (hw x (List.mem_cons_of_mem _ hx)).1
        have h3 : u * (partOf v).1 ≤ 6 * (partOf v).1 := Int.mul_le_mul_of_nonneg_right hu.2 (by omega)
        simp only [partOf, List.length_cons, Int.pow_succ]
        constructor
        · omega
        · omega
    have h1 := (small fs hfs).1
    have h2 : (7 : Int) ^ fs.length ≤ 7 ^ 4 := by
      have : (7 : Nat) ^ fs.length ≤ 7 ^ 4 := Nat.pow_le_pow_right (by decide) hfl2
      have := Int.ofNat_le.mpr this
      simpa using this
    have h3 : (7 : Int) ^ 4 = 2401 := by decide
    omega
  have q15 : m_chain [.int (partOf (f0 :: fs)).1, .int (partOf (f0 :: fs)).2] g3 = .ok (dI (chn (partOf (f0 :: fs)).1 (partOf (f0 :: fs)).2)) g3 := m_chain_eq hpb.1 hpb.2
  have s15 : S_law_15 [.un, .d tokD, x2, x3, x4, x5, x6, x7, x8, x9, .d (dI (f0 :: fs)), .d (dP (partOf (f0 :: fs))), x12, x13, x14, x15, x16, x17, x18, x19, x20, x21, x22] g3 = .nx [.un, .d tokD, x2, x3, x4, x5, x6, x7, x8, x9, .d (dI (f0 :: fs)), .d (dP (partOf (f0 :: fs))), x12, x13, x14, x15, x16, x17, x18, x19, x20, x21, x22] g3 := by
    rcases free_back f0 fs fun x hx => (hfs x hx).1 with ⟨hc, hb⟩ | ⟨pre, y, e, hb⟩
    · rw [hb] at q15
      generalize partOf (f0 :: fs) = t at *
      rcases hc with rfl | ⟨hn, h1⟩
      · have e0 : opNe (.list [.int f0]) (.list [.int f0]) g3 = .ok (.bool (!decide ([f0] = [f0]))) g3 := opNe_dI (a := [f0]) (b := [f0])
        simp (disch := omega) only [S_law_15, q15, e0, show ((0 + 1 : Nat) : Int) = 1 from rfl, eV_ap, eC_ap, eBin_ap, eNeg_ap, tVal_ap, eIsN_ap, eNotN_ap, eChain_ap, tAndF_ap, tOrF_ap, tNotF_ap, tTru_ap, eAnd_ap, eOr_ap, eNot_ap, eIf_ap, aNil_ap, aCons_ap, eTup_ap, eLst_ap, oNone_ap, oSome_ap, eSl_ap, eCall_ap, iLst_ap, iTpl_ap, iRan2_apN, eOf_ap, oLst_ap, oCat_ap, oRep_ap, oSl_ap, oList_ap, oComp_ap, tYesF_ap, sNil_ap, sSeq_th, sBrk_ap, sCnt_ap, sExpr_ap, sRet_ap, sRetN_ap, sIf_ap, sSet_ap, sSetO_ap, sAsg_ap, sPar_ap, sPar3_ap, sAug_ap, sApp_ap, sExt_ap, sSetIx_ap, sFrz_ap, eIxO_ap, eLenO_ap, eIxA_ap, eLenA_ap, vOf_ap, vCons_ap, vOwn_ap, sTup_ap, iSeq_ap, sRaise_ap, sTry_ap, eExF_ap, tIfF_ap, eRev_ap, eRevF_ap, th_nx, th_rt, th_bk, th_ct, th_exc, bind_ok, bind_exc, go_ok, go_exc, opAdd_int, opSub_int, opMul_a, opMul_b, opDiv_pos, opDiv_wide, opMod_pos, opI_int, opEq_int, opNe_int, opEq_bool, opNe_bool, atI_0, atI_1, atI_2, atI_3, opIx_list, opIx_tuple, iRan1_ap, bLen_list, bLen_tuple, bInt_int, bAbs_int, bName, bNil, bCons, bTup, List.getElem?_cons_zero, List.getElem?_cons_succ, List.set_cons_zero, List.set_cons_succ, List.length_cons, List.length_nil, noTok, if_true, if_false, decide_true, decide_false, Bool.not_true, Bool.not_false, setAll, List.map_cons, List.map_nil, truD, Bool.true_eq_false, Bool.false_eq_true, Option.bind_some, true_and, and_true, List.replicate, startR, List.cons_append, List.nil_append, Nat.sub_self, reduceIte, ↓reduceIte, isNon, LIM_eq, and_self, List.map_append, List.length_map, Int.toNat_natCast, Nat.zero_le, Nat.reduceLeDiff, Int.reduceNeg, Int.reduceLE, Int.reduceLT, Int.zero_add, ran1_int, ran2_int, noEx, eq_self, dI, dP, dPs]
      · have e0 : opNe (.list (.int f0 :: fs.map .int)) (.list (.int f0 :: fs.map .int)) g3 = .ok (.bool (!decide (f0 :: fs = f0 :: fs))) g3 := opNe_dI (a := f0 :: fs) (b := f0 :: fs)
        have el : atI (.int f0 :: fs.map PyData.int) (-1) = some (.int (fs.getLast hn)) := by
          have := atI_len (w := f0 :: fs) (by simp)
          rw [List.getLast_cons hn] at this
          exact this
        have h0 : 0 < fs.length := List.length_pos_iff.mpr hn
        simp (disch := omega) only [S_law_15, q15, e0, el, h1, show ¬ ((fs.length + 1 : Nat) : Int) = 1 by omega, eV_ap, eC_ap, eBin_ap, eNeg_ap, tVal_ap, eIsN_ap, eNotN_ap, eChain_ap, tAndF_ap, tOrF_ap, tNotF_ap, tTru_ap, eAnd_ap, eOr_ap, eNot_ap, eIf_ap, aNil_ap, aCons_ap, eTup_ap, eLst_ap, oNone_ap, oSome_ap, eSl_ap, eCall_ap, iLst_ap, iTpl_ap, iRan2_apN, eOf_ap, oLst_ap, oCat_ap, oRep_ap, oSl_ap, oList_ap, oComp_ap, tYesF_ap, sNil_ap, sSeq_th, sBrk_ap, sCnt_ap, sExpr_ap, sRet_ap, sRetN_ap, sIf_ap, sSet_ap, sSetO_ap, sAsg_ap, sPar_ap, sPar3_ap, sAug_ap, sApp_ap, sExt_ap, sSetIx_ap, sFrz_ap, eIxO_ap, eLenO_ap, eIxA_ap, eLenA_ap, vOf_ap, vCons_ap, vOwn_ap, sTup_ap, iSeq_ap, sRaise_ap, sTry_ap, eExF_ap, tIfF_ap, eRev_ap, eRevF_ap, th_nx, th_rt, th_bk, th_ct, th_exc, bind_ok, bind_exc, go_ok, go_exc, opAdd_int, opSub_int, opMul_a, opMul_b, opDiv_pos, opDiv_wide, opMod_pos, opI_int, opEq_int, opNe_int, opEq_bool, opNe_bool, atI_0, atI_1, atI_2, atI_3, opIx_list, opIx_tuple, iRan1_ap, bLen_list, bLen_tuple, bInt_int, bAbs_int, bName, bNil, bCons, bTup, List.getElem?_cons_zero, List.getElem?_cons_succ, List.set_cons_zero, List.set_cons_succ, List.length_cons, List.length_nil, noTok, if_true, if_false, decide_true, decide_false, Bool.not_true, Bool.not_false, setAll, List.map_cons, List.map_nil, truD, Bool.true_eq_false, Bool.false_eq_true, Option.bind_some, true_and, and_true, List.replicate, startR, List.cons_append, List.nil_append, Nat.sub_self, reduceIte, ↓reduceIte, isNon, LIM_eq, and_self, List.map_append, List.length_map, Int.toNat_natCast, Nat.zero_le, Nat.reduceLeDiff, Int.reduceNeg, Int.reduceLE, Int.reduceLT, Int.zero_add, ran1_int, ran2_int, noEx, eq_self, dI, dP, dPs]
    · rw [hb] at q15
      have hlen := congrArg List.length e
      rw [List.length_cons, List.length_append, List.length_cons, List.length_cons, List.length_nil] at hlen
      have e0 : opNe (.list ((pre ++ [y + 1]).map .int)) (.list ((pre ++ [y + 1]).map .int)) g3 = .ok (.bool (!decide (pre ++ [y + 1] = pre ++ [y + 1]))) g3 := opNe_dI
      have el : atI ((pre ++ [y, 1]).map PyData.int) (-1) = some (.int 1) := by
        rw [atI_neg (by omega) (by rw [List.length_map, List.length_append, List.length_cons, List.length_cons, List.length_nil]; omega), List.length_map, List.getElem?_map, List.length_append, List.length_cons, List.length_cons, List.length_nil, show (-1 + ((pre.length + (0 + 1 + 1) : Nat) : Int)).toNat = pre.length + 1 by omega, List.getElem?_append_right (by omega), show pre.length + 1 - pre.length = 1 by omega]
        rfl
      have el2 : atI ((pre ++ [y, 1]).map PyData.int) (-2) = some (.int y) := by
        rw [atI_neg (by omega) (by rw [List.length_map, List.length_append, List.length_cons, List.length_cons, List.length_nil]; omega), List.length_map, List.getElem?_map, List.length_append, List.length_cons, List.length_cons, List.length_nil, show (-2 + ((pre.length + (0 + 1 + 1) : Nat) : Int)).toNat = pre.length by omega, List.getElem?_append_right (by omega), show pre.length - pre.length = 0 by omega]
        rfl
      have ec : cutD ((pre ++ [y, 1]).map PyData.int) none (some (-2)) = pre.map .int := by
        rw [cutD_neg (by omega), List.length_map, List.length_append, List.length_cons, List.length_cons, List.length_nil, show (-2 + ((pre.length + (0 + 1 + 1) : Nat) : Int)).toNat = pre.length by omega, ← List.map_take, List.take_left]
      have ea : opAdd (.list (pre.map .int)) (.list [.int (y + 1)]) g3 = .ok (.list ((pre ++ [y + 1]).map .int)) g3 := by
        show (if _ then _ else _) = _
        rw [if_pos (by rw [List.length_map, LIM_eq, List.length_cons, List.length_nil]; omega), List.map_append]
        rfl
      rw [e] at q15 ⊢
      generalize partOf (pre ++ [y, 1]) = t at *
      simp (disch := omega) only [S_law_15, List.length_append, q15, e0, el, el2, ec, ea, show ¬ ((pre.length + (0 + 1 + 1) : Nat) : Int) = 1 by omega, show ¬ (1 : Int) < 1 by decide, eV_ap, eC_ap, eBin_ap, eNeg_ap, tVal_ap, eIsN_ap, eNotN_ap, eChain_ap, tAndF_ap, tOrF_ap, tNotF_ap, tTru_ap, eAnd_ap, eOr_ap, eNot_ap, eIf_ap, aNil_ap, aCons_ap, eTup_ap, eLst_ap, oNone_ap, oSome_ap, eSl_ap, eCall_ap, iLst_ap, iTpl_ap, iRan2_apN, eOf_ap, oLst_ap, oCat_ap, oRep_ap, oSl_ap, oList_ap, oComp_ap, tYesF_ap, sNil_ap, sSeq_th, sBrk_ap, sCnt_ap, sExpr_ap, sRet_ap, sRetN_ap, sIf_ap, sSet_ap, sSetO_ap, sAsg_ap, sPar_ap, sPar3_ap, sAug_ap, sApp_ap, sExt_ap, sSetIx_ap, sFrz_ap, eIxO_ap, eLenO_ap, eIxA_ap, eLenA_ap, vOf_ap, vCons_ap, vOwn_ap, sTup_ap, iSeq_ap, sRaise_ap, sTry_ap, eExF_ap, tIfF_ap, eRev_ap, eRevF_ap, th_nx, th_rt, th_bk, th_ct, th_exc, bind_ok, bind_exc, go_ok, go_exc, opAdd_int, opSub_int, opMul_a, opMul_b, opDiv_pos, opDiv_wide, opMod_pos, opI_int, opEq_int, opNe_int, opEq_bool, opNe_bool, atI_0, atI_1, atI_2, atI_3, opIx_list, opIx_tuple, iRan1_ap, bLen_list, bLen_tuple, bInt_int, bAbs_int, bName, bNil, bCons, bTup, List.getElem?_cons_zero, List.getElem?_cons_succ, List.set_cons_zero, List.set_cons_succ, List.length_cons, List.length_nil, noTok, if_true, if_false, decide_true, decide_false, Bool.not_true, Bool.not_false, setAll, List.map_nil, truD, Bool.true_eq_false, Bool.false_eq_true, Option.bind_some, true_and, and_true, List.replicate, startR, List.cons_append, List.nil_append, Nat.sub_self, reduceIte, ↓reduceIte, isNon, LIM_eq, and_self, List.length_map, Int.toNat_natCast, Nat.zero_le, Nat.reduceLeDiff, Int.reduceNeg, Int.reduceLE, Int.reduceLT, Int.zero_add, ran1_int, ran2_int, noEx, eq_self, dI, dP, dPs]
  exact seq_nx s13 (seq_nx s14 (seq_nx s15 hk))
end K45
namespace K45
open PySem
open PySem.Spec
open PyProof.Rows
open L2
open DL
structure Told (n : Nat) (N W : Int) (l : List Int) : Prop where
  lne : l ≠ []
  len : l.length ≤ 100
  last : l.getLast? = some (2 * W)
  pal : l.dropLast = l.dropLast.reverse
  rng : ∀ x ∈ l, 1 ≤ x ∧ x ≤ 2 * W
  nin : ∀ x ∈ l.dropLast, x ≠ 2 * W
  wide : (List.replicate 40 l).flatten.take (2 * l.length + 2) = cyc l (2 * l.length + 2)
  rows : rowsOk N W 0 (along (0, 1) (1, 0) (W :: cyc l (2 * l.length + 2))) = true
  pell : pellOk n (wN n) N (partOf (W :: cyc l (manyOf l - 1))) = true
  minus : minusOk n (wN n) N l (partOf (W :: cyc l (l.length - 1))) (partOf (W :: cyc l (manyOf l - 1))) = true
theorem told_of {n : Nat} (h2 : 2 ≤ n) (h : n ≤ 401) : ∃ (N W : Int), N = (n : Int) ∧ 2 ≤ N ∧ N ≤ 401 ∧ 0 ≤ W ∧ W < 1000 ∧ W * W ≤ N ∧ N < (W + 1) * (W + 1) ∧ (W * W = N ∨ (W * W < N ∧ ∃ l, (∀ g, m_root_chain [.int N] g = .ok (.tuple [.int W, dI l]) g) ∧ Told n N W l)) := by
  have hc := chk_get h2 h
  unfold chk at hc
  simp only [Bool.and_eq_true, Bool.or_eq_true] at hc
  obtain ⟨c1, c2, c3, c4⟩ := hc
  have c1 := Nat.le_of_ble_eq_true c1
  have c2 : n < (wN n + 1) * (wN n + 1) := Nat.le_of_ble_eq_true c2
  have c3 : wN n < 1000 := Nat.le_of_ble_eq_true c3
  obtain ⟨N, hN⟩ : ∃ N : Int, N = (n : Int) := ⟨_, rfl⟩
  obtain ⟨W, hW⟩ : ∃ W : Int, W = (wN n : Int) := ⟨_, rfl⟩
  have e1 : W * W = ((wN n * wN n : Nat) : Int) := by rw [hW, Int.natCast_mul]
  have e2 : (W + 1) * (W + 1) = (((wN n + 1) * (wN n + 1) : Nat) : Int) := by rw [hW, Int.natCast_mul]; rfl
  have f1 : W * W ≤ N := by omega
  have f2 : N < (W + 1) * (W + 1) := by omega
  refine ⟨N, W, hN, by omega, by omega, by omega, by omega, f1, f2, ?_⟩
  rcases c4 with c4 | c4
  · have := Nat.eq_of_beq_eq_true c4
    exact .inl (by omega)
  · by_cases hs : W * W = N
    · exact .inl hs
    · right
      rw [← hW, ← hN] at c4
      cases hr : rcl 900 N W W (N - W * W) with
      | none => rw [hr] at c4; cases c4
      | some l =>
        rw [hr] at c4
        simp only [chkL, ← hW, ← hN, Bool.and_eq_true, decide_eq_true_eq, List.all_eq_true] at c4
        obtain ⟨⟨⟨⟨⟨⟨⟨⟨⟨d1, d2⟩, d3⟩, d4⟩, d5⟩, d6⟩, d7⟩, d8⟩, d9⟩, d10⟩ := c4
        have hlt : W * W < N := by omega
        exact ⟨hlt, l, fun g => m_root_chain_eq (by omega) (by omega) (by omega) hlt f2 hr, ⟨d1, d2, d3, d4, d5, d6, d7, d8, d9, d10⟩⟩
theorem natAbs62 {x : Int} (h : -1000000 ≤ x ∧ x ≤ 1000000) : x.natAbs < 2 ^ 62 := by
  have e : (2 : Nat) ^ 62 = 4611686018427387904 := by decide
  rw [e]
  omega
theorem row_get {n : Nat} {N W : Int} {l : List Int} (T : Told n N W l) {m i : Nat} (hm : m ≤ 2 * l.length + 3) (hi : i < m) : ∃ p, (along (0, 1) (1, 0) (W :: cyc l (m - 1)))[i]? = some p ∧ okRow N W i p = true := by
  have hcy : ∀ k, i ≤ k → (W :: cyc l k).take (i + 1) = W :: cyc l i := fun k hk => by
    rw [List.take_succ_cons, cyc_take hk]
  refine ⟨partOf (W :: cyc l i), ?_, ?_⟩
  · rw [along_part _ _ (by rw [List.length_cons, cyc_len]; omega), hcy _ (by omega)]
  · have := rowsOk_get (i := i) (p := partOf (W :: cyc l i)) T.rows (by rw [along_part _ _ (by rw [List.length_cons, cyc_len]; omega), hcy _ (by omega)])
    rw [Nat.zero_add] at this
    exact this
theorem opIn_not {x : Int} {l : List Int} {g : G} (h : ∀ y ∈ l, y ≠ x) : opIn false (.int x) (.list (l.map .int)) g = .ok (.bool false) g := by
  have e : ((l.map PyData.int).any fun z => PyData.eqv z (.int x)) = false := by
    rw [List.any_map, List.any_eq_false]
    intro y hy
    show ¬ PyData.eqv (.int y) (.int x) = true
    rw [PyData.eqv]
    simp [h y hy]
  show (if _ then _ else _) = _
  rw [if_pos ⟨rfl, lay_dI.shp (by decide)⟩, e]
  rfl
end K45
namespace K45
open PySem
open PySem.Spec
open PyProof.Rows
open L2
open DL
theorem turn_d (g : G) (x2 x3 x4 x5 x6 x7 x8 x9 x10 x11 x12 x13 x14 x15 x16 x17 x18 x19 x20 x21 x22 : SV) : ∃ (n : Nat) (N W : Int) (g' : G), 2 ≤ n ∧ n ≤ 401 ∧ N = (n : Int) ∧ 2 ≤ N ∧ N ≤ 401 ∧ 0 ≤ W ∧ W < 1000 ∧ W * W ≤ N ∧ N < (W + 1) * (W + 1) ∧ (W * W = N ∨ (W * W < N ∧ ∃ l, (∀ g, m_root_chain [.int N] g = .ok (.tuple [.int W, dI l]) g) ∧ Told n N W l)) ∧
    ∀ k o, k [.un, .d tokD, x2, x3, x4, x5, x6, x7, x8, x9, x10, x11, .d (.int N), .d (.int W), x14, x15, x16, x17, x18, x19, x20, x21, x22] g' = o → sSeq S_law_17 (sSeq S_law_18 k) [.un, .d tokD, x2, x3, x4, x5, x6, x7, x8, x9, x10, x11, x12, x13, x14, x15, x16, x17, x18, x19, x20, x21, x22] g = o := by
  obtain ⟨q, g1, hq, e1⟩ := m_pick_eq (row := [12, 60, 400]) (g := g) (by decide) (by decide)
  have hqb : 12 ≤ q ∧ q ≤ 400 := by
    simp only [List.mem_cons, List.not_mem_nil, or_false] at hq
    omega
  have e1 : m__law_pick [tokD, .list [.int 12, .int 60, .int 400]] g = .ok (.int q) g1 := e1
  obtain ⟨r, g2, e2, r0, r1⟩ := take_ok q g1 (by omega)
  obtain ⟨N, W, hN, h1, h2, h3, h4, h5, h6, h7⟩ := told_of (n := (2 + r).toNat) (by omega) (by omega)
  refine ⟨(2 + r).toNat, N, W, g2, by omega, by omega, hN, h1, h2, h3, h4, h5, h6, h7, fun k o hk => ?_⟩
  have hN2 : 2 + r = N := by omega
  have s17 : S_law_17 [.un, .d tokD, x2, x3, x4, x5, x6, x7, x8, x9, x10, x11, x12, x13, x14, x15, x16, x17, x18, x19, x20, x21, x22] g = .nx [.un, .d tokD, x2, x3, x4, x5, x6, x7, x8, x9, x10, x11, .d (.int N), x13, x14, x15, x16, x17, x18, x19, x20, x21, x22] g2 := by
    simp (disch := omega) only [S_law_17, e1, e2, hN2, eV_ap, eC_ap, eBin_ap, eNeg_ap, tVal_ap, eIsN_ap, eNotN_ap, eChain_ap, tAndF_ap, tOrF_ap, tNotF_ap, tTru_ap, eAnd_ap, eOr_ap, eNot_ap, eIf_ap, aNil_ap, aCons_ap, eTup_ap, eLst_ap, oNone_ap, oSome_ap, eSl_ap, eCall_ap, iLst_ap, iTpl_ap, iRan2_apN, eOf_ap, oLst_ap, oCat_ap, oRep_ap, oSl_ap, oList_ap, oComp_ap, tYesF_ap, sNil_ap, sSeq_th, sBrk_ap, sCnt_ap, sExpr_ap, sRet_ap, sRetN_ap, sIf_ap, sSet_ap, sSetO_ap, sAsg_ap, sPar_ap, sPar3_ap, sAug_ap, sApp_ap, sExt_ap, sSetIx_ap, sFrz_ap, eIxO_ap, eLenO_ap, eIxA_ap, eLenA_ap, vOf_ap, vCons_ap, vOwn_ap, sTup_ap, iSeq_ap, sRaise_ap, sTry_ap, eExF_ap, tIfF_ap, eRev_ap, eRevF_ap, th_nx, th_rt, th_bk, th_ct, th_exc, bind_ok, bind_exc, go_ok, go_exc, opAdd_int, opSub_int, opMul_a, opMul_b, opDiv_pos, opDiv_wide, opMod_pos, opI_int, opEq_int, opNe_int, opEq_bool, opNe_bool, atI_0, atI_1, atI_2, atI_3, opIx_list, opIx_tuple, iRan1_ap, bLen_list, bLen_tuple, bInt_int, bAbs_int, bName, bNil, bCons, bTup, List.getElem?_cons_zero, List.getElem?_cons_succ, List.set_cons_zero, List.set_cons_succ, List.length_cons, List.length_nil, noTok, if_true, if_false, decide_true, decide_false, Bool.not_true, Bool.not_false, setAll, List.map_cons, List.map_nil, truD, Bool.true_eq_false, Bool.false_eq_true, Option.bind_some, true_and, and_true, List.replicate, startR, List.cons_append, List.nil_append, Nat.sub_self, reduceIte, ↓reduceIte, isNon, LIM_eq, and_self, List.map_append, List.length_map, Int.toNat_natCast, Nat.zero_le, Nat.reduceLeDiff, Int.reduceNeg, Int.reduceLE, Int.reduceLT, Int.zero_add, ran1_int, ran2_int, noEx, eq_self, dI, dP, dPs]
  have q18 := m__law_root_eq (g := g2) (show N < 4611686018427387904 by omega) h3 h5 h6
  have s18 : S_law_18 [.un, .d tokD, x2, x3, x4, x5, x6, x7, x8, x9, x10, x11, .d (.int N), x13, x14, x15, x16, x17, x18, x19, x20, x21, x22] g2 = .nx [.un, .d tokD, x2, x3, x4, x5, x6, x7, x8, x9, x10, x11, .d (.int N), .d (.int W), x14, x15, x16, x17, x18, x19, x20, x21, x22] g2 := by
    simp (disch := omega) only [S_law_18, q18, eV_ap, eC_ap, eBin_ap, eNeg_ap, tVal_ap, eIsN_ap, eNotN_ap, eChain_ap, tAndF_ap, tOrF_ap, tNotF_ap, tTru_ap, eAnd_ap, eOr_ap, eNot_ap, eIf_ap, aNil_ap, aCons_ap, eTup_ap, eLst_ap, oNone_ap, oSome_ap, eSl_ap, eCall_ap, iLst_ap, iTpl_ap, iRan2_apN, eOf_ap, oLst_ap, oCat_ap, oRep_ap, oSl_ap, oList_ap, oComp_ap, tYesF_ap, sNil_ap, sSeq_th, sBrk_ap, sCnt_ap, sExpr_ap, sRet_ap, sRetN_ap, sIf_ap, sSet_ap, sSetO_ap, sAsg_ap, sPar_ap, sPar3_ap, sAug_ap, sApp_ap, sExt_ap, sSetIx_ap, sFrz_ap, eIxO_ap, eLenO_ap, eIxA_ap, eLenA_ap, vOf_ap, vCons_ap, vOwn_ap, sTup_ap, iSeq_ap, sRaise_ap, sTry_ap, eExF_ap, tIfF_ap, eRev_ap, eRevF_ap, th_nx, th_rt, th_bk, th_ct, th_exc, bind_ok, bind_exc, go_ok, go_exc, opAdd_int, opSub_int, opMul_a, opMul_b, opDiv_pos, opDiv_wide, opMod_pos, opI_int, opEq_int, opNe_int, opEq_bool, opNe_bool, atI_0, atI_1, atI_2, atI_3, opIx_list, opIx_tuple, iRan1_ap, bLen_list, bLen_tuple, bInt_int, bAbs_int, bName, bNil, bCons, bTup, List.getElem?_cons_zero, List.getElem?_cons_succ, List.set_cons_zero, List.set_cons_succ, List.length_cons, List.length_nil, noTok, if_true, if_false, decide_true, decide_false, Bool.not_true, Bool.not_false, setAll, List.map_cons, List.map_nil, truD, Bool.true_eq_false, Bool.false_eq_true, Option.bind_some, true_and, and_true, List.replicate, startR, List.cons_append, List.nil_append, Nat.sub_self, reduceIte, ↓reduceIte, isNon, LIM_eq, and_self, List.map_append, List.length_map, Int.toNat_natCast, Nat.zero_le, Nat.reduceLeDiff, Int.reduceNeg, Int.reduceLE, Int.reduceLT, Int.zero_add, ran1_int, ran2_int, noEx, eq_self, dI, dP, dPs]
  exact seq_nx s17 (seq_nx s18 hk)
theorem turn_sq (g : G) (x2 x3 x4 x5 x6 x7 x8 x9 x10 x11 x12 x13 x14 x15 x16 x17 x18 x19 x20 x21 x22 : SV) {N W : Int} (h1 : 2 ≤ N) (h2 : N ≤ 401) (h3 : 0 ≤ W) (h4 : W < 1000) (h : W * W = N) : S_law_19 [.un, .d tokD, x2, x3, x4, x5, x6, x7, x8, x9, x10, x11, .d (.int N), .d (.int W), x14, x15, x16, x17, x18, x19, x20, x21, x22] g = .ct [.un, .d tokD, x2, x3, x4, x5, x6, x7, x8, x9, x10, x11, .d (.int N), .d (.int W), x14, x15, x16, x17, x18, x19, x20, x21, x22] g := by
  have e1 : m__law_words [.int N] g = .ok (.list [.str "square", .str "square", .str "square", .str "square"]) g := m_words_eq fun g => m_root_chain_sq (by omega) h3 h4 h
  have e2 : opMul (.list [.str "square"]) (.int 4) g = .ok (.list [.str "square", .str "square", .str "square", .str "square"]) g := rfl
  have e3 : opNe (.list [.str "square", .str "square", .str "square", .str "square"]) (.list [.str "square", .str "square", .str "square", .str "square"]) g = .ok (.bool false) g := by
    have h1 : shp (.list [.str "square", .str "square", .str "square", .str "square"]) = true := by decide +kernel
    have h2 : PyData.eqv (.list [.str "square", .str "square", .str "square", .str "square"]) (.list [.str "square", .str "square", .str "square", .str "square"]) = true := by decide +kernel
    rw [opNe_shp h1 h1, h2]
    rfl
  simp (disch := omega) only [S_law_19, S_law_20, h, e1, e2, e3, eV_ap, eC_ap, eBin_ap, eNeg_ap, tVal_ap, eIsN_ap, eNotN_ap, eChain_ap, tAndF_ap, tOrF_ap, tNotF_ap, tTru_ap, eAnd_ap, eOr_ap, eNot_ap, eIf_ap, aNil_ap, aCons_ap, eTup_ap, eLst_ap, oNone_ap, oSome_ap, eSl_ap, eCall_ap, iLst_ap, iTpl_ap, iRan2_apN, eOf_ap, oLst_ap, oCat_ap, oRep_ap, oSl_ap, oList_ap, oComp_ap, tYesF_ap, sNil_ap, sSeq_th, sBrk_ap, sCnt_ap, sExpr_ap, sRet_ap, sRetN_ap, sIf_ap, sSet_ap, sSetO_ap, sAsg_ap, sPar_ap, sPar3_ap, sAug_ap, sApp_ap, sExt_ap, sSetIx_ap, sFrz_ap, eIxO_ap, eLenO_ap, eIxA_ap, eLenA_ap, vOf_ap, vCons_ap, vOwn_ap, sTup_ap, iSeq_ap, sRaise_ap, sTry_ap, eExF_ap, tIfF_ap, eRev_ap, eRevF_ap, th_nx, th_rt, th_bk, th_ct, th_exc, bind_ok, bind_exc, go_ok, go_exc, opAdd_int, opSub_int, opMul_a, opMul_b, opDiv_pos, opDiv_wide, opMod_pos, opI_int, opEq_int, opNe_int, opEq_bool, opNe_bool, atI_0, atI_1, atI_2, atI_3, opIx_list, opIx_tuple, iRan1_ap, bLen_list, bLen_tuple, bInt_int, bAbs_int, bName, bNil, bCons, bTup, List.getElem?_cons_zero, List.getElem?_cons_succ, List.set_cons_zero, List.set_cons_succ, List.length_cons, List.length_nil, noTok, if_true, if_false, decide_true, decide_false, Bool.not_true, Bool.not_false, setAll, List.map_cons, List.map_nil, truD, Bool.true_eq_false, Bool.false_eq_true, Option.bind_some, true_and, and_true, List.replicate, startR, List.cons_append, List.nil_append, Nat.sub_self, reduceIte, ↓reduceIte, isNon, LIM_eq, and_self, List.map_append, List.length_map, Int.toNat_natCast, Nat.zero_le, Nat.reduceLeDiff, Int.reduceNeg, Int.reduceLE, Int.reduceLT, Int.zero_add, ran1_int, ran2_int, noEx, eq_self, dI, dP, dPs]
theorem turn_n19 (g : G) (x2 x3 x4 x5 x6 x7 x8 x9 x10 x11 x12 x13 x14 x15 x16 x17 x18 x19 x20 x21 x22 : SV) {N W : Int} (h3 : 0 ≤ W) (h4 : W < 1000) (h : ¬ W * W = N) : S_law_19 [.un, .d tokD, x2, x3, x4, x5, x6, x7, x8, x9, x10, x11, .d (.int N), .d (.int W), x14, x15, x16, x17, x18, x19, x20, x21, x22] g = .nx [.un, .d tokD, x2, x3, x4, x5, x6, x7, x8, x9, x10, x11, .d (.int N), .d (.int W), x14, x15, x16, x17, x18, x19, x20, x21, x22] g := by
  simp (disch := omega) only [S_law_19, h, eV_ap, eC_ap, eBin_ap, eNeg_ap, tVal_ap, eIsN_ap, eNotN_ap, eChain_ap, tAndF_ap, tOrF_ap, tNotF_ap, tTru_ap, eAnd_ap, eOr_ap, eNot_ap, eIf_ap, aNil_ap, aCons_ap, eTup_ap, eLst_ap, oNone_ap, oSome_ap, eSl_ap, eCall_ap, iLst_ap, iTpl_ap, iRan2_apN, eOf_ap, oLst_ap, oCat_ap, oRep_ap, oSl_ap, oList_ap, oComp_ap, tYesF_ap, sNil_ap, sSeq_th, sBrk_ap, sCnt_ap, sExpr_ap, sRet_ap, sRetN_ap, sIf_ap, sSet_ap, sSetO_ap, sAsg_ap, sPar_ap, sPar3_ap, sAug_ap, sApp_ap, sExt_ap, sSetIx_ap, sFrz_ap, eIxO_ap, eLenO_ap, eIxA_ap, eLenA_ap, vOf_ap, vCons_ap, vOwn_ap, sTup_ap, iSeq_ap, sRaise_ap, sTry_ap, eExF_ap, tIfF_ap, eRev_ap, eRevF_ap, th_nx, th_rt, th_bk, th_ct, th_exc, bind_ok, bind_exc, go_ok, go_exc, opAdd_int, opSub_int, opMul_a, opMul_b, opDiv_pos, opDiv_wide, opMod_pos, opI_int, opEq_int, opNe_int, opEq_bool, opNe_bool, atI_0, atI_1, atI_2, atI_3, opIx_list, opIx_tuple, iRan1_ap, bLen_list, bLen_tuple, bInt_int, bAbs_int, bName, bNil, bCons, bTup, List.getElem?_cons_zero, List.getElem?_cons_succ, List.set_cons_zero, List.set_cons_succ, List.length_cons, List.length_nil, noTok, if_true, if_false, decide_true, decide_false, Bool.not_true, Bool.not_false, setAll, List.map_cons, List.map_nil, truD, Bool.true_eq_false, Bool.false_eq_true, Option.bind_some, true_and, and_true, List.replicate, startR, List.cons_append, List.nil_append, Nat.sub_self, reduceIte, ↓reduceIte, isNon, LIM_eq, and_self, List.map_append, List.length_map, Int.toNat_natCast, Nat.zero_le, Nat.reduceLeDiff, Int.reduceNeg, Int.reduceLE, Int.reduceLT, Int.zero_add, ran1_int, ran2_int, noEx, eq_self, dI, dP, dPs]
theorem turn_e (g : G) (x2 x3 x4 x5 x6 x7 x8 x9 x10 x11 x12 x13 x14 x15 x16 x17 x18 x19 x20 x21 x22 : SV) {n : Nat} {N W : Int} {l : List Int} (h2 : 2 ≤ N) (hN4 : N ≤ 401) (h3 : 0 ≤ W) (h4 : W < 1000) (hr : ∀ g, m_root_chain [.int N] g = .ok (.tuple [.int W, dI l]) g) (T : Told n N W l) :
    ∃ (M : Int) (m : Nat) (rows : List (Int × Int)) (wide : List Int) (g' : G), M = (m : Int) ∧ 2 ≤ m ∧ m ≤ 2 * l.length + 3 ∧ rows = along (0, 1) (1, 0) (W :: cyc l (m - 1)) ∧
    ∀ k o, k [.un, .d tokD, x2, x3, x4, x5, x6, x7, .d (dPs rows), x9, x10, x11, .d (.int N), .d (.int W), .d (.int W), .d (dI l), .d (.int M), .d (dI wide), x18, x19, x20, x21, x22] g' = o → sSeq S_law_23 (sSeq S_law_24 (sSeq S_law_26 (sSeq S_law_27 (sSeq S_law_28 (sSeq S_law_29 k))))) [.un, .d tokD, x2, x3, x4, x5, x6, x7, x8, x9, x10, x11, .d (.int N), .d (.int W), x14, x15, x16, x17, x18, x19, x20, x21, x22] g = o := by
  have l0 : 0 < l.length := List.length_pos_iff.mpr T.lne
  have ll := T.len
  obtain ⟨r, g2, e2, r0, r1⟩ := take_ok (2 * (l.length : Int) + 2) g (by omega)
  obtain ⟨M, hM⟩ : ∃ M, M = 2 + r := ⟨_, rfl⟩
  have hMm : M = (M.toNat : Int) := by omega
  have hm2 : 2 ≤ M.toNat := by omega
  have hm3 : M.toNat ≤ 2 * l.length + 3 := by omega
  generalize hm : M.toNat = m at *
  obtain ⟨rows, hrw⟩ : ∃ rows, rows = along (0, 1) (1, 0) (W :: cyc l (m - 1)) := ⟨_, rfl⟩
  obtain ⟨wide, hwd⟩ : ∃ wide, wide = W :: (List.replicate 40 l).flatten := ⟨_, rfl⟩
  refine ⟨M, m, rows, wide, g2, hMm, hm2, hm3, hrw, fun k o hk => ?_⟩
  have hs : ∀ x ∈ l, x.natAbs < 2 ^ 62 := fun x hx => natAbs62 (by have := T.rng x hx; omega)
  have hw : W.natAbs < 2 ^ 62 := natAbs62 (by omega)
  have s23 : S_law_23 [.un, .d tokD, x2, x3, x4, x5, x6, x7, x8, x9, x10, x11, .d (.int N), .d (.int W), x14, x15, x16, x17, x18, x19, x20, x21, x22] g = .nx [.un, .d tokD, x2, x3, x4, x5, x6, x7, x8, x9, x10, x11, .d (.int N), .d (.int W), .d (.int W), .d (dI l), x16, x17, x18, x19, x20, x21, x22] g := by
    simp (disch := omega) only [S_law_23, hr, eV_ap, eC_ap, eBin_ap, eNeg_ap, tVal_ap, eIsN_ap, eNotN_ap, eChain_ap, tAndF_ap, tOrF_ap, tNotF_ap, tTru_ap, eAnd_ap, eOr_ap, eNot_ap, eIf_ap, aNil_ap, aCons_ap, eTup_ap, eLst_ap, oNone_ap, oSome_ap, eSl_ap, eCall_ap, iLst_ap, iTpl_ap, iRan2_apN, eOf_ap, oLst_ap, oCat_ap, oRep_ap, oSl_ap, oList_ap, oComp_ap, tYesF_ap, sNil_ap, sSeq_th, sBrk_ap, sCnt_ap, sExpr_ap, sRet_ap, sRetN_ap, sIf_ap, sSet_ap, sSetO_ap, sAsg_ap, sPar_ap, sPar3_ap, sAug_ap, sApp_ap, sExt_ap, sSetIx_ap, sFrz_ap, eIxO_ap, eLenO_ap, eIxA_ap, eLenA_ap, vOf_ap, vCons_ap, vOwn_ap, sTup_ap, iSeq_ap, sRaise_ap, sTry_ap, eExF_ap, tIfF_ap, eRev_ap, eRevF_ap, th_nx, th_rt, th_bk, th_ct, th_exc, bind_ok, bind_exc, go_ok, go_exc, opAdd_int, opSub_int, opMul_a, opMul_b, opDiv_pos, opDiv_wide, opMod_pos, opI_int, opEq_int, opNe_int, opEq_bool, opNe_bool, atI_0, atI_1, atI_2, atI_3, opIx_list, opIx_tuple, iRan1_ap, bLen_list, bLen_tuple, bInt_int, bAbs_int, bName, bNil, bCons, bTup, List.getElem?_cons_zero, List.getElem?_cons_succ, List.set_cons_zero, List.set_cons_succ, List.length_cons, List.length_nil, noTok, if_true, if_false, decide_true, decide_false, Bool.not_true, Bool.not_false, setAll, List.map_cons, List.map_nil, truD, Bool.true_eq_false, Bool.false_eq_true, Option.bind_some, true_and, and_true, List.replicate, startR, List.cons_append, List.nil_append, Nat.sub_self, reduceIte, ↓reduceIte, isNon, LIM_eq, and_self, List.map_append, List.length_map, Int.toNat_natCast, Nat.zero_le, Nat.reduceLeDiff, Int.reduceNeg, Int.reduceLE, Int.reduceLT, Int.zero_add, ran1_int, ran2_int, noEx, eq_self, dI, dP, dPs]
  have hla : atI (l.map PyData.int) (-1) = some (.int (2 * W)) := by
    rw [atI_len T.lne]
    have := T.last
    rw [List.getLast?_eq_some_getLast T.lne] at this
    rw [Option.some.inj this]
  have hcut : cutD (l.map PyData.int) none (some (-1)) = l.dropLast.map .int := by
    rw [cutD_neg (by omega), List.length_map, show (-1 + (l.length : Int)).toNat = l.length - 1 by omega, List.dropLast_eq_take, List.map_take]
  have hrev : (l.dropLast.map PyData.int).reverse = l.dropLast.map .int := by
    rw [← List.map_reverse, ← T.pal]
  have hc4 : C_law_4 [.un, .d tokD, x2, x3, x4, x5, x6, x7, x8, x9, x10, x11, .d (.int N), .d (.int W), .d (.int W), .d (dI l), x16, x17, x18, x19, x20, x21, x22] g = .ok [] g := by
    refine oComp_none (items := l.map .int) ?_ ?_ ?_
    · simp (disch := omega) only [eV_ap, eC_ap, eBin_ap, eNeg_ap, tVal_ap, eIsN_ap, eNotN_ap, eChain_ap, tAndF_ap, tOrF_ap, tNotF_ap, tTru_ap, eAnd_ap, eOr_ap, eNot_ap, eIf_ap, aNil_ap, aCons_ap, eTup_ap, eLst_ap, oNone_ap, oSome_ap, eSl_ap, eCall_ap, iLst_ap, iTpl_ap, iRan2_apN, eOf_ap, oLst_ap, oCat_ap, oRep_ap, oSl_ap, oList_ap, oComp_ap, tYesF_ap, sNil_ap, sSeq_th, sBrk_ap, sCnt_ap, sExpr_ap, sRet_ap, sRetN_ap, sIf_ap, sSet_ap, sSetO_ap, sAsg_ap, sPar_ap, sPar3_ap, sAug_ap, sApp_ap, sExt_ap, sSetIx_ap, sFrz_ap, eIxO_ap, eLenO_ap, eIxA_ap, eLenA_ap, vOf_ap, vCons_ap, vOwn_ap, sTup_ap, iSeq_ap, sRaise_ap, sTry_ap, eExF_ap, tIfF_ap, eRev_ap, eRevF_ap, th_nx, th_rt, th_bk, th_ct, th_exc, bind_ok, bind_exc, go_ok, go_exc, opAdd_int, opSub_int, opMul_a, opMul_b, opDiv_pos, opDiv_wide, opMod_pos, opI_int, opEq_int, opNe_int, opEq_bool, opNe_bool, atI_0, atI_1, atI_2, atI_3, opIx_list, opIx_tuple, iRan1_ap, bLen_list, bLen_tuple, bInt_int, bAbs_int, bName, bNil, bCons, bTup, List.getElem?_cons_zero, List.getElem?_cons_succ, List.set_cons_zero, List.set_cons_succ, List.length_cons, List.length_nil, noTok, if_true, if_false, decide_true, decide_false, Bool.not_true, Bool.not_false, setAll, List.map_cons, List.map_nil, truD, Bool.true_eq_false, Bool.false_eq_true, Option.bind_some, true_and, and_true, List.replicate, startR, List.cons_append, List.nil_append, Nat.sub_self, reduceIte, ↓reduceIte, isNon, LIM_eq, and_self, List.map_append, List.length_map, Int.toNat_natCast, Nat.zero_le, Nat.reduceLeDiff, Int.reduceNeg, Int.reduceLE, Int.reduceLT, Int.zero_add, ran1_int, ran2_int, noEx, eq_self, dI, dP, dPs]
    · rw [List.length_map, LIM_eq]
      omega
    · intro i hi
      rw [List.length_map] at hi
      obtain ⟨y1, y2⟩ := T.rng _ (List.getElem_mem hi)
      refine ⟨_, rfl, ?_⟩
      rw [get_map (by rw [List.length_map]; exact hi)]
      generalize l[i] = y at *
      simp (disch := omega) only [wipeR, y1, y2, eV_ap, eC_ap, eBin_ap, eNeg_ap, tVal_ap, eIsN_ap, eNotN_ap, eChain_ap, tAndF_ap, tOrF_ap, tNotF_ap, tTru_ap, eAnd_ap, eOr_ap, eNot_ap, eIf_ap, aNil_ap, aCons_ap, eTup_ap, eLst_ap, oNone_ap, oSome_ap, eSl_ap, eCall_ap, iLst_ap, iTpl_ap, iRan2_apN, eOf_ap, oLst_ap, oCat_ap, oRep_ap, oSl_ap, oList_ap, oComp_ap, tYesF_ap, sNil_ap, sSeq_th, sBrk_ap, sCnt_ap, sExpr_ap, sRet_ap, sRetN_ap, sIf_ap, sSet_ap, sSetO_ap, sAsg_ap, sPar_ap, sPar3_ap, sAug_ap, sApp_ap, sExt_ap, sSetIx_ap, sFrz_ap, eIxO_ap, eLenO_ap, eIxA_ap, eLenA_ap, vOf_ap, vCons_ap, vOwn_ap, sTup_ap, iSeq_ap, sRaise_ap, sTry_ap, eExF_ap, tIfF_ap, eRev_ap, eRevF_ap, th_nx, th_rt, th_bk, th_ct, th_exc, bind_ok, bind_exc, go_ok, go_exc, opAdd_int, opSub_int, opMul_a, opMul_b, opDiv_pos, opDiv_wide, opMod_pos, opI_int, opEq_int, opNe_int, opEq_bool, opNe_bool, atI_0, atI_1, atI_2, atI_3, opIx_list, opIx_tuple, iRan1_ap, bLen_list, bLen_tuple, bInt_int, bAbs_int, bName, bNil, bCons, bTup, List.getElem?_cons_zero, List.getElem?_cons_succ, List.set_cons_zero, List.set_cons_succ, List.length_cons, List.length_nil, noTok, if_true, if_false, decide_true, decide_false, Bool.not_true, Bool.not_false, setAll, List.map_cons, List.map_nil, truD, Bool.true_eq_false, Bool.false_eq_true, Option.bind_some, true_and, and_true, List.replicate, startR, List.cons_append, List.nil_append, Nat.sub_self, reduceIte, ↓reduceIte, isNon, LIM_eq, and_self, List.map_append, List.length_map, Int.toNat_natCast, Nat.zero_le, Nat.reduceLeDiff, Int.reduceNeg, Int.reduceLE, Int.reduceLT, Int.zero_add, ran1_int, ran2_int, noEx, eq_self, dI, dP, dPs]
  have hin := opIn_not (x := 2 * W) (l := l.dropLast) (g := g) T.nin
  have s24 : S_law_24 [.un, .d tokD, x2, x3, x4, x5, x6, x7, x8, x9, x10, x11, .d (.int N), .d (.int W), .d (.int W), .d (dI l), x16, x17, x18, x19, x20, x21, x22] g = .nx [.un, .d tokD, x2, x3, x4, x5, x6, x7, x8, x9, x10, x11, .d (.int N), .d (.int W), .d (.int W), .d (dI l), x16, x17, x18, x19, x20, x21, x22] g := by
    simp (disch := omega) only [S_law_24, hla, hcut, hrev, opNe_dI, hc4, hin, show ¬ (0 : Int) < ((0 : Nat) : Int) by omega, eV_ap, eC_ap, eBin_ap, eNeg_ap, tVal_ap, eIsN_ap, eNotN_ap, eChain_ap, tAndF_ap, tOrF_ap, tNotF_ap, tTru_ap, eAnd_ap, eOr_ap, eNot_ap, eIf_ap, aNil_ap, aCons_ap, eTup_ap, eLst_ap, oNone_ap, oSome_ap, eSl_ap, eCall_ap, iLst_ap, iTpl_ap, iRan2_apN, eOf_ap, oLst_ap, oCat_ap, oRep_ap, oSl_ap, oList_ap, oComp_ap, tYesF_ap, sNil_ap, sSeq_th, sBrk_ap, sCnt_ap, sExpr_ap, sRet_ap, sRetN_ap, sIf_ap, sSet_ap, sSetO_ap, sAsg_ap, sPar_ap, sPar3_ap, sAug_ap, sApp_ap, sExt_ap, sSetIx_ap, sFrz_ap, eIxO_ap, eLenO_ap, eIxA_ap, eLenA_ap, vOf_ap, vCons_ap, vOwn_ap, sTup_ap, iSeq_ap, sRaise_ap, sTry_ap, eExF_ap, tIfF_ap, eRev_ap, eRevF_ap, th_nx, th_rt, th_bk, th_ct, th_exc, bind_ok, bind_exc, go_ok, go_exc, opAdd_int, opSub_int, opMul_a, opMul_b, opDiv_pos, opDiv_wide, opMod_pos, opI_int, opEq_int, opNe_int, opEq_bool, opNe_bool, atI_0, atI_1, atI_2, atI_3, opIx_list, opIx_tuple, iRan1_ap, bLen_list, bLen_tuple, bInt_int, bAbs_int, bName, bNil, bCons, bTup, List.getElem?_cons_zero, List.getElem?_cons_succ, List.set_cons_zero, List.set_cons_succ, List.length_cons, List.length_nil, noTok, if_true, if_false, decide_true, decide_false, Bool.not_true, Bool.not_false, setAll, List.map_cons, List.map_nil, truD, Bool.true_eq_false, Bool.false_eq_true, Option.bind_some, true_and, and_true, List.replicate, startR, List.cons_append, List.nil_append, Nat.sub_self, reduceIte, ↓reduceIte, isNon, LIM_eq, and_self, List.map_append, List.length_map, Int.toNat_natCast, Nat.zero_le, Nat.reduceLeDiff, Int.reduceNeg, Int.reduceLE, Int.reduceLT, Int.zero_add, ran1_int, ran2_int, noEx, eq_self, dI, dP, dPs]
  have s26 : S_law_26 [.un, .d tokD, x2, x3, x4, x5, x6, x7, x8, x9, x10, x11, .d (.int N), .d (.int W), .d (.int W), .d (dI l), x16, x17, x18, x19, x20, x21, x22] g = .nx [.un, .d tokD, x2, x3, x4, x5, x6, x7, x8, x9, x10, x11, .d (.int N), .d (.int W), .d (.int W), .d (dI l), .d (.int M), x17, x18, x19, x20, x21, x22] g2 := by
    simp (disch := omega) only [S_law_26, e2, hM, eV_ap, eC_ap, eBin_ap, eNeg_ap, tVal_ap, eIsN_ap, eNotN_ap, eChain_ap, tAndF_ap, tOrF_ap, tNotF_ap, tTru_ap, eAnd_ap, eOr_ap, eNot_ap, eIf_ap, aNil_ap, aCons_ap, eTup_ap, eLst_ap, oNone_ap, oSome_ap, eSl_ap, eCall_ap, iLst_ap, iTpl_ap, iRan2_apN, eOf_ap, oLst_ap, oCat_ap, oRep_ap, oSl_ap, oList_ap, oComp_ap, tYesF_ap, sNil_ap, sSeq_th, sBrk_ap, sCnt_ap, sExpr_ap, sRet_ap, sRetN_ap, sIf_ap, sSet_ap, sSetO_ap, sAsg_ap, sPar_ap, sPar3_ap, sAug_ap, sApp_ap, sExt_ap, sSetIx_ap, sFrz_ap, eIxO_ap, eLenO_ap, eIxA_ap, eLenA_ap, vOf_ap, vCons_ap, vOwn_ap, sTup_ap, iSeq_ap, sRaise_ap, sTry_ap, eExF_ap, tIfF_ap, eRev_ap, eRevF_ap, th_nx, th_rt, th_bk, th_ct, th_exc, bind_ok, bind_exc, go_ok, go_exc, opAdd_int, opSub_int, opMul_a, opMul_b, opDiv_pos, opDiv_wide, opMod_pos, opI_int, opEq_int, opNe_int, opEq_bool, opNe_bool, atI_0, atI_1, atI_2, atI_3, opIx_list, opIx_tuple, iRan1_ap, bLen_list, bLen_tuple, bInt_int, bAbs_int, bName, bNil, bCons, bTup, List.getElem?_cons_zero, List.getElem?_cons_succ, List.set_cons_zero, List.set_cons_succ, List.length_cons, List.length_nil, noTok, if_true, if_false, decide_true, decide_false, Bool.not_true, Bool.not_false, setAll, List.map_cons, List.map_nil, truD, Bool.true_eq_false, Bool.false_eq_true, Option.bind_some, true_and, and_true, List.replicate, startR, List.cons_append, List.nil_append, Nat.sub_self, reduceIte, ↓reduceIte, isNon, LIM_eq, and_self, List.map_append, List.length_map, Int.toNat_natCast, Nat.zero_le, Nat.reduceLeDiff, Int.reduceNeg, Int.reduceLE, Int.reduceLT, Int.zero_add, ran1_int, ran2_int, noEx, eq_self, dI, dP, dPs]
  have q27 : m_root_parts [.int N, .int M] g2 = .ok (dPs rows) g2 := by
    rw [hMm, hrw]
    exact m_root_parts_eq (hr g2) T.lne hs hw (by omega) (by omega) (by omega)
  have s27 : S_law_27 [.un, .d tokD, x2, x3, x4, x5, x6, x7, x8, x9, x10, x11, .d (.int N), .d (.int W), .d (.int W), .d (dI l), .d (.int M), x17, x18, x19, x20, x21, x22] g2 = .nx [.un, .d tokD, x2, x3, x4, x5, x6, x7, .d (dPs rows), x9, x10, x11, .d (.int N), .d (.int W), .d (.int W), .d (dI l), .d (.int M), x17, x18, x19, x20, x21, x22] g2 := by
    simp (disch := omega) only [S_law_27, q27, eV_ap, eC_ap, eBin_ap, eNeg_ap, tVal_ap, eIsN_ap, eNotN_ap, eChain_ap, tAndF_ap, tOrF_ap, tNotF_ap, tTru_ap, eAnd_ap, eOr_ap, eNot_ap, eIf_ap, aNil_ap, aCons_ap, eTup_ap, eLst_ap, oNone_ap, oSome_ap, eSl_ap, eCall_ap, iLst_ap, iTpl_ap, iRan2_apN, eOf_ap, oLst_ap, oCat_ap, oRep_ap, oSl_ap, oList_ap, oComp_ap, tYesF_ap, sNil_ap, sSeq_th, sBrk_ap, sCnt_ap, sExpr_ap, sRet_ap, sRetN_ap, sIf_ap, sSet_ap, sSetO_ap, sAsg_ap, sPar_ap, sPar3_ap, sAug_ap, sApp_ap, sExt_ap, sSetIx_ap, sFrz_ap, eIxO_ap, eLenO_ap, eIxA_ap, eLenA_ap, vOf_ap, vCons_ap, vOwn_ap, sTup_ap, iSeq_ap, sRaise_ap, sTry_ap, eExF_ap, tIfF_ap, eRev_ap, eRevF_ap, th_nx, th_rt, th_bk, th_ct, th_exc, bind_ok, bind_exc, go_ok, go_exc, opAdd_int, opSub_int, opMul_a, opMul_b, opDiv_pos, opDiv_wide, opMod_pos, opI_int, opEq_int, opNe_int, opEq_bool, opNe_bool, atI_0, atI_1, atI_2, atI_3, opIx_list, opIx_tuple, iRan1_ap, bLen_list, bLen_tuple, bInt_int, bAbs_int, bName, bNil, bCons, bTup, List.getElem?_cons_zero, List.getElem?_cons_succ, List.set_cons_zero, List.set_cons_succ, List.length_cons, List.length_nil, noTok, if_true, if_false, decide_true, decide_false, Bool.not_true, Bool.not_false, setAll, List.map_cons, List.map_nil, truD, Bool.true_eq_false, Bool.false_eq_true, Option.bind_some, true_and, and_true, List.replicate, startR, List.cons_append, List.nil_append, Nat.sub_self, reduceIte, ↓reduceIte, isNon, LIM_eq, and_self, List.map_append, List.length_map, Int.toNat_natCast, Nat.zero_le, Nat.reduceLeDiff, Int.reduceNeg, Int.reduceLE, Int.reduceLT, Int.zero_add, ran1_int, ran2_int, noEx, eq_self, dP]
  have hfl : (List.replicate 40 l).flatten.length = 40 * l.length := by
    rw [List.length_flatten, List.map_replicate, List.sum_replicate_nat]
  have qm : opMul (.list (l.map .int)) (.int 40) g2 = .ok (.list ((List.replicate 40 l).flatten.map .int)) g2 := by
    show (if _ then _ else _) = _
    rw [if_pos ⟨by decide, by decide, by rw [List.length_map, LIM_eq]; show l.length * 40 ≤ 1000000; omega⟩, List.map_flatten, List.map_replicate]
    rfl
  have qa : opAdd (.list [.int W]) (.list ((List.replicate 40 l).flatten.map .int)) g2 = .ok (dI wide) g2 := by
    show (if _ then _ else _) = _
    rw [if_pos (by rw [List.length_map, hfl, LIM_eq, List.length_cons, List.length_nil]; omega), hwd]
    rfl
  have s28 : S_law_28 [.un, .d tokD, x2, x3, x4, x5, x6, x7, .d (dPs rows), x9, x10, x11, .d (.int N), .d (.int W), .d (.int W), .d (dI l), .d (.int M), x17, x18, x19, x20, x21, x22] g2 = .nx [.un, .d tokD, x2, x3, x4, x5, x6, x7, .d (dPs rows), x9, x10, x11, .d (.int N), .d (.int W), .d (.int W), .d (dI l), .d (.int M), .d (dI wide), x18, x19, x20, x21, x22] g2 := by
    simp (disch := omega) only [S_law_28, qm, qa, eV_ap, eC_ap, eBin_ap, eNeg_ap, tVal_ap, eIsN_ap, eNotN_ap, eChain_ap, tAndF_ap, tOrF_ap, tNotF_ap, tTru_ap, eAnd_ap, eOr_ap, eNot_ap, eIf_ap, aNil_ap, aCons_ap, eTup_ap, eLst_ap, oNone_ap, oSome_ap, eSl_ap, eCall_ap, iLst_ap, iTpl_ap, iRan2_apN, eOf_ap, oLst_ap, oCat_ap, oRep_ap, oSl_ap, oList_ap, oComp_ap, tYesF_ap, sNil_ap, sSeq_th, sBrk_ap, sCnt_ap, sExpr_ap, sRet_ap, sRetN_ap, sIf_ap, sSet_ap, sSetO_ap, sAsg_ap, sPar_ap, sPar3_ap, sAug_ap, sApp_ap, sExt_ap, sSetIx_ap, sFrz_ap, eIxO_ap, eLenO_ap, eIxA_ap, eLenA_ap, vOf_ap, vCons_ap, vOwn_ap, sTup_ap, iSeq_ap, sRaise_ap, sTry_ap, eExF_ap, tIfF_ap, eRev_ap, eRevF_ap, th_nx, th_rt, th_bk, th_ct, th_exc, bind_ok, bind_exc, go_ok, go_exc, opAdd_int, opSub_int, opMul_a, opMul_b, opDiv_pos, opDiv_wide, opMod_pos, opI_int, opEq_int, opNe_int, opEq_bool, opNe_bool, atI_0, atI_1, atI_2, atI_3, opIx_list, opIx_tuple, iRan1_ap, bLen_list, bLen_tuple, bInt_int, bAbs_int, bName, bNil, bCons, bTup, List.getElem?_cons_zero, List.getElem?_cons_succ, List.set_cons_zero, List.set_cons_succ, List.length_cons, List.length_nil, noTok, if_true, if_false, decide_true, decide_false, Bool.not_true, Bool.not_false, setAll, List.map_cons, List.map_nil, truD, Bool.true_eq_false, Bool.false_eq_true, Option.bind_some, true_and, and_true, startR, List.cons_append, List.nil_append, Nat.sub_self, reduceIte, ↓reduceIte, isNon, LIM_eq, and_self, List.map_append, List.length_map, Int.toNat_natCast, Nat.zero_le, Nat.reduceLeDiff, Int.reduceNeg, Int.reduceLE, Int.reduceLT, Int.zero_add, ran1_int, ran2_int, noEx, eq_self, dP]
  have hcw : cutD (wide.map PyData.int) none (some M) = (W :: cyc l (m - 1)).map .int := by
    have h0 : 0 ≤ M := by omega
    have e3 : (List.replicate 40 l).flatten.take (m - 1) = cyc l (m - 1) := by
      have h5 : ((List.replicate 40 l).flatten.take (2 * l.length + 2)).take (m - 1) = (cyc l (2 * l.length + 2)).take (m - 1) := by rw [T.wide]
      rw [List.take_take, cyc_take (by omega), Nat.min_eq_left (by omega)] at h5
      exact h5
    rw [cutD_to h0, hwd, ← List.map_take]
    congr 1
    rw [show M.toNat = (m - 1) + 1 by omega, List.take_succ_cons, e3]
  have q29 : m_parts_along [.list ((W :: cyc l (m - 1)).map .int)] g2 = .ok (dPs rows) g2 := by
    rw [hrw]
    refine m_parts_along_eq (by rw [List.length_cons, cyc_len]; omega) fun x hx => ?_
    rcases List.mem_cons.mp hx with rfl | hx
    · exact hw
    · exact hs x (cyc_mem T.lne x hx)
  have hrl : (rows.length : Int) = M := by
    rw [hrw, along_len, List.length_cons, cyc_len]
    omega
  have s29 : S_law_29 [.un, .d tokD, x2, x3, x4, x5, x6, x7, .d (dPs rows), x9, x10, x11, .d (.int N), .d (.int W), .d (.int W), .d (dI l), .d (.int M), .d (dI wide), x18, x19, x20, x21, x22] g2 = .nx [.un, .d tokD, x2, x3, x4, x5, x6, x7, .d (dPs rows), x9, x10, x11, .d (.int N), .d (.int W), .d (.int W), .d (dI l), .d (.int M), .d (dI wide), x18, x19, x20, x21, x22] g2 := by
    simp (disch := omega) only [S_law_29, hcw, q29, opNe_dPs, hrl, eV_ap, eC_ap, eBin_ap, eNeg_ap, tVal_ap, eIsN_ap, eNotN_ap, eChain_ap, tAndF_ap, tOrF_ap, tNotF_ap, tTru_ap, eAnd_ap, eOr_ap, eNot_ap, eIf_ap, aNil_ap, aCons_ap, eTup_ap, eLst_ap, oNone_ap, oSome_ap, eSl_ap, eCall_ap, iLst_ap, iTpl_ap, iRan2_apN, eOf_ap, oLst_ap, oCat_ap, oRep_ap, oSl_ap, oList_ap, oComp_ap, tYesF_ap, sNil_ap, sSeq_th, sBrk_ap, sCnt_ap, sExpr_ap, sRet_ap, sRetN_ap, sIf_ap, sSet_ap, sSetO_ap, sAsg_ap, sPar_ap, sPar3_ap, sAug_ap, sApp_ap, sExt_ap, sSetIx_ap, sFrz_ap, eIxO_ap, eLenO_ap, eIxA_ap, eLenA_ap, vOf_ap, vCons_ap, vOwn_ap, sTup_ap, iSeq_ap, sRaise_ap, sTry_ap, eExF_ap, tIfF_ap, eRev_ap, eRevF_ap, th_nx, th_rt, th_bk, th_ct, th_exc, bind_ok, bind_exc, go_ok, go_exc, opAdd_int, opSub_int, opMul_a, opMul_b, opDiv_pos, opDiv_wide, opMod_pos, opI_int, opEq_int, opNe_int, opEq_bool, opNe_bool, atI_0, atI_1, atI_2, atI_3, opIx_list, opIx_tuple, iRan1_ap, bLen_list, bLen_tuple, bInt_int, bAbs_int, bName, bNil, bCons, bTup, List.getElem?_cons_zero, List.getElem?_cons_succ, List.set_cons_zero, List.set_cons_succ, List.length_cons, List.length_nil, noTok, if_true, if_false, decide_true, decide_false, Bool.not_true, Bool.not_false, setAll, List.map_nil, truD, Bool.true_eq_false, Bool.false_eq_true, Option.bind_some, true_and, and_true, List.replicate, startR, List.cons_append, List.nil_append, Nat.sub_self, reduceIte, ↓reduceIte, isNon, LIM_eq, and_self, List.map_append, List.length_map, Int.toNat_natCast, Nat.zero_le, Nat.reduceLeDiff, Int.reduceNeg, Int.reduceLE, Int.reduceLT, Int.zero_add, ran1_int, ran2_int, noEx, eq_self, dI, dPs]
  exact seq_nx s23 (seq_nx s24 (seq_nx s26 (seq_nx s27 (seq_nx s28 (seq_nx s29 hk)))))
end K45
namespace K45
open PySem
open PySem.Spec
open PyProof.Rows
open L2
open DL
theorem turn_f (g : G) (x2 x3 x4 x5 x6 x7 x8 x9 x10 x11 x12 x13 x14 x15 x16 x17 x18 x19 x20 x21 x22 : SV) {n m : Nat} {N W M : Int} {l : List Int} {rows : List (Int × Int)} (h2 : 2 ≤ N) (hN4 : N ≤ 401) (h3 : 0 ≤ W) (h4 : W < 1000) (T : Told n N W l) (hM : M = (m : Int)) (hm2 : 2 ≤ m) (hm3 : m ≤ 2 * l.length + 3) (hrw : rows = along (0, 1) (1, 0) (W :: cyc l (m - 1))) :
    ∃ y9 y18 y19 y20, S_law_31 [.un, .d tokD, x2, x3, x4, x5, x6, x7, .d (dPs rows), x9, x10, x11, .d (.int N), .d (.int W), x14, .d (dI l), .d (.int M), x17, x18, x19, x20, x21, x22] g = .nx [.un, .d tokD, x2, x3, x4, x5, x6, x7, .d (dPs rows), y9, x10, x11, .d (.int N), .d (.int W), x14, .d (dI l), .d (.int M), x17, y18, y19, y20, x21, x22] g := by
  have ll := T.len
  have hMb : 0 ≤ M ∧ M ≤ 1000 := by omega
  have hMt : M.toNat = m := by omega
  obtain ⟨ρ1, g1, ⟨rfl, y9, y18, y19, y20, rfl⟩, hf⟩ := sFor_run (fi := iRan1 (aCons (eV 16) aNil)) (b := bName 9) (f := B_law_31) (items := upTo 0 m) (g := g) (g1 := g) (ρ := [.un, .d tokD, x2, x3, x4, x5, x6, x7, .d (dPs rows), x9, x10, x11, .d (.int N), .d (.int W), x14, .d (dI l), .d (.int M), x17, x18, x19, x20, x21, x22])
    (fun i ρ g' => g' = g ∧ ∃ y9 y18 y19 y20, ρ = [.un, .d tokD, x2, x3, x4, x5, x6, x7, .d (dPs rows), y9, x10, x11, .d (.int N), .d (.int W), x14, .d (dI l), .d (.int M), x17, y18, y19, y20, x21, x22]) (by simp (disch := omega) only [hMt, eV_ap, eC_ap, eBin_ap, eNeg_ap, tVal_ap, eIsN_ap, eNotN_ap, eChain_ap, tAndF_ap, tOrF_ap, tNotF_ap, tTru_ap, eAnd_ap, eOr_ap, eNot_ap, eIf_ap, aNil_ap, aCons_ap, eTup_ap, eLst_ap, oNone_ap, oSome_ap, eSl_ap, eCall_ap, iLst_ap, iTpl_ap, iRan2_apN, eOf_ap, oLst_ap, oCat_ap, oRep_ap, oSl_ap, oList_ap, oComp_ap, tYesF_ap, sNil_ap, sSeq_th, sBrk_ap, sCnt_ap, sExpr_ap, sRet_ap, sRetN_ap, sIf_ap, sSet_ap, sSetO_ap, sAsg_ap, sPar_ap, sPar3_ap, sAug_ap, sApp_ap, sExt_ap, sSetIx_ap, sFrz_ap, eIxO_ap, eLenO_ap, eIxA_ap, eLenA_ap, vOf_ap, vCons_ap, vOwn_ap, sTup_ap, iSeq_ap, sRaise_ap, sTry_ap, eExF_ap, tIfF_ap, eRev_ap, eRevF_ap, th_nx, th_rt, th_bk, th_ct, th_exc, bind_ok, bind_exc, go_ok, go_exc, opAdd_int, opSub_int, opMul_a, opMul_b, opDiv_pos, opDiv_wide, opMod_pos, opI_int, opEq_int, opNe_int, opEq_bool, opNe_bool, atI_0, atI_1, atI_2, atI_3, opIx_list, opIx_tuple, iRan1_ap, bLen_list, bLen_tuple, bInt_int, bAbs_int, bName, bNil, bCons, bTup, List.getElem?_cons_zero, List.getElem?_cons_succ, List.set_cons_zero, List.set_cons_succ, List.length_cons, List.length_nil, noTok, if_true, if_false, decide_true, decide_false, Bool.not_true, Bool.not_false, setAll, List.map_cons, List.map_nil, truD, Bool.true_eq_false, Bool.false_eq_true, Option.bind_some, true_and, and_true, List.replicate, startR, List.cons_append, List.nil_append, Nat.sub_self, reduceIte, ↓reduceIte, isNon, LIM_eq, and_self, List.map_append, List.length_map, Int.toNat_natCast, Nat.zero_le, Nat.reduceLeDiff, Int.reduceNeg, Int.reduceLE, Int.reduceLT, Int.zero_add, ran1_int, ran2_int, noEx, eq_self, dI, dP, dPs]) ⟨rfl, x9, x18, x19, x20, rfl⟩ (by
      rintro i hi ρ g' ⟨rfl, y9, y18, y19, y20, rfl⟩
      rw [upTo_len] at hi
      have ei : (upTo 0 m)[i]'(by rw [upTo_len]; exact hi) = .int (i : Int) := by
        have := (upTo_get (lo := 0) (n := m) (i := i) (d := _) (List.getElem?_eq_getElem (by rw [upTo_len]; exact hi))).2
        rw [this, Int.zero_add]
      rw [ei]
      obtain ⟨q, hq, hok⟩ := row_get T hm3 hi
      rw [← hrw] at hq
      have ea : atI (rows.map dP) (i : Int) = some (dP q) := atI_map hq
      unfold okRow at hok
      simp only [Bool.and_eq_true, decide_eq_true_eq] at hok
      obtain ⟨⟨⟨k1, k2⟩, k3⟩, k4⟩ := hok
      obtain ⟨I, hI⟩ : ∃ I : Int, I = (i : Int) := ⟨_, rfl⟩
      obtain ⟨S, hS⟩ : ∃ S : Int, S = q.1 * q.1 - N * q.2 * q.2 := ⟨_, rfl⟩
      rw [← hS] at k3 k4
      have hI2 : S < 0 ↔ I % 2 = 0 := by
        rw [k3]
        omega
      rw [← hI] at ea ⊢
      have hI0 : 0 ≤ I := by omega
      clear hI k3
      refine ⟨_, [.un, .d tokD, x2, x3, x4, x5, x6, x7, .d (dPs rows), .d (.int I), x10, x11, .d (.int N), .d (.int W), x14, .d (dI l), .d (.int M), x17, .d (.int q.1), .d (.int q.2), .d (.int S), x21, x22], g', rfl, .inl ?_, rfl, _, _, _, _, rfl⟩
      have s32 : S_law_32 [.un, .d tokD, x2, x3, x4, x5, x6, x7, .d (dPs rows), .d (.int I), x10, x11, .d (.int N), .d (.int W), x14, .d (dI l), .d (.int M), x17, y18, y19, y20, x21, x22] g' = .nx [.un, .d tokD, x2, x3, x4, x5, x6, x7, .d (dPs rows), .d (.int I), x10, x11, .d (.int N), .d (.int W), x14, .d (dI l), .d (.int M), x17, .d (.int q.1), .d (.int q.2), y20, x21, x22] g' := by
        simp (disch := omega) only [S_law_32, ea, eV_ap, eC_ap, eBin_ap, eNeg_ap, tVal_ap, eIsN_ap, eNotN_ap, eChain_ap, tAndF_ap, tOrF_ap, tNotF_ap, tTru_ap, eAnd_ap, eOr_ap, eNot_ap, eIf_ap, aNil_ap, aCons_ap, eTup_ap, eLst_ap, oNone_ap, oSome_ap, eSl_ap, eCall_ap, iLst_ap, iTpl_ap, iRan2_apN, eOf_ap, oLst_ap, oCat_ap, oRep_ap, oSl_ap, oList_ap, oComp_ap, tYesF_ap, sNil_ap, sSeq_th, sBrk_ap, sCnt_ap, sExpr_ap, sRet_ap, sRetN_ap, sIf_ap, sSet_ap, sSetO_ap, sAsg_ap, sPar_ap, sPar3_ap, sAug_ap, sApp_ap, sExt_ap, sSetIx_ap, sFrz_ap, eIxO_ap, eLenO_ap, eIxA_ap, eLenA_ap, vOf_ap, vCons_ap, vOwn_ap, sTup_ap, iSeq_ap, sRaise_ap, sTry_ap, eExF_ap, tIfF_ap, eRev_ap, eRevF_ap, th_nx, th_rt, th_bk, th_ct, th_exc, bind_ok, bind_exc, go_ok, go_exc, opAdd_int, opSub_int, opMul_a, opMul_b, opDiv_pos, opDiv_wide, opMod_pos, opI_int, opEq_int, opNe_int, opEq_bool, opNe_bool, atI_0, atI_1, atI_2, atI_3, opIx_list, opIx_tuple, iRan1_ap, bLen_list, bLen_tuple, bInt_int, bAbs_int, bName, bNil, bCons, bTup, List.getElem?_cons_zero, List.getElem?_cons_succ, List.set_cons_zero, List.set_cons_succ, List.length_cons, List.length_nil, noTok, if_true, if_false, decide_true, decide_false, Bool.not_true, Bool.not_false, setAll, List.map_cons, List.map_nil, truD, Bool.true_eq_false, Bool.false_eq_true, Option.bind_some, true_and, and_true, List.replicate, startR, List.cons_append, List.nil_append, Nat.sub_self, reduceIte, ↓reduceIte, isNon, LIM_eq, and_self, List.map_append, List.length_map, Int.toNat_natCast, Nat.zero_le, Nat.reduceLeDiff, Int.reduceNeg, Int.reduceLE, Int.reduceLT, Int.zero_add, ran1_int, ran2_int, noEx, eq_self, dI, dP]
      have s33 : S_law_33 [.un, .d tokD, x2, x3, x4, x5, x6, x7, .d (dPs rows), .d (.int I), x10, x11, .d (.int N), .d (.int W), x14, .d (dI l), .d (.int M), x17, .d (.int q.1), .d (.int q.2), y20, x21, x22] g' = .nx [.un, .d tokD, x2, x3, x4, x5, x6, x7, .d (dPs rows), .d (.int I), x10, x11, .d (.int N), .d (.int W), x14, .d (dI l), .d (.int M), x17, .d (.int q.1), .d (.int q.2), .d (.int S), x21, x22] g' := by
        simp (disch := omega) only [S_law_33, opMul_ok k1, opMul_ok k2, hS, eV_ap, eC_ap, eBin_ap, eNeg_ap, tVal_ap, eIsN_ap, eNotN_ap, eChain_ap, tAndF_ap, tOrF_ap, tNotF_ap, tTru_ap, eAnd_ap, eOr_ap, eNot_ap, eIf_ap, aNil_ap, aCons_ap, eTup_ap, eLst_ap, oNone_ap, oSome_ap, eSl_ap, eCall_ap, iLst_ap, iTpl_ap, iRan2_apN, eOf_ap, oLst_ap, oCat_ap, oRep_ap, oSl_ap, oList_ap, oComp_ap, tYesF_ap, sNil_ap, sSeq_th, sBrk_ap, sCnt_ap, sExpr_ap, sRet_ap, sRetN_ap, sIf_ap, sSet_ap, sSetO_ap, sAsg_ap, sPar_ap, sPar3_ap, sAug_ap, sApp_ap, sExt_ap, sSetIx_ap, sFrz_ap, eIxO_ap, eLenO_ap, eIxA_ap, eLenA_ap, vOf_ap, vCons_ap, vOwn_ap, sTup_ap, iSeq_ap, sRaise_ap, sTry_ap, eExF_ap, tIfF_ap, eRev_ap, eRevF_ap, th_nx, th_rt, th_bk, th_ct, th_exc, bind_ok, bind_exc, go_ok, go_exc, opAdd_int, opSub_int, opMul_a, opMul_b, opDiv_pos, opDiv_wide, opMod_pos, opI_int, opEq_int, opNe_int, opEq_bool, opNe_bool, atI_0, atI_1, atI_2, atI_3, opIx_list, opIx_tuple, iRan1_ap, bLen_list, bLen_tuple, bInt_int, bAbs_int, bName, bNil, bCons, bTup, List.getElem?_cons_zero, List.getElem?_cons_succ, List.set_cons_zero, List.set_cons_succ, List.length_cons, List.length_nil, noTok, if_true, if_false, decide_true, decide_false, Bool.not_true, Bool.not_false, setAll, List.map_cons, List.map_nil, truD, Bool.true_eq_false, Bool.false_eq_true, Option.bind_some, true_and, and_true, List.replicate, startR, List.cons_append, List.nil_append, Nat.sub_self, reduceIte, ↓reduceIte, isNon, LIM_eq, and_self, List.map_append, List.length_map, Int.toNat_natCast, Nat.zero_le, Nat.reduceLeDiff, Int.reduceNeg, Int.reduceLE, Int.reduceLT, Int.zero_add, ran1_int, ran2_int, noEx, eq_self, dI, dP, dPs]
      have s34 : S_law_34 [.un, .d tokD, x2, x3, x4, x5, x6, x7, .d (dPs rows), .d (.int I), x10, x11, .d (.int N), .d (.int W), x14, .d (dI l), .d (.int M), x17, .d (.int q.1), .d (.int q.2), .d (.int S), x21, x22] g' = .nx [.un, .d tokD, x2, x3, x4, x5, x6, x7, .d (dPs rows), .d (.int I), x10, x11, .d (.int N), .d (.int W), x14, .d (dI l), .d (.int M), x17, .d (.int q.1), .d (.int q.2), .d (.int S), x21, x22] g' := by
        by_cases hs : S < 0
        · have h5 := hI2.mp hs
          rw [if_pos hs] at k4
          simp (disch := omega) only [S_law_34, hs, h5, show ¬ 2 * W < -S by omega, beq_self_eq_true, eV_ap, eC_ap, eBin_ap, eNeg_ap, tVal_ap, eIsN_ap, eNotN_ap, eChain_ap, tAndF_ap, tOrF_ap, tNotF_ap, tTru_ap, eAnd_ap, eOr_ap, eNot_ap, eIf_ap, aNil_ap, aCons_ap, eTup_ap, eLst_ap, oNone_ap, oSome_ap, eSl_ap, eCall_ap, iLst_ap, iTpl_ap, iRan2_apN, eOf_ap, oLst_ap, oCat_ap, oRep_ap, oSl_ap, oList_ap, oComp_ap, tYesF_ap, sNil_ap, sSeq_th, sBrk_ap, sCnt_ap, sExpr_ap, sRet_ap, sRetN_ap, sIf_ap, sSet_ap, sSetO_ap, sAsg_ap, sPar_ap, sPar3_ap, sAug_ap, sApp_ap, sExt_ap, sSetIx_ap, sFrz_ap, eIxO_ap, eLenO_ap, eIxA_ap, eLenA_ap, vOf_ap, vCons_ap, vOwn_ap, sTup_ap, iSeq_ap, sRaise_ap, sTry_ap, eExF_ap, tIfF_ap, eRev_ap, eRevF_ap, th_nx, th_rt, th_bk, th_ct, th_exc, bind_ok, bind_exc, go_ok, go_exc, opAdd_int, opSub_int, opMul_a, opMul_b, opDiv_pos, opDiv_wide, opMod_pos, opI_int, opEq_int, opNe_int, opEq_bool, opNe_bool, atI_0, atI_1, atI_2, atI_3, opIx_list, opIx_tuple, iRan1_ap, bLen_list, bLen_tuple, bInt_int, bAbs_int, bName, bNil, bCons, bTup, List.getElem?_cons_zero, List.getElem?_cons_succ, List.set_cons_zero, List.set_cons_succ, List.length_cons, List.length_nil, noTok, if_true, if_false, decide_true, decide_false, Bool.not_true, Bool.not_false, setAll, List.map_cons, List.map_nil, truD, Bool.true_eq_false, Bool.false_eq_true, Option.bind_some, true_and, and_true, List.replicate, startR, List.cons_append, List.nil_append, Nat.sub_self, reduceIte, ↓reduceIte, isNon, LIM_eq, and_self, List.map_append, List.length_map, Int.toNat_natCast, Nat.zero_le, Nat.reduceLeDiff, Int.reduceNeg, Int.reduceLE, Int.reduceLT, Int.zero_add, ran1_int, ran2_int, noEx, eq_self, dI, dP, dPs]
        · have h5 : ¬ I % 2 = 0 := fun e => hs (hI2.mpr e)
          rw [if_neg hs] at k4
          simp (disch := omega) only [S_law_34, hs, h5, show ¬ 2 * W < S by omega, beq_self_eq_true, eV_ap, eC_ap, eBin_ap, eNeg_ap, tVal_ap, eIsN_ap, eNotN_ap, eChain_ap, tAndF_ap, tOrF_ap, tNotF_ap, tTru_ap, eAnd_ap, eOr_ap, eNot_ap, eIf_ap, aNil_ap, aCons_ap, eTup_ap, eLst_ap, oNone_ap, oSome_ap, eSl_ap, eCall_ap, iLst_ap, iTpl_ap, iRan2_apN, eOf_ap, oLst_ap, oCat_ap, oRep_ap, oSl_ap, oList_ap, oComp_ap, tYesF_ap, sNil_ap, sSeq_th, sBrk_ap, sCnt_ap, sExpr_ap, sRet_ap, sRetN_ap, sIf_ap, sSet_ap, sSetO_ap, sAsg_ap, sPar_ap, sPar3_ap, sAug_ap, sApp_ap, sExt_ap, sSetIx_ap, sFrz_ap, eIxO_ap, eLenO_ap, eIxA_ap, eLenA_ap, vOf_ap, vCons_ap, vOwn_ap, sTup_ap, iSeq_ap, sRaise_ap, sTry_ap, eExF_ap, tIfF_ap, eRev_ap, eRevF_ap, th_nx, th_rt, th_bk, th_ct, th_exc, bind_ok, bind_exc, go_ok, go_exc, opAdd_int, opSub_int, opMul_a, opMul_b, opDiv_pos, opDiv_wide, opMod_pos, opI_int, opEq_int, opNe_int, opEq_bool, opNe_bool, atI_0, atI_1, atI_2, atI_3, opIx_list, opIx_tuple, iRan1_ap, bLen_list, bLen_tuple, bInt_int, bAbs_int, bName, bNil, bCons, bTup, List.getElem?_cons_zero, List.getElem?_cons_succ, List.set_cons_zero, List.set_cons_succ, List.length_cons, List.length_nil, noTok, if_true, if_false, decide_true, decide_false, Bool.not_true, Bool.not_false, setAll, List.map_cons, List.map_nil, truD, Bool.true_eq_false, Bool.false_eq_true, Option.bind_some, true_and, and_true, List.replicate, startR, List.cons_append, List.nil_append, Nat.sub_self, reduceIte, ↓reduceIte, isNon, LIM_eq, and_self, List.map_append, List.length_map, Int.toNat_natCast, Nat.zero_le, Nat.reduceLeDiff, Int.reduceNeg, Int.reduceLE, Int.reduceLT, Int.zero_add, ran1_int, ran2_int, noEx, eq_self, dI, dP, dPs]
      exact seq_nx s32 (seq_nx s33 s34))
  exact ⟨y9, y18, y19, y20, hf⟩
theorem castP_toNat {p : Int × Int} (h1 : 0 ≤ p.1) (h2 : 0 ≤ p.2) : dP (castP (p.1.toNat, p.2.toNat)) = dP p := by
  show PyData.tuple [.int (p.1.toNat : Int), .int (p.2.toNat : Int)] = .tuple [.int p.1, .int p.2]
  rw [show ((p.1.toNat : Nat) : Int) = p.1 by omega, show ((p.2.toNat : Nat) : Int) = p.2 by omega]
theorem turn_g (g : G) (x2 x3 x4 x5 x6 x7 x8 x9 x10 x11 x12 x13 x14 x15 x16 x17 x18 x19 x20 x21 x22 : SV) {n : Nat} {N W : Int} {l : List Int} (hn : 2 ≤ n) (hn2 : n ≤ 401) (hN : N = (n : Int)) (h3 : 0 ≤ W) (h4 : W < 1000) (hr : ∀ g, m_root_chain [.int N] g = .ok (.tuple [.int W, dI l]) g) (T : Told n N W l) :
    ∃ ρ, sSeq S_law_36 (sSeq S_law_37 (sSeq S_law_39 (sSeq S_law_40 (sSeq S_law_42 (sSeq S_law_43 (sSeq S_law_45 S_law_47)))))) [.un, .d tokD, x2, x3, x4, x5, x6, x7, x8, x9, x10, x11, .d (.int N), .d (.int W), x14, .d (dI l), x16, x17, x18, x19, x20, x21, x22] g = .nx ρ g ∧ ∃ y2 y3 y4 y5 y6 y7 y8 y9 y10 y11 y12 y13 y14 y15 y16 y17 y18 y19 y20 y21 y22, ρ = [.un, .d tokD, y2, y3, y4, y5, y6, y7, y8, y9, y10, y11, y12, y13, y14, y15, y16, y17, y18, y19, y20, y21, y22] := by
  have l0 : 0 < l.length := List.length_pos_iff.mpr T.lne
  have ll := T.len
  have Nb : 2 ≤ N ∧ N ≤ 401 := by omega
  have hs : ∀ x ∈ l, x.natAbs < 2 ^ 62 := fun x hx => natAbs62 (by have := T.rng x hx; omega)
  have hw : W.natAbs < 2 ^ 62 := natAbs62 (by omega)
  have q36 : m_pell [.int N] g = .ok (dP (partOf (W :: cyc l (manyOf l - 1)))) g := m_pell_eq (hr g) T.lne hs hw (by omega)
  have q39 : m_minus_pell [.int N] g = .ok (minusOf W l) g := m_minus_pell_eq (hr g) T.lne hs hw (by omega)
  have hp := T.pell
  have hm := T.minus
  unfold minusOf at q39
  generalize partOf (W :: cyc l (manyOf l - 1)) = p at *
  generalize partOf (W :: cyc l (l.length - 1)) = q at *
  clear hs hw T hr
  unfold pellOk at hp
  simp only [Bool.and_eq_true, decide_eq_true_eq] at hp
  obtain ⟨⟨⟨⟨⟨k1, k2⟩, k3⟩, k4⟩, k5⟩, k6⟩ := hp
  have s36 : S_law_36 [.un, .d tokD, x2, x3, x4, x5, x6, x7, x8, x9, x10, x11, .d (.int N), .d (.int W), x14, .d (dI l), x16, x17, x18, x19, x20, x21, x22] g = .nx [.un, .d tokD, x2, x3, x4, x5, x6, x7, x8, x9, x10, x11, .d (.int N), .d (.int W), x14, .d (dI l), x16, x17, .d (.int p.1), .d (.int p.2), x20, x21, x22] g := by
    simp (disch := omega) only [S_law_36, q36, eV_ap, eC_ap, eBin_ap, eNeg_ap, tVal_ap, eIsN_ap, eNotN_ap, eChain_ap, tAndF_ap, tOrF_ap, tNotF_ap, tTru_ap, eAnd_ap, eOr_ap, eNot_ap, eIf_ap, aNil_ap, aCons_ap, eTup_ap, eLst_ap, oNone_ap, oSome_ap, eSl_ap, eCall_ap, iLst_ap, iTpl_ap, iRan2_apN, eOf_ap, oLst_ap, oCat_ap, oRep_ap, oSl_ap, oList_ap, oComp_ap, tYesF_ap, sNil_ap, sSeq_th, sBrk_ap, sCnt_ap, sExpr_ap, sRet_ap, sRetN_ap, sIf_ap, sSet_ap, sSetO_ap, sAsg_ap, sPar_ap, sPar3_ap, sAug_ap, sApp_ap, sExt_ap, sSetIx_ap, sFrz_ap, eIxO_ap, eLenO_ap, eIxA_ap, eLenA_ap, vOf_ap, vCons_ap, vOwn_ap, sTup_ap, iSeq_ap, sRaise_ap, sTry_ap, eExF_ap, tIfF_ap, eRev_ap, eRevF_ap, th_nx, th_rt, th_bk, th_ct, th_exc, bind_ok, bind_exc, go_ok, go_exc, opAdd_int, opSub_int, opMul_a, opMul_b, opDiv_pos, opDiv_wide, opMod_pos, opI_int, opEq_int, opNe_int, opEq_bool, opNe_bool, atI_0, atI_1, atI_2, atI_3, opIx_list, opIx_tuple, iRan1_ap, bLen_list, bLen_tuple, bInt_int, bAbs_int, bName, bNil, bCons, bTup, List.getElem?_cons_zero, List.getElem?_cons_succ, List.set_cons_zero, List.set_cons_succ, List.length_cons, List.length_nil, noTok, if_true, if_false, decide_true, decide_false, Bool.not_true, Bool.not_false, setAll, List.map_cons, List.map_nil, truD, Bool.true_eq_false, Bool.false_eq_true, Option.bind_some, true_and, and_true, List.replicate, startR, List.cons_append, List.nil_append, Nat.sub_self, reduceIte, ↓reduceIte, isNon, LIM_eq, and_self, List.map_append, List.length_map, Int.toNat_natCast, Nat.zero_le, Nat.reduceLeDiff, Int.reduceNeg, Int.reduceLE, Int.reduceLT, Int.zero_add, ran1_int, ran2_int, noEx, eq_self, dI, dP, dPs]
  have s37 : S_law_37 [.un, .d tokD, x2, x3, x4, x5, x6, x7, x8, x9, x10, x11, .d (.int N), .d (.int W), x14, .d (dI l), x16, x17, .d (.int p.1), .d (.int p.2), x20, x21, x22] g = .nx [.un, .d tokD, x2, x3, x4, x5, x6, x7, x8, x9, x10, x11, .d (.int N), .d (.int W), x14, .d (dI l), x16, x17, .d (.int p.1), .d (.int p.2), x20, x21, x22] g := by
    by_cases h5 : p.2 < 400
    · rw [if_pos h5] at k6
      have e := m_least_eq (N := N) (C := 1) (M := 400) (g := g) hn (by omega) (.inr rfl) hN rfl rfl (by decide) (of_decide_eq_true k6)
      have e2 : optP (some (p.1.toNat, p.2.toNat)) = .tuple [.int p.1, .int p.2] := castP_toNat k5 (by omega)
      rw [e2] at e
      simp (disch := omega) only [S_law_37, opMul_ok k1, opMul_ok k2, k3, h5, e, opNe_dP, show ¬ p.2 < 1 by omega, show ¬ 400 ≤ p.2 by omega, eV_ap, eC_ap, eBin_ap, eNeg_ap, tVal_ap, eIsN_ap, eNotN_ap, eChain_ap, tAndF_ap, tOrF_ap, tNotF_ap, tTru_ap, eAnd_ap, eOr_ap, eNot_ap, eIf_ap, aNil_ap, aCons_ap, eTup_ap, eLst_ap, oNone_ap, oSome_ap, eSl_ap, eCall_ap, iLst_ap, iTpl_ap, iRan2_apN, eOf_ap, oLst_ap, oCat_ap, oRep_ap, oSl_ap, oList_ap, oComp_ap, tYesF_ap, sNil_ap, sSeq_th, sBrk_ap, sCnt_ap, sExpr_ap, sRet_ap, sRetN_ap, sIf_ap, sSet_ap, sSetO_ap, sAsg_ap, sPar_ap, sPar3_ap, sAug_ap, sApp_ap, sExt_ap, sSetIx_ap, sFrz_ap, eIxO_ap, eLenO_ap, eIxA_ap, eLenA_ap, vOf_ap, vCons_ap, vOwn_ap, sTup_ap, iSeq_ap, sRaise_ap, sTry_ap, eExF_ap, tIfF_ap, eRev_ap, eRevF_ap, th_nx, th_rt, th_bk, th_ct, th_exc, bind_ok, bind_exc, go_ok, go_exc, opAdd_int, opSub_int, opMul_a, opMul_b, opDiv_pos, opDiv_wide, opMod_pos, opI_int, opEq_int, opNe_int, opEq_bool, opNe_bool, atI_0, atI_1, atI_2, atI_3, opIx_list, opIx_tuple, iRan1_ap, bLen_list, bLen_tuple, bInt_int, bAbs_int, bName, bNil, bCons, bTup, List.getElem?_cons_zero, List.getElem?_cons_succ, List.set_cons_zero, List.set_cons_succ, List.length_cons, List.length_nil, noTok, if_true, if_false, decide_true, decide_false, Bool.not_true, Bool.not_false, setAll, List.map_cons, List.map_nil, truD, Bool.true_eq_false, Bool.false_eq_true, Option.bind_some, true_and, and_true, List.replicate, startR, List.cons_append, List.nil_append, Nat.sub_self, reduceIte, ↓reduceIte, isNon, LIM_eq, and_self, List.map_append, List.length_map, Int.toNat_natCast, Nat.zero_le, Nat.reduceLeDiff, Int.reduceNeg, Int.reduceLE, Int.reduceLT, Int.zero_add, ran1_int, ran2_int, noEx, eq_self, dI, dP, dPs]
    · rw [if_neg h5] at k6
      have e := m_least_eq (N := N) (C := 1) (M := 399) (g := g) hn (by omega) (.inr rfl) hN rfl rfl (by decide) (of_decide_eq_true k6)
      have e : m__law_least [.int N, .int 1, .int 399] g = .ok .none g := e
      simp (disch := omega) only [S_law_37, opMul_ok k1, opMul_ok k2, k3, h5, e, show ¬ p.2 < 1 by omega, show 400 ≤ p.2 by omega, eV_ap, eC_ap, eBin_ap, eNeg_ap, tVal_ap, eIsN_ap, eNotN_ap, eChain_ap, tAndF_ap, tOrF_ap, tNotF_ap, tTru_ap, eAnd_ap, eOr_ap, eNot_ap, eIf_ap, aNil_ap, aCons_ap, eTup_ap, eLst_ap, oNone_ap, oSome_ap, eSl_ap, eCall_ap, iLst_ap, iTpl_ap, iRan2_apN, eOf_ap, oLst_ap, oCat_ap, oRep_ap, oSl_ap, oList_ap, oComp_ap, tYesF_ap, sNil_ap, sSeq_th, sBrk_ap, sCnt_ap, sExpr_ap, sRet_ap, sRetN_ap, sIf_ap, sSet_ap, sSetO_ap, sAsg_ap, sPar_ap, sPar3_ap, sAug_ap, sApp_ap, sExt_ap, sSetIx_ap, sFrz_ap, eIxO_ap, eLenO_ap, eIxA_ap, eLenA_ap, vOf_ap, vCons_ap, vOwn_ap, sTup_ap, iSeq_ap, sRaise_ap, sTry_ap, eExF_ap, tIfF_ap, eRev_ap, eRevF_ap, th_nx, th_rt, th_bk, th_ct, th_exc, bind_ok, bind_exc, go_ok, go_exc, opAdd_int, opSub_int, opMul_a, opMul_b, opDiv_pos, opDiv_wide, opMod_pos, opI_int, opEq_int, opNe_int, opEq_bool, opNe_bool, atI_0, atI_1, atI_2, atI_3, opIx_list, opIx_tuple, iRan1_ap, bLen_list, bLen_tuple, bInt_int, bAbs_int, bName, bNil, bCons, bTup, List.getElem?_cons_zero, List.getElem?_cons_succ, List.set_cons_zero, List.set_cons_succ, List.length_cons, List.length_nil, noTok, if_true, if_false, decide_true, decide_false, Bool.not_true, Bool.not_false, setAll, List.map_cons, List.map_nil, truD, Bool.true_eq_false, Bool.false_eq_true, Option.bind_some, true_and, and_true, List.replicate, startR, List.cons_append, List.nil_append, Nat.sub_self, reduceIte, ↓reduceIte, isNon, LIM_eq, and_self, List.map_append, List.length_map, Int.toNat_natCast, Nat.zero_le, Nat.reduceLeDiff, Int.reduceNeg, Int.reduceLE, Int.reduceLT, Int.zero_add, ran1_int, ran2_int, noEx, eq_self, dI, dP, dPs]
  by_cases hodd : l.length % 2 = 1
  · unfold minusOk at hm
    rw [if_pos hodd] at hm q39
    simp only [Bool.and_eq_true, decide_eq_true_eq] at hm
    obtain ⟨⟨⟨⟨⟨⟨⟨j1, j2⟩, j3⟩, j4⟩, j5⟩, j6⟩, j7⟩, j8⟩ := hm
    cases hsc : scan n 0 (wN n) 300 1 0 with
    | none => rw [hsc] at j8; cases j8
    | some r =>
      rw [hsc] at j8
      have e := m_least_eq (N := N) (C := -1) (M := 300) (g := g) hn (by omega) (.inl rfl) hN rfl rfl (by decide) hsc
      have s39 : S_law_39 [.un, .d tokD, x2, x3, x4, x5, x6, x7, x8, x9, x10, x11, .d (.int N), .d (.int W), x14, .d (dI l), x16, x17, .d (.int p.1), .d (.int p.2), x20, x21, x22] g = .nx [.un, .d tokD, x2, x3, x4, x5, x6, x7, x8, x9, x10, .d (.tuple [.int q.1, .int q.2]), .d (.int N), .d (.int W), x14, .d (dI l), x16, x17, .d (.int p.1), .d (.int p.2), x20, x21, x22] g := by
        simp (disch := omega) only [S_law_39, q39, eV_ap, eC_ap, eBin_ap, eNeg_ap, tVal_ap, eIsN_ap, eNotN_ap, eChain_ap, tAndF_ap, tOrF_ap, tNotF_ap, tTru_ap, eAnd_ap, eOr_ap, eNot_ap, eIf_ap, aNil_ap, aCons_ap, eTup_ap, eLst_ap, oNone_ap, oSome_ap, eSl_ap, eCall_ap, iLst_ap, iTpl_ap, iRan2_apN, eOf_ap, oLst_ap, oCat_ap, oRep_ap, oSl_ap, oList_ap, oComp_ap, tYesF_ap, sNil_ap, sSeq_th, sBrk_ap, sCnt_ap, sExpr_ap, sRet_ap, sRetN_ap, sIf_ap, sSet_ap, sSetO_ap, sAsg_ap, sPar_ap, sPar3_ap, sAug_ap, sApp_ap, sExt_ap, sSetIx_ap, sFrz_ap, eIxO_ap, eLenO_ap, eIxA_ap, eLenA_ap, vOf_ap, vCons_ap, vOwn_ap, sTup_ap, iSeq_ap, sRaise_ap, sTry_ap, eExF_ap, tIfF_ap, eRev_ap, eRevF_ap, th_nx, th_rt, th_bk, th_ct, th_exc, bind_ok, bind_exc, go_ok, go_exc, opAdd_int, opSub_int, opMul_a, opMul_b, opDiv_pos, opDiv_wide, opMod_pos, opI_int, opEq_int, opNe_int, opEq_bool, opNe_bool, atI_0, atI_1, atI_2, atI_3, opIx_list, opIx_tuple, iRan1_ap, bLen_list, bLen_tuple, bInt_int, bAbs_int, bName, bNil, bCons, bTup, List.getElem?_cons_zero, List.getElem?_cons_succ, List.set_cons_zero, List.set_cons_succ, List.length_cons, List.length_nil, noTok, if_true, if_false, decide_true, decide_false, Bool.not_true, Bool.not_false, setAll, List.map_cons, List.map_nil, truD, Bool.true_eq_false, Bool.false_eq_true, Option.bind_some, true_and, and_true, List.replicate, startR, List.cons_append, List.nil_append, Nat.sub_self, reduceIte, ↓reduceIte, isNon, LIM_eq, and_self, List.map_append, List.length_map, Int.toNat_natCast, Nat.zero_le, Nat.reduceLeDiff, Int.reduceNeg, Int.reduceLE, Int.reduceLT, Int.zero_add, ran1_int, ran2_int, noEx, eq_self, dI, dP, dPs]
      have s40 : S_law_40 [.un, .d tokD, x2, x3, x4, x5, x6, x7, x8, x9, x10, .d (.tuple [.int q.1, .int q.2]), .d (.int N), .d (.int W), x14, .d (dI l), x16, x17, .d (.int p.1), .d (.int p.2), x20, x21, x22] g = .nx [.un, .d tokD, x2, x3, x4, x5, x6, x7, x8, x9, x10, .d (.tuple [.int q.1, .int q.2]), .d (.int N), .d (.int W), x14, .d (dI l), x16, x17, .d (.int p.1), .d (.int p.2), x20, x21, x22] g := by
        simp (disch := omega) only [S_law_40, show ¬ (l.length : Int) % 2 = 0 by omega, beq_self_eq_true, eV_ap, eC_ap, eBin_ap, eNeg_ap, tVal_ap, eIsN_ap, eNotN_ap, eChain_ap, tAndF_ap, tOrF_ap, tNotF_ap, tTru_ap, eAnd_ap, eOr_ap, eNot_ap, eIf_ap, aNil_ap, aCons_ap, eTup_ap, eLst_ap, oNone_ap, oSome_ap, eSl_ap, eCall_ap, iLst_ap, iTpl_ap, iRan2_apN, eOf_ap, oLst_ap, oCat_ap, oRep_ap, oSl_ap, oList_ap, oComp_ap, tYesF_ap, sNil_ap, sSeq_th, sBrk_ap, sCnt_ap, sExpr_ap, sRet_ap, sRetN_ap, sIf_ap, sSet_ap, sSetO_ap, sAsg_ap, sPar_ap, sPar3_ap, sAug_ap, sApp_ap, sExt_ap, sSetIx_ap, sFrz_ap, eIxO_ap, eLenO_ap, eIxA_ap, eLenA_ap, vOf_ap, vCons_ap, vOwn_ap, sTup_ap, iSeq_ap, sRaise_ap, sTry_ap, eExF_ap, tIfF_ap, eRev_ap, eRevF_ap, th_nx, th_rt, th_bk, th_ct, th_exc, bind_ok, bind_exc, go_ok, go_exc, opAdd_int, opSub_int, opMul_a, opMul_b, opDiv_pos, opDiv_wide, opMod_pos, opI_int, opEq_int, opNe_int, opEq_bool, opNe_bool, atI_0, atI_1, atI_2, atI_3, opIx_list, opIx_tuple, iRan1_ap, bLen_list, bLen_tuple, bInt_int, bAbs_int, bName, bNil, bCons, bTup, List.getElem?_cons_zero, List.getElem?_cons_succ, List.set_cons_zero, List.set_cons_succ, List.length_cons, List.length_nil, noTok, if_true, if_false, decide_true, decide_false, Bool.not_true, Bool.not_false, setAll, List.map_cons, List.map_nil, truD, Bool.true_eq_false, Bool.false_eq_true, Option.bind_some, true_and, and_true, List.replicate, startR, List.cons_append, List.nil_append, Nat.sub_self, reduceIte, ↓reduceIte, isNon, LIM_eq, and_self, List.map_append, List.length_map, Int.toNat_natCast, Nat.zero_le, Nat.reduceLeDiff, Int.reduceNeg, Int.reduceLE, Int.reduceLT, Int.zero_add, ran1_int, ran2_int, noEx, eq_self, dI, dP, dPs]
      have s42 : S_law_42 [.un, .d tokD, x2, x3, x4, x5, x6, x7, x8, x9, x10, .d (.tuple [.int q.1, .int q.2]), .d (.int N), .d (.int W), x14, .d (dI l), x16, x17, .d (.int p.1), .d (.int p.2), x20, x21, x22] g = .nx [.un, .d tokD, x2, x3, x4, x5, x6, x7, x8, x9, x10, .d (.tuple [.int q.1, .int q.2]), .d (.int N), .d (.int W), x14, .d (dI l), x16, x17, .d (.int p.1), .d (.int p.2), x20, .d (optP r), x22] g := by
        simp (disch := omega) only [S_law_42, e, eV_ap, eC_ap, eBin_ap, eNeg_ap, tVal_ap, eIsN_ap, eNotN_ap, eChain_ap, tAndF_ap, tOrF_ap, tNotF_ap, tTru_ap, eAnd_ap, eOr_ap, eNot_ap, eIf_ap, aNil_ap, aCons_ap, eTup_ap, eLst_ap, oNone_ap, oSome_ap, eSl_ap, eCall_ap, iLst_ap, iTpl_ap, iRan2_apN, eOf_ap, oLst_ap, oCat_ap, oRep_ap, oSl_ap, oList_ap, oComp_ap, tYesF_ap, sNil_ap, sSeq_th, sBrk_ap, sCnt_ap, sExpr_ap, sRet_ap, sRetN_ap, sIf_ap, sSet_ap, sSetO_ap, sAsg_ap, sPar_ap, sPar3_ap, sAug_ap, sApp_ap, sExt_ap, sSetIx_ap, sFrz_ap, eIxO_ap, eLenO_ap, eIxA_ap, eLenA_ap, vOf_ap, vCons_ap, vOwn_ap, sTup_ap, iSeq_ap, sRaise_ap, sTry_ap, eExF_ap, tIfF_ap, eRev_ap, eRevF_ap, th_nx, th_rt, th_bk, th_ct, th_exc, bind_ok, bind_exc, go_ok, go_exc, opAdd_int, opSub_int, opMul_a, opMul_b, opDiv_pos, opDiv_wide, opMod_pos, opI_int, opEq_int, opNe_int, opEq_bool, opNe_bool, atI_0, atI_1, atI_2, atI_3, opIx_list, opIx_tuple, iRan1_ap, bLen_list, bLen_tuple, bInt_int, bAbs_int, bName, bNil, bCons, bTup, List.getElem?_cons_zero, List.getElem?_cons_succ, List.set_cons_zero, List.set_cons_succ, List.length_cons, List.length_nil, noTok, if_true, if_false, decide_true, decide_false, Bool.not_true, Bool.not_false, setAll, List.map_cons, List.map_nil, truD, Bool.true_eq_false, Bool.false_eq_true, Option.bind_some, true_and, and_true, List.replicate, startR, List.cons_append, List.nil_append, Nat.sub_self, reduceIte, ↓reduceIte, isNon, LIM_eq, and_self, List.map_append, List.length_map, Int.toNat_natCast, Nat.zero_le, Nat.reduceLeDiff, Int.reduceNeg, Int.reduceLE, Int.reduceLT, Int.zero_add, ran1_int, ran2_int, noEx, eq_self, dI, dP, dPs]
      have s43 : S_law_43 [.un, .d tokD, x2, x3, x4, x5, x6, x7, x8, x9, x10, .d (.tuple [.int q.1, .int q.2]), .d (.int N), .d (.int W), x14, .d (dI l), x16, x17, .d (.int p.1), .d (.int p.2), x20, .d (optP r), x22] g = .nx [.un, .d tokD, x2, x3, x4, x5, x6, x7, x8, x9, x10, .d (.tuple [.int q.1, .int q.2]), .d (.int N), .d (.int W), x14, .d (dI l), x16, x17, .d (.int p.1), .d (.int p.2), x20, .d (optP r), x22] g := by
        simp (disch := omega) only [S_law_43, opMul_ok j1, opMul_ok j2, j4, eV_ap, eC_ap, eBin_ap, eNeg_ap, tVal_ap, eIsN_ap, eNotN_ap, eChain_ap, tAndF_ap, tOrF_ap, tNotF_ap, tTru_ap, eAnd_ap, eOr_ap, eNot_ap, eIf_ap, aNil_ap, aCons_ap, eTup_ap, eLst_ap, oNone_ap, oSome_ap, eSl_ap, eCall_ap, iLst_ap, iTpl_ap, iRan2_apN, eOf_ap, oLst_ap, oCat_ap, oRep_ap, oSl_ap, oList_ap, oComp_ap, tYesF_ap, sNil_ap, sSeq_th, sBrk_ap, sCnt_ap, sExpr_ap, sRet_ap, sRetN_ap, sIf_ap, sSet_ap, sSetO_ap, sAsg_ap, sPar_ap, sPar3_ap, sAug_ap, sApp_ap, sExt_ap, sSetIx_ap, sFrz_ap, eIxO_ap, eLenO_ap, eIxA_ap, eLenA_ap, vOf_ap, vCons_ap, vOwn_ap, sTup_ap, iSeq_ap, sRaise_ap, sTry_ap, eExF_ap, tIfF_ap, eRev_ap, eRevF_ap, th_nx, th_rt, th_bk, th_ct, th_exc, bind_ok, bind_exc, go_ok, go_exc, opAdd_int, opSub_int, opMul_a, opMul_b, opDiv_pos, opDiv_wide, opMod_pos, opI_int, opEq_int, opNe_int, opEq_bool, opNe_bool, atI_0, atI_1, atI_2, atI_3, opIx_list, opIx_tuple, iRan1_ap, bLen_list, bLen_tuple, bInt_int, bAbs_int, bName, bNil, bCons, bTup, List.getElem?_cons_zero, List.getElem?_cons_succ, List.set_cons_zero, List.set_cons_succ, List.length_cons, List.length_nil, noTok, if_true, if_false, decide_true, decide_false, Bool.not_true, Bool.not_false, setAll, List.map_cons, List.map_nil, truD, Bool.true_eq_false, Bool.false_eq_true, Option.bind_some, true_and, and_true, List.replicate, startR, List.cons_append, List.nil_append, Nat.sub_self, reduceIte, ↓reduceIte, isNon, LIM_eq, and_self, List.map_append, List.length_map, Int.toNat_natCast, Nat.zero_le, Nat.reduceLeDiff, Int.reduceNeg, Int.reduceLE, Int.reduceLT, Int.zero_add, ran1_int, ran2_int, noEx, eq_self, dI, dP, dPs]
      have s45 : S_law_45 [.un, .d tokD, x2, x3, x4, x5, x6, x7, x8, x9, x10, .d (.tuple [.int q.1, .int q.2]), .d (.int N), .d (.int W), x14, .d (dI l), x16, x17, .d (.int p.1), .d (.int p.2), x20, .d (optP r), x22] g = .nx [.un, .d tokD, x2, x3, x4, x5, x6, x7, x8, x9, x10, .d (.tuple [.int q.1, .int q.2]), .d (.int N), .d (.int W), x14, .d (dI l), x16, x17, .d (.int p.1), .d (.int p.2), x20, .d (optP r), x22] g := by
        by_cases h5 : q.2 < 300
        · have j8 : r = some (q.1.toNat, q.2.toNat) := by
            simp only [h5, if_true] at j8
            exact of_decide_eq_true j8
          have e2 : optP r = .tuple [.int q.1, .int q.2] := by
            rw [j8]
            exact castP_toNat j5 j6
          rw [e2]
          simp (disch := omega) only [S_law_45, h5, opNe_dP, eV_ap, eC_ap, eBin_ap, eNeg_ap, tVal_ap, eIsN_ap, eNotN_ap, eChain_ap, tAndF_ap, tOrF_ap, tNotF_ap, tTru_ap, eAnd_ap, eOr_ap, eNot_ap, eIf_ap, aNil_ap, aCons_ap, eTup_ap, eLst_ap, oNone_ap, oSome_ap, eSl_ap, eCall_ap, iLst_ap, iTpl_ap, iRan2_apN, eOf_ap, oLst_ap, oCat_ap, oRep_ap, oSl_ap, oList_ap, oComp_ap, tYesF_ap, sNil_ap, sSeq_th, sBrk_ap, sCnt_ap, sExpr_ap, sRet_ap, sRetN_ap, sIf_ap, sSet_ap, sSetO_ap, sAsg_ap, sPar_ap, sPar3_ap, sAug_ap, sApp_ap, sExt_ap, sSetIx_ap, sFrz_ap, eIxO_ap, eLenO_ap, eIxA_ap, eLenA_ap, vOf_ap, vCons_ap, vOwn_ap, sTup_ap, iSeq_ap, sRaise_ap, sTry_ap, eExF_ap, tIfF_ap, eRev_ap, eRevF_ap, th_nx, th_rt, th_bk, th_ct, th_exc, bind_ok, bind_exc, go_ok, go_exc, opAdd_int, opSub_int, opMul_a, opMul_b, opDiv_pos, opDiv_wide, opMod_pos, opI_int, opEq_int, opNe_int, opEq_bool, opNe_bool, atI_0, atI_1, atI_2, atI_3, opIx_list, opIx_tuple, iRan1_ap, bLen_list, bLen_tuple, bInt_int, bAbs_int, bName, bNil, bCons, bTup, List.getElem?_cons_zero, List.getElem?_cons_succ, List.set_cons_zero, List.set_cons_succ, List.length_cons, List.length_nil, noTok, if_true, if_false, decide_true, decide_false, Bool.not_true, Bool.not_false, setAll, List.map_cons, List.map_nil, truD, Bool.true_eq_false, Bool.false_eq_true, Option.bind_some, true_and, and_true, List.replicate, startR, List.cons_append, List.nil_append, Nat.sub_self, reduceIte, ↓reduceIte, isNon, LIM_eq, and_self, List.map_append, List.length_map, Int.toNat_natCast, Nat.zero_le, Nat.reduceLeDiff, Int.reduceNeg, Int.reduceLE, Int.reduceLT, Int.zero_add, ran1_int, ran2_int, noEx, eq_self, dI, dP, dPs]
        · simp (disch := omega) only [S_law_45, h5, eV_ap, eC_ap, eBin_ap, eNeg_ap, tVal_ap, eIsN_ap, eNotN_ap, eChain_ap, tAndF_ap, tOrF_ap, tNotF_ap, tTru_ap, eAnd_ap, eOr_ap, eNot_ap, eIf_ap, aNil_ap, aCons_ap, eTup_ap, eLst_ap, oNone_ap, oSome_ap, eSl_ap, eCall_ap, iLst_ap, iTpl_ap, iRan2_apN, eOf_ap, oLst_ap, oCat_ap, oRep_ap, oSl_ap, oList_ap, oComp_ap, tYesF_ap, sNil_ap, sSeq_th, sBrk_ap, sCnt_ap, sExpr_ap, sRet_ap, sRetN_ap, sIf_ap, sSet_ap, sSetO_ap, sAsg_ap, sPar_ap, sPar3_ap, sAug_ap, sApp_ap, sExt_ap, sSetIx_ap, sFrz_ap, eIxO_ap, eLenO_ap, eIxA_ap, eLenA_ap, vOf_ap, vCons_ap, vOwn_ap, sTup_ap, iSeq_ap, sRaise_ap, sTry_ap, eExF_ap, tIfF_ap, eRev_ap, eRevF_ap, th_nx, th_rt, th_bk, th_ct, th_exc, bind_ok, bind_exc, go_ok, go_exc, opAdd_int, opSub_int, opMul_a, opMul_b, opDiv_pos, opDiv_wide, opMod_pos, opI_int, opEq_int, opNe_int, opEq_bool, opNe_bool, atI_0, atI_1, atI_2, atI_3, opIx_list, opIx_tuple, iRan1_ap, bLen_list, bLen_tuple, bInt_int, bAbs_int, bName, bNil, bCons, bTup, List.getElem?_cons_zero, List.getElem?_cons_succ, List.set_cons_zero, List.set_cons_succ, List.length_cons, List.length_nil, noTok, if_true, if_false, decide_true, decide_false, Bool.not_true, Bool.not_false, setAll, List.map_cons, List.map_nil, truD, Bool.true_eq_false, Bool.false_eq_true, Option.bind_some, true_and, and_true, List.replicate, startR, List.cons_append, List.nil_append, Nat.sub_self, reduceIte, ↓reduceIte, isNon, LIM_eq, and_self, List.map_append, List.length_map, Int.toNat_natCast, Nat.zero_le, Nat.reduceLeDiff, Int.reduceNeg, Int.reduceLE, Int.reduceLT, Int.zero_add, ran1_int, ran2_int, noEx, eq_self, dI, dP, dPs]
      have s47 : S_law_47 [.un, .d tokD, x2, x3, x4, x5, x6, x7, x8, x9, x10, .d (.tuple [.int q.1, .int q.2]), .d (.int N), .d (.int W), x14, .d (dI l), x16, x17, .d (.int p.1), .d (.int p.2), x20, .d (optP r), x22] g = .nx [.un, .d tokD, x2, x3, x4, x5, x6, x7, x8, x9, x10, .d (.tuple [.int q.1, .int q.2]), .d (.int N), .d (.int W), x14, .d (dI l), x16, x17, .d (.int p.1), .d (.int p.2), x20, .d (optP r), x22] g := by
        have j7a : q.1 * q.1 + N * q.2 * q.2 = p.1 := congrArg Prod.fst j7
        have j7b : 2 * q.1 * q.2 = p.2 := congrArg Prod.snd j7
        simp (disch := omega) only [S_law_47, opMul_ok j1, opMul_ok j2, opMul_ok j3, j7a, j7b, opNe_dP, eV_ap, eC_ap, eBin_ap, eNeg_ap, tVal_ap, eIsN_ap, eNotN_ap, eChain_ap, tAndF_ap, tOrF_ap, tNotF_ap, tTru_ap, eAnd_ap, eOr_ap, eNot_ap, eIf_ap, aNil_ap, aCons_ap, eTup_ap, eLst_ap, oNone_ap, oSome_ap, eSl_ap, eCall_ap, iLst_ap, iTpl_ap, iRan2_apN, eOf_ap, oLst_ap, oCat_ap, oRep_ap, oSl_ap, oList_ap, oComp_ap, tYesF_ap, sNil_ap, sSeq_th, sBrk_ap, sCnt_ap, sExpr_ap, sRet_ap, sRetN_ap, sIf_ap, sSet_ap, sSetO_ap, sAsg_ap, sPar_ap, sPar3_ap, sAug_ap, sApp_ap, sExt_ap, sSetIx_ap, sFrz_ap, eIxO_ap, eLenO_ap, eIxA_ap, eLenA_ap, vOf_ap, vCons_ap, vOwn_ap, sTup_ap, iSeq_ap, sRaise_ap, sTry_ap, eExF_ap, tIfF_ap, eRev_ap, eRevF_ap, th_nx, th_rt, th_bk, th_ct, th_exc, bind_ok, bind_exc, go_ok, go_exc, opAdd_int, opSub_int, opMul_a, opMul_b, opDiv_pos, opDiv_wide, opMod_pos, opI_int, opEq_int, opNe_int, opEq_bool, opNe_bool, atI_0, atI_1, atI_2, atI_3, opIx_list, opIx_tuple, iRan1_ap, bLen_list, bLen_tuple, bInt_int, bAbs_int, bName, bNil, bCons, bTup, List.getElem?_cons_zero, List.getElem?_cons_succ, List.set_cons_zero, List.set_cons_succ, List.length_cons, List.length_nil, noTok, if_true, if_false, decide_true, decide_false, Bool.not_true, Bool.not_false, setAll, List.map_cons, List.map_nil, truD, Bool.true_eq_false, Bool.false_eq_true, Option.bind_some, true_and, and_true, List.replicate, startR, List.cons_append, List.nil_append, Nat.sub_self, reduceIte, ↓reduceIte, isNon, LIM_eq, and_self, List.map_append, List.length_map, Int.toNat_natCast, Nat.zero_le, Nat.reduceLeDiff, Int.reduceNeg, Int.reduceLE, Int.reduceLT, Int.zero_add, ran1_int, ran2_int, noEx, eq_self, dI, dP, dPs]
      exact ⟨_, seq_nx s36 (seq_nx s37 (seq_nx s39 (seq_nx s40 (seq_nx s42 (seq_nx s43 (seq_nx s45 s47)))))), _, _, _, _, _, _, _, _, _, _, _, _, _, _, _, _, _, _, _, _, _, rfl⟩
  · unfold minusOk at hm
    rw [if_neg hodd] at hm q39
    have e := m_least_eq (N := N) (C := -1) (M := 300) (g := g) hn (by omega) (.inl rfl) hN rfl rfl (by decide) (of_decide_eq_true hm)
    have e : m__law_least [.int N, .int (-1), .int 300] g = .ok .none g := e
    have s39 : S_law_39 [.un, .d tokD, x2, x3, x4, x5, x6, x7, x8, x9, x10, x11, .d (.int N), .d (.int W), x14, .d (dI l), x16, x17, .d (.int p.1), .d (.int p.2), x20, x21, x22] g = .nx [.un, .d tokD, x2, x3, x4, x5, x6, x7, x8, x9, x10, .d .none, .d (.int N), .d (.int W), x14, .d (dI l), x16, x17, .d (.int p.1), .d (.int p.2), x20, x21, x22] g := by
      simp (disch := omega) only [S_law_39, q39, eV_ap, eC_ap, eBin_ap, eNeg_ap, tVal_ap, eIsN_ap, eNotN_ap, eChain_ap, tAndF_ap, tOrF_ap, tNotF_ap, tTru_ap, eAnd_ap, eOr_ap, eNot_ap, eIf_ap, aNil_ap, aCons_ap, eTup_ap, eLst_ap, oNone_ap, oSome_ap, eSl_ap, eCall_ap, iLst_ap, iTpl_ap, iRan2_apN, eOf_ap, oLst_ap, oCat_ap, oRep_ap, oSl_ap, oList_ap, oComp_ap, tYesF_ap, sNil_ap, sSeq_th, sBrk_ap, sCnt_ap, sExpr_ap, sRet_ap, sRetN_ap, sIf_ap, sSet_ap, sSetO_ap, sAsg_ap, sPar_ap, sPar3_ap, sAug_ap, sApp_ap, sExt_ap, sSetIx_ap, sFrz_ap, eIxO_ap, eLenO_ap, eIxA_ap, eLenA_ap, vOf_ap, vCons_ap, vOwn_ap, sTup_ap, iSeq_ap, sRaise_ap, sTry_ap, eExF_ap, tIfF_ap, eRev_ap, eRevF_ap, th_nx, th_rt, th_bk, th_ct, th_exc, bind_ok, bind_exc, go_ok, go_exc, opAdd_int, opSub_int, opMul_a, opMul_b, opDiv_pos, opDiv_wide, opMod_pos, opI_int, opEq_int, opNe_int, opEq_bool, opNe_bool, atI_0, atI_1, atI_2, atI_3, opIx_list, opIx_tuple, iRan1_ap, bLen_list, bLen_tuple, bInt_int, bAbs_int, bName, bNil, bCons, bTup, List.getElem?_cons_zero, List.getElem?_cons_succ, List.set_cons_zero, List.set_cons_succ, List.length_cons, List.length_nil, noTok, if_true, if_false, decide_true, decide_false, Bool.not_true, Bool.not_false, setAll, List.map_cons, List.map_nil, truD, Bool.true_eq_false, Bool.false_eq_true, Option.bind_some, true_and, and_true, List.replicate, startR, List.cons_append, List.nil_append, Nat.sub_self, reduceIte, ↓reduceIte, isNon, LIM_eq, and_self, List.map_append, List.length_map, Int.toNat_natCast, Nat.zero_le, Nat.reduceLeDiff, Int.reduceNeg, Int.reduceLE, Int.reduceLT, Int.zero_add, ran1_int, ran2_int, noEx, eq_self, dI, dP, dPs]
    have s40 : S_law_40 [.un, .d tokD, x2, x3, x4, x5, x6, x7, x8, x9, x10, .d .none, .d (.int N), .d (.int W), x14, .d (dI l), x16, x17, .d (.int p.1), .d (.int p.2), x20, x21, x22] g = .nx [.un, .d tokD, x2, x3, x4, x5, x6, x7, x8, x9, x10, .d .none, .d (.int N), .d (.int W), x14, .d (dI l), x16, x17, .d (.int p.1), .d (.int p.2), x20, x21, x22] g := by
      simp (disch := omega) only [S_law_40, show (l.length : Int) % 2 = 0 by omega, beq_self_eq_true, eV_ap, eC_ap, eBin_ap, eNeg_ap, tVal_ap, eIsN_ap, eNotN_ap, eChain_ap, tAndF_ap, tOrF_ap, tNotF_ap, tTru_ap, eAnd_ap, eOr_ap, eNot_ap, eIf_ap, aNil_ap, aCons_ap, eTup_ap, eLst_ap, oNone_ap, oSome_ap, eSl_ap, eCall_ap, iLst_ap, iTpl_ap, iRan2_apN, eOf_ap, oLst_ap, oCat_ap, oRep_ap, oSl_ap, oList_ap, oComp_ap, tYesF_ap, sNil_ap, sSeq_th, sBrk_ap, sCnt_ap, sExpr_ap, sRet_ap, sRetN_ap, sIf_ap, sSet_ap, sSetO_ap, sAsg_ap, sPar_ap, sPar3_ap, sAug_ap, sApp_ap, sExt_ap, sSetIx_ap, sFrz_ap, eIxO_ap, eLenO_ap, eIxA_ap, eLenA_ap, vOf_ap, vCons_ap, vOwn_ap, sTup_ap, iSeq_ap, sRaise_ap, sTry_ap, eExF_ap, tIfF_ap, eRev_ap, eRevF_ap, th_nx, th_rt, th_bk, th_ct, th_exc, bind_ok, bind_exc, go_ok, go_exc, opAdd_int, opSub_int, opMul_a, opMul_b, opDiv_pos, opDiv_wide, opMod_pos, opI_int, opEq_int, opNe_int, opEq_bool, opNe_bool, atI_0, atI_1, atI_2, atI_3, opIx_list, opIx_tuple, iRan1_ap, bLen_list, bLen_tuple, bInt_int, bAbs_int, bName, bNil, bCons, bTup, List.getElem?_cons_zero, List.getElem?_cons_succ, List.set_cons_zero, List.set_cons_succ, List.length_cons, List.length_nil, noTok, if_true, if_false, decide_true, decide_false, Bool.not_true, Bool.not_false, setAll, List.map_cons, List.map_nil, truD, Bool.true_eq_false, Bool.false_eq_true, Option.bind_some, true_and, and_true, List.replicate, startR, List.cons_append, List.nil_append, Nat.sub_self, reduceIte, ↓reduceIte, isNon, LIM_eq, and_self, List.map_append, List.length_map, Int.toNat_natCast, Nat.zero_le, Nat.reduceLeDiff, Int.reduceNeg, Int.reduceLE, Int.reduceLT, Int.zero_add, ran1_int, ran2_int, noEx, eq_self, dI, dP, dPs]
    have s42 : S_law_42 [.un, .d tokD, x2, x3, x4, x5, x6, x7, x8, x9, x10, .d .none, .d (.int N), .d (.int W), x14, .d (dI l), x16, x17, .d (.int p.1), .d (.int p.2), x20, x21, x22] g = .nx [.un, .d tokD, x2, x3, x4, x5, x6, x7, x8, x9, x10, .d .none, .d (.int N), .d (.int W), x14, .d (dI l), x16, x17, .d (.int p.1), .d (.int p.2), x20, .d .none, x22] g := by
      simp (disch := omega) only [S_law_42, e, eV_ap, eC_ap, eBin_ap, eNeg_ap, tVal_ap, eIsN_ap, eNotN_ap, eChain_ap, tAndF_ap, tOrF_ap, tNotF_ap, tTru_ap, eAnd_ap, eOr_ap, eNot_ap, eIf_ap, aNil_ap, aCons_ap, eTup_ap, eLst_ap, oNone_ap, oSome_ap, eSl_ap, eCall_ap, iLst_ap, iTpl_ap, iRan2_apN, eOf_ap, oLst_ap, oCat_ap, oRep_ap, oSl_ap, oList_ap, oComp_ap, tYesF_ap, sNil_ap, sSeq_th, sBrk_ap, sCnt_ap, sExpr_ap, sRet_ap, sRetN_ap, sIf_ap, sSet_ap, sSetO_ap, sAsg_ap, sPar_ap, sPar3_ap, sAug_ap, sApp_ap, sExt_ap, sSetIx_ap, sFrz_ap, eIxO_ap, eLenO_ap, eIxA_ap, eLenA_ap, vOf_ap, vCons_ap, vOwn_ap, sTup_ap, iSeq_ap, sRaise_ap, sTry_ap, eExF_ap, tIfF_ap, eRev_ap, eRevF_ap, th_nx, th_rt, th_bk, th_ct, th_exc, bind_ok, bind_exc, go_ok, go_exc, opAdd_int, opSub_int, opMul_a, opMul_b, opDiv_pos, opDiv_wide, opMod_pos, opI_int, opEq_int, opNe_int, opEq_bool, opNe_bool, atI_0, atI_1, atI_2, atI_3, opIx_list, opIx_tuple, iRan1_ap, bLen_list, bLen_tuple, bInt_int, bAbs_int, bName, bNil, bCons, bTup, List.getElem?_cons_zero, List.getElem?_cons_succ, List.set_cons_zero, List.set_cons_succ, List.length_cons, List.length_nil, noTok, if_true, if_false, decide_true, decide_false, Bool.not_true, Bool.not_false, setAll, List.map_cons, List.map_nil, truD, Bool.true_eq_false, Bool.false_eq_true, Option.bind_some, true_and, and_true, List.replicate, startR, List.cons_append, List.nil_append, Nat.sub_self, reduceIte, ↓reduceIte, isNon, LIM_eq, and_self, List.map_append, List.length_map, Int.toNat_natCast, Nat.zero_le, Nat.reduceLeDiff, Int.reduceNeg, Int.reduceLE, Int.reduceLT, Int.zero_add, ran1_int, ran2_int, noEx, eq_self, dI, dP, dPs]
    have s43 : S_law_43 [.un, .d tokD, x2, x3, x4, x5, x6, x7, x8, x9, x10, .d .none, .d (.int N), .d (.int W), x14, .d (dI l), x16, x17, .d (.int p.1), .d (.int p.2), x20, .d .none, x22] g = .nx [.un, .d tokD, x2, x3, x4, x5, x6, x7, x8, x9, x10, .d .none, .d (.int N), .d (.int W), x14, .d (dI l), x16, x17, .d (.int p.1), .d (.int p.2), x20, .d .none, x22] g := by
      simp (disch := omega) only [S_law_43, eV_ap, eC_ap, eBin_ap, eNeg_ap, tVal_ap, eIsN_ap, eNotN_ap, eChain_ap, tAndF_ap, tOrF_ap, tNotF_ap, tTru_ap, eAnd_ap, eOr_ap, eNot_ap, eIf_ap, aNil_ap, aCons_ap, eTup_ap, eLst_ap, oNone_ap, oSome_ap, eSl_ap, eCall_ap, iLst_ap, iTpl_ap, iRan2_apN, eOf_ap, oLst_ap, oCat_ap, oRep_ap, oSl_ap, oList_ap, oComp_ap, tYesF_ap, sNil_ap, sSeq_th, sBrk_ap, sCnt_ap, sExpr_ap, sRet_ap, sRetN_ap, sIf_ap, sSet_ap, sSetO_ap, sAsg_ap, sPar_ap, sPar3_ap, sAug_ap, sApp_ap, sExt_ap, sSetIx_ap, sFrz_ap, eIxO_ap, eLenO_ap, eIxA_ap, eLenA_ap, vOf_ap, vCons_ap, vOwn_ap, sTup_ap, iSeq_ap, sRaise_ap, sTry_ap, eExF_ap, tIfF_ap, eRev_ap, eRevF_ap, th_nx, th_rt, th_bk, th_ct, th_exc, bind_ok, bind_exc, go_ok, go_exc, opAdd_int, opSub_int, opMul_a, opMul_b, opDiv_pos, opDiv_wide, opMod_pos, opI_int, opEq_int, opNe_int, opEq_bool, opNe_bool, atI_0, atI_1, atI_2, atI_3, opIx_list, opIx_tuple, iRan1_ap, bLen_list, bLen_tuple, bInt_int, bAbs_int, bName, bNil, bCons, bTup, List.getElem?_cons_zero, List.getElem?_cons_succ, List.set_cons_zero, List.set_cons_succ, List.length_cons, List.length_nil, noTok, if_true, if_false, decide_true, decide_false, Bool.not_true, Bool.not_false, setAll, List.map_cons, List.map_nil, truD, Bool.true_eq_false, Bool.false_eq_true, Option.bind_some, true_and, and_true, List.replicate, startR, List.cons_append, List.nil_append, Nat.sub_self, reduceIte, ↓reduceIte, isNon, LIM_eq, and_self, List.map_append, List.length_map, Int.toNat_natCast, Nat.zero_le, Nat.reduceLeDiff, Int.reduceNeg, Int.reduceLE, Int.reduceLT, Int.zero_add, ran1_int, ran2_int, noEx, eq_self, dI, dP, dPs]
    have s45 : S_law_45 [.un, .d tokD, x2, x3, x4, x5, x6, x7, x8, x9, x10, .d .none, .d (.int N), .d (.int W), x14, .d (dI l), x16, x17, .d (.int p.1), .d (.int p.2), x20, .d .none, x22] g = .nx [.un, .d tokD, x2, x3, x4, x5, x6, x7, x8, x9, x10, .d .none, .d (.int N), .d (.int W), x14, .d (dI l), x16, x17, .d (.int p.1), .d (.int p.2), x20, .d .none, x22] g := by
      simp (disch := omega) only [S_law_45, eV_ap, eC_ap, eBin_ap, eNeg_ap, tVal_ap, eIsN_ap, eNotN_ap, eChain_ap, tAndF_ap, tOrF_ap, tNotF_ap, tTru_ap, eAnd_ap, eOr_ap, eNot_ap, eIf_ap, aNil_ap, aCons_ap, eTup_ap, eLst_ap, oNone_ap, oSome_ap, eSl_ap, eCall_ap, iLst_ap, iTpl_ap, iRan2_apN, eOf_ap, oLst_ap, oCat_ap, oRep_ap, oSl_ap, oList_ap, oComp_ap, tYesF_ap, sNil_ap, sSeq_th, sBrk_ap, sCnt_ap, sExpr_ap, sRet_ap, sRetN_ap, sIf_ap, sSet_ap, sSetO_ap, sAsg_ap, sPar_ap, sPar3_ap, sAug_ap, sApp_ap, sExt_ap, sSetIx_ap, sFrz_ap, eIxO_ap, eLenO_ap, eIxA_ap, eLenA_ap, vOf_ap, vCons_ap, vOwn_ap, sTup_ap, iSeq_ap, sRaise_ap, sTry_ap, eExF_ap, tIfF_ap, eRev_ap, eRevF_ap, th_nx, th_rt, th_bk, th_ct, th_exc, bind_ok, bind_exc, go_ok, go_exc, opAdd_int, opSub_int, opMul_a, opMul_b, opDiv_pos, opDiv_wide, opMod_pos, opI_int, opEq_int, opNe_int, opEq_bool, opNe_bool, atI_0, atI_1, atI_2, atI_3, opIx_list, opIx_tuple, iRan1_ap, bLen_list, bLen_tuple, bInt_int, bAbs_int, bName, bNil, bCons, bTup, List.getElem?_cons_zero, List.getElem?_cons_succ, List.set_cons_zero, List.set_cons_succ, List.length_cons, List.length_nil, noTok, if_true, if_false, decide_true, decide_false, Bool.not_true, Bool.not_false, setAll, List.map_cons, List.map_nil, truD, Bool.true_eq_false, Bool.false_eq_true, Option.bind_some, true_and, and_true, List.replicate, startR, List.cons_append, List.nil_append, Nat.sub_self, reduceIte, ↓reduceIte, isNon, LIM_eq, and_self, List.map_append, List.length_map, Int.toNat_natCast, Nat.zero_le, Nat.reduceLeDiff, Int.reduceNeg, Int.reduceLE, Int.reduceLT, Int.zero_add, ran1_int, ran2_int, noEx, eq_self, dI, dP, dPs]
    have s47 : S_law_47 [.un, .d tokD, x2, x3, x4, x5, x6, x7, x8, x9, x10, .d .none, .d (.int N), .d (.int W), x14, .d (dI l), x16, x17, .d (.int p.1), .d (.int p.2), x20, .d .none, x22] g = .nx [.un, .d tokD, x2, x3, x4, x5, x6, x7, x8, x9, x10, .d .none, .d (.int N), .d (.int W), x14, .d (dI l), x16, x17, .d (.int p.1), .d (.int p.2), x20, .d .none, x22] g := by
      simp (disch := omega) only [S_law_47, eV_ap, eC_ap, eBin_ap, eNeg_ap, tVal_ap, eIsN_ap, eNotN_ap, eChain_ap, tAndF_ap, tOrF_ap, tNotF_ap, tTru_ap, eAnd_ap, eOr_ap, eNot_ap, eIf_ap, aNil_ap, aCons_ap, eTup_ap, eLst_ap, oNone_ap, oSome_ap, eSl_ap, eCall_ap, iLst_ap, iTpl_ap, iRan2_apN, eOf_ap, oLst_ap, oCat_ap, oRep_ap, oSl_ap, oList_ap, oComp_ap, tYesF_ap, sNil_ap, sSeq_th, sBrk_ap, sCnt_ap, sExpr_ap, sRet_ap, sRetN_ap, sIf_ap, sSet_ap, sSetO_ap, sAsg_ap, sPar_ap, sPar3_ap, sAug_ap, sApp_ap, sExt_ap, sSetIx_ap, sFrz_ap, eIxO_ap, eLenO_ap, eIxA_ap, eLenA_ap, vOf_ap, vCons_ap, vOwn_ap, sTup_ap, iSeq_ap, sRaise_ap, sTry_ap, eExF_ap, tIfF_ap, eRev_ap, eRevF_ap, th_nx, th_rt, th_bk, th_ct, th_exc, bind_ok, bind_exc, go_ok, go_exc, opAdd_int, opSub_int, opMul_a, opMul_b, opDiv_pos, opDiv_wide, opMod_pos, opI_int, opEq_int, opNe_int, opEq_bool, opNe_bool, atI_0, atI_1, atI_2, atI_3, opIx_list, opIx_tuple, iRan1_ap, bLen_list, bLen_tuple, bInt_int, bAbs_int, bName, bNil, bCons, bTup, List.getElem?_cons_zero, List.getElem?_cons_succ, List.set_cons_zero, List.set_cons_succ, List.length_cons, List.length_nil, noTok, if_true, if_false, decide_true, decide_false, Bool.not_true, Bool.not_false, setAll, List.map_cons, List.map_nil, truD, Bool.true_eq_false, Bool.false_eq_true, Option.bind_some, true_and, and_true, List.replicate, startR, List.cons_append, List.nil_append, Nat.sub_self, reduceIte, ↓reduceIte, isNon, LIM_eq, and_self, List.map_append, List.length_map, Int.toNat_natCast, Nat.zero_le, Nat.reduceLeDiff, Int.reduceNeg, Int.reduceLE, Int.reduceLT, Int.zero_add, ran1_int, ran2_int, noEx, eq_self, dI, dP, dPs]
    exact ⟨_, seq_nx s36 (seq_nx s37 (seq_nx s39 (seq_nx s40 (seq_nx s42 (seq_nx s43 (seq_nx s45 s47)))))), _, _, _, _, _, _, _, _, _, _, _, _, _, _, _, _, _, _, _, _, _, rfl⟩
end K45
namespace K45
open PySem
open PySem.Spec
open PyProof.Rows
open L2
open DL
theorem turn_all (g : G) (x2 x3 x4 x5 x6 x7 x8 x9 x10 x11 x12 x13 x14 x15 x16 x17 x18 x19 x20 x21 x22 : SV) : ∃ ρ g', (B_law_1 [.un, .d tokD, x2, x3, x4, x5, x6, x7, x8, x9, x10, x11, x12, x13, x14, x15, x16, x17, x18, x19, x20, x21, x22] g = .nx ρ g' ∨ B_law_1 [.un, .d tokD, x2, x3, x4, x5, x6, x7, x8, x9, x10, x11, x12, x13, x14, x15, x16, x17, x18, x19, x20, x21, x22] g = .ct ρ g') ∧ ∃ y2 y3 y4 y5 y6 y7 y8 y9 y10 y11 y12 y13 y14 y15 y16 y17 y18 y19 y20 y21 y22, ρ = [.un, .d tokD, y2, y3, y4, y5, y6, y7, y8, y9, y10, y11, y12, y13, y14, y15, y16, y17, y18, y19, y20, y21, y22] := by
  obtain ⟨most, a, b, W, sh, rows, g1, h1, h2, h3, h4, hW, hs, hr, ka⟩ := turn_a g x2 x3 x4 x5 x6 x7 x8 x9 x10 x11 x12 x13 x14 x15 x16 x17 x18 x19 x20 x21 x22
  have kb := turn_b g1 x2 x3 x4 x5 x6 x7 x8 x9 x10 x11 x12 x13 x14 x15 x16 x17 x18 x19 x20 x21 x22 (most := most) h1 h2 h3 h4 hW hs hr
  obtain ⟨f0, fs, g2, kc⟩ := turn_c g1 x2 (.d (.int most)) (.d (.int a)) (.d (.int b)) (.d (dI W)) (.d (.int sh)) (.d (dPs rows)) x9 x10 x11 x12 x13 x14 x15 x16 x17 x18 x19 x20 x21 x22
  obtain ⟨n, N, V, g3, n1, n2, hN, N1, N2, V1, V2, V3, V4, hV, kd⟩ := turn_d g2 x2 (.d (.int most)) (.d (.int a)) (.d (.int b)) (.d (dI W)) (.d (.int sh)) (.d (dPs rows)) x9 (.d (dI (f0 :: fs))) (.d (dP (partOf (f0 :: fs)))) x12 x13 x14 x15 x16 x17 x18 x19 x20 x21 x22
  rcases hV with hsq | ⟨hlt, l, hrc, T⟩
  · have s19 := turn_sq g3 x2 (.d (.int most)) (.d (.int a)) (.d (.int b)) (.d (dI W)) (.d (.int sh)) (.d (dPs rows)) x9 (.d (dI (f0 :: fs))) (.d (dP (partOf (f0 :: fs)))) (.d (.int N)) (.d (.int V)) x14 x15 x16 x17 x18 x19 x20 x21 x22 N1 N2 V1 V2 hsq
    have hB : B_law_1 [.un, .d tokD, x2, x3, x4, x5, x6, x7, x8, x9, x10, x11, x12, x13, x14, x15, x16, x17, x18, x19, x20, x21, x22] g = .ct [.un, .d tokD, x2, .d (.int most), .d (.int a), .d (.int b), .d (dI W), .d (.int sh), .d (dPs rows), x9, .d (dI (f0 :: fs)), .d (dP (partOf (f0 :: fs))), .d (.int N), .d (.int V), x14, x15, x16, x17, x18, x19, x20, x21, x22] g3 := ka _ _ (kb _ _ (kc _ _ (kd _ _ (by
      rw [sSeq_th, s19]
      rfl))))
    exact ⟨_, g3, .inr hB, _, _, _, _, _, _, _, _, _, _, _, _, _, _, _, _, _, _, _, _, _, rfl⟩
  · have s19 := turn_n19 g3 x2 (.d (.int most)) (.d (.int a)) (.d (.int b)) (.d (dI W)) (.d (.int sh)) (.d (dPs rows)) x9 (.d (dI (f0 :: fs))) (.d (dP (partOf (f0 :: fs)))) (.d (.int N)) (.d (.int V)) x14 x15 x16 x17 x18 x19 x20 x21 x22 V1 V2 (N := N) (W := V) (by omega)
    obtain ⟨M, m, rows2, wide, g4, hM, m1, m2, hrw, ke⟩ := turn_e g3 x2 (.d (.int most)) (.d (.int a)) (.d (.int b)) (.d (dI W)) (.d (.int sh)) (.d (dPs rows)) x9 (.d (dI (f0 :: fs))) (.d (dP (partOf (f0 :: fs)))) (.d (.int N)) (.d (.int V)) x14 x15 x16 x17 x18 x19 x20 x21 x22 N1 N2 V1 V2 hrc T
    obtain ⟨y9, y18, y19, y20, kf⟩ := turn_f g4 x2 (.d (.int most)) (.d (.int a)) (.d (.int b)) (.d (dI W)) (.d (.int sh)) (.d (dPs rows2)) x9 (.d (dI (f0 :: fs))) (.d (dP (partOf (f0 :: fs)))) (.d (.int N)) (.d (.int V)) (.d (.int V)) (.d (dI l)) (.d (.int M)) (.d (dI wide)) x18 x19 x20 x21 x22 N1 N2 V1 V2 T hM m1 m2 hrw
    obtain ⟨ρ, kg, hρ⟩ := turn_g g4 x2 (.d (.int most)) (.d (.int a)) (.d (.int b)) (.d (dI W)) (.d (.int sh)) (.d (dPs rows2)) y9 (.d (dI (f0 :: fs))) (.d (dP (partOf (f0 :: fs)))) (.d (.int N)) (.d (.int V)) (.d (.int V)) (.d (dI l)) (.d (.int M)) (.d (dI wide)) y18 y19 y20 x21 x22 n1 n2 hN V1 V2 hrc T
    exact ⟨ρ, g4, .inl (ka _ _ (kb _ _ (kc _ _ (kd _ _ (seq_nx s19 (ke _ _ (seq_nx kf kg))))))), hρ⟩
theorem ends (g : G) (ρ : RS) : S_law_49 ρ g = .rt (.bool true) g := by
  have e1 : m_chain [.int 0, .int 1] g = .ok (.list [.int 0]) g := by
    rw [m_chain_eq (by decide) (by decide), chn_pos (by decide), show (0 : Int) / 1 = 0 by decide, show (0 : Int) % 1 = 0 by decide, chn_zero]
    rfl
  have e2 : m_part_of [.list [.int 3]] g = .ok (.tuple [.int 3, .int 1]) g := m_part_of_eq (w := [3]) (by decide) (by decide)
  have c3 : m_root_chain [.int 61] g = .ok (.tuple [.int 7, dI [1, 4, 3, 1, 2, 2, 1, 3, 4, 1, 14]]) g := m_root_chain_eq (by decide) (by decide) (by decide) (by decide) (by decide) (by decide +kernel)
  have e3 : m_pell [.int 61] g = .ok (.tuple [.int 1766319049, .int 226153980]) g := by
    rw [m_pell_eq c3 (by decide) (by decide) (by decide) (by decide), show partOf (7 :: cyc [1, 4, 3, 1, 2, 2, 1, 3, 4, 1, 14] (manyOf [1, 4, 3, 1, 2, 2, 1, 3, 4, 1, 14] - 1)) = (1766319049, 226153980) by decide +kernel]
  have c4 : m_root_chain [.int 2] g = .ok (.tuple [.int 1, dI [2]]) g := m_root_chain_eq (by decide) (by decide) (by decide) (by decide) (by decide) (by decide +kernel)
  have e4 : m_minus_pell [.int 2] g = .ok (.tuple [.int 1, .int 1]) g := by
    rw [m_minus_pell_eq c4 (by decide) (by decide) (by decide) (by decide)]
    rfl
  have q1 : opEq (.list [.int 0]) (.list [.int 0]) g = .ok (.bool true) g := opEq_dI (a := [0]) (b := [0])
  simp (disch := omega) only [S_law_49, e1, e2, e3, e4, q1, opEq_dP, eV_ap, eC_ap, eBin_ap, eNeg_ap, tVal_ap, eIsN_ap, eNotN_ap, eChain_ap, tAndF_ap, tOrF_ap, tNotF_ap, tTru_ap, eAnd_ap, eOr_ap, eNot_ap, eIf_ap, aNil_ap, aCons_ap, eTup_ap, eLst_ap, oNone_ap, oSome_ap, eSl_ap, eCall_ap, iLst_ap, iTpl_ap, iRan2_apN, eOf_ap, oLst_ap, oCat_ap, oRep_ap, oSl_ap, oList_ap, oComp_ap, tYesF_ap, sNil_ap, sSeq_th, sBrk_ap, sCnt_ap, sExpr_ap, sRet_ap, sRetN_ap, sIf_ap, sSet_ap, sSetO_ap, sAsg_ap, sPar_ap, sPar3_ap, sAug_ap, sApp_ap, sExt_ap, sSetIx_ap, sFrz_ap, eIxO_ap, eLenO_ap, eIxA_ap, eLenA_ap, vOf_ap, vCons_ap, vOwn_ap, sTup_ap, iSeq_ap, sRaise_ap, sTry_ap, eExF_ap, tIfF_ap, eRev_ap, eRevF_ap, th_nx, th_rt, th_bk, th_ct, th_exc, bind_ok, bind_exc, go_ok, go_exc, opAdd_int, opSub_int, opMul_a, opMul_b, opDiv_pos, opDiv_wide, opMod_pos, opI_int, opEq_int, opNe_int, opEq_bool, opNe_bool, atI_0, atI_1, atI_2, atI_3, opIx_list, opIx_tuple, iRan1_ap, bLen_list, bLen_tuple, bInt_int, bAbs_int, bName, bNil, bCons, bTup, List.getElem?_cons_zero, List.getElem?_cons_succ, List.set_cons_zero, List.set_cons_succ, List.length_cons, List.length_nil, noTok, if_true, if_false, decide_true, decide_false, Bool.not_true, Bool.not_false, setAll, List.map_cons, List.map_nil, truD, Bool.true_eq_false, Bool.false_eq_true, Option.bind_some, true_and, and_true, List.replicate, startR, List.cons_append, List.nil_append, Nat.sub_self, reduceIte, ↓reduceIte, isNon, LIM_eq, and_self, List.map_append, List.length_map, Int.toNat_natCast, Nat.zero_le, Nat.reduceLeDiff, Int.reduceNeg, Int.reduceLE, Int.reduceLT, Int.zero_add, ran1_int, ran2_int, noEx, eq_self, dI, dP, dPs]
theorem law_math : LawMath := by
  intro cells hc
  obtain ⟨ρ1, g1, _, hf⟩ := sFor_run (fi := iRan1 (aCons (eC (.int 4)) aNil)) (b := bName 2) (f := B_law_1) (items := upTo 0 4) (g := (0, cells)) (g1 := (0, cells)) (ρ := .un :: .d tokD :: List.replicate 21 .un)
    (fun i ρ g => ∃ y2 y3 y4 y5 y6 y7 y8 y9 y10 y11 y12 y13 y14 y15 y16 y17 y18 y19 y20 y21 y22, ρ = [.un, .d tokD, y2, y3, y4, y5, y6, y7, y8, y9, y10, y11, y12, y13, y14, y15, y16, y17, y18, y19, y20, y21, y22]) (by simp (disch := omega) only [eV_ap, eC_ap, eBin_ap, eNeg_ap, tVal_ap, eIsN_ap, eNotN_ap, eChain_ap, tAndF_ap, tOrF_ap, tNotF_ap, tTru_ap, eAnd_ap, eOr_ap, eNot_ap, eIf_ap, aNil_ap, aCons_ap, eTup_ap, eLst_ap, oNone_ap, oSome_ap, eSl_ap, eCall_ap, iLst_ap, iTpl_ap, iRan2_apN, eOf_ap, oLst_ap, oCat_ap, oRep_ap, oSl_ap, oList_ap, oComp_ap, tYesF_ap, sNil_ap, sSeq_th, sBrk_ap, sCnt_ap, sExpr_ap, sRet_ap, sRetN_ap, sIf_ap, sSet_ap, sSetO_ap, sAsg_ap, sPar_ap, sPar3_ap, sAug_ap, sApp_ap, sExt_ap, sSetIx_ap, sFrz_ap, eIxO_ap, eLenO_ap, eIxA_ap, eLenA_ap, vOf_ap, vCons_ap, vOwn_ap, sTup_ap, iSeq_ap, sRaise_ap, sTry_ap, eExF_ap, tIfF_ap, eRev_ap, eRevF_ap, th_nx, th_rt, th_bk, th_ct, th_exc, bind_ok, bind_exc, go_ok, go_exc, opAdd_int, opSub_int, opMul_a, opMul_b, opDiv_pos, opDiv_wide, opMod_pos, opI_int, opEq_int, opNe_int, opEq_bool, opNe_bool, atI_0, atI_1, atI_2, atI_3, opIx_list, opIx_tuple, iRan1_ap, bLen_list, bLen_tuple, bInt_int, bAbs_int, bName, bNil, bCons, bTup, List.getElem?_cons_zero, List.getElem?_cons_succ, List.set_cons_zero, List.set_cons_succ, List.length_cons, List.length_nil, noTok, if_true, if_false, decide_true, decide_false, Bool.not_true, Bool.not_false, setAll, List.map_cons, List.map_nil, truD, Bool.true_eq_false, Bool.false_eq_true, Option.bind_some, true_and, and_true, startR, List.cons_append, List.nil_append, Nat.sub_self, reduceIte, ↓reduceIte, isNon, LIM_eq, and_self, List.map_append, List.length_map, Int.toNat_natCast, Nat.zero_le, Nat.reduceLeDiff, Int.reduceNeg, Int.reduceLE, Int.reduceLT, Int.zero_add, ran1_int, ran2_int, noEx, eq_self, dI, dP, dPs]; rfl) ⟨_, _, _, _, _, _, _, _, _, _, _, _, _, _, _, _, _, _, _, _, _, rfl⟩ (by
      rintro i hi ρ g ⟨y2, y3, y4, y5, y6, y7, y8, y9, y10, y11, y12, y13, y14, y15, y16, y17, y18, y19, y20, y21, y22, rfl⟩
      obtain ⟨ρ2, g2, h1, h2⟩ := turn_all g ((.d ((upTo 0 4)[i]))) y3 y4 y5 y6 y7 y8 y9 y10 y11 y12 y13 y14 y15 y16 y17 y18 y19 y20 y21 y22
      exact ⟨_, ρ2, g2, rfl, h1, h2⟩)
  exact ⟨g1, seq_nx (show S_law_1 _ _ = _ from hf) (ends g1 ρ1)⟩
end K45
namespace K45
open PySem
open PySem.Spec
open PyProof.Rows
open L2
open DL
theorem all_mk (hmath : LawMath) {P : Program} {w : World} {K : PySem.W.Frag} {h : Heap} {mg : Str → Option Value} {fa : Addr} (X : K.In h) (G : h.Ns mainGlobals mg) (hfa : mg "law" = some (.ref fa))
    {f0 : Addr} {ocf0 kVf0 dcf0 pmf0 cdf0 ctf0 : Value} {odf0 anf0 : Option Addr} {slf0 : Array (Option Value)}
    {f1 : Addr} {ocf1 kVf1 dcf1 pmf1 cdf1 ctf1 : Value} {odf1 anf1 : Option Addr} {slf1 : Array (Option Value)}
    {f2 : Addr} {ocf2 kVf2 dcf2 pmf2 cdf2 ctf2 : Value} {odf2 anf2 : Option Addr} {slf2 : Array (Option Value)}
    {f3 : Addr} {ocf3 kVf3 dcf3 pmf3 cdf3 ctf3 : Value} {odf3 anf3 : Option Addr} {slf3 : Array (Option Value)}
    {f4 : Addr} {ocf4 kVf4 dcf4 pmf4 cdf4 ctf4 : Value} {odf4 anf4 : Option Addr} {slf4 : Array (Option Value)}
    {f5 : Addr} {ocf5 kVf5 dcf5 pmf5 cdf5 ctf5 : Value} {odf5 anf5 : Option Addr} {slf5 : Array (Option Value)}
    {f6 : Addr} {ocf6 kVf6 dcf6 pmf6 cdf6 ctf6 : Value} {odf6 anf6 : Option Addr} {slf6 : Array (Option Value)}
    {f7 : Addr} {ocf7 kVf7 dcf7 pmf7 cdf7 ctf7 : Value} {odf7 anf7 : Option Addr} {slf7 : Array (Option Value)}
    {f8 : Addr} {ocf8 kVf8 dcf8 pmf8 cdf8 ctf8 : Value} {odf8 anf8 : Option Addr} {slf8 : Array (Option Value)}
    {f9 : Addr} {ocf9 kVf9 dcf9 pmf9 cdf9 ctf9 : Value} {odf9 anf9 : Option Addr} {slf9 : Array (Option Value)}
    {f10 : Addr} {ocf10 kVf10 dcf10 pmf10 cdf10 ctf10 : Value} {odf10 anf10 : Option Addr} {slf10 : Array (Option Value)}
    {f11 : Addr} {ocf11 kVf11 dcf11 pmf11 cdf11 ctf11 : Value} {odf11 anf11 : Option Addr} {slf11 : Array (Option Value)}
    {f12 : Addr} {ocf12 kVf12 dcf12 pmf12 cdf12 ctf12 : Value} {odf12 anf12 : Option Addr} {slf12 : Array (Option Value)}
    {f13 : Addr} {ocf13 kVf13 dcf13 pmf13 cdf13 ctf13 : Value} {odf13 anf13 : Option Addr} {slf13 : Array (Option Value)}
    {f14 : Addr} {ocf14 kVf14 dcf14 pmf14 cdf14 ctf14 : Value} {odf14 anf14 : Option Addr} {slf14 : Array (Option Value)}
    {f15 : Addr} {ocf15 kVf15 dcf15 pmf15 cdf15 ctf15 : Value} {odf15 anf15 : Option Addr} {slf15 : Array (Option Value)}
    {f16 : Addr} {ocf16 kVf16 dcf16 pmf16 cdf16 ctf16 : Value} {odf16 anf16 : Option Addr} {slf16 : Array (Option Value)}
    {f17 : Addr} {ocf17 kVf17 dcf17 pmf17 cdf17 ctf17 : Value} {odf17 anf17 : Option Addr} {slf17 : Array (Option Value)}
    {CMisstep fiCMisstep ccCMisstep cdaCMisstep : Addr} {nmCMisstep qCMisstep : Str} {NCMisstep : Addr} {bsCMisstep bmCMisstep : List Value} {snCMisstep : List Str} {subCMisstep : List Value} {abCMisstep : Bool} {colCMisstep : Option Bool} {ddCMisstep : Option Addr} {m0CMisstep m1CMisstep m2CMisstep m3CMisstep m5CMisstep : Option Value}
    {ocxCMisstep kVxCMisstep docxCMisstep pmxCMisstep ctxCMisstep : Value} {odxCMisstep anxCMisstep : Option Addr} {oslxCMisstep : Array (Option Value)} {cclCMisstep : Value} {cddCMisstep : Option Addr} {vsCMisstep : Array Value} {ccsCMisstep : Array (Option Value)} {fileCMisstep : Str} {tfCMisstep : Tok} {clCMisstep : Value} {cldCMisstep : Option Addr} {cslCMisstep : Array (Option Value)} {cdCMisstep : ClassData}
    (af0 : PySem.W.nsIn K mainGlobals "root" = some (some (.ref f0)))
    (lf0 : K.lookup f0 = some ⟨ocf0, odf0, .func (PySem.W.fnOf "root" "root" (defArgs s_root) (defBody s_root) (defScope s_root) .none kVf0 dcf0 pmf0 anf0 cdf0 ctf0), slf0⟩)
    (cf0 : PySem.W.codeIn K cdf0 "root" = true)
    (kf0 : PySem.W.keepIn K (.ref f0) = true)
    (af1 : PySem.W.nsIn K mainGlobals "is_square" = some (some (.ref f1)))
    (lf1 : K.lookup f1 = some ⟨ocf1, odf1, .func (PySem.W.fnOf "is_square" "is_square" (defArgs s_is_square) (defBody s_is_square) (defScope s_is_square) .none kVf1 dcf1 pmf1 anf1 cdf1 ctf1), slf1⟩)
    (cf1 : PySem.W.codeIn K cdf1 "is_square" = true)
    (kf1 : PySem.W.keepIn K (.ref f1) = true)
    (af2 : PySem.W.nsIn K mainGlobals "chain" = some (some (.ref f2)))
    (lf2 : K.lookup f2 = some ⟨ocf2, odf2, .func (PySem.W.fnOf "chain" "chain" (defArgs s_chain) (defBody s_chain) (defScope s_chain) .none kVf2 dcf2 pmf2 anf2 cdf2 ctf2), slf2⟩)
    (cf2 : PySem.W.codeIn K cdf2 "chain" = true)
    (kf2 : PySem.W.keepIn K (.ref f2) = true)
    (af3 : PySem.W.nsIn K mainGlobals "part_of" = some (some (.ref f3)))
    (lf3 : K.lookup f3 = some ⟨ocf3, odf3, .func (PySem.W.fnOf "part_of" "part_of" (defArgs s_part_of) (defBody s_part_of) (defScope s_part_of) .none kVf3 dcf3 pmf3 anf3 cdf3 ctf3), slf3⟩)
    (cf3 : PySem.W.codeIn K cdf3 "part_of" = true)
    (kf3 : PySem.W.keepIn K (.ref f3) = true)
    (af4 : PySem.W.nsIn K mainGlobals "parts_along" = some (some (.ref f4)))
    (lf4 : K.lookup f4 = some ⟨ocf4, odf4, .func (PySem.W.fnOf "parts_along" "parts_along" (defArgs s_parts_along) (defBody s_parts_along) (defScope s_parts_along) .none kVf4 dcf4 pmf4 anf4 cdf4 ctf4), slf4⟩)
    (cf4 : PySem.W.codeIn K cdf4 "parts_along" = true)
    (kf4 : PySem.W.keepIn K (.ref f4) = true)
    (af5 : PySem.W.nsIn K mainGlobals "root_chain" = some (some (.ref f5)))
    (lf5 : K.lookup f5 = some ⟨ocf5, odf5, .func (PySem.W.fnOf "root_chain" "root_chain" (defArgs s_root_chain) (defBody s_root_chain) (defScope s_root_chain) .none kVf5 dcf5 pmf5 anf5 cdf5 ctf5), slf5⟩)
    (cf5 : PySem.W.codeIn K cdf5 "root_chain" = true)
    (kf5 : PySem.W.keepIn K (.ref f5) = true)
    (af6 : PySem.W.nsIn K mainGlobals "root_parts" = some (some (.ref f6)))
    (lf6 : K.lookup f6 = some ⟨ocf6, odf6, .func (PySem.W.fnOf "root_parts" "root_parts" (defArgs s_root_parts) (defBody s_root_parts) (defScope s_root_parts) .none kVf6 dcf6 pmf6 anf6 cdf6 ctf6), slf6⟩)
    (cf6 : PySem.W.codeIn K cdf6 "root_parts" = true)
    (kf6 : PySem.W.keepIn K (.ref f6) = true)
    (af7 : PySem.W.nsIn K mainGlobals "pell" = some (some (.ref f7)))
    (lf7 : K.lookup f7 = some ⟨ocf7, odf7, .func (PySem.W.fnOf "pell" "pell" (defArgs s_pell) (defBody s_pell) (defScope s_pell) .none kVf7 dcf7 pmf7 anf7 cdf7 ctf7), slf7⟩)
    (cf7 : PySem.W.codeIn K cdf7 "pell" = true)
    (kf7 : PySem.W.keepIn K (.ref f7) = true)
    (af8 : PySem.W.nsIn K mainGlobals "minus_pell" = some (some (.ref f8)))
    (lf8 : K.lookup f8 = some ⟨ocf8, odf8, .func (PySem.W.fnOf "minus_pell" "minus_pell" (defArgs s_minus_pell) (defBody s_minus_pell) (defScope s_minus_pell) .none kVf8 dcf8 pmf8 anf8 cdf8 ctf8), slf8⟩)
    (cf8 : PySem.W.codeIn K cdf8 "minus_pell" = true)
    (kf8 : PySem.W.keepIn K (.ref f8) = true)
    (af9 : PySem.W.nsIn K mainGlobals "_law_state" = some (some (.ref f9)))
    (lf9 : K.lookup f9 = some ⟨ocf9, odf9, .func (PySem.W.fnOf "_law_state" "_law_state" (defArgs s__law_state) (defBody s__law_state) (defScope s__law_state) .none kVf9 dcf9 pmf9 anf9 cdf9 ctf9), slf9⟩)
    (cf9 : PySem.W.codeIn K cdf9 "_law_state" = true)
    (kf9 : PySem.W.keepIn K (.ref f9) = true)
    (af10 : PySem.W.nsIn K mainGlobals "_law_take" = some (some (.ref f10)))
    (lf10 : K.lookup f10 = some ⟨ocf10, odf10, .func (PySem.W.fnOf "_law_take" "_law_take" (defArgs s__law_take) (defBody s__law_take) (defScope s__law_take) .none kVf10 dcf10 pmf10 anf10 cdf10 ctf10), slf10⟩)
    (cf10 : PySem.W.codeIn K cdf10 "_law_take" = true)
    (kf10 : PySem.W.keepIn K (.ref f10) = true)
    (af11 : PySem.W.nsIn K mainGlobals "_law_pick" = some (some (.ref f11)))
    (lf11 : K.lookup f11 = some ⟨ocf11, odf11, .func (PySem.W.fnOf "_law_pick" "_law_pick" (defArgs s__law_pick) (defBody s__law_pick) (defScope s__law_pick) .none kVf11 dcf11 pmf11 anf11 cdf11 ctf11), slf11⟩)
    (cf11 : PySem.W.codeIn K cdf11 "_law_pick" = true)
    (kf11 : PySem.W.keepIn K (.ref f11) = true)
    (af12 : PySem.W.nsIn K mainGlobals "_law_root" = some (some (.ref f12)))
    (lf12 : K.lookup f12 = some ⟨ocf12, odf12, .func (PySem.W.fnOf "_law_root" "_law_root" (defArgs s__law_root) (defBody s__law_root) (defScope s__law_root) .none kVf12 dcf12 pmf12 anf12 cdf12 ctf12), slf12⟩)
    (cf12 : PySem.W.codeIn K cdf12 "_law_root" = true)
    (kf12 : PySem.W.keepIn K (.ref f12) = true)
    (af13 : PySem.W.nsIn K mainGlobals "_law_divisor" = some (some (.ref f13)))
    (lf13 : K.lookup f13 = some ⟨ocf13, odf13, .func (PySem.W.fnOf "_law_divisor" "_law_divisor" (defArgs s__law_divisor) (defBody s__law_divisor) (defScope s__law_divisor) .none kVf13 dcf13 pmf13 anf13 cdf13 ctf13), slf13⟩)
    (cf13 : PySem.W.codeIn K cdf13 "_law_divisor" = true)
    (kf13 : PySem.W.keepIn K (.ref f13) = true)
    (af14 : PySem.W.nsIn K mainGlobals "_law_least" = some (some (.ref f14)))
    (lf14 : K.lookup f14 = some ⟨ocf14, odf14, .func (PySem.W.fnOf "_law_least" "_law_least" (defArgs s__law_least) (defBody s__law_least) (defScope s__law_least) .none kVf14 dcf14 pmf14 anf14 cdf14 ctf14), slf14⟩)
    (cf14 : PySem.W.codeIn K cdf14 "_law_least" = true)
    (kf14 : PySem.W.keepIn K (.ref f14) = true)
    (af15 : PySem.W.nsIn K mainGlobals "_law_words" = some (some (.ref f15)))
    (lf15 : K.lookup f15 = some ⟨ocf15, odf15, .func (PySem.W.fnOf "_law_words" "_law_words" (defArgs s__law_words) (defBody s__law_words) (defScope s__law_words) .none kVf15 dcf15 pmf15 anf15 cdf15 ctf15), slf15⟩)
    (cf15 : PySem.W.codeIn K cdf15 "_law_words" = true)
    (kf15 : PySem.W.keepIn K (.ref f15) = true)
    (af16 : PySem.W.nsIn K mainGlobals "_law_sides" = some (some (.ref f16)))
    (lf16 : K.lookup f16 = some ⟨ocf16, odf16, .func (PySem.W.fnOf "_law_sides" "_law_sides" (defArgs s__law_sides) (defBody s__law_sides) (defScope s__law_sides) .none kVf16 dcf16 pmf16 anf16 cdf16 ctf16), slf16⟩)
    (cf16 : PySem.W.codeIn K cdf16 "_law_sides" = true)
    (kf16 : PySem.W.keepIn K (.ref f16) = true)
    (af17 : PySem.W.nsIn K mainGlobals "law" = some (some (.ref f17)))
    (lf17 : K.lookup f17 = some ⟨ocf17, odf17, .func (PySem.W.fnOf "law" "law" (defArgs s_law) (defBody s_law) (defScope s_law) .none kVf17 dcf17 pmf17 anf17 cdf17 ctf17), slf17⟩)
    (cf17 : PySem.W.codeIn K cdf17 "law" = true)
    (kf17 : PySem.W.keepIn K (.ref f17) = true)
    (z_abs : PySem.W.nsIn K mainGlobals "abs" = some none)
    (z_int : PySem.W.nsIn K mainGlobals "int" = some none)
    (z_len : PySem.W.nsIn K mainGlobals "len" = some none)
    (z_range : PySem.W.nsIn K mainGlobals "range" = some none)
    (z_super : PySem.W.nsIn K mainGlobals "super" = some none)
    (noany : PySem.W.nsIn K PySem.cStatics "thirdparty.any" = some none)
    (aCCMisstep : PySem.W.nsIn K mainGlobals "Misstep" = some (some (.ref CMisstep)))
    (xLCMisstep : K.lookup CMisstep = some (excClassObj nmCMisstep qCMisstep CMisstep NCMisstep bsCMisstep bmCMisstep true snCMisstep subCMisstep abCMisstep colCMisstep ddCMisstep m0CMisstep m1CMisstep m2CMisstep m3CMisstep m5CMisstep "ValueError.__new__"))
    (hbmCMisstep : PySem.HandSPX.refsVE bmCMisstep = true)
    (saCMisstep : PySem.W.findIn K (.ref CMisstep) "__setattr__" = some (some (.builtin "object.__setattr__")))
    (exCCMisstep : PySem.W.subIn K (.ref CMisstep) (.type "BaseException") = some true)
    (tyCCMisstep : PySem.W.typeIn K (.ref CMisstep) = some (.type "type"))
    (kCCMisstep : PySem.W.keepIn K (.ref CMisstep) = true)
    (iniCMisstep : PySem.W.findIn K (.ref CMisstep) "__init__" = some (some (.ref fiCMisstep)))
    (tyfCMisstep : PySem.W.typeIn K (.ref fiCMisstep) = some (.type "function"))
    (lfCMisstep : K.lookup fiCMisstep = some ⟨ocxCMisstep, odxCMisstep, .func (PySem.W.ksFn "__init__" "Misstep.__init__" (defArgs si_Misstep) (defBody si_Misstep) (defScope si_Misstep) .none kVxCMisstep docxCMisstep pmxCMisstep anxCMisstep (.ref cdaCMisstep) ctxCMisstep ccCMisstep), oslxCMisstep⟩)
    (cfCMisstep : PySem.W.codeIn K (.ref cdaCMisstep) "Misstep.__init__" = true)
    (lcCMisstep : K.lookup cdaCMisstep = some ⟨cclCMisstep, cddCMisstep, .fields vsCMisstep, ccsCMisstep⟩)
    (hvCMisstep : vsCMisstep[2]? = some (.str fileCMisstep tfCMisstep))
    (hfileCMisstep : ((P.main.file : Str) == fileCMisstep) = true)
    (lcellCMisstep : K.lookup ccCMisstep = some ⟨clCMisstep, cldCMisstep, .cell (some (.ref CMisstep)), cslCMisstep⟩)
    (hclsCMisstep : PySem.W.clsIn K CMisstep = some cdCMisstep)
    (hmroCMisstep : PySem.W.mroIn K CMisstep (.ref CMisstep) = some true)
    (supCMisstep : PySem.W.ks_superIn K CMisstep CMisstep "__init__" = some (some (.builtin "ValueError.__init__")))
    (subVCMisstep : PySem.W.subIn K (.ref CMisstep) (.type "ValueError") = some true)
    (topCMisstep : (P.main.scope.names.lookup ("super" : Str)).isSome = false)
    (finCMisstep : PySem.W.findIn K (.ref CMisstep) "word" = some none)
    (gaCMisstep : PySem.W.findIn K (.ref CMisstep) "__getattribute__" = some (some (.builtin "BaseException.__getattribute__")))
    (ggCMisstep : PySem.W.findIn K (.ref CMisstep) "__getattr__" = some none)
    (hdCCMisstep : PySem.W.hasDictIn K CMisstep = true)
    (iclCMisstep : PySem.W.isClsIn K CMisstep = true)
    (sCMisstep_Misstep : PySem.W.subIn K (.ref CMisstep) (.ref CMisstep) = some true)
    : ∃ fd : FuncData, (∀ (s : Shared) (v : Value), BindsTo s fd ⟨[v], []⟩ [("script", v)]) ∧ ∀ base : Heap, K.In base → base.Ns mainGlobals mg → FnOk P w K mg base (L2.CX P w) 7 fa fd ["script"] (spLaw K) := by
  have e := hfa.symm.trans (PySem.W.mg_of X G af17)
  cases e
  let T : Top P K mg := {
    d_root := df_mk X G af0 lf0 cf0 kf0 fun _ _ _ _ _ _ us hl => match us, hl with | [_], _ => rfl
    d_is_square := df_mk X G af1 lf1 cf1 kf1 fun _ _ _ _ _ _ us hl => match us, hl with | [_], _ => rfl
    d_chain := df_mk X G af2 lf2 cf2 kf2 fun _ _ _ _ _ _ us hl => match us, hl with | [_, _], _ => rfl
    d_part_of := df_mk X G af3 lf3 cf3 kf3 fun _ _ _ _ _ _ us hl => match us, hl with | [_], _ => rfl
    d_parts_along := df_mk X G af4 lf4 cf4 kf4 fun _ _ _ _ _ _ us hl => match us, hl with | [_], _ => rfl
    d_root_chain := df_mk X G af5 lf5 cf5 kf5 fun _ _ _ _ _ _ us hl => match us, hl with | [_], _ => rfl
    d_root_parts := df_mk X G af6 lf6 cf6 kf6 fun _ _ _ _ _ _ us hl => match us, hl with | [_, _], _ => rfl
    d_pell := df_mk X G af7 lf7 cf7 kf7 fun _ _ _ _ _ _ us hl => match us, hl with | [_], _ => rfl
    d_minus_pell := df_mk X G af8 lf8 cf8 kf8 fun _ _ _ _ _ _ us hl => match us, hl with | [_], _ => rfl
    d__law_state := df_mk X G af9 lf9 cf9 kf9 fun _ _ _ _ _ _ us hl => match us, hl with | [_], _ => rfl
    d__law_take := df_mk X G af10 lf10 cf10 kf10 fun _ _ _ _ _ _ us hl => match us, hl with | [_, _], _ => rfl
    d__law_pick := df_mk X G af11 lf11 cf11 kf11 fun _ _ _ _ _ _ us hl => match us, hl with | [_, _], _ => rfl
    d__law_root := df_mk X G af12 lf12 cf12 kf12 fun _ _ _ _ _ _ us hl => match us, hl with | [_], _ => rfl
    d__law_divisor := df_mk X G af13 lf13 cf13 kf13 fun _ _ _ _ _ _ us hl => match us, hl with | [_, _], _ => rfl
    d__law_least := df_mk X G af14 lf14 cf14 kf14 fun _ _ _ _ _ _ us hl => match us, hl with | [_, _, _], _ => rfl
    d__law_words := df_mk X G af15 lf15 cf15 kf15 fun _ _ _ _ _ _ us hl => match us, hl with | [_], _ => rfl
    d__law_sides := df_mk X G af16 lf16 cf16 kf16 fun _ _ _ _ _ _ us hl => match us, hl with | [_, _, _], _ => rfl
    d_law := df_mk X G af17 lf17 cf17 kf17 fun _ _ _ _ _ _ us hl => match us, hl with | [_], _ => rfl
    b_abs := PySem.W.mg_none_of X G z_abs
    b_int := PySem.W.mg_none_of X G z_int
    b_len := PySem.W.mg_none_of X G z_len
    b_range := PySem.W.mg_none_of X G z_range
    b_super := PySem.W.mg_none_of X G z_super
    e_Misstep := ex_mk X G aCCMisstep xLCMisstep hbmCMisstep saCMisstep exCCMisstep tyCCMisstep kCCMisstep iniCMisstep tyfCMisstep lfCMisstep cfCMisstep lcCMisstep hvCMisstep hfileCMisstep lcellCMisstep hclsCMisstep hmroCMisstep supCMisstep subVCMisstep z_super noany topCMisstep finCMisstep gaCMisstep ggCMisstep hdCCMisstep fun _ _ _ _ _ _ _ us hl => match us, hl with | [_, _], _ => rfl
    x_Misstep_Misstep := exm_of exCCMisstep iclCMisstep tyCCMisstep sCMisstep_Misstep }
  exact ⟨_, fun s v => .of_eq rfl, fun base _ _ => ok_law hmath T⟩
end K45
open PySem
open PySem.W
open PyProof.Rows
theorem PySem.Challenge.cw_formsoftwo_k45_whole_chains_of_wholes_holds : PySem.Challenge.rw_formsoftwo_k45_whole_chains_of_wholes.Holds := by
  w_on; o_law; k_head; (case hw => w_witness2)
  k_fill
  refine L2.walk_of (l := PySem.Challenge.rw_formsoftwo_k45_whole_chains_of_wholes) (n := 63) (k := 7) (x := "script") (CX := fun w => L2.CX (PySem.Challenge.rw_formsoftwo_k45_whole_chains_of_wholes).prog w) (sp := fun w => DL.spLaw _) rfl (by decide) rfl ⟨rfl, by decide, by decide⟩ (fun w h Y => PySem.W.kIn_of Y) ?F (fun _ _ a ns hl _ hS => ⟨a, ns, rfl, hS, hl, fun _ => rfl⟩) (fun _ _ _ _ _ h => by obtain ⟨_, _, _, _, _, _, _, _, _, _, _, _, z⟩ := h; exact z.elim)
  case F =>
    intro w mg fa h KX G hmg
    refine' K45.all_mk K45.law_math KX G hmg ?af0 ?lf0 ?cf0 ?kf0 ?af1 ?lf1 ?cf1 ?kf1 ?af2 ?lf2 ?cf2 ?kf2 ?af3 ?lf3 ?cf3 ?kf3 ?af4 ?lf4 ?cf4 ?kf4 ?af5 ?lf5 ?cf5 ?kf5 ?af6 ?lf6 ?cf6 ?kf6 ?af7 ?lf7 ?cf7 ?kf7 ?af8 ?lf8 ?cf8 ?kf8 ?af9 ?lf9 ?cf9 ?kf9 ?af10 ?lf10 ?cf10 ?kf10 ?af11 ?lf11 ?cf11 ?kf11 ?af12 ?lf12 ?cf12 ?kf12 ?af13 ?lf13 ?cf13 ?kf13 ?af14 ?lf14 ?cf14 ?kf14 ?af15 ?lf15 ?cf15 ?kf15 ?af16 ?lf16 ?cf16 ?kf16 ?af17 ?lf17 ?cf17 ?kf17 ?z_abs ?z_int ?z_len ?z_range ?z_super ?noany ?aCCMisstep ?xLCMisstep ?hbmCMisstep ?saCMisstep ?exCCMisstep ?tyCCMisstep ?kCCMisstep ?iniCMisstep ?tyfCMisstep ?lfCMisstep ?cfCMisstep ?lcCMisstep ?hvCMisstep ?hfileCMisstep ?lcellCMisstep ?hclsCMisstep ?hmroCMisstep ?supCMisstep ?subVCMisstep ?topCMisstep ?finCMisstep ?gaCMisstep ?ggCMisstep ?hdCCMisstep ?iclCMisstep ?sCMisstep_Misstep
    (case af0 => k_is)
    (case lf0 => k_is)
    (case cf0 => k_is)
    (case kf0 => k_is)
    (case af1 => k_is)
    (case lf1 => k_is)
    (case cf1 => k_is)
    (case kf1 => k_is)
    (case af2 => k_is)
    (case lf2 => k_is)
    (case cf2 => k_is)
    (case kf2 => k_is)
    (case af3 => k_is)
    (case lf3 => k_is)
    (case cf3 => k_is)
    (case kf3 => k_is)
    (case af4 => k_is)
    (case lf4 => k_is)
    (case cf4 => k_is)
    (case kf4 => k_is)
    (case af5 => k_is)
    (case lf5 => k_is)
    (case cf5 => k_is)
    (case kf5 => k_is)
    (case af6 => k_is)
    (case lf6 => k_is)
    (case cf6 => k_is)
    (case kf6 => k_is)
    (case af7 => k_is)
    (case lf7 => k_is)
    (case cf7 => k_is)
    (case kf7 => k_is)
    (case af8 => k_is)
    (case lf8 => k_is)
    (case cf8 => k_is)
    (case kf8 => k_is)
    (case af9 => k_is)
    (case lf9 => k_is)
    (case cf9 => k_is)
    (case kf9 => k_is)
    (case af10 => k_is)
    (case lf10 => k_is)
    (case cf10 => k_is)
    (case kf10 => k_is)
    (case af11 => k_is)
    (case lf11 => k_is)
    (case cf11 => k_is)
    (case kf11 => k_is)
    (case af12 => k_is)
    (case lf12 => k_is)
    (case cf12 => k_is)
    (case kf12 => k_is)
    (case af13 => k_is)
    (case lf13 => k_is)
    (case cf13 => k_is)
    (case kf13 => k_is)
    (case af14 => k_is)
    (case lf14 => k_is)
    (case cf14 => k_is)
    (case kf14 => k_is)
    (case af15 => k_is)
    (case lf15 => k_is)
    (case cf15 => k_is)
    (case kf15 => k_is)
    (case af16 => k_is)
    (case lf16 => k_is)
    (case cf16 => k_is)
    (case kf16 => k_is)
    (case af17 => k_is)
    (case lf17 => k_is)
    (case cf17 => k_is)
    (case kf17 => k_is)
    (case z_abs => k_is)
    (case z_int => k_is)
    (case z_len => k_is)
    (case z_range => k_is)
    (case z_super => k_is)
    (case noany => k_is)
    (case aCCMisstep => k_is)
    (case xLCMisstep => k_is)
    (case hbmCMisstep => decide +kernel)
    (case saCMisstep => k_is)
    (case exCCMisstep => k_is)
    (case tyCCMisstep => k_is)
    (case kCCMisstep => k_is)
    (case iniCMisstep => k_is)
    (case tyfCMisstep => k_is)
    (case lfCMisstep => k_is)
    (case cfCMisstep => k_is)
    (case lcCMisstep => k_is)
    (case hvCMisstep => first | rfl | decide +kernel)
    (case hfileCMisstep => first | rfl | decide +kernel)
    (case lcellCMisstep => k_is)
    (case hclsCMisstep => k_is)
    (case hmroCMisstep => k_is)
    (case supCMisstep => ks_is)
    (case subVCMisstep => k_is)
    (case topCMisstep => first | rfl | decide +kernel)
    (case finCMisstep => k_is)
    (case gaCMisstep => k_is)
    (case ggCMisstep => k_is)
    (case hdCCMisstep => k_is)
    (case iclCMisstep => k_is)
    (case sCMisstep_Misstep => first | rfl | k_is)
